import PyProof.Rows.All
import Wide.All
import OpenK.AllK
import Wide.FinOn
import HandS.ForMost
import HandS.Wide
import HandS.Flow
import KE.KDictPairs
import HandS.TupAny
import KE.SortData
import HandS.IsInst
import HandS.HeadWalk
import HandS.MakeKwOnly
import HandS.Style
import HandS.SetKeys
import HandS.Zip
import HandS.Rev
import HandS.DictComp
import KE.OsSortAny
import HandS.More
import HandS.Defaults
import HandS.Head0
import HandS.Head1
import HandS.Head2
import HandS.HeadEnd
import HandS.HeadHook1
import HandS.HeadHook2
import HandS.HeadHook3
import HandS.HeadHook4
import PySem.Challenge.RW_faultward_k41_whole_results_go_together
set_option Elab.async false
set_option linter.all false
set_option maxRecDepth 100000
set_option maxHeartbeats 0
/-! Nv: a small evaluator for the programs' own sublanguage, over values without addresses. -/
namespace Nv
open PySem PySem.Spec PyProof.Rows L2

mutual
/-- a value: data by value (wtp: a tuple of which less is known); ref n: the n-th cell of the store; new o: an object just made, that nothing else knows -/
inductive D where
  | non | bl (b : Bool) | int (i : Int) | str (s : Str) | tup (xs : List D) | wtp (xs : List D) | ref (n : Nat) | new (o : O)
/-- a cell: a list; a list that is only read; a dict; an instance of the c-th class -/
inductive O where
  | lst (xs : List D) | frz (xs : List D) | dct (kvs : List (D × D)) | ins (c : Nat) (fs : List (Nat × D))
end
abbrev Store := List O
abbrev AEnv := List (Option D)
/-- an exception: its class (by number), its field -/
structure Exn where
  cls : Nat
  fld : Option D

inductive Rs (α : Type) where
  | ok (a : α) (S : Store)
  | ex (x : Exn) (S : Store)
  | stuck
def Rs.bind {α β : Type} : Rs α → (α → Store → Rs β) → Rs β
  | .ok a S, f => f a S
  | .ex x S, _ => .ex x S
  | .stuck, _ => .stuck

/-! ### refs below a number -/
mutual
def lowD (n : Nat) : D → Bool
  | .ref k => decide (k < n)
  | .tup xs => lowDs n xs
  | .wtp xs => lowDs n xs
  | .new o => lowO n o
  | _ => true
def lowDs (n : Nat) : List D → Bool
  | [] => true
  | x :: xs => lowD n x && lowDs n xs
def lowO (n : Nat) : O → Bool
  | .lst xs => lowDs n xs
  | .frz xs => lowDs n xs
  | .dct kvs => lowKs n kvs
  | .ins _ fs => lowFs n fs
def lowKs (n : Nat) : List (D × D) → Bool
  | [] => true
  | (k, v) :: r => lowD n k && lowD n v && lowKs n r
def lowFs (n : Nat) : List (Nat × D) → Bool
  | [] => true
  | (_, v) :: r => lowD n v && lowFs n r
end
/-! ### made objects become cells -/
mutual
def mat : D → Store → D × Store
  | .tup xs, S => let (ys, S1) := mats xs S; (.tup ys, S1)
  | .wtp xs, S => let (ys, S1) := mats xs S; (.wtp ys, S1)
  | .new o, S => let (p, S1) := matO o S; (.ref S1.length, S1 ++ [p])
  | d, S => (d, S)
def mats : List D → Store → List D × Store
  | [], S => ([], S)
  | x :: xs, S => let (y, S1) := mat x S; let (ys, S2) := mats xs S1; (y :: ys, S2)
def matO : O → Store → O × Store
  | .lst xs, S => let (ys, S1) := mats xs S; (.lst ys, S1)
  | .frz xs, S => let (ys, S1) := mats xs S; (.frz ys, S1)
  | .dct kvs, S => let (r, S1) := matKs kvs S; (.dct r, S1)
  | .ins c fs, S => let (r, S1) := matFs fs S; (.ins c r, S1)
def matKs : List (D × D) → Store → List (D × D) × Store
  | [], S => ([], S)
  | (k, v) :: r, S => let (w, S1) := mat v S; let (q, S2) := matKs r S1; ((k, w) :: q, S2)
def matFs : List (Nat × D) → Store → List (Nat × D) × Store
  | [], S => ([], S)
  | (k, v) :: r, S => let (w, S1) := mat v S; let (q, S2) := matFs r S1; ((k, w) :: q, S2)
end

/-! ### what represents what -/
structure Cxt where
  K : PySem.W.Frag
  CA : Nat → Addr
  nc : Nat
  sym : Nat → Str

/-- a tuple at a, its object without a dict of its own -/
def TupS (K : PySem.W.Frag) (H : Hp) (a : Addr) (vs : List V) : Prop :=
  (∃ o : Obj, H a = some (.frz o (.tup vs)) ∧ o.cls = .type "tuple" ∧ o.dict = none) ∨
    ∃ (o : Obj) (its : Array Value) (n : Nat), K.lookup a = some o ∧ o.cls = .type "tuple" ∧ o.dict = none ∧ o.data = .seq its n ∧ its.size ≤ sizeLine ∧ Vals vs its.toList
theorem TupS.sq {K : PySem.W.Frag} {H : Hp} {a : Addr} {vs : List V} (h : TupS K H a vs) : SqT K H a vs := by
  rcases h with ⟨o, h, _⟩ | ⟨o, its, n, h1, h2, _, h4, h5, h6⟩
  · exact .inl (.inr ⟨o, h⟩)
  · exact .inr ⟨o, its, n, h1, h2, h4, h5, h6⟩
inductive RepK : D → Key → Prop
  | int (i : Int) : RepK (.int i) (.inl i)
  | str (s : Str) : RepK (.str s) (.inr s)
mutual
inductive Rep (C : Cxt) (H : Hp) (L : List Addr) : D → V → List Addr → Prop
  | non : Rep C H L .non .non []
  | bl (b : Bool) : Rep C H L (.bl b) (.bl b) []
  | int (i : Int) : Rep C H L (.int i) (.int i) []
  | str (s : Str) : Rep C H L (.str s) (.str s) []
  | tup {xs : List D} {a : Addr} {vs : List V} {F : List Addr} : TupS C.K H a vs → Reps C H L xs vs F → Rep C H L (.tup xs) (.ref a) F
  | wtp {xs : List D} {a : Addr} {vs : List V} {F : List Addr} : SqT C.K H a vs → Reps C H L xs vs F → Rep C H L (.wtp xs) (.ref a) F
  | ref {n : Nat} {a : Addr} : L[n]? = some a → Rep C H L (.ref n) (.ref a) []
  | new {o : O} {a : Addr} {ho : HO} {F : List Addr} : H a = some ho → RepO C H L o ho F → Rep C H L (.new o) (.ref a) (a :: F)
inductive Reps (C : Cxt) (H : Hp) (L : List Addr) : List D → List V → List Addr → Prop
  | nil : Reps C H L [] [] []
  | cons {x : D} {v : V} {F : List Addr} {xs : List D} {vs : List V} {G : List Addr} : Rep C H L x v F → Reps C H L xs vs G → Reps C H L (x :: xs) (v :: vs) (F ++ G)
inductive RepKs (C : Cxt) (H : Hp) (L : List Addr) : List (D × D) → List (Key × V) → List Addr → Prop
  | nil : RepKs C H L [] [] []
  | cons {k : D} {q : Key} {x : D} {v : V} {F : List Addr} {r : List (D × D)} {s : List (Key × V)} {G : List Addr} : RepK k q → Rep C H L x v F → RepKs C H L r s G → RepKs C H L ((k, x) :: r) ((q, v) :: s) (F ++ G)
inductive RepFs (C : Cxt) (H : Hp) (L : List Addr) : List (Nat × D) → List (Str × V) → List Addr → Prop
  | nil : RepFs C H L [] [] []
  | cons {f : Nat} {x : D} {v : V} {F : List Addr} {r : List (Nat × D)} {s : List (Str × V)} {G : List Addr} : Rep C H L x v F → RepFs C H L r s G → RepFs C H L ((f, x) :: r) ((C.sym f, v) :: s) (F ++ G)
inductive RepO (C : Cxt) (H : Hp) (L : List Addr) : O → HO → List Addr → Prop
  | lst {xs : List D} {vs : List V} {F : List Addr} : Reps C H L xs vs F → RepO C H L (.lst xs) (.lst vs) F
  | dct {r : List (D × D)} {s : List (Key × V)} {F : List Addr} : RepKs C H L r s F → RepO C H L (.dct r) (.dK s) F
  | ins {c : Nat} {dx : Addr} {r : List (Nat × D)} {s : List (Str × V)} {F : List Addr} : c < C.nc → RepFs C H L r s F → RepO C H L (.ins c r) (.ins (C.CA c) dx s) F
end
/-- a cell stands at a -/
def Cell (C : Cxt) (H : Hp) (L : List Addr) (a : Addr) : O → Prop
  | .frz xs => ∃ ob vs, H a = some (.frz ob (.lst vs)) ∧ Reps C H L xs vs []
  | o => ∃ ho, H a = some ho ∧ RepO C H L o ho []
structure SimS (C : Cxt) (H : Hp) (L : List Addr) (S : Store) : Prop where
  len : L.length = S.length
  nd : L.Nodup
  cell : ∀ (n : Nat) (o : O) (a : Addr), S[n]? = some o → L[n]? = some a → Cell C H L a o
def SimE (C : Cxt) (H : Hp) (L : List Addr) (ρ : AEnv) (σ : L2.St) : Prop :=
  ρ.length ≤ σ.length ∧ ∀ (i : Nat) (d : D), ρ[i]? = some (some d) → ∃ v, σ[i]? = some (some v) ∧ Rep C H L d v []
/-- from one heap to a later one: L' has more cells at the end, new ones; what is no cell stays -/
structure Ext (H : Hp) (L : List Addr) (H' : Hp) (L' : List Addr) : Prop where
  pre : ∃ M, L' = L ++ M ∧ ∀ a ∈ M, H a = none
  frame : ∀ a o, a ∉ L → H a = some o → H' a = some o
  tups : ∀ b xs, H b = some (.tup xs) → H' b = some (.tup xs)
  frzs : ∀ b o u, H b = some (.frz o u) → H' b = some (.frz o u)
  dom : ∀ a, H' a = none → H a = none

theorem Ext.refl (H : Hp) (L : List Addr) : Ext H L H L := ⟨⟨[], by simp, by simp⟩, fun _ _ _ h => h, fun _ _ h => h, fun _ _ _ h => h, fun _ h => h⟩
theorem Ext.trans {H H1 H2 : Hp} {L L1 L2 : List Addr} (a : Ext H L H1 L1) (b : Ext H1 L1 H2 L2) : Ext H L H2 L2 := by
  obtain ⟨M1, e1, n1⟩ := a.pre
  obtain ⟨M2, e2, n2⟩ := b.pre
  refine ⟨⟨M1 ++ M2, by rw [e2, e1, List.append_assoc], fun x hx => ?_⟩, fun x o hx h => ?_, fun x xs h => b.tups x xs (a.tups x xs h), fun x o u h => b.frzs x o u (a.frzs x o u h), fun x h => a.dom x (b.dom x h)⟩
  · rcases List.mem_append.mp hx with h | h
    · exact n1 x h
    · exact a.dom x (n2 x h)
  · refine b.frame x o ?_ (a.frame x o hx h)
    rw [e1]
    intro hm
    rcases List.mem_append.mp hm with q | q
    · exact hx q
    · rw [n1 x q] at h; cases h

theorem SqT.ext {K : PySem.W.Frag} {H H' : Hp} {a : Addr} {vs : List V} (ht : ∀ b xs, H b = some (.tup xs) → H' b = some (.tup xs)) (hf : ∀ b o u, H b = some (.frz o u) → H' b = some (.frz o u)) (h : SqT K H a vs) : SqT K H' a vs := by
  rcases h with (h | ⟨o, h⟩) | h
  · exact .inl (.inl (ht _ _ h))
  · exact .inl (.inr ⟨o, hf _ _ _ h⟩)
  · exact .inr h

theorem TupS.ext {K : PySem.W.Frag} {H H' : Hp} {a : Addr} {vs : List V} (hf : ∀ b o u, H b = some (.frz o u) → H' b = some (.frz o u)) (h : TupS K H a vs) : TupS K H' a vs := by
  rcases h with ⟨o, h, r⟩ | h
  · exact .inl ⟨o, hf _ _ _ h, r⟩
  · exact .inr h
/-- what carries a representation over -/
structure Car (H : Hp) (L : List Addr) (H' : Hp) (L' : List Addr) (F : List Addr) : Prop where
  tups : ∀ b xs, H b = some (.tup xs) → H' b = some (.tup xs)
  frzs : ∀ b o u, H b = some (.frz o u) → H' b = some (.frz o u)
  pre : ∀ (n : Nat) (a : Addr), L[n]? = some a → L'[n]? = some a
  keep : ∀ a ∈ F, ∀ o, H a = some o → H' a = some o
theorem Car.sub {H H' : Hp} {L L' F G : List Addr} (c : Car H L H' L' F) (h : ∀ a ∈ G, a ∈ F) : Car H L H' L' G := ⟨c.tups, c.frzs, c.pre, fun a ha => c.keep a (h a ha)⟩
mutual
theorem Rep.car {C : Cxt} {H H' : Hp} {L L' : List Addr} : ∀ {d : D} {v : V} {F : List Addr}, Rep C H L d v F → Car H L H' L' F → Rep C H' L' d v F
  | _, _, _, .non, _ => .non
  | _, _, _, .bl b, _ => .bl b
  | _, _, _, .int i, _ => .int i
  | _, _, _, .str s, _ => .str s
  | _, _, _, .tup h r, c => .tup (TupS.ext c.frzs h) (Reps.car r c)
  | _, _, _, .wtp h r, c => .wtp (SqT.ext c.tups c.frzs h) (Reps.car r c)
  | _, _, _, .ref h, c => .ref (c.pre _ _ h)
  | _, _, _, .new (a := a) h r, c => .new (c.keep _ (List.mem_cons_self ..) _ h) (RepO.car r (c.sub fun _ hx => List.mem_cons_of_mem _ hx))
theorem Reps.car {C : Cxt} {H H' : Hp} {L L' : List Addr} : ∀ {d : List D} {v : List V} {F : List Addr}, Reps C H L d v F → Car H L H' L' F → Reps C H' L' d v F
  | _, _, _, .nil, _ => .nil
  | _, _, _, .cons r s, c => .cons (Rep.car r (c.sub fun _ hx => List.mem_append_left _ hx)) (Reps.car s (c.sub fun _ hx => List.mem_append_right _ hx))
theorem RepKs.car {C : Cxt} {H H' : Hp} {L L' : List Addr} : ∀ {d : List (D × D)} {v : List (Key × V)} {F : List Addr}, RepKs C H L d v F → Car H L H' L' F → RepKs C H' L' d v F
  | _, _, _, .nil, _ => .nil
  | _, _, _, .cons k r s, c => .cons k (Rep.car r (c.sub fun _ hx => List.mem_append_left _ hx)) (RepKs.car s (c.sub fun _ hx => List.mem_append_right _ hx))
theorem RepFs.car {C : Cxt} {H H' : Hp} {L L' : List Addr} : ∀ {d : List (Nat × D)} {v : List (Str × V)} {F : List Addr}, RepFs C H L d v F → Car H L H' L' F → RepFs C H' L' d v F
  | _, _, _, .nil, _ => .nil
  | _, _, _, .cons r s, c => .cons (Rep.car r (c.sub fun _ hx => List.mem_append_left _ hx)) (RepFs.car s (c.sub fun _ hx => List.mem_append_right _ hx))
theorem RepO.car {C : Cxt} {H H' : Hp} {L L' : List Addr} : ∀ {d : O} {v : HO} {F : List Addr}, RepO C H L d v F → Car H L H' L' F → RepO C H' L' d v F
  | _, _, _, .lst r, c => .lst (Reps.car r c)
  | _, _, _, .dct r, c => .dct (RepKs.car r c)
  | _, _, _, .ins q r, c => .ins q (RepFs.car r c)
end
theorem Ext.car {H H' : Hp} {L L' F : List Addr} (e : Ext H L H' L') (hF : ∀ a ∈ F, a ∉ L) : Car H L H' L' F := by
  obtain ⟨M, e1, _⟩ := e.pre
  refine ⟨e.tups, e.frzs, fun n a h => ?_, fun a ha o h => e.frame a o (hF a ha) h⟩
  rw [e1, List.getElem?_append_left (List.getElem?_eq_some_iff.mp h).1]
  exact h
theorem Ext.car0 {H H' : Hp} {L L' : List Addr} (e : Ext H L H' L') : Car H L H' L' [] := e.car (by simp)
theorem SimE.ext {C : Cxt} {H H' : Hp} {L L' : List Addr} {ρ : AEnv} {σ : L2.St} (s : SimE C H L ρ σ) (e : Ext H L H' L') : SimE C H' L' ρ σ := ⟨s.1, fun i d h => by
  obtain ⟨v, h1, h2⟩ := s.2 i d h
  exact ⟨v, h1, h2.car e.car0⟩⟩
/-- a result's made objects: new, apart from one another and from the cells -/
structure Fr (H : Hp) (F : List Addr) (L' : List Addr) : Prop where
  new : ∀ a ∈ F, H a = none
  nd : F.Nodup
  out : ∀ a ∈ F, a ∉ L'
theorem Fr.nil (H : Hp) (L : List Addr) : Fr H [] L := ⟨by simp, List.nodup_nil, by simp⟩
end Nv
/-! Nv: rules of the hand layer that tell a new tuple's object; dict(..) of a tuple of pairs. -/
namespace Nv
open PySem PySem.Spec PyProof.Rows L2
/-- the object of a new tuple -/
structure TObj (o : Obj) : Prop where
  cls : o.cls = .type "tuple"
  dict : o.dict = none
section
variable {X : Cx} {pos : Pos} {es : List Expr} {t : TA}
/-- a tuple just pushed, laid into the abstract heap -/
theorem lay_tup {pins : List (Addr × Obj)} {σ : L2.St} {H : Hp} {s : Shared} (I : Inv X pins σ H s) {xs : List V} {us : List Value} (r : Vals xs us) (z : xs.length ≤ sizeLine) {Q : VK}
    (q : ∀ p o, H p = none → TObj o → Q (.ref p) (upd H p (.frz o (.tup xs)))) : EP X pins σ Q (.ref s.heap.objs.size) { s with heap := s.heap.push { cls := .type "tuple", data := .seq us.toArray } } := by
  have fresh : H s.heap.objs.size = none := I.hok.fresh (Nat.le_refl _)
  refine ⟨.ref s.heap.objs.size, _, I.laid (o := .frz { cls := .type "tuple", data := .seq us.toArray } (.tup xs)) (t' := s.toks) (fun c oc z => Heap.get?_push_of_some _ z) (Nat.le_refl _) ?_, rfl, q _ _ fresh ⟨rfl, rfl⟩⟩
  exact ⟨Heap.get?_push_size _ rfl, z, us, r, IsTup.new _ _⟩
def tTupS (t : TA) : TE := fun σ H Q => t σ H fun xs H1 => xs.length ≤ sizeLine ∧ ∀ p o, H1 p = none → TObj o → Q (.ref p) (upd H1 p (.frz o (.tup xs)))
theorem pe_tupS {k : Nat} (h : PA X es t) : PE X (.Tuple es k pos) (tTupS t) := by
  refine ⟨fun pins s σ H Q I hq => ?_⟩
  refine wpAny_Tuple_spliced (thn (h.run pos pins s σ H _ I hq) fun us s1 z => ?_)
  obtain ⟨xs, H1, I1, r, hz, q⟩ := z
  exact ⟨by rw [← r.length]; exact hz, lay_tup I1 r hz q⟩
def rCatS (K : PySem.W.Frag) : R2 := fun x y H Q => ∃ a b xs ys, x = .ref a ∧ y = .ref b ∧ SqT K H a xs ∧ SqT K H b ys ∧ xs.length + ys.length ≤ sizeLine ∧
  (xs = [] → Q (.ref b) H) ∧ (xs ≠ [] → ys = [] → Q (.ref a) H) ∧ (xs ≠ [] → ys ≠ [] → ∀ p o, H p = none → TObj o → Q (.ref p) (upd H p (.frz o (.tup (xs ++ ys)))))
theorem op_catS : OpR X (binaryOp .Add) (rCatS X.K) := by
  intro pins s σ H x y v u Q I rx ry h
  obtain ⟨a, b, xs, ys, ex, ey, ha, hb, hz, q0, q1, q2⟩ := h
  subst ex; subst ey
  cases rx; cases ry
  obtain ⟨us, r1, p1, z1⟩ := I.tuple ha
  obtain ⟨ws, r2, p2, z2⟩ := I.tuple hb
  by_cases hx : xs = []
  · subst hx
    cases r1
    exact cat_tup0 p1 p2 ⟨.ref b, H, I, rfl, q0 rfl⟩
  · refine HT.cat_tup p1 p2 (fun z => hx (r1.nil_iff.mp z)) (fun z => ⟨.ref a, H, I, rfl, q1 hx (r2.nil_iff.mp z)⟩) (fun z => ?_) (by rw [← r1.length, ← r2.length]; exact hz)
    exact lay_tup I (r1.append r2) (by rw [List.length_append]; exact hz) (q2 hx fun w => z (r2.nil_iff.mpr w))
def rSlS (K : PySem.W.Frag) : V → Option Int → Option Int → Hp → VK → Prop := fun x lo hi H Q => ∃ a xs, x = .ref a ∧ SqT K H a xs ∧
  (HT.sIx xs.length 0 lo = 0 ∧ HT.sIx xs.length xs.length hi = xs.length → Q (.ref a) H) ∧ (¬ (HT.sIx xs.length 0 lo = 0 ∧ HT.sIx xs.length xs.length hi = xs.length) → ∀ p o, H p = none → TObj o → Q (.ref p) (upd H p (.frz o (.tup (cutV xs lo hi)))))
theorem sl_tupS : SlR X (rSlS X.K) := by
  intro pins s σ H x v vl vu lo hi sl Q I rx hs pl pu h
  obtain ⟨a, xs, ex, hx, q1, q2⟩ := h
  subst ex
  cases rx
  obtain ⟨us, r, ht, hz⟩ := I.tuple hx
  have hlen : us.toArray.size = xs.length := by simpa using r.length.symm
  refine ⟨"tuple", _, PyProof.Rows.slot_tuple_getitem.lookup, ht.typeIs, ?_⟩
  by_cases hw : HT.sIx xs.length 0 lo = 0 ∧ HT.sIx xs.length xs.length hi = xs.length
  · exact getItem_tuple_whole ht hs pl pu (by rw [hlen]; exact hw) ⟨.ref a, H, I, rfl, q1 hw⟩
  · refine HT.getItem_tuple_cut ht hs pl pu (by rw [hlen]; exact hw) ?_ (by rw [hlen]; exact hz)
    rw [hlen]
    exact lay_tup I ((r.drop (HT.sIx xs.length 0 lo)).take (HT.sIx xs.length xs.length hi - HT.sIx xs.length 0 lo)) (Nat.le_trans (cutV_length xs lo hi) hz) (q2 hw)
theorem call_tupleS : CallR X (.type "tuple") (fun xs H Q => ∃ p ys, xs = [.ref p] ∧ ((SqL X.K H p ys ∧ ∀ l o, H l = none → TObj o → Q (.ref l) (upd H l (.frz o (.tup ys)))) ∨ (SqT X.K H p ys ∧ Q (.ref p) H))) := by
  intro pins s σ H xs us Q I r h
  obtain ⟨p, ys, e, h⟩ := h
  subst e
  obtain ⟨u, eu, rx⟩ := vals1 r
  subst eu
  cases rx
  rcases h with ⟨hq, q⟩ | ⟨hq, q⟩
  · obtain ⟨ws, r', pl, hz⟩ := I.list hq
    refine call_tuple_list pl.isList (fun h' kp => ?_) (by rw [List.size_toArray, ← r'.length]; exact hz)
    exact lay_tup (s := { s with heap := h' }) (I.kept (t' := s.toks) kp) r' hz q
  · obtain ⟨ws, r', pl, hz⟩ := I.tuple hq
    exact call_tuple_same pl ⟨.ref p, H, I, rfl, q⟩
theorem TupS.plain {pins : List (Addr × Obj)} {σ : L2.St} {H : Hp} {s : Shared} (I : Inv X pins σ H s) {a : Addr} {xs : List V} (h : TupS X.K H a xs) : ∃ its : List Value, Vals xs its ∧ PySem.PlainSeq "tuple" s.heap a its.toArray ∧ xs.length ≤ sizeLine := by
  rcases h with ⟨o, h, hc, hd⟩ | ⟨o, its, n, hk, hc, hd, hs, hz, r⟩
  · have hh := I.hok a _ h
    obtain ⟨ho, z, its, r, o', ho', hc', n, hs⟩ := hh
    rw [ho] at ho'
    cases ho'
    exact ⟨its, r, ⟨o, n, ho, hc, hd, hs⟩, z⟩
  · refine ⟨its.toList, r, ⟨o, n, I.kIn a o hk, hc, hd, by simpa using hs⟩, ?_⟩
    have := r.length
    rw [this, Array.length_toList]; exact hz
/-- dict(t) of a tuple of pairs -/
theorem call_dictPT (hcalm : X.calm = true) : CallR X (.type "dict") (fun xs H Q => ∃ (a : Addr) (ps : List Addr) (kvs : List (L2.Key × V)), xs = [.ref a] ∧ TupS X.K H a (ps.map V.ref) ∧ Paired (fun p kv => SqT X.K H p [kV kv.1, kv.2]) ps kvs ∧
    ∀ p, H p = none → Q (.ref p) (upd H p (.dK (mergeK [] kvs)))) := by
  intro pins s σ H xs us Q I r q
  obtain ⟨a, ps, kvs, ex, hq, hp, q⟩ := q
  subst ex
  obtain ⟨u, eu, rx⟩ := vals1 r
  subst eu
  cases rx
  obtain ⟨its, rv, pl, hz⟩ := TupS.plain I hq
  have ei := refs_at rv
  subst ei
  rw [List.length_map] at hz
  obtain ⟨prs, rel, hl, hpr⟩ := pairs_of I hp
  -- the pairs by place
  have hpr2 : ∀ j (h : j < prs.length), ∃ (b : Addr) (w : Value), ps[j]? = some b ∧ IsTup s.heap b #[w, (prs[j]).2] ∧ keyIs (prs[j]).1 w = true := fun j h => hpr j _ (List.getElem?_eq_getElem h)
  let key : Nat → Value := fun j => if h : j < prs.length then Classical.choose (Classical.choose_spec (hpr2 j h)) else .none
  let pv : List (Value × Value) := prs.mapIdx fun j q => (key j, q.2)
  have pvl : pv.length = ps.length := by show (prs.mapIdx _).length = _; rw [List.length_mapIdx]; exact hl
  have at_ : ∀ (j : Nat) (k v : Value), pv[j]? = some (k, v) → ∃ (q : L2.Key × Value) (b : Addr), prs[j]? = some q ∧ v = q.2 ∧ ps[j]? = some b ∧ IsTup s.heap b #[k, v] ∧ keyIs q.1 k = true := by
    intro j k v e
    have e : (prs.mapIdx fun j q => (key j, q.2))[j]? = some (k, v) := e
    rw [List.getElem?_mapIdx] at e
    cases hq : prs[j]? with
    | none => rw [hq] at e; cases e
    | some q =>
      rw [hq] at e
      have hj := (List.getElem?_eq_some_iff.mp hq).1
      have e2 : (key j, q.2) = (k, v) := Option.some.inj e
      injection e2 with e3 e4
      obtain ⟨c1, c2, c3⟩ := Classical.choose_spec (Classical.choose_spec (hpr2 j hj))
      have hqe : prs[j] = q := by rw [List.getElem?_eq_getElem hj] at hq; exact Option.some.inj hq
      have hk : key j = Classical.choose (Classical.choose_spec (hpr2 j hj)) := dif_pos hj
      rw [← hk, e3] at c2 c3
      generalize Classical.choose (hpr2 j hj) = b0 at c1 c2
      rw [hqe, e4] at c2
      rw [hqe] at c3
      exact ⟨q, b0, rfl, e4.symm, c1, c2, c3⟩
  refine PySem.call_dict_pairs (knd := mixKind X.prog X.w) (kvs := prs) (PySem.PairArg.tuple a (ps.map Value.ref).toArray (fun j => ps.getD j 0) pv) (I.ok.hd hcalm) ⟨pl, ⟨by rw [List.size_toArray, List.length_map, pvl], fun (j : Nat) (k v : Value) (e : pv[j]? = some (k, v)) => ?_⟩⟩ ⟨by rw [hl, pvl], fun (i : Nat) (k v : Value) (e : pv[i]? = some (k, v)) => ?_⟩ (by rw [pvl]; exact hz) fun h' tk hd' k => ?_
  · obtain ⟨q, b, e1, e2, e3, e4, e5⟩ := at_ j k v e
    have hb : ps.getD j 0 = b := by rw [List.getD_eq_getElem?_getD, e3]; rfl
    show (List.map Value.ref ps).toArray[j]? = some (Value.ref (ps.getD j 0)) ∧ PairAt s.heap (ps.getD j 0) k v
    rw [hb]
    exact ⟨by simp [e3], .inl e4⟩
  · obtain ⟨q, b, e1, e2, e3, e4, e5⟩ := at_ i k v e
    exact ⟨q.1, by rw [e1, e2], e5⟩
  · have hm : (s.heap.objs.size == sysModules) = false := beq_eq_false_iff_ne.mpr (Nat.ne_of_gt I.big)
    have hlen : (mergeK [] kvs).length ≤ sizeLine := by
      have := length_mergeK kvs []
      have r1 := rel.length
      simp only [List.length_nil, Nat.zero_add] at this
      omega
    exact ⟨.ref s.heap.objs.size, _, I.laid (o := .dK (mergeK [] kvs)) (t' := tk) (fun b o e => k b o (by simp) e) (Nat.le_refl _) ⟨hlen, hm, merged [] prs, KV.merge rel .nil, hd'⟩, rfl, q _ (I.hok.fresh (Nat.le_refl _))⟩
end
end Nv
/-! Nv: the syntax and its evaluator. -/
namespace Nv
open PySem PySem.Spec PyProof.Rows L2
/-! ### syntax -/
inductive Bop where | add | sub | mul | fdiv | mod | pow deriving DecidableEq
inductive Cop where | eq | ne | lt | le | gt | ge | inn | nin | isN | notN deriving DecidableEq
inductive Blt where | len | sum | max | min | all | any | sorted | list | tuple | dict | int | str deriving DecidableEq
inductive Bm where | append | pop | popAt | insert | extend | get | setdefault | update | index | join | clear deriving DecidableEq
inductive IsT where | int | bool | str | tuple | list | blt | cls (c : Nat) deriving DecidableEq
inductive Ty7 where | int | bool | str | non | tup | lst | dct deriving DecidableEq
/-- targets: a slot, a tuple of targets -/
inductive G where | name (i : Nat) | tup (gs : List G)
mutual
inductive E where
  | var (i : Nat) | non | bl (b : Bool) | int (i : Int) | str (s : Str) | glb (k : Nat)
  | tup (es : List E) | lst (es : List E) | dct (kvs : List E)
  | bin (o : Bop) (a b : E) | neg (a : E) | cmp (o : Cop) (a b : E) | chain (o p : Cop) (a b c : E)
  | and (es : List E) | or (es : List E) | not (a : E) | ite (c a b : E)
  | idx (a i : E) | slc (a : E) (lo hi : Option E) | attr (e : E) (f : Nat)
  | call (f : Nat) (es : List E) | meth (o : E) (c m f : Nat) (es : List E) | make (c : Nat) (es : List E) | makek (c : Nat) (es ks : List E) (names : List Str) (ds : List (Nat ⊕ D))
  | blt (f : Blt) (es : List E) | bm (m : Bm) (o : E) (es : List E) | isi (e : E) (t : IsT)
  | comp (own : List (Str × Nat)) (g : G) (it : It) (ifs : List E) (elt : E)
  | comp2 (own : List (Str × Nat)) (g : G) (it : It) (ifs : List E) (g1 : G) (it1 : It) (ifs1 : List E) (elt : E)
  | dcomp (own : List (Str × Nat)) (g : G) (it : It) (ifs : List E) (k v : E)
  | revs (e : E) | lens (e : E)
inductive It where
  | of (e : E) | range (es : List E) | enum (e : E) | zip (a b : E) | rev (e : E)
end
inductive St where
  | expr (e : E) | set (i : Nat) (e : E) | unp (g : G) (e : E) | par (is : List Nat) (es : List E) | attr (o : E) (f : Nat) (e : E) | sub (o i e : E)
  | ite (c : E) (a b : List St) | wh (c : E) (b : List St) | forr (g : G) (it : It) (b : List St) (gc : Option (List Nat))
  | ret (e : E) | retN | pass | cont | brk | raise
structure Fn where
  name : Str
  ps : Nat
  slots : Nat
  gc : Bool
  body : List St
  pos : Bool := true
structure Cls' where
  name : Str
  init : Nat
  meths : List (Nat × Nat)
structure Prog where
  fns : List Fn
  cls : List Cls'
  globs : List (Str × D)
  syms : List Str
  nf : Nat := 0
  free : List Str := []
  kws : List (Nat × Nat × List Str × List (Nat ⊕ D)) := []
structure Sm where
  call : Nat → List D → Store → Rs D
  init : Nat → List D → Store → Rs D
inductive Fl where | nx | rt (d : D) | bk | ct

/-- what raises is not spoken of -/
def Rs.noex {α : Type} : Rs α → Rs α
  | .ok a S => .ok a S
  | _ => .stuck
/-! ### data: nothing that is made, no cell -/
mutual
def isData : D → Bool
  | .tup xs => areData xs
  | .wtp xs => areData xs
  | .ref _ => false
  | .new _ => false
  | _ => true
def areData : List D → Bool
  | [] => true
  | x :: xs => isData x && areData xs
end
/-! ### values read -/
def seqOf : D → Store → Option (List D)
  | .tup xs, _ => some xs
  | .new (.lst xs), _ => some xs
  | .ref n, S => match S[n]? with
    | some (.lst xs) => some xs
    | some (.frz xs) => some xs
    | _ => none
  | _, _ => none
/-- a list that may be written -/
def lstOf : D → Store → Option (List D)
  | .new (.lst xs), _ => some xs
  | .ref n, S => match S[n]? with
    | some (.lst xs) => some xs
    | _ => none
  | _, _ => none
/-- a list, also one that is only read -/
def lisOf : D → Store → Option (List D)
  | .new (.lst xs), _ => some xs
  | .ref n, S => match S[n]? with
    | some (.lst xs) => some xs
    | some (.frz xs) => some xs
    | _ => none
  | _, _ => none
def truD : D → Store → Option Bool
  | .non, _ => some false
  | .bl b, _ => some b
  | .int i, _ => some (i != 0)
  | .str s, _ => if s.length ≤ sizeLine then some ((s.length : Int) != 0) else none
  | .ref n, S => match S[n]? with
    | some (.lst xs) => some (!xs.isEmpty)
    | some (.frz xs) => some (!xs.isEmpty)
    | some (.dct kvs) => some (!kvs.isEmpty)
    | _ => none
  | .tup xs, _ => some (!xs.isEmpty)
  | .new (.lst xs), _ => some (!xs.isEmpty)
  | .new (.dct kvs), _ => some (!kvs.isEmpty)
  | _, _ => none
def Rs.of {α : Type} (o : Option α) (S : Store) : Rs α := match o with
  | some a => .ok a S
  | none => .stuck
/-! ### data as the library's data -/
mutual
def dat : D → Option PyData
  | .non => some .none
  | .bl b => some (.bool b)
  | .int i => some (.int i)
  | .str s => some (.str s)
  | .tup xs => (dats xs).map .tuple
  | .wtp xs => (dats xs).map .tuple
  | .new (.lst xs) => (dats xs).map .list
  | _ => none
def dats : List D → Option (List PyData)
  | [] => some []
  | x :: xs => match dat x, dats xs with
    | some d, some ds => some (d :: ds)
    | _, _ => none
end
/-- data, or a list of data that stands in the store -/
def datS (S : Store) : D → Option PyData
  | .ref n => match S[n]? with
    | some (.lst xs) => (dats xs).map .list
    | some (.frz xs) => (dats xs).map .list
    | _ => none
  | d => dat d
/-- numbers, texts, None, truths: scalars that == compares at once -/
def scalD : D → Option V
  | .non => some .non
  | .bl b => some (.bl b)
  | .int i => some (.int i)
  | .str s => some (.str s)
  | _ => none
def eqD (x y : D) (S : Store) : Option Bool := match scalD x, scalD y with
  | some a, some b => if scal a b = true then some (decide (a = b)) else none
  | _, _ => match datS S x, datS S y with
    | some d, some e => if SeqAt.shaped d = true ∧ SeqAt.shaped e = true then some (PyData.eqv d e) else none
    | _, _ => none
def binD (o : Bop) (x y : D) (S : Store) : Option D := match o, x, y with
  | .add, .int i, .int j => some (.int (i + j))
  | .sub, .int i, .int j => some (.int (i - j))
  | .mul, .int i, .int j => if i.natAbs.log2 + j.natAbs.log2 < 1000000 then some (.int (i * j)) else none
  | .fdiv, .int i, .int j => if 0 < j ∧ j.natAbs.log2 < 9000 then some (.int (i / j)) else none
  | .mod, .int i, .int j => if 0 < j then some (.int (i % j)) else none
  | .pow, .int i, .int j => if 0 ≤ j ∧ j ≤ 1000000 ∧ i.natAbs < 2 ^ 64 then some (.int (i ^ j.toNat)) else none
  | .add, .str a, .str b => if a.length + b.length ≤ sizeLine then some (.str (a ++ b)) else none
  | .add, .tup xs, .tup ys => if xs.length + ys.length ≤ sizeLine then some (.tup (xs ++ ys)) else none
  | .add, x, y => match lstOf x S, lstOf y S with
    | some xs, some ys => if xs.length + ys.length ≤ sizeLine then some (.new (.lst (xs ++ ys))) else none
    | _, _ => none
  | _, _, _ => none
def keyD : D → Option Key
  | .int i => some (.inl i)
  | .str s => some (.inr s)
  | _ => none
def dctOf (x : D) (S : Store) : Option (List (D × D)) := match x with
  | .new (.dct kvs) => some kvs
  | .ref n => match S[n]? with
    | some (.dct kvs) => some kvs
    | _ => none
  | _ => none
def getKD : List (D × D) → Key → Option D
  | [], _ => none
  | (k, v) :: r, q => if keyD k = some q then some v else getKD r q
/-- a key put into a dict's pairs -/
def putKD (k : D) (q : Key) (v : D) (kvs : List (D × D)) : List (D × D) :=
  if (kvs.any fun p => decide (keyD p.1 = some q)) = true then kvs.map fun p => if keyD p.1 = some q then (p.1, v) else p else kvs ++ [(k, v)]
/-- the keys are keys, and unlike -/
def freshK : List (D × D) → Bool
  | [] => true
  | (k, _) :: r => (keyD k).isSome && (r.all fun p => decide (keyD p.1 ≠ keyD k)) && freshK r
/-- pairs put into a dict, one behind the other -/
def mergeKD : List (D × D) → List (D × D) → Option (List (D × D))
  | kvs, [] => some kvs
  | kvs, (k, v) :: r => match keyD k with
    | some q => mergeKD (putKD k q v kvs) r
    | none => none
/-- the pairs of a list of pairs -/
def pairsD : List D → Option (List (D × D))
  | [] => some []
  | .tup [k, v] :: r => (pairsD r).map ((k, v) :: ·)
  | .wtp [k, v] :: r => (pairsD r).map ((k, v) :: ·)
  | _ :: _ => none
/-- two by two -/
def twos : List D → List (D × D)
  | k :: v :: r => (k, v) :: twos r
  | _ => []
def scalDs : List D → Option (List V)
  | [] => some []
  | x :: xs => match scalD x, scalDs xs with
    | some v, some vs => some (v :: vs)
    | _, _ => none
/-- x in y: a sign of a text; a flat value among flat ones -/
def inD (x y : D) (S : Store) : Option Bool := match x, y with
  | .str a, .str b => match a.cps.toList with
    | [c] => some (decide (c ∈ b.cps.toList))
    | _ => none
  | x, y => match dctOf y S with
    | some kvs => (keyD x).map fun k => (getKD kvs k).isSome
    | none => match scalD x, (seqOf y S).bind scalDs with
      | some v, some vs => some (inV v vs)
      | _, _ => none
def cmpD (o : Cop) (x y : D) (S : Store) : Option Bool := match o, x, y with
  | .lt, .str a, .str b => some (decide (a.cps.toList < b.cps.toList))
  | .le, .str a, .str b => some (!decide (b.cps.toList < a.cps.toList))
  | .inn, x, y => inD x y S
  | .nin, x, y => (inD x y S).map not
  | .eq, x, y => eqD x y S
  | .ne, x, y => (eqD x y S).map not
  | .lt, .int i, .int j => some (decide (i < j))
  | .le, .int i, .int j => some (decide (i ≤ j))
  | .gt, .int i, .int j => some (decide (j < i))
  | .ge, .int i, .int j => some (decide (j ≤ i))
  | .isN, x, .non => match x with
    | .non => some true
    | _ => some false
  | .notN, x, .non => match x with
    | .non => some false
    | _ => some true
  | _, _, _ => none
/-- no made object in it -/
def isCell (d : D) : Bool := match d with
  | .tup _ => isData d
  | .wtp _ => isData d
  | .new _ => false
  | _ => true
def intsOf : List D → Option (List Int)
  | [] => some []
  | .int i :: r => (intsOf r).map (i :: ·)
  | _ :: _ => none
/-! ### more values -/
def zipD : List D → List D → List D
  | x :: xs, y :: ys => .wtp [x, y] :: zipD xs ys
  | _, _ => []
/-- the order of data -/
def encD (d : D) : PyData := (dat d).getD .none
/-- put in order: an item goes behind those that are no greater -/
def insD (x : D) : List D → List D
  | [] => [x]
  | y :: r => if PySem.W.dataLe false encD x y = true then x :: y :: r else y :: insD x r
def isortD : List D → List D
  | [] => []
  | x :: r => insD x (isortD r)
def alikeB : List PyData → Bool
  | [] => true
  | d :: r => (d :: r).all fun e => PySem.W.alike d e && alikeB r
def kindB (ds : List PyData) : Bool := (ds.all fun d => match d with
    | .tuple (_ :: _) => true
    | _ => false) || ds.all fun d => match d with
    | .tuple _ => false
    | .none => false
    | _ => true
def sortD (xs : List D) : Option (List D) :=
  if areData xs = true ∧ (xs.all fun x => (dat x).isSome) = true ∧ (xs.all fun x => xs.all fun y => PySem.W.alike (encD x) (encD y)) = true ∧ kindB (xs.map encD) = true ∧ xs.length ≤ sizeLine ∧ (xs.all fun x => decide ((encD x).depth ≤ 40)) = true then some (isortD xs) else none
def keysOf (kvs : List (D × D)) : List D := kvs.map (·.1)
/-- texts of a list -/
def strsOf : List D → Option (List Str)
  | [] => some []
  | .str s :: r => (strsOf r).map (s :: ·)
  | _ :: _ => none
def blsOf : List D → Option (List Bool)
  | [] => some []
  | .bl i :: r => (blsOf r).map (i :: ·)
  | _ :: _ => none
def cutD (xs : List D) (lo hi : Option Int) : List D := (xs.drop (HT.sIx xs.length 0 lo)).take (HT.sIx xs.length xs.length hi - HT.sIx xs.length 0 lo)
def bltD (f : Blt) (es : List D) (S : Store) : Option D := match f, es with
  | .len, [.str s] => if s.length ≤ sizeLine then some (.int s.length) else none
  | .len, [x] => match dctOf x S with
    | some kvs => some (.int kvs.length)
    | none => (seqOf x S).map fun xs => .int xs.length
  | .sum, [x] => (lisOf x S).bind fun xs => (intsOf xs).map fun ns => .int ns.sum
  | .min, [.int i, .int j] => some (.int (if j < i then j else i))
  | .max, [.int i, .int j] => some (.int (if j > i then j else i))
  | .all, [x] => (lisOf x S).bind fun xs => (blsOf xs).map fun ns => .bl (ns.all id)
  | .list, [x] => (seqOf x S).map fun xs => .new (.lst xs)
  | .tuple, [x] => (seqOf x S).map .tup
  | .dict, [x] => match dctOf x S with
    | some kvs => some (.new (.dct kvs))
    | none => match (seqOf x S).bind pairsD with
      | some ps => if (ps.all fun p => isCell p.2) = true ∧ ps.length ≤ sizeLine then (mergeKD [] ps).map fun kvs => .new (.dct kvs) else none
      | none => none
  | .sorted, [x] => match dctOf x S with
    | some kvs => match strsOf (keysOf kvs) with
      | some ss => if ss.length < 64 then some (.new (.lst (isortD (ss.map D.str)))) else none
      | none => match intsOf (keysOf kvs) with
        | some ss => if ss.length < 64 then some (.new (.lst (isortD (ss.map D.int)))) else none
        | none => none
    | none => (lisOf x S).bind fun xs => (sortD xs).map fun ys => .new (.lst ys)
  | .any, [x] => (lisOf x S).bind fun xs => (blsOf xs).map fun ns => .bl (ns.any id)
  | _, _ => none
/-! ### truncation -/
mutual
def sameD : D → D → Bool
  | .non, b => match b with
    | .non => true
    | _ => false
  | .bl x, b => match b with
    | .bl y => decide (x = y)
    | _ => false
  | .int x, b => match b with
    | .int y => decide (x = y)
    | _ => false
  | .str x, b => match b with
    | .str y => decide (x = y)
    | _ => false
  | .tup x, b => match b with
    | .tup y => sameDs x y
    | _ => false
  | .wtp x, b => match b with
    | .wtp y => sameDs x y
    | _ => false
  | .ref x, b => match b with
    | .ref y => decide (x = y)
    | _ => false
  | .new x, b => match b with
    | .new y => sameO x y
    | _ => false
termination_by structural a => a
def sameDs : List D → List D → Bool
  | [], l => match l with
    | [] => true
    | _ => false
  | a :: r, l => match l with
    | b :: s => sameD a b && sameDs r s
    | [] => false
termination_by structural a => a
def sameO : O → O → Bool
  | .lst a, q => match q with
    | .lst b => sameDs a b
    | _ => false
  | .frz a, q => match q with
    | .frz b => sameDs a b
    | _ => false
  | .dct a, q => match q with
    | .dct b => sameKs a b
    | _ => false
  | .ins c a, q => match q with
    | .ins e b => decide (c = e) && sameFs a b
    | _ => false
termination_by structural a => a
def sameKs : List (D × D) → List (D × D) → Bool
  | [], l => match l with
    | [] => true
    | _ => false
  | (a, b) :: r, l => match l with
    | (c, d) :: s => sameD a c && sameD b d && sameKs r s
    | [] => false
termination_by structural a => a
def sameFs : List (Nat × D) → List (Nat × D) → Bool
  | [], l => match l with
    | [] => true
    | _ => false
  | (a, b) :: r, l => match l with
    | (c, d) :: s => decide (a = c) && sameD b d && sameFs r s
    | [] => false
termination_by structural a => a
end
def truncOk (n : Nat) : Store → Store → Bool
  | [], _ => true
  | o :: r, p :: s => (sameO o p || lowO n p) && truncOk n r s
  | _ :: _, [] => false
def trunc (S S' : Store) : Option Store := if truncOk S.length S S' = true then some (S'.take S.length) else none
def lowE (n : Nat) : AEnv → Bool
  | [] => true
  | none :: r => lowE n r
  | some d :: r => lowD n d && lowE n r
/-! ### a result's cells become made objects -/
def mapU (f : D → Option (D × List Nat)) : List D → Option (List D × List Nat)
  | [] => some ([], [])
  | x :: xs => match f x, mapU f xs with
    | some (y, u), some (ys, w) => some (y :: ys, u ++ w)
    | _, _ => none
def mapUK (f : D → Option (D × List Nat)) : List (D × D) → Option (List (D × D) × List Nat)
  | [] => some ([], [])
  | (q, x) :: xs => match f x, mapUK f xs with
    | some (y, u), some (ys, w) => some ((q, y) :: ys, u ++ w)
    | _, _ => none
def mapUF (f : D → Option (D × List Nat)) : List (Nat × D) → Option (List (Nat × D) × List Nat)
  | [] => some ([], [])
  | (q, x) :: xs => match f x, mapUF f xs with
    | some (y, u), some (ys, w) => some ((q, y) :: ys, u ++ w)
    | _, _ => none
def reifyO (f : D → Option (D × List Nat)) : O → Option (O × List Nat)
  | .lst xs => (mapU f xs).map fun r => (.lst r.1, r.2)
  | .dct kvs => (mapUK f kvs).map fun r => (.dct r.1, r.2)
  | .ins c fs => (mapUF f fs).map fun r => (.ins c r.1, r.2)
  | .frz _ => none
def reify (S : Store) (n : Nat) : Nat → D → Option (D × List Nat)
  | 0, _ => none
  | k + 1, .ref m => if m < n then some (.ref m, []) else match S[m]? with
    | some o => (reifyO (reify S n k) o).map fun r => (.new r.1, m :: r.2)
    | none => none
  | k + 1, .tup xs => if areData xs = true then some (.tup xs, []) else (mapU (reify S n k) xs).map fun r => (.tup r.1, r.2)
  | k + 1, .wtp xs => if areData xs = true then some (.wtp xs, []) else (mapU (reify S n k) xs).map fun r => (.wtp r.1, r.2)
  | k + 1, .new o => (reifyO (reify S n k) o).map fun r => (.new r.1, r.2)
  | _ + 1, d => some (d, [])
/-! ### targets, loops -/
mutual
def G.slots : G → List Nat
  | .name i => [i]
  | .tup gs => slotsL gs
def slotsL : List G → List Nat
  | [] => []
  | g :: gs => g.slots ++ slotsL gs
end
def storeD (i : Nat) (d : D) (ρ : AEnv) (S : Store) : Rs AEnv := let r := mat d S; .ok (ρ.set i (some r.1)) r.2
mutual
def evalG : G → D → AEnv → Store → Rs AEnv
  | .name i, d, ρ, S => storeD i d ρ S
  | .tup gs, .tup xs, ρ, S => evalGs gs xs ρ S
  | .tup gs, .wtp xs, ρ, S => evalGs gs xs ρ S
  | .tup _, _, _, _ => .stuck
def evalGs : List G → List D → AEnv → Store → Rs AEnv
  | [], [], ρ, S => .ok ρ S
  | g :: gs, x :: xs, ρ, S => (evalG g x ρ S).bind fun ρ1 S1 => evalGs gs xs ρ1 S1
  | _, _, _, _ => .stuck
end
/-- names put in at once -/
def parD : List Nat → List D → AEnv → AEnv
  | i :: is, x :: xs, ρ => parD is xs (ρ.set i (some x))
  | _, _, ρ => ρ
def wipeD (ρ : AEnv) : List Nat → AEnv
  | [] => ρ
  | v :: vs => (wipeD ρ vs).set v none
/-- the list walked, if it stands in the store, is as it was -/
def guard1 (g : Nat × List D) (S : Store) : Bool := match S[g.1]? with
  | some (.lst ys) => sameDs g.2 ys
  | some (.frz ys) => sameDs g.2 ys
  | _ => false
def guardOk (gs : List (Nat × List D)) (S : Store) : Bool := gs.all fun g => guard1 g S
/-- a turn's end: slots forgotten, cells made in the turn dropped -/
def turnEnd : Option (List Nat) → Store → AEnv → Store → Rs AEnv
  | none, _, ρ, S' => .ok ρ S'
  | some ks, S, ρ, S' => if lowE S.length (wipeD ρ ks) = true then match trunc S S' with
      | some T => .ok (wipeD ρ ks) T
      | none => .stuck
    else .stuck
def forF (gu : List (Nat × List D)) (gc : Option (List Nat)) (asg : D → AEnv → Store → Rs AEnv) (body : AEnv → Store → Rs (Fl × AEnv)) : List D → AEnv → Store → Rs (Fl × AEnv)
  | [], ρ, S => if guardOk gu S = true then .ok (.nx, ρ) S else .stuck
  | x :: xs, ρ, S => if guardOk gu S = true then (asg x ρ S).bind fun ρ1 S1 => (body ρ1 S1).bind fun r S2 => match r.1 with
      | .nx => (turnEnd gc S r.2 S2).bind fun ρ3 S3 => forF gu gc asg body xs ρ3 S3
      | .ct => (turnEnd gc S r.2 S2).bind fun ρ3 S3 => forF gu gc asg body xs ρ3 S3
      | .bk => .ok (.nx, r.2) S2
      | .rt d => .ok (.rt d, r.2) S2
    else .stuck
def whF (c : AEnv → Store → Rs Bool) (body : AEnv → Store → Rs (Fl × AEnv)) : Nat → AEnv → Store → Rs (Fl × AEnv)
  | 0, _, _ => .stuck
  | n + 1, ρ, S => (c ρ S).bind fun b S1 => match b with
    | true => (body ρ S1).bind fun r S2 => match r.1 with
      | .nx => whF c body n r.2 S2
      | .ct => whF c body n r.2 S2
      | .bk => .ok (.nx, r.2) S2
      | .rt d => .ok (.rt d, r.2) S2
    | false => .ok (.nx, ρ) S1
def WF : Nat := 1000000
def compF (gu : List (Nat × List D)) (asg : D → AEnv → Store → Rs AEnv) (tst : AEnv → Store → Rs Bool) (elt : AEnv → Store → Rs D) (ρ : AEnv) : List D → Store → Rs (List D)
  | [], S => if guardOk gu S = true then .ok [] S else .stuck
  | x :: xs, S => if guardOk gu S = true then (asg x ρ S).bind fun ρ1 S1 => (tst ρ1 S1).bind fun b S2 => match b with
      | true => (elt ρ1 S2).bind fun y S3 => (compF gu asg tst elt ρ xs S3).bind fun ys S4 => .ok (y :: ys) S4
      | false => compF gu asg tst elt ρ xs S2
    else .stuck
/-- as compF, each item giving a list -/
def compG (gu : List (Nat × List D)) (asg : D → AEnv → Store → Rs AEnv) (tst : AEnv → Store → Rs Bool) (body : AEnv → Store → Rs (List D)) (ρ : AEnv) : List D → Store → Rs (List D)
  | [], S => if guardOk gu S = true then .ok [] S else .stuck
  | x :: xs, S => if guardOk gu S = true then (asg x ρ S).bind fun ρ1 S1 => (tst ρ1 S1).bind fun b S2 => match b with
      | true => (body ρ1 S2).bind fun ys S3 => (compG gu asg tst body ρ xs S3).bind fun zs S4 => .ok (ys ++ zs) S4
      | false => compG gu asg tst body ρ xs S2
    else .stuck
/-- a dict filled: keys and values by turns -/
def compD (gu : List (Nat × List D)) (asg : D → AEnv → Store → Rs AEnv) (tst : AEnv → Store → Rs Bool) (key val : AEnv → Store → Rs D) (ρ : AEnv) : List D → List (D × D) → Store → Rs (List (D × D))
  | [], acc, S => if guardOk gu S = true then .ok acc S else .stuck
  | x :: xs, acc, S => if guardOk gu S = true then (asg x ρ S).bind fun ρ1 S1 => (tst ρ1 S1).bind fun b S2 => match b with
      | true => (key ρ1 S2).bind fun k S3 => (val ρ1 S3).bind fun v S4 => match keyD k with
        | some q => if acc.length < sizeLine ∧ (freshK (acc ++ [(k, v)]) = true ∨ (isCell v = true ∧ (acc.all fun p => isCell p.2) = true)) then compD gu asg tst key val ρ xs (putKD k q v acc) S4 else .stuck
        | none => .stuck
      | false => compD gu asg tst key val ρ xs acc S2
    else .stuck
def idxD (x i : D) (S : Store) : Option D := match x, i with
  | .str z, .int k => if z.length ≤ sizeLine then (atI z.cps.toList k).map fun c => .str ⟨#[c]⟩ else none
  | x, i => match seqOf x S with
    | some xs => (match i with
      | .int k => atI xs k
      | _ => none)
    | none => match dctOf x S, keyD i with
      | some kvs, some k => getKD kvs k
      | _, _ => none
def slcD (x : D) (lo hi : Option Int) (S : Store) : Option D := match x with
  | .str z => if z.length ≤ sizeLine then some (.str (cutS z lo hi)) else none
  | .tup xs => some (.tup (cutD xs lo hi))
  | x => (seqOf x S).map fun xs => .new (.lst (cutD xs lo hi))
def attrD (x : D) (f : Nat) (S : Store) : Option D := match x with
  | .ref n => match S[n]? with
    | some (.ins _ fs) => fs.lookup f
    | _ => none
  | _ => none
def putA (f : Nat) (v : D) : List (Nat × D) → List (Nat × D)
  | [] => [(f, v)]
  | (g, x) :: r => if g = f then (g, v) :: r else (g, x) :: putA f v r
def setAttr (x : D) (f : Nat) (v : D) (S : Store) : Option Store := match x with
  | .ref n => match S[n]? with
    | some (.ins c fs) => if fs.length < 1000 then some (S.set n (.ins c (putA f v fs))) else none
    | _ => none
  | _ => none
def setSub (x i v : D) (S : Store) : Option Store := match x, i with
  | .ref n, .int k => match S[n]? with
    | some (.lst xs) => (ixN xs.length k).map fun j => S.set n (.lst (xs.set j v))
    | some (.dct kvs) => if kvs.length < sizeLine then some (S.set n (.dct (putKD (.int k) (.inl k) v kvs))) else none
    | _ => none
  | .ref n, .str k => match S[n]? with
    | some (.dct kvs) => if kvs.length < sizeLine then some (S.set n (.dct (putKD (.str k) (.inr k) v kvs))) else none
    | _ => none
  | _, _ => none
/-- a built-in method: the value, the store -/
def bmD (m : Bm) (x : D) (es : List D) (S : Store) : Rs D := match m, x, es with
  | .append, .ref n, [y] => match S[n]? with
    | some (.lst xs) => if xs.length < sizeLine then .ok .non ((mat y S).2.set n (.lst (xs ++ [(mat y S).1]))) else .stuck
    | _ => .stuck
  | .pop, .ref n, [] => match S[n]? with
    | some (.lst xs) => match xs[xs.length - 1]? with
      | some y => .ok y (S.set n (.lst xs.dropLast))
      | none => .stuck
    | _ => .stuck
  | .popAt, .ref n, [.int i] => match S[n]? with
    | some (.lst xs) => if -(2 ^ 63) ≤ i ∧ i < 2 ^ 63 then match seqIndex? i xs.length with
      | some k => match xs[k]? with
        | some y => .ok y (S.set n (.lst (xs.eraseIdx k)))
        | none => .stuck
      | none => .stuck
      else .stuck
    | _ => .stuck
  | .insert, .ref n, [.int i, y] => match S[n]? with
    | some (.lst xs) => if xs.length < sizeLine ∧ 0 ≤ i ∧ i < 2 ^ 63 then .ok .non ((mat y S).2.set n (.lst (xs.take i.toNat ++ [(mat y S).1] ++ xs.drop i.toNat))) else .stuck
    | _ => .stuck
  | .extend, .ref n, [.new (.lst ys)] => match S[n]? with
    | some (.lst xs) => if xs.length + ys.length ≤ sizeLine then .ok .non ((mats ys S).2.set n (.lst (xs ++ (mats ys S).1))) else .stuck
    | _ => .stuck
  | .extend, .ref n, [.ref m] => match S[n]?, S[m]? with
    | some (.lst xs), some (.lst ys) => if xs.length + ys.length ≤ sizeLine then .ok .non (S.set n (.lst (xs ++ ys))) else .stuck
    | _, _ => .stuck
  | .get, x, [k] => match dctOf x S, keyD k with
    | some kvs, some q => .ok ((getKD kvs q).getD .non) S
    | _, _ => .stuck
  | .get, x, [k, z] => match dctOf x S, keyD k with
    | some kvs, some q => .ok ((getKD kvs q).getD z) S
    | _, _ => .stuck
  | .setdefault, .ref n, [k, z] => match S[n]?, keyD k with
    | some (.dct kvs), some q => if kvs.length < sizeLine then match getKD kvs q with
      | some v => .ok v S
      | none => .ok (mat z S).1 ((mat z S).2.set n (.dct (putKD k q (mat z S).1 kvs)))
      else .stuck
    | _, _ => .stuck
  | .join, .str s, [x] => match (lisOf x S).bind strsOf with
    | some ss => if (ss.map (·.length)).sum + ss.length * s.length ≤ 16777216 then .ok (.str (PySem.Txt.join s ss)) S else .stuck
    | none => .stuck
  | .index, x, [y] => match scalD y, (lisOf x S).bind scalDs with
    | some v, some vs => match vs.findIdx? fun z => eqV z v with
      | some j => .ok (.int (j : Nat)) S
      | none => .stuck
    | _, _ => .stuck
  | _, _, _ => .stuck
def rangeD (xs : List D) : Option (List D) := match xs with
  | [.int j] => if -(2 ^ 62) ≤ j ∧ j < 2 ^ 62 then some ((List.range j.toNat).map fun i => .int (0 + (i : Nat))) else none
  | [.int i, .int j] => if -(2 ^ 62) ≤ i ∧ i < 2 ^ 62 ∧ -(2 ^ 62) ≤ j ∧ j < 2 ^ 62 then some ((List.range (j - i).toNat).map fun k => .int (i + (k : Nat))) else none
  | _ => none
def guardOf : D → List D → List (Nat × List D)
  | .ref n, xs => [(n, xs)]
  | _, _ => []
/-- what is walked: the signs of a text, the items of a list, a tuple -/
def itemsOf (x : D) (S : Store) : Option (List D) := match x with
  | .str z => some (z.cps.toList.map fun c => .str ⟨#[c]⟩)
  | x => seqOf x S
def enumD (i : Nat) : List D → List D
  | [] => []
  | x :: xs => .wtp [.int (i : Nat), x] :: enumD (i + 1) xs
def tyS (x : D) (S : Store) : Option Ty7 := match x with
  | .int _ => some .int
  | .bl _ => some .bool
  | .str _ => some .str
  | .non => some .non
  | .tup _ => some .tup
  | .wtp _ => some .tup
  | .new (.lst _) => some .lst
  | .new (.dct _) => some .dct
  | .new _ => none
  | .ref n => match S[n]? with
    | some (.lst _) => some .lst
    | some (.frz _) => some .lst
    | some (.dct _) => some .dct
    | _ => none
def isT : Ty7 → IsT → Bool
  | .int, .int => true
  | .bool, .int => true
  | .bool, .bool => true
  | .str, .str => true
  | .tup, .tuple => true
  | .lst, .list => true
  | .bool, .blt => true
  | .lst, .blt => true
  | .tup, .blt => true
  | _, _ => false
def isiD (x : D) (t : IsT) (S : Store) : Option Bool := match t with
  | .cls _ => none
  | t => (tyS x S).map fun n => isT n t
/-- an own method of the class c: the receiver's cell -/
def methD (c m : Nat) (x : D) (S : Store) (k : Nat → Rs D) : Rs D := match x with
  | .ref n => match S[n]? with
    | some (.ins c' fs) => if c' = c ∧ fs.lookup m = none then k n else .stuck
    | _ => .stuck
  | _ => .stuck
def makeD (c : Nat) (g : List D → Store → Rs D) (xs : List D) (S : Store) : Rs D := (g (.ref (mats xs S).2.length :: (mats xs S).1) ((mats xs S).2 ++ [.ins c []])).bind fun v S3 => match v with
  | .non => .ok (.ref (mats xs S).2.length) S3
  | _ => .stuck
def kwD (ds : List (Nat ⊕ D)) (ys : List D) : List D := ds.map fun z => match z with
  | .inl j => ys.getD j .non
  | .inr d => d
def makeKD (c : Nat) (g : List D → Store → Rs D) (ds : List (Nat ⊕ D)) (xs ys : List D) (S : Store) : Rs D :=
  if xs.all isCell = true ∧ ys.all isCell = true then makeD c g (xs ++ kwD ds ys) S else .stuck
def bmTy (m : Bm) (x : D) (S : Store) : Bool := match m with
  | .append | .pop | .popAt | .insert | .extend => (lstOf x S).isSome
  | .index => (lisOf x S).isSome
  | .get | .setdefault => (dctOf x S).isSome
  | .join => match x with
    | .str _ => true
    | _ => false
  | _ => false
/-! ### the evaluator -/
section
variable (P : Prog) (M : Sm)
mutual
def evalE : E → AEnv → Store → Rs D
  | .var i, ρ, S => match ρ[i]? with
    | some (some d) => .ok d S
    | _ => .stuck
  | .non, _, S => .ok .non S
  | .bl b, _, S => .ok (.bl b) S
  | .int i, _, S => .ok (.int i) S
  | .str s, _, S => .ok (.str s) S
  | .glb k, _, S => match P.globs[k]? with
    | some g => .ok g.2 S
    | none => .stuck
  | .tup es, ρ, S => (evalEs es ρ S).bind fun xs S1 => if xs.length ≤ sizeLine then .ok (.tup xs) S1 else .stuck
  | .lst es, ρ, S => (evalEs es ρ S).bind fun xs S1 => if xs.length ≤ sizeLine then .ok (.new (.lst xs)) S1 else .stuck
  | .dct es, ρ, S => (evalEs es ρ S).bind fun xs S1 => if xs.length ≤ 30 ∧ freshK (twos xs) = true then .ok (.new (.dct (twos xs))) S1 else .stuck
  | .comp2 own g it ifs g1 it1 ifs1 elt, ρ, S => (evalIt it ρ S).bind fun r S1 => (compG r.2 (evalG g) (evalIfs ifs) (fun ρ1 S2 => (evalIt it1 ρ1 S2).bind fun r1 S3 => compG r1.2 (evalG g1) (evalIfs ifs1) (fun ρ2 S4 => (evalE elt ρ2 S4).bind fun y S5 => .ok [y] S5) (wipeD ρ1 g1.slots) r1.1 S3) (wipeD ρ (own.map (·.2))) r.1 S1).noex.bind fun ys S2 => if ys.length ≤ sizeLine then .ok (.new (.lst ys)) S2 else .stuck
  | .dcomp own g it ifs k v, ρ, S => (evalIt it ρ S).bind fun r S1 => (compD r.2 (evalG g) (evalIfs ifs) (evalE k) (evalE v) (wipeD ρ (own.map (·.2))) r.1 [] S1).noex.bind fun kvs S2 => .ok (.new (.dct kvs)) S2
  | .revs e, ρ, S => (evalE e ρ S).bind fun x S1 => match lisOf x S1 with
    | some xs => .ok (.new (.lst xs.reverse)) S1
    | none => .stuck
  | .lens _, _, _ => .stuck
  | .bin o a b, ρ, S => (evalE a ρ S).bind fun x S1 => (evalE b ρ S1).bind fun y S2 => Rs.of (binD o x y S2) S2
  | .neg a, ρ, S => (evalE a ρ S).bind fun x S1 => match x with
    | .int i => .ok (.int (-i)) S1
    | _ => .stuck
  | .cmp o a b, ρ, S => (evalE a ρ S).bind fun x S1 => (evalE b ρ S1).bind fun y S2 => Rs.of ((cmpD o x y S2).map .bl) S2
  | .chain o p a b c, ρ, S => (evalE a ρ S).bind fun x S1 => (evalE b ρ S1).bind fun y S2 => match cmpD o x y S2 with
    | some true => (evalE c ρ S2).bind fun z S3 => Rs.of ((cmpD p y z S3).map .bl) S3
    | some false => .ok (.bl false) S2
    | none => .stuck
  | .and es, ρ, S => evalAnd es ρ S
  | .or es, ρ, S => evalOr es ρ S
  | .not a, ρ, S => (evalE a ρ S).bind fun x S1 => match truD x S1 with
    | some k => .ok (.bl (!k)) S1
    | none => .stuck
  | .ite c a b, ρ, S => (evalE c ρ S).bind fun x S1 => match truD x S1 with
    | some true => evalE a ρ S1
    | some false => evalE b ρ S1
    | none => .stuck
  | .idx a i, ρ, S => (evalE a ρ S).bind fun x S1 => (evalE i ρ S1).bind fun y S2 => Rs.of (idxD x y S2) S2
  | .slc a lo hi, ρ, S => (evalE a ρ S).bind fun x S1 => (evalO lo ρ S1).bind fun l S2 => (evalO hi ρ S2).bind fun h S3 => Rs.of (slcD x l h S3) S3
  | .attr e f, ρ, S => (evalE e ρ S).bind fun x S1 => Rs.of (attrD x f S1) S1
  | .call f es, ρ, S => (evalEs es ρ S).bind fun xs S1 => let r := mats xs S1; M.call f r.1 r.2
  | .meth o c m f es, ρ, S => (evalE o ρ S).bind fun x S1 => methD c m (mat x S1).1 (mat x S1).2 fun n => (evalEs es ρ (mat x S1).2).bind fun xs S2 => M.call f (.ref n :: (mats xs S2).1) (mats xs S2).2
  | .make c es, ρ, S => match P.cls[c]? with
    | none => .stuck
    | some cl => (evalEs es ρ S).bind fun xs S1 => makeD c (M.init cl.init) xs S1
  | .makek c es ks _ ds, ρ, S => match P.cls[c]? with
    | none => .stuck
    | some cl => (evalEs es ρ S).bind fun xs S1 => (evalEs ks ρ S1).bind fun ys S2 => makeKD c (M.init cl.init) ds xs ys S2
  | .blt f es, ρ, S => (evalEs es ρ S).bind fun xs S1 => Rs.of (bltD f xs S1) S1
  | .bm m o es, ρ, S => (evalE o ρ S).bind fun x S1 => if bmTy m x S1 = true then (evalEs es ρ S1).bind fun xs S2 => bmD m x xs S2 else .stuck
  | .isi e t, ρ, S => (evalE e ρ S).bind fun x S1 => Rs.of ((isiD x t S1).map .bl) S1
  | .comp own g it ifs elt, ρ, S => (evalIt it ρ S).bind fun r S1 => (compF r.2 (evalG g) (evalIfs ifs) (evalE elt) (wipeD ρ (own.map (·.2))) r.1 S1).noex.bind fun ys S2 => if ys.length ≤ sizeLine then .ok (.new (.lst ys)) S2 else .stuck
def evalEs : List E → AEnv → Store → Rs (List D)
  | [], _, S => .ok [] S
  | e :: es, ρ, S => (evalE e ρ S).bind fun x S1 => (evalEs es ρ S1).bind fun xs S2 => .ok (x :: xs) S2
def evalO : Option E → AEnv → Store → Rs (Option Int)
  | none, _, S => .ok none S
  | some e, ρ, S => (evalE e ρ S).bind fun x S1 => match x with
    | .int i => .ok (some i) S1
    | _ => .stuck
def evalAnd : List E → AEnv → Store → Rs D
  | [], _, _ => .stuck
  | [e], ρ, S => evalE e ρ S
  | e :: es, ρ, S => (evalE e ρ S).bind fun x S1 => match truD x S1 with
    | some true => evalAnd es ρ S1
    | some false => .ok x S1
    | none => .stuck
def evalOr : List E → AEnv → Store → Rs D
  | [], _, _ => .stuck
  | [e], ρ, S => evalE e ρ S
  | e :: es, ρ, S => (evalE e ρ S).bind fun x S1 => match truD x S1 with
    | some true => .ok x S1
    | some false => evalOr es ρ S1
    | none => .stuck
def evalIfs : List E → AEnv → Store → Rs Bool
  | [], _, S => .ok true S
  | [e], ρ, S => (evalE e ρ S).bind fun x S1 => Rs.of (truD x S1) S1
  | _, _, _ => .stuck
def evalIt : It → AEnv → Store → Rs (List D × List (Nat × List D))
  | .of e, ρ, S => (evalE e ρ S).bind fun x S1 => match itemsOf x S1 with
    | some xs => .ok (xs, guardOf x xs) S1
    | none => .stuck
  | .range es, ρ, S => (evalEs es ρ S).bind fun xs S1 => match rangeD xs with
    | some ys => .ok (ys, []) S1
    | none => .stuck
  | .enum e, ρ, S => (evalE e ρ S).bind fun x S1 => match lisOf x S1 with
    | some xs => .ok (enumD 0 xs, guardOf x xs) S1
    | none => .stuck
  | .zip a b, ρ, S => (evalE a ρ S).bind fun x S1 => (evalE b ρ S1).bind fun y S2 => match x, y with
    | .tup xs, .tup ys => .ok (zipD xs ys, []) S2
    | x, y => match lisOf x S2, lisOf y S2 with
      | some xs, some ys => .ok (zipD xs ys, guardOf x xs ++ guardOf y ys) S2
      | _, _ => .stuck
  | .rev e, ρ, S => (evalE e ρ S).bind fun x S1 => match seqOf x S1 with
    | some xs => .ok (xs.reverse, guardOf x xs) S1
    | none => .stuck
end
mutual
def evalS : St → AEnv → Store → Rs (Fl × AEnv)
  | .expr e, ρ, S => (evalE P M e ρ S).bind fun _ S1 => .ok (.nx, ρ) S1
  | .set i e, ρ, S => (evalE P M e ρ S).bind fun x S1 => (storeD i x ρ S1).bind fun ρ1 S2 => .ok (.nx, ρ1) S2
  | .unp g e, ρ, S => (evalE P M e ρ S).bind fun x S1 => (evalG g x ρ S1).bind fun ρ1 S2 => .ok (.nx, ρ1) S2
  | .par is es, ρ, S => (evalEs P M es ρ S).bind fun xs S1 => .ok (.nx, parD is (mats xs S1).1 ρ) (mats xs S1).2
  | .attr o f e, ρ, S => (evalE P M e ρ S).bind fun y S1 => (evalE P M o ρ S1).bind fun x S2 => let r := mat y S2; (Rs.of (setAttr x f r.1 r.2) S2).bind fun S3 _ => .ok (.nx, ρ) S3
  | .sub o i e, ρ, S => (evalE P M e ρ S).bind fun y S1 => (evalE P M o ρ S1).bind fun x S2 => (evalE P M i ρ S2).bind fun k S3 => let r := mat y S3; (Rs.of (setSub x k r.1 r.2) S3).bind fun S4 _ => .ok (.nx, ρ) S4
  | .ite c a b, ρ, S => (evalE P M c ρ S).bind fun x S1 => match truD x S1 with
    | some true => evalSs a ρ S1
    | some false => evalSs b ρ S1
    | none => .stuck
  | .wh c b, ρ, S => whF (fun ρ S => (evalE P M c ρ S).bind fun x S1 => Rs.of (truD x S1) S1) (evalSs b) WF ρ S
  | .forr g it b gc, ρ, S => (evalIt P M it ρ S).bind fun r S1 => forF r.2 gc (evalG g) (evalSs b) r.1 ρ S1
  | .ret e, ρ, S => (evalE P M e ρ S).bind fun x S1 => .ok (.rt x, ρ) S1
  | .retN, ρ, S => .ok (.rt .non, ρ) S
  | .pass, ρ, S => .ok (.nx, ρ) S
  | .cont, ρ, S => .ok (.ct, ρ) S
  | .brk, ρ, S => .ok (.bk, ρ) S
  | .raise, _, _ => .stuck
def evalSs : List St → AEnv → Store → Rs (Fl × AEnv)
  | [], ρ, S => .ok (.nx, ρ) S
  | s :: r, ρ, S => (evalS s ρ S).bind fun q S1 => match q.1 with
    | .nx => evalSs r q.2 S1
    | _ => .ok q S1
end
/-- a def's end -/
def finF (gc : Bool) (S : Store) (d : D) (S' : Store) : Rs D := match gc with
  | false => .ok d S'
  | true => match reify S' S.length 6 d, trunc S S' with
    | some (d', us), some T => if us.Nodup then .ok d' T else .stuck
    | _, _ => .stuck
def runF (f : Nat) (args : List D) (S : Store) : Rs D := match P.fns[f]? with
  | none => .stuck
  | some fn => if args.length = fn.ps ∧ fn.ps ≤ fn.slots then
      (evalSs P M fn.body (args.map some ++ List.replicate (fn.slots - fn.ps) none) S).bind fun q S' => match q.1 with
        | .nx => finF fn.gc S .non S'
        | .rt d => finF fn.gc S d S'
        | _ => .stuck
    else .stuck
end
/-- calls, d deep -/
def sm (P : Prog) : Nat → Sm
  | 0 => ⟨fun _ _ _ => .stuck, fun _ _ _ => .stuck⟩
  | d + 1 => ⟨runF P (sm P d), (sm P d).call⟩
end Nv
/-! Nv: what it means that a reading agrees with the evaluator; the bricks. -/
namespace Nv
open PySem PySem.Spec PyProof.Rows L2
theorem Rs.bind_ok {α β : Type} {r : Rs α} {f : α → Store → Rs β} {b : β} {S' : Store} (h : r.bind f = .ok b S') : ∃ a S1, r = .ok a S1 ∧ f a S1 = .ok b S' := by
  cases r with
  | ok a S1 => exact ⟨a, S1, rfl, h⟩
  | ex x S1 => cases h
  | stuck => cases h

mutual
theorem Rep.trk {C : Cxt} {H : Hp} {L : List Addr} : ∀ {d : D} {v : V} {F : List Addr}, Rep C H L d v F → ∀ a ∈ F, ∃ o, H a = some o
  | _, _, _, .non, a, h => nomatch h
  | _, _, _, .bl b, a, h => nomatch h
  | _, _, _, .int i, a, h => nomatch h
  | _, _, _, .str s, a, h => nomatch h
  | _, _, _, .tup _ r, a, h => Reps.trk r a h
  | _, _, _, .wtp _ r, a, h => Reps.trk r a h
  | _, _, _, .ref _, a, h => nomatch h
  | _, _, _, .new h0 r, a, h => by
    rcases List.mem_cons.mp h with e | h
    · exact ⟨_, e ▸ h0⟩
    · exact RepO.trk r a h
theorem Reps.trk {C : Cxt} {H : Hp} {L : List Addr} : ∀ {d : List D} {v : List V} {F : List Addr}, Reps C H L d v F → ∀ a ∈ F, ∃ o, H a = some o
  | _, _, _, .nil, a, h => nomatch h
  | _, _, _, .cons r s, a, h => (List.mem_append.mp h).elim (Rep.trk r a) (Reps.trk s a)
theorem RepKs.trk {C : Cxt} {H : Hp} {L : List Addr} : ∀ {d : List (D × D)} {v : List (Key × V)} {F : List Addr}, RepKs C H L d v F → ∀ a ∈ F, ∃ o, H a = some o
  | _, _, _, .nil, a, h => nomatch h
  | _, _, _, .cons _ r s, a, h => (List.mem_append.mp h).elim (Rep.trk r a) (RepKs.trk s a)
theorem RepFs.trk {C : Cxt} {H : Hp} {L : List Addr} : ∀ {d : List (Nat × D)} {v : List (Str × V)} {F : List Addr}, RepFs C H L d v F → ∀ a ∈ F, ∃ o, H a = some o
  | _, _, _, .nil, a, h => nomatch h
  | _, _, _, .cons r s, a, h => (List.mem_append.mp h).elim (Rep.trk r a) (RepFs.trk s a)
theorem RepO.trk {C : Cxt} {H : Hp} {L : List Addr} : ∀ {d : O} {v : HO} {F : List Addr}, RepO C H L d v F → ∀ a ∈ F, ∃ o, H a = some o
  | _, _, _, .lst r, a, h => Reps.trk r a h
  | _, _, _, .dct r, a, h => RepKs.trk r a h
  | _, _, _, .ins _ r, a, h => RepFs.trk r a h
end
theorem Reps.length {C : Cxt} {H : Hp} {L : List Addr} : ∀ {d : List D} {v : List V} {F : List Addr}, Reps C H L d v F → d.length = v.length
  | _, _, _, .nil => rfl
  | _, _, _, .cons _ s => congrArg Nat.succ s.length

/-- a result d, standing as v in H' with the cells at L' (the store S'), from H with the cells at L -/
structure Post (C : Cxt) (H : Hp) (L : List Addr) (S' : Store) (d : D) (v : V) (H' : Hp) (L' F : List Addr) : Prop where
  ext : Ext H L H' L'
  sim : SimS C H' L' S'
  rep : Rep C H' L' d v F
  fr : Fr H F L'
structure PostL (C : Cxt) (H : Hp) (L : List Addr) (S' : Store) (d : List D) (v : List V) (H' : Hp) (L' F : List Addr) : Prop where
  ext : Ext H L H' L'
  sim : SimS C H' L' S'
  rep : Reps C H' L' d v F
  fr : Fr H F L'
/-- made objects of an earlier result stay apart from what comes later -/
theorem Fr.later {H H1 H2 : Hp} {L L1 L2 F G : List Addr} (e1 : Ext H L H1 L1) (f : Fr H F L1) (tr : ∀ a ∈ F, ∃ o, H1 a = some o) (e2 : Ext H1 L1 H2 L2) (g : Fr H1 G L2) : Fr H (F ++ G) L2 := by
  obtain ⟨M, em, nm⟩ := e2.pre
  refine ⟨fun a h => ?_, ?_, fun a h => ?_⟩
  · rcases List.mem_append.mp h with h | h
    · exact f.new a h
    · exact e1.dom a (g.new a h)
  · rw [List.nodup_append]
    refine ⟨f.nd, g.nd, fun a ha b hb e => ?_⟩
    subst e
    obtain ⟨o, q⟩ := tr a ha
    rw [g.new a hb] at q; cases q
  · rcases List.mem_append.mp h with h | h
    · rw [em]
      intro hm
      rcases List.mem_append.mp hm with q | q
      · exact f.out a h q
      · obtain ⟨o, r⟩ := tr a h
        rw [nm a q] at r; cases r
    · exact g.out a h
theorem Post.seq {C : Cxt} {H H1 H2 : Hp} {L L1 L2 F G : List Addr} {S1 S2 : Store} {x y : D} {vx vy : V} (a : Post C H L S1 x vx H1 L1 F) (b : Post C H1 L1 S2 y vy H2 L2 G) :
    Ext H L H2 L2 ∧ Rep C H2 L2 x vx F ∧ Fr H (F ++ G) L2 :=
  ⟨a.ext.trans b.ext, a.rep.car (b.ext.car a.fr.out), a.fr.later a.ext a.rep.trk b.ext b.fr⟩
theorem Post.seqL {C : Cxt} {H H1 H2 : Hp} {L L1 L2 F G : List Addr} {S1 S2 : Store} {x : D} {y : List D} {vx : V} {vy : List V} (a : Post C H L S1 x vx H1 L1 F) (b : PostL C H1 L1 S2 y vy H2 L2 G) :
    Ext H L H2 L2 ∧ Rep C H2 L2 x vx F ∧ Fr H (F ++ G) L2 :=
  ⟨a.ext.trans b.ext, a.rep.car (b.ext.car a.fr.out), a.fr.later a.ext a.rep.trk b.ext b.fr⟩
theorem PostL.seqL {C : Cxt} {H H1 H2 : Hp} {L L1 L2 F G : List Addr} {S1 S2 : Store} {x : List D} {y : List D} {vx : List V} {vy : List V} (a : PostL C H L S1 x vx H1 L1 F) (b : PostL C H1 L1 S2 y vy H2 L2 G) :
    Ext H L H2 L2 ∧ Reps C H2 L2 x vx F ∧ Fr H (F ++ G) L2 :=
  ⟨a.ext.trans b.ext, a.rep.car (b.ext.car a.fr.out), a.fr.later a.ext a.rep.trk b.ext b.fr⟩
theorem PostL.cons {C : Cxt} {H H1 H2 : Hp} {L L1 L2 F G : List Addr} {S1 S2 : Store} {x : D} {y : List D} {vx : V} {vy : List V} (a : Post C H L S1 x vx H1 L1 F) (b : PostL C H1 L1 S2 y vy H2 L2 G) :
    PostL C H L S2 (x :: y) (vx :: vy) H2 L2 (F ++ G) := by
  obtain ⟨e, r, f⟩ := a.seqL b
  exact ⟨e, b.sim, .cons r b.rep, f⟩

/-- what holds of a result -/
def Rs.sat {α : Type} (r : Rs α) (A : α → Store → Prop) (B : Exn → Store → Prop) : Prop := match r with
  | .ok a S => A a S
  | .ex x S => B x S
  | .stuck => False
theorem sat_bind {α β : Type} {r : Rs α} {f : α → Store → Rs β} {A : β → Store → Prop} {B : Exn → Store → Prop} (h : (r.bind f).sat A B) : r.sat (fun a S => (f a S).sat A B) B := by
  cases r with
  | ok a S => exact h
  | ex x S => exact h
  | stuck => exact h
theorem sat_mono {α : Type} {r : Rs α} {A A' : α → Store → Prop} {B B' : Exn → Store → Prop} (h : r.sat A B) (ha : ∀ a S, A a S → A' a S) (hb : ∀ x S, B x S → B' x S) : r.sat A' B' := by
  cases r with
  | ok a S => exact ha a S h
  | ex x S => exact hb x S h
  | stuck => exact h
theorem sat_of {α : Type} {o : Option α} {S : Store} {A : α → Store → Prop} {B : Exn → Store → Prop} (h : (Rs.of o S).sat A B) : ∃ a, o = some a ∧ A a S := by
  cases o with
  | some a => exact ⟨a, rfl, h⟩
  | none => exact h.elim
/-- exceptions: how the abstract one lies in the heap -/
abbrev XR := Exn → Value → Option Addr → Hp → Prop
/-- the wish about exceptions, from H with the cells at L -/
def ExW (C : Cxt) (R : XR) (E : XK) (H : Hp) (L : List Addr) (x : Exn) (S' : Store) : Prop := ∀ cls dd H' L', Ext H L H' L' → SimS C H' L' S' → R x cls dd H' → E cls dd H'
theorem ExW.later {C : Cxt} {R : XR} {E : XK} {H H1 : Hp} {L L1 : List Addr} {x : Exn} {S' : Store} (e : Ext H L H1 L1) (h : ExW C R E H L x S') : ExW C R E H1 L1 x S' := fun cls dd H' L' e' => h cls dd H' L' (e.trans e')
def OkW (C : Cxt) (H : Hp) (L : List Addr) (Q : VK) (d : D) (S' : Store) : Prop := ∀ v H' L' F, Post C H L S' d v H' L' F → Q v H'
def OkL (C : Cxt) (H : Hp) (L : List Addr) (Q : List V → Hp → Prop) (d : List D) (S' : Store) : Prop := ∀ v H' L' F, PostL C H L S' d v H' L' F → Q v H'
def OkP {α : Type} (C : Cxt) (H : Hp) (L : List Addr) (Q : α → Hp → Prop) (d : α) (S' : Store) : Prop := ∀ H' L', Ext H L H' L' → SimS C H' L' S' → Q d H'
def GoodE (C : Cxt) (R : XR) (E : XK) (t : TE) (f : AEnv → Store → Rs D) : Prop :=
  ∀ (σ : L2.St) (H : Hp) (L : List Addr) (ρ : AEnv) (S : Store) (Q : VK), SimS C H L S → SimE C H L ρ σ → (f ρ S).sat (OkW C H L Q) (ExW C R E H L) → t σ H Q
def GoodA (C : Cxt) (R : XR) (E : XK) (t : TA) (f : AEnv → Store → Rs (List D)) : Prop :=
  ∀ (σ : L2.St) (H : Hp) (L : List Addr) (ρ : AEnv) (S : Store) (Q : List V → Hp → Prop), SimS C H L S → SimE C H L ρ σ → (f ρ S).sat (OkL C H L Q) (ExW C R E H L) → t σ H Q
def GoodT (C : Cxt) (R : XR) (E : XK) (t : TT) (f : AEnv → Store → Rs Bool) : Prop :=
  ∀ (σ : L2.St) (H : Hp) (L : List Addr) (ρ : AEnv) (S : Store) (Q : Bool → Hp → Prop), SimS C H L S → SimE C H L ρ σ → (f ρ S).sat (OkP C H L Q) (ExW C R E H L) → t σ H Q
def GoodO (C : Cxt) (R : XR) (E : XK) (t : TO) (f : AEnv → Store → Rs (Option Int)) : Prop :=
  ∀ (σ : L2.St) (H : Hp) (L : List Addr) (ρ : AEnv) (S : Store) (Q : Option Int → Hp → Prop), SimS C H L S → SimE C H L ρ σ → (f ρ S).sat (OkP C H L Q) (ExW C R E H L) → t σ H Q
/-- a reading first, then the rest -/
theorem GoodE.first {C : Cxt} {R : XR} {E : XK} {t : TE} {f : AEnv → Store → Rs D} (g : GoodE C R E t f) {α : Type} {σ : L2.St} {H : Hp} {L : List Addr} {ρ : AEnv} {S : Store} {Q : VK} (s : SimS C H L S) (e : SimE C H L ρ σ)
    {k : D → Store → Rs α} {A : α → Store → Prop} {B : Exn → Store → Prop} (hB : ∀ x S', B x S' → ExW C R E H L x S') (h : ((f ρ S).bind k).sat A B)
    (ok : ∀ x S1 v H1 L1 F, Post C H L S1 x v H1 L1 F → SimE C H1 L1 ρ σ → (k x S1).sat A B → Q v H1) : t σ H Q := by
  refine g σ H L ρ S Q s e (sat_mono (sat_bind h) (fun x S1 hk v H1 L1 F p => ?_) hB)
  exact ok x S1 v H1 L1 F p (e.ext p.ext) hk
theorem GoodA.first {C : Cxt} {R : XR} {E : XK} {t : TA} {f : AEnv → Store → Rs (List D)} (g : GoodA C R E t f) {α : Type} {σ : L2.St} {H : Hp} {L : List Addr} {ρ : AEnv} {S : Store} {Q : List V → Hp → Prop} (s : SimS C H L S) (e : SimE C H L ρ σ)
    {k : List D → Store → Rs α} {A : α → Store → Prop} {B : Exn → Store → Prop} (hB : ∀ x S', B x S' → ExW C R E H L x S') (h : ((f ρ S).bind k).sat A B)
    (ok : ∀ x S1 v H1 L1 F, PostL C H L S1 x v H1 L1 F → SimE C H1 L1 ρ σ → (k x S1).sat A B → Q v H1) : t σ H Q := by
  refine g σ H L ρ S Q s e (sat_mono (sat_bind h) (fun x S1 hk v H1 L1 F p => ?_) hB)
  exact ok x S1 v H1 L1 F p (e.ext p.ext) hk
theorem GoodT.first {C : Cxt} {R : XR} {E : XK} {t : TT} {f : AEnv → Store → Rs Bool} (g : GoodT C R E t f) {α : Type} {σ : L2.St} {H : Hp} {L : List Addr} {ρ : AEnv} {S : Store} {Q : Bool → Hp → Prop} (s : SimS C H L S) (e : SimE C H L ρ σ)
    {k : Bool → Store → Rs α} {A : α → Store → Prop} {B : Exn → Store → Prop} (hB : ∀ x S', B x S' → ExW C R E H L x S') (h : ((f ρ S).bind k).sat A B)
    (ok : ∀ x S1 H1 L1, Ext H L H1 L1 → SimS C H1 L1 S1 → SimE C H1 L1 ρ σ → (k x S1).sat A B → Q x H1) : t σ H Q := by
  refine g σ H L ρ S Q s e (sat_mono (sat_bind h) (fun x S1 hk H1 L1 p q => ?_) hB)
  exact ok x S1 H1 L1 p q (e.ext p) hk
theorem GoodO.first {C : Cxt} {R : XR} {E : XK} {t : TO} {f : AEnv → Store → Rs (Option Int)} (g : GoodO C R E t f) {α : Type} {σ : L2.St} {H : Hp} {L : List Addr} {ρ : AEnv} {S : Store} {Q : Option Int → Hp → Prop} (s : SimS C H L S) (e : SimE C H L ρ σ)
    {k : Option Int → Store → Rs α} {A : α → Store → Prop} {B : Exn → Store → Prop} (hB : ∀ x S', B x S' → ExW C R E H L x S') (h : ((f ρ S).bind k).sat A B)
    (ok : ∀ x S1 H1 L1, Ext H L H1 L1 → SimS C H1 L1 S1 → SimE C H1 L1 ρ σ → (k x S1).sat A B → Q x H1) : t σ H Q := by
  refine g σ H L ρ S Q s e (sat_mono (sat_bind h) (fun x S1 hk H1 L1 p q => ?_) hB)
  exact ok x S1 H1 L1 p q (e.ext p) hk

/-! ### the judgements -/
def EE (C : Cxt) (R : XR) (X : Cx) (E : XK) (e : Expr) (f : AEnv → Store → Rs D) : Prop := ∃ t, PE X e t ∧ GoodE C R E t f
def EA (C : Cxt) (R : XR) (X : Cx) (E : XK) (e : List Expr) (f : AEnv → Store → Rs (List D)) : Prop := ∃ t, PA X e t ∧ GoodA C R E t f
/-- as a test -/
def truF (f : AEnv → Store → Rs D) : AEnv → Store → Rs Bool := fun ρ S => (f ρ S).bind fun x S1 => Rs.of (truD x S1) S1
def ET (C : Cxt) (R : XR) (X : Cx) (E : XK) (e : Expr) (f : AEnv → Store → Rs D) : Prop := ∃ t, PT X e t ∧ GoodT C R E t (truF f)
def EO (C : Cxt) (R : XR) (X : Cx) (E : XK) (e : Option Expr) (f : AEnv → Store → Rs (Option Int)) : Prop := ∃ t, PO X e t ∧ GoodO C R E t f
end Nv
/-! Nv: expressions: names, numbers, operators, comparisons, and, or, if. -/
namespace Nv
open PySem PySem.Spec PyProof.Rows L2
section
variable {C : Cxt} {H H' : Hp} {L L' : List Addr} {S S' : Store}
theorem Cell.lst {a : Addr} {xs : List D} (h : Cell C H L a (.lst xs)) : ∃ vs, H a = some (.lst vs) ∧ Reps C H L xs vs [] := by
  obtain ⟨ho, e, r⟩ := h
  cases r with
  | lst r => exact ⟨_, e, r⟩
theorem Cell.ins {a : Addr} {c : Nat} {fs : List (Nat × D)} (h : Cell C H L a (.ins c fs)) : ∃ dx vs, H a = some (.ins (C.CA c) dx vs) ∧ RepFs C H L fs vs [] ∧ c < C.nc := by
  obtain ⟨ho, e, r⟩ := h
  cases r with
  | ins q r => exact ⟨_, _, e, r, q⟩
theorem Cell.dct {a : Addr} {kvs : List (D × D)} (h : Cell C H L a (.dct kvs)) : ∃ vs, H a = some (.dK vs) ∧ RepKs C H L kvs vs [] := by
  obtain ⟨ho, e, r⟩ := h
  cases r with
  | dct r => exact ⟨_, e, r⟩
/-- the cell of a reference -/
theorem SimS.at (s : SimS C H L S) {n : Nat} {v : V} {F : List Addr} (r : Rep C H L (.ref n) v F) : F = [] ∧ ∃ a, v = .ref a ∧ L[n]? = some a ∧ ∀ o, S[n]? = some o → Cell C H L a o := by
  cases r with
  | ref h => exact ⟨rfl, _, rfl, h, fun o e => s.cell n o _ e h⟩
/-- a list's, a tuple's items -/
theorem seq_of (s : SimS C H L S) {x : D} {v : V} {F : List Addr} {xs : List D} (r : Rep C H L x v F) (h : seqOf x S = some xs) :
    ∃ a vs G, v = .ref a ∧ Reps C H L xs vs G ∧ G.Sublist F ∧ ((SqL C.K H a vs ∧ (∀ ys, x ≠ .tup ys)) ∨ (SqT C.K H a vs ∧ TupS C.K H a vs ∧ x = .tup xs)) := by
  cases r with
  | tup hq rs =>
    cases h
    exact ⟨_, _, _, rfl, rs, List.Sublist.refl _, .inr ⟨hq.sq, hq, rfl⟩⟩
  | new ha ro =>
    cases ro with
    | lst rs =>
      cases h
      exact ⟨_, _, _, rfl, rs, List.sublist_cons_self _ _, .inl ⟨SqL.of ha, fun ys q => nomatch q⟩⟩
    | dct _ => cases h
    | ins _ _ => cases h
  | ref hl =>
    rename_i n a
    have hc := s.cell n
    simp only [seqOf] at h
    cases e : S[n]? with
    | none => rw [e] at h; cases h
    | some o =>
      rw [e] at h
      have c := hc o a e hl
      cases o with
      | lst ys =>
        cases h
        obtain ⟨vs, e1, e2⟩ := c.lst
        exact ⟨a, vs, [], rfl, e2, List.Sublist.refl _, .inl ⟨SqL.of e1, fun ys q => nomatch q⟩⟩
      | frz ys =>
        cases h
        obtain ⟨ob, vs, e1, e2⟩ := c
        exact ⟨a, vs, [], rfl, e2, List.Sublist.refl _, .inl ⟨.inl (.inr ⟨ob, e1⟩), fun ys q => nomatch q⟩⟩
      | dct _ => cases h
      | ins _ _ => cases h
  | _ => cases h
theorem Fr.end {H H2 : Hp} {L L2 L' Z F : List Addr} (e : Ext H L H2 L2) (f : Fr H Z L2) (h1 : ∀ a ∈ F, a ∈ Z ∨ H2 a = none) (h2 : F.Nodup) (h3 : ∀ a ∈ F, a ∉ L') : Fr H F L' :=
  ⟨fun a ha => (h1 a ha).elim (f.new a) fun q => e.dom a q, h2, h3⟩
/-- the heap with a new object -/
theorem Ext.new {p : Addr} {o : HO} (hp : H p = none) : Ext H L (upd H p o) L := by
  refine ⟨⟨[], by simp, by simp⟩, fun a o _ h => ?_, fun b xs h => ?_, fun b o u h => ?_, fun a h => ?_⟩
  · rw [upd_ne (ne_of_none h hp)]; exact h
  · rw [upd_ne (ne_of_none h hp)]; exact h
  · rw [upd_ne (ne_of_none h hp)]; exact h
  · by_cases q : a = p
    · subst q; exact hp
    · rwa [upd_ne q] at h
theorem SimS.new (s : SimS C H L S) {p : Addr} {o : HO} (hp : H p = none) (hL : p ∉ L) : SimS C (upd H p o) L S := by
  refine ⟨s.len, s.nd, fun n c a h1 h2 => ?_⟩
  have k := s.cell n c a h1 h2
  have ne : a ≠ p := fun e => hL (e ▸ List.mem_of_getElem? h2)
  have car : Car H L (upd H p o) L [] := (Ext.new (L := L) hp).car0
  cases c with
  | frz xs =>
    obtain ⟨ob, vs, e1, e2⟩ := k
    exact ⟨ob, vs, by rw [upd_ne ne]; exact e1, e2.car car⟩
  | lst xs => obtain ⟨ho, e1, e2⟩ := k; exact ⟨ho, by rw [upd_ne ne]; exact e1, e2.car car⟩
  | dct xs => obtain ⟨ho, e1, e2⟩ := k; exact ⟨ho, by rw [upd_ne ne]; exact e1, e2.car car⟩
  | ins c xs => obtain ⟨ho, e1, e2⟩ := k; exact ⟨ho, by rw [upd_ne ne]; exact e1, e2.car car⟩
theorem SimS.notin (s : SimS C H L S) {p : Addr} (hp : H p = none) : p ∉ L := by
  intro hm
  obtain ⟨n, hn, e⟩ := List.mem_iff_getElem.mp hm
  have hn' : n < S.length := s.len ▸ hn
  have k := s.cell n S[n] p (List.getElem?_eq_getElem hn') (by rw [List.getElem?_eq_getElem hn, e])
  cases q : S[n] with
  | frz xs => rw [q] at k; obtain ⟨ob, vs, e1, _⟩ := k; rw [hp] at e1; cases e1
  | lst xs => rw [q] at k; obtain ⟨ho, e1, _⟩ := k; rw [hp] at e1; cases e1
  | dct xs => rw [q] at k; obtain ⟨ho, e1, _⟩ := k; rw [hp] at e1; cases e1
  | ins c xs => rw [q] at k; obtain ⟨ho, e1, _⟩ := k; rw [hp] at e1; cases e1
end

/-! ### a new list, a new tuple as the result -/
section
variable {C : Cxt} {H H2 : Hp} {L L2 : List Addr} {S2 : Store}
theorem post_lst {xs : List D} {vs : List V} {F : List Addr} {p : Addr} (e : Ext H L H2 L2) (s : SimS C H2 L2 S2) (r : Reps C H2 L2 xs vs F) (f : Fr H F L2) (hp : H2 p = none) :
    Post C H L S2 (.new (.lst xs)) (.ref p) (upd H2 p (.lst vs)) L2 (p :: F) := by
  have hn := s.notin hp
  have e2 : Ext H2 L2 (upd H2 p (.lst vs)) L2 := Ext.new hp
  refine ⟨e.trans e2, s.new hp hn, .new upd_same (.lst (r.car (e2.car f.out))), ⟨fun a ha => ?_, ?_, fun a ha => ?_⟩⟩
  · rcases List.mem_cons.mp ha with q | q
    · rw [q]; exact e.dom p hp
    · exact f.new a q
  · refine List.nodup_cons.mpr ⟨fun q => ?_, f.nd⟩
    obtain ⟨o, w⟩ := r.trk p q
    rw [hp] at w; cases w
  · rcases List.mem_cons.mp ha with q | q
    · rw [q]; exact hn
    · exact f.out a q
theorem post_tup {xs : List D} {vs : List V} {F : List Addr} {p : Addr} (e : Ext H L H2 L2) (s : SimS C H2 L2 S2) (r : Reps C H2 L2 xs vs F) (f : Fr H F L2) (hp : H2 p = none) :
    ∀ o, TObj o → Post C H L S2 (.tup xs) (.ref p) (upd H2 p (.frz o (.tup vs))) L2 F := by
  intro o ho
  have hn := s.notin hp
  have e2 : Ext H2 L2 (upd H2 p (.frz o (.tup vs))) L2 := Ext.new hp
  exact ⟨e.trans e2, s.new hp hn, .tup (.inl ⟨o, upd_same, ho.cls, ho.dict⟩) (r.car (e2.car f.out)), f⟩
theorem post_same {d : D} {v : V} {F Z : List Addr} (e : Ext H L H2 L2) (s : SimS C H2 L2 S2) (r : Rep C H2 L2 d v F) (f : Fr H Z L2) (h : F.Sublist Z) : Post C H L S2 d v H2 L2 F :=
  ⟨e, s, r, fun a ha => f.new a (h.subset ha), f.nd.sublist h, fun a ha => f.out a (h.subset ha)⟩
end

section
variable {C : Cxt} {R : XR} {X : Cx} {E : XK} {pos : Pos}
/-! ### names, constants -/
theorem ee_var {i : Nat} {x : Str} (hN : X.N[i]? = some x) (hv : Vis X.env.scope x) (hd : (x == ("__debug__" : Str)) = false) (hcd : (x == ("__classdict__" : Str)) = false) :
    EE C R X E (.Name x pos) (fun ρ S => match ρ[i]? with
      | some (some d) => .ok d S
      | _ => .stuck) := by
  refine ⟨tVar i, pe_var hN hv hd hcd, fun σ H L ρ S Q s e h => ?_⟩
  dsimp only at h
  cases q : ρ[i]? with
  | none => rw [q] at h; exact h.elim
  | some o =>
    rw [q] at h
    cases o with
    | none => exact h.elim
    | some d =>
      obtain ⟨v, h1, h2⟩ := e.2 i d q
      exact ⟨v, h1, h v H L [] ⟨Ext.refl H L, s, h2, Fr.nil H L⟩⟩
theorem ee_c {c : Expr} {d : D} {v : V} (h : PE X c (tC v)) (r : ∀ H L, Rep C H L d v []) : EE C R X E c (fun _ S => .ok d S) :=
  ⟨tC v, h, fun σ H L ρ S Q s e h => h v H L [] ⟨Ext.refl H L, s, r H L, Fr.nil H L⟩⟩
/-- a constant of the module -/
theorem ee_glob {x : Str} {d : D} {v : V} {u : Value} (hg : Gl X x) (hm : X.mg x = some u) (ru : RelV v u) (hd : (x == ("__debug__" : Str)) = false) (r : ∀ H L, Rep C H L d v []) : EE C R X E (.Name x pos) (fun _ S => .ok d S) :=
  ee_c (pe_glob hg hm ru hd) r
/-! ### lists of expressions -/
theorem ea_nil : EA C R X E [] (fun _ S => .ok [] S) :=
  ⟨tNil, pa_nil, fun σ H L ρ S Q s e h => h [] H L [] ⟨Ext.refl H L, s, .nil, Fr.nil H L⟩⟩
theorem ea_cons {e : Expr} {es : List Expr} {f : AEnv → Store → Rs D} {g : AEnv → Store → Rs (List D)} (a : EE C R X E e f) (b : EA C R X E es g) (hs : starEach (e :: es) X.env = (false, eval e X.env) :: starEach es X.env) :
    EA C R X E (e :: es) (fun ρ S => (f ρ S).bind fun x S1 => (g ρ S1).bind fun xs S2 => .ok (x :: xs) S2) := by
  obtain ⟨ta, pa, ga⟩ := a
  obtain ⟨tb, pb, gb⟩ := b
  refine ⟨tCons ta tb, pa_cons pa pb hs, fun σ H L ρ S Q s e h => ?_⟩
  refine ga.first s e (fun _ _ z => z) h fun x S1 v H1 L1 F p1 e1 h1 => ?_
  refine gb.first p1.sim e1 (fun _ _ z => z.later p1.ext) h1 fun xs S2 vs H2 L2 G p2 e2 h2 => ?_
  exact h2 (v :: vs) H2 L2 (F ++ G) (.cons p1 p2)
theorem ee_tup {es : List Expr} {k : Nat} {g : AEnv → Store → Rs (List D)} (b : EA C R X E es g) :
    EE C R X E (.Tuple es k pos) (fun ρ S => (g ρ S).bind fun xs S1 => if xs.length ≤ sizeLine then .ok (.tup xs) S1 else .stuck) := by
  obtain ⟨tb, pb, gb⟩ := b
  refine ⟨tTupS tb, pe_tupS pb, fun σ H L ρ S Q s e h => ?_⟩
  refine gb.first s e (fun _ _ z => z) h fun xs S1 vs H1 L1 F p e1 h1 => ?_
  by_cases z : xs.length ≤ sizeLine
  · rw [if_pos z] at h1
    exact ⟨by rw [← p.rep.length]; exact z, fun q o hq ho => h1 (.ref q) _ L1 F (post_tup p.ext p.sim p.rep p.fr hq o ho)⟩
  · rw [if_neg z] at h1
    exact h1.elim
theorem ee_lst {es : List Expr} {g : AEnv → Store → Rs (List D)} (b : EA C R X E es g) :
    EE C R X E (.List es pos) (fun ρ S => (g ρ S).bind fun xs S1 => if xs.length ≤ sizeLine then .ok (.new (.lst xs)) S1 else .stuck) := by
  obtain ⟨tb, pb, gb⟩ := b
  refine ⟨tLst tb, pe_lst pb, fun σ H L ρ S Q s e h => ?_⟩
  refine gb.first s e (fun _ _ z => z) h fun xs S1 vs H1 L1 F p e1 h1 => ?_
  by_cases z : xs.length ≤ sizeLine
  · rw [if_pos z] at h1
    exact ⟨by rw [← p.rep.length]; exact z, fun q hq => h1 (.ref q) _ L1 (q :: F) (post_lst p.ext p.sim p.rep p.fr hq)⟩
  · rw [if_neg z] at h1
    exact h1.elim
/-! ### two operands -/
/-- an operation on two values agrees with r -/
def GoodR (C : Cxt) (r : R2) (g : D → D → Store → Option D) : Prop :=
  ∀ (H0 : Hp) (L0 : List Addr) (H : Hp) (L : List Addr) (S : Store) (x y : D) (vx vy : V) (F G : List Addr) (d : D) (Q : VK), Ext H0 L0 H L → SimS C H L S → Rep C H L x vx F → Rep C H L y vy G → Fr H0 (F ++ G) L → g x y S = some d →
    (∀ v H' L' Z, Ext H L H' L' → Post C H0 L0 S d v H' L' Z → Q v H') → r vx vy H Q
theorem ee_op2 {r : R2} {g : D → D → Store → Option D} {a b e : Expr} {fa fb : AEnv → Store → Rs D} (hr : GoodR C r g) (mk : ∀ ta tb, PE X a ta → PE X b tb → PE X e (tOp r ta tb)) (ha : EE C R X E a fa) (hb : EE C R X E b fb) :
    EE C R X E e (fun ρ S => (fa ρ S).bind fun x S1 => (fb ρ S1).bind fun y S2 => Rs.of (g x y S2) S2) := by
  obtain ⟨ta, pa, ga⟩ := ha
  obtain ⟨tb, pb, gb⟩ := hb
  refine ⟨tOp r ta tb, mk ta tb pa pb, fun σ H L ρ S Q s e h => ?_⟩
  refine ga.first s e (fun _ _ z => z) h fun x S1 v H1 L1 F p1 e1 h1 => ?_
  refine gb.first p1.sim e1 (fun _ _ z => z.later p1.ext) h1 fun y S2 w H2 L2 G p2 e2 h2 => ?_
  obtain ⟨d, hd, q⟩ := sat_of h2
  obtain ⟨x1, x2, x3⟩ := p1.seq p2
  exact hr H L H2 L2 S2 x y v w F G d Q x1 p2.sim x2 p2.rep x3 hd fun v H' L' Z _ p => q v H' L' Z p
end
end Nv
/-! Nv: dicts read (keys are numbers or texts). -/
namespace Nv
open PySem PySem.Spec PyProof.Rows L2
/-! ### two rules of the hand layer, by values -/
section
variable {X : Cx}
def rInK (neg : Bool) : R2 := fun x y H Q => ∃ a o, y = .ref a ∧ DGet H a x o ∧ Q (.bl (if neg then !o.isSome else o.isSome)) H
theorem op_inK (hu : X.A.units + 1 < cLine) : OpR X (compareOp .In) (rInK false) := by
  intro pins s σ H x y v u Q I rx ry h
  obtain ⟨a, o, rfl, g, q⟩ := h
  cases (show u = Value.ref a from ry)
  exact d_in hu I g rx fun s' I' => ⟨.bl _, H, I', rfl, q⟩
theorem op_notInK (hu : X.A.units + 1 < cLine) : OpR X (compareOp .NotIn) (rInK true) := by
  intro pins s σ H x y v u Q I rx ry h
  obtain ⟨a, o, rfl, g, q⟩ := h
  cases (show u = Value.ref a from ry)
  exact d_notIn hu I g rx fun s' I' => ⟨.bl _, H, I', rfl, q⟩
def rIxK : R2 := fun x y H Q => ∃ a v, x = .ref a ∧ DGet H a y (some v) ∧ Q v H
theorem ix_K (hu : X.A.units + 1 < cLine) : IxR X rIxK := by
  intro value slice pins s σ H x y v u Q I rx ry h hs
  obtain ⟨a, w, rfl, g, q⟩ := h
  cases (show v = Value.ref a from rx)
  have hT := dict_typeIs I g
  unfold subscriptTail
  refine wpAny_bind ?_
  rw [getitemInPython_of_ne hT.not_modules]
  refine wpAny_bind (wpAny_specialOf hT PySem.F.slot_dict_getitem.lookup ?_)
  have fin : wpAny (model X.prog X.w) X.A (subscripted slice false (.ref a) u) (fun r s₃ => wpAny (model X.prog X.w) X.A (letTemporaryGo value (.ref a) r >>= fun _ => pure r) (EP X pins σ Q) X.xe s₃) X.xe s := by
    rw [hs]
    refine wpAny_operating (d_getItem hu I g ry fun w' s' I' rw' => ?_)
    exact wpAny_bind (wpAny_letTemporaryGo (wpAny_pure ⟨w, H, I', rw', q⟩))
  first
    | exact wpAny_pure (wpAny_bind fin)
    | exact wpAny_bind fin
end
/-! ### the evaluator's side -/
section
variable {C : Cxt} {H : Hp} {L : List Addr} {S : Store}
theorem keyD_of {k : D} {q : Key} (h : RepK k q) : keyD k = some q := by cases h <;> rfl
theorem key_rep {x : D} {v : V} {F : List Addr} {k : Key} (r : Rep C H L x v F) (h : keyD x = some k) : v = kV k := by
  cases x with
  | int i => cases h; cases r; rfl
  | str i => cases h; cases r; rfl
  | _ => cases h
theorem RepKs.get : ∀ {kvs : List (D × D)} {vs : List (Key × V)} {F : List Addr} (k : Key), RepKs C H L kvs vs F → (getKD kvs k = none ∧ valV vs k = none) ∨ ∃ d v G, getKD kvs k = some d ∧ valV vs k = some v ∧ Rep C H L d v G ∧ G.Sublist F
  | _, _, _, k, .nil => .inl ⟨rfl, rfl⟩
  | _, _, _, k, .cons (k := kd) (q := q) (x := x) (v := v) (F := F) (r := r) (s := s) (G := G) hk hr hs => by
    by_cases e : q = k
    · right
      refine ⟨x, v, F, ?_, valV_pos e, hr, List.sublist_append_left _ _⟩
      show (if keyD kd = some k then some x else getKD r k) = some x
      rw [if_pos (by rw [keyD_of hk, e])]
    · have g : getKD ((kd, x) :: r) k = getKD r k := by
        show (if keyD kd = some k then some x else getKD r k) = _
        rw [if_neg (by rw [keyD_of hk]; intro z; exact e (Option.some.inj z))]
      rw [g, valV_neg e]
      rcases RepKs.get k hs with h | ⟨d, w, G', h1, h2, h3, h4⟩
      · exact .inl h
      · exact .inr ⟨d, w, G', h1, h2, h3, h4.trans (List.sublist_append_right _ _)⟩
theorem RepKs.length {H : Hp} {L : List Addr} : ∀ {kvs : List (D × D)} {vs : List (L2.Key × V)} {F : List Addr}, RepKs C H L kvs vs F → kvs.length = vs.length
  | _, _, _, .nil => rfl
  | _, _, _, .cons _ _ s => congrArg Nat.succ s.length
theorem dct_of (s : SimS C H L S) {x : D} {v : V} {F : List Addr} {kvs : List (D × D)} (r : Rep C H L x v F) (h : dctOf x S = some kvs) : ∃ a vs G, v = .ref a ∧ H a = some (.dK vs) ∧ RepKs C H L kvs vs G ∧ G.Sublist F := by
  cases r with
  | new ha ro =>
    cases ro with
    | dct rs =>
      cases h
      exact ⟨_, _, _, rfl, ha, rs, List.sublist_cons_self _ _⟩
    | lst _ => cases h
    | ins _ _ => cases h
  | ref hl =>
    rename_i n a
    simp only [dctOf] at h
    cases e : S[n]? with
    | none => rw [e] at h; cases h
    | some o =>
      rw [e] at h
      cases o with
      | dct ys =>
        cases h
        obtain ⟨vs, e1, e2⟩ := (s.cell n _ a e hl).dct
        exact ⟨a, vs, [], rfl, e1, e2, List.Sublist.refl _⟩
      | lst _ => cases h
      | frz _ => cases h
      | ins _ _ => cases h
  | _ => cases h
end
end Nv
/-! Nv: operators and comparisons by values. -/
namespace Nv
open PySem PySem.Spec PyProof.Rows L2
section
variable {C : Cxt} {H : Hp} {L : List Addr} {S : Store}
theorem lst_of (s : SimS C H L S) {x : D} {v : V} {F : List Addr} {xs : List D} (r : Rep C H L x v F) (h : lstOf x S = some xs) :
    ∃ a vs G, v = .ref a ∧ Reps C H L xs vs G ∧ G.Sublist F ∧ H a = some (.lst vs) := by
  cases r with
  | new ha ro =>
    cases ro with
    | lst rs =>
      cases h
      exact ⟨_, _, _, rfl, rs, List.sublist_cons_self _ _, ha⟩
    | dct _ => cases h
    | ins _ _ => cases h
  | ref hl =>
    rename_i n a
    have hc := s.cell n
    simp only [lstOf] at h
    cases e : S[n]? with
    | none => rw [e] at h; cases h
    | some o =>
      rw [e] at h
      have c := hc o a e hl
      cases o with
      | lst ys =>
        cases h
        obtain ⟨vs, e1, e2⟩ := c.lst
        exact ⟨a, vs, [], rfl, e2, List.Sublist.refl _, e1⟩
      | frz ys => cases h
      | dct _ => cases h
      | ins _ _ => cases h
  | _ => cases h
theorem lis_of (s : SimS C H L S) {x : D} {v : V} {F : List Addr} {xs : List D} (r : Rep C H L x v F) (h : lisOf x S = some xs) :
    ∃ a vs G, v = .ref a ∧ Reps C H L xs vs G ∧ G.Sublist F ∧ SqL C.K H a vs := by
  cases r with
  | new ha ro =>
    cases ro with
    | lst rs =>
      cases h
      exact ⟨_, _, _, rfl, rs, List.sublist_cons_self _ _, SqL.of ha⟩
    | dct _ => cases h
    | ins _ _ => cases h
  | ref hl =>
    rename_i n a
    have hc := s.cell n
    simp only [lisOf] at h
    cases e : S[n]? with
    | none => rw [e] at h; cases h
    | some o =>
      rw [e] at h
      have c := hc o a e hl
      cases o with
      | lst ys =>
        cases h
        obtain ⟨vs, e1, e2⟩ := c.lst
        exact ⟨a, vs, [], rfl, e2, List.Sublist.refl _, SqL.of e1⟩
      | frz ys =>
        cases h
        obtain ⟨ob, vs, e1, e2⟩ := c
        exact ⟨a, vs, [], rfl, e2, List.Sublist.refl _, .inl (.inr ⟨ob, e1⟩)⟩
      | dct _ => cases h
      | ins _ _ => cases h
  | _ => cases h
theorem Reps.append : ∀ {xs ys : List D} {vs ws : List V} {F G : List Addr}, Reps C H L xs vs F → Reps C H L ys ws G → Reps C H L (xs ++ ys) (vs ++ ws) (F ++ G)
  | _, _, _, _, _, _, .nil, r => r
  | _, _, _, _, _, _, .cons a b, r => by rw [List.append_assoc]; exact .cons a (b.append r)
theorem Rep.int_inv {v : V} {F : List Addr} {i : Int} (r : Rep C H L (.int i) v F) : v = .int i ∧ F = [] := by cases r; exact ⟨rfl, rfl⟩
theorem Rep.str_inv {v : V} {F : List Addr} {i : Str} (r : Rep C H L (.str i) v F) : v = .str i ∧ F = [] := by cases r; exact ⟨rfl, rfl⟩
theorem Rep.bl_inv {v : V} {F : List Addr} {i : Bool} (r : Rep C H L (.bl i) v F) : v = .bl i ∧ F = [] := by cases r; exact ⟨rfl, rfl⟩
theorem Rep.non_inv {v : V} {F : List Addr} (r : Rep C H L .non v F) : v = .non ∧ F = [] := by cases r; exact ⟨rfl, rfl⟩
theorem Rep.tup_inv {v : V} {F : List Addr} {xs : List D} (r : Rep C H L (.tup xs) v F) : ∃ a vs, v = .ref a ∧ TupS C.K H a vs ∧ Reps C H L xs vs F := by
  cases r with
  | tup h r => exact ⟨_, _, rfl, h, r⟩
theorem Rep.wtp_inv {v : V} {F : List Addr} {xs : List D} (r : Rep C H L (.wtp xs) v F) : ∃ a vs, v = .ref a ∧ SqT C.K H a vs ∧ Reps C H L xs vs F := by
  cases r with
  | wtp h r => exact ⟨_, _, rfl, h, r⟩
theorem ints_of : ∀ {xs : List D} {ns : List Int} {vs : List V} {F : List Addr}, intsOf xs = some ns → Reps C H L xs vs F → vs = ns.map V.int ∧ xs = ns.map D.int
  | [], ns, vs, F, h, r => by cases r; cases h; exact ⟨rfl, rfl⟩
  | x :: xs, ns, vs, F, h, r => by
    cases r with
    | cons a b =>
      cases x with
      | int i =>
        obtain ⟨rfl, _⟩ := a.int_inv
        cases q : intsOf xs with
        | none =>
          have h' : (intsOf xs).map (i :: ·) = some ns := h
          rw [q] at h'; cases h'
        | some ms =>
          have h' : (intsOf xs).map (i :: ·) = some ns := h
          rw [q] at h'; cases h'
          obtain ⟨e1, e2⟩ := ints_of q b
          exact ⟨by rw [e1]; rfl, by rw [e2]; rfl⟩
      | _ => cases h
theorem bls_of : ∀ {xs : List D} {ns : List Bool} {vs : List V} {F : List Addr}, blsOf xs = some ns → Reps C H L xs vs F → vs = ns.map V.bl ∧ xs = ns.map D.bl
  | [], ns, vs, F, h, r => by cases r; cases h; exact ⟨rfl, rfl⟩
  | x :: xs, ns, vs, F, h, r => by
    cases r with
    | cons a b =>
      cases x with
      | bl i =>
        obtain ⟨rfl, _⟩ := a.bl_inv
        cases q : blsOf xs with
        | none =>
          have h' : (blsOf xs).map (i :: ·) = some ns := h
          rw [q] at h'; cases h'
        | some ms =>
          have h' : (blsOf xs).map (i :: ·) = some ns := h
          rw [q] at h'; cases h'
          obtain ⟨e1, e2⟩ := bls_of q b
          exact ⟨by rw [e1]; rfl, by rw [e2]; rfl⟩
      | _ => cases h
mutual
theorem dp_of : ∀ (x : D) {v : V} {F : List Addr} {d : PyData}, Rep C H L x v F → dat x = some d → Dp C.K H v d
  | .non, _, _, _, r, h => by cases h; cases r; exact .non
  | .bl b, _, _, _, r, h => by cases h; cases r; exact .bl b
  | .int b, _, _, _, r, h => by cases h; cases r; exact .int b
  | .str b, _, _, _, r, h => by cases h; cases r; exact .str b
  | .tup xs, v, F, d, r, h => by
    cases q : dats xs with
    | none => simp only [dat, q] at h; cases h
    | some ds =>
      simp only [dat, q] at h; cases h
      obtain ⟨a, vs, rfl, ht, r⟩ := r.tup_inv
      exact .tup ht.sq (dps_of xs r q)
  | .wtp xs, v, F, d, r, h => by
    cases q : dats xs with
    | none => simp only [dat, q] at h; cases h
    | some ds =>
      simp only [dat, q] at h; cases h
      obtain ⟨a, vs, rfl, ht, r⟩ := r.wtp_inv
      exact .tup ht (dps_of xs r q)
  | .ref _, _, _, _, _, h => by cases h
  | .new o, v, F, d, r, h => by
    cases r with
    | new ha ro =>
      cases o with
      | lst xs =>
        cases ro with
        | lst rs =>
          cases q : dats xs with
          | none => simp only [dat, q] at h; cases h
          | some ds => simp only [dat, q] at h; cases h; exact .lst (SqL.of ha) (dps_of xs rs q)
      | _ => cases h
theorem dps_of : ∀ (x : List D) {v : List V} {F : List Addr} {d : List PyData}, Reps C H L x v F → dats x = some d → DpAll C.K H v d
  | [], _, _, _, r, h => by cases h; cases r; exact .nil
  | x :: xs, _, _, _, r, h => by
    cases r with
    | cons r s =>
      cases q : dat x with
      | none => simp only [dats, q] at h; cases h
      | some d =>
        cases q2 : dats xs with
        | none => simp only [dats, q, q2] at h; cases h
        | some ds => simp only [dats, q, q2] at h; cases h; exact .cons (dp_of x r q) (dps_of xs s q2)
end
theorem dpS_of (s : SimS C H L S) {x : D} {v : V} {F : List Addr} {d : PyData} (r : Rep C H L x v F) (h : datS S x = some d) : Dp C.K H v d := by
  cases x with
  | ref n =>
    simp only [datS] at h
    obtain ⟨_, a, rfl, hl, hc⟩ := s.at r
    cases e : S[n]? with
    | none => rw [e] at h; cases h
    | some o =>
      rw [e] at h
      have c := hc o e
      cases o with
      | lst ys =>
        obtain ⟨vs, e1, e2⟩ := c.lst
        cases q : dats ys with
        | none => simp only [q] at h; cases h
        | some ds => simp only [q] at h; cases h; exact .lst (SqL.of e1) (dps_of ys e2 q)
      | frz ys =>
        obtain ⟨ob, vs, e1, e2⟩ := c
        cases q : dats ys with
        | none => simp only [q] at h; cases h
        | some ds => simp only [q] at h; cases h; exact .lst (.inl (.inr ⟨ob, e1⟩)) (dps_of ys e2 q)
      | dct _ => cases h
      | ins _ _ => cases h
  | non => exact dp_of (.non) r h
  | bl b => exact dp_of (.bl b) r h
  | int i => exact dp_of (.int i) r h
  | str z => exact dp_of (.str z) r h
  | tup xs => exact dp_of (.tup xs) r h
  | wtp xs => exact dp_of (.wtp xs) r h
  | new o => exact dp_of (.new o) r h
theorem scal_of {x : D} {v w : V} {F : List Addr} (r : Rep C H L x v F) (h : scalD x = some w) : v = w := by
  cases r <;> first
    | (cases h; rfl)
    | cases h
end
/-! ### operators -/
section
variable {C : Cxt} {X : Cx}
theorem good_int {Cn : Int → Int → Prop} {g : Int → Int → Int} {G : D → D → Store → Option D} (h : ∀ x y S d, G x y S = some d → ∃ i j, x = .int i ∧ y = .int j ∧ Cn i j ∧ d = .int (g i j)) : GoodR C (rI Cn fun i j => .int (g i j)) G := by
  intro H0 L0 H L S x y vx vy F Gg d Q e s rx ry fr hd q
  obtain ⟨i, j, rfl, rfl, c, rfl⟩ := h x y S d hd
  obtain ⟨rfl, rfl⟩ := rx.int_inv
  obtain ⟨rfl, rfl⟩ := ry.int_inv
  exact ⟨i, j, rfl, rfl, c, q _ H L [] (Ext.refl H L) (post_same e s (.int _) fr (List.nil_sublist _))⟩
theorem good_int0 {g : Int → Int → Int} {G : D → D → Store → Option D} (h : ∀ x y S d, G x y S = some d → ∃ i j, x = .int i ∧ y = .int j ∧ d = .int (g i j)) : GoodR C (rI0 fun i j => .int (g i j)) G := by
  intro H0 L0 H L S x y vx vy F Gg d Q e s rx ry fr hd q
  obtain ⟨i, j, rfl, rfl, rfl⟩ := h x y S d hd
  obtain ⟨rfl, rfl⟩ := rx.int_inv
  obtain ⟨rfl, rfl⟩ := ry.int_inv
  exact ⟨i, j, rfl, rfl, q _ H L [] (Ext.refl H L) (post_same e s (.int _) fr (List.nil_sublist _))⟩
def rAdd (K : PySem.W.Frag) : R2 := fun x y H Q => (rI0 fun i j => .int (i + j)) x y H Q ∨ (∃ i j, x = .str i ∧ y = .str j ∧ i.length + j.length ≤ sizeLine ∧ Q (.str (i ++ j)) H) ∨ rCatS K x y H Q ∨ rCat x y H Q
theorem op_addN : OpR X (binaryOp .Add) (rAdd X.K) := op_add.or (op_add_str.or (op_catS.or op_cat))
theorem good_add : GoodR C (rAdd C.K) (binD .add) := by
  intro H0 L0 H L S x y vx vy F G d Q e s rx ry fr hd q
  have lists : ∀ xs ys, lstOf x S = some xs → lstOf y S = some ys → (if xs.length + ys.length ≤ sizeLine then some (D.new (.lst (xs ++ ys))) else none) = some d → rAdd C.K vx vy H Q := by
    intro xs ys hx hy hd
    obtain ⟨a, vs, F', rfl, r1, f1, h1⟩ := lst_of s rx hx
    obtain ⟨b, ws, G', rfl, r2, f2, h2⟩ := lst_of s ry hy
    by_cases z : xs.length + ys.length ≤ sizeLine
    · rw [if_pos z] at hd
      cases hd
      refine .inr (.inr (.inr ⟨a, b, vs, ws, rfl, rfl, h1, h2, by rw [← r1.length, ← r2.length]; exact z, fun p hp => ?_⟩))
      have sub : (F' ++ G').Sublist (F ++ G) := f1.append f2
      exact q _ _ L _ (Ext.new hp) (post_lst e s (r1.append r2) ⟨fun a ha => fr.new a (sub.subset ha), fr.nd.sublist sub, fun a ha => fr.out a (sub.subset ha)⟩ hp)
    · rw [if_neg z] at hd; cases hd
  cases x with
  | int i =>
    cases y with
    | int j =>
      cases hd
      obtain ⟨rfl, rfl⟩ := rx.int_inv
      obtain ⟨rfl, rfl⟩ := ry.int_inv
      exact .inl ⟨i, j, rfl, rfl, q _ H L [] (Ext.refl H L) (post_same e s (.int _) fr (List.nil_sublist _))⟩
    | _ => cases hd
  | str a =>
    cases y with
    | str b =>
      by_cases z : a.length + b.length ≤ sizeLine
      · simp only [binD, if_pos z] at hd
        cases hd
        obtain ⟨rfl, rfl⟩ := rx.str_inv
        obtain ⟨rfl, rfl⟩ := ry.str_inv
        exact .inr (.inl ⟨a, b, rfl, rfl, z, q _ H L [] (Ext.refl H L) (post_same e s (.str _) fr (List.nil_sublist _))⟩)
      · simp only [binD, if_neg z] at hd; cases hd
    | _ => cases hd
  | tup xs =>
    cases y with
    | tup ys =>
      by_cases z : xs.length + ys.length ≤ sizeLine
      · simp only [binD, if_pos z] at hd
        cases hd
        obtain ⟨a, vs, rfl, h1, r1⟩ := rx.tup_inv
        obtain ⟨b, ws, rfl, h2, r2⟩ := ry.tup_inv
        have r3 := r1.append r2
        refine .inr (.inr (.inl ⟨a, b, vs, ws, rfl, rfl, h1.sq, h2.sq, by rw [← r1.length, ← r2.length]; exact z, fun k => ?_, fun k1 k2 => ?_, fun k1 k2 p o hp ho => ?_⟩))
        · subst k
          cases r1
          exact q _ H L G (Ext.refl H L) (post_same e s (.tup h2 r2) fr (List.sublist_append_right _ _))
        · subst k2
          cases r2
          rw [List.append_nil] at q
          exact q _ H L F (Ext.refl H L) (post_same e s (.tup h1 r1) fr (List.sublist_append_left _ _))
        · exact q _ _ L _ (Ext.new hp) (post_tup e s r3 fr hp o ho)
      · simp only [binD, if_neg z] at hd; cases hd
    | _ => cases hd
  | non => cases y <;> cases hd
  | wtp xs => cases y <;> cases hd
  | bl b => cases y <;> cases hd
  | ref n =>
    have hd' : (match lstOf (.ref n) S, lstOf y S with
    | some xs, some ys => if xs.length + ys.length ≤ sizeLine then some (D.new (.lst (xs ++ ys))) else none
    | _, _ => none) = some d := by cases y <;> exact hd
    cases hx : lstOf (.ref n) S with
    | none => rw [hx] at hd'; cases hd'
    | some xs =>
      cases hy : lstOf y S with
      | none => rw [hx, hy] at hd'; cases hd'
      | some ys => rw [hx, hy] at hd'; exact lists xs ys hx hy hd'
  | new o =>
    have hd' : (match lstOf (.new o) S, lstOf y S with
    | some xs, some ys => if xs.length + ys.length ≤ sizeLine then some (D.new (.lst (xs ++ ys))) else none
    | _, _ => none) = some d := by cases y <;> exact hd
    cases hx : lstOf (.new o) S with
    | none => rw [hx] at hd'; cases hd'
    | some xs =>
      cases hy : lstOf y S with
      | none => rw [hx, hy] at hd'; cases hd'
      | some ys => rw [hx, hy] at hd'; exact lists xs ys hx hy hd'
theorem good_sub : GoodR C (rI0 fun i j => .int (i - j)) (binD .sub) := good_int0 fun x y S d h => by
  cases x <;> cases y <;> first
    | (cases h; exact ⟨_, _, rfl, rfl, rfl⟩)
    | cases h
theorem good_mul : GoodR C (rI CMulW fun i j => .int (i * j)) (binD .mul) := good_int fun x y S d h => by
  cases x <;> cases y <;> first
    | cases h; done
    | (rename_i i j
       by_cases z : i.natAbs.log2 + j.natAbs.log2 < 1000000
       · simp only [binD, if_pos z] at h; cases h; exact ⟨_, _, rfl, rfl, z, rfl⟩
       · simp only [binD, if_neg z] at h; cases h)
theorem good_fdiv : GoodR C (rI CDivW fun i j => .int (i / j)) (binD .fdiv) := good_int fun x y S d h => by
  cases x <;> cases y <;> first
    | cases h; done
    | (rename_i i j
       by_cases z : 0 < j ∧ j.natAbs.log2 < 9000
       · simp only [binD, if_pos z] at h; cases h; exact ⟨_, _, rfl, rfl, z, rfl⟩
       · simp only [binD, if_neg z] at h; cases h)
theorem good_mod : GoodR C (rI (fun _ j => 0 < j) fun i j => .int (i % j)) (binD .mod) := good_int fun x y S d h => by
  cases x <;> cases y <;> first
    | cases h; done
    | (rename_i i j
       by_cases z : 0 < j
       · simp only [binD, if_pos z] at h; cases h; exact ⟨_, _, rfl, rfl, z, rfl⟩
       · simp only [binD, if_neg z] at h; cases h)
theorem good_pow : GoodR C (rI CPow fun i j => .int (i ^ j.toNat)) (binD .pow) := good_int fun x y S d h => by
  cases x <;> cases y <;> first
    | cases h; done
    | (rename_i i j
       by_cases z : 0 ≤ j ∧ j ≤ 1000000 ∧ i.natAbs < 2 ^ 64
       · simp only [binD, if_pos z] at h; cases h; exact ⟨_, _, rfl, rfl, z, rfl⟩
       · simp only [binD, if_neg z] at h; cases h)
def bopP : Bop → Operator
  | .add => .Add | .sub => .Sub | .mul => .Mult | .fdiv => .FloorDiv | .mod => .Mod | .pow => .Pow
theorem bop_ok (o : Bop) (hK : X.K = C.K) : ∃ r, OpR X (binaryOp (bopP o)) r ∧ GoodR C r (binD o) := by
  cases o with
  | add => exact ⟨rAdd C.K, hK ▸ op_addN, good_add⟩
  | sub => exact ⟨_, op_sub, good_sub⟩
  | mul => exact ⟨_, op_mulW, good_mul⟩
  | fdiv => exact ⟨_, op_fdivW, good_fdiv⟩
  | mod => exact ⟨_, op_mod, good_mod⟩
  | pow => exact ⟨_, op_pow, good_pow⟩
/-! ### comparisons -/
theorem good_bl {r : R2} {G : D → D → Store → Option Bool}
    (h : ∀ (H : Hp) (L : List Addr) (S : Store) (x y : D) (vx vy : V) (F F' : List Addr) (b : Bool) (Q : VK), SimS C H L S → Rep C H L x vx F → Rep C H L y vy F' → G x y S = some b → Q (.bl b) H → r vx vy H Q) : GoodR C r (fun x y S => (G x y S).map .bl) := by
  intro H0 L0 H L S x y vx vy F Gg d Q e s rx ry fr hd q
  cases hb : G x y S with
  | none => simp only [hb] at hd; cases hd
  | some b =>
    simp only [hb] at hd
    cases hd
    exact h H L S x y vx vy F Gg b Q s rx ry hb (q _ H L [] (Ext.refl H L) (post_same e s (.bl _) fr (List.nil_sublist _)))
def rEqN (K : PySem.W.Frag) : R2 := fun x y H Q => rEq x y H Q ∨ rEqD K x y H Q
def rNeN (K : PySem.W.Frag) : R2 := fun x y H Q => rNe x y H Q ∨ rNeD K x y H Q
theorem eq_cases {H : Hp} {L : List Addr} {S : Store} {x y : D} {vx vy : V} {F F' : List Addr} {b : Bool} (s : SimS C H L S) (rx : Rep C H L x vx F) (ry : Rep C H L y vy F') (h : eqD x y S = some b) :
    (scal vx vy = true ∧ b = decide (vx = vy)) ∨ ∃ d e, Dp C.K H vx d ∧ Dp C.K H vy e ∧ SeqAt.shaped d = true ∧ SeqAt.shaped e = true ∧ b = PyData.eqv d e := by
  have data : (match datS S x, datS S y with
    | some d, some e => if SeqAt.shaped d = true ∧ SeqAt.shaped e = true then some (PyData.eqv d e) else none
    | _, _ => none) = some b → ∃ d e, Dp C.K H vx d ∧ Dp C.K H vy e ∧ SeqAt.shaped d = true ∧ SeqAt.shaped e = true ∧ b = PyData.eqv d e := by
    intro h
    cases h1 : datS S x with
    | none => rw [h1] at h; cases h
    | some d =>
      cases h2 : datS S y with
      | none => rw [h1, h2] at h; cases h
      | some e =>
        rw [h1, h2] at h
        by_cases z : SeqAt.shaped d = true ∧ SeqAt.shaped e = true
        · simp only [if_pos z] at h
          cases h
          exact ⟨d, e, dpS_of s rx h1, dpS_of s ry h2, z.1, z.2, rfl⟩
        · simp only [if_neg z] at h; cases h
  unfold eqD at h
  cases h1 : scalD x with
  | none => rw [h1] at h; exact .inr (data h)
  | some a =>
    cases h2 : scalD y with
    | none => rw [h1, h2] at h; exact .inr (data h)
    | some b' =>
      rw [h1, h2] at h
      have e1 := scal_of rx h1
      have e2 := scal_of ry h2
      subst e1 e2
      by_cases z : scal vx vy = true
      · simp only [if_pos z] at h; cases h; exact .inl ⟨z, rfl⟩
      · simp only [if_neg z] at h; cases h
theorem good_eq : GoodR C (rEqN C.K) (fun x y S => (cmpD .eq x y S).map .bl) := good_bl fun H L S x y vx vy F F' b Q s rx ry h q => by
  have h' : eqD x y S = some b := by cases x <;> cases y <;> exact h
  rcases eq_cases s rx ry h' with ⟨h1, rfl⟩ | ⟨d, e, h1, h2, h3, h4, rfl⟩
  · exact .inl ⟨h1, q⟩
  · exact .inr ⟨d, e, h1, h2, h3, h4, q⟩
theorem good_ne : GoodR C (rNeN C.K) (fun x y S => (cmpD .ne x y S).map .bl) := good_bl fun H L S x y vx vy F F' b Q s rx ry h q => by
  have h' : (eqD x y S).map not = some b := by cases x <;> cases y <;> exact h
  cases ec : eqD x y S with
  | none => rw [ec] at h'; cases h'
  | some c =>
    rw [ec] at h'
    cases h'
    rcases eq_cases s rx ry ec with ⟨h1, rfl⟩ | ⟨d, e, h1, h2, h3, h4, rfl⟩
    · exact .inl ⟨h1, q⟩
    · exact .inr ⟨d, e, h1, h2, h3, h4, q⟩
theorem good_cmpI {o : Cop} {g : Int → Int → Bool} (h : ∀ x y S b, cmpD o x y S = some b → ∃ i j, x = .int i ∧ y = .int j ∧ b = g i j) : GoodR C (rI0 fun i j => .bl (g i j)) (fun x y S => (cmpD o x y S).map .bl) := good_bl fun H L S x y vx vy F F' b Q s rx ry hb q => by
  obtain ⟨i, j, rfl, rfl, rfl⟩ := h x y S b hb
  obtain ⟨rfl, rfl⟩ := rx.int_inv
  obtain ⟨rfl, rfl⟩ := ry.int_inv
  exact ⟨i, j, rfl, rfl, q⟩
theorem cmpI_inv {o : Cop} {g : Int → Int → Bool} (ho : o = .gt ∧ g = (fun i j => decide (j < i)) ∨ o = .ge ∧ g = (fun i j => decide (j ≤ i))) (x y : D) (S : Store) (b : Bool) (h : cmpD o x y S = some b) : ∃ i j, x = .int i ∧ y = .int j ∧ b = g i j := by
  rcases ho with ⟨rfl, rfl⟩ | ⟨rfl, rfl⟩ <;> (cases x <;> cases y <;> first
    | (cases h; exact ⟨_, _, rfl, rfl, rfl⟩)
    | cases h)
/-- numbers or texts -/
theorem good_cmpS {o : Cop} {g : Int → Int → Bool} {t : Str → Str → Bool} (h : ∀ x y S b, cmpD o x y S = some b → (∃ i j, x = .int i ∧ y = .int j ∧ b = g i j) ∨ ∃ i j, x = .str i ∧ y = .str j ∧ b = t i j) :
    GoodR C (fun x y H Q => rI0 (fun i j => .bl (g i j)) x y H Q ∨ ∃ i j, x = .str i ∧ y = .str j ∧ Q (.bl (t i j)) H) (fun x y S => (cmpD o x y S).map .bl) := good_bl fun H L S x y vx vy F F' b Q s rx ry hb q => by
  rcases h x y S b hb with ⟨i, j, rfl, rfl, rfl⟩ | ⟨i, j, rfl, rfl, rfl⟩
  · obtain ⟨rfl, rfl⟩ := rx.int_inv
    obtain ⟨rfl, rfl⟩ := ry.int_inv
    exact .inl ⟨i, j, rfl, rfl, q⟩
  · obtain ⟨rfl, rfl⟩ := rx.str_inv
    obtain ⟨rfl, rfl⟩ := ry.str_inv
    exact .inr ⟨i, j, rfl, rfl, q⟩
theorem scals_of {H : Hp} {L : List Addr} : ∀ {x : List D} {vs ws : List V} {F : List Addr}, Reps C H L x vs F → scalDs x = some ws → vs = ws ∧ ws.all flatV = true
  | [], _, ws, _, .nil, h => by cases h; exact ⟨rfl, rfl⟩
  | x :: xs, _, ws, _, .cons r s, h => by
    cases h1 : scalD x with
    | none => simp only [scalDs, h1] at h; cases h
    | some v =>
      cases h2 : scalDs xs with
      | none => simp only [scalDs, h1, h2] at h; cases h
      | some vs =>
        simp only [scalDs, h1, h2] at h
        cases h
        obtain ⟨rfl, e2⟩ := scals_of s h2
        have e1 := scal_of r h1
        subst e1
        refine ⟨rfl, ?_⟩
        rw [List.all_cons, e2, Bool.and_true]
        cases x <;> first
          | (cases h1; rfl)
          | cases h1
theorem flat_scal {x : D} {v : V} (h : scalD x = some v) : flatV v = true := by
  cases x <;> first
    | (cases h; rfl)
    | cases h
theorem in_cases {H : Hp} {L : List Addr} {S : Store} {x y : D} {vx vy : V} {F F' : List Addr} {b : Bool} (s : SimS C H L S) (rx : Rep C H L x vx F) (ry : Rep C H L y vy F') (h : inD x y S = some b) :
    (∃ (c : Nat) (z : Str), vx = .str ⟨#[c]⟩ ∧ vy = .str z ∧ b = decide (c ∈ z.cps.toList)) ∨ (∃ p xs, vy = .ref p ∧ (SqL C.K H p xs ∨ SqT C.K H p xs) ∧ flatV vx = true ∧ xs.all flatV = true ∧ b = inV vx xs) ∨ ∃ a o, vy = .ref a ∧ DGet H a vx o ∧ b = o.isSome := by
  have gen : (match dctOf y S with
    | some kvs => (keyD x).map fun k => (getKD kvs k).isSome
    | none => match scalD x, (seqOf y S).bind scalDs with
      | some v, some vs => some (inV v vs)
      | _, _ => none) = some b → (∃ p xs, vy = .ref p ∧ (SqL C.K H p xs ∨ SqT C.K H p xs) ∧ flatV vx = true ∧ xs.all flatV = true ∧ b = inV vx xs) ∨ ∃ a o, vy = .ref a ∧ DGet H a vx o ∧ b = o.isSome := fun h => by
    cases hd : dctOf y S with
    | some kvs =>
      rw [hd] at h
      cases hk : keyD x with
      | none => rw [hk] at h; cases h
      | some k =>
        rw [hk] at h
        cases h
        obtain ⟨a, vs, G, rfl, ha, r, _⟩ := dct_of s ry hd
        have ev := key_rep rx hk
        subst ev
        refine .inr ⟨a, valV vs k, rfl, DGet.k ha, ?_⟩
        rcases r.get k with ⟨e1, e2⟩ | ⟨d, v, G', e1, e2, _, _⟩
        · show (getKD kvs k).isSome = _; rw [e1, e2]; rfl
        · show (getKD kvs k).isSome = _; rw [e1, e2]; rfl
    | none =>
      rw [hd] at h
      left
      cases h1 : scalD x with
      | none => rw [h1] at h; cases h
      | some v =>
        cases h2 : seqOf y S with
        | none => rw [h1, h2] at h; cases h
        | some ys =>
          cases h3 : scalDs ys with
          | none => rw [h1, h2] at h; simp only [Option.bind, h3] at h; cases h
          | some ws =>
            rw [h1, h2] at h
            simp only [Option.bind, h3] at h
            cases h
            obtain ⟨a, vs, G, rfl, r1, _, w⟩ := seq_of s ry h2
            obtain ⟨rfl, fl⟩ := scals_of r1 h3
            have e := scal_of rx h1
            subst e
            exact ⟨a, vs, rfl, w.imp (·.1) (·.1), flat_scal h1, fl, rfl⟩
  cases x with
  | str a =>
    cases y with
    | str z =>
      obtain ⟨rfl, rfl⟩ := rx.str_inv
      obtain ⟨rfl, rfl⟩ := ry.str_inv
      have h : (match a.cps.toList with
        | [c] => some (decide (c ∈ z.cps.toList))
        | _ => none) = some b := h
      match hc : a.cps.toList, h with
      | [c], h =>
        cases h
        refine .inl ⟨c, z, ?_, rfl, rfl⟩
        congr 1
        cases a with
        | mk arr =>
          cases arr with
          | mk l =>
            have : l = [c] := hc
            subst this; rfl
    | _ => exact .inr (gen h)
  | _ => exact .inr (gen (by cases y <;> exact h))
def rInN (K : PySem.W.Frag) (neg : Bool) : R2 := fun x y H Q => (∃ (c : Nat) (z : Str), x = .str ⟨#[c]⟩ ∧ y = .str z ∧ Q (.bl (if neg then !decide (c ∈ z.cps.toList) else decide (c ∈ z.cps.toList))) H) ∨ rIn K neg x y H Q ∨ rInK neg x y H Q
theorem good_in : GoodR C (rInN C.K false) (fun x y S => (cmpD .inn x y S).map .bl) := good_bl fun H L S x y vx vy F F' b Q s rx ry hb q => by
  rcases in_cases s rx ry (show inD x y S = some b by cases x <;> exact hb) with ⟨c, z, rfl, rfl, rfl⟩ | ⟨p, xs, rfl, h1, h2, h3, rfl⟩ | ⟨a, o, rfl, g, rfl⟩
  · exact .inl ⟨c, z, rfl, rfl, q⟩
  · exact .inr (.inl ⟨p, xs, rfl, h1, h2, h3, q⟩)
  · exact .inr (.inr ⟨a, o, rfl, g, q⟩)
theorem good_nin : GoodR C (rInN C.K true) (fun x y S => (cmpD .nin x y S).map .bl) := good_bl fun H L S x y vx vy F F' b Q s rx ry hb q => by
  have hb : (inD x y S).map not = some b := by cases x <;> exact hb
  cases hi : inD x y S with
  | none => rw [hi] at hb; cases hb
  | some k =>
    rw [hi] at hb
    cases hb
    rcases in_cases s rx ry hi with ⟨c, z, rfl, rfl, rfl⟩ | ⟨p, xs, rfl, h1, h2, h3, rfl⟩ | ⟨a, o, rfl, g, rfl⟩
    · exact .inl ⟨c, z, rfl, rfl, q⟩
    · exact .inr (.inl ⟨p, xs, rfl, h1, h2, h3, q⟩)
    · exact .inr (.inr ⟨a, o, rfl, g, q⟩)
theorem non_iff {H : Hp} {L : List Addr} {x : D} {v : V} {F : List Addr} (r : Rep C H L x v F) : (match x with
    | .non => true
    | _ => false) = decide (v = .non) := by
  cases r <;> simp
theorem good_isN : GoodR C (fun x y H Q => y = .non ∧ Q (.bl (decide (x = .non))) H) (fun x y S => (cmpD .isN x y S).map .bl) := good_bl fun H L S x y vx vy F F' b Q s rx ry hb q => by
  cases y with
  | non =>
    obtain ⟨rfl, _⟩ := ry.non_inv
    refine ⟨rfl, ?_⟩
    have e := non_iff rx
    have e2 : b = decide (vx = .non) := by
      rw [← e]
      cases x <;> (cases hb; rfl)
    rw [← e2]; exact q
  | _ => cases x <;> cases hb
theorem good_notN : GoodR C (fun x y H Q => y = .non ∧ Q (.bl (!decide (x = .non))) H) (fun x y S => (cmpD .notN x y S).map .bl) := good_bl fun H L S x y vx vy F F' b Q s rx ry hb q => by
  cases y with
  | non =>
    obtain ⟨rfl, _⟩ := ry.non_inv
    refine ⟨rfl, ?_⟩
    have e := non_iff rx
    have e2 : b = !decide (vx = .non) := by
      rw [← e]
      cases x <;> (cases hb; rfl)
    rw [← e2]; exact q
  | _ => cases x <;> cases hb
def copP : Cop → CmpOp
  | .eq => .Eq | .ne => .NotEq | .lt => .Lt | .le => .LtE | .gt => .Gt | .ge => .GtE | .inn => .In | .nin => .NotIn | .isN => .Is | .notN => .IsNot
theorem cop_ok (o : Cop) (hK : X.K = C.K) (hu : X.A.units + 64 < cLine) : ∃ r, OpR X (compareOp (copP o)) r ∧ GoodR C r (fun x y S => (cmpD o x y S).map .bl) := by
  cases o with
  | eq => exact ⟨rEqN C.K, hK ▸ op_eq.or (op_eqD hu), good_eq⟩
  | ne => exact ⟨rNeN C.K, hK ▸ op_ne.or (op_neD hu), good_ne⟩
  | lt => exact ⟨_, op_lt.or op_lt_str, good_cmpS fun x y S b h => by
      cases x <;> cases y <;> first
        | (cases h; exact .inl ⟨_, _, rfl, rfl, rfl⟩)
        | (cases h; exact .inr ⟨_, _, rfl, rfl, rfl⟩)
        | cases h⟩
  | le => exact ⟨_, op_le.or op_le_str, good_cmpS fun x y S b h => by
      cases x <;> cases y <;> first
        | (cases h; exact .inl ⟨_, _, rfl, rfl, rfl⟩)
        | (cases h; exact .inr ⟨_, _, rfl, rfl, rfl⟩)
        | cases h⟩
  | gt => exact ⟨_, op_gt, good_cmpI (cmpI_inv (.inl ⟨rfl, rfl⟩))⟩
  | ge => exact ⟨_, op_ge, good_cmpI (cmpI_inv (.inr ⟨rfl, rfl⟩))⟩
  | isN => exact ⟨_, op_isN, good_isN⟩
  | notN => exact ⟨_, op_notN, good_notN⟩
  | inn => exact ⟨rInN C.K false, hK ▸ op_in_sign.or (op_in_seq.or (op_inK (by omega))), good_in⟩
  | nin => exact ⟨rInN C.K true, hK ▸ op_notIn_sign.or (op_notIn_seq.or (op_notInK (by omega))), good_nin⟩
end
end Nv
/-! Nv: expressions, further: tests, and, or, not, if, items, slices, fields, built-in functions. -/
namespace Nv
open PySem PySem.Spec PyProof.Rows L2
section
variable {C : Cxt} {R : XR} {X : Cx} {E : XK} {pos : Pos} {a b c e : Expr} {fa fb fc : AEnv → Store → Rs D}
theorem ee_bin (o : Bop) (hK : X.K = C.K) (ha : EE C R X E a fa) (hb : EE C R X E b fb) :
    EE C R X E (.BinOp a (bopP o) b pos) (fun ρ S => (fa ρ S).bind fun x S1 => (fb ρ S1).bind fun y S2 => Rs.of (binD o x y S2) S2) := by
  obtain ⟨r, h1, h2⟩ := bop_ok (C := C) (X := X) o hK
  exact ee_op2 h2 (fun ta tb pa pb => pe_op h1 pa pb) ha hb
theorem nomark' (o : CmpOp) (b : Expr) (h : ∀ es k p, b ≠ .Set es k p) : behindInMarks o b = false := by
  cases b <;> first
    | rfl
    | exact absurd rfl (h _ _ _)
theorem ee_cmp (o : Cop) (hK : X.K = C.K) (hu : X.A.units + 64 < cLine) (hs : ∀ es k p, b ≠ .Set es k p) (ha : EE C R X E a fa) (hb : EE C R X E b fb) :
    EE C R X E (.Compare a [copP o] [b] pos) (fun ρ S => (fa ρ S).bind fun x S1 => (fb ρ S1).bind fun y S2 => Rs.of ((cmpD o x y S2).map .bl) S2) := by
  obtain ⟨r, h1, h2⟩ := cop_ok (C := C) (X := X) o hK hu
  exact ee_op2 h2 (fun ta tb pa pb => pe_cmpR h1 pa pb (nomark' _ _ hs)) ha hb
theorem ee_neg (ha : EE C R X E a fa) : EE C R X E (.UnaryOp .USub a pos) (fun ρ S => (fa ρ S).bind fun x S1 => match x with
    | .int i => .ok (.int (-i)) S1
    | _ => .stuck) := by
  obtain ⟨ta, pa, ga⟩ := ha
  refine ⟨_, pe_un un_neg pa, fun σ H L ρ S Q s e h => ?_⟩
  refine ga.first s e (fun _ _ z => z) h fun x S1 v H1 L1 F p1 e1 h1 => ?_
  cases x with
  | int i =>
    obtain ⟨rfl, rfl⟩ := p1.rep.int_inv
    exact ⟨i, rfl, h1 _ H1 L1 [] ⟨p1.ext, p1.sim, .int _, Fr.nil _ _⟩⟩
  | _ => exact h1.elim
/-! ### truth -/
theorem tru_of {H : Hp} {L : List Addr} {S : Store} (s : SimS C H L S) {x : D} {v : V} {F : List Addr} {k : Bool} (r : Rep C H L x v F) (h : truD x S = some k) : TruV C.K v H k := by
  have emp : ∀ {xs : List D} {vs : List V} {F : List Addr}, Reps C H L xs vs F → (!xs.isEmpty) = (!vs.isEmpty) := fun r => by cases r <;> rfl
  have empK : ∀ {xs : List (D × D)} {vs : List (Key × V)} {F : List Addr}, RepKs C H L xs vs F → (!xs.isEmpty) = (!vs.isEmpty) := fun r => by cases r <;> rfl
  cases r with
  | non => cases h; rfl
  | bl b => cases h; rfl
  | int i => cases h; rfl
  | str z =>
    by_cases q : z.length ≤ sizeLine
    · simp only [truD, if_pos q] at h; cases h; exact ⟨q, rfl⟩
    · simp only [truD, if_neg q] at h; cases h
  | tup ht rs => cases h; exact .inr (.inl ⟨_, ht.sq, emp rs⟩)
  | wtp ht rs => cases h
  | ref hl =>
    rename_i n a
    have hc := s.cell n
    simp only [truD] at h
    cases e : S[n]? with
    | none => rw [e] at h; cases h
    | some o =>
      rw [e] at h
      have c := hc o a e hl
      cases o with
      | lst ys =>
        cases h
        obtain ⟨vs, e1, e2⟩ := c.lst
        exact .inl ⟨vs, SqL.of e1, emp e2⟩
      | frz ys =>
        cases h
        obtain ⟨ob, vs, e1, e2⟩ := c
        exact .inl ⟨vs, .inl (.inr ⟨ob, e1⟩), emp e2⟩
      | dct kvs =>
        cases h
        obtain ⟨vs, e1, e2⟩ := c.dct
        exact .inr (.inr ⟨vs, e1, empK e2⟩)
      | ins _ _ => cases h
  | new ha ro =>
    cases ro with
    | lst rs => cases h; exact .inl ⟨_, SqL.of ha, emp rs⟩
    | dct rs => cases h; exact .inr (.inr ⟨_, ha, empK rs⟩)
    | ins _ _ => cases h
def plainT : Expr → Bool
  | .UnaryOp .Not _ _ => false
  | .BoolOp .. => false
  | .IfExp .. => false
  | .Compare .. => false
  | _ => true
theorem plainT_eq {e : Expr} {env : Env} (h : plainT e = true) (whole : Sem Value) : isTrue e env whole = (do let v ← whole; standAt e.pos; holding [v] (truthy v)) := by
  cases e <;> first
    | rfl
    | cases h
    | (rename_i op _ _; cases op <;> first | rfl | cases h)
theorem et_plain (hK : X.K = C.K) (hp : plainT a = true) (ha : EE C R X E a fa) : ET C R X E a fa := by
  obtain ⟨ta, pa, ga⟩ := ha
  refine ⟨_, pt_truth pa (plainT_eq hp), fun σ H L ρ S Q s e h => ?_⟩
  refine ga.first s e (fun _ _ z => z) h fun x S1 v H1 L1 F p1 e1 h1 => ?_
  obtain ⟨k, hk, q⟩ := sat_of h1
  exact ⟨k, hK ▸ tru_of p1.sim p1.rep hk, q H1 L1 p1.ext p1.sim⟩
theorem et_cmp (o : Cop) (hK : X.K = C.K) (hu : X.A.units + 64 < cLine) (hs : ∀ es k p, b ≠ .Set es k p) (ha : EE C R X E a fa) (hb : EE C R X E b fb) :
    ET C R X E (.Compare a [copP o] [b] pos) (fun ρ S => (fa ρ S).bind fun x S1 => (fb ρ S1).bind fun y S2 => Rs.of ((cmpD o x y S2).map .bl) S2) := by
  obtain ⟨r, h1, h2⟩ := cop_ok (C := C) (X := X) o hK hu
  obtain ⟨ta, pa, ga⟩ := ha
  obtain ⟨tb, pb, gb⟩ := hb
  refine ⟨_, pt_cmpR h1 pa pb (nomark' _ _ hs), fun σ H L ρ S Q s e h => ?_⟩
  have h' := sat_bind h
  refine ga.first s e (fun _ _ z => z) h' fun x S1 v H1 L1 F p1 e1 h1 => ?_
  refine gb.first p1.sim e1 (fun _ _ z => z.later p1.ext) h1 fun y S2 w H2 L2 G p2 e2 h3 => ?_
  obtain ⟨d, hd, q⟩ := sat_of h3
  obtain ⟨x1, x2, x3⟩ := p1.seq p2
  refine h2 H L H2 L2 S2 x y v w F G d _ x1 p2.sim x2 p2.rep x3 hd fun z H' L' Z _ pz => ?_
  cases hc : cmpD o x y S2 with
  | none => simp only [hc] at hd; cases hd
  | some k =>
    simp only [hc] at hd
    cases hd
    obtain ⟨rfl, rfl⟩ := pz.rep.bl_inv
    exact ⟨k, rfl, q H' L' pz.ext pz.sim⟩
theorem Ext.out {H H' : Hp} {L L' : List Addr} (e : Ext H L H' L') {a : Addr} {o : HO} (h : H a = some o) (hn : a ∉ L) : a ∉ L' := by
  obtain ⟨M, em, nm⟩ := e.pre
  rw [em]
  intro hm
  rcases List.mem_append.mp hm with q' | q'
  · exact hn q'
  · rw [nm a q'] at h; cases h
theorem Fr.over {H H2 H3 : Hp} {L2 L3 Z : List Addr} (f : Fr H Z L2) (tr : ∀ a ∈ Z, ∃ o, H2 a = some o) (e : Ext H2 L2 H3 L3) : Fr H Z L3 :=
  ⟨f.new, f.nd, fun a ha => let ⟨_, ho⟩ := tr a ha; e.out ho (f.out a ha)⟩
theorem Fr.sub {H : Hp} {L Z W : List Addr} (f : Fr H Z L) (h : W.Sublist Z) : Fr H W L := ⟨fun a ha => f.new a (h.subset ha), f.nd.sublist h, fun a ha => f.out a (h.subset ha)⟩
/-! ### a op b op c -/
def chainF (o p : Cop) (fa fb fc : AEnv → Store → Rs D) : AEnv → Store → Rs D := fun ρ S => (fa ρ S).bind fun x S1 => (fb ρ S1).bind fun y S2 => match cmpD o x y S2 with
    | some true => (fc ρ S2).bind fun z S3 => Rs.of ((cmpD p y z S3).map .bl) S3
    | some false => .ok (.bl false) S2
    | none => .stuck
theorem good_chain (o p : Cop) {r r' : R2} {ta tb tc : TE} (h2 : GoodR C r (fun x y S => (cmpD o x y S).map .bl)) (h2' : GoodR C r' (fun x y S => (cmpD p x y S).map .bl)) (ga : GoodE C R E ta fa) (gb : GoodE C R E tb fb) (gc : GoodE C R E tc fc) :
    GoodE C R E (tChain r r' ta tb tc) (chainF o p fa fb fc) := by
  intro σ H L ρ S Q s e h
  refine ga.first s e (fun _ _ z => z) h fun x S1 v H1 L1 F p1 e1 h1 => ?_
  refine gb.first p1.sim e1 (fun _ _ z => z.later p1.ext) h1 fun y S2 w H2 L2 G p2 e2 h3 => ?_
  obtain ⟨x1, x2, x3⟩ := p1.seq p2
  cases hc : cmpD o x y S2 with
  | none => rw [hc] at h3; exact h3.elim
  | some k =>
    rw [hc] at h3
    refine h2 H L H2 L2 S2 x y v w F G (.bl k) _ x1 p2.sim x2 p2.rep x3 (by simp only [hc] <;> rfl) fun z H3 L3 Z e3 pz => ?_
    obtain ⟨rfl, rfl⟩ := pz.rep.bl_inv
    refine ⟨k, rfl, ?_⟩
    cases k with
    | false =>
      rw [if_neg Bool.false_ne_true]
      exact h3 _ H3 L3 [] pz
    | true =>
      rw [if_pos rfl]
      refine gc.first pz.sim (e2.ext e3) (fun _ _ z => z.later pz.ext) h3 fun z S3 u H4 L4 G' p4 e4 h4 => ?_
      obtain ⟨d, hd, q⟩ := sat_of h4
      have t2 : ∀ a ∈ F ++ G, ∃ o, H2 a = some o := fun a ha => (List.mem_append.mp ha).elim (x2.trk a) (p2.rep.trk a)
      have t3 : ∀ a ∈ F ++ G, ∃ o, H3 a = some o := fun a ha => let ⟨o, ho⟩ := t2 a ha; ⟨o, e3.frame a o (x3.out a ha) ho⟩
      have f3 : Fr H (F ++ G) L3 := x3.over t2 e3
      have f4 : Fr H ((F ++ G) ++ G') L4 := Fr.later (x1.trans e3) f3 t3 p4.ext p4.fr
      have y4 : Rep C H4 L4 y w G := (p2.rep.car (e3.car p2.fr.out)).car (p4.ext.car fun a ha => f3.out a (List.mem_append_right _ ha))
      have sub : (G ++ G').Sublist ((F ++ G) ++ G') := by
        rw [List.append_assoc]; exact List.sublist_append_right _ _
      exact h2' H L H4 L4 S3 y z w u G G' d Q (pz.ext.trans p4.ext) p4.sim y4 p4.rep (f4.sub sub) hd fun v' H' L' Z _ p => q v' H' L' Z p
theorem lastM {o p : Cop} (hs : ∀ es k q, c ≠ .Set es k q) : lastMarks [copP o, copP p] [b, c] = false := nomark' _ _ hs
theorem ee_chain (o p : Cop) (hK : X.K = C.K) (hu : X.A.units + 64 < cLine) (hs : ∀ es k p, c ≠ .Set es k p) (ha : EE C R X E a fa) (hb : EE C R X E b fb) (hc : EE C R X E c fc) :
    EE C R X E (.Compare a [copP o, copP p] [b, c] pos) (chainF o p fa fb fc) := by
  obtain ⟨r, h1, h2⟩ := cop_ok (C := C) (X := X) o hK hu
  obtain ⟨r', h1', h2'⟩ := cop_ok (C := C) (X := X) p hK hu
  obtain ⟨ta, pa, ga⟩ := ha
  obtain ⟨tb, pb, gb⟩ := hb
  obtain ⟨tc, pc, gc⟩ := hc
  exact ⟨_, pe_chain h1 h1' pa pb pc (lastM hs), good_chain o p h2 h2' ga gb gc⟩
/-- what gives a truth, as a test -/
theorem good_test {t : TE} {f : AEnv → Store → Rs D} (g : GoodE C R E t f) (hb : ∀ ρ S d S', f ρ S = .ok d S' → ∃ k, d = .bl k) : GoodT C R E (tTest t) (truF f) := by
  intro σ H L ρ S Q s e h
  refine g σ H L ρ S _ s e ?_
  have h' := sat_bind h
  cases hf : f ρ S with
  | ok d S' =>
    rw [hf] at h'
    obtain ⟨k, rfl⟩ := hb ρ S d S' hf
    intro v H' L' F p
    obtain ⟨rfl, rfl⟩ := p.rep.bl_inv
    exact ⟨k, rfl, h' H' L' p.ext p.sim⟩
  | ex x S' => rw [hf] at h'; exact h'
  | stuck => rw [hf] at h'; exact h'
theorem rs_of_bl {o : Option Bool} {S : Store} {d : D} {S' : Store} (h : Rs.of (o.map .bl) S = .ok d S') : ∃ k, d = .bl k := by
  cases o with
  | none => cases h
  | some k => cases h; exact ⟨k, rfl⟩
theorem et_chain (o p : Cop) (hK : X.K = C.K) (hu : X.A.units + 64 < cLine) (hs : ∀ es k p, c ≠ .Set es k p) (ha : EE C R X E a fa) (hb : EE C R X E b fb) (hc : EE C R X E c fc) :
    ET C R X E (.Compare a [copP o, copP p] [b, c] pos) (chainF o p fa fb fc) := by
  obtain ⟨r, h1, h2⟩ := cop_ok (C := C) (X := X) o hK hu
  obtain ⟨r', h1', h2'⟩ := cop_ok (C := C) (X := X) p hK hu
  obtain ⟨ta, pa, ga⟩ := ha
  obtain ⟨tb, pb, gb⟩ := hb
  obtain ⟨tc, pc, gc⟩ := hc
  refine ⟨_, pt_chain h1 h1' pa pb pc (lastM hs), good_test (good_chain o p h2 h2' ga gb gc) fun ρ S d S' h => ?_⟩
  obtain ⟨x, S1, _, h1⟩ := Rs.bind_ok h
  obtain ⟨y, S2, _, h2⟩ := Rs.bind_ok h1
  cases hc : cmpD o x y S2 with
  | none => rw [hc] at h2; cases h2
  | some k =>
    rw [hc] at h2
    cases k with
    | false => cases h2; exact ⟨false, rfl⟩
    | true =>
      obtain ⟨z, S3, _, h3⟩ := Rs.bind_ok h2
      exact rs_of_bl h3
/-! ### and, or, not, if -/
def andF (fa fb : AEnv → Store → Rs D) : AEnv → Store → Rs D := fun ρ S => (fa ρ S).bind fun x S1 => match truD x S1 with
    | some true => fb ρ S1
    | some false => .ok x S1
    | none => .stuck
def orF (fa fb : AEnv → Store → Rs D) : AEnv → Store → Rs D := fun ρ S => (fa ρ S).bind fun x S1 => match truD x S1 with
    | some true => .ok x S1
    | some false => fb ρ S1
    | none => .stuck
def notF (fa : AEnv → Store → Rs D) : AEnv → Store → Rs D := fun ρ S => (fa ρ S).bind fun x S1 => match truD x S1 with
    | some k => .ok (.bl (!k)) S1
    | none => .stuck
def iteF' (fc fa fb : AEnv → Store → Rs D) : AEnv → Store → Rs D := fun ρ S => (fc ρ S).bind fun x S1 => match truD x S1 with
    | some true => fa ρ S1
    | some false => fb ρ S1
    | none => .stuck
theorem truF_and (ρ : AEnv) (S : Store) : truF (andF fa fb) ρ S = (truF fa ρ S).bind fun k S1 => match k with
    | true => truF fb ρ S1
    | false => .ok false S1 := by
  unfold truF andF
  cases fa ρ S with
  | ok x S1 =>
    simp only [Rs.bind]
    cases h : truD x S1 with
    | none => rfl
    | some k => cases k <;> simp [Rs.of, Rs.bind, h]
  | ex x S1 => rfl
  | stuck => rfl
theorem truF_or (ρ : AEnv) (S : Store) : truF (orF fa fb) ρ S = (truF fa ρ S).bind fun k S1 => match k with
    | true => .ok true S1
    | false => truF fb ρ S1 := by
  unfold truF orF
  cases fa ρ S with
  | ok x S1 =>
    simp only [Rs.bind]
    cases h : truD x S1 with
    | none => rfl
    | some k => cases k <;> simp [Rs.of, Rs.bind, h]
  | ex x S1 => rfl
  | stuck => rfl
theorem truF_not (ρ : AEnv) (S : Store) : truF (notF fa) ρ S = (truF fa ρ S).bind fun k S1 => .ok (!k) S1 := by
  unfold truF notF
  cases fa ρ S with
  | ok x S1 =>
    simp only [Rs.bind]
    cases h : truD x S1 with
    | none => rfl
    | some k => cases k <;> rfl
  | ex x S1 => rfl
  | stuck => rfl
/-- a chain of and, or as a test -/
def EW (C : Cxt) (R : XR) (X : Cx) (E : XK) (e : Expr) (f : AEnv → Store → Rs D) : Prop := ∃ t, PW X e t ∧ GoodT C R E t (truF f)
theorem EW.et {f : AEnv → Store → Rs D} (h : EW C R X E e f) : ET C R X E e f := let ⟨t, p, g⟩ := h; ⟨t, p.pt, g⟩
variable {rest : List Expr}
theorem ew_and1 (ha : ET C R X E a fa) : EW C R X E (.BoolOp .And [a] pos) fa := let ⟨t, p, g⟩ := ha; ⟨t, pw_and1 p, g⟩
theorem ew_or1 (ha : ET C R X E a fa) : EW C R X E (.BoolOp .Or [a] pos) fa := let ⟨t, p, g⟩ := ha; ⟨t, pw_or1 p, g⟩
theorem ew_and (ha : ET C R X E a fa) (hb : EW C R X E (.BoolOp .And (b :: rest) pos) fb) : EW C R X E (.BoolOp .And (a :: b :: rest) pos) (andF fa fb) := by
  obtain ⟨ta, pa, ga⟩ := ha
  obtain ⟨tb, pb, gb⟩ := hb
  refine ⟨_, pw_and pa pb, fun σ H L ρ S Q s e h => ?_⟩
  rw [truF_and] at h
  refine ga.first s e (fun _ _ z => z) h fun k S1 H1 L1 x1 s1 e1 h1 => ?_
  cases k with
  | true =>
    rw [if_pos rfl]
    exact gb σ H1 L1 ρ S1 Q s1 e1 (sat_mono h1 (fun _ _ z H' L' x' s' => z H' L' (x1.trans x') s') fun _ _ z => z.later x1)
  | false =>
    rw [if_neg Bool.false_ne_true]
    exact h1 H1 L1 x1 s1
theorem ew_or (ha : ET C R X E a fa) (hb : EW C R X E (.BoolOp .Or (b :: rest) pos) fb) : EW C R X E (.BoolOp .Or (a :: b :: rest) pos) (orF fa fb) := by
  obtain ⟨ta, pa, ga⟩ := ha
  obtain ⟨tb, pb, gb⟩ := hb
  refine ⟨_, pw_or pa pb, fun σ H L ρ S Q s e h => ?_⟩
  rw [truF_or] at h
  refine ga.first s e (fun _ _ z => z) h fun k S1 H1 L1 x1 s1 e1 h1 => ?_
  cases k with
  | false =>
    rw [if_neg Bool.false_ne_true]
    exact gb σ H1 L1 ρ S1 Q s1 e1 (sat_mono h1 (fun _ _ z H' L' x' s' => z H' L' (x1.trans x') s') fun _ _ z => z.later x1)
  | true =>
    rw [if_pos rfl]
    exact h1 H1 L1 x1 s1
theorem et_not (ha : ET C R X E a fa) : ET C R X E (.UnaryOp .Not a pos) (notF fa) := by
  obtain ⟨ta, pa, ga⟩ := ha
  refine ⟨_, pt_not pa, fun σ H L ρ S Q s e h => ?_⟩
  rw [truF_not] at h
  exact ga.first s e (fun _ _ z => z) h fun k S1 H1 L1 x1 s1 e1 h1 => h1 H1 L1 x1 s1
theorem post_later {H H1 : Hp} {L L1 : List Addr} {S' : Store} {d : D} {v : V} {H' : Hp} {L' F : List Addr} (x1 : Ext H L H1 L1) (p : Post C H1 L1 S' d v H' L' F) : Post C H L S' d v H' L' F :=
  ⟨x1.trans p.ext, p.sim, p.rep, fun a ha => x1.dom a (p.fr.new a ha), p.fr.nd, p.fr.out⟩
theorem OkW.later {H H1 : Hp} {L L1 : List Addr} {Q : VK} {d : D} {S' : Store} (x1 : Ext H L H1 L1) (h : OkW C H L Q d S') : OkW C H1 L1 Q d S' := fun v H' L' F p => h v H' L' F (post_later x1 p)
theorem ee_one {op : BoolOp} (ha : EE C R X E a fa) : EE C R X E (.BoolOp op [a] pos) fa := let ⟨t, p, g⟩ := ha; ⟨t, pe_one p, g⟩
theorem ee_and (hK : X.K = C.K) (ha : EE C R X E a fa) (hb : EE C R X E (.BoolOp .And (b :: rest) pos) fb) : EE C R X E (.BoolOp .And (a :: b :: rest) pos) (andF fa fb) := by
  obtain ⟨ta, pa, ga⟩ := ha
  obtain ⟨tb, pb, gb⟩ := hb
  refine ⟨_, pe_andT pa pb, fun σ H L ρ S Q s e h => ?_⟩
  refine ga.first s e (fun _ _ z => z) h fun x S1 v H1 L1 F p1 e1 h1 => ?_
  cases hk : truD x S1 with
  | none => rw [hk] at h1; exact h1.elim
  | some k =>
    rw [hk] at h1
    refine ⟨k, hK ▸ tru_of p1.sim p1.rep hk, ?_⟩
    cases k with
    | true =>
      rw [if_pos rfl]
      exact gb σ H1 L1 ρ S1 Q p1.sim e1 (sat_mono h1 (fun _ _ z => z.later p1.ext) fun _ _ z => z.later p1.ext)
    | false =>
      rw [if_neg Bool.false_ne_true]
      exact h1 v H1 L1 F p1
theorem ee_or (hK : X.K = C.K) (ha : EE C R X E a fa) (hb : EE C R X E (.BoolOp .Or (b :: rest) pos) fb) : EE C R X E (.BoolOp .Or (a :: b :: rest) pos) (orF fa fb) := by
  obtain ⟨ta, pa, ga⟩ := ha
  obtain ⟨tb, pb, gb⟩ := hb
  refine ⟨_, pe_orT pa pb, fun σ H L ρ S Q s e h => ?_⟩
  refine ga.first s e (fun _ _ z => z) h fun x S1 v H1 L1 F p1 e1 h1 => ?_
  cases hk : truD x S1 with
  | none => rw [hk] at h1; exact h1.elim
  | some k =>
    rw [hk] at h1
    refine ⟨k, hK ▸ tru_of p1.sim p1.rep hk, ?_⟩
    cases k with
    | false =>
      rw [if_neg Bool.false_ne_true]
      exact gb σ H1 L1 ρ S1 Q p1.sim e1 (sat_mono h1 (fun _ _ z => z.later p1.ext) fun _ _ z => z.later p1.ext)
    | true =>
      rw [if_pos rfl]
      exact h1 v H1 L1 F p1
theorem ee_not (hK : X.K = C.K) (ha : EE C R X E a fa) : EE C R X E (.UnaryOp .Not a pos) (notF fa) := by
  obtain ⟨ta, pa, ga⟩ := ha
  refine ⟨_, pe_notT pa, fun σ H L ρ S Q s e h => ?_⟩
  refine ga.first s e (fun _ _ z => z) h fun x S1 v H1 L1 F p1 e1 h1 => ?_
  cases hk : truD x S1 with
  | none => rw [hk] at h1; exact h1.elim
  | some k =>
    rw [hk] at h1
    exact ⟨k, hK ▸ tru_of p1.sim p1.rep hk, h1 _ H1 L1 [] ⟨p1.ext, p1.sim, .bl _, Fr.nil _ _⟩⟩
theorem ee_ite (hc : ET C R X E c fc) (ha : EE C R X E a fa) (hb : EE C R X E b fb) : EE C R X E (.IfExp c a b pos) (iteF' fc fa fb) := by
  obtain ⟨tc, pc, gc⟩ := hc
  obtain ⟨ta, pa, ga⟩ := ha
  obtain ⟨tb, pb, gb⟩ := hb
  refine ⟨_, pe_ifExp pc pa pb, fun σ H L ρ S Q s e h => ?_⟩
  have h2 : ((truF fc ρ S).bind fun k S1 => if k = true then fa ρ S1 else fb ρ S1).sat (OkW C H L Q) (ExW C R E H L) := by
    have h' : (iteF' fc fa fb ρ S).sat (OkW C H L Q) (ExW C R E H L) := h
    unfold iteF' at h'
    unfold truF
    cases hf : fc ρ S with
    | ok x S1 =>
      rw [hf] at h'
      simp only [Rs.bind] at h' ⊢
      cases hk : truD x S1 with
      | none => rw [hk] at h'; exact h'.elim
      | some k => rw [hk] at h'; cases k <;> simpa [Rs.of, Rs.bind] using h'
    | ex x S1 => rw [hf] at h'; exact h'
    | stuck => rw [hf] at h'; exact h'.elim
  refine gc.first s e (fun _ _ z => z) h2 fun k S1 H1 L1 x1 s1 e1 h1 => ?_
  cases k with
  | true =>
    rw [if_pos rfl] at h1 ⊢
    exact ga σ H1 L1 ρ S1 Q s1 e1 (sat_mono h1 (fun _ _ z => z.later x1) fun _ _ z => z.later x1)
  | false =>
    rw [if_neg Bool.false_ne_true] at h1 ⊢
    exact gb σ H1 L1 ρ S1 Q s1 e1 (sat_mono h1 (fun _ _ z => z.later x1) fun _ _ z => z.later x1)
end
end Nv
/-! Nv: items, slices, fields, built-in functions, isinstance. -/
namespace Nv
open PySem PySem.Spec PyProof.Rows L2
section
variable {C : Cxt} {R : XR} {X : Cx} {E : XK} {pos : Pos} {a b c e : Expr} {fa fb fc : AEnv → Store → Rs D}
theorem Reps.at {H : Hp} {L : List Addr} : ∀ {xs : List D} {vs : List V} {F : List Addr} {j : Nat} {d : D}, Reps C H L xs vs F → xs[j]? = some d → ∃ v G, vs[j]? = some v ∧ Rep C H L d v G ∧ G.Sublist F
  | _, _, _, j, d, .nil, h => by simp at h
  | _, _, _, 0, d, .cons r s, h => by
    simp at h; subst h
    exact ⟨_, _, rfl, r, List.sublist_append_left _ _⟩
  | _, _, _, j + 1, d, .cons r s, h => by
    obtain ⟨v, G, h1, h2, h3⟩ := s.at (j := j) (by simpa using h)
    exact ⟨v, G, by simpa using h1, h2, h3.trans (List.sublist_append_right _ _)⟩
theorem Reps.atI {H : Hp} {L : List Addr} {xs : List D} {vs : List V} {F : List Addr} {i : Int} {d : D} (r : Reps C H L xs vs F) (h : L2.atI xs i = some d) : ∃ v G, L2.atI vs i = some v ∧ Rep C H L d v G ∧ G.Sublist F := by
  unfold L2.atI at h
  cases q : ixN xs.length i with
  | none => rw [q] at h; cases h
  | some j =>
    rw [q] at h
    obtain ⟨v, G, h1, h2, h3⟩ := r.at h
    exact ⟨v, G, by unfold L2.atI; rw [← r.length, q]; exact h1, h2, h3⟩
theorem good_idx : GoodR C (fun x y H Q => rIx C.K x y H Q ∨ rIxK x y H Q) idxD := by
  intro H0 L0 H L S x y vx vy F G d Q e s rx ry fr hd q
  have gen : (match seqOf x S with
    | some xs => (match y with
      | .int k => L2.atI xs k
      | _ => none)
    | none => match dctOf x S, keyD y with
      | some kvs, some k => getKD kvs k
      | _, _ => none) = some d → rIx C.K vx vy H Q ∨ rIxK vx vy H Q := by
    intro h
    cases hs : seqOf x S with
    | some xs =>
      rw [hs] at h
      cases y with
      | int k =>
        have h : L2.atI xs k = some d := h
        obtain ⟨rfl, rfl⟩ := ry.int_inv
        obtain ⟨a, vs, F', rfl, r1, f1, w⟩ := seq_of s rx hs
        obtain ⟨v, G', h1, h2, h3⟩ := r1.atI (d := d) h
        have p : Q v H := q v H L G' (Ext.refl _ _) (post_same e s h2 fr ((h3.trans f1).trans (List.sublist_append_left _ _)))
        rcases w with ⟨w, _⟩ | ⟨w, _⟩
        · exact .inl (.inl ⟨a, vs, k, v, rfl, rfl, w, h1, p⟩)
        · exact .inl (.inr (.inl ⟨a, vs, k, v, rfl, rfl, w, h1, p⟩))
      | _ => cases h
    | none =>
      rw [hs] at h
      cases hk : dctOf x S with
      | none => rw [hk] at h; cases h
      | some kvs =>
        cases hq : keyD y with
        | none => rw [hk, hq] at h; cases h
        | some k =>
          rw [hk, hq] at h
          have hg : getKD kvs k = some d := h
          clear h
          obtain ⟨a, vs, G', rfl, ha, r, sub⟩ := dct_of s rx hk
          have ev := key_rep ry hq
          subst ev
          rcases r.get k with ⟨e1, _⟩ | ⟨d', v, G2, e1, e2, e3, e4⟩
          · rw [e1] at hg; cases hg
          · rw [e1] at hg
            cases hg
            have g := DGet.k (k := k) ha
            rw [e2] at g
            exact .inr ⟨a, v, rfl, g, q v H L G2 (Ext.refl _ _) (post_same e s e3 fr ((e4.trans sub).trans (List.sublist_append_left _ _)))⟩
  cases y with
  | int k =>
    cases x with
    | str z =>
      by_cases hz : z.length ≤ sizeLine
      · simp only [idxD, if_pos hz] at hd
        cases hc : L2.atI z.cps.toList k with
        | none => rw [hc] at hd; cases hd
        | some c =>
          rw [hc] at hd
          cases hd
          obtain ⟨rfl, rfl⟩ := rx.str_inv
          obtain ⟨rfl, rfl⟩ := ry.int_inv
          exact .inl (.inr (.inr ⟨z, k, c, rfl, rfl, hz, hc, q _ H L [] (Ext.refl _ _) (post_same e s (.str _) fr (List.nil_sublist _))⟩))
      · simp only [idxD, if_neg hz] at hd; cases hd
    | _ => exact gen hd
  | _ => exact gen (by cases x <;> exact hd)
theorem plainIx_of {b : Expr} (h : ∀ l u s p, b ≠ .Slice l u s p) : PlainIx b := by
  intro o i
  cases b <;> first
    | rfl
    | exact absurd rfl (h _ _ _ _)
theorem ee_idx (hK : X.K = C.K) (hu : X.A.units + 64 < cLine) (hs : ∀ l u s p, b ≠ .Slice l u s p) (ha : EE C R X E a fa) (hb : EE C R X E b fb) :
    EE C R X E (.Subscript a b pos) (fun ρ S => (fa ρ S).bind fun x S1 => (fb ρ S1).bind fun y S2 => Rs.of (idxD x y S2) S2) :=
  ee_op2 good_idx (fun ta tb pa pb => pe_ix (hK ▸ ix_seq.or (ix_K (by omega))) pa pb (plainIx_of hs)) ha hb
/-! ### slices -/
theorem eo_none : EO C R X E none (fun _ S => .ok none S) := ⟨tNoPart, po_none, fun σ H L ρ S Q s e h => h H L (Ext.refl _ _) s⟩
theorem eo_some (ha : EE C R X E a fa) : EO C R X E (some a) (fun ρ S => (fa ρ S).bind fun x S1 => match x with
    | .int i => .ok (some i) S1
    | _ => .stuck) := by
  obtain ⟨ta, pa, ga⟩ := ha
  refine ⟨_, po_some pa, fun σ H L ρ S Q s e h => ?_⟩
  refine ga.first s e (fun _ _ z => z) h fun x S1 v H1 L1 F p1 e1 h1 => ?_
  cases x with
  | int i =>
    obtain ⟨rfl, rfl⟩ := p1.rep.int_inv
    exact ⟨i, rfl, h1 H1 L1 p1.ext p1.sim⟩
  | _ => exact h1.elim
def rSlN (K : PySem.W.Frag) : V → Option Int → Option Int → Hp → VK → Prop := fun x lo hi H Q => rSlL K x lo hi H Q ∨ rSlS K x lo hi H Q ∨ ∃ z : Str, x = .str z ∧ z.length ≤ sizeLine ∧ Q (.str (cutS z lo hi)) H
theorem Reps.drop {H : Hp} {L : List Addr} : ∀ {xs : List D} {vs : List V} {F : List Addr} (n : Nat), Reps C H L xs vs F → ∃ G, Reps C H L (xs.drop n) (vs.drop n) G ∧ G.Sublist F
  | _, _, _, 0, r => ⟨_, r, List.Sublist.refl _⟩
  | _, _, _, n + 1, .nil => ⟨[], .nil, List.Sublist.refl _⟩
  | _, _, _, n + 1, .cons _ s => let ⟨G, h1, h2⟩ := s.drop n; ⟨G, h1, h2.trans (List.sublist_append_right _ _)⟩
theorem Reps.take {H : Hp} {L : List Addr} : ∀ {xs : List D} {vs : List V} {F : List Addr} (n : Nat), Reps C H L xs vs F → ∃ G, Reps C H L (xs.take n) (vs.take n) G ∧ G.Sublist F
  | _, _, _, 0, r => ⟨[], .nil, List.nil_sublist _⟩
  | _, _, _, n + 1, .nil => ⟨[], .nil, List.Sublist.refl _⟩
  | _, _, _, n + 1, .cons r s => let ⟨G, h1, h2⟩ := s.take n; ⟨_ ++ G, .cons r h1, (List.Sublist.refl _).append h2⟩
theorem Reps.cut {H : Hp} {L : List Addr} {xs : List D} {vs : List V} {F : List Addr} (lo hi : Option Int) (r : Reps C H L xs vs F) : ∃ G, Reps C H L (cutD xs lo hi) (cutV vs lo hi) G ∧ G.Sublist F := by
  obtain ⟨G, h1, h2⟩ := r.drop (HT.sIx xs.length 0 lo)
  obtain ⟨G', h3, h4⟩ := h1.take (HT.sIx xs.length xs.length hi - HT.sIx xs.length 0 lo)
  refine ⟨G', ?_, h4.trans h2⟩
  unfold cutD cutV
  rw [← r.length]
  exact h3
theorem cut_whole {α : Type} {xs : List α} {lo hi : Option Int} (h : HT.sIx xs.length 0 lo = 0 ∧ HT.sIx xs.length xs.length hi = xs.length) : (xs.drop (HT.sIx xs.length 0 lo)).take (HT.sIx xs.length xs.length hi - HT.sIx xs.length 0 lo) = xs := by
  rw [h.1, h.2]; simp
theorem ee_slc {lo hi : Option Expr} {p2 : Pos} {fl fh : AEnv → Store → Rs (Option Int)} (hK : X.K = C.K) (ha : EE C R X E a fa) (hl : EO C R X E lo fl) (hh : EO C R X E hi fh) :
    EE C R X E (.Subscript a (.Slice lo hi none p2) pos) (fun ρ S => (fa ρ S).bind fun x S1 => (fl ρ S1).bind fun l S2 => (fh ρ S2).bind fun h S3 => Rs.of (slcD x l h S3) S3) := by
  obtain ⟨ta, pa, ga⟩ := ha
  obtain ⟨tl, pl, gl⟩ := hl
  obtain ⟨th, ph, gh⟩ := hh
  refine ⟨_, pe_slice (r := rSlN C.K) (hK ▸ sl_list.or (sl_tupS.or sl_str)) pa pl ph, fun σ H L ρ S Q s e h => ?_⟩
  refine ga.first s e (fun _ _ z => z) h fun x S1 v H1 L1 F p1 e1 h1 => ?_
  refine gl.first p1.sim e1 (fun _ _ z => z.later p1.ext) h1 fun l S2 H2 L2 x2 s2 e2 h2 => ?_
  refine gh.first s2 e2 (fun _ _ z => z.later (p1.ext.trans x2)) h2 fun u S3 H3 L3 x3 s3 e3 h3 => ?_
  obtain ⟨d, hd, q⟩ := sat_of h3
  have x23 := x2.trans x3
  have rx : Rep C H3 L3 x v F := p1.rep.car (x23.car p1.fr.out)
  have fr : Fr H F L3 := p1.fr.over p1.rep.trk x23
  have ex := p1.ext.trans x23
  have seqs : ((seqOf x S3).map fun xs => D.new (.lst (cutD xs l u))) = some d → (∀ ys, x ≠ .tup ys) → rSlN C.K v l u H3 Q := by
    intro h nt
    cases hs : seqOf x S3 with
    | none => rw [hs] at h; cases h
    | some xs =>
      rw [hs] at h
      cases h
      obtain ⟨a, vs, F', rfl, r1, f1, w⟩ := seq_of s3 rx hs
      obtain ⟨G, r2, f2⟩ := r1.cut l u
      rcases w with ⟨w, _⟩ | ⟨_, _, w⟩
      · exact .inl ⟨a, vs, rfl, w, fun p hp => q _ _ L3 _ (post_lst ex s3 r2 (fr.sub (f2.trans f1)) hp)⟩
      · exact absurd w (nt _)
  cases x with
  | str z =>
    by_cases hz : z.length ≤ sizeLine
    · simp only [slcD, if_pos hz] at hd
      cases hd
      obtain ⟨rfl, rfl⟩ := rx.str_inv
      exact .inr (.inr ⟨z, rfl, hz, q _ H3 L3 [] ⟨ex, s3, .str _, Fr.nil _ _⟩⟩)
    · simp only [slcD, if_neg hz] at hd; cases hd
  | tup xs =>
    simp only [slcD] at hd
    cases hd
    obtain ⟨a, vs, rfl, ht, r1⟩ := rx.tup_inv
    obtain ⟨G, r2, f2⟩ := r1.cut l u
    refine .inr (.inl ⟨a, vs, rfl, ht.sq, fun hw => ?_, fun _ p o hp ho => q _ _ L3 _ (post_tup ex s3 r2 (fr.sub f2) hp o ho)⟩)
    have hw' : HT.sIx xs.length 0 l = 0 ∧ HT.sIx xs.length xs.length u = xs.length := by rw [r1.length]; exact hw
    have e' : cutD xs l u = xs := cut_whole hw'
    exact q _ H3 L3 F ⟨ex, s3, by rw [e']; exact .tup ht r1, fr⟩
  | non => exact seqs hd fun ys z => nomatch z
  | bl _ => exact seqs hd fun ys z => nomatch z
  | int _ => exact seqs hd fun ys z => nomatch z
  | ref n => exact seqs hd fun ys z => nomatch z
  | new o => exact seqs hd fun ys z => nomatch z
  | wtp _ => exact seqs hd fun ys z => nomatch z
/-! ### fields -/
theorem fs_look {H : Hp} {L : List Addr} : ∀ {fs : List (Nat × D)} {vs : List (Str × V)} {F : List Addr} {f : Nat} {d : D}, (∀ g ∈ fs.map (·.1), C.sym g = C.sym f → g = f) → RepFs C H L fs vs F → fs.lookup f = some d → ∃ v G, vs.lookup (C.sym f) = some v ∧ Rep C H L d v G ∧ G.Sublist F
  | [], _, _, f, d, _, .nil, h => by cases h
  | (g, x) :: r, _, _, f, d, inj, .cons rx rs, h => by
    by_cases q : f = g
    · subst q
      have h' : some x = some d := by
        have : List.lookup f ((f, x) :: r) = some x := by simp [List.lookup]
        rw [← this]; exact h
      cases h'
      refine ⟨_, _, ?_, rx, List.sublist_append_left _ _⟩
      simp [List.lookup]
    · have ne : ¬ C.sym f = C.sym g := fun e => q (inj g (by simp) e.symm).symm
      have e1 : (f == g) = false := by simpa using q
      have e2 : (C.sym f == C.sym g) = false := by simpa using ne
      have h' : r.lookup f = some d := by
        simp only [List.lookup, e1] at h; exact h
      obtain ⟨v, G, h1, h2, h3⟩ := fs_look (fun g' hg => inj g' (by simp only [List.map_cons]; exact List.mem_cons_of_mem _ hg)) rs h'
      exact ⟨v, G, by simp only [List.lookup, e2]; exact h1, h2, h3.trans (List.sublist_append_right _ _)⟩
theorem fs_none {H : Hp} {L : List Addr} : ∀ {fs : List (Nat × D)} {vs : List (Str × V)} {F : List Addr} {f : Nat}, (∀ g ∈ fs.map (·.1), C.sym g = C.sym f → g = f) → RepFs C H L fs vs F → fs.lookup f = none → vs.lookup (C.sym f) = none
  | [], _, _, f, _, .nil, h => rfl
  | (g, x) :: r, _, _, f, inj, .cons rx rs, h => by
    by_cases q : f = g
    · subst q
      simp [List.lookup] at h
    · have ne : ¬ C.sym f = C.sym g := fun e => q (inj g (by simp) e.symm).symm
      have e1 : (f == g) = false := by simpa using q
      have e2 : (C.sym f == C.sym g) = false := by simpa using ne
      have h' : r.lookup f = none := by
        simp only [List.lookup, e1] at h; exact h
      simp only [List.lookup, e2]
      exact fs_none (fun g' hg => inj g' (by simp only [List.map_cons]; exact List.mem_cons_of_mem _ hg)) rs h'
/-- the attribute's name is no name of a class -/
def FldOk (C : Cxt) (f : Nat) : Prop := (∀ g, C.sym g = C.sym f → g = f)
theorem ee_attr {f : Nat} {nm : Str} (hK : X.K = C.K) (hcl : ∀ c, c < C.nc → Cls C.K (C.CA c)) (hna : ∀ c, c < C.nc → NoAttr C.K (C.CA c) nm) (hsym : C.sym f = nm) (inj : ∀ g, C.sym g = C.sym f → g = f) (hb : attributeBase a nm X.env (eval a X.env) = eval a X.env) (ha : EE C R X E a fa) :
    EE C R X E (.Attribute a nm pos) (fun ρ S => (fa ρ S).bind fun x S1 => Rs.of (attrD x f S1) S1) := by
  subst hsym
  obtain ⟨ta, pa, ga⟩ := ha
  refine ⟨_, pe_fld pa hb, fun σ H L ρ S Q s e h => ?_⟩
  refine ga.first s e (fun _ _ z => z) h fun x S1 v H1 L1 F p1 e1 h1 => ?_
  obtain ⟨d, hd, q⟩ := sat_of h1
  cases x with
  | ref n =>
    obtain ⟨rfl, a', rfl, hl, hc⟩ := p1.sim.at p1.rep
    simp only [attrD] at hd
    cases ho : S1[n]? with
    | none => rw [ho] at hd; cases hd
    | some o =>
      rw [ho] at hd
      cases o with
      | ins c fs =>
        obtain ⟨dx, vs, h1, h2, hlt⟩ := (hc _ ho).ins
        obtain ⟨v, G, h3, h4, h5⟩ := fs_look (fun g _ => inj g) h2 hd
        have eG : G = [] := List.sublist_nil.mp h5
        subst eG
        exact ⟨a', C.CA c, dx, vs, v, rfl, h1, hK ▸ hcl c hlt, hK ▸ hna c hlt, h3, q v H1 L1 [] ⟨p1.ext, p1.sim, h4, Fr.nil _ _⟩⟩
      | _ => cases hd
  | _ => cases hd
end
end Nv
/-! Nv: argument lists, built-in functions, isinstance. -/
namespace Nv
open PySem PySem.Spec PyProof.Rows L2
def noStar1 : Expr → Bool
  | .Starred .. => false
  | _ => true
def noStar (es : List Expr) : Bool := es.all noStar1
theorem starEach_ns {e : Expr} {es : List Expr} {env : Env} (h : noStar1 e = true) : starEach (e :: es) env = (false, eval e env) :: starEach es env := by
  cases e <;> first
    | rfl
    | cases h
theorem any_ns {pos : Pos} {env : Env} : ∀ {es : List Expr}, noStar es = true → (backTo pos (starEach es env)).any (·.1) = false
  | [], _ => rfl
  | e :: es, h => by
    unfold noStar at h
    rw [List.all_cons, Bool.and_eq_true] at h
    rw [starEach_ns h.1]
    have ih := any_ns (pos := pos) (env := env) (es := es) h.2
    simp only [backTo, List.map_cons, List.any_cons] at ih ⊢
    rw [ih]; rfl
theorem CallR.or {X : Cx} {f : Value} {r r' : List V → Hp → VK → Prop} (h : CallR X f r) (h' : CallR X f r') : CallR X f (fun xs H Q => r xs H Q ∨ r' xs H Q) := by
  intro pins s σ H xs us Q I rs q
  rcases q with q | q
  · exact h pins s σ H xs us Q I rs q
  · exact h' pins s σ H xs us Q I rs q
/-- a call by values agrees with r -/
def GoodC (C : Cxt) (r : List V → Hp → VK → Prop) (g : List D → Store → Option D) : Prop :=
  ∀ (H0 : Hp) (L0 : List Addr) (H : Hp) (L : List Addr) (S : Store) (xs : List D) (vs : List V) (F : List Addr) (d : D) (Q : VK), Ext H0 L0 H L → SimS C H L S → Reps C H L xs vs F → Fr H0 F L → g xs S = some d →
    (∀ v H' L' Z, Post C H0 L0 S d v H' L' Z → Q v H') → r vs H Q
section
variable {C : Cxt} {R : XR} {X : Cx} {E : XK} {pos p0 : Pos} {a b c e : Expr} {fa fb fc : AEnv → Store → Rs D}
theorem ee_blt1 {x : Str} {id : String} {es : List Expr} {r : List V → Hp → VK → Prop} {g : List D → Store → Option D} {fs : AEnv → Store → Rs (List D)} (hc : CallR X (.builtin id) r) (hr : GoodC C r g) (hg : Gl X x) (hm : X.mg x = none) (hv : bootBuiltins x = some (.builtin id))
    (hn : x ≠ "__name__") (hd : (x == ("__debug__" : Str)) = false) (ns : noStar (e :: es) = true) (ha : EA C R X E (e :: es) fs) : EE C R X E (.Call (.Name x p0) (e :: es) [] pos) (fun ρ S => (fs ρ S).bind fun xs S1 => Rs.of (g xs S1) S1) := by
  obtain ⟨ta, pa, ga⟩ := ha
  have ns' : noStar1 e = true ∧ noStar es = true := by
    unfold noStar at ns ⊢
    rw [List.all_cons, Bool.and_eq_true] at ns
    exact ns
  refine ⟨_, pe_callB hc hg hm hv pa hn hd (starEach_ns ns'.1) (any_ns ns'.2), fun σ H L ρ S Q s e h => ?_⟩
  refine ga.first s e (fun _ _ z => z) h fun xs S1 vs H1 L1 F p1 e1 h1 => ?_
  obtain ⟨d, hd, q⟩ := sat_of h1
  exact hr H L H1 L1 S1 xs vs F d Q p1.ext p1.sim p1.rep p1.fr hd q
theorem Reps.one {H : Hp} {L : List Addr} {x : D} {vs : List V} {F : List Addr} (r : Reps C H L [x] vs F) : ∃ v, vs = [v] ∧ Rep C H L x v F := by
  cases r with
  | cons a b => cases b; exact ⟨_, rfl, by simpa using a⟩
theorem Reps.two {H : Hp} {L : List Addr} {x y : D} {vs : List V} {F : List Addr} (r : Reps C H L [x, y] vs F) : ∃ v w F1 F2, vs = [v, w] ∧ Rep C H L x v F1 ∧ Rep C H L y w F2 := by
  cases r with
  | cons a b =>
    obtain ⟨w, rfl, b'⟩ := b.one
    exact ⟨_, w, _, _, rfl, a, b'⟩
theorem good_len : GoodC C (fun xs H Q => (∃ x n, xs = [x] ∧ LenV C.K x H n ∧ Q (.int n) H) ∨ ∃ a kvs, xs = [V.ref a] ∧ H a = some (.dK kvs) ∧ Q (.int kvs.length) H) (bltD .len) := by
  intro H0 L0 H L S xs vs F d Q e s r fr hd q
  match xs, hd with
  | [x], hd =>
    obtain ⟨v, rfl, rx⟩ := r.one
    have fin : ∀ n : Nat, Post C H0 L0 S (.int n) (.int n) H L [] := fun n => ⟨e, s, .int _, Fr.nil _ _⟩
    have seqs : (match dctOf x S with
      | some kvs => some (D.int kvs.length)
      | none => (seqOf x S).map fun xs => D.int xs.length) = some d → (∃ x n, [v] = [x] ∧ LenV C.K x H n ∧ Q (.int n) H) ∨ ∃ a kvs, [v] = [V.ref a] ∧ H a = some (.dK kvs) ∧ Q (.int kvs.length) H := by
      intro h
      cases hdc : dctOf x S with
      | some kvs =>
        rw [hdc] at h
        cases h
        obtain ⟨a, vs, G, rfl, ha, rk, _⟩ := dct_of s rx hdc
        have hl := rk.length
        exact .inr ⟨a, vs, rfl, ha, by rw [← hl]; exact q _ H L [] (fin _)⟩
      | none =>
      rw [hdc] at h
      have h : ((seqOf x S).map fun xs => D.int xs.length) = some d := h
      left
      cases hs : seqOf x S with
      | none => rw [hs] at h; cases h
      | some xs =>
        rw [hs] at h
        cases h
        obtain ⟨a, ws, F', rfl, r1, f1, w⟩ := seq_of s rx hs
        refine ⟨.ref a, xs.length, rfl, ?_, q _ H L [] (fin _)⟩
        rcases w with ⟨w, _⟩ | ⟨w, _⟩
        · exact .inl ⟨ws, w, r1.length⟩
        · exact .inr ⟨ws, w, r1.length⟩
    cases x with
    | str z =>
      by_cases hz : z.length ≤ sizeLine
      · simp only [bltD, if_pos hz] at hd
        cases hd
        obtain ⟨rfl, rfl⟩ := rx.str_inv
        exact .inl ⟨.str z, z.length, rfl, ⟨hz, rfl⟩, q _ H L [] (fin _)⟩
      · simp only [bltD, if_neg hz] at hd; cases hd
    | _ => exact seqs hd
  | [], hd => cases hd
  | x :: _ :: _, hd => cases x <;> cases hd
theorem good_sum : GoodC C (rSum C.K) (bltD .sum) := by
  intro H0 L0 H L S xs vs F d Q e s r fr hd q
  match xs, hd with
  | [x], hd =>
    obtain ⟨v, rfl, rx⟩ := r.one
    have hd : ((lisOf x S).bind fun xs => (intsOf xs).map fun ns => D.int ns.sum) = some d := hd
    cases hs : lisOf x S with
    | none => rw [hs] at hd; cases hd
    | some xs =>
      rw [hs] at hd
      cases hi : intsOf xs with
      | none =>
        have hd' : ((intsOf xs).map fun ns => D.int ns.sum) = some d := hd
        rw [hi] at hd'; cases hd'
      | some ns =>
        have hd' : ((intsOf xs).map fun ns => D.int ns.sum) = some d := hd
        rw [hi] at hd'
        cases hd'
        obtain ⟨a, ws, F', rfl, r1, f1, w⟩ := lis_of s rx hs
        obtain ⟨rfl, _⟩ := ints_of hi r1
        exact ⟨a, ns, rfl, w, q _ H L [] ⟨e, s, .int _, Fr.nil _ _⟩⟩
  | [], hd => cases hd
  | x :: _ :: _, hd => cases x <;> cases hd
theorem good_all : GoodC C (rAll C.K) (bltD .all) := by
  intro H0 L0 H L S xs vs F d Q e s r fr hd q
  match xs, hd with
  | [x], hd =>
    obtain ⟨v, rfl, rx⟩ := r.one
    have hd : ((lisOf x S).bind fun xs => (blsOf xs).map fun ns => D.bl (ns.all id)) = some d := hd
    cases hs : lisOf x S with
    | none => rw [hs] at hd; cases hd
    | some xs =>
      rw [hs] at hd
      cases hi : blsOf xs with
      | none =>
        have hd' : ((blsOf xs).map fun ns => D.bl (ns.all id)) = some d := hd
        rw [hi] at hd'; cases hd'
      | some ns =>
        have hd' : ((blsOf xs).map fun ns => D.bl (ns.all id)) = some d := hd
        rw [hi] at hd'
        cases hd'
        obtain ⟨a, ws, F', rfl, r1, f1, w⟩ := lis_of s rx hs
        obtain ⟨rfl, _⟩ := bls_of hi r1
        exact ⟨a, ns, rfl, w, q _ H L [] ⟨e, s, .bl _, Fr.nil _ _⟩⟩
  | [], hd => cases hd
  | x :: _ :: _, hd => cases x <;> cases hd
theorem good_any : GoodC C (rAny C.K) (bltD .any) := by
  intro H0 L0 H L S xs vs F d Q e s r fr hd q
  match xs, hd with
  | [x], hd =>
    obtain ⟨v, rfl, rx⟩ := r.one
    have hd : ((lisOf x S).bind fun xs => (blsOf xs).map fun ns => D.bl (ns.any id)) = some d := hd
    cases hs : lisOf x S with
    | none => rw [hs] at hd; cases hd
    | some xs =>
      rw [hs] at hd
      cases hi : blsOf xs with
      | none =>
        have hd' : ((blsOf xs).map fun ns => D.bl (ns.any id)) = some d := hd
        rw [hi] at hd'; cases hd'
      | some ns =>
        have hd' : ((blsOf xs).map fun ns => D.bl (ns.any id)) = some d := hd
        rw [hi] at hd'
        cases hd'
        obtain ⟨a, ws, F', rfl, r1, f1, w⟩ := lis_of s rx hs
        obtain ⟨rfl, _⟩ := bls_of hi r1
        exact ⟨a, ns, rfl, w, q _ H L [] ⟨e, s, .bl _, Fr.nil _ _⟩⟩
  | [], hd => cases hd
  | x :: _ :: _, hd => cases x <;> cases hd
theorem good_min : GoodC C (fun xs H Q => ∃ i j, xs = [.int i, .int j] ∧ Q (.int (if j < i then j else i)) H) (bltD .min) := by
  intro H0 L0 H L S xs vs F d Q e s r fr hd q
  have hx : ∃ i j, xs = [.int i, .int j] := by
    match xs, hd with
    | [], hd => cases hd
    | [x], hd => cases x <;> cases hd
    | [x, y], hd => cases x <;> cases y <;> first | cases hd; done | exact ⟨_, _, rfl⟩
    | x :: y :: _ :: _, hd => cases x <;> cases y <;> cases hd
  obtain ⟨i, j, rfl⟩ := hx
  · cases hd
    obtain ⟨v, w, F1, F2, rfl, r1, r2⟩ := r.two
    obtain ⟨rfl, _⟩ := r1.int_inv
    obtain ⟨rfl, _⟩ := r2.int_inv
    exact ⟨i, j, rfl, q _ H L [] ⟨e, s, .int _, Fr.nil _ _⟩⟩
theorem good_max : GoodC C (fun xs H Q => ∃ i j, xs = [.int i, .int j] ∧ Q (.int (if j > i then j else i)) H) (bltD .max) := by
  intro H0 L0 H L S xs vs F d Q e s r fr hd q
  have hx : ∃ i j, xs = [.int i, .int j] := by
    match xs, hd with
    | [], hd => cases hd
    | [x], hd => cases x <;> cases hd
    | [x, y], hd => cases x <;> cases y <;> first | cases hd; done | exact ⟨_, _, rfl⟩
    | x :: y :: _ :: _, hd => cases x <;> cases y <;> cases hd
  obtain ⟨i, j, rfl⟩ := hx
  · cases hd
    obtain ⟨v, w, F1, F2, rfl, r1, r2⟩ := r.two
    obtain ⟨rfl, _⟩ := r1.int_inv
    obtain ⟨rfl, _⟩ := r2.int_inv
    exact ⟨i, j, rfl, q _ H L [] ⟨e, s, .int _, Fr.nil _ _⟩⟩
/-! ### isinstance -/
def istN : IsT → Str
  | .int => "int" | .bool => "bool" | .str => "str" | .tuple => "tuple" | .list => "list" | .cls _ => "" | .blt => ""
def istS : IsT → String
  | .int => "int" | .bool => "bool" | .str => "str" | .tuple => "tuple" | .list => "list" | .cls _ => "" | .blt => ""
def ty7N : Ty7 → String
  | .int => "int" | .bool => "bool" | .str => "str" | .non => "NoneType" | .tup => "tuple" | .lst => "list" | .dct => "dict"
theorem tyX_of {H : Hp} {L : List Addr} {S : Store} (s : SimS C H L S) {x : D} {v : V} {F : List Addr} {n : Ty7} (r : Rep C H L x v F) (h : tyS x S = some n) : TyX C.K H v (.type (ty7N n)) := by
  cases r with
  | int i => cases h; exact .base (.int i)
  | bl i => cases h; exact .base (.bl i)
  | str i => cases h; exact .base (.str i)
  | non => cases h; exact .base .non
  | wtp ht _ =>
    cases h
    rcases ht with (h | ⟨o, h⟩) | ⟨o, its, n, h, hc, _⟩
    · exact .base (.tup h)
    · exact .fTuple h
    · exact .kTuple h hc
  | tup ht _ =>
    cases h
    rcases ht.sq with (h | ⟨o, h⟩) | ⟨o, its, n, h, hc, _⟩
    · exact .base (.tup h)
    · exact .fTuple h
    · exact .kTuple h hc
  | new ha ro =>
    cases ro with
    | lst _ => cases h; exact .base (.lst ha)
    | dct _ => cases h; exact .base (.dK ha)
    | ins _ _ => cases h
  | ref hl =>
    rename_i m a
    simp only [tyS] at h
    cases q : S[m]? with
    | none => rw [q] at h; cases h
    | some o =>
      rw [q] at h
      have c := s.cell m o a q hl
      cases o with
      | lst ys =>
        cases h
        obtain ⟨vs, e, _⟩ := c.lst
        exact .base (.lst e)
      | frz ys =>
        cases h
        obtain ⟨ob, vs, e, _⟩ := c
        exact .base (.frz e)
      | dct ys =>
        cases h
        obtain ⟨vs, e, _⟩ := c.dct
        exact .base (.dK e)
      | ins _ _ => cases h
theorem kit_one {K : PySem.W.Frag} (n : Ty7) (t : IsT) (h1 : t ≠ .blt) (h2 : ∀ c, t ≠ .cls c) : PySem.W.kitOne K (.type (ty7N n)) (.type (istS t)) = some (isT n t) := by
  cases t <;> first
    | exact absurd rfl h1
    | exact absurd rfl (h2 _)
    | (cases n <;> exact kit_ty (by decide +kernel))
theorem kit_blt {K : PySem.W.Frag} (n : Ty7) : PySem.W.kitAny K (.type (ty7N n)) [.type "bool", .type "list", .type "tuple"] = some (isT n .blt) := by
  have k1 : PySem.W.kitOne K (.type (ty7N n)) (.type "bool") = some (isT n .bool) := kit_one n .bool (by simp) (by simp)
  have k2 : PySem.W.kitOne K (.type (ty7N n)) (.type "list") = some (isT n .list) := kit_one n .list (by simp) (by simp)
  have k3 : PySem.W.kitOne K (.type (ty7N n)) (.type "tuple") = some (isT n .tuple) := kit_one n .tuple (by simp) (by simp)
  refine kitAny_cons k1 (fun h1 => kitAny_cons k2 (fun h2 => kitAny_cons k3 (fun h3 => ?_) fun h3 => ?_) fun h2 => ?_) fun h1 => ?_
  · cases n <;> first | rfl | exact absurd h1 (by decide) | exact absurd h2 (by decide) | exact absurd h3 (by decide)
  · cases n <;> first | rfl | exact absurd h3 (by decide)
  · cases n <;> first | rfl | exact absurd h2 (by decide)
  · cases n <;> first | rfl | exact absurd h1 (by decide)
theorem isi_kit {H : Hp} {L : List Addr} {S : Store} (s : SimS C H L S) {x : D} {v : V} {F : List Addr} {t : IsT} {b : Bool} (r : Rep C H L x v F) (h1 : t ≠ .blt) (h : isiD x t S = some b) :
    ∃ (ty : Value), TyX C.K H v ty ∧ PySem.W.kitOne C.K ty (.type (istS t)) = some b := by
  have h2 : ∀ c, t ≠ .cls c := fun c z => by subst z; cases h
  have e : (tyS x S).map (fun n => isT n t) = some b := by
    cases t <;> first
      | exact h
      | exact absurd rfl (h2 _)
  cases hn : tyS x S with
  | none => rw [hn] at e; cases e
  | some n =>
    rw [hn] at e
    cases e
    exact ⟨_, tyX_of s r hn, kit_one n t h1 h2⟩
theorem ee_isi {t : IsT} {p1 p2 : Pos} (hK : X.K = C.K) (hg : Gl X "isinstance") (hm : X.mg "isinstance" = none) (hg2 : Gl X (istN t)) (hm2 : X.mg (istN t) = none) (hd : (istN t == ("__debug__" : Str)) = false) (hn : istN t ≠ "__name__") (ns : noStar1 a = true) (h1 : t ≠ .blt) (hb : bootBuiltins (istN t) = some (.type (istS t))) (ha : EE C R X E a fa) :
    EE C R X E (.Call (.Name "isinstance" p1) [a, .Name (istN t) p2] [] pos) (fun ρ S => (fa ρ S).bind fun x S1 => Rs.of ((isiD x t S1).map .bl) S1) := by
  obtain ⟨ta, pa, ga⟩ := ha
  have pb : PE X (.Name (istN t) p2) (tC (.ty (istS t))) := pe_bltn hg2 hm2 hb rfl hn hd
  have pc : PA X [a, .Name (istN t) p2] (tCons ta (tCons (tC (.ty (istS t))) tNil)) := pa_cons pa (pa_cons pb pa_nil (by rfl)) (starEach_ns ns)
  refine ⟨_, pe_callB (call_isi) hg hm (by decide +kernel) pc (by decide) (by decide) (starEach_ns ns) (any_ns (by rfl)), fun σ H L ρ S Q s e h => ?_⟩
  refine ga.first s e (fun _ _ z => z) h fun x S1 v H1 L1 F p1 e1 h1' => ?_
  obtain ⟨d, hd, q⟩ := sat_of h1'
  cases hi : isiD x t S1 with
  | none => rw [hi] at hd; cases hd
  | some k =>
    rw [hi] at hd
    cases hd
    obtain ⟨ty, h5, h6⟩ := isi_kit p1.sim p1.rep h1 hi
    exact ⟨v, .ty (istS t), ty, .type (istS t), k, rfl, .ty _, hK ▸ h5, hK ▸ h6, q _ H1 L1 [] ⟨p1.ext, p1.sim, .bl _, Fr.nil _ _⟩⟩
/-- isinstance(x, (bool, list, tuple)) -/
theorem ee_isiB {p1 q1 q2 q3 qt : Pos} {kt : Nat} (hK : X.K = C.K) (hg : Gl X "isinstance") (hm : X.mg "isinstance" = none) (g1 : Gl X "bool") (m1 : X.mg "bool" = none) (g2 : Gl X "list") (m2 : X.mg "list" = none) (g3 : Gl X "tuple") (m3 : X.mg "tuple" = none) (ns : noStar1 a = true) (ha : EE C R X E a fa) :
    EE C R X E (.Call (.Name "isinstance" p1) [a, .Tuple [.Name "bool" q1, .Name "list" q2, .Name "tuple" q3] kt qt] [] pos) (fun ρ S => (fa ρ S).bind fun x S1 => Rs.of ((isiD x .blt S1).map .bl) S1) := by
  obtain ⟨ta, pa, ga⟩ := ha
  have b1 : PE X (.Name "bool" q1) (tC (.ty "bool")) := pe_bltn g1 m1 (by decide +kernel) rfl (by decide) (by decide)
  have b2 : PE X (.Name "list" q2) (tC (.ty "list")) := pe_bltn g2 m2 (by decide +kernel) rfl (by decide) (by decide)
  have b3 : PE X (.Name "tuple" q3) (tC (.ty "tuple")) := pe_bltn g3 m3 (by decide +kernel) rfl (by decide) (by decide)
  have pt : PE X (.Tuple [.Name "bool" q1, .Name "list" q2, .Name "tuple" q3] kt qt) _ := pe_tup (pa_cons b1 (pa_cons b2 (pa_cons b3 pa_nil (by rfl)) (by rfl)) (by rfl))
  have pc := pa_cons pa (pa_cons pt pa_nil (by rfl)) (starEach_ns ns)
  refine ⟨_, pe_callB (call_isiT) hg hm (by decide +kernel) pc (by decide) (by decide) (starEach_ns ns) (any_ns (by rfl)), fun σ H L ρ S Q s e h => ?_⟩
  refine ga.first s e (fun _ _ z => z) h fun x S1 v H1 L1 F p1 e1 h1' => ?_
  obtain ⟨d, hd, q⟩ := sat_of h1'
  cases hi : isiD x .blt S1 with
  | none => rw [hi] at hd; cases hd
  | some k =>
    rw [hi] at hd
    cases hd
    have hi : (tyS x S1).map (fun n => isT n .blt) = some k := hi
    cases hn : tyS x S1 with
    | none => rw [hn] at hi; cases hi
    | some n =>
      rw [hn] at hi
      cases hi
      refine ⟨(show (3 : Nat) ≤ sizeLine by decide), fun p hp => ?_⟩
      have x2 : Ext H1 L1 (upd H1 p (.tup [.ty "bool", .ty "list", .ty "tuple"])) L1 := Ext.new hp
      have s2 : SimS C (upd H1 p (.tup [.ty "bool", .ty "list", .ty "tuple"])) L1 S1 := p1.sim.new hp (p1.sim.notin hp)
      have r2 := p1.rep.car (x2.car p1.fr.out)
      exact ⟨v, p, _, _, _, _, rfl, upd_same, .cons (.ty _) (.cons (.ty _) (.cons (.ty _) .nil)), hK ▸ tyX_of s2 r2 hn, hK ▸ kit_blt n, q _ _ L1 [] ⟨p1.ext.trans x2, s2, .bl _, Fr.nil _ _⟩⟩
end
end Nv
/-! Nv: list(..), tuple(..). -/
namespace Nv
open PySem PySem.Spec PyProof.Rows L2
section
variable {C : Cxt} {R : XR} {X : Cx} {E : XK} {pos p0 : Pos} {a b c e : Expr} {fa fb fc : AEnv → Store → Rs D}
theorem ee_bltT {x : Str} {T : String} {es : List Expr} {r : List V → Hp → VK → Prop} {g : List D → Store → Option D} {fs : AEnv → Store → Rs (List D)} (hc : CallR X (.type T) r) (hr : GoodC C r g) (hg : Gl X x) (hm : X.mg x = none) (hv : bootBuiltins x = some (.type T))
    (hn : x ≠ "__name__") (hd : (x == ("__debug__" : Str)) = false) (ns : noStar (e :: es) = true) (ha : EA C R X E (e :: es) fs) : EE C R X E (.Call (.Name x p0) (e :: es) [] pos) (fun ρ S => (fs ρ S).bind fun xs S1 => Rs.of (g xs S1) S1) := by
  obtain ⟨ta, pa, ga⟩ := ha
  have ns' : noStar1 e = true ∧ noStar es = true := by
    unfold noStar at ns ⊢
    rw [List.all_cons, Bool.and_eq_true] at ns
    exact ns
  refine ⟨_, pe_callTy hc hg hm hv pa hn hd (starEach_ns ns'.1) (any_ns ns'.2), fun σ H L ρ S Q s e h => ?_⟩
  refine ga.first s e (fun _ _ z => z) h fun xs S1 vs H1 L1 F p1 e1 h1 => ?_
  obtain ⟨d, hd, q⟩ := sat_of h1
  exact hr H L H1 L1 S1 xs vs F d Q p1.ext p1.sim p1.rep p1.fr hd q
theorem good_list : GoodC C (fun xs H Q => ∃ p ys, xs = [.ref p] ∧ (SqL C.K H p ys ∨ SqT C.K H p ys) ∧ ∀ l, H l = none → Q (.ref l) (upd H l (.lst ys))) (bltD .list) := by
  intro H0 L0 H L S xs vs F d Q e s r fr hd q
  match xs, hd with
  | [x], hd =>
    obtain ⟨v, rfl, rx⟩ := r.one
    have hd : (seqOf x S).map (fun xs => D.new (.lst xs)) = some d := hd
    cases hs : seqOf x S with
    | none => rw [hs] at hd; cases hd
    | some ys =>
      rw [hs] at hd
      cases hd
      obtain ⟨a, vs, G, rfl, rs, sub, w⟩ := seq_of s rx hs
      refine ⟨a, vs, rfl, w.imp (·.1) (·.1), fun l hl => q _ _ L _ (post_lst e s rs (fr.sub sub) hl)⟩
  | [], hd => cases hd
  | _ :: _ :: _, hd => cases hd
theorem good_tuple : GoodC C (fun xs H Q => ∃ p ys, xs = [.ref p] ∧ ((SqL C.K H p ys ∧ ∀ l o, H l = none → TObj o → Q (.ref l) (upd H l (.frz o (.tup ys)))) ∨ (SqT C.K H p ys ∧ Q (.ref p) H))) (bltD .tuple) := by
  intro H0 L0 H L S xs vs F d Q e s r fr hd q
  match xs, hd with
  | [x], hd =>
    obtain ⟨v, rfl, rx⟩ := r.one
    have hd : (seqOf x S).map D.tup = some d := hd
    cases hs : seqOf x S with
    | none => rw [hs] at hd; cases hd
    | some ys =>
      rw [hs] at hd
      cases hd
      obtain ⟨a, vs, G, rfl, rs, sub, w⟩ := seq_of s rx hs
      refine ⟨a, vs, rfl, ?_⟩
      rcases w with ⟨w, _⟩ | ⟨w, _, hx⟩
      · exact .inl ⟨w, fun l o hl ho => q _ _ L _ (post_tup e s rs (fr.sub sub) hl o ho)⟩
      · subst hx
        exact .inr ⟨w, q _ H L _ (post_same e s rx fr (List.Sublist.refl _))⟩
  | [], hd => cases hd
  | _ :: _ :: _, hd => cases hd
end
end Nv
/-! Nv: made objects become cells; calls of the text's own functions, methods, classes. -/
namespace Nv
open PySem PySem.Spec PyProof.Rows L2
section
variable {C : Cxt}
/-- the cells L grow by M -/
theorem car_grow {H : Hp} {L M F : List Addr} : Car H L H (L ++ M) F :=
  ⟨fun _ _ h => h, fun _ _ _ h => h, fun n a h => by rw [List.getElem?_append_left (List.getElem?_eq_some_iff.mp h).1]; exact h, fun _ _ _ h => h⟩
theorem Cell.grow {H : Hp} {L M : List Addr} {a : Addr} {o : O} (c : Cell C H L a o) : Cell C H (L ++ M) a o := by
  cases o with
  | frz xs => obtain ⟨ob, vs, e1, e2⟩ := c; exact ⟨ob, vs, e1, e2.car car_grow⟩
  | lst xs => obtain ⟨ho, e1, e2⟩ := c; exact ⟨ho, e1, e2.car car_grow⟩
  | dct xs => obtain ⟨ho, e1, e2⟩ := c; exact ⟨ho, e1, e2.car car_grow⟩
  | ins c' xs => obtain ⟨ho, e1, e2⟩ := c; exact ⟨ho, e1, e2.car car_grow⟩
/-- one cell more -/
theorem SimS.push {H : Hp} {L : List Addr} {S : Store} {a : Addr} {o : O} (s : SimS C H L S) (ha : a ∉ L) (c : Cell C H (L ++ [a]) a o) : SimS C H (L ++ [a]) (S ++ [o]) := by
  refine ⟨by rw [List.length_append, List.length_append, s.len]; rfl, ?_, fun n p b h1 h2 => ?_⟩
  · rw [List.nodup_append]
    exact ⟨s.nd, by simp, fun x hx y hy => by simp at hy; subst hy; exact fun e => ha (e ▸ hx)⟩
  · by_cases hn : n < S.length
    · rw [List.getElem?_append_left hn] at h1
      rw [List.getElem?_append_left (by rw [s.len]; exact hn)] at h2
      exact (s.cell n p b h1 h2).grow
    · have hl : (S ++ [o]).length = S.length + 1 := by simp
      have hn2 : n < S.length + 1 := by rw [← hl]; exact (List.getElem?_eq_some_iff.mp h1).1
      have e : n = S.length := by omega
      subst e
      rw [List.getElem?_append_right (Nat.le_refl _)] at h1
      rw [List.getElem?_append_right (by rw [s.len] <;> exact Nat.le_refl _)] at h2
      simp [s.len] at h1 h2
      subst h1 h2
      exact c
/-- what mat gives -/
def MatOk (H : Hp) (L F : List Addr) (S' : Store) (R' : List Addr → Prop) : Prop := ∃ M, SimS C H (L ++ M) S' ∧ R' (L ++ M) ∧ ∀ a ∈ M, a ∈ F
mutual
theorem mat_ok : ∀ (d : D) {H : Hp} {L F : List Addr} {S : Store} {v : V}, SimS C H L S → Rep C H L d v F → F.Nodup → (∀ a ∈ F, a ∉ L) → MatOk (C := C) H L F (mat d S).2 (fun L' => Rep C H L' (mat d S).1 v [])
  | .non, H, L, F, S, v, s, r, _, _ => ⟨[], by rw [List.append_nil]; exact s, by cases r; exact .non, by simp⟩
  | .bl b, H, L, F, S, v, s, r, _, _ => ⟨[], by rw [List.append_nil]; exact s, by cases r; exact .bl b, by simp⟩
  | .int i, H, L, F, S, v, s, r, _, _ => ⟨[], by rw [List.append_nil]; exact s, by cases r; exact .int i, by simp⟩
  | .str z, H, L, F, S, v, s, r, _, _ => ⟨[], by rw [List.append_nil]; exact s, by cases r; exact .str z, by simp⟩
  | .ref n, H, L, F, S, v, s, r, _, _ => ⟨[], by rw [List.append_nil]; exact s, by cases r with | ref h => rw [List.append_nil]; exact Rep.ref h, by simp⟩
  | .tup xs, H, L, F, S, v, s, r, nd, ou => by
    obtain ⟨a, vs, rfl, ht, rs⟩ := r.tup_inv
    obtain ⟨M, s', r', m⟩ := mats_ok xs s rs nd ou
    exact ⟨M, s', .tup ht r', m⟩
  | .wtp xs, H, L, F, S, v, s, r, nd, ou => by
    obtain ⟨a, vs, rfl, ht, rs⟩ := r.wtp_inv
    obtain ⟨M, s', r', m⟩ := mats_ok xs s rs nd ou
    exact ⟨M, s', .wtp ht r', m⟩
  | .new o, H, L, F, S, v, s, r, nd, ou => by
    cases r with
    | new ha ro =>
      rename_i a ho F'
      have nd' := List.nodup_cons.mp nd
      obtain ⟨M, s', r', m⟩ := matO_ok o s ro nd'.2 (fun b hb => ou b (List.mem_cons_of_mem _ hb)) ha (fun q => nd'.1 q)
      obtain ⟨c, hn⟩ := r'
      have na : a ∉ L ++ M := fun h => (List.mem_append.mp h).elim (fun q => ou a (List.mem_cons_self ..) q) fun q => nd'.1 (m a q)
      refine ⟨M ++ [a], ?_, ?_, fun b hb => ?_⟩
      · rw [← List.append_assoc]
        exact s'.push na c.grow
      · refine .ref ?_
        rw [← List.append_assoc, List.getElem?_append_right (by rw [s'.len] <;> exact Nat.le_refl _), s'.len]
        simp
      · rcases List.mem_append.mp hb with h | h
        · exact List.mem_cons_of_mem _ (m b h)
        · simp at h; subst h; exact List.mem_cons_self ..
theorem mats_ok : ∀ (d : List D) {H : Hp} {L F : List Addr} {S : Store} {v : List V}, SimS C H L S → Reps C H L d v F → F.Nodup → (∀ a ∈ F, a ∉ L) → MatOk (C := C) H L F (mats d S).2 (fun L' => Reps C H L' (mats d S).1 v [])
  | [], H, L, F, S, v, s, r, _, _ => ⟨[], by rw [List.append_nil]; exact s, by cases r; exact .nil, by simp⟩
  | x :: xs, H, L, F, S, v, s, r, nd, ou => by
    cases r with
    | cons r1 r2 =>
      rename_i v1 F1 vs F2
      rw [List.nodup_append] at nd
      obtain ⟨M1, s1, q1, m1⟩ := mat_ok x s r1 nd.1 (fun a ha => ou a (List.mem_append_left _ ha))
      obtain ⟨M2, s2, q2, m2⟩ := mats_ok xs s1 (r2.car car_grow) nd.2.1 (fun a ha h => (List.mem_append.mp h).elim (ou a (List.mem_append_right _ ha)) fun q => nd.2.2 a (m1 a q) a ha rfl)
      refine ⟨M1 ++ M2, by rw [← List.append_assoc]; exact s2, ?_, fun a ha => (List.mem_append.mp ha).elim (fun q => List.mem_append_left _ (m1 a q)) fun q => List.mem_append_right _ (m2 a q)⟩
      rw [← List.append_assoc]
      exact .cons (F := []) (G := []) (q1.car car_grow) q2
theorem matO_ok : ∀ (o : O) {H : Hp} {L F : List Addr} {S : Store} {ho : HO} {a : Addr}, SimS C H L S → RepO C H L o ho F → F.Nodup → (∀ a ∈ F, a ∉ L) → H a = some ho → a ∉ F →
    MatOk (C := C) H L F (matO o S).2 (fun L' => Cell C H L' a (matO o S).1 ∧ True)
  | .lst xs, H, L, F, S, ho, a, s, r, nd, ou, ha, _ => by
    cases r with
    | lst rs =>
      obtain ⟨M, s', r', m⟩ := mats_ok xs s rs nd ou
      exact ⟨M, s', ⟨⟨_, ha, .lst r'⟩, trivial⟩, m⟩
  | .frz xs, H, L, F, S, ho, a, s, r, nd, ou, ha, _ => by cases r
  | .dct kvs, H, L, F, S, ho, a, s, r, nd, ou, ha, _ => by
    cases r with
    | dct rs =>
      obtain ⟨M, s', r', m⟩ := matKs_ok kvs s rs nd ou
      exact ⟨M, s', ⟨⟨_, ha, .dct r'⟩, trivial⟩, m⟩
  | .ins c fs, H, L, F, S, ho, a, s, r, nd, ou, ha, _ => by
    cases r with
    | ins q rs =>
      obtain ⟨M, s', r', m⟩ := matFs_ok fs s rs nd ou
      exact ⟨M, s', ⟨⟨_, ha, .ins q r'⟩, trivial⟩, m⟩
theorem matKs_ok : ∀ (d : List (D × D)) {H : Hp} {L F : List Addr} {S : Store} {v : List (Key × V)}, SimS C H L S → RepKs C H L d v F → F.Nodup → (∀ a ∈ F, a ∉ L) → MatOk (C := C) H L F (matKs d S).2 (fun L' => RepKs C H L' (matKs d S).1 v [])
  | [], H, L, F, S, v, s, r, _, _ => ⟨[], by rw [List.append_nil]; exact s, by cases r; exact .nil, by simp⟩
  | (k, x) :: xs, H, L, F, S, v, s, r, nd, ou => by
    cases r with
    | cons kk r1 r2 =>
      rw [List.nodup_append] at nd
      obtain ⟨M1, s1, q1, m1⟩ := mat_ok x s r1 nd.1 (fun a ha => ou a (List.mem_append_left _ ha))
      obtain ⟨M2, s2, q2, m2⟩ := matKs_ok xs s1 (r2.car car_grow) nd.2.1 (fun a ha h => (List.mem_append.mp h).elim (ou a (List.mem_append_right _ ha)) fun q => nd.2.2 a (m1 a q) a ha rfl)
      refine ⟨M1 ++ M2, by rw [← List.append_assoc]; exact s2, ?_, fun a ha => (List.mem_append.mp ha).elim (fun q => List.mem_append_left _ (m1 a q)) fun q => List.mem_append_right _ (m2 a q)⟩
      rw [← List.append_assoc]
      exact .cons (F := []) (G := []) kk (q1.car car_grow) q2
theorem matFs_ok : ∀ (d : List (Nat × D)) {H : Hp} {L F : List Addr} {S : Store} {v : List (Str × V)}, SimS C H L S → RepFs C H L d v F → F.Nodup → (∀ a ∈ F, a ∉ L) → MatOk (C := C) H L F (matFs d S).2 (fun L' => RepFs C H L' (matFs d S).1 v [])
  | [], H, L, F, S, v, s, r, _, _ => ⟨[], by rw [List.append_nil]; exact s, by cases r; exact .nil, by simp⟩
  | (k, x) :: xs, H, L, F, S, v, s, r, nd, ou => by
    cases r with
    | cons r1 r2 =>
      rw [List.nodup_append] at nd
      obtain ⟨M1, s1, q1, m1⟩ := mat_ok x s r1 nd.1 (fun a ha => ou a (List.mem_append_left _ ha))
      obtain ⟨M2, s2, q2, m2⟩ := matFs_ok xs s1 (r2.car car_grow) nd.2.1 (fun a ha h => (List.mem_append.mp h).elim (ou a (List.mem_append_right _ ha)) fun q => nd.2.2 a (m1 a q) a ha rfl)
      refine ⟨M1 ++ M2, by rw [← List.append_assoc]; exact s2, ?_, fun a ha => (List.mem_append.mp ha).elim (fun q => List.mem_append_left _ (m1 a q)) fun q => List.mem_append_right _ (m2 a q)⟩
      rw [← List.append_assoc]
      exact .cons (F := []) (G := []) (q1.car car_grow) q2
end
/-- the cells grow by a result's made objects -/
theorem Ext.grow {H H' : Hp} {L L' F M : List Addr} (e : Ext H L H' L') (f : Fr H F L') (m : ∀ a ∈ M, a ∈ F) : Ext H L H' (L' ++ M) := by
  obtain ⟨N, e1, n1⟩ := e.pre
  refine ⟨⟨N ++ M, by rw [e1, List.append_assoc], fun a ha => ?_⟩, e.frame, e.tups, e.frzs, e.dom⟩
  rcases List.mem_append.mp ha with q | q
  · exact n1 a q
  · exact f.new a (m a q)
/-- the same for what comes behind: nothing of it is used up -/
theorem Ext.growL {H : Hp} {L M : List Addr} (m : ∀ a ∈ M, H a = none) : Ext H L H (L ++ M) := ⟨⟨M, rfl, m⟩, fun _ _ _ h => h, fun _ _ h => h, fun _ _ _ h => h, fun _ h => h⟩
end
/-! ### a def of the text -/
/-- a def's promise: what its evaluator says -/
def spF (C : Cxt) (R : XR) (n : Nat) (g : List D → Store → Rs D) : Sp := fun vs H Q E => vs.length = n ∧ ∃ (L : List Addr) (S : Store) (ds : List D), SimS C H L S ∧ Reps C H L ds vs [] ∧ (g ds S).sat (OkW C H L Q) (ExW C R E H L)
theorem spF_len {C : Cxt} {R : XR} {n : Nat} {g : List D → Store → Rs D} {ps : List Str} (hn : ps.length = n) (vs : List V) (H : Hp) (Q : VK) (E : XK) (h : spF C R n g vs H Q E) : vs.length = ps.length := h.1.trans hn.symm
/-- a def may be called here -/
structure FnC (C : Cxt) (R : XR) (X : Cx) (E : XK) (nm : Str) (n : Nat) (g : List D → Store → Rs D) : Prop where
  nd : (nm == ("__debug__" : Str)) = false
  ex : ∃ (CX : CXT) (k : Nat) (f : Addr) (fd : FuncData) (ps : List Str), FnOk X.prog X.w X.K X.mg X.base CX k f fd ps (spF C R n g) ∧ Room k X.A ∧ X.mg nm = some (.ref f) ∧ PySem.W.keepIn X.K (.ref f) = true ∧ Binds X.K fd ps [] ∧ Passes CX X E
section
variable {C : Cxt} {R : XR} {X : Cx} {E : XK} {pos p0 : Pos} {a b c e : Expr} {es : List Expr} {fa fb fc : AEnv → Store → Rs D} {fs : AEnv → Store → Rs (List D)}
/-- the arguments become cells, then the callee's promise -/
theorem spF_of {n : Nat} {g : List D → Store → Rs D} {H H1 : Hp} {L L1 F : List Addr} {S1 : Store} {xs : List D} {vs : List V} {Q : VK} (p : PostL C H L S1 xs vs H1 L1 F) (hn : ∀ ds : List D, ds.length ≠ n → ∀ S, g ds S = .stuck)
    (h : (g (mats xs S1).1 (mats xs S1).2).sat (OkW C H L Q) (ExW C R E H L)) : spF C R n g vs H1 Q E := by
  obtain ⟨M, s', r', m⟩ := mats_ok xs p.sim p.rep p.fr.nd p.fr.out
  have ex : Ext H L H1 (L1 ++ M) := p.ext.grow p.fr m
  refine ⟨?_, L1 ++ M, _, _, s', r', ?_⟩
  · rw [← r'.length]
    apply Classical.byContradiction
    intro q
    rw [hn _ q] at h
    exact h
  · exact sat_mono h (fun d S' z v H' L' F' q => z v H' L' F' ⟨ex.trans q.ext, q.sim, q.rep, fun b hb => ex.dom b (q.fr.new b hb), q.fr.nd, q.fr.out⟩) fun _ _ z => z.later ex
theorem ee_call {nm : Str} {n : Nat} {g : List D → Store → Rs D} (hf : FnC C R X E nm n g) (hg : Gl X nm) (hn : ∀ ds : List D, ds.length ≠ n → ∀ S, g ds S = .stuck) (ns : noStar es = true) (ha : EA C R X E es fs) (h0 : es = [] → fs = fun _ S => .ok [] S) :
    EE C R X E (.Call (.Name nm p0) es [] pos) (fun ρ S => (fs ρ S).bind fun xs S1 => g (mats xs S1).1 (mats xs S1).2) := by
  obtain ⟨CX, k, f, fd, ps, F, hr, hm, hk, hb, hx⟩ := hf.ex
  have good : ∀ ta, GoodA C R E ta fs → GoodE C R E (tCall (spF C R n g) [] E ta) (fun ρ S => (fs ρ S).bind fun xs S1 => g (mats xs S1).1 (mats xs S1).2) := fun ta ga σ H L ρ S Q s e h => by
    refine ga.first s e (fun _ _ z => z) h fun xs S1 vs H1 L1 F' p1 e1 h1 => ?_
    show spF C R n g (vs ++ []) H1 Q E
    rw [List.append_nil]
    exact spF_of p1 hn h1
  cases es with
  | nil =>
    have e0 := h0 rfl
    subst e0
    obtain ⟨_, _, ga⟩ : EA C R X E [] (fun _ S => .ok [] S) := ea_nil
    exact ⟨_, pe_call0 F hr hg hm hk hb .nil hx hf.nd, good tNil fun σ H L ρ S Q s e h => h [] H L [] ⟨Ext.refl H L, s, .nil, Fr.nil H L⟩⟩
  | cons e0 es =>
    obtain ⟨ta, pa, ga⟩ := ha
    have ns' : noStar1 e0 = true ∧ noStar es = true := by
      unfold noStar at ns ⊢
      rw [List.all_cons, Bool.and_eq_true] at ns
      exact ns
    exact ⟨_, pe_call F hr hg hm hk hb .nil hx pa hf.nd (starEach_ns ns'.1) (any_ns ns'.2), good ta ga⟩
end
end Nv
/-! Nv: cells written; methods, classes, list methods. -/
namespace Nv
open PySem PySem.Spec PyProof.Rows L2
section
variable {C : Cxt}
/-! ### the store only grows by mat -/
mutual
theorem mat_pre : ∀ (d : D) (S : Store), ∃ T, (mat d S).2 = S ++ T
  | .non, S => ⟨[], (List.append_nil S).symm⟩
  | .bl _, S => ⟨[], (List.append_nil S).symm⟩
  | .int _, S => ⟨[], (List.append_nil S).symm⟩
  | .str _, S => ⟨[], (List.append_nil S).symm⟩
  | .ref _, S => ⟨[], (List.append_nil S).symm⟩
  | .tup xs, S => mats_pre xs S
  | .wtp xs, S => mats_pre xs S
  | .new o, S => by
    obtain ⟨T, e⟩ := matO_pre o S
    exact ⟨T ++ [(matO o S).1], by show (matO o S).2 ++ [(matO o S).1] = _; rw [e, List.append_assoc]⟩
theorem mats_pre : ∀ (d : List D) (S : Store), ∃ T, (mats d S).2 = S ++ T
  | [], S => ⟨[], (List.append_nil S).symm⟩
  | x :: xs, S => by
    obtain ⟨T, e⟩ := mat_pre x S
    obtain ⟨T2, e2⟩ := mats_pre xs (mat x S).2
    exact ⟨T ++ T2, by show (mats xs (mat x S).2).2 = _; rw [e2, e, List.append_assoc]⟩
theorem matO_pre : ∀ (d : O) (S : Store), ∃ T, (matO d S).2 = S ++ T
  | .lst xs, S => mats_pre xs S
  | .frz xs, S => mats_pre xs S
  | .dct xs, S => matKs_pre xs S
  | .ins _ xs, S => matFs_pre xs S
theorem matKs_pre : ∀ (d : List (D × D)) (S : Store), ∃ T, (matKs d S).2 = S ++ T
  | [], S => ⟨[], (List.append_nil S).symm⟩
  | (k, x) :: xs, S => by
    obtain ⟨T, e⟩ := mat_pre x S
    obtain ⟨T2, e2⟩ := matKs_pre xs (mat x S).2
    exact ⟨T ++ T2, by show (matKs xs (mat x S).2).2 = _; rw [e2, e, List.append_assoc]⟩
theorem matFs_pre : ∀ (d : List (Nat × D)) (S : Store), ∃ T, (matFs d S).2 = S ++ T
  | [], S => ⟨[], (List.append_nil S).symm⟩
  | (k, x) :: xs, S => by
    obtain ⟨T, e⟩ := mat_pre x S
    obtain ⟨T2, e2⟩ := matFs_pre xs (mat x S).2
    exact ⟨T ++ T2, by show (matFs xs (mat x S).2).2 = _; rw [e2, e, List.append_assoc]⟩
end
theorem mat_get {d : D} {S : Store} {n : Nat} {o : O} (h : S[n]? = some o) : (mat d S).2[n]? = some o := by
  obtain ⟨T, e⟩ := mat_pre d S
  rw [e, List.getElem?_append_left (List.getElem?_eq_some_iff.mp h).1]; exact h
/-! ### a cell is written -/
def mutO : HO → Bool
  | .lst _ => true
  | .dK _ => true
  | .ins _ _ _ => true
  | _ => false
theorem Ext.write {H : Hp} {L : List Addr} {l : Addr} {ho ho' : HO} (hl : l ∈ L) (h : H l = some ho) (m : mutO ho = true) : Ext H L (upd H l ho') L := by
  refine ⟨⟨[], by simp, by simp⟩, fun a o hn q => ?_, fun b xs q => ?_, fun b o u q => ?_, fun a q => ?_⟩
  · have ne : a ≠ l := fun e => hn (by rw [e]; exact hl)
    rw [upd_ne ne]; exact q
  · rw [upd_ne]
    · exact q
    · intro e; rw [e, h] at q; cases q; cases m
  · rw [upd_ne]
    · exact q
    · intro e; rw [e, h] at q; cases q; cases m
  · by_cases e : a = l
    · rw [e, upd_same] at q; cases q
    · rwa [upd_ne e] at q
theorem SimS.write {H : Hp} {L : List Addr} {S : Store} {l : Addr} {n : Nat} {o' : O} {ho ho' : HO} (s : SimS C H L S) (hl : L[n]? = some l) (h : H l = some ho) (m : mutO ho = true) (r : RepO C H L o' ho' []) (nf : ∀ xs, o' ≠ .frz xs) :
    SimS C (upd H l ho') L (S.set n o') := by
  have ext : Ext H L (upd H l ho') L := Ext.write (List.mem_of_getElem? hl) h m
  refine ⟨by rw [List.length_set]; exact s.len, s.nd, fun k p a h1 h2 => ?_⟩
  by_cases e : k = n
  · subst e
    rw [hl] at h2; cases h2
    have hk : k < S.length := by rw [← s.len]; exact (List.getElem?_eq_some_iff.mp hl).1
    rw [List.getElem?_set_self hk] at h1
    cases h1
    have c : RepO C (upd H l ho') L o' ho' [] := r.car ext.car0
    cases o' with
    | frz xs => exact absurd rfl (nf xs)
    | lst xs => exact ⟨ho', upd_same, c⟩
    | dct xs => exact ⟨ho', upd_same, c⟩
    | ins c' xs => exact ⟨ho', upd_same, c⟩
  · rw [List.getElem?_set_ne (Ne.symm e)] at h1
    have ne : a ≠ l := by
      intro q
      subst q
      obtain ⟨a1, b1⟩ := List.getElem?_eq_some_iff.mp hl
      obtain ⟨a2, b2⟩ := List.getElem?_eq_some_iff.mp h2
      exact e ((List.getElem_inj s.nd).mp (b2.trans b1.symm))
    have k' := s.cell k p a h1 h2
    cases p with
    | frz xs =>
      obtain ⟨ob, vs, e1, e2⟩ := k'
      exact ⟨ob, vs, by rw [upd_ne ne]; exact e1, e2.car ext.car0⟩
    | lst xs => obtain ⟨ho, e1, e2⟩ := k'; exact ⟨ho, by rw [upd_ne ne]; exact e1, e2.car ext.car0⟩
    | dct xs => obtain ⟨ho, e1, e2⟩ := k'; exact ⟨ho, by rw [upd_ne ne]; exact e1, e2.car ext.car0⟩
    | ins c xs => obtain ⟨ho, e1, e2⟩ := k'; exact ⟨ho, by rw [upd_ne ne]; exact e1, e2.car ext.car0⟩
/-! ### a result becomes a cell, or stays -/
theorem Post.mat {H H' : Hp} {L L' F : List Addr} {S : Store} {d : D} {v : V} (p : Post C H L S d v H' L' F) : ∃ M, Post C H L (mat d S).2 (mat d S).1 v H' (L' ++ M) [] ∧ ∀ a ∈ M, a ∈ F := by
  obtain ⟨M, s', r', m⟩ := mat_ok d p.sim p.rep p.fr.nd p.fr.out
  exact ⟨M, ⟨p.ext.grow p.fr m, s', r', Fr.nil _ _⟩, m⟩
theorem PostL.mats {H H' : Hp} {L L' F : List Addr} {S : Store} {d : List D} {v : List V} (p : PostL C H L S d v H' L' F) : ∃ M, PostL C H L (mats d S).2 (mats d S).1 v H' (L' ++ M) [] ∧ ∀ a ∈ M, a ∈ F := by
  obtain ⟨M, s', r', m⟩ := mats_ok d p.sim p.rep p.fr.nd p.fr.out
  exact ⟨M, ⟨p.ext.grow p.fr m, s', r', Fr.nil _ _⟩, m⟩
theorem SimE.grow {H : Hp} {L M : List Addr} {ρ : AEnv} {σ : L2.St} (e : SimE C H L ρ σ) : SimE C H (L ++ M) ρ σ := ⟨e.1, fun i d h => by
  obtain ⟨v, h1, h2⟩ := e.2 i d h
  exact ⟨v, h1, h2.car car_grow⟩⟩
end
/-! ### methods -/
/-- an own method may be called here -/
structure MtC (C : Cxt) (R : XR) (X : Cx) (E : XK) (c : Nat) (m : Str) (n : Nat) (g : List D → Store → Rs D) : Prop where
  cl : Cls X.K (C.CA c)
  ex : ∃ (CX : CXT) (k : Nat) (f : Addr) (fd : FuncData) (ps : List Str), FnOk X.prog X.w X.K X.mg X.base CX k f fd ps (spF C R n g) ∧ Room k X.A ∧ Meth X.K (C.CA c) m f ∧ Binds X.K fd ps [] ∧ Passes CX X E
/-- a class may be called here, its __init__ plainly -/
structure MkC (C : Cxt) (R : XR) (X : Cx) (E : XK) (nm : Str) (c : Nat) (n : Nat) (g : List D → Store → Rs D) : Prop where
  nd : (nm == ("__debug__" : Str)) = false
  lt : c < C.nc
  mg : X.mg nm = some (.ref (C.CA c))
  ex : ∃ (CX : CXT) (k : Nat) (f : Addr) (fd : FuncData) (ps : List Str), FnOk X.prog X.w X.K X.mg X.base CX k f fd ps (spF C R n g) ∧ Room (k + 1) X.A ∧ Mk X.K (C.CA c) f ∧ Binds X.K fd ps [] ∧ Passes CX X E
/-- .. with keywords: np positional arguments, the keywords' names, how they are put in order -/
structure MkK (C : Cxt) (R : XR) (X : Cx) (E : XK) (nm : Str) (c : Nat) (n : Nat) (g : List D → Store → Rs D) (np : Nat) (ks : List Str) (ds : List (Nat ⊕ D)) : Prop where
  nd : (nm == ("__debug__" : Str)) = false
  lt : c < C.nc
  mg : X.mg nm = some (.ref (C.CA c))
  ex : ∃ (CX : CXT) (k : Nat) (f : Addr) (fd : FuncData) (ps : List Str) (gV : List V → List V → List V) (gu : List Value → List Value → List Value), FnOk X.prog X.w X.K X.mg X.base CX k f fd ps (spF C R n g) ∧ Room (k + 1) X.A ∧ Mk X.K (C.CA c) f ∧
    KBn X.K fd ps (np + 1) ks gu gV ∧ Passes CX X E ∧ ∀ (H : Hp) (L : List Addr) (xs ys : List D) (vs zs : List V), xs.length = np → ys.length = ks.length → Reps C H L xs vs [] → Reps C H L ys zs [] → ∀ v, ∃ ws, gV (v :: vs) zs = v :: ws ∧ Reps C H L (xs ++ kwD ds ys) ws []
section
variable {C : Cxt} {R : XR} {X : Cx} {E : XK} {pos p0 apos : Pos} {a b c e o : Expr} {es : List Expr} {fo fa fb fc : AEnv → Store → Rs D} {fs : AEnv → Store → Rs (List D)}
theorem form_ns {cpos : Pos} {env : Env} {es : List Expr} (h : noStar es = true) (hl : es.length < 30) : methodCallForm (es.length + 0) (backTo cpos (starEach es env)) [] = true := by
  have all : ∀ es : List Expr, noStar es = true → (backTo cpos (starEach es env)).all (fun x => !x.1) = true := by
    intro es
    induction es with
    | nil => intro _; rfl
    | cons e r ih =>
      intro h
      unfold noStar at h
      rw [List.all_cons, Bool.and_eq_true] at h
      rw [starEach_ns h.1]
      have := ih h.2
      simp only [backTo, List.map_cons, List.all_cons] at this ⊢
      rw [this]; rfl
  unfold methodCallForm
  rw [all es h]
  simpa using hl
theorem meth_ht {m : Str} (hb : attributeBase o m X.env (eval o X.env) = eval o X.env) (ns : noStar es = true) (hl : es.length < 30) (hline : (apos.endLine == pos.line) = true) :
    eval (.Call (.Attribute o m apos) es [] pos) X.env = (do
      let ov ← eval o X.env
      standAt apos.atName
      let (f, first) ← holding [ov] (getMethod ov m (plainOf o X.env))
      callWith pos f first (backTo pos (starEach es X.env)) (backToKw pos (keywordEach [] X.env))) := by
  show (do
    let ov ← attributeBase o m X.env (eval o X.env)
    standAt apos.atName
    methodCall o m apos pos X.env ov (es.length + ([] : List Keyword).length) (backTo pos (starEach es X.env)) (backToKw pos (keywordEach [] X.env))) = _
  rw [hb]
  have h2 : ∀ ov, methodCall o m apos pos X.env ov (es.length + ([] : List Keyword).length) (backTo pos (starEach es X.env)) (backToKw pos (keywordEach [] X.env)) = (do
      let (f, first) ← holding [ov] (getMethod ov m (plainOf o X.env))
      callWith pos f first (backTo pos (starEach es X.env)) (backToKw pos (keywordEach [] X.env))) := fun ov => mcall_line (form_ns ns hl) hline
  simp only [h2]
theorem ee_meth {c m f : Nat} {nm : Str} {n : Nat} {g : List D → Store → Rs D} (hf : MtC C R X E c nm n g) (hsym : C.sym m = nm) (inj : ∀ g, C.sym g = C.sym m → g = m) (hn : ∀ ds : List D, ds.length ≠ n → ∀ S, g ds S = .stuck) (hb : attributeBase o nm X.env (eval o X.env) = eval o X.env) (ns : noStar es = true) (hl : es.length < 30) (hline : (apos.endLine == pos.line) = true)
    (ho : EE C R X E o fo) (ha : EA C R X E es fs) (h0 : es = [] → fs = fun _ S => .ok [] S) :
    EE C R X E (.Call (.Attribute o nm apos) es [] pos) (fun ρ S => (fo ρ S).bind fun x S1 => methD c m (mat x S1).1 (mat x S1).2 fun n => (fs ρ (mat x S1).2).bind fun xs S2 => g (.ref n :: (mats xs S2).1) (mats xs S2).2) := by
  obtain ⟨to, po, go⟩ := ho
  obtain ⟨CX, k, f, fd, ps, F, hr, hm, hbi, hx⟩ := hf.ex
  have good : ∀ ta, GoodA C R E ta fs → GoodE C R E (tMeth (C.CA c) nm (spF C R n g) [] E to ta) (fun ρ S => (fo ρ S).bind fun x S1 => methD c m (mat x S1).1 (mat x S1).2 fun n => (fs ρ (mat x S1).2).bind fun xs S2 => g (.ref n :: (mats xs S2).1) (mats xs S2).2) := fun ta ga σ H L ρ S Q s e h => by
    refine go.first s e (fun _ _ z => z) h fun x S1 v H1 L1 F1 p1 e1 h1 => ?_
    obtain ⟨M, p2, _⟩ := p1.mat
    unfold methD at h1
    cases hx1 : (mat x S1).1 with
    | ref k =>
      rw [hx1] at h1 p2
      obtain ⟨_, a', rfl, hl', hc⟩ := p2.sim.at p2.rep
      cases ho : (mat x S1).2[k]? with
      | none => simp only [ho] at h1; exact h1.elim
      | some oo =>
        simp only [ho] at h1
        cases oo with
        | ins c' fs' =>
          simp only at h1
          by_cases hcc : c' = c ∧ fs'.lookup m = none
          · rw [if_pos hcc] at h1
            obtain ⟨rfl, hlk⟩ := hcc
            obtain ⟨dx, vs', h2, h3, hlt⟩ := (hc _ ho).ins
            refine ⟨a', dx, vs', rfl, h2, ?_, ?_⟩
            · rw [← hsym]; exact fs_none (fun g _ => inj g) h3 hlk
            · refine ga.first p2.sim e1.grow (fun _ _ z => z.later p2.ext) h1 fun xs S2 vs H2 L2 F2 p3 e3 h4 => ?_
              show spF C R n g (V.ref a' :: (vs ++ [])) H2 Q E
              rw [List.append_nil]
              exact spF_of (xs := .ref k :: xs) (.cons p2 p3) hn h4
          · rw [if_neg hcc] at h1; exact h1.elim
        | _ => exact h1.elim
    | _ => rw [hx1] at h1; exact h1.elim
  cases es with
  | nil =>
    have e0 := h0 rfl
    subst e0
    exact ⟨_, pe_meth0 po hf.cl hm F hr hbi .nil hx (meth_ht hb ns hl hline), good tNil fun σ H L ρ S Q s e h => h [] H L [] ⟨Ext.refl H L, s, .nil, Fr.nil H L⟩⟩
  | cons e0 es =>
    obtain ⟨ta, pa, ga⟩ := ha
    have ns' : noStar1 e0 = true ∧ noStar es = true := by
      unfold noStar at ns ⊢
      rw [List.all_cons, Bool.and_eq_true] at ns
      exact ns
    exact ⟨_, pe_meth po hf.cl hm F hr hbi .nil hx pa (starEach_ns ns'.1) (any_ns ns'.2) (meth_ht hb ns hl hline), good ta ga⟩
/-! ### classes called -/
theorem sim_made {H : Hp} {L : List Addr} {S : Store} {c : Nat} {x dx : Addr} (s : SimS C H L S) (hc : c < C.nc) (nx : H x = none) (nd : H dx = none) (ne : dx ≠ x) :
    Ext H L (upd (upd H dx (.own x)) x (.ins (C.CA c) dx [])) (L ++ [x]) ∧ SimS C (upd (upd H dx (.own x)) x (.ins (C.CA c) dx [])) (L ++ [x]) (S ++ [.ins c []]) := by
  have e1 : Ext H L (upd H dx (.own x)) L := Ext.new nd
  have nx1 : (upd H dx (.own x)) x = none := by rw [upd_ne (Ne.symm ne)]; exact nx
  have e2 : Ext (upd H dx (.own x)) L (upd (upd H dx (.own x)) x (.ins (C.CA c) dx [])) L := Ext.new nx1
  have s1 := s.new (o := .own x) nd (s.notin nd)
  have s2 := s1.new (o := .ins (C.CA c) dx []) nx1 (s1.notin nx1)
  have e := e1.trans e2
  refine ⟨⟨⟨[x], rfl, by simpa using nx⟩, e.frame, e.tups, e.frzs, e.dom⟩, ?_⟩
  exact s2.push (s1.notin nx1) ⟨_, upd_same, .ins hc .nil⟩
theorem make_good {nm : Str} {c n : Nat} {g : List D → Store → Rs D} {H H1 : Hp} {L L1 F : List Addr} {S1 : Store} {xs : List D} {vs : List V} {Q : VK} (hc : c < C.nc) (hn : ∀ ds : List D, ds.length ≠ n → ∀ S, g ds S = .stuck) (p : PostL C H L S1 xs vs H1 L1 F)
    (h : (makeD c g xs S1).sat (OkW C H L Q) (ExW C R E H L)) (x dx : Addr) (nx : H1 x = none) (nd : H1 dx = none) (ne : dx ≠ x) :
    spF C R n g (.ref x :: vs) (upd (upd H1 dx (.own x)) x (.ins (C.CA c) dx [])) (fun v H2 => v = .non ∧ Q (.ref x) H2) E := by
  obtain ⟨M, p2, _⟩ := p.mats
  obtain ⟨e3, s3⟩ := sim_made p2.sim hc nx nd ne
  have r3 := p2.rep.car e3.car0
  unfold makeD at h
  have h' := sat_bind h
  have hx : ((L1 ++ M) ++ [x])[(mats xs S1).2.length]? = some x := by
    rw [List.getElem?_append_right (by rw [p2.sim.len] <;> exact Nat.le_refl _), p2.sim.len]; simp
  refine ⟨?_, (L1 ++ M) ++ [x], _, .ref (mats xs S1).2.length :: (mats xs S1).1, s3, .cons (F := []) (G := []) (.ref hx) r3, ?_⟩
  · rw [List.length_cons, ← p2.rep.length]
    apply Classical.byContradiction
    intro q
    rw [hn _ (by rw [List.length_cons]; exact q)] at h'
    exact h'
  · refine sat_mono h' (fun d S' z v H' L' F' q => ?_) fun _ _ z => z.later (p2.ext.trans e3)
    cases d with
    | non =>
      obtain ⟨rfl, rfl⟩ := q.rep.non_inv
      refine ⟨rfl, ?_⟩
      obtain ⟨N, en, _⟩ := q.ext.pre
      refine z (.ref x) H' L' [] ⟨(p2.ext.trans e3).trans q.ext, q.sim, .ref ?_, Fr.nil _ _⟩
      rw [en, List.getElem?_append_left (List.getElem?_eq_some_iff.mp hx).1]
      exact hx
    | _ => exact z.elim
theorem ee_make {c n : Nat} {nm : Str} {g : List D → Store → Rs D} (hf : MkC C R X E nm c n g) (hg : Gl X nm) (hn : ∀ ds : List D, ds.length ≠ n → ∀ S, g ds S = .stuck) (ns : noStar es = true) (ha : EA C R X E es fs) (h0 : es = [] → fs = fun _ S => .ok [] S) :
    EE C R X E (.Call (.Name nm p0) es [] pos) (fun ρ S => (fs ρ S).bind fun xs S1 => makeD c g xs S1) := by
  obtain ⟨CX, k, f, fd, ps, F, hr, hm, hb, hx⟩ := hf.ex
  have good : ∀ ta, GoodA C R E ta fs → GoodE C R E (tMake (C.CA c) (spF C R n g) [] E ta) (fun ρ S => (fs ρ S).bind fun xs S1 => makeD c g xs S1) := fun ta ga σ H L ρ S Q s e h => by
    refine ga.first s e (fun _ _ z => z) h fun xs S1 vs H1 L1 F' p1 e1 h1 => ?_
    intro x dx nx nd ne
    rw [List.append_nil]
    exact make_good (nm := nm) hf.lt hn p1 h1 x dx nx nd ne
  cases es with
  | nil =>
    have e0 := h0 rfl
    subst e0
    exact ⟨_, pe_make0 hm F hr hg hf.mg hb .nil hx hf.nd, good tNil fun σ H L ρ S Q s e h => h [] H L [] ⟨Ext.refl H L, s, .nil, Fr.nil H L⟩⟩
  | cons e0 es =>
    obtain ⟨ta, pa, ga⟩ := ha
    have ns' : noStar1 e0 = true ∧ noStar es = true := by
      unfold noStar at ns ⊢
      rw [List.all_cons, Bool.and_eq_true] at ns
      exact ns
    exact ⟨_, pe_make hm F hr hg hf.mg hb .nil hx pa hf.nd (starEach_ns ns'.1) (any_ns ns'.2), good ta ga⟩
/-! ### keywords -/
def EK (C : Cxt) (R : XR) (X : Cx) (E : XK) (kws : List Keyword) (f : AEnv → Store → Rs (List D)) : Prop := ∃ t, PK X kws t ∧ GoodA C R E t f
theorem ek_nil : EK C R X E [] (fun _ S => .ok [] S) := ⟨tNil, pk_nil, fun σ H L ρ S Q s e h => h [] H L [] ⟨Ext.refl H L, s, .nil, Fr.nil H L⟩⟩
theorem ek_cons {k : Option Str} {kpos : Pos} {kws : List Keyword} {f : AEnv → Store → Rs D} {g : AEnv → Store → Rs (List D)} (a : EE C R X E e f) (b : EK C R X E kws g) :
    EK C R X E (⟨k, e, kpos⟩ :: kws) (fun ρ S => (f ρ S).bind fun x S1 => (g ρ S1).bind fun xs S2 => .ok (x :: xs) S2) := by
  obtain ⟨ta, pa, ga⟩ := a
  obtain ⟨tb, pb, gb⟩ := b
  refine ⟨tCons ta tb, pk_cons pa pb, fun σ H L ρ S Q s e h => ?_⟩
  refine ga.first s e (fun _ _ z => z) h fun x S1 v H1 L1 F p1 e1 h1 => ?_
  refine gb.first p1.sim e1 (fun _ _ z => z.later p1.ext) h1 fun xs S2 vs H2 L2 G p2 e2 h2 => ?_
  exact h2 (v :: vs) H2 L2 (F ++ G) (.cons p1 p2)
def kwNames (kws : List Keyword) : List (Option Str) := kws.map fun k => k.1
theorem kw_all {env : Env} : ∀ {kws : List Keyword} {ks : List Str}, kwNames kws = ks.map some → (backToKw pos (keywordEach kws env)).all (·.1.isSome) = true ∧ (backToKw pos (keywordEach kws env)).filterMap (·.1) = ks ∧ (backToKw pos (keywordEach kws env)).any (·.1.isNone) = false
  | [], [], _ => ⟨rfl, rfl, rfl⟩
  | [], _ :: _, h => by cases h
  | ⟨k, e, p⟩ :: r, [], h => by cases h
  | ⟨k, e, p⟩ :: r, q :: ks, h => by
    have h1 : k :: kwNames r = some q :: ks.map some := h
    injection h1 with h2 h3
    obtain ⟨a1, a2, a3⟩ := kw_all (env := env) (kws := r) (ks := ks) h3
    subst h2
    simp only [backToKw, keywordEach, List.map_cons, List.all_cons, List.filterMap_cons, List.any_cons] at a1 a2 a3 ⊢
    exact ⟨by rw [a1]; rfl, by rw [a2], by rw [a3]; rfl⟩
end
end Nv
/-! Nv: classes called with keywords; list methods. -/
namespace Nv
open PySem PySem.Spec PyProof.Rows L2
section
variable {C : Cxt} {R : XR} {X : Cx} {E : XK} {pos p0 apos : Pos} {a b c e o : Expr} {es : List Expr} {fo fa fb fc : AEnv → Store → Rs D} {fs : AEnv → Store → Rs (List D)}
mutual
theorem data_fp {H : Hp} {L : List Addr} : ∀ (d : D) {v : V} {F : List Addr}, isData d = true → Rep C H L d v F → F = []
  | .non, _, _, _, r => by cases r; rfl
  | .bl _, _, _, _, r => by cases r; rfl
  | .int _, _, _, _, r => by cases r; rfl
  | .str _, _, _, _, r => by cases r; rfl
  | .ref _, _, _, h, _ => by cases h
  | .new _, _, _, h, _ => by cases h
  | .tup xs, _, _, h, r => by
    obtain ⟨a, vs, rfl, _, rs⟩ := r.tup_inv
    exact datas_fp xs h rs
  | .wtp xs, _, _, h, r => by
    obtain ⟨a, vs, rfl, _, rs⟩ := r.wtp_inv
    exact datas_fp xs h rs
theorem datas_fp {H : Hp} {L : List Addr} : ∀ (d : List D) {v : List V} {F : List Addr}, areData d = true → Reps C H L d v F → F = []
  | [], _, _, _, r => by cases r; rfl
  | x :: xs, _, _, h, r => by
    cases r with
    | cons a b =>
      have h' : (isData x && areData xs) = true := h
      rw [Bool.and_eq_true] at h'
      rw [data_fp x h'.1 a, datas_fp xs h'.2 b]; rfl
end
theorem cell_fp {H : Hp} {L : List Addr} {d : D} {v : V} {F : List Addr} (h : isCell d = true) (r : Rep C H L d v F) : F = [] := by
  cases d with
  | tup xs => exact data_fp _ h r
  | wtp xs => exact data_fp _ h r
  | new o => cases h
  | non => cases r; rfl
  | bl _ => cases r; rfl
  | int _ => cases r; rfl
  | str _ => cases r; rfl
  | ref _ => cases r; rfl
theorem cells_fp {H : Hp} {L : List Addr} : ∀ {d : List D} {v : List V} {F : List Addr}, d.all isCell = true → Reps C H L d v F → F = []
  | [], _, _, _, r => by cases r; rfl
  | x :: xs, _, _, h, r => by
    cases r with
    | cons a b =>
      rw [List.all_cons, Bool.and_eq_true] at h
      rw [cell_fp h.1 a, cells_fp h.2 b]; rfl
theorem ee_makek {c n np : Nat} {nm : Str} {kws : List Keyword} {ks : List Str} {ds : List (Nat ⊕ D)} {e0 : Expr} {g : List D → Store → Rs D} {fk : AEnv → Store → Rs (List D)} (hf : MkK C R X E nm c n g np ks ds) (hg : Gl X nm) (hn : ∀ ds : List D, ds.length ≠ n → ∀ S, g ds S = .stuck)
    (ns : noStar (e0 :: es) = true) (hk : kwNames kws = ks.map some) (hl : ∀ ρ S xs S1, fs ρ S = .ok xs S1 → xs.length = np) (hl2 : ∀ ρ S xs S1, fk ρ S = .ok xs S1 → xs.length = ks.length) (ha : EA C R X E (e0 :: es) fs) (hkw : EK C R X E kws fk) :
    EE C R X E (.Call (.Name nm p0) (e0 :: es) kws pos) (fun ρ S => (fs ρ S).bind fun xs S1 => (fk ρ S1).bind fun ys S2 => makeKD c g ds xs ys S2) := by
  obtain ⟨CX, k, f, fd, ps, gV, gu, F, hr, hm, hb, hx, hrel⟩ := hf.ex
  obtain ⟨ta, pa, ga⟩ := ha
  obtain ⟨tk, pk, gk⟩ := hkw
  obtain ⟨k1, k2, k3⟩ := kw_all (pos := pos) (env := X.env) hk
  have ns' : noStar1 e0 = true ∧ noStar es = true := by
    unfold noStar at ns ⊢
    rw [List.all_cons, Bool.and_eq_true] at ns
    exact ns
  refine ⟨_, pe_makeK hm F hr hg hf.mg hb hx pa pk k1 k2 hf.nd (starEach_ns ns'.1) (by rw [any_ns ns, k3]; rfl), fun σ H L ρ S Q s e h => ?_⟩
  have h1 := h
  have l1 : ∀ xs S1, fs ρ S = .ok xs S1 → xs.length = np := hl ρ S
  have h2 : ((fs ρ S).bind fun xs S1 => if xs.length = np then (fk ρ S1).bind fun ys S2 => if ys.length = ks.length then makeKD c g ds xs ys S2 else .stuck else .stuck).sat (OkW C H L Q) (ExW C R E H L) := by
    cases hfs : fs ρ S with
    | ok xs S1 =>
      simp only [hfs, Rs.bind] at h1 ⊢
      rw [if_pos (l1 xs S1 hfs)]
      cases hfk : fk ρ S1 with
      | ok ys S2 =>
        simp only [hfk, Rs.bind] at h1 ⊢
        rw [if_pos (hl2 ρ S1 ys S2 hfk)]; exact h1
      | ex x S2 => simp only [hfk, Rs.bind] at h1 ⊢; exact h1
      | stuck => simp only [hfk, Rs.bind] at h1 ⊢; exact h1
    | ex x S1 => simp only [hfs, Rs.bind] at h1 ⊢; exact h1
    | stuck => simp only [hfs, Rs.bind] at h1 ⊢; exact h1
  refine ga.first s e (fun _ _ z => z) h2 fun xs S1 vs H1 L1 F1 p1 e1 h3 => ?_
  by_cases q1 : xs.length = np
  · rw [if_pos q1] at h3
    refine gk.first p1.sim e1 (fun _ _ z => z.later p1.ext) h3 fun ys S2 zs H2 L2 F2 p2 e2 h4 => ?_
    by_cases q2 : ys.length = ks.length
    · rw [if_pos q2] at h4
      unfold makeKD at h4
      by_cases q3 : xs.all isCell = true ∧ ys.all isCell = true
      · rw [if_pos q3] at h4
        obtain ⟨x12, r1, f12⟩ := p1.seqL p2
        have z1 := cells_fp q3.1 r1
        subst z1
        have z2 := cells_fp q3.2 p2.rep
        subst z2
        refine ⟨p1.rep.length ▸ q1, p2.rep.length ▸ q2, fun x dx nx nd ne => ?_⟩
        obtain ⟨ws, hgv, rw'⟩ := hrel H2 L2 xs ys vs zs q1 q2 r1 p2.rep (.ref x)
        rw [hgv]
        exact make_good (nm := nm) hf.lt hn ⟨x12, p2.sim, rw', Fr.nil _ _⟩ h4 x dx nx nd ne
      · rw [if_neg q3] at h4; exact h4.elim
    · rw [if_neg q2] at h4; exact h4.elim
  · rw [if_neg q1] at h3; exact h3.elim
/-! ### list methods -/
theorem ty_list {H : Hp} {L : List Addr} {S : Store} {x : D} {v : V} {F : List Addr} (s : SimS C H L S) (r : Rep C H L x v F) (h : (lstOf x S).isSome = true) : tyV C.K "list" v H := by
  cases hx : lstOf x S with
  | none => rw [hx] at h; cases h
  | some xs =>
    obtain ⟨a, vs, G, rfl, _, _, ha⟩ := lst_of s r hx
    exact .inl ⟨rfl, vs, SqL.of ha⟩
theorem ee_append (hK : X.K = C.K) (hb : attributeBase o "append" X.env (eval o X.env) = eval o X.env) (hline : (apos.endLine == pos.line) = true) (ns : noStar1 a = true) (ho : EE C R X E o fo) (ha : EE C R X E a fa) :
    EE C R X E (.Call (.Attribute o "append" apos) [a] [] pos) (fun ρ S => (fo ρ S).bind fun x S1 => if bmTy .append x S1 = true then ((fa ρ S1).bind fun y S2 => (Rs.ok [] S2).bind fun ys S3 => .ok (y :: ys) S3).bind fun xs S2 => bmD .append x xs S2 else .stuck) := by
  obtain ⟨to, po, go⟩ := ho
  obtain ⟨ta, pa, ga⟩ := ha
  refine ⟨_, pe_bm PySem.F.plainAttrs_list PySem.F.slot_list_append PySem.F.type_list_append mt_append po (pa_cons pa pa_nil (starEach_ns ns)) hb (by rw [starEach_ns ns]; rfl) hline (starEach_ns ns) (any_ns rfl), fun σ H L ρ S Q s e h => ?_⟩
  refine go.first s e (fun _ _ z => z) h fun x S1 v H1 L1 F1 p1 e1 h1 => ?_
  by_cases q1 : bmTy .append x S1 = true
  · rw [if_pos q1] at h1
    refine ⟨hK ▸ ty_list p1.sim p1.rep q1, ?_⟩
    have h1' : ((fa ρ S1).bind fun y S2 => bmD .append x [y] S2).sat (OkW C H L Q) (ExW C R E H L) := by
      cases hfa : fa ρ S1 with
      | ok y S2 => rw [hfa] at h1; exact h1
      | ex y S2 => rw [hfa] at h1; exact h1
      | stuck => rw [hfa] at h1; exact h1
    refine ga.first p1.sim e1 (fun _ _ z => z.later p1.ext) h1' fun y S2 w H2 L2 F2 p2 e2 h2 => ?_
    obtain ⟨x12, r1, f12⟩ := p1.seq p2
    cases x with
    | ref n =>
      obtain ⟨_, l, rfl, hl, hc⟩ := p2.sim.at r1
      unfold bmD at h2
      cases hS : S2[n]? with
      | none => simp only [hS] at h2; exact h2.elim
      | some oo =>
        simp only [hS] at h2
        cases oo with
        | lst xs =>
          simp only at h2
          by_cases q2 : xs.length < sizeLine
          · rw [if_pos q2] at h2
            obtain ⟨M, p3, _⟩ := (post_later p1.ext p2).mat
            have hS3 := mat_get (d := y) hS
            have hl3 : (L2 ++ M)[n]? = some l := by
              rw [List.getElem?_append_left (List.getElem?_eq_some_iff.mp hl).1]; exact hl
            obtain ⟨vs, ha, rv⟩ := (p3.sim.cell n _ l hS3 hl3).lst
            have rl : Reps C H2 (L2 ++ M) (xs ++ [(mat y S2).1]) (vs ++ [w]) [] := rv.append (.cons (F := []) (G := []) p3.rep .nil)
            have ex : Ext H2 (L2 ++ M) (upd H2 l (.lst (vs ++ [w]))) (L2 ++ M) := Ext.write (List.mem_of_getElem? hl3) ha rfl
            refine ⟨l, vs, w, rfl, rfl, ha, by rw [← rv.length]; exact q2, ?_⟩
            exact h2 .non _ (L2 ++ M) [] ⟨p3.ext.trans ex, p3.sim.write hl3 ha rfl (.lst rl) (fun _ z => nomatch z), .non, Fr.nil _ _⟩
          · rw [if_neg q2] at h2; exact h2.elim
        | _ => exact h2.elim
    | _ => exact h2.elim
  · rw [if_neg q1] at h1; exact h1.elim
theorem Reps.dropLast {H : Hp} {L : List Addr} {xs : List D} {vs : List V} (r : Reps C H L xs vs []) : Reps C H L xs.dropLast vs.dropLast [] := by
  obtain ⟨G, h1, h2⟩ := r.take (xs.length - 1)
  have e : G = [] := List.sublist_nil.mp h2
  subst e
  rw [List.dropLast_eq_take, List.dropLast_eq_take, ← r.length]
  exact h1
theorem ee_pop (hK : X.K = C.K) (hb : attributeBase o "pop" X.env (eval o X.env) = eval o X.env) (hline : (apos.endLine == pos.line) = true) (ho : EE C R X E o fo) :
    EE C R X E (.Call (.Attribute o "pop" apos) [] [] pos) (fun ρ S => (fo ρ S).bind fun x S1 => if bmTy .pop x S1 = true then (Rs.ok [] S1).bind fun xs S2 => bmD .pop x xs S2 else .stuck) := by
  obtain ⟨to, po, go⟩ := ho
  refine ⟨_, pe_bm0 PySem.F.plainAttrs_list PySem.F.slot_list_pop PySem.F.type_list_pop mt_pop po hb hline, fun σ H L ρ S Q s e h => ?_⟩
  refine go.first s e (fun _ _ z => z) h fun x S1 v H1 L1 F1 p1 e1 h1 => ?_
  by_cases q1 : bmTy .pop x S1 = true
  · rw [if_pos q1] at h1
    refine ⟨hK ▸ ty_list p1.sim p1.rep q1, ?_⟩
    cases x with
    | ref n =>
      obtain ⟨_, l, rfl, hl, hc⟩ := p1.sim.at p1.rep
      have h2 : (bmD .pop (.ref n) [] S1).sat (OkW C H L Q) (ExW C R E H L) := h1
      unfold bmD at h2
      cases hS : S1[n]? with
      | none => simp only [hS] at h2; exact h2.elim
      | some oo =>
        simp only [hS] at h2
        cases oo with
        | lst xs =>
          simp only at h2
          cases hy : xs[xs.length - 1]? with
          | none => simp only [hy] at h2; exact h2.elim
          | some y =>
            simp only [hy] at h2
            obtain ⟨vs, ha, rv⟩ := (hc _ hS).lst
            obtain ⟨w, G, hw, ry, hG⟩ := rv.at hy
            have eG : G = [] := List.sublist_nil.mp hG
            subst eG
            have ex : Ext H1 L1 (upd H1 l (.lst vs.dropLast)) L1 := Ext.write (List.mem_of_getElem? hl) ha rfl
            refine ⟨l, vs, w, rfl, rfl, ha, by rw [← rv.length]; exact hw, ?_⟩
            exact h2 w _ L1 [] ⟨p1.ext.trans ex, p1.sim.write hl ha rfl (.lst rv.dropLast) (fun _ z => nomatch z), ry.car ex.car0, Fr.nil _ _⟩
        | _ => exact h2.elim
    | _ => exact h1.elim
  · rw [if_neg q1] at h1; exact h1.elim
end
end Nv
/-! Nv: targets and statements. -/
namespace Nv
open PySem PySem.Spec PyProof.Rows L2
/-! ### targets -/
/-- σ' is σ but for the slots -/
def Wip (sl : List Nat) (σ σ' : L2.St) : Prop := σ'.length = σ.length ∧ ∀ i, i ∉ sl → σ'[i]? = σ[i]?
def GoodG (C : Cxt) (t : TG) (sl : List Nat) (f : D → AEnv → Store → Rs AEnv) : Prop :=
  ∀ (H : Hp) (L : List Addr) (S : Store) (ρ : AEnv) (σ : L2.St) (d : D) (v : V) (F : List Addr) (Q : L2.St → Hp → Prop), SimS C H L S → SimE C H L ρ σ → Rep C H L d v F → F.Nodup → (∀ a ∈ F, a ∉ L) →
    (f d ρ S).sat (fun ρ' S' => ∀ σ' M, SimS C H (L ++ M) S' → SimE C H (L ++ M) ρ' σ' → (∀ a ∈ M, a ∈ F) → Wip sl σ σ' → Q σ' H) (fun _ _ => False) → t v σ H Q
def GoodGs (C : Cxt) (t : TGs) (sl : List Nat) (f : List D → AEnv → Store → Rs AEnv) : Prop :=
  ∀ (H : Hp) (L : List Addr) (S : Store) (ρ : AEnv) (σ : L2.St) (d : List D) (v : List V) (F : List Addr) (Q : L2.St → Hp → Prop), SimS C H L S → SimE C H L ρ σ → Reps C H L d v F → F.Nodup → (∀ a ∈ F, a ∉ L) →
    (f d ρ S).sat (fun ρ' S' => ∀ σ' M, SimS C H (L ++ M) S' → SimE C H (L ++ M) ρ' σ' → (∀ a ∈ M, a ∈ F) → Wip sl σ σ' → Q σ' H) (fun _ _ => False) → t v σ H Q
def EG (C : Cxt) (X : Cx) (e : Expr) (sl : List Nat) (f : D → AEnv → Store → Rs AEnv) : Prop := ∃ t, PG X e t ∧ GoodG C t sl f
def EGs (C : Cxt) (X : Cx) (e : List Expr) (sl : List Nat) (f : List D → AEnv → Store → Rs AEnv) : Prop := ∃ t, PGs X e t ∧ GoodGs C t sl f
section
variable {C : Cxt} {R : XR} {X : Cx} {E : XK} {pos p0 apos : Pos} {a b c e o : Expr} {es : List Expr} {fo fa fb fc : AEnv → Store → Rs D} {fs : AEnv → Store → Rs (List D)}
theorem SimE.set {H : Hp} {L : List Addr} {ρ : AEnv} {σ : L2.St} (e : SimE C H L ρ σ) {i : Nat} {d : D} {v : V} (r : Rep C H L d v []) : SimE C H L (ρ.set i (some d)) (σ.set i (some v)) := by
  refine ⟨by rw [List.length_set, List.length_set]; exact e.1, fun j d' h => ?_⟩
  by_cases q : j = i
  · subst q
    have hj : j < ρ.length := by
      have := (List.getElem?_eq_some_iff.mp h).1
      rwa [List.length_set] at this
    rw [List.getElem?_set_self hj] at h
    cases h
    exact ⟨v, List.getElem?_set_self (Nat.lt_of_lt_of_le hj e.1), r⟩
  · rw [List.getElem?_set_ne (Ne.symm q)] at h
    obtain ⟨w, h1, h2⟩ := e.2 j d' h
    exact ⟨w, by rw [List.getElem?_set_ne (Ne.symm q)]; exact h1, h2⟩
theorem eg_name {i : Nat} {x : Str} (hN : X.N.Nodup) (hi : X.N[i]? = some x) (hx : Loc X.env.scope x) (hf : X.fn x = true ∨ X.env.scope.names.lookup x = some .local) : EG C X (.Name x pos) [i] (evalG (.name i)) := by
  refine ⟨gName i, pg_name hN hi hx hf, fun H L S ρ σ d v F Q s e r nd ou h => ?_⟩
  have h' : (Rs.ok (ρ.set i (some (mat d S).1)) (mat d S).2).sat (fun ρ' S' => ∀ σ' M, SimS C H (L ++ M) S' → SimE C H (L ++ M) ρ' σ' → (∀ a ∈ M, a ∈ F) → Wip [i] σ σ' → Q σ' H) (fun _ _ => False) := h
  obtain ⟨M, s', r', m⟩ := mat_ok d s r nd ou
  refine h' (σ.set i (some v)) M s' (e.grow.set r') m ⟨List.length_set, fun j hj => ?_⟩
  exact List.getElem?_set_ne (fun q => hj (by simp [q]))
theorem egs_nil : EGs C X [] [] (evalGs []) := by
  refine ⟨gNil, pgs_nil, fun H L S ρ σ d v F Q s e r nd ou h => ?_⟩
  cases d with
  | nil =>
    cases r
    exact ⟨rfl, h σ [] (by rw [List.append_nil]; exact s) (by rw [List.append_nil]; exact e) (by simp) ⟨rfl, fun _ _ => rfl⟩⟩
  | cons x xs => exact h.elim
theorem egs_cons {g : G} {gs : List G} {sl sl2 : List Nat} (h1 : EG C X e sl (evalG g)) (h2 : EGs C X es sl2 (evalGs gs)) (hs : (assignEach (e :: es) X.env).map (·.2) = assign e X.env :: (assignEach es X.env).map (·.2)) : EGs C X (e :: es) (sl ++ sl2) (evalGs (g :: gs)) := by
  obtain ⟨t, p, gd⟩ := h1
  obtain ⟨u, q, gds⟩ := h2
  refine ⟨gCons t u, pgs_cons p q hs, fun H L S ρ σ d v F Q s e r nd ou h => ?_⟩
  cases d with
  | nil => exact h.elim
  | cons x xs =>
    cases r with
    | cons r1 r2 =>
      rename_i v1 F1 vs F2
      rw [List.nodup_append] at nd
      refine ⟨v1, vs, rfl, ?_⟩
      have h' := sat_bind (r := evalG g x ρ S) (f := fun ρ1 S1 => evalGs gs xs ρ1 S1) h
      refine gd H L S ρ σ x v1 F1 _ s e r1 nd.1 (fun a ha => ou a (List.mem_append_left _ ha)) (sat_mono h' (fun ρ1 S1 z σ1 M1 s1 e1 m1 w1 => ?_) fun _ _ z => z)
      refine gds H (L ++ M1) S1 ρ1 σ1 xs vs F2 Q s1 e1 (r2.car car_grow) nd.2.1 (fun a ha hm => ?_) (sat_mono z (fun ρ2 S2 y σ2 M2 s2 e2 m2 w2 => ?_) fun _ _ z => z)
      · rcases List.mem_append.mp hm with k | k
        · exact ou a (List.mem_append_right _ ha) k
        · exact nd.2.2 a (m1 a k) a ha rfl
      · refine y σ2 (M1 ++ M2) (by rw [← List.append_assoc]; exact s2) (by rw [← List.append_assoc]; exact e2) (fun a ha => (List.mem_append.mp ha).elim (fun k => List.mem_append_left _ (m1 a k)) fun k => List.mem_append_right _ (m2 a k)) ⟨w2.1.trans w1.1, fun i hi => ?_⟩
        rw [w2.2 i (fun k => hi (List.mem_append_right _ k)), w1.2 i (fun k => hi (List.mem_append_left _ k))]
theorem eg_tup {gs : List G} {sl : List Nat} {k n : Nat} (hK : X.K = C.K) (hc : X.calm = true) (h : EGs C X es sl (evalGs gs)) (hl : ∀ xs ρ S ρ' S', evalGs gs xs ρ S = .ok ρ' S' → xs.length = n) (hn : (assignEach es X.env).length = n) (hst : (assignEach es X.env).findIdx? (·.1) = none) : EG C X (.Tuple es k pos) sl (evalG (.tup gs)) := by
  obtain ⟨t, p, gd⟩ := h
  refine ⟨_, pg_tup hc p hn hst, fun H L S ρ σ d v F Q s e r nd ou h => ?_⟩
  cases d with
  | tup xs =>
    obtain ⟨a, vs, rfl, ht, rs⟩ := r.tup_inv
    have h' : (evalGs gs xs ρ S).sat (fun ρ' S' => ∀ σ' M, SimS C H (L ++ M) S' → SimE C H (L ++ M) ρ' σ' → (∀ a ∈ M, a ∈ F) → Wip sl σ σ' → Q σ' H) (fun _ _ => False) := h
    refine ⟨a, vs, rfl, hK ▸ ht.sq, ?_, gd H L S ρ σ xs vs F Q s e rs nd ou h'⟩
    rw [← rs.length]
    cases hg : evalGs gs xs ρ S with
    | ok ρ' S' => exact hl xs ρ S ρ' S' hg
    | ex x S' => rw [hg] at h'; exact h'.elim
    | stuck => rw [hg] at h'; exact h'.elim
  | wtp xs =>
    obtain ⟨a, vs, rfl, ht, rs⟩ := r.wtp_inv
    have h' : (evalGs gs xs ρ S).sat (fun ρ' S' => ∀ σ' M, SimS C H (L ++ M) S' → SimE C H (L ++ M) ρ' σ' → (∀ a ∈ M, a ∈ F) → Wip sl σ σ' → Q σ' H) (fun _ _ => False) := h
    refine ⟨a, vs, rfl, hK ▸ ht, ?_, gd H L S ρ σ xs vs F Q s e rs nd ou h'⟩
    rw [← rs.length]
    cases hg : evalGs gs xs ρ S with
    | ok ρ' S' => exact hl xs ρ S ρ' S' hg
    | ex x S' => rw [hg] at h'; exact h'.elim
    | stuck => rw [hg] at h'; exact h'.elim
  | _ => exact h.elim
mutual
theorem evalG_noex : ∀ (g : G) (x : D) (ρ : AEnv) (S : Store) (y : Exn) (S' : Store), evalG g x ρ S ≠ .ex y S'
  | .name i, x, ρ, S, y, S', h => by cases h
  | .tup gs, .tup xs, ρ, S, y, S', h => evalGs_noex gs xs ρ S y S' h
  | .tup gs, .wtp xs, ρ, S, y, S', h => evalGs_noex gs xs ρ S y S' h
  | .tup gs, .non, ρ, S, y, S', h => by cases h
  | .tup gs, .bl _, ρ, S, y, S', h => by cases h
  | .tup gs, .int _, ρ, S, y, S', h => by cases h
  | .tup gs, .str _, ρ, S, y, S', h => by cases h
  | .tup gs, .ref _, ρ, S, y, S', h => by cases h
  | .tup gs, .new _, ρ, S, y, S', h => by cases h
theorem evalGs_noex : ∀ (gs : List G) (xs : List D) (ρ : AEnv) (S : Store) (y : Exn) (S' : Store), evalGs gs xs ρ S ≠ .ex y S'
  | [], [], ρ, S, y, S', h => by cases h
  | [], _ :: _, ρ, S, y, S', h => by cases h
  | _ :: _, [], ρ, S, y, S', h => by cases h
  | g :: gs, x :: xs, ρ, S, y, S', h => by
    have h' : (evalG g x ρ S).bind (fun ρ1 S1 => evalGs gs xs ρ1 S1) = .ex y S' := h
    cases q : evalG g x ρ S with
    | ok ρ1 S1 => rw [q] at h'; exact evalGs_noex gs xs ρ1 S1 y S' h'
    | ex z S1 => exact evalG_noex g x ρ S z S1 q
    | stuck => rw [q] at h'; cases h'
end
theorem evalGs_len : ∀ {gs : List G} {xs : List D} {ρ : AEnv} {S : Store} {ρ' : AEnv} {S' : Store}, evalGs gs xs ρ S = .ok ρ' S' → xs.length = gs.length
  | [], [], _, _, _, _, _ => rfl
  | [], _ :: _, _, _, _, _, h => by cases h
  | _ :: _, [], _, _, _, _, h => by cases h
  | g :: gs, x :: xs, ρ, S, ρ', S', h => by
    obtain ⟨ρ1, S1, _, h2⟩ := Rs.bind_ok (r := evalG g x ρ S) (f := fun ρ1 S1 => evalGs gs xs ρ1 S1) h
    exact congrArg Nat.succ (evalGs_len h2)
end
/-! ### statements -/
def OkS (C : Cxt) (H : Hp) (L : List Addr) (Z : Ends) (r : Fl × AEnv) (S' : Store) : Prop := match r.1 with
  | .nx => ∀ σ' H' L', Ext H L H' L' → SimS C H' L' S' → SimE C H' L' r.2 σ' → Z.nx σ' H'
  | .bk => ∀ σ' H' L', Ext H L H' L' → SimS C H' L' S' → SimE C H' L' r.2 σ' → Z.bk σ' H'
  | .ct => ∀ σ' H' L', Ext H L H' L' → SimS C H' L' S' → SimE C H' L' r.2 σ' → Z.ct σ' H'
  | .rt d => ∀ v H' L' F, Post C H L S' d v H' L' F → Z.rt v H'
theorem OkS.later {C : Cxt} {H H1 : Hp} {L L1 : List Addr} {Z : Ends} {r : Fl × AEnv} {S' : Store} (x : Ext H L H1 L1) (h : OkS C H L Z r S') : OkS C H1 L1 Z r S' := by
  obtain ⟨fl, ρ⟩ := r
  cases fl with
  | nx => exact fun σ' H' L' e => h σ' H' L' (x.trans e)
  | bk => exact fun σ' H' L' e => h σ' H' L' (x.trans e)
  | ct => exact fun σ' H' L' e => h σ' H' L' (x.trans e)
  | rt d => exact fun v H' L' F p => h v H' L' F (post_later x p)
def GoodS (C : Cxt) (R : XR) (E : XK) (t : TS) (f : AEnv → Store → Rs (Fl × AEnv)) : Prop :=
  ∀ (σ : L2.St) (H : Hp) (L : List Addr) (ρ : AEnv) (S : Store) (Z : Ends), SimS C H L S → SimE C H L ρ σ → (f ρ S).sat (OkS C H L Z) (ExW C R E H L) → t Z σ H
def ES (C : Cxt) (R : XR) (X : Cx) (E : XK) (s : Stmt) (f : AEnv → Store → Rs (Fl × AEnv)) : Prop := ∃ t, PS X s t ∧ GoodS C R E t f
def ESs (C : Cxt) (R : XR) (X : Cx) (E : XK) (s : List Stmt) (f : AEnv → Store → Rs (Fl × AEnv)) : Prop := ∃ t, PSs X s t ∧ GoodS C R E t f
section
variable {C : Cxt} {R : XR} {X : Cx} {E : XK} {pos p0 apos : Pos} {a b c e o : Expr} {es : List Expr} {fo fa fb fc : AEnv → Store → Rs D} {f1 f2 : AEnv → Store → Rs (Fl × AEnv)} {st : Stmt} {rest sa sb : List Stmt}
theorem ess_nil : ESs C R X E [] (fun ρ S => .ok (.nx, ρ) S) := ⟨tNext, pss_nil, fun σ H L ρ S Z s e h => h σ H L (Ext.refl _ _) s e⟩
theorem ess_cons (h1 : ES C R X E st f1) (h2 : ESs C R X E rest f2) : ESs C R X E (st :: rest) (fun ρ S => (f1 ρ S).bind fun q S1 => match q.1 with
    | .nx => f2 q.2 S1
    | _ => .ok q S1) := by
  obtain ⟨t, p, g⟩ := h1
  obtain ⟨u, q, k⟩ := h2
  refine ⟨tSeq t u, pss_cons p q, fun σ H L ρ S Z s e h => ?_⟩
  have h' := sat_bind h
  refine g σ H L ρ S { Z with nx := u Z } s e (sat_mono h' (fun r S1 z => ?_) fun _ _ z => z)
  obtain ⟨fl, ρ1⟩ := r
  cases fl with
  | nx => exact fun σ1 H1 L1 x1 s1 e1 => k σ1 H1 L1 ρ1 S1 Z s1 e1 (sat_mono z (fun _ _ y => y.later x1) fun _ _ y => y.later x1)
  | bk => exact z
  | ct => exact z
  | rt d => exact z
theorem es_expr (hs : ∀ l, swapsWith a none l X.env = pure false) (ha : EE C R X E a fa) : ES C R X E (.Expr a pos) (fun ρ S => (fa ρ S).bind fun _ S1 => .ok (.nx, ρ) S1) := by
  obtain ⟨ta, pa, ga⟩ := ha
  refine ⟨_, ps_expr pa (hs _), fun σ H L ρ S Z s e h => ?_⟩
  exact ga.first s e (fun _ _ z => z) h fun x S1 v H1 L1 F1 p1 e1 h1 => h1 σ H1 L1 p1.ext p1.sim e1
theorem es_ret (ha : EE C R X E a fa) : ES C R X E (.Return (some a) pos) (fun ρ S => (fa ρ S).bind fun x S1 => .ok (.rt x, ρ) S1) := by
  obtain ⟨ta, pa, ga⟩ := ha
  refine ⟨_, ps_ret pa, fun σ H L ρ S Z s e h => ?_⟩
  exact ga.first s e (fun _ _ z => z) h fun x S1 v H1 L1 F1 p1 e1 h1 => h1 v H1 L1 F1 p1
theorem es_retN : ES C R X E (.Return none pos) (fun ρ S => .ok (.rt .non, ρ) S) :=
  ⟨_, ps_retN, fun σ H L ρ S Z s e h => h .non H L [] ⟨Ext.refl _ _, s, .non, Fr.nil _ _⟩⟩
theorem es_pass : ES C R X E (.Pass pos) (fun ρ S => .ok (.nx, ρ) S) := ⟨_, ps_pass, fun σ H L ρ S Z s e h => h σ H L (Ext.refl _ _) s e⟩
theorem es_brk : ES C R X E (.Break pos) (fun ρ S => .ok (.bk, ρ) S) := ⟨_, ps_break, fun σ H L ρ S Z s e h => h σ H L (Ext.refl _ _) s e⟩
theorem es_cont : ES C R X E (.Continue pos) (fun ρ S => .ok (.ct, ρ) S) := ⟨_, ps_continue, fun σ H L ρ S Z s e h => h σ H L (Ext.refl _ _) s e⟩
theorem es_never : ES C R X E st (fun _ _ => .stuck) := ⟨_, ps_never, fun σ H L ρ S Z s e h => h.elim⟩
theorem es_asg {g : G} {sl : List Nat} (hs : swapsWithSole [b] a pos.line X.env = pure false) (hw : swappedStores [b] a X.env = pure none) (h1 : (assignEach [b] X.env).map (·.2) = [assign b X.env]) (ha : EE C R X E a fa) (hg : EG C X b sl (evalG g)) :
    ES C R X E (.Assign [b] a pos) (fun ρ S => (fa ρ S).bind fun x S1 => (evalG g x ρ S1).bind fun ρ1 S2 => .ok (.nx, ρ1) S2) := by
  obtain ⟨ta, pa, ga⟩ := ha
  obtain ⟨tg, pg, gg⟩ := hg
  refine ⟨_, ps_asg pa pg hs hw h1, fun σ H L ρ S Z s e h => ?_⟩
  refine ga.first s e (fun _ _ z => z) h fun x S1 v H1 L1 F1 p1 e1 h2 => ?_
  have h3 := sat_bind h2
  refine gg H1 L1 S1 ρ σ x v F1 _ p1.sim e1 p1.rep p1.fr.nd p1.fr.out ?_
  cases hq : evalG g x ρ S1 with
  | ok ρ1 S2 =>
    rw [hq] at h3
    exact fun σ' M s' e' m w => h3 σ' H1 (L1 ++ M) (p1.ext.grow p1.fr m) s' e'
  | ex y S2 => exact absurd hq (evalG_noex _ _ _ _ _ _)
  | stuck => rw [hq] at h3; exact h3.elim
/-! ### if -/
theorem es_ite {fc : AEnv → Store → Rs D} (hc : ET C R X E c fc) (ha : ESs C R X E sa f1) (hb : ESs C R X E sb f2) : ES C R X E (.If c sa sb pos) (fun ρ S => (fc ρ S).bind fun x S1 => match truD x S1 with
    | some true => f1 ρ S1
    | some false => f2 ρ S1
    | none => .stuck) := by
  obtain ⟨tc, pc, gc⟩ := hc
  obtain ⟨ta, pa, ga⟩ := ha
  obtain ⟨tb, pb, gb⟩ := hb
  refine ⟨_, ps_if pc pa pb, fun σ H L ρ S Z s e h => ?_⟩
  have h2 : ((truF fc ρ S).bind fun k S1 => if k = true then f1 ρ S1 else f2 ρ S1).sat (OkS C H L Z) (ExW C R E H L) := by
    dsimp only at h
    unfold truF
    cases hf : fc ρ S with
    | ok x S1 =>
      simp only [hf, Rs.bind] at h ⊢
      cases hk : truD x S1 with
      | none => simp only [hk] at h; exact h.elim
      | some k => simp only [hk] at h; cases k <;> simpa [Rs.of, Rs.bind] using h
    | ex x S1 => simp only [hf, Rs.bind] at h ⊢; exact h
    | stuck => simp only [hf, Rs.bind] at h; exact h.elim
  refine gc.first s e (fun _ _ z => z) h2 fun k S1 H1 L1 x1 s1 e1 h1 => ?_
  cases k with
  | true =>
    rw [if_pos rfl] at h1 ⊢
    exact ga σ H1 L1 ρ S1 Z s1 e1 (sat_mono h1 (fun _ _ z => z.later x1) fun _ _ z => z.later x1)
  | false =>
    rw [if_neg Bool.false_ne_true] at h1 ⊢
    exact gb σ H1 L1 ρ S1 Z s1 e1 (sat_mono h1 (fun _ _ z => z.later x1) fun _ _ z => z.later x1)
/-! ### stores into objects -/
theorem fs_put {H : Hp} {L : List Addr} {f : Nat} {d : D} {v : V} (rv : Rep C H L d v []) (inj : ∀ g, C.sym g = C.sym f → g = f) : ∀ {fs : List (Nat × D)} {vs : List (Str × V)}, RepFs C H L fs vs [] → RepFs C H L (putA f d fs) (putF (C.sym f) v vs) [] := by
  intro fs
  induction fs with
  | nil => intro vs r; cases r; exact .cons (F := []) (G := []) rv .nil
  | cons p r ih =>
    intro vs h
    obtain ⟨g, x⟩ := p
    generalize hF : ([] : List Addr) = F0 at h
    cases h with
    | cons rx rs =>
      rename_i w F1 s G1
      have hh := List.append_eq_nil_iff.mp hF.symm
      obtain ⟨rfl, rfl⟩ := hh
      by_cases q : g = f
      · subst q
        show RepFs C H L (if g = g then (g, d) :: r else _) (if C.sym g = C.sym g then (C.sym g, v) :: s else _) []
        rw [if_pos rfl, if_pos rfl]
        exact .cons (F := []) (G := []) rv rs
      · have ne : ¬ C.sym g = C.sym f := fun e => q (inj g e)
        show RepFs C H L (if g = f then (g, d) :: r else (g, x) :: putA f d r) (if C.sym g = C.sym f then (C.sym g, v) :: s else (C.sym g, w) :: putF (C.sym f) v s) []
        rw [if_neg q, if_neg ne]
        exact .cons (F := []) (G := []) rx (ih rs)
theorem RepFs.length {H : Hp} {L : List Addr} : ∀ {fs : List (Nat × D)} {vs : List (Str × V)} {F : List Addr}, RepFs C H L fs vs F → fs.length = vs.length
  | _, _, _, .nil => rfl
  | _, _, _, .cons _ s => congrArg Nat.succ s.length
theorem es_attr {f : Nat} {nm : Str} {p2 : Pos} (hK : X.K = C.K) (hcl : ∀ c, c < C.nc → Cls C.K (C.CA c)) (hna : ∀ c, c < C.nc → NoAttr C.K (C.CA c) nm) (hsym : C.sym f = nm) (inj : ∀ g, C.sym g = C.sym f → g = f) (hs : swapsWith a (some (.Attribute o nm p2)) pos.line X.env = pure false) (ho : EE C R X E o fo) (ha : EE C R X E a fa) :
    ES C R X E (.Assign [.Attribute o nm p2] a pos) (fun ρ S => (fa ρ S).bind fun y S1 => (fo ρ S1).bind fun x S2 => (Rs.of (setAttr x f (mat y S2).1 (mat y S2).2) S2).bind fun S3 _ => .ok (.nx, ρ) S3) := by
  subst hsym
  obtain ⟨to, po, go⟩ := ho
  obtain ⟨ta, pa, ga⟩ := ha
  refine ⟨_, ps_fld po pa hs, fun σ H L ρ S Z s e h => ?_⟩
  refine ga.first s e (fun _ _ z => z) h fun y S1 w H1 L1 F1 p1 e1 h1 => ?_
  refine go.first p1.sim e1 (fun _ _ z => z.later p1.ext) h1 fun x S2 v H2 L2 F2 p2 e2 h2 => ?_
  have h3 := sat_bind h2
  obtain ⟨S3, hS3, q⟩ := sat_of h3
  cases x with
  | ref n =>
    obtain ⟨_, l, rfl, hl, _⟩ := p2.sim.at p2.rep
    obtain ⟨x12, r1, f12⟩ := p1.seq p2
    have py : Post C H L S2 y w H2 L2 F1 := ⟨x12, p2.sim, r1, f12.sub (List.sublist_append_left _ _)⟩
    obtain ⟨M, p3, _⟩ := py.mat
    have hl3 : (L2 ++ M)[n]? = some l := by
      rw [List.getElem?_append_left (List.getElem?_eq_some_iff.mp hl).1]; exact hl
    unfold setAttr at hS3
    cases ho : (mat y S2).2[n]? with
    | none => simp only [ho] at hS3; cases hS3
    | some oo =>
      simp only [ho] at hS3
      cases oo with
      | ins c fs =>
        simp only at hS3
        by_cases hlen : fs.length < 1000
        · rw [if_pos hlen] at hS3
          cases hS3
          obtain ⟨dx, vs, hH, rf, hlt⟩ := (p3.sim.cell n _ l ho hl3).ins
          have ex : Ext H2 (L2 ++ M) (upd H2 l (.ins (C.CA c) dx (putF (C.sym f) w vs))) (L2 ++ M) := Ext.write (List.mem_of_getElem? hl3) hH rfl
          refine ⟨l, C.CA c, dx, vs, rfl, hH, hK ▸ hcl c hlt, hK ▸ hna c hlt, by rw [← rf.length]; exact hlen, ?_⟩
          exact q σ _ (L2 ++ M) (p3.ext.trans ex) (p3.sim.write hl3 hH rfl (.ins hlt (fs_put p3.rep inj rf)) (fun _ z => nomatch z)) (e2.grow.ext ex)
        · rw [if_neg hlen] at hS3; cases hS3
      | _ => cases hS3
  | _ => cases hS3
theorem Reps.set {H : Hp} {L : List Addr} {d : D} {v : V} (rv : Rep C H L d v []) : ∀ {xs : List D} {vs : List V} (j : Nat), Reps C H L xs vs [] → Reps C H L (xs.set j d) (vs.set j v) [] := by
  intro xs
  induction xs with
  | nil => intro vs j r; cases r; exact .nil
  | cons x xs ih =>
    intro vs j r
    generalize hF : ([] : List Addr) = F0 at r
    cases r with
    | cons rx rs =>
      obtain ⟨rfl, rfl⟩ := List.append_eq_nil_iff.mp hF.symm
      cases j with
      | zero => exact .cons (F := []) (G := []) rv rs
      | succ j => exact .cons (F := []) (G := []) rx (ih j rs)
theorem assign_sub {o i : Expr} {p : Pos} {env : Env} (h : ∀ l u s p, i ≠ .Slice l u s p) (v : Value) : assign (.Subscript o i p) env v = (do
      let ov ← holding [v] (eval o env)
      let iv ← holding [v, ov] (eval i env)
      standAt p
      holding [v, ov, iv] (setItem ov iv v)
      release [v, ov, iv] []) := by
  cases i <;> first
    | rfl
    | exact absurd rfl (h _ _ _ _)
theorem set_dict (hu : X.A.units + 1 < cLine) : PSet X (fun o i v H Q => ∃ a H', o = .ref a ∧ DPut H a i v H' ∧ Q H') := by
  intro pins s σ H o i v ov iv u Q I ro ri rv h
  obtain ⟨a, H', e, g, q⟩ := h
  subst e
  cases ro
  exact d_setItem hu I g ri rv fun s' I' => ⟨H', I', q⟩
theorem PSet.or {t t' : TSet} (h : PSet X t) (h' : PSet X t') : PSet X (fun o i v H Q => t o i v H Q ∨ t' o i v H Q) := by
  intro pins s σ H o i v ov iv u Q I ro ri rv q
  rcases q with q | q
  · exact h pins s σ H o i v ov iv u Q I ro ri rv q
  · exact h' pins s σ H o i v ov iv u Q I ro ri rv q
/-- a dict's pairs with one more -/
theorem RepKs.put {H : Hp} {L : List Addr} {k : D} {q : L2.Key} {d : D} {v : V} (hk : RepK k q) (rv : Rep C H L d v []) {kvs : List (D × D)} {vs : List (L2.Key × V)} (r : RepKs C H L kvs vs []) : RepKs C H L (putKD k q d kvs) (putK vs q v) [] := by
  have same : ∀ {kvs : List (D × D)} {vs : List (L2.Key × V)} {F : List Addr}, RepKs C H L kvs vs F → (kvs.any fun p => decide (keyD p.1 = some q)) = (vs.any fun p => decide (p.1 = q)) := by
    intro kvs vs F r
    induction kvs generalizing vs F with
    | nil => cases r; rfl
    | cons p kvs ih =>
      cases r with
      | cons hj rx rs =>
        rename_i j _ _ _ _ _ _
        rw [List.any_cons, List.any_cons, ih rs]
        congr 1
        have e := keyD_of hj
        show decide (keyD _ = some q) = _
        rw [e]
        simp
  have mp : ∀ {kvs : List (D × D)} {vs : List (L2.Key × V)} {F : List Addr}, RepKs C H L kvs vs F → F = [] → RepKs C H L (kvs.map fun p => if keyD p.1 = some q then (p.1, d) else p) (vs.map fun p => if p.1 = q then (p.1, v) else p) [] := by
    intro kvs vs F r hF
    induction kvs generalizing vs F with
    | nil => cases r; exact .nil
    | cons p kvs ih =>
      cases r with
      | cons hj rx rs =>
        obtain ⟨rfl, rfl⟩ := List.append_eq_nil_iff.mp hF
        rw [List.map_cons, List.map_cons]
        have e := keyD_of hj
        rename_i j x w s
        dsimp only
        by_cases z : j = q
        · rw [if_pos (by rw [e, z]), if_pos z]
          exact .cons (F := []) (G := []) hj rv (ih rs rfl)
        · rw [if_neg (by rw [e]; intro y; exact z (Option.some.inj y)), if_neg z]
          exact .cons (F := []) (G := []) hj rx (ih rs rfl)
  have ap : ∀ {kvs : List (D × D)} {vs : List (L2.Key × V)} {F : List Addr}, RepKs C H L kvs vs F → F = [] → RepKs C H L (kvs ++ [(k, d)]) (vs ++ [(q, v)]) [] := by
    intro kvs vs F r hF
    induction kvs generalizing vs F with
    | nil => cases r; exact .cons (F := []) (G := []) hk rv .nil
    | cons p kvs ih =>
      cases r with
      | cons hj rx rs =>
        obtain ⟨rfl, rfl⟩ := List.append_eq_nil_iff.mp hF
        exact .cons (F := []) (G := []) hj rx (ih rs rfl)
  unfold putKD putK
  rw [same r]
  by_cases h : (vs.any fun p => decide (p.1 = q)) = true
  · rw [if_pos h, if_pos h]; exact mp r rfl
  · rw [if_neg h, if_neg h]; exact ap r rfl
theorem key_repK {k : D} {q : L2.Key} (h : keyD k = some q) : RepK k q := by
  cases k with
  | int i => cases h; exact .int i
  | str i => cases h; exact .str i
  | _ => cases h
/-- what a store by a place comes to -/
theorem setSub_cases {x k v : D} {S S' : Store} (h : setSub x k v S = some S') : ∃ n, x = .ref n ∧
    ((∃ xs i j, S[n]? = some (.lst xs) ∧ k = .int i ∧ ixN xs.length i = some j ∧ S' = S.set n (.lst (xs.set j v))) ∨ ∃ kvs q, S[n]? = some (.dct kvs) ∧ keyD k = some q ∧ kvs.length < sizeLine ∧ S' = S.set n (.dct (putKD k q v kvs))) := by
  unfold setSub at h
  split at h
  · rename_i n i
    refine ⟨n, rfl, ?_⟩
    split at h
    · rename_i xs e
      cases hj : ixN xs.length i with
      | none => rw [hj] at h; cases h
      | some j => rw [hj] at h; cases h; exact .inl ⟨xs, i, j, e, rfl, hj, rfl⟩
    · rename_i kvs e
      by_cases z : kvs.length < sizeLine
      · rw [if_pos z] at h; cases h; exact .inr ⟨kvs, .inl i, e, rfl, z, rfl⟩
      · rw [if_neg z] at h; cases h
    · cases h
  · rename_i n i
    refine ⟨n, rfl, ?_⟩
    split at h
    · rename_i kvs e
      by_cases z : kvs.length < sizeLine
      · rw [if_pos z] at h; cases h; exact .inr ⟨kvs, .inr i, e, rfl, z, rfl⟩
      · rw [if_neg z] at h; cases h
    · cases h
  · cases h
theorem es_sub {i : Expr} {fi : AEnv → Store → Rs D} {p2 : Pos} (hu : X.A.units + 64 < cLine) (hsl : ∀ l u s p, i ≠ .Slice l u s p) (hs : swapsWithSole [.Subscript o i p2] a pos.line X.env = pure false) (hw : swappedStores [.Subscript o i p2] a X.env = pure none) (ho : EE C R X E o fo) (hi : EE C R X E i fi) (ha : EE C R X E a fa) :
    ES C R X E (.Assign [.Subscript o i p2] a pos) (fun ρ S => (fa ρ S).bind fun y S1 => (fo ρ S1).bind fun x S2 => (fi ρ S2).bind fun k S3 => (Rs.of (setSub x k (mat y S3).1 (mat y S3).2) S3).bind fun S4 _ => .ok (.nx, ρ) S4) := by
  obtain ⟨to, po, go⟩ := ho
  obtain ⟨ta, pa, ga⟩ := ha
  obtain ⟨ti, pi, gi⟩ := hi
  refine ⟨_, ps_asg pa (pg_sub po pi (PSet.or set_list (set_dict (by omega))) (assign_sub hsl)) hs hw (by rfl), fun σ H L ρ S Z s e h => ?_⟩
  refine ga.first s e (fun _ _ z => z) h fun y S1 w H1 L1 F1 p1 e1 h1 => ?_
  refine go.first p1.sim e1 (fun _ _ z => z.later p1.ext) h1 fun x S2 v H2 L2 F2 p2 e2 h2 => ?_
  obtain ⟨x12, r1, f12⟩ := p1.seq p2
  refine gi.first p2.sim e2 (fun _ _ z => z.later x12) h2 fun k S3 u H3 L3 F3 p3 e3 h3 => ?_
  have h4 := sat_bind h3
  obtain ⟨S4, hS4, q⟩ := sat_of h4
  obtain ⟨n, rfl, w'⟩ := setSub_cases hS4
  have r2 := p2.rep.car (p3.ext.car p2.fr.out)
  obtain ⟨_, l, rfl, hl, _⟩ := p3.sim.at r2
  have o1 : ∀ a ∈ F1, a ∉ L2 := fun a ha => f12.out a (List.mem_append_left _ ha)
  have py : Post C H L S3 y w H3 L3 F1 := ⟨x12.trans p3.ext, p3.sim, r1.car (p3.ext.car o1), (f12.sub (List.sublist_append_left _ _)).over r1.trk p3.ext⟩
  obtain ⟨M, p4, _⟩ := py.mat
  have hl4 : (L3 ++ M)[n]? = some l := by
    rw [List.getElem?_append_left (List.getElem?_eq_some_iff.mp hl).1]; exact hl
  rcases w' with ⟨xs, i', j, hoo, rfl, hj, rfl⟩ | ⟨kvs, kq, hoo, hk, hlen, rfl⟩
  · obtain ⟨rfl, _⟩ := p3.rep.int_inv
    obtain ⟨vs, hH, rf⟩ := (p4.sim.cell n _ l hoo hl4).lst
    have ex : Ext H3 (L3 ++ M) (upd H3 l (.lst (vs.set j w))) (L3 ++ M) := Ext.write (List.mem_of_getElem? hl4) hH rfl
    refine .inl ⟨l, vs, i', j, rfl, rfl, hH, by rw [← rf.length]; exact hj, ?_⟩
    exact q σ _ (L3 ++ M) (p4.ext.trans ex) (p4.sim.write hl4 hH rfl (.lst (Reps.set p4.rep j rf)) (fun _ z => nomatch z)) (e3.grow.ext ex)
  · have eu := key_rep p3.rep hk
    subst eu
    obtain ⟨vs, hH, rf⟩ := (p4.sim.cell n _ l hoo hl4).dct
    have ex : Ext H3 (L3 ++ M) (upd H3 l (.dK (putK vs kq w))) (L3 ++ M) := Ext.write (List.mem_of_getElem? hl4) hH rfl
    refine .inr ⟨l, _, rfl, DPut.k hH (by rw [← rf.length]; exact hlen), ?_⟩
    exact q σ _ (L3 ++ M) (p4.ext.trans ex) (p4.sim.write hl4 hH rfl (.dct (RepKs.put (key_repK hk) p4.rep rf)) (fun _ z => nomatch z)) (e3.grow.ext ex)
end
end Nv
/-! Nv: names put in at once. -/
namespace Nv
open PySem PySem.Spec PyProof.Rows L2
/-! ### which stores are swapped -/
def swOpt (sc : Scope) (ts vs : List Expr) : Option (List Str) :=
  if (!(ts.length == 2 || ts.length == 3) || vs.length != ts.length) = true then none else
  if (vs.any fun e => match e with
    | .Starred .. => true
    | _ => false) = true then none else
  let line := (ts.head?.map (·.pos.line)).getD 0
  let names := ts.filterMap fun e => match e with
    | .Name id pos => if sc.names.lookup id == some .local && pos.line == line then some id else none
    | _ => none
  if (names.length != ts.length || names.eraseDups.length != names.length) = true then none else
  if (vs.all (foldedForSure 8)) = true then none else some names
def swBad (vs : List Expr) : Bool := vs.all (constantsAlone 8) && !(vs.all (foldedForSure 8))
theorem swapped_eq {sc : Scope} {ts vs : List Expr} {k k2 : Nat} {p p2 : Pos} {env : Env} (hs : env.scope = sc) (hk : sc.kind = .function) (hb : swBad vs = false) : swappedStores [.Tuple ts k p] (.Tuple vs k2 p2) env = pure (swOpt sc ts vs) := by
  have bk : env.blockKind = .function := by
    unfold Env.blockKind
    rw [hs, hk]; rfl
  have nb : (env.blockKind != .function) = false := by rw [bk]; rfl
  unfold swBad at hb
  subst hs
  unfold swappedStores swOpt
  simp only [nb, Bool.or_false, Env.kindOf]
  have hc : vs.all (foldedForSure 8) = false → vs.all (constantsAlone 8) = false := fun h => by
    rw [h] at hb
    simpa using hb
  have ip : ∀ (c : Bool) (a b : Option (List Str)), (if c = true then (pure a : Sem (Option (List Str))) else pure b) = pure (if c = true then a else b) := by
    intro c a b; cases c <;> rfl
  cases hf : vs.all (foldedForSure 8) with
  | true =>
    simp only [if_true, ip]
    try rfl
  | false =>
    simp only [hc hf, Bool.false_eq_true, if_false, ip]
    try rfl
section
variable {C : Cxt} {R : XR} {X : Cx} {E : XK} {pos : Pos} {es : List Expr} {fs : AEnv → Store → Rs (List D)}
theorem Reps.inv0 {H : Hp} {L : List Addr} {ys : List D} {v : V} {vs : List V} (r : Reps C H L ys (v :: vs) []) : ∃ y ys', ys = y :: ys' ∧ Rep C H L y v [] ∧ Reps C H L ys' vs [] := by
  obtain ⟨F, hF⟩ : ∃ F : List Addr, F = [] := ⟨[], rfl⟩
  rw [← hF] at r
  cases r with
  | cons a b =>
    have := List.append_eq_nil_iff.mp hF
    rw [this.1] at a
    rw [this.2] at b
    exact ⟨_, _, rfl, a, b⟩
theorem Reps.nil0 {H : Hp} {L : List Addr} {ys : List D} {F : List Addr} (r : Reps C H L ys [] F) : ys = [] := by cases r; rfl
theorem es_par2 {i j : Nat} {x y : Str} {a b : Expr} {px py pt pt2 : Pos} {kt k2 : Nat} (hc : X.calm = true) (hN : X.N.Nodup) (hi : X.N[i]? = some x) (hj : X.N[j]? = some y) (hij : i ≠ j)
    (hx : X.env.scope.names.lookup x = some .local) (hy : X.env.scope.names.lookup y = some .local) (ha : EA C R X E [a, b] fs) (hl : ∀ ρ S xs S1, fs ρ S = .ok xs S1 → xs.length = 2)
    (hw : swappedStores [.Tuple [.Name x px, .Name y py] kt pt] (.Tuple [a, b] k2 pt2) X.env = pure (some [x, y])) :
    ES C R X E (.Assign [.Tuple [.Name x px, .Name y py] kt pt] (.Tuple [a, b] k2 pt2) pos) (fun ρ S => (fs ρ S).bind fun xs S1 => .ok (.nx, parD [i, j] (mats xs S1).1 ρ) (mats xs S1).2) := by
  obtain ⟨ta, pa, ga⟩ := ha
  refine ⟨_, ps_par hc hN hi hj hij hx hy pa hw, fun σ H L ρ S Z s e h => ?_⟩
  refine ga σ H L ρ S _ s e ?_
  dsimp only at h
  cases hq : fs ρ S with
  | stuck => rw [hq] at h; exact h.elim
  | ex y S1 => rw [hq] at h; exact h
  | ok xs S1 =>
    rw [hq] at h
    have h : OkS C H L Z (.nx, parD [i, j] (mats xs S1).1 ρ) (mats xs S1).2 := h
    have hlen := hl _ _ _ _ hq
    intro vs H1 L1 F p1
    obtain ⟨M, s', r', m⟩ := mats_ok xs p1.sim p1.rep p1.fr.nd p1.fr.out
    have ex : Ext H L H1 (L1 ++ M) := p1.ext.grow p1.fr m
    have hv : vs.length = 2 := by rw [← p1.rep.length]; exact hlen
    generalize (mats xs S1).1 = ys at r' h
    match vs, hv, r' with
    | [v1, v2], _, r' =>
      obtain ⟨y1, ys1, rfl, r1, r'⟩ := r'.inv0
      obtain ⟨y2, ys2, rfl, r2, r'⟩ := r'.inv0
      exact ⟨v1, v2, rfl, h _ H1 (L1 ++ M) ex s' (((e.ext p1.ext).grow.set r1).set r2)⟩
theorem es_par3 {i j l : Nat} {x y z : Str} {a b c : Expr} {px py pz pt pt2 : Pos} {kt k2 : Nat} (hc : X.calm = true) (hN : X.N.Nodup) (hi : X.N[i]? = some x) (hj : X.N[j]? = some y) (hk : X.N[l]? = some z) (hij : i ≠ j) (hil : i ≠ l) (hjl : j ≠ l)
    (hx : X.env.scope.names.lookup x = some .local) (hy : X.env.scope.names.lookup y = some .local) (hz : X.env.scope.names.lookup z = some .local) (ha : EA C R X E [a, b, c] fs) (hl : ∀ ρ S xs S1, fs ρ S = .ok xs S1 → xs.length = 3)
    (hw : swappedStores [.Tuple [.Name x px, .Name y py, .Name z pz] kt pt] (.Tuple [a, b, c] k2 pt2) X.env = pure (some [x, y, z])) :
    ES C R X E (.Assign [.Tuple [.Name x px, .Name y py, .Name z pz] kt pt] (.Tuple [a, b, c] k2 pt2) pos) (fun ρ S => (fs ρ S).bind fun xs S1 => .ok (.nx, parD [i, j, l] (mats xs S1).1 ρ) (mats xs S1).2) := by
  obtain ⟨ta, pa, ga⟩ := ha
  refine ⟨_, ps_par3 hc hN hi hj hk hij hil hjl hx hy hz pa hw, fun σ H L ρ S Z s e h => ?_⟩
  refine ga σ H L ρ S _ s e ?_
  dsimp only at h
  cases hq : fs ρ S with
  | stuck => rw [hq] at h; exact h.elim
  | ex y S1 => rw [hq] at h; exact h
  | ok xs S1 =>
    rw [hq] at h
    have h : OkS C H L Z (.nx, parD [i, j, l] (mats xs S1).1 ρ) (mats xs S1).2 := h
    have hlen := hl _ _ _ _ hq
    intro vs H1 L1 F p1
    obtain ⟨M, s', r', m⟩ := mats_ok xs p1.sim p1.rep p1.fr.nd p1.fr.out
    have ex : Ext H L H1 (L1 ++ M) := p1.ext.grow p1.fr m
    have hv : vs.length = 3 := by rw [← p1.rep.length]; exact hlen
    generalize (mats xs S1).1 = ys at r' h
    match vs, hv, r' with
    | [v1, v2, v3], _, r' =>
      obtain ⟨y1, ys1, rfl, r1, r'⟩ := r'.inv0
      obtain ⟨y2, ys2, rfl, r2, r'⟩ := r'.inv0
      obtain ⟨y3, ys3, rfl, r3, r'⟩ := r'.inv0
      exact ⟨v1, v2, v3, rfl, h _ H1 (L1 ++ M) ex s' ((((e.ext p1.ext).grow.set r1).set r2).set r3)⟩
end
end Nv
/-! Nv: more methods of lists, texts, dicts. -/
namespace Nv
open PySem PySem.Spec PyProof.Rows L2
/-- a method by values agrees with r -/
def GoodM (C : Cxt) (r : V → List V → Hp → VK → Prop) (m : Bm) : Prop :=
  ∀ (H0 : Hp) (L0 : List Addr) (H : Hp) (L : List Addr) (S : Store) (x : D) (xs : List D) (v : V) (vs : List V) (F G : List Addr) (Q : VK), Ext H0 L0 H L → SimS C H L S → Rep C H L x v F → Reps C H L xs vs G → Fr H0 (F ++ G) L →
    (bmD m x xs S).sat (OkW C H0 L0 Q) (fun _ _ => False) → r v vs H Q
theorem bm_noex (m : Bm) (x : D) (xs : List D) (S : Store) (y : Exn) (S' : Store) : bmD m x xs S ≠ .ex y S' := by
  intro h
  unfold bmD at h
  repeat' split at h
  all_goals (first | cases h)
theorem sat_noex' {m : Bm} {x : D} {xs : List D} {S : Store} {A : D → Store → Prop} {B : Exn → Store → Prop} (h : (bmD m x xs S).sat A B) : (bmD m x xs S).sat A (fun _ _ => False) := by
  cases q : bmD m x xs S with
  | ok d S' => rw [q] at h; exact h
  | ex y S' => exact absurd q (bm_noex _ _ _ _ _ _)
  | stuck => rw [q] at h; exact h
section
variable {C : Cxt} {R : XR} {X : Cx} {E : XK} {pos p0 apos : Pos} {a b c e o : Expr} {es : List Expr} {fo fa fb fc : AEnv → Store → Rs D} {fs : AEnv → Store → Rs (List D)}
theorem few_ns {e : Expr} {es : List Expr} {env : Env} (ns : noStar (e :: es) = true) (hl : (e :: es).length < 30) : ((backTo pos (starEach (e :: es) env)).all (fun x => !x.1) && (backToKw pos (keywordEach [] env)).all (fun x => x.1.isSome)
      && decide ((e :: es).length + ([] : List Keyword).length + (if ([] : List Keyword).isEmpty then 0 else 1) < 30)) = true := by
  have h1 := any_ns (pos := pos) (env := env) ns
  have h2 : (backTo pos (starEach (e :: es) env)).all (fun x => !x.1) = true := by
    rw [List.all_eq_true]
    intro x hx
    cases hq : x.1 with
    | false => rfl
    | true =>
      have : (backTo pos (starEach (e :: es) env)).any (·.1) = true := List.any_eq_true.mpr ⟨x, hx, hq⟩
      rw [h1] at this; cases this
  rw [h2]
  have h3 : (backToKw pos (keywordEach [] env)).all (fun x => x.1.isSome) = true := rfl
  rw [h3]
  show decide ((e :: es).length + 0 + 0 < 30) = true
  exact decide_eq_true (by omega)
theorem ee_bm {m : Bm} {T id : String} {name : Str} {r : V → List V → Hp → VK → Prop} (pa : PlainAttrs T) (slot : Slot T name id) (hty : typeOf (.builtin id) = pure (.type "method_descriptor")) (hm : MtR X id r) (hr : GoodM C r m) (hK : X.K = C.K)
    (ty : ∀ {H : Hp} {L : List Addr} {S : Store} {x : D} {v : V} {F : List Addr}, SimS C H L S → Rep C H L x v F → bmTy m x S = true → tyV C.K T v H)
    (hb : attributeBase o name X.env (eval o X.env) = eval o X.env) (hline : (apos.endLine == pos.line) = true) (ns : noStar (e :: es) = true) (hl : (e :: es).length < 30) (ho : EE C R X E o fo) (ha : EA C R X E (e :: es) fs) :
    EE C R X E (.Call (.Attribute o name apos) (e :: es) [] pos) (fun ρ S => (fo ρ S).bind fun x S1 => if bmTy m x S1 = true then (fs ρ S1).bind fun xs S2 => bmD m x xs S2 else .stuck) := by
  obtain ⟨to, po, go⟩ := ho
  obtain ⟨ta, pa', ga⟩ := ha
  have ns' : noStar1 e = true ∧ noStar es = true := by
    unfold noStar at ns ⊢
    rw [List.all_cons, Bool.and_eq_true] at ns
    exact ns
  refine ⟨_, pe_bm pa slot hty hm po pa' hb (few_ns ns hl) hline (starEach_ns ns'.1) (any_ns ns'.2), fun σ H L ρ S Q s e h => ?_⟩
  refine go.first s e (fun _ _ z => z) h fun x S1 v H1 L1 F1 p1 e1 h1 => ?_
  by_cases q1 : bmTy m x S1 = true
  · rw [if_pos q1] at h1
    refine ⟨hK ▸ ty p1.sim p1.rep q1, ?_⟩
    refine ga.first p1.sim e1 (fun _ _ z => z.later p1.ext) h1 fun xs S2 vs H2 L2 F2 p2 e2 h2 => ?_
    obtain ⟨x12, r1, f12⟩ := p1.seqL p2
    exact hr H L H2 L2 S2 x xs v vs F1 F2 Q x12 p2.sim r1 p2.rep f12 (sat_noex' h2)
  · rw [if_neg q1] at h1; exact h1.elim
theorem Reps.take0 {H : Hp} {L : List Addr} {xs : List D} {vs : List V} (n : Nat) (r : Reps C H L xs vs []) : Reps C H L (xs.take n) (vs.take n) [] := by
  obtain ⟨G, h1, h2⟩ := r.take n
  have e : G = [] := List.sublist_nil.mp h2
  subst e; exact h1
theorem Reps.drop0 {H : Hp} {L : List Addr} {xs : List D} {vs : List V} (n : Nat) (r : Reps C H L xs vs []) : Reps C H L (xs.drop n) (vs.drop n) [] := by
  obtain ⟨G, h1, h2⟩ := r.drop n
  have e : G = [] := List.sublist_nil.mp h2
  subst e; exact h1
theorem good_popAt : GoodM C rPopAt .popAt := by
  intro H0 L0 H L S x xs v vs F G Q e s rx rs fr h
  unfold bmD at h
  split at h <;> first
    | (rename_i hm; cases hm; done)
    | skip
  · rename_i n i hm
    obtain ⟨_, l, rfl, hl, hc⟩ := s.at rx
    obtain ⟨w, rfl, rw'⟩ := rs.one
    obtain ⟨rfl, rfl⟩ := rw'.int_inv
    split at h
    · rename_i ys hS
      by_cases z : -(2 ^ 63) ≤ i ∧ i < 2 ^ 63
      · rw [if_pos z] at h
        split at h
        · rename_i k hk
          split at h
          · rename_i y hy
            obtain ⟨us, hH, ru⟩ := (hc _ hS).lst
            obtain ⟨u, G', hu, ry, hG⟩ := ru.at hy
            have eG : G' = [] := List.sublist_nil.mp hG
            subst eG
            refine ⟨l, us, i, k, u, rfl, rfl, hH, z.1, z.2, by rw [← ru.length]; exact hk, hu, ?_⟩
            have ex : Ext H L (upd H l (.lst (us.eraseIdx k))) L := Ext.write (List.mem_of_getElem? hl) hH rfl
            have re : Reps C H L (ys.eraseIdx k) (us.eraseIdx k) [] := by
              rw [List.eraseIdx_eq_take_drop_succ, List.eraseIdx_eq_take_drop_succ]
              have := (ru.take0 k).append (ru.drop0 (k + 1))
              rwa [List.append_nil] at this
            exact h u _ L [] ⟨e.trans ex, s.write hl hH rfl (.lst re) (fun _ z => nomatch z), ry.car ex.car0, Fr.nil _ _⟩
          · exact h.elim
        · exact h.elim
      · rw [if_neg z] at h; exact h.elim
    · exact h.elim
  · exact h.elim
theorem good_insert : GoodM C (fun x vs H Q => ∃ (l : Addr) (xs : List V) (i : Int) (y : V), x = .ref l ∧ vs = [.int i, y] ∧ H l = some (.lst xs) ∧ xs.length < sizeLine ∧ 0 ≤ i ∧ i < 2 ^ 63 ∧ Q .non (upd H l (.lst (xs.take i.toNat ++ [y] ++ xs.drop i.toNat)))) .insert := by
  intro H0 L0 H L S x xs v vs F G Q e s rx rs fr h
  unfold bmD at h
  split at h <;> first
    | (rename_i hm; cases hm; done)
    | skip
  · rename_i n i y hm
    obtain ⟨F0, l, rfl, hl, hc⟩ := s.at rx
    subst F0
    cases rs with
    | cons ri rr =>
      obtain ⟨rfl, rfl⟩ := ri.int_inv
      obtain ⟨w, rfl, ry⟩ := rr.one
      split at h
      · rename_i ys hS
        by_cases z : ys.length < sizeLine ∧ 0 ≤ i ∧ i < 2 ^ 63
        · rw [if_pos z] at h
          simp only [List.nil_append] at fr
          have py : Post C H0 L0 S y w H L _ := ⟨e, s, ry, fr⟩
          obtain ⟨M, p3, _⟩ := py.mat
          have hS3 := mat_get (d := y) hS
          have hl3 : (L ++ M)[n]? = some l := by
            rw [List.getElem?_append_left (List.getElem?_eq_some_iff.mp hl).1]; exact hl
          obtain ⟨us, hH, ru⟩ := (p3.sim.cell n _ l hS3 hl3).lst
          have rl : Reps C H (L ++ M) (ys.take i.toNat ++ [(mat y S).1] ++ ys.drop i.toNat) (us.take i.toNat ++ [w] ++ us.drop i.toNat) [] := by
            have h1 := (ru.take0 i.toNat).append (Reps.cons (F := []) (G := []) p3.rep .nil)
            have h2 := h1.append (ru.drop0 i.toNat)
            simpa using h2
          have ex : Ext H (L ++ M) (upd H l (.lst (us.take i.toNat ++ [w] ++ us.drop i.toNat))) (L ++ M) := Ext.write (List.mem_of_getElem? hl3) hH rfl
          refine ⟨l, us, i, w, rfl, rfl, hH, by rw [← ru.length]; exact z.1, z.2.1, z.2.2, ?_⟩
          exact h .non _ (L ++ M) [] ⟨p3.ext.trans ex, p3.sim.write hl3 hH rfl (.lst rl) (fun _ z => nomatch z), .non, Fr.nil _ _⟩
        · rw [if_neg z] at h; exact h.elim
      · exact h.elim
  · exact h.elim
theorem good_extend : GoodM C rExtend .extend := by
  intro H0 L0 H L S x xs v vs F G Q e s rx rs fr h
  unfold bmD at h
  split at h <;> first
    | (rename_i hm; cases hm; done)
    | skip
  · rename_i n ys hm
    obtain ⟨F0, l, rfl, hl, hc⟩ := s.at rx
    subst F0
    obtain ⟨w, rfl, ry⟩ := rs.one
    split at h
    · rename_i zs hS
      by_cases z : zs.length + ys.length ≤ sizeLine
      · rw [if_pos z] at h
        cases rs with
        | cons r1 r2 =>
          cases r2
          cases r1 with
          | new ha ro =>
            cases ro with
            | lst rl =>
              rename_i aa F1 ws
              simp only [List.nil_append, List.append_nil] at fr
              have nd := List.nodup_cons.mp fr.nd
              have pl : PostL C H0 L0 S ys ws H L F1 := ⟨e, s, rl, fun a ha => fr.new a (List.mem_cons_of_mem _ ha), nd.2, fun a ha => fr.out a (List.mem_cons_of_mem _ ha)⟩
              obtain ⟨M, p3, m3⟩ := pl.mats
              have hS3 : (mats ys S).2[n]? = some (.lst zs) := by
                obtain ⟨T, e3⟩ := mats_pre ys S
                rw [e3, List.getElem?_append_left (List.getElem?_eq_some_iff.mp hS).1]; exact hS
              have hl3 : (L ++ M)[n]? = some l := by
                rw [List.getElem?_append_left (List.getElem?_eq_some_iff.mp hl).1]; exact hl
              obtain ⟨us, hH, ru⟩ := (p3.sim.cell n _ l hS3 hl3).lst
              have re := ru.append p3.rep
              have ex : Ext H (L ++ M) (upd H l (.lst (us ++ ws))) (L ++ M) := Ext.write (List.mem_of_getElem? hl3) hH rfl
              refine ⟨l, _, us, ws, rfl, rfl, hH, ha, by rw [← ru.length, ← rl.length]; exact z, ?_⟩
              exact h .non _ (L ++ M) [] ⟨p3.ext.trans ex, p3.sim.write hl3 hH rfl (.lst re) (fun _ z => nomatch z), .non, Fr.nil _ _⟩
      · rw [if_neg z] at h; exact h.elim
    · exact h.elim
  · rename_i n m hm
    obtain ⟨F0, l, rfl, hl, hc⟩ := s.at rx
    obtain ⟨w, rfl, ry⟩ := rs.one
    obtain ⟨F1, l2, rfl, hl2, hc2⟩ := s.at ry
    split at h
    · rename_i zs ys hS hS2
      by_cases z : zs.length + ys.length ≤ sizeLine
      · rw [if_pos z] at h
        obtain ⟨us, hH, ru⟩ := (hc _ hS).lst
        obtain ⟨ws, hH2, rw2⟩ := (hc2 _ hS2).lst
        have re := ru.append rw2
        have ex : Ext H L (upd H l (.lst (us ++ ws))) L := Ext.write (List.mem_of_getElem? hl) hH rfl
        refine ⟨l, l2, us, ws, rfl, rfl, hH, hH2, by rw [← ru.length, ← rw2.length]; exact z, ?_⟩
        exact h .non _ L [] ⟨e.trans ex, s.write hl hH rfl (.lst re) (fun _ z => nomatch z), .non, Fr.nil _ _⟩
      · rw [if_neg z] at h; exact h.elim
    · exact h.elim
  · exact h.elim
theorem strs_of {H : Hp} {L : List Addr} : ∀ {xs : List D} {ss : List Str} {vs : List V} {F : List Addr}, strsOf xs = some ss → Reps C H L xs vs F → vs = ss.map V.str := by
  intro xs
  induction xs with
  | nil => intro ss vs F h r; cases h; cases r; rfl
  | cons x xs ih =>
    intro ss vs F h r
    cases r with
    | cons rx rs =>
      cases x with
      | str z =>
        cases hq : strsOf xs with
        | none =>
          have h' : (strsOf xs).map (z :: ·) = some ss := h
          rw [hq] at h'; cases h'
        | some ts =>
          have h' : (strsOf xs).map (z :: ·) = some ss := h
          rw [hq] at h'; cases h'
          obtain ⟨rfl, _⟩ := rx.str_inv
          rw [ih hq rs]; rfl
      | _ => cases h
theorem good_join : GoodM C (fun x xs H Q => ∃ a p, ∃ ys : List Str, x = .str a ∧ xs = [.ref p] ∧ (SqL C.K H p (ys.map V.str) ∨ SqT C.K H p (ys.map V.str)) ∧ (ys.map (·.length)).sum + ys.length * a.length ≤ 16777216 ∧ Q (.str (Txt.join a ys)) H) .join := by
  intro H0 L0 H L S x xs v vs F G Q e s rx rs fr h
  unfold bmD at h
  split at h <;> first
    | (rename_i hm; cases hm; done)
    | skip
  · rename_i z y hm
    obtain ⟨rfl, rfl⟩ := rx.str_inv
    obtain ⟨w, rfl, ry⟩ := rs.one
    split at h
    · rename_i ss hss
      by_cases q : (ss.map (·.length)).sum + ss.length * z.length ≤ 16777216
      · rw [if_pos q] at h
        cases hl : lisOf y S with
        | none => rw [hl] at hss; cases hss
        | some ys =>
          rw [hl] at hss
          obtain ⟨a, us, F', rfl, r1, f1, hq⟩ := lis_of s ry hl
          have := strs_of hss r1
          subst this
          exact ⟨z, a, ss, rfl, rfl, .inl hq, q, h _ H L [] ⟨e, s, .str _, Fr.nil _ _⟩⟩
      · rw [if_neg q] at h; exact h.elim
    · exact h.elim
  · exact h.elim
theorem good_index : GoodM C (rIndex C.K) .index := by
  intro H0 L0 H L S x xs v vs F G Q e s rx rs fr h
  unfold bmD at h
  split at h <;> first
    | (rename_i hm; cases hm; done)
    | skip
  · rename_i x0 m0 x1 xs0 y hm
    obtain ⟨w, rfl, ry⟩ := rs.one
    split at h
    · rename_i u us hu hus
      cases hl : lisOf x0 S with
      | none => rw [hl] at hus; cases hus
      | some ys =>
        rw [hl] at hus
        have hus : scalDs ys = some us := hus
        obtain ⟨a, ws, F', rfl, r1, f1, hq⟩ := lis_of s rx hl
        obtain ⟨rfl, fl⟩ := scals_of r1 hus
        have ew := scal_of ry hu
        subst ew
        split at h
        · rename_i j hj
          obtain ⟨hj1, hj2, hj3⟩ := List.findIdx?_eq_some_iff_getElem.mp hj
          refine ⟨a, ws, w, j, ws[j], rfl, rfl, hq, flat_scal hu, fl, List.getElem?_eq_getElem hj1, hj2, fun m z' hm hz => ?_, h _ H L [] ⟨e, s, .int _, Fr.nil _ _⟩⟩
          obtain ⟨hm1, hm2⟩ := List.getElem?_eq_some_iff.mp hz
          have := hj3 m hm
          rw [hm2] at this
          simpa using this
        · exact h.elim
    · exact h.elim
  · exact h.elim
/-! ### dicts -/
theorem isD_of {H : Hp} {L : List Addr} {S : Store} (s : SimS C H L S) {x : D} {v : V} {F : List Addr} (r : Rep C H L x v F) (h : (dctOf x S).isSome = true) : ∃ a, v = .ref a ∧ IsD H a := by
  cases hx : dctOf x S with
  | none => rw [hx] at h; cases h
  | some kvs =>
    obtain ⟨a, vs, G, rfl, ha, _⟩ := dct_of s r hx
    exact ⟨a, rfl, .inl ⟨vs, .inl ha⟩⟩
theorem get_post {H0 H : Hp} {L0 L : List Addr} {S : Store} {kvs : List (D × D)} {vs : List (L2.Key × V)} {G F : List Addr} {q : L2.Key} {z : D} {w : V} {Fz : List Addr} (e : Ext H0 L0 H L) (s : SimS C H L S) (fr : Fr H0 (F ++ Fz) L) (r : RepKs C H L kvs vs G) (sub : G.Sublist F) (rz : Rep C H L z w Fz) : ∃ Z, Post C H0 L0 S ((getKD kvs q).getD z) ((valV vs q).getD w) H L Z := by
  rcases r.get q with ⟨e1, e2⟩ | ⟨d, u, G', e1, e2, r3, e4⟩
  · rw [e1, e2]
    exact ⟨Fz, post_same e s rz fr (List.sublist_append_right _ _)⟩
  · rw [e1, e2]
    exact ⟨G', post_same e s r3 fr ((e4.trans sub).trans (List.sublist_append_left _ _))⟩
theorem m1_ok {name : Str} (hb : attributeBase o name X.env (eval o X.env) = eval o X.env) (hline : (apos.endLine == pos.line) = true) (ns : noStar1 e = true) : M1 X o name apos e pos :=
  ⟨hb, few_ns (by unfold noStar; rw [List.all_cons, ns]; rfl) (Nat.lt_of_lt_of_le (Nat.lt_succ_self 1) (by decide : 2 ≤ 30)), hline, by rw [starEach_ns ns]; rfl⟩
theorem m2_ok {name : Str} {f : Expr} (hb : attributeBase o name X.env (eval o X.env) = eval o X.env) (hline : (apos.endLine == pos.line) = true) (ns : noStar1 e = true) (ns2 : noStar1 f = true) : M2 X o name apos e f pos :=
  ⟨hb, few_ns (by unfold noStar; rw [List.all_cons, List.all_cons, ns, ns2]; rfl) (Nat.lt_of_lt_of_le (Nat.lt_succ_self 2) (by decide : 3 ≤ 30)), hline, by rw [starEach_ns ns, starEach_ns ns2]; rfl⟩
theorem ee_get1 (hu : X.A.units + 64 < cLine) (hb : attributeBase o "get" X.env (eval o X.env) = eval o X.env) (hline : (apos.endLine == pos.line) = true) (ns : noStar1 e = true) (ho : EE C R X E o fo) (ha : EE C R X E e fa) :
    EE C R X E (.Call (.Attribute o "get" apos) [e] [] pos) (fun ρ S => (fo ρ S).bind fun x S1 => if bmTy .get x S1 = true then ((fa ρ S1).bind fun y S2 => (Rs.ok [] S2).bind fun ys S3 => .ok (y :: ys) S3).bind fun xs S2 => bmD .get x xs S2 else .stuck) := by
  obtain ⟨to, po, go⟩ := ho
  obtain ⟨ta, pa, ga⟩ := ha
  refine ⟨_, pe_dget1 (by omega) po pa (m1_ok hb hline ns), fun σ H L ρ S Q s e h => ?_⟩
  refine go.first s e (fun _ _ z => z) h fun x S1 v H1 L1 F1 p1 e1 h1 => ?_
  by_cases q1 : bmTy .get x S1 = true
  · rw [if_pos q1] at h1
    obtain ⟨a, rfl, hd⟩ := isD_of p1.sim p1.rep q1
    refine ⟨a, rfl, hd, ?_⟩
    have h1' : ((fa ρ S1).bind fun y S2 => bmD .get x [y] S2).sat (OkW C H L Q) (ExW C R E H L) := by
      cases hfa : fa ρ S1 with
      | ok y S2 => rw [hfa] at h1; exact h1
      | ex y S2 => rw [hfa] at h1; exact h1
      | stuck => rw [hfa] at h1; exact h1
    refine ga.first p1.sim e1 (fun _ _ z => z.later p1.ext) h1' fun y S2 w H2 L2 F2 p2 e2 h2 => ?_
    obtain ⟨x12, r1, f12⟩ := p1.seq p2
    have h2 : Rs.sat (match dctOf x S2, keyD y with
      | some kvs, some q => .ok ((getKD kvs q).getD .non) S2
      | _, _ => .stuck) (OkW C H L Q) (ExW C R E H L) := h2
    cases hk : dctOf x S2 with
    | none => rw [hk] at h2; exact h2.elim
    | some kvs =>
      cases hq : keyD y with
      | none => rw [hk, hq] at h2; exact h2.elim
      | some q =>
        rw [hk, hq] at h2
        have h2 : OkW C H L Q ((getKD kvs q).getD .non) S2 := h2
        obtain ⟨b, us, G, eb, hb, rk, sub⟩ := dct_of p2.sim r1 hk
        cases eb
        have ek := key_rep p2.rep hq
        subst ek
        obtain ⟨Z, pz⟩ := get_post (q := q) (Fz := []) x12 p2.sim (by rw [List.append_nil]; exact f12.sub (List.sublist_append_left _ _)) rk sub .non
        exact ⟨_, DGet.k hb, h2 _ H2 L2 Z pz⟩
  · rw [if_neg q1] at h1; exact h1.elim
theorem ee_get2 {f : Expr} (hu : X.A.units + 64 < cLine) (hb : attributeBase o "get" X.env (eval o X.env) = eval o X.env) (hline : (apos.endLine == pos.line) = true) (ns : noStar1 e = true) (ns2 : noStar1 f = true) (ho : EE C R X E o fo) (ha : EE C R X E e fa) (hf : EE C R X E f fb) :
    EE C R X E (.Call (.Attribute o "get" apos) [e, f] [] pos) (fun ρ S => (fo ρ S).bind fun x S1 => if bmTy .get x S1 = true then ((fa ρ S1).bind fun y S2 => ((fb ρ S2).bind fun z S3 => (Rs.ok [] S3).bind fun ys S4 => .ok (z :: ys) S4).bind fun ys S3 => .ok (y :: ys) S3).bind fun xs S2 => bmD .get x xs S2 else .stuck) := by
  obtain ⟨to, po, go⟩ := ho
  obtain ⟨ta, pa, ga⟩ := ha
  obtain ⟨tb, pb, gb⟩ := hf
  refine ⟨_, pe_dget2 (by omega) po pa pb (m2_ok hb hline ns ns2), fun σ H L ρ S Q s e h => ?_⟩
  refine go.first s e (fun _ _ z => z) h fun x S1 v H1 L1 F1 p1 e1 h1 => ?_
  by_cases q1 : bmTy .get x S1 = true
  · rw [if_pos q1] at h1
    obtain ⟨a, rfl, hd⟩ := isD_of p1.sim p1.rep q1
    refine ⟨a, rfl, hd, ?_⟩
    have h1' : ((fa ρ S1).bind fun y S2 => (fb ρ S2).bind fun z S3 => bmD .get x [y, z] S3).sat (OkW C H L Q) (ExW C R E H L) := by
      cases hfa : fa ρ S1 with
      | ok y S2 =>
        rw [hfa] at h1
        cases hfb : fb ρ S2 with
        | ok z S3 => simp only [Rs.bind, hfb] at h1 ⊢; exact h1
        | ex z S3 => simp only [Rs.bind, hfb] at h1 ⊢; exact h1
        | stuck => simp only [Rs.bind, hfb] at h1 ⊢; exact h1
      | ex y S2 => rw [hfa] at h1; exact h1
      | stuck => rw [hfa] at h1; exact h1
    refine ga.first p1.sim e1 (fun _ _ z => z.later p1.ext) h1' fun y S2 w H2 L2 F2 p2 e2 h2 => ?_
    obtain ⟨x12, r1, f12⟩ := p1.seq p2
    refine gb.first p2.sim e2 (fun _ _ z => z.later x12) h2 fun z S3 u H3 L3 F3 p3 e3 h3 => ?_
    have h3 : Rs.sat (match dctOf x S3, keyD y with
      | some kvs, some q => .ok ((getKD kvs q).getD z) S3
      | _, _ => .stuck) (OkW C H L Q) (ExW C R E H L) := h3
    cases hk : dctOf x S3 with
    | none => rw [hk] at h3; exact h3.elim
    | some kvs =>
      cases hq : keyD y with
      | none => rw [hk, hq] at h3; exact h3.elim
      | some q =>
        rw [hk, hq] at h3
        have h3 : OkW C H L Q ((getKD kvs q).getD z) S3 := h3
        have o12 : ∀ a ∈ F1, a ∉ L2 := fun a ha => f12.out a (List.mem_append_left _ ha)
        have r13 : Rep C H3 L3 x (.ref a) F1 := r1.car (p3.ext.car o12)
        have f13 : Fr H (F1 ++ F3) L3 := (f12.sub (List.sublist_append_left _ _)).later x12 r1.trk p3.ext p3.fr
        obtain ⟨b, us, G, eb, hb, rk, sub⟩ := dct_of p3.sim r13 hk
        cases eb
        have r2 := p2.rep.car (p3.ext.car p2.fr.out)
        have ek := key_rep r2 hq
        subst ek
        obtain ⟨Z, pz⟩ := get_post (q := q) (x12.trans p3.ext) p3.sim f13 rk sub p3.rep
        exact ⟨_, DGet.k hb, h3 _ H3 L3 Z pz⟩
  · rw [if_neg q1] at h1; exact h1.elim
theorem ee_setdef {f : Expr} (hb : attributeBase o "setdefault" X.env (eval o X.env) = eval o X.env) (hline : (apos.endLine == pos.line) = true) (ns : noStar1 e = true) (ns2 : noStar1 f = true) (ho : EE C R X E o fo) (ha : EE C R X E e fa) (hf : EE C R X E f fb) :
    EE C R X E (.Call (.Attribute o "setdefault" apos) [e, f] [] pos) (fun ρ S => (fo ρ S).bind fun x S1 => if bmTy .setdefault x S1 = true then ((fa ρ S1).bind fun y S2 => ((fb ρ S2).bind fun z S3 => (Rs.ok [] S3).bind fun ys S4 => .ok (z :: ys) S4).bind fun ys S3 => .ok (y :: ys) S3).bind fun xs S2 => bmD .setdefault x xs S2 else .stuck) := by
  obtain ⟨to, po, go⟩ := ho
  obtain ⟨ta, pa, ga⟩ := ha
  obtain ⟨tb, pb, gb⟩ := hf
  refine ⟨_, pe_dsetd po pa pb (m2_ok hb hline ns ns2), fun σ H L ρ S Q s e h => ?_⟩
  refine go.first s e (fun _ _ z => z) h fun x S1 v H1 L1 F1 p1 e1 h1 => ?_
  by_cases q1 : bmTy .setdefault x S1 = true
  · rw [if_pos q1] at h1
    obtain ⟨a, rfl, hd⟩ := isD_of p1.sim p1.rep q1
    refine ⟨a, rfl, hd, ?_⟩
    have h1' : ((fa ρ S1).bind fun y S2 => (fb ρ S2).bind fun z S3 => bmD .setdefault x [y, z] S3).sat (OkW C H L Q) (ExW C R E H L) := by
      cases hfa : fa ρ S1 with
      | ok y S2 =>
        rw [hfa] at h1
        cases hfb : fb ρ S2 with
        | ok z S3 => simp only [Rs.bind, hfb] at h1 ⊢; exact h1
        | ex z S3 => simp only [Rs.bind, hfb] at h1 ⊢; exact h1
        | stuck => simp only [Rs.bind, hfb] at h1 ⊢; exact h1
      | ex y S2 => rw [hfa] at h1; exact h1
      | stuck => rw [hfa] at h1; exact h1
    refine ga.first p1.sim e1 (fun _ _ z => z.later p1.ext) h1' fun y S2 w H2 L2 F2 p2 e2 h2 => ?_
    obtain ⟨x12, r1, f12⟩ := p1.seq p2
    refine gb.first p2.sim e2 (fun _ _ z => z.later x12) h2 fun z S3 u H3 L3 F3 p3 e3 h3 => ?_
    have h4 := sat_noex' h3
    cases x with
    | ref n =>
      have h4 : Rs.sat (match S3[n]?, keyD y with
        | some (.dct kvs), some q => if kvs.length < sizeLine then match getKD kvs q with
          | some v => .ok v S3
          | none => .ok (mat z S3).1 ((mat z S3).2.set n (.dct (putKD y q (mat z S3).1 kvs)))
          else .stuck
        | _, _ => .stuck) (OkW C H L Q) (fun _ _ => False) := h4
      have o12 : ∀ a ∈ F1, a ∉ L2 := fun a ha => f12.out a (List.mem_append_left _ ha)
      obtain ⟨_, l, el, hl, hc⟩ := p3.sim.at (r1.car (p3.ext.car o12))
      have el' : a = l := by injection el
      subst el'
      split at h4
      · rename_i kvs q hS hq
        by_cases lt : kvs.length < sizeLine
        · rw [if_pos lt] at h4
          obtain ⟨vs, hH, rk⟩ := (hc _ hS).dct
          have r2 := p2.rep.car (p3.ext.car p2.fr.out)
          have ek := key_rep r2 hq
          subst ek
          refine ⟨vs, q, hH, rfl, by rw [← rk.length]; exact lt, fun v hv => ?_, fun hn => ?_⟩
          · rcases rk.get q with ⟨e1, e2⟩ | ⟨d, u', G, e1, e2, r3, e4⟩
            · rw [hv] at e2; cases e2
            · rw [hv] at e2
              cases e2
              rw [e1] at h4
              have : G = [] := List.sublist_nil.mp e4
              subst this
              exact h4 v H3 L3 [] ⟨x12.trans p3.ext, p3.sim, r3, Fr.nil _ _⟩
          · rcases rk.get q with ⟨e1, e2⟩ | ⟨d, u', G, e1, e2, r3, e4⟩
            · rw [e1] at h4
              have pz : Post C H L S3 z u H3 L3 F3 := post_later x12 p3
              obtain ⟨M, p4, _⟩ := pz.mat
              have hS4 := mat_get (d := z) hS
              have hl4 : (L3 ++ M)[n]? = some a := by
                rw [List.getElem?_append_left (List.getElem?_eq_some_iff.mp hl).1]; exact hl
              obtain ⟨us, hH4, ru⟩ := (p4.sim.cell n _ a hS4 hl4).dct
              rw [hH] at hH4
              cases hH4
              have ex : Ext H3 (L3 ++ M) (upd H3 a (.dK (putK vs q u))) (L3 ++ M) := Ext.write (List.mem_of_getElem? hl4) hH rfl
              exact h4 u _ (L3 ++ M) [] ⟨p4.ext.trans ex, p4.sim.write hl4 hH rfl (.dct (RepKs.put (key_repK hq) p4.rep ru)) (fun _ z => nomatch z), p4.rep.car ex.car0, Fr.nil _ _⟩
            · rw [hn] at e2; cases e2
        · rw [if_neg lt] at h4; exact h4.elim
      · exact h4.elim
    | _ => exact h4.elim
  · rw [if_neg q1] at h1; exact h1.elim
end
end Nv
/-! Nv: cells dropped at a turn's end, at a def's end. -/
namespace Nv
open PySem PySem.Spec PyProof.Rows L2
mutual
theorem sameD_eq : ∀ (a b : D), sameD a b = true → a = b
  | .non, b, h => by cases b <;> first | rfl | cases h
  | .bl x, b, h => by cases b <;> first | (cases h; done) | (simp [sameD] at h; rw [h])
  | .int x, b, h => by cases b <;> first | (cases h; done) | (simp [sameD] at h; rw [h])
  | .str x, b, h => by cases b <;> first | (cases h; done) | (simp [sameD] at h; rw [h])
  | .ref x, b, h => by cases b <;> first | (cases h; done) | (simp [sameD] at h; rw [h])
  | .tup x, b, h => by cases b <;> first | (cases h; done) | rw [sameDs_eq x _ h]
  | .wtp x, b, h => by cases b <;> first | (cases h; done) | rw [sameDs_eq x _ h]
  | .new x, b, h => by cases b <;> first | (cases h; done) | rw [sameO_eq x _ h]
theorem sameDs_eq : ∀ (a b : List D), sameDs a b = true → a = b
  | [], b, h => by cases b <;> first | rfl | cases h
  | x :: xs, b, h => by
    cases b with
    | nil => cases h
    | cons y ys =>
      have h' : (sameD x y && sameDs xs ys) = true := h
      rw [Bool.and_eq_true] at h'
      rw [sameD_eq x y h'.1, sameDs_eq xs ys h'.2]
theorem sameO_eq : ∀ (a b : O), sameO a b = true → a = b
  | .lst x, b, h => by cases b <;> first | (cases h; done) | rw [sameDs_eq x _ h]
  | .frz x, b, h => by cases b <;> first | (cases h; done) | rw [sameDs_eq x _ h]
  | .dct x, b, h => by cases b <;> first | (cases h; done) | rw [sameKs_eq x _ h]
  | .ins c x, b, h => by
    cases b with
    | ins e y =>
      have h' : (decide (c = e) && sameFs x y) = true := h
      rw [Bool.and_eq_true] at h'
      rw [of_decide_eq_true h'.1, sameFs_eq x y h'.2]
    | _ => cases h
theorem sameKs_eq : ∀ (a b : List (D × D)), sameKs a b = true → a = b
  | [], b, h => by cases b <;> first | rfl | cases h
  | (k, x) :: xs, b, h => by
    cases b with
    | nil => cases h
    | cons y ys =>
      obtain ⟨l, y⟩ := y
      have h' : (sameD k l && sameD x y && sameKs xs ys) = true := h
      rw [Bool.and_eq_true, Bool.and_eq_true] at h'
      rw [sameD_eq k l h'.1.1, sameD_eq x y h'.1.2, sameKs_eq xs ys h'.2]
theorem sameFs_eq : ∀ (a b : List (Nat × D)), sameFs a b = true → a = b
  | [], b, h => by cases b <;> first | rfl | cases h
  | (k, x) :: xs, b, h => by
    cases b with
    | nil => cases h
    | cons y ys =>
      obtain ⟨l, y⟩ := y
      have h' : (decide (k = l) && sameD x y && sameFs xs ys) = true := h
      rw [Bool.and_eq_true, Bool.and_eq_true] at h'
      rw [of_decide_eq_true h'.1.1, sameD_eq x y h'.1.2, sameFs_eq xs ys h'.2]
end
mutual
theorem sameD_refl : ∀ (a : D), sameD a a = true
  | .non => rfl
  | .bl x => by simp [sameD]
  | .int x => by simp [sameD]
  | .str x => by simp [sameD]
  | .ref x => by simp [sameD]
  | .tup x => sameDs_refl x
  | .wtp x => sameDs_refl x
  | .new x => sameO_refl x
theorem sameDs_refl : ∀ (a : List D), sameDs a a = true
  | [] => rfl
  | x :: xs => by show (sameD x x && sameDs xs xs) = true; rw [sameD_refl x, sameDs_refl xs]; rfl
theorem sameO_refl : ∀ (a : O), sameO a a = true
  | .lst x => sameDs_refl x
  | .frz x => sameDs_refl x
  | .dct x => sameKs_refl x
  | .ins c x => by show (decide (c = c) && sameFs x x) = true; rw [sameFs_refl x]; simp
theorem sameKs_refl : ∀ (a : List (D × D)), sameKs a a = true
  | [] => rfl
  | (k, x) :: xs => by show (sameD k k && sameD x x && sameKs xs xs) = true; rw [sameD_refl k, sameD_refl x, sameKs_refl xs]; rfl
theorem sameFs_refl : ∀ (a : List (Nat × D)), sameFs a a = true
  | [] => rfl
  | (k, x) :: xs => by show (decide (k = k) && sameD x x && sameFs xs xs) = true; rw [sameD_refl x, sameFs_refl xs]; simp
end
section
variable {C : Cxt} {H : Hp}
theorem lt_of_get {L : List Addr} {n : Nat} {a : Addr} (h : L[n]? = some a) : n < L.length := (List.getElem?_eq_some_iff.mp h).1
theorem RepK.low {k : D} {q : Key} {n : Nat} (h : RepK k q) : lowD n k = true := by cases h <;> rfl
mutual
theorem Rep.low {L : List Addr} : ∀ {d : D} {v : V} {F : List Addr}, Rep C H L d v F → lowD L.length d = true
  | _, _, _, .non => rfl
  | _, _, _, .bl _ => rfl
  | _, _, _, .int _ => rfl
  | _, _, _, .str _ => rfl
  | _, _, _, .tup _ r => Reps.low r
  | _, _, _, .wtp _ r => Reps.low r
  | _, _, _, .ref h => decide_eq_true (lt_of_get h)
  | _, _, _, .new _ r => RepO.low r
theorem Reps.low {L : List Addr} : ∀ {d : List D} {v : List V} {F : List Addr}, Reps C H L d v F → lowDs L.length d = true
  | _, _, _, .nil => rfl
  | _, _, _, .cons (x := x) (xs := xs) r s => by show (lowD _ x && lowDs _ xs) = true; rw [Rep.low r, Reps.low s]; rfl
theorem RepKs.low {L : List Addr} : ∀ {d : List (D × D)} {v : List (Key × V)} {F : List Addr}, RepKs C H L d v F → lowKs L.length d = true
  | _, _, _, .nil => rfl
  | _, _, _, .cons (k := k) (x := x) (r := xs) q r s => by show (lowD _ k && lowD _ x && lowKs _ xs) = true; rw [q.low, Rep.low r, RepKs.low s]; rfl
theorem RepFs.low {L : List Addr} : ∀ {d : List (Nat × D)} {v : List (Str × V)} {F : List Addr}, RepFs C H L d v F → lowFs L.length d = true
  | _, _, _, .nil => rfl
  | _, _, _, .cons (x := x) (r := xs) r s => by show (lowD _ x && lowFs _ xs) = true; rw [Rep.low r, RepFs.low s]; rfl
theorem RepO.low {L : List Addr} : ∀ {d : O} {v : HO} {F : List Addr}, RepO C H L d v F → lowO L.length d = true
  | _, _, _, .lst r => Reps.low r
  | _, _, _, .dct r => RepKs.low r
  | _, _, _, .ins _ r => RepFs.low r
end
mutual
theorem Rep.shrink {L N : List Addr} : ∀ {d : D} {v : V} {F : List Addr}, Rep C H (L ++ N) d v F → lowD L.length d = true → Rep C H L d v F
  | _, _, _, .non, _ => .non
  | _, _, _, .bl b, _ => .bl b
  | _, _, _, .int i, _ => .int i
  | _, _, _, .str s, _ => .str s
  | _, _, _, .tup h r, q => .tup h (Reps.shrink r q)
  | _, _, _, .wtp h r, q => .wtp h (Reps.shrink r q)
  | _, _, _, .ref h, q => .ref (by rw [List.getElem?_append_left (of_decide_eq_true q)] at h; exact h)
  | _, _, _, .new h r, q => .new h (RepO.shrink r q)
theorem Reps.shrink {L N : List Addr} : ∀ {d : List D} {v : List V} {F : List Addr}, Reps C H (L ++ N) d v F → lowDs L.length d = true → Reps C H L d v F
  | _, _, _, .nil, _ => .nil
  | _, _, _, .cons (x := x) (xs := xs) r s, q => by
    have q' : (lowD L.length x && lowDs L.length xs) = true := q
    rw [Bool.and_eq_true] at q'
    exact .cons (Rep.shrink r q'.1) (Reps.shrink s q'.2)
theorem RepKs.shrink {L N : List Addr} : ∀ {d : List (D × D)} {v : List (Key × V)} {F : List Addr}, RepKs C H (L ++ N) d v F → lowKs L.length d = true → RepKs C H L d v F
  | _, _, _, .nil, _ => .nil
  | _, _, _, .cons (k := k) (x := x) (r := xs) kk r s, q => by
    have q' : (lowD L.length k && lowD L.length x && lowKs L.length xs) = true := q
    rw [Bool.and_eq_true, Bool.and_eq_true] at q'
    exact .cons kk (Rep.shrink r q'.1.2) (RepKs.shrink s q'.2)
theorem RepFs.shrink {L N : List Addr} : ∀ {d : List (Nat × D)} {v : List (Str × V)} {F : List Addr}, RepFs C H (L ++ N) d v F → lowFs L.length d = true → RepFs C H L d v F
  | _, _, _, .nil, _ => .nil
  | _, _, _, .cons (x := x) (r := xs) r s, q => by
    have q' : (lowD L.length x && lowFs L.length xs) = true := q
    rw [Bool.and_eq_true] at q'
    exact .cons (Rep.shrink r q'.1) (RepFs.shrink s q'.2)
theorem RepO.shrink {L N : List Addr} : ∀ {d : O} {v : HO} {F : List Addr}, RepO C H (L ++ N) d v F → lowO L.length d = true → RepO C H L d v F
  | _, _, _, .lst r, q => .lst (Reps.shrink r q)
  | _, _, _, .dct r, q => .dct (RepKs.shrink r q)
  | _, _, _, .ins c r, q => .ins c (RepFs.shrink r q)
end
theorem Cell.low {L : List Addr} {a : Addr} {o : O} (c : Cell C H L a o) : lowO L.length o = true := by
  cases o with
  | frz xs => obtain ⟨ob, vs, e1, e2⟩ := c; exact e2.low
  | lst xs => obtain ⟨ho, e1, e2⟩ := c; exact e2.low
  | dct xs => obtain ⟨ho, e1, e2⟩ := c; exact e2.low
  | ins c' xs => obtain ⟨ho, e1, e2⟩ := c; exact e2.low
theorem Cell.shrink {L N : List Addr} {a : Addr} {o : O} (c : Cell C H (L ++ N) a o) (q : lowO L.length o = true) : Cell C H L a o := by
  cases o with
  | frz xs => obtain ⟨ob, vs, e1, e2⟩ := c; exact ⟨ob, vs, e1, e2.shrink q⟩
  | lst xs => obtain ⟨ho, e1, e2⟩ := c; exact ⟨ho, e1, e2.shrink q⟩
  | dct xs => obtain ⟨ho, e1, e2⟩ := c; exact ⟨ho, e1, e2.shrink q⟩
  | ins c' xs => obtain ⟨ho, e1, e2⟩ := c; exact ⟨ho, e1, e2.shrink q⟩
theorem truncOk_at {n : Nat} : ∀ {S S' : Store} {k : Nat} {o p : O}, truncOk n S S' = true → S[k]? = some o → S'[k]? = some p → o = p ∨ lowO n p = true
  | [], _, k, o, p, _, h, _ => by simp at h
  | _ :: _, [], k, o, p, h, _, _ => by cases h
  | a :: S, b :: S', k, o, p, h, h1, h2 => by
    have h' : ((sameO a b || lowO n b) && truncOk n S S') = true := h
    rw [Bool.and_eq_true, Bool.or_eq_true] at h'
    cases k with
    | zero =>
      simp at h1 h2
      subst h1 h2
      exact h'.1.imp (sameO_eq _ _) id
    | succ k => exact truncOk_at h'.2 (by simpa using h1) (by simpa using h2)
theorem truncOk_len {n : Nat} : ∀ {S S' : Store}, truncOk n S S' = true → S.length ≤ S'.length
  | [], _, _ => Nat.zero_le _
  | _ :: _, [], h => by cases h
  | a :: S, b :: S', h => by
    have h' : ((sameO a b || lowO n b) && truncOk n S S') = true := h
    rw [Bool.and_eq_true] at h'
    exact Nat.succ_le_succ (truncOk_len h'.2)
/-- the cells made since S are dropped -/
theorem trunc_ok {H1 : Hp} {L L' : List Addr} {S S' T : Store} (s1 : SimS C H1 L S) (e : ∃ N, L' = L ++ N) (s2 : SimS C H L' S') (h : trunc S S' = some T) : SimS C H L T ∧ T.length = S.length := by
  unfold trunc at h
  by_cases q : truncOk S.length S S' = true
  · rw [if_pos q] at h
    cases h
    obtain ⟨N, en⟩ := e
    have hl : (S'.take S.length).length = S.length := by rw [List.length_take]; have := truncOk_len q; omega
    refine ⟨⟨by rw [hl, s1.len], s1.nd, fun n p a h1 h2 => ?_⟩, hl⟩
    have hn : n < S.length := by rw [← hl]; exact (List.getElem?_eq_some_iff.mp h1).1
    rw [List.getElem?_take_of_lt hn] at h1
    have c2 := s2.cell n p a h1 (by rw [en, List.getElem?_append_left (lt_of_get h2)]; exact h2)
    have c1 := s1.cell n S[n] a (List.getElem?_eq_getElem hn) h2
    have low : lowO L.length p = true := by
      rcases truncOk_at q (List.getElem?_eq_getElem hn) h1 with z | z
      · rw [← z]; exact c1.low
      · rw [s1.len]; exact z
    rw [en] at c2
    exact c2.shrink low
  · rw [if_neg q] at h; cases h
theorem lowE_at {n : Nat} : ∀ {ρ : AEnv} {i : Nat} {d : D}, lowE n ρ = true → ρ[i]? = some (some d) → lowD n d = true
  | [], i, d, _, h => by simp at h
  | none :: r, 0, d, _, h => by simp at h
  | some x :: r, 0, d, q, h => by
    have q' : (lowD n x && lowE n r) = true := q
    rw [Bool.and_eq_true] at q'
    simp at h; subst h; exact q'.1
  | none :: r, i + 1, d, q, h => lowE_at (ρ := r) (i := i) q (by simpa using h)
  | some x :: r, i + 1, d, q, h => by
    have q' : (lowD n x && lowE n r) = true := q
    rw [Bool.and_eq_true] at q'
    exact lowE_at (ρ := r) (i := i) q'.2 (by simpa using h)
theorem SimE.drop {L N : List Addr} {ρ : AEnv} {σ : L2.St} (e : SimE C H (L ++ N) ρ σ) (q : lowE L.length ρ = true) : SimE C H L ρ σ :=
  ⟨e.1, fun i d h => by
    obtain ⟨v, h1, h2⟩ := e.2 i d h
    exact ⟨v, h1, h2.shrink (lowE_at q h)⟩⟩
theorem wipeD_len (ρ : AEnv) : ∀ ks, (wipeD ρ ks).length = ρ.length
  | [] => rfl
  | k :: ks => by show ((wipeD ρ ks).set k none).length = _; rw [List.length_set, wipeD_len ρ ks]
theorem wipeD_at (ρ : AEnv) : ∀ (ks : List Nat) (i : Nat) (d : D), (wipeD ρ ks)[i]? = some (some d) → ρ[i]? = some (some d)
  | [], i, d, h => h
  | k :: ks, i, d, h => by
    have h' : ((wipeD ρ ks).set k none)[i]? = some (some d) := h
    rw [List.getElem?_set] at h'
    by_cases q : k = i
    · rw [if_pos q] at h'
      split at h' <;> cases h'
    · rw [if_neg q] at h'; exact wipeD_at ρ ks i d h'
theorem SimE.wipe {L : List Addr} {ρ : AEnv} {σ : L2.St} (e : SimE C H L ρ σ) (ks : List Nat) : SimE C H L (wipeD ρ ks) σ :=
  ⟨by rw [wipeD_len]; exact e.1, fun i d h => e.2 i d (wipeD_at ρ ks i d h)⟩
theorem Ext.drop {H1 : Hp} {L L' : List Addr} (e : Ext H1 L H L') : Ext H1 L H L := ⟨⟨[], by simp, by simp⟩, e.frame, e.tups, e.frzs, e.dom⟩
/-! ### a result's cells -/
theorem Perm.swap4 {α : Type} (a b c d : List α) : ((a ++ b) ++ (c ++ d)).Perm ((a ++ c) ++ (b ++ d)) := by
  rw [List.append_assoc, List.append_assoc]
  refine List.Perm.append_left a ?_
  rw [← List.append_assoc, ← List.append_assoc]
  exact List.Perm.append_right d List.perm_append_comm
def adrs (L : List Addr) (us : List Nat) : List Addr := us.map fun u => L.getD u 0
/-- what reify gives -/
def ReifyOk (C : Cxt) (H : Hp) (L' : List Addr) (n : Nat) (f : D → Option (D × List Nat)) : Prop := ∀ (d : D) (v : V) (F : List Addr) (r : D × List Nat), Rep C H L' d v F → f d = some r → ∃ G, Rep C H (L'.take n) r.1 v G ∧ G.Perm (F ++ adrs L' r.2) ∧ ∀ u ∈ r.2, n ≤ u ∧ u < L'.length
theorem mapU_ok {L' : List Addr} {n : Nat} {f : D → Option (D × List Nat)} (hf : ReifyOk C H L' n f) : ∀ (d : List D) (v : List V) (F : List Addr) (r : List D × List Nat), Reps C H L' d v F → mapU f d = some r → ∃ G, Reps C H (L'.take n) r.1 v G ∧ G.Perm (F ++ adrs L' r.2) ∧ ∀ u ∈ r.2, n ≤ u ∧ u < L'.length
  | [], _, _, r, .nil, h => by cases h; exact ⟨[], .nil, .refl _, by simp⟩
  | x :: xs, _, _, r, .cons rx rs, h => by
    cases h1 : f x with
    | none => simp only [mapU, h1] at h; cases h
    | some p =>
      cases h2 : mapU f xs with
      | none => simp only [mapU, h1, h2] at h; cases h
      | some q =>
        simp only [mapU, h1, h2] at h
        cases h
        obtain ⟨G1, a1, a2, a3⟩ := hf x _ _ p rx h1
        obtain ⟨G2, b1, b2, b3⟩ := mapU_ok hf xs _ _ q rs h2
        refine ⟨G1 ++ G2, .cons a1 b1, ?_, fun u hu => (List.mem_append.mp hu).elim (a3 u) (b3 u)⟩
        have e : adrs L' (p.2 ++ q.2) = adrs L' p.2 ++ adrs L' q.2 := List.map_append
        show (G1 ++ G2).Perm (_ ++ adrs L' (p.2 ++ q.2))
        rw [e]
        exact (a2.append b2).trans (Perm.swap4 _ _ _ _)
theorem mapUK_ok {L' : List Addr} {n : Nat} {f : D → Option (D × List Nat)} (hf : ReifyOk C H L' n f) : ∀ (d : List (D × D)) (v : List (Key × V)) (F : List Addr) (r : List (D × D) × List Nat), RepKs C H L' d v F → mapUK f d = some r → ∃ G, RepKs C H (L'.take n) r.1 v G ∧ G.Perm (F ++ adrs L' r.2) ∧ ∀ u ∈ r.2, n ≤ u ∧ u < L'.length
  | [], _, _, r, .nil, h => by cases h; exact ⟨[], .nil, .refl _, by simp⟩
  | (k, x) :: xs, _, _, r, .cons kk rx rs, h => by
    cases h1 : f x with
    | none => simp only [mapUK, h1] at h; cases h
    | some p =>
      cases h2 : mapUK f xs with
      | none => simp only [mapUK, h1, h2] at h; cases h
      | some q =>
        simp only [mapUK, h1, h2] at h
        cases h
        obtain ⟨G1, a1, a2, a3⟩ := hf x _ _ p rx h1
        obtain ⟨G2, b1, b2, b3⟩ := mapUK_ok hf xs _ _ q rs h2
        refine ⟨G1 ++ G2, .cons kk a1 b1, ?_, fun u hu => (List.mem_append.mp hu).elim (a3 u) (b3 u)⟩
        have e : adrs L' (p.2 ++ q.2) = adrs L' p.2 ++ adrs L' q.2 := List.map_append
        show (G1 ++ G2).Perm (_ ++ adrs L' (p.2 ++ q.2))
        rw [e]
        exact (a2.append b2).trans (Perm.swap4 _ _ _ _)
theorem mapUF_ok {L' : List Addr} {n : Nat} {f : D → Option (D × List Nat)} (hf : ReifyOk C H L' n f) : ∀ (d : List (Nat × D)) (v : List (Str × V)) (F : List Addr) (r : List (Nat × D) × List Nat), RepFs C H L' d v F → mapUF f d = some r → ∃ G, RepFs C H (L'.take n) r.1 v G ∧ G.Perm (F ++ adrs L' r.2) ∧ ∀ u ∈ r.2, n ≤ u ∧ u < L'.length
  | [], _, _, r, .nil, h => by cases h; exact ⟨[], .nil, .refl _, by simp⟩
  | (k, x) :: xs, _, _, r, .cons rx rs, h => by
    cases h1 : f x with
    | none => simp only [mapUF, h1] at h; cases h
    | some p =>
      cases h2 : mapUF f xs with
      | none => simp only [mapUF, h1, h2] at h; cases h
      | some q =>
        simp only [mapUF, h1, h2] at h
        cases h
        obtain ⟨G1, a1, a2, a3⟩ := hf x _ _ p rx h1
        obtain ⟨G2, b1, b2, b3⟩ := mapUF_ok hf xs _ _ q rs h2
        refine ⟨G1 ++ G2, .cons a1 b1, ?_, fun u hu => (List.mem_append.mp hu).elim (a3 u) (b3 u)⟩
        have e : adrs L' (p.2 ++ q.2) = adrs L' p.2 ++ adrs L' q.2 := List.map_append
        show (G1 ++ G2).Perm (_ ++ adrs L' (p.2 ++ q.2))
        rw [e]
        exact (a2.append b2).trans (Perm.swap4 _ _ _ _)
theorem reifyO_ok {L' : List Addr} {n : Nat} {f : D → Option (D × List Nat)} (hf : ReifyOk C H L' n f) (d : O) (v : HO) (F : List Addr) (r : O × List Nat) (h : RepO C H L' d v F) (e : reifyO f d = some r) : ∃ G, RepO C H (L'.take n) r.1 v G ∧ G.Perm (F ++ adrs L' r.2) ∧ ∀ u ∈ r.2, n ≤ u ∧ u < L'.length := by
  cases h with
  | lst rs =>
    rename_i xs vs
    cases q : mapU f xs with
    | none => simp only [reifyO, q] at e; cases e
    | some p =>
      simp only [reifyO, q] at e; cases e
      obtain ⟨G, a, b, c⟩ := mapU_ok hf _ _ _ p rs q
      exact ⟨G, .lst a, b, c⟩
  | dct rs =>
    rename_i xs vs
    cases q : mapUK f xs with
    | none => simp only [reifyO, q] at e; cases e
    | some p =>
      simp only [reifyO, q] at e; cases e
      obtain ⟨G, a, b, c⟩ := mapUK_ok hf _ _ _ p rs q
      exact ⟨G, .dct a, b, c⟩
  | ins hc rs =>
    rename_i c0 dx xs vs
    cases q : mapUF f xs with
    | none => simp only [reifyO, q] at e; cases e
    | some p =>
      simp only [reifyO, q] at e; cases e
      obtain ⟨G, a, b, c⟩ := mapUF_ok hf _ _ _ p rs q
      exact ⟨G, .ins hc a, b, c⟩
mutual
theorem data_low {n : Nat} : ∀ (d : D), isData d = true → lowD n d = true
  | .non, _ => rfl
  | .bl _, _ => rfl
  | .int _, _ => rfl
  | .str _, _ => rfl
  | .ref _, h => by cases h
  | .new _, h => by cases h
  | .tup xs, h => datas_low xs h
  | .wtp xs, h => datas_low xs h
theorem datas_low {n : Nat} : ∀ (d : List D), areData d = true → lowDs n d = true
  | [], _ => rfl
  | x :: xs, h => by
    have h' : (isData x && areData xs) = true := h
    rw [Bool.and_eq_true] at h'
    show (lowD n x && lowDs n xs) = true
    rw [data_low x h'.1, datas_low xs h'.2]; rfl
end
theorem reify_ok {L' : List Addr} {S' : Store} (s : SimS C H L' S') {n : Nat} : ∀ k, ReifyOk C H L' n (reify S' n k)
  | 0, d, v, F, r, _, h => by cases h
  | k + 1, .non, v, F, r, h0, h => by cases h; cases h0; exact ⟨[], .non, .refl _, by simp⟩
  | k + 1, .bl b, v, F, r, h0, h => by cases h; cases h0; exact ⟨[], .bl b, .refl _, by simp⟩
  | k + 1, .int i, v, F, r, h0, h => by cases h; cases h0; exact ⟨[], .int i, .refl _, by simp⟩
  | k + 1, .str z, v, F, r, h0, h => by cases h; cases h0; exact ⟨[], .str z, .refl _, by simp⟩
  | k + 1, .tup xs, v, F, r, h0, h => by
    by_cases hd : areData xs = true
    · have e : reify S' n (k + 1) (.tup xs) = some (.tup xs, []) := if_pos hd
      rw [e] at h
      cases h
      have eF := data_fp (.tup xs) hd h0
      subst eF
      exact ⟨[], Rep.shrink (L := L'.take n) (N := L'.drop n) (by rw [List.take_append_drop]; exact h0) (data_low (.tup xs) hd), .refl _, by simp⟩
    · obtain ⟨a, vs, rfl, ht, rs⟩ := h0.tup_inv
      have e : reify S' n (k + 1) (.tup xs) = (mapU (reify S' n k) xs).map fun r => (.tup r.1, r.2) := if_neg hd
      rw [e] at h
      cases q : mapU (reify S' n k) xs with
      | none => rw [q] at h; cases h
      | some p =>
        rw [q] at h; cases h
        obtain ⟨G, a1, b, c⟩ := mapU_ok (reify_ok s k) _ _ _ p rs q
        exact ⟨G, .tup ht a1, b, c⟩
  | k + 1, .wtp xs, v, F, r, h0, h => by
    by_cases hd : areData xs = true
    · have e : reify S' n (k + 1) (.wtp xs) = some (.wtp xs, []) := if_pos hd
      rw [e] at h
      cases h
      have eF := data_fp (.wtp xs) hd h0
      subst eF
      exact ⟨[], Rep.shrink (L := L'.take n) (N := L'.drop n) (by rw [List.take_append_drop]; exact h0) (data_low (.wtp xs) hd), .refl _, by simp⟩
    · obtain ⟨a, vs, rfl, ht, rs⟩ := h0.wtp_inv
      have e : reify S' n (k + 1) (.wtp xs) = (mapU (reify S' n k) xs).map fun r => (.wtp r.1, r.2) := if_neg hd
      rw [e] at h
      cases q : mapU (reify S' n k) xs with
      | none => rw [q] at h; cases h
      | some p =>
        rw [q] at h; cases h
        obtain ⟨G, a1, b, c⟩ := mapU_ok (reify_ok s k) _ _ _ p rs q
        exact ⟨G, .wtp ht a1, b, c⟩
  | k + 1, .new o, v, F, r, h0, h => by
    cases h0 with
    | new ha ro =>
      cases q : reifyO (reify S' n k) o with
      | none => simp only [reify, q] at h; cases h
      | some p =>
        simp only [reify, q] at h; cases h
        obtain ⟨G, a1, b, c⟩ := reifyO_ok (reify_ok s k) _ _ _ p ro q
        exact ⟨_ :: G, .new ha a1, b.cons _, c⟩
  | k + 1, .ref m, v, F, r, h0, h => by
    cases h0 with
    | ref hl =>
      rename_i a
      by_cases q : m < n
      · simp only [reify, if_pos q] at h
        cases h
        exact ⟨[], .ref (by rw [List.getElem?_take_of_lt q]; exact hl), .refl _, by simp⟩
      · simp only [reify, if_neg q] at h
        cases ho : S'[m]? with
        | none => simp only [ho] at h; cases h
        | some o =>
          simp only [ho] at h
          cases q2 : reifyO (reify S' n k) o with
          | none => simp only [q2] at h; cases h
          | some p =>
            simp only [q2] at h
            cases h
            have c := s.cell m o a ho hl
            have mk : ∀ ho', H a = some ho' → RepO C H L' o ho' [] → ∃ G, Rep C H (L'.take n) (.new p.1) (.ref a) G ∧ G.Perm ([] ++ adrs L' (m :: p.2)) ∧ ∀ u ∈ m :: p.2, n ≤ u ∧ u < L'.length := fun ho' ha ro => by
              obtain ⟨G, a1, b, c⟩ := reifyO_ok (reify_ok s k) _ _ _ p ro q2
              refine ⟨a :: G, .new ha a1, ?_, fun u hu => ?_⟩
              · have e : adrs L' (m :: p.2) = a :: adrs L' p.2 := by
                  show L'.getD m 0 :: adrs L' p.2 = _
                  rw [List.getD_eq_getElem?_getD, hl]; rfl
                rw [List.nil_append, e]
                rw [List.nil_append] at b
                exact b.cons a
              · rcases List.mem_cons.mp hu with z | z
                · rw [z]; exact ⟨by omega, lt_of_get hl⟩
                · exact c u z
            cases o with
            | frz xs => cases q2
            | lst xs => obtain ⟨ho', e1, e2⟩ := c; exact mk ho' e1 e2
            | dct xs => obtain ⟨ho', e1, e2⟩ := c; exact mk ho' e1 e2
            | ins c' xs => obtain ⟨ho', e1, e2⟩ := c; exact mk ho' e1 e2
end
end Nv
/-! Nv: loops. -/
namespace Nv
open PySem PySem.Spec PyProof.Rows L2
section
variable {C : Cxt} {R : XR} {X : Cx} {E : XK} {pos p0 apos : Pos} {a b c e o iter : Expr} {es : List Expr} {fo fa fb fc : AEnv → Store → Rs D} {f1 f2 : AEnv → Store → Rs (Fl × AEnv)} {st : Stmt} {rest sa sb : List Stmt}
/-! ### while -/
theorem es_wh {fc : AEnv → Store → Rs D} (hp : PassesOwn (model X.prog X.w) X.A X.env X.xe) (hc : ET C R X E c fc) (hb : ESs C R X E sb f1) (n : Nat) : ES C R X E (.While c sb [] pos) (fun ρ S => whF (truF fc) f1 n ρ S) := by
  obtain ⟨tc, pc, gc⟩ := hc
  obtain ⟨tb, pb, gb⟩ := hb
  refine ⟨_, ps_while hp pc pb, fun σ H L ρ S Z s e h => ?_⟩
  refine ⟨fun m σ' H' => ∃ L' ρ' S', Ext H L H' L' ∧ SimS C H' L' S' ∧ SimE C H' L' ρ' σ' ∧ (whF (truF fc) f1 m ρ' S').sat (OkS C H L Z) (ExW C R E H L), ⟨n, L, ρ, S, Ext.refl _ _, s, e, h⟩, ?_⟩
  rintro m σ1 H1 ⟨L1, ρ1, S1, x1, s1, e1, h1⟩
  cases m with
  | zero => exact h1.elim
  | succ m =>
    have h2 : ((truF fc ρ1 S1).bind fun b S2 => match b with
    | true => (f1 ρ1 S2).bind fun r S3 => match r.1 with
      | .nx => whF (truF fc) f1 m r.2 S3
      | .ct => whF (truF fc) f1 m r.2 S3
      | .bk => .ok (.nx, r.2) S3
      | .rt d => .ok (.rt d, r.2) S3
    | false => .ok (.nx, ρ1) S2).sat (OkS C H L Z) (ExW C R E H L) := h1
    refine gc.first s1 e1 (fun _ _ z => z.later x1) h2 fun k S2 H2 L2 x2 s2 e2 h3 => ?_
    cases k with
    | false =>
      rw [if_neg Bool.false_ne_true]
      exact h3 σ1 H2 L2 (x1.trans x2) s2 e2
    | true =>
      rw [if_pos rfl]
      refine ⟨fun σ' H' => ∃ L' ρ' S', Ext H L H' L' ∧ SimS C H' L' S' ∧ SimE C H' L' ρ' σ' ∧ (whF (truF fc) f1 m ρ' S').sat (OkS C H L Z) (ExW C R E H L), fun σ' H' z => ⟨m, Nat.lt_succ_self m, z⟩, ?_⟩
      have h4 := sat_bind h3
      refine gb σ1 H2 L2 ρ1 S2 _ s2 e2 (sat_mono h4 (fun r S3 z => ?_) fun _ _ z => z.later (x1.trans x2))
      obtain ⟨fl, ρ3⟩ := r
      cases fl with
      | nx => exact fun σ' H' L' x' s' e' => ⟨L', ρ3, S3, (x1.trans x2).trans x', s', e', z⟩
      | ct => exact fun σ' H' L' x' s' e' => ⟨L', ρ3, S3, (x1.trans x2).trans x', s', e', z⟩
      | bk => exact fun σ' H' L' x' s' e' => z σ' H' L' ((x1.trans x2).trans x') s' e'
      | rt d => exact fun v H' L' F p => z v H' L' F (post_later (x1.trans x2) p)
/-! ### what is walked -/
structure WalkI (C : Cxt) (J : L2.It) (items : List D) (gu : List (Nat × List D)) (Wk : Nat → Hp → List Addr → List Addr → Prop) : Prop where
  car : ∀ i H L H' L' F, Wk i H L F → Car H L H' L' F → Wk i H' L' F
  trk : ∀ i H L F, Wk i H L F → ∀ a ∈ F, ∃ o, H a = some o
  go : ∀ i H L S F d, Wk i H L F → SimS C H L S → guardOk gu S = true → F.Nodup → (∀ a ∈ F, a ∉ L) → items[i]? = some d → J.go i H ∧
    ∀ x H', J.yld i H x H' → ∃ G F', Ext H L H' L ∧ SimS C H' L S ∧ Rep C H' L d x G ∧ Wk (i + 1) H' L F' ∧ (G ++ F').Nodup ∧ ∀ a ∈ G ++ F', a ∈ F
  stop : ∀ i H L S F, Wk i H L F → SimS C H L S → guardOk gu S = true → items.length ≤ i → J.stop i H
def OkI (C : Cxt) (H : Hp) (L : List Addr) (Rq : L2.It → Hp → Prop) (r : List D × List (Nat × List D)) (S' : Store) : Prop :=
  ∀ J Wk H' L' F, Ext H L H' L' → SimS C H' L' S' → Fr H F L' → WalkI C J r.1 r.2 Wk → Wk 0 H' L' F → Rq J H'
def EI (C : Cxt) (R : XR) (X : Cx) (E : XK) (tg it : Expr) (f : AEnv → Store → Rs (List D × List (Nat × List D))) : Prop :=
  ∃ wi, PI X tg it wi ∧ ∀ (σ : L2.St) (H : Hp) (L : List Addr) (ρ : AEnv) (S : Store) (Rq : L2.It → Hp → Prop), SimS C H L S → SimE C H L ρ σ → (f ρ S).sat (OkI C H L Rq) (ExW C R E H L) → wi σ H Rq
theorem PI.or {tg it : Expr} {w1 w2 : TI} (h1 : PI X tg it w1) (h2 : PI X tg it w2) : PI X tg it (fun σ H Rq => w1 σ H Rq ∨ w2 σ H Rq) :=
  ⟨fun pins s σ H Rq I h => h.elim (h1.run pins s σ H Rq I) (h2.run pins s σ H Rq I)⟩
/-! ### for -/
theorem es_for {g : G} {sl : List Nat} {tg : Expr} {fi : AEnv → Store → Rs (List D × List (Nat × List D))} (gc : Option (List Nat)) (hp : PassesOwn (model X.prog X.w) X.A X.env X.xe) (hc : X.calm = true) (hi : EI C R X E tg iter fi) (hg : EG C X tg sl (evalG g)) (hb : ESs C R X E sb f1) (hs : ∀ x, foldedSetIterable iter X.env x = pure x) :
    ES C R X E (.For tg iter sb [] pos) (fun ρ S => (fi ρ S).bind fun r S1 => forF r.2 gc (evalG g) f1 r.1 ρ S1) := by
  obtain ⟨wi, pi, gi⟩ := hi
  obtain ⟨tG, pg, gg⟩ := hg
  obtain ⟨tb, pb, gb⟩ := hb
  refine ⟨_, ps_for hp hc pi pg pb hs, fun σ H L ρ S Z s e h => ?_⟩
  have h0 := sat_bind h
  refine gi σ H L ρ S _ s e (sat_mono h0 (fun r S1 h1 J Wk H1 L1 F1 x1 s1 f1' wk w0 => ?_) fun _ _ z => z)
  obtain ⟨items, gu⟩ := r
  let Inv' : Nat → Nat → L2.St → Hp → Prop := fun i m σ' H' => m + i = items.length ∧ ∃ L' ρ' S' F', Ext H L H' L' ∧ SimS C H' L' S' ∧ SimE C H' L' ρ' σ' ∧ Wk i H' L' F' ∧ F'.Nodup ∧ (∀ a ∈ F', a ∉ L') ∧ (∀ a ∈ F', H a = none) ∧
    (forF gu gc (evalG g) f1 (items.drop i) ρ' S').sat (OkS C H L Z) (ExW C R E H L)
  refine ⟨Inv', ⟨items.length, rfl, L1, ρ, S1, F1, x1, s1, e.ext x1, w0, f1'.nd, f1'.out, f1'.new, h1⟩, ?_⟩
  rintro i m σ2 H2 ⟨hm, L2', ρ2, S2, F2, x2, s2, e2, wk2, nd2, ou2, nw2, h2⟩
  have gd : guardOk gu S2 = true := by
    cases hq : guardOk gu S2 with
    | true => rfl
    | false =>
      cases hd : items.drop i with
      | nil => rw [hd] at h2; simp only [forF, hq] at h2; exact h2.elim
      | cons d ds => rw [hd] at h2; simp only [forF, hq] at h2; exact h2.elim
  cases hd : items.drop i with
  | nil =>
    rw [hd] at h2
    simp only [forF, gd, if_true] at h2
    have hlen : items.length ≤ i := by
      have := congrArg List.length hd
      simp at this; omega
    exact .inl ⟨wk.stop i H2 L2' S2 F2 wk2 s2 gd hlen, h2 σ2 H2 L2' x2 s2 e2⟩
  | cons d ds =>
    rw [hd] at h2
    simp only [forF, gd, if_true] at h2
    have hi : items[i]? = some d := by
      have : (items.drop i)[0]? = some d := by rw [hd]; rfl
      rwa [List.getElem?_drop, Nat.add_zero] at this
    have hds : ds = items.drop (i + 1) := by
      have : (items.drop i).drop 1 = ds := by rw [hd]; rfl
      rw [← this, List.drop_drop]
    have hlt : i < items.length := (List.getElem?_eq_some_iff.mp hi).1
    obtain ⟨go, yl⟩ := wk.go i H2 L2' S2 F2 d wk2 s2 gd nd2 ou2 hi
    refine .inr ⟨go, fun σ' H' => Inv' (i + 1) (m - 1) σ' H', fun σ' H' z => ⟨m - 1, by omega, z⟩, fun x H3 hy => ?_⟩
    obtain ⟨G, F3, x3, s3, r3, wk3, ndGF, sub⟩ := yl x H3 hy
    have subG : G ⊆ F2 := fun a ha => sub a (List.mem_append_left _ ha)
    have subF : F3 ⊆ F2 := fun a ha => sub a (List.mem_append_right _ ha)
    have ndF3 : F3.Nodup := (List.nodup_append.mp ndGF).2.1
    have ndGF' := List.nodup_append.mp ndGF
    have h3 := sat_bind h2
    refine gg H3 L2' S2 ρ2 σ2 d x G _ s3 (e2.ext x3) r3 ndGF'.1 (fun a ha => ou2 a (subG ha)) ?_
    cases hq : evalG g d ρ2 S2 with
    | ex y S' => exact absurd hq (evalG_noex _ _ _ _ _ _)
    | stuck => rw [hq] at h3; exact h3.elim
    | ok ρ3 S3 =>
      rw [hq] at h3
      have h3' : ((f1 ρ3 S3).bind fun r S4 => match r.1 with
      | .nx => (turnEnd gc S2 r.2 S4).bind fun ρ3 S3 => forF gu gc (evalG g) f1 ds ρ3 S3
      | .ct => (turnEnd gc S2 r.2 S4).bind fun ρ3 S3 => forF gu gc (evalG g) f1 ds ρ3 S3
      | .bk => .ok (.nx, r.2) S4
      | .rt d => .ok (.rt d, r.2) S4).sat (OkS C H L Z) (ExW C R E H L) := h3
      intro σ3 M s4 e4 hM wip
      have x23 : Ext H L H3 L2' := x2.trans x3
      have x4 : Ext H L H3 (L2' ++ M) := by
        obtain ⟨N, en, nn⟩ := x23.pre
        refine ⟨⟨N ++ M, by rw [en, List.append_assoc], fun a ha => ?_⟩, x23.frame, x23.tups, x23.frzs, x23.dom⟩
        rcases List.mem_append.mp ha with q | q
        · exact nn a q
        · exact nw2 a (subG (hM a q))
      have h4 := sat_bind h3'
      -- a turn that goes on
      have next : ∀ (ρ4 : AEnv) (S4 : Store), ((turnEnd gc S2 ρ4 S4).bind fun ρ3 S3 => forF gu gc (evalG g) f1 ds ρ3 S3).sat (OkS C H L Z) (ExW C R E H L) → ∀ σ' H' L', Ext H3 (L2' ++ M) H' L' → SimS C H' L' S4 → SimE C H' L' ρ4 σ' → Inv' (i + 1) (m - 1) σ' H' := by
        intro ρ4 S4 h5 σ' H' L' x5 s5 e5
        have outM : ∀ a ∈ F3, a ∉ L2' ++ M := fun a ha hm => by
          rcases List.mem_append.mp hm with q | q
          · exact ou2 a (subF ha) q
          · exact ndGF'.2.2 a (hM a q) a ha rfl
        have carF : Car H3 (L2' ++ M) H' L' F3 := x5.car outM
        have wk5 : Wk (i + 1) H' L' F3 := wk.car _ _ _ _ _ _ wk3 ⟨carF.tups, carF.frzs, fun n a hn => carF.pre n a (by rw [List.getElem?_append_left (lt_of_get hn)]; exact hn), carF.keep⟩
        have out5 : ∀ a ∈ F3, a ∉ L' := fun a ha => by
          obtain ⟨o, ho⟩ := wk.trk _ _ _ _ wk3 a ha
          exact x5.out ho (outM a ha)
        have h6 := sat_bind h5
        refine ⟨by omega, ?_⟩
        cases gc with
        | none => exact ⟨L', ρ4, S4, F3, x4.trans x5, s5, e5, wk5, ndF3, out5, fun a ha => nw2 a (subF ha), by rw [← hds]; exact h6⟩
        | some ks =>
          have h6' : (turnEnd (some ks) S2 ρ4 S4).sat (fun a S => (forF gu (some ks) (evalG g) f1 ds a S).sat (OkS C H L Z) (ExW C R E H L)) (ExW C R E H L) := h6
          unfold turnEnd at h6'
          by_cases q1 : lowE S2.length (wipeD ρ4 ks) = true
          · simp only [if_pos q1] at h6'
            cases ht : trunc S2 S4 with
            | none => simp only [ht] at h6'; exact h6'.elim
            | some T =>
              simp only [ht] at h6'
              obtain ⟨N, en, nn⟩ := x5.pre
              have en' : L' = L2' ++ (M ++ N) := by rw [en, List.append_assoc]
              have x25 := x4.trans x5
              have tk := trunc_ok s2 ⟨M ++ N, en'⟩ s5 ht
              have e6 : SimE C H' L2' (wipeD ρ4 ks) σ' := by
                rw [en'] at e5
                exact (e5.wipe ks).drop (by rw [s2.len]; exact q1)
              exact ⟨L2', wipeD ρ4 ks, T, F3, ⟨x2.pre, x25.frame, x25.tups, x25.frzs, x25.dom⟩, tk.1, e6, wk.car _ _ _ _ _ _ wk3 ⟨carF.tups, carF.frzs, fun n a hn => hn, carF.keep⟩, ndF3, fun a ha => ou2 a (subF ha), fun a ha => nw2 a (subF ha), by rw [← hds]; exact h6'⟩
          · simp only [if_neg q1] at h6'; exact h6'.elim
      refine gb σ3 H3 (L2' ++ M) ρ3 S3 _ s4 e4 (sat_mono h4 (fun r S4 z => ?_) fun _ _ z => z.later x4)
      obtain ⟨fl, ρ4⟩ := r
      cases fl with
      | nx => exact fun σ' H' L' x5 s5 e5 => next ρ4 S4 z σ' H' L' x5 s5 e5
      | ct => exact fun σ' H' L' x5 s5 e5 => next ρ4 S4 z σ' H' L' x5 s5 e5
      | bk => exact fun σ' H' L' x5 s5 e5 => z σ' H' L' (x4.trans x5) s5 e5
      | rt d => exact fun v H' L' F p => z v H' L' F (post_later x4 p)
end
end Nv
/-! Nv: what a loop walks. -/
namespace Nv
open PySem PySem.Spec PyProof.Rows L2
section
variable {C : Cxt} {R : XR} {X : Cx} {E : XK} {pos p0 : Pos} {e tg : Expr} {es : List Expr} {fa : AEnv → Store → Rs D} {fs : AEnv → Store → Rs (List D)}
theorem Reps.step {H : Hp} {L : List Addr} {xs : List D} {vs : List V} {F : List Addr} {i : Nat} {d : D} (r : Reps C H L (xs.drop i) (vs.drop i) F) (h : xs[i]? = some d) :
    ∃ v G F', vs[i]? = some v ∧ Rep C H L d v G ∧ Reps C H L (xs.drop (i + 1)) (vs.drop (i + 1)) F' ∧ F = G ++ F' := by
  have hlt := (List.getElem?_eq_some_iff.mp h).1
  have hx : xs.drop i = d :: xs.drop (i + 1) := by
    rw [List.drop_eq_getElem_cons hlt]
    rw [List.getElem?_eq_getElem hlt] at h
    cases h; rfl
  rw [hx] at r
  generalize hw : vs.drop i = w at r
  cases r with
  | cons r s =>
    rename_i v G vs' F'
    refine ⟨v, G, F', ?_, r, ?_, rfl⟩
    · have : (vs.drop i)[0]? = some v := by rw [hw]; rfl
      rwa [List.getElem?_drop, Nat.add_zero] at this
    · have : vs.drop (i + 1) = vs' := by
        have : (vs.drop i).drop 1 = vs' := by rw [hw]; rfl
        rwa [List.drop_drop] at this
      rw [this]; exact s
/-- a list walked -/
structure LWk (C : Cxt) (a : Addr) (xs : List D) (gu : List (Nat × List D)) (Wk : Nat → Hp → List Addr → List Addr → Prop) : Prop where
  car : ∀ i H L H' L' F, Wk i H L F → Car H L H' L' F → Wk i H' L' F
  trk : ∀ i H L F, Wk i H L F → ∀ a ∈ F, ∃ o, H a = some o
  at_ : ∀ i H L S F, Wk i H L F → SimS C H L S → guardOk gu S = true → ∃ vs, SqL C.K H a vs ∧ xs.length = vs.length ∧
    ∀ d, xs[i]? = some d → ∃ v G F', vs[i]? = some v ∧ Rep C H L d v G ∧ Wk (i + 1) H L F' ∧ (G ++ F').Sublist F
theorem lw_new {a : Addr} {xs : List D} {vs : List V} (hl : xs.length = vs.length) : LWk C a xs [] (fun i H L F => ∃ F0, F = F0 ++ [a] ∧ H a = some (.lst vs) ∧ Reps C H L (xs.drop i) (vs.drop i) F0) where
  car := by
    rintro i H L H' L' F ⟨F0, rfl, h, r⟩ c
    exact ⟨F0, rfl, c.keep a (by simp) _ h, r.car (c.sub fun _ q => List.mem_append_left _ q)⟩
  trk := by
    rintro i H L F ⟨F0, rfl, h, r⟩ b hb
    rcases List.mem_append.mp hb with q | q
    · exact r.trk b q
    · have : b = a := by simpa using q
      subst this; exact ⟨_, h⟩
  at_ := by
    rintro i H L S F ⟨F0, rfl, h, r⟩ s _
    refine ⟨vs, SqL.of h, hl, fun d hd => ?_⟩
    obtain ⟨v, G, F', h1, h2, h3, rfl⟩ := r.step hd
    exact ⟨v, G, F' ++ [a], h1, h2, ⟨F', rfl, h, h3⟩, by rw [List.append_assoc]; exact List.Sublist.refl _⟩
theorem sqL_cell {H : Hp} {L : List Addr} {S : Store} {n : Nat} {a : Addr} {xs : List D} (s : SimS C H L S) (hl : L[n]? = some a) (h : (∃ ys, S[n]? = some (.lst ys) ∧ ys = xs) ∨ (∃ ys, S[n]? = some (.frz ys) ∧ ys = xs)) : ∃ vs, SqL C.K H a vs ∧ Reps C H L xs vs [] := by
  rcases h with ⟨ys, h, rfl⟩ | ⟨ys, h, rfl⟩
  · obtain ⟨vs, e1, e2⟩ := (s.cell n _ a h hl).lst
    exact ⟨vs, SqL.of e1, e2⟩
  · obtain ⟨ob, vs, e1, e2⟩ := s.cell n _ a h hl
    exact ⟨vs, .inl (.inr ⟨ob, e1⟩), e2⟩
theorem guard_at {n : Nat} {xs : List D} {S : Store} (h : guardOk [(n, xs)] S = true) : (∃ ys, S[n]? = some (.lst ys) ∧ ys = xs) ∨ (∃ ys, S[n]? = some (.frz ys) ∧ ys = xs) := by
  have h : (guard1 (n, xs) S && true) = true := h
  rw [Bool.and_true] at h
  unfold guard1 at h
  dsimp only at h
  cases q : S[n]? with
  | none => simp only [q] at h; cases h
  | some o =>
    cases o with
    | lst ys => simp only [q] at h; exact .inl ⟨ys, rfl, (sameDs_eq _ _ h).symm⟩
    | frz ys => simp only [q] at h; exact .inr ⟨ys, rfl, (sameDs_eq _ _ h).symm⟩
    | _ => simp only [q] at h; cases h
theorem lw_ref {a : Addr} {n : Nat} {xs : List D} : LWk C a xs [(n, xs)] (fun i H L F => F = [] ∧ L[n]? = some a) where
  car := by
    rintro i H L H' L' F ⟨rfl, h⟩ c
    exact ⟨rfl, c.pre _ _ h⟩
  trk := by
    rintro i H L F ⟨rfl, h⟩ b hb
    cases hb
  at_ := by
    rintro i H L S F ⟨rfl, h⟩ s g
    obtain ⟨vs, q, r⟩ := sqL_cell s h (guard_at g)
    refine ⟨vs, q, r.length, fun d hd => ?_⟩
    obtain ⟨v, G, h1, h2, h3⟩ := r.at hd
    exact ⟨v, G, [], h1, h2, ⟨rfl, h⟩, by simpa using h3⟩
theorem lw_of {H : Hp} {L : List Addr} {S : Store} {x : D} {v : V} {F : List Addr} {xs : List D} (s : SimS C H L S) (r : Rep C H L x v F) (h : lisOf x S = some xs) :
    ∃ a Wk F0, v = .ref a ∧ LWk C a xs (guardOf x xs) Wk ∧ Wk 0 H L F0 ∧ F0.Perm F ∧ ∃ vs, SqL C.K H a vs := by
  cases r with
  | new ha ro =>
    cases ro with
    | lst rs =>
      cases h
      exact ⟨_, _, _, rfl, lw_new rs.length, ⟨_, rfl, ha, rs⟩, List.perm_append_comm, _, SqL.of ha⟩
    | dct _ => cases h
    | ins _ _ => cases h
  | ref hl =>
    rename_i n a
    simp only [lisOf] at h
    have q : (∃ ys, S[n]? = some (.lst ys) ∧ ys = xs) ∨ (∃ ys, S[n]? = some (.frz ys) ∧ ys = xs) := by
      cases e : S[n]? with
      | none => rw [e] at h; cases h
      | some o =>
        rw [e] at h
        cases o with
        | lst ys => cases h; exact .inl ⟨_, rfl, rfl⟩
        | frz ys => cases h; exact .inr ⟨_, rfl, rfl⟩
        | dct _ => cases h
        | ins _ _ => cases h
    obtain ⟨vs, q1, _⟩ := sqL_cell s hl q
    exact ⟨a, _, [], rfl, lw_ref, ⟨rfl, hl⟩, .refl _, vs, q1⟩
  | _ => cases h
theorem Fr.perm {H : Hp} {F G L : List Addr} (f : Fr H F L) (p : G.Perm F) : Fr H G L := ⟨fun a h => f.new a (p.mem_iff.mp h), p.nodup_iff.mpr f.nd, fun a h => f.out a (p.mem_iff.mp h)⟩
/-! ### plainly -/
theorem LWk.itl {a : Addr} {xs : List D} {gu : List (Nat × List D)} {Wk : Nat → Hp → List Addr → List Addr → Prop} (w : LWk C a xs gu Wk) : WalkI C (Itl C.K a) xs gu Wk where
  car := w.car
  trk := w.trk
  go := fun i H L S F d hw s g nd ou hd => by
    obtain ⟨vs, q, hl, h⟩ := w.at_ i H L S F hw s g
    obtain ⟨v, G, F', h1, h2, h3, h4⟩ := h d hd
    refine ⟨⟨vs, v, q, h1⟩, ?_⟩
    rintro x H' ⟨rfl, y⟩
    have e : v = x := by
      have := y vs q
      rw [h1] at this; exact Option.some.inj this
    subst e
    exact ⟨G, F', Ext.refl _ _, s, h2, h3, nd.sublist h4, fun a ha => h4.subset ha⟩
  stop := fun i H L S F hw s g hi => by
    obtain ⟨vs, q, hl, h⟩ := w.at_ i H L S F hw s g
    exact ⟨vs, q, by omega⟩
theorem walk_tup {a : Addr} {xs : List D} {vs : List V} (hl : xs.length = vs.length) : WalkI C (Itt C.K a) xs [] (fun i H L F => SqT C.K H a vs ∧ Reps C H L (xs.drop i) (vs.drop i) F) where
  car := by
    rintro i H L H' L' F ⟨h, r⟩ c
    exact ⟨SqT.ext c.tups c.frzs h, r.car c⟩
  trk := by
    rintro i H L F ⟨h, r⟩ b hb
    exact r.trk b hb
  go := by
    rintro i H L S F d ⟨h, r⟩ s _ nd _ hd
    obtain ⟨v, G, F', h1, h2, h3, rfl⟩ := r.step hd
    refine ⟨⟨vs, v, h, h1⟩, ?_⟩
    rintro x H' ⟨rfl, y⟩
    have e : v = x := by
      have := y vs h
      rw [h1] at this; exact Option.some.inj this
    subst e
    exact ⟨G, F', Ext.refl _ _, s, h2, ⟨h, h3⟩, nd, fun a ha => ha⟩
  stop := by
    rintro i H L S F ⟨h, r⟩ s _ hi
    exact ⟨vs, h, by omega⟩
theorem lis_of_seq {x : D} {S : Store} (h : ∀ ys, x ≠ .tup ys) : lisOf x S = seqOf x S := by
  cases x with
  | tup ys => exact absurd rfl (h ys)
  | new o => cases o <;> rfl
  | _ => rfl
theorem walk_signs (z : Str) : WalkI C (Its z) (z.cps.toList.map fun c => D.str ⟨#[c]⟩) [] (fun _ _ _ F => F = []) where
  car := fun _ _ _ _ _ _ h _ => h
  trk := by
    rintro i H L F rfl a ha
    cases ha
  go := by
    rintro i H L S F d rfl s _ _ _ hd
    rw [List.getElem?_map] at hd
    cases hc : z.cps.toList[i]? with
    | none => rw [hc] at hd; cases hd
    | some c =>
      rw [hc] at hd
      cases hd
      have hi : i < z.cps.size := by
        have := (List.getElem?_eq_some_iff.mp hc).1
        simpa using this
      have hg : z.cps[i]? = some c := by rw [← Array.getElem?_toList]; exact hc
      refine ⟨hi, ?_⟩
      rintro x H' ⟨rfl, c', hc', rfl⟩
      rw [hg] at hc'
      cases hc'
      exact ⟨[], [], Ext.refl _ _, s, .str _, rfl, by simp, by simp⟩
  stop := by
    rintro i H L S F rfl s _ hi
    have hi' : z.cps.size ≤ i := by simpa using hi
    exact hi'
theorem ei_of (hK : X.K = C.K) (ha : EE C R X E e fa) : EI C R X E tg e (fun ρ S => (fa ρ S).bind fun x S1 => match itemsOf x S1 with
    | some xs => .ok (xs, guardOf x xs) S1
    | none => .stuck) := by
  obtain ⟨ta, pa, ga⟩ := ha
  refine ⟨_, PI.or (PI.or (pi_list pa) (pi_tup pa)) (pi_str pa), fun σ H L ρ S Rq s e h => ?_⟩
  rw [hK]
  dsimp only at h
  cases hq : fa ρ S with
  | stuck => rw [hq] at h; exact h.elim
  | ex y S1 => rw [hq] at h; exact .inl (.inl (ga σ H L ρ S _ s e (by rw [hq]; exact h)))
  | ok x S1 =>
    rw [hq] at h
    have h : Rs.sat (match itemsOf x S1 with
    | some xs => .ok (xs, guardOf x xs) S1
    | none => .stuck) (OkI C H L Rq) (ExW C R E H L) := h
    by_cases hstr : ∃ z, x = .str z
    · obtain ⟨z, rfl⟩ := hstr
      have h : OkI C H L Rq (z.cps.toList.map fun c => D.str ⟨#[c]⟩, []) S1 := h
      refine .inr (ga σ H L ρ S _ s e ?_)
      rw [hq]
      intro v H1 L1 F p1
      obtain ⟨rfl, rfl⟩ := p1.rep.str_inv
      exact ⟨z, rfl, h _ _ H1 L1 [] p1.ext p1.sim (Fr.nil _ _) (walk_signs z) rfl⟩
    have hit : itemsOf x S1 = seqOf x S1 := by
      cases x with
      | str z => exact absurd ⟨z, rfl⟩ hstr
      | _ => rfl
    rw [hit] at h
    left
    cases hs : seqOf x S1 with
    | none => rw [hs] at h; exact h.elim
    | some xs =>
      rw [hs] at h
      have h : OkI C H L Rq (xs, guardOf x xs) S1 := h
      by_cases ht : ∃ ys, x = .tup ys
      · obtain ⟨ys, rfl⟩ := ht
        cases hs
        refine .inr (ga σ H L ρ S _ s e ?_)
        rw [hq]
        intro v H1 L1 F p1
        obtain ⟨a, vs, rfl, ht, rs⟩ := p1.rep.tup_inv
        exact ⟨a, rfl, ⟨vs, ht.sq⟩, h _ _ H1 L1 F p1.ext p1.sim p1.fr (walk_tup rs.length) ⟨ht.sq, rs⟩⟩
      · refine .inl (ga σ H L ρ S _ s e ?_)
        rw [hq]
        intro v H1 L1 F p1
        rw [← lis_of_seq fun ys q => ht ⟨ys, q⟩] at hs
        obtain ⟨a, Wk, F0, rfl, w, w0, pm, sq⟩ := lw_of p1.sim p1.rep hs
        exact ⟨a, rfl, sq, h _ _ H1 L1 F0 p1.ext p1.sim (p1.fr.perm pm) w.itl w0⟩
/-! ### enumerate -/
theorem enumD_at : ∀ {xs : List D} {k i : Nat}, (enumD k xs)[i]? = (xs[i]?).map fun x => D.wtp [.int ((k + i : Nat) : Int), x]
  | [], k, i => by simp [enumD]
  | x :: xs, k, 0 => by simp [enumD]
  | x :: xs, k, i + 1 => by
    show (enumD (k + 1) xs)[i]? = _
    rw [enumD_at, show k + 1 + i = k + (i + 1) by omega]
    simp
theorem enumD_len : ∀ (xs : List D) (k : Nat), (enumD k xs).length = xs.length
  | [], k => rfl
  | x :: xs, k => by show (enumD (k + 1) xs).length + 1 = _; rw [enumD_len]; rfl
theorem LWk.ite {a : Addr} {xs : List D} {gu : List (Nat × List D)} {Wk : Nat → Hp → List Addr → List Addr → Prop} (w : LWk C a xs gu Wk) : WalkI C (Ite C.K a) (enumD 0 xs) gu Wk where
  car := w.car
  trk := w.trk
  go := fun i H L S F d hw s g nd ou hd => by
    obtain ⟨vs, q, hl, h⟩ := w.at_ i H L S F hw s g
    rw [enumD_at, Nat.zero_add] at hd
    cases hx : xs[i]? with
    | none => rw [hx] at hd; cases hd
    | some x0 =>
      rw [hx] at hd
      cases hd
      obtain ⟨v, G, F', h1, h2, h3, h4⟩ := h x0 hx
      refine ⟨⟨vs, v, q, h1⟩, ?_⟩
      rintro x H' ⟨T, x', rfl, hT, rfl, y⟩
      have e : v = x' := by
        have := y vs q
        rw [h1] at this; exact Option.some.inj this
      subst e
      have ex : Ext H L (upd H T (.tup [.int (i : Nat), v])) L := Ext.new hT
      have cr : ∀ {Z : List Addr}, (∀ a ∈ Z, a ∉ L) → Car H L (upd H T (.tup [.int (i : Nat), v])) L Z := fun hz => ex.car hz
      refine ⟨G, F', ex, s.new hT (s.notin hT), .wtp (xs := [.int (i : Nat), x0]) (vs := [.int (i : Nat), v]) (F := G) (.inl (.inl upd_same)) ?_, w.car _ _ _ _ _ _ h3 (cr fun a ha => ou a (h4.subset (List.mem_append_right _ ha))), nd.sublist h4, fun a ha => h4.subset ha⟩
      have r2 := h2.car (cr fun a ha => ou a (h4.subset (List.mem_append_left _ ha)))
      have := Reps.cons (Rep.int (C := C) (H := upd H T (.tup [.int (i : Nat), v])) (L := L) (i : Nat)) (Reps.cons r2 .nil)
      simpa using this
  stop := fun i H L S F hw s g hi => by
    obtain ⟨vs, q, hl, h⟩ := w.at_ i H L S F hw s g
    rw [enumD_len] at hi
    exact ⟨vs, q, by omega⟩
theorem ei_enum {elts : List Expr} {kk : Nat} {tpos : Pos} (hK : X.K = C.K) (hg : Gl X "enumerate") (hm : X.mg "enumerate" = none) (ns : noStar1 e = true) (ha : EE C R X E e fa) : EI C R X E (.Tuple elts kk tpos) (.Call (.Name "enumerate" p0) [e] [] pos) (fun ρ S => (fa ρ S).bind fun x S1 => match lisOf x S1 with
    | some xs => .ok (enumD 0 xs, guardOf x xs) S1
    | none => .stuck) := by
  obtain ⟨ta, pa, ga⟩ := ea_cons ha ea_nil (starEach_ns ns)
  refine ⟨_, pi_enum hg hm pa (starEach_ns ns), fun σ H L ρ S Rq s e h => ?_⟩
  rw [hK]
  refine ga σ H L ρ S _ s e ?_
  dsimp only at h ⊢
  cases hq : fa ρ S with
  | stuck => rw [hq] at h; exact h.elim
  | ex y S1 => rw [hq] at h; exact h
  | ok x S1 =>
    rw [hq] at h
    have h : Rs.sat (match lisOf x S1 with
    | some xs => .ok (enumD 0 xs, guardOf x xs) S1
    | none => .stuck) (OkI C H L Rq) (ExW C R E H L) := h
    cases hs : lisOf x S1 with
    | none => rw [hs] at h; exact h.elim
    | some xs =>
      rw [hs] at h
      have h : OkI C H L Rq (enumD 0 xs, guardOf x xs) S1 := h
      intro v H1 L1 F p1
      obtain ⟨ext, sim, rep, fr⟩ := p1
      cases rep with
      | cons r rr =>
        cases rr
        rename_i v0 F0
        rw [List.append_nil] at fr
        obtain ⟨a, Wk, F1, rfl, w, w0, pm, vs, sq⟩ := lw_of sim r hs
        exact ⟨a, vs, rfl, sq, h _ _ H1 L1 F1 ext sim (fr.perm pm) w.ite w0⟩
/-! ### range -/
theorem walk_range (lo : Int) (n : Nat) : WalkI C (Itr lo n) ((List.range n).map fun k => D.int (lo + (k : Nat))) [] (fun _ _ _ F => F = []) where
  car := fun _ _ _ _ _ _ h _ => h
  trk := by
    rintro i H L F rfl a ha
    cases ha
  go := by
    rintro i H L S F d rfl s _ _ _ hd
    have hi : i < n := by
      have := (List.getElem?_eq_some_iff.mp hd).1
      simpa using this
    refine ⟨hi, ?_⟩
    rintro x H' ⟨rfl, rfl⟩
    rw [List.getElem?_map, List.getElem?_range hi] at hd
    cases hd
    exact ⟨[], [], Ext.refl _ _, s, .int _, rfl, by simp, by simp⟩
  stop := by
    rintro i H L S F rfl s _ hi
    have hi' : n ≤ i := by simpa using hi
    exact hi'
theorem ei_range1 (hg : Gl X "range") (hm : X.mg "range" = none) (ns : noStar1 e = true) (ha : EE C R X E e fa) : EI C R X E tg (.Call (.Name "range" p0) [e] [] pos) (fun ρ S => ((fa ρ S).bind fun x S1 => (Rs.ok [] S1).bind fun xs S2 => .ok (x :: xs) S2).bind fun xs S1 => match rangeD xs with
    | some ys => .ok (ys, []) S1
    | none => .stuck) := by
  obtain ⟨ta, pa, ga⟩ := ea_cons ha ea_nil (starEach_ns ns)
  refine ⟨_, pi_range1 hg hm pa (starEach_ns ns), fun σ H L ρ S Rq s e h => ?_⟩
  refine ga σ H L ρ S _ s e ?_
  dsimp only at h ⊢
  cases hq : fa ρ S with
  | stuck => rw [hq] at h; exact h.elim
  | ex y S1 => rw [hq] at h; exact h
  | ok x S1 =>
    rw [hq] at h
    have h : Rs.sat (match rangeD [x] with
    | some ys => .ok (ys, []) S1
    | none => .stuck) (OkI C H L Rq) (ExW C R E H L) := h
    intro v H1 L1 F p1
    obtain ⟨ext, sim, rep, fr⟩ := p1
    cases x with
    | int j =>
      by_cases q : -(2 ^ 62) ≤ j ∧ j < 2 ^ 62
      · simp only [rangeD, if_pos q] at h
        have h : OkI C H L Rq _ S1 := h
        cases rep with
        | cons r rr =>
          cases rr
          obtain ⟨rfl, rfl⟩ := r.int_inv
          exact ⟨j, rfl, q.1, q.2, h _ _ H1 L1 [] ext sim (Fr.nil _ _) (walk_range 0 j.toNat) rfl⟩
      · simp only [rangeD, if_neg q] at h; exact h.elim
    | _ => exact h.elim
theorem ei_range2 {e2 : Expr} {fb : AEnv → Store → Rs D} (hg : Gl X "range") (hm : X.mg "range" = none) (ns : noStar1 e = true) (ns2 : noStar1 e2 = true) (ha : EE C R X E e fa) (hb : EE C R X E e2 fb) :
    EI C R X E tg (.Call (.Name "range" p0) [e, e2] [] pos) (fun ρ S => ((fa ρ S).bind fun x S1 => ((fb ρ S1).bind fun y S2 => (Rs.ok [] S2).bind fun xs S3 => .ok (y :: xs) S3).bind fun xs S2 => .ok (x :: xs) S2).bind fun xs S1 => match rangeD xs with
    | some ys => .ok (ys, []) S1
    | none => .stuck) := by
  obtain ⟨ta, pa, ga⟩ := ea_cons ha (ea_cons hb ea_nil (starEach_ns ns2)) (starEach_ns ns)
  refine ⟨_, pi_range2 hg hm pa (by rw [starEach_ns ns, starEach_ns ns2]; rfl) (starEach_ns ns2), fun σ H L ρ S Rq s e h => ?_⟩
  refine ga σ H L ρ S _ s e ?_
  dsimp only at h ⊢
  cases hq : fa ρ S with
  | stuck => rw [hq] at h; exact h.elim
  | ex y S1 => rw [hq] at h; exact h
  | ok x S1 =>
    rw [hq] at h
    cases hq2 : fb ρ S1 with
    | stuck => simp only [Rs.bind, hq2] at h; exact h.elim
    | ex y S2 => simp only [Rs.bind, hq2] at h ⊢; exact h
    | ok y S2 =>
      simp only [Rs.bind, hq2] at h ⊢
      intro v H1 L1 F p1
      obtain ⟨ext, sim, rep, fr⟩ := p1
      have no : rangeD [x, y] = none → False := fun q => by rw [q] at h; exact h
      cases x with
      | int i =>
        cases y with
        | int j =>
          by_cases q : -(2 ^ 62) ≤ i ∧ i < 2 ^ 62 ∧ -(2 ^ 62) ≤ j ∧ j < 2 ^ 62
          · simp only [rangeD, if_pos q] at h
            have h : OkI C H L Rq _ S2 := h
            cases rep with
            | cons r rr =>
              cases rr with
              | cons r' rr =>
                cases rr
                obtain ⟨rfl, rfl⟩ := r.int_inv
                obtain ⟨rfl, rfl⟩ := r'.int_inv
                exact ⟨i, j, rfl, q, h _ _ H1 L1 [] ext sim (Fr.nil _ _) (walk_range i _) rfl⟩
          · exact (no (by simp only [rangeD, if_neg q])).elim
        | _ => exact (no rfl).elim
      | _ => exact (no (by cases y <;> rfl)).elim
end
end Nv
/-! Nv: zip, reversed. -/
namespace Nv
open PySem PySem.Spec PyProof.Rows L2
section
variable {C : Cxt} {R : XR} {X : Cx} {E : XK} {pos p0 : Pos} {e e2 tg : Expr} {fa fb : AEnv → Store → Rs D}
/-- a sequence walked: sq H vs: what stands there -/
structure QWk (C : Cxt) (sq : Hp → List V → Prop) (xs : List D) (gu : List (Nat × List D)) (Wk : Nat → Hp → List Addr → List Addr → Prop) : Prop where
  car : ∀ i H L H' L' F, Wk i H L F → Car H L H' L' F → Wk i H' L' F
  trk : ∀ i H L F, Wk i H L F → ∀ a ∈ F, ∃ o, H a = some o
  at_ : ∀ i H L S F, Wk i H L F → SimS C H L S → guardOk gu S = true → ∃ vs, sq H vs ∧ xs.length = vs.length ∧
    ∀ d, xs[i]? = some d → ∃ v G F', vs[i]? = some v ∧ Rep C H L d v G ∧ Wk (i + 1) H L F' ∧ (G ++ F').Sublist F
theorem LWk.q {a : Addr} {xs : List D} {gu : List (Nat × List D)} {Wk : Nat → Hp → List Addr → List Addr → Prop} (w : LWk C a xs gu Wk) : QWk C (fun H vs => SqL C.K H a vs) xs gu Wk := ⟨w.car, w.trk, w.at_⟩
theorem tw_q {a : Addr} {xs : List D} {vs : List V} (hl : xs.length = vs.length) : QWk C (fun H vs => SqT C.K H a vs) xs [] (fun i H L F => SqT C.K H a vs ∧ Reps C H L (xs.drop i) (vs.drop i) F) where
  car := by
    rintro i H L H' L' F ⟨h, r⟩ c
    exact ⟨SqT.ext c.tups c.frzs h, r.car c⟩
  trk := by
    rintro i H L F ⟨h, r⟩ b hb
    exact r.trk b hb
  at_ := by
    rintro i H L S F ⟨h, r⟩ s _
    refine ⟨vs, h, hl, fun d hd => ?_⟩
    obtain ⟨v, G, F', h1, h2, h3, rfl⟩ := r.step hd
    exact ⟨v, G, F', h1, h2, ⟨h, h3⟩, List.Sublist.refl _⟩
theorem zipD_at : ∀ {xs ys : List D} {i : Nat} {d : D}, (zipD xs ys)[i]? = some d → ∃ x y, xs[i]? = some x ∧ ys[i]? = some y ∧ d = .wtp [x, y]
  | [], _, i, d, h => by simp [zipD] at h
  | _ :: _, [], i, d, h => by simp [zipD] at h
  | x :: xs, y :: ys, 0, d, h => by
    simp [zipD] at h
    exact ⟨x, y, rfl, rfl, h.symm⟩
  | x :: xs, y :: ys, i + 1, d, h => by
    have h' : (zipD xs ys)[i]? = some d := by simpa [zipD] using h
    obtain ⟨a, b, h1, h2, h3⟩ := zipD_at h'
    exact ⟨a, b, by simpa using h1, by simpa using h2, h3⟩
theorem zipD_len : ∀ (xs ys : List D), (zipD xs ys).length = min xs.length ys.length
  | [], _ => by simp [zipD]
  | _ :: _, [] => by simp [zipD]
  | x :: xs, y :: ys => by
    show (zipD xs ys).length + 1 = _
    rw [zipD_len, List.length_cons, List.length_cons]
    omega
theorem guard_app {g1 g2 : List (Nat × List D)} {S : Store} (h : guardOk (g1 ++ g2) S = true) : guardOk g1 S = true ∧ guardOk g2 S = true := by
  unfold guardOk at h ⊢
  rw [List.all_append, Bool.and_eq_true] at h
  exact h
theorem QWk.zip {sa sb : Hp → List V → Prop} {xs ys : List D} {g1 g2 : List (Nat × List D)} {Wa Wb : Nat → Hp → List Addr → List Addr → Prop} {J : L2.It} (wa : QWk C sa xs g1 Wa) (wb : QWk C sb ys g2 Wb)
    (Jg : ∀ i H, (∃ (xs ys : List V) (x y : V), sa H xs ∧ sb H ys ∧ xs[i]? = some x ∧ ys[i]? = some y) → J.go i H)
    (Jy : ∀ i H v H', J.yld i H v H' → ∃ T x y, v = .ref T ∧ H T = none ∧ H' = upd H T (.tup [x, y]) ∧ (∀ xs, sa H xs → xs[i]? = some x) ∧ ∀ ys, sb H ys → ys[i]? = some y)
    (Js : ∀ i H, (∃ xs ys : List V, sa H xs ∧ sb H ys ∧ (xs.length ≤ i ∨ ys.length ≤ i)) → J.stop i H) :
    WalkI C J (zipD xs ys) (g1 ++ g2) (fun i H L F => ∃ F1 F2, F = F1 ++ F2 ∧ Wa i H L F1 ∧ Wb i H L F2) where
  car := by
    rintro i H L H' L' F ⟨F1, F2, rfl, h1, h2⟩ c
    exact ⟨F1, F2, rfl, wa.car _ _ _ _ _ _ h1 (c.sub fun a ha => List.mem_append_left _ ha), wb.car _ _ _ _ _ _ h2 (c.sub fun a ha => List.mem_append_right _ ha)⟩
  trk := by
    rintro i H L F ⟨F1, F2, rfl, h1, h2⟩ a ha
    rcases List.mem_append.mp ha with q | q
    · exact wa.trk _ _ _ _ h1 a q
    · exact wb.trk _ _ _ _ h2 a q
  go := by
    rintro i H L S F d ⟨F1, F2, rfl, h1, h2⟩ s g nd ou hd
    obtain ⟨x, y, hx, hy, rfl⟩ := zipD_at hd
    obtain ⟨ga, gb⟩ := guard_app g
    obtain ⟨vs, q1, l1, k1⟩ := wa.at_ i H L S F1 h1 s ga
    obtain ⟨ws, q2, l2, k2⟩ := wb.at_ i H L S F2 h2 s gb
    obtain ⟨v, G1, F1', a1, a2, a3, a4⟩ := k1 x hx
    obtain ⟨w, G2, F2', b1, b2, b3, b4⟩ := k2 y hy
    refine ⟨Jg i H ⟨vs, ws, v, w, q1, q2, a1, b1⟩, fun u H' hy => ?_⟩
    obtain ⟨T, v', w', rfl, hT, rfl, y1, y2⟩ := Jy i H u H' hy
    have e1 : v = v' := by
      have := y1 vs q1
      rw [a1] at this; exact Option.some.inj this
    have e2 : w = w' := by
      have := y2 ws q2
      rw [b1] at this; exact Option.some.inj this
    subst e1; subst e2
    have ex : Ext H L (upd H T (.tup [v, w])) L := Ext.new hT
    have nd' := List.nodup_append.mp nd
    have in1 : ∀ a ∈ G1 ++ F1', a ∈ F1 := fun a ha => a4.subset ha
    have in2 : ∀ a ∈ G2 ++ F2', a ∈ F2 := fun a ha => b4.subset ha
    have nd1 := List.nodup_append.mp (nd'.1.sublist a4)
    have nd2 := List.nodup_append.mp (nd'.2.1.sublist b4)
    have o1 : ∀ a ∈ G1 ++ F1', a ∉ L := fun a ha => ou a (List.mem_append_left _ (in1 a ha))
    have o2 : ∀ a ∈ G2 ++ F2', a ∉ L := fun a ha => ou a (List.mem_append_right _ (in2 a ha))
    have c1 : ∀ {Z : List Addr}, (∀ a ∈ Z, a ∈ G1 ++ F1') → Car H L (upd H T (.tup [v, w])) L Z := fun hz => ex.car fun a ha => o1 a (hz a ha)
    have c2 : ∀ {Z : List Addr}, (∀ a ∈ Z, a ∈ G2 ++ F2') → Car H L (upd H T (.tup [v, w])) L Z := fun hz => ex.car fun a ha => o2 a (hz a ha)
    refine ⟨G1 ++ G2, F1' ++ F2', ex, s.new hT (s.notin hT), .wtp (xs := [x, y]) (vs := [v, w]) (.inl (.inl upd_same)) ?_, ⟨F1', F2', rfl, wa.car _ _ _ _ _ _ a3 (c1 fun a ha => List.mem_append_right _ ha), wb.car _ _ _ _ _ _ b3 (c2 fun a ha => List.mem_append_right _ ha)⟩, ?_, ?_⟩
    · have := Reps.cons (a2.car (c1 fun a ha => List.mem_append_left _ ha)) (Reps.cons (b2.car (c2 fun a ha => List.mem_append_left _ ha)) .nil)
      rwa [List.append_nil] at this
    · have dis : ∀ a ∈ G1 ++ F1', ∀ b ∈ G2 ++ F2', a ≠ b := fun a ha b hb => nd'.2.2 a (in1 a ha) b (in2 b hb)
      rw [List.nodup_append]
      refine ⟨?_, ?_, fun a ha b hb => ?_⟩
      · rw [List.nodup_append]
        exact ⟨nd1.1, nd2.1, fun a ha b hb => dis a (List.mem_append_left _ ha) b (List.mem_append_left _ hb)⟩
      · rw [List.nodup_append]
        exact ⟨nd1.2.1, nd2.2.1, fun a ha b hb => dis a (List.mem_append_right _ ha) b (List.mem_append_right _ hb)⟩
      · rcases List.mem_append.mp ha with q | q <;> rcases List.mem_append.mp hb with r | r
        · exact nd1.2.2 a q b r
        · exact dis a (List.mem_append_left _ q) b (List.mem_append_right _ r)
        · exact fun z => dis b (List.mem_append_right _ r) a (List.mem_append_left _ q) z.symm
        · exact nd2.2.2 a q b r
    · intro a ha
      rcases List.mem_append.mp ha with q | q <;> rcases List.mem_append.mp q with r | r
      · exact List.mem_append_left _ (in1 a (List.mem_append_left _ r))
      · exact List.mem_append_right _ (in2 a (List.mem_append_left _ r))
      · exact List.mem_append_left _ (in1 a (List.mem_append_right _ r))
      · exact List.mem_append_right _ (in2 a (List.mem_append_right _ r))
  stop := by
    rintro i H L S F ⟨F1, F2, rfl, h1, h2⟩ s g hi
    obtain ⟨ga, gb⟩ := guard_app g
    obtain ⟨vs, q1, l1, k1⟩ := wa.at_ i H L S F1 h1 s ga
    obtain ⟨ws, q2, l2, k2⟩ := wb.at_ i H L S F2 h2 s gb
    rw [zipD_len] at hi
    exact Js i H ⟨vs, ws, q1, q2, by omega⟩
/-- the evaluator's pairs -/
def zipOf (x y : D) (S : Store) : Rs (List D × List (Nat × List D)) := match x, y with
  | .tup xs, .tup ys => .ok (zipD xs ys, []) S
  | x, y => match lisOf x S, lisOf y S with
    | some xs, some ys => .ok (zipD xs ys, guardOf x xs ++ guardOf y ys) S
    | _, _ => .stuck
theorem zipOf_cases {x y : D} {S : Store} {A : List D × List (Nat × List D) → Store → Prop} {B : Exn → Store → Prop} (h : (zipOf x y S).sat A B) :
    (∃ xs ys, x = .tup xs ∧ y = .tup ys ∧ A (zipD xs ys, []) S) ∨ ∃ xs ys, lisOf x S = some xs ∧ lisOf y S = some ys ∧ A (zipD xs ys, guardOf x xs ++ guardOf y ys) S := by
  unfold zipOf at h
  split at h
  · exact .inl ⟨_, _, rfl, rfl, h⟩
  · right
    split at h
    · rename_i h1 h2
      exact ⟨_, _, h1, h2, h⟩
    · exact h.elim
theorem SimS.lis {H : Hp} {L : List Addr} {S : Store} (s : SimS C H L S) {x : D} {v : V} {F : List Addr} {xs : List D} (r : Rep C H L x v F) (h : lisOf x S = some xs) :
    ∃ a Wk F0, v = .ref a ∧ QWk C (fun H vs => SqL C.K H a vs) xs (guardOf x xs) Wk ∧ Wk 0 H L F0 ∧ F0.Perm F ∧ ∃ vs, SqL C.K H a vs := by
  obtain ⟨a, Wk, F0, h1, h2, h3, h4, h5⟩ := lw_of s r h
  exact ⟨a, Wk, F0, h1, h2.q, h3, h4, h5⟩
theorem ei_zip {elts : List Expr} {kk : Nat} {tpos : Pos} (hK : X.K = C.K) (hg : Gl X "zip") (hm : X.mg "zip" = none) (ns : noStar1 e = true) (ns2 : noStar1 e2 = true) (ha : EE C R X E e fa) (hb : EE C R X E e2 fb) :
    EI C R X E (.Tuple elts kk tpos) (.Call (.Name "zip" p0) [e, e2] [] pos) (fun ρ S => (fa ρ S).bind fun x S1 => (fb ρ S1).bind fun y S2 => zipOf x y S2) := by
  obtain ⟨ta, pa, ga⟩ := ea_cons ha (ea_cons hb ea_nil (starEach_ns ns2)) (starEach_ns ns)
  refine ⟨_, RZ.pi_zipA hg hm pa (starEach_ns ns) (by rw [starEach_ns ns2]; rfl), fun σ H L ρ S Rq s e h => ?_⟩
  rw [hK]
  refine ga σ H L ρ S _ s e ?_
  dsimp only at h ⊢
  cases hq : fa ρ S with
  | stuck => rw [hq] at h; exact h.elim
  | ex y S1 => rw [hq] at h; exact h
  | ok x S1 =>
    rw [hq] at h
    cases hq2 : fb ρ S1 with
    | stuck => simp only [Rs.bind, hq2] at h; exact h.elim
    | ex y S2 => simp only [Rs.bind, hq2] at h ⊢; exact h
    | ok y S2 =>
      simp only [Rs.bind, hq2] at h ⊢
      intro vs H1 L1 F p1
      obtain ⟨ext, sim, rep, fr⟩ := p1
      cases rep with
      | cons rx rr =>
        rename_i v1 G1 vs' G2
        cases rr with
        | cons ry rn =>
          cases rn
          rename_i v2 G3
          rw [List.append_nil] at fr
          rcases zipOf_cases h with ⟨xs, ys, rfl, rfl, q⟩ | ⟨xs, ys, hx, hy, q⟩
          · obtain ⟨a, ws, rfl, h1, r1⟩ := rx.tup_inv
            obtain ⟨b, us, rfl, h2, r2⟩ := ry.tup_inv
            refine ⟨a, b, ws, us, rfl, .inr ⟨h1.sq, h2.sq, ?_⟩⟩
            have w := QWk.zip (J := RZ.ItzT C.K a b) (tw_q (a := a) (C := C) r1.length) (tw_q (a := b) (C := C) r2.length) (fun _ _ z => z) (fun _ _ _ _ z => z) (fun _ _ z => z)
            exact q _ _ H1 L1 _ ext sim fr w ⟨_, _, rfl, ⟨h1.sq, r1⟩, ⟨h2.sq, r2⟩⟩
          · obtain ⟨a, W1, F1, rfl, w1, h1, pm1, ws, s1⟩ := sim.lis rx hx
            obtain ⟨b, W2, F2, rfl, w2, h2, pm2, us, s2⟩ := sim.lis ry hy
            refine ⟨a, b, ws, us, rfl, .inl ⟨s1, s2, ?_⟩⟩
            have w := QWk.zip (J := Itz C.K a b) w1 w2 (fun _ _ z => z) (fun _ _ _ _ z => z) (fun _ _ z => z)
            exact q _ _ H1 L1 (F1 ++ F2) ext sim (fr.perm (pm1.append pm2)) w ⟨F1, F2, rfl, h1, h2⟩
/-! ### reversed -/
theorem Reps.reverse {H : Hp} {L : List Addr} {xs : List D} {vs : List V} {F : List Addr} (r : Reps C H L xs vs F) : ∃ G, Reps C H L xs.reverse vs.reverse G ∧ G.Perm F := by
  induction xs generalizing vs F with
  | nil => cases r; exact ⟨[], .nil, .refl _⟩
  | cons x xs ih =>
    cases r with
    | cons rx rs =>
      rename_i v F1 vs F2
      obtain ⟨G, g1, g2⟩ := ih rs
      refine ⟨G ++ F1, ?_, ?_⟩
      · rw [List.reverse_cons, List.reverse_cons]
        have := g1.append (Reps.cons rx .nil)
        rwa [List.append_nil] at this
      · exact List.perm_append_comm.trans (g2.append_left F1)
theorem ee_revs {p1 p2 p3 : Pos} {k : Nat} (hK : X.K = C.K) (ha : EE C R X E e fa) : EE C R X E (.Subscript e (.Slice none none (some (.UnaryOp .USub (.Constant (.int 1) k p1) p2)) p3) pos) (fun ρ S => (fa ρ S).bind fun x S1 => match lisOf x S1 with
    | some xs => .ok (.new (.lst xs.reverse)) S1
    | none => .stuck) := by
  obtain ⟨ta, pa, ga⟩ := ha
  refine ⟨_, pe_revL pa, fun σ H L ρ S Q s e h => ?_⟩
  refine ga.first s e (fun _ _ z => z) h fun x S1 v H1 L1 F p e1 h1 => ?_
  cases hs : lisOf x S1 with
  | none => rw [hs] at h1; exact h1.elim
  | some xs =>
    rw [hs] at h1
    have h1 : OkW C H L Q (.new (.lst xs.reverse)) S1 := h1
    obtain ⟨a, vs, F', rfl, r1, f1, w⟩ := lis_of p.sim p.rep hs
    obtain ⟨G, g1, g2⟩ := r1.reverse
    refine ⟨a, vs, rfl, hK ▸ w, fun q hq => ?_⟩
    exact h1 _ _ L1 _ (post_lst p.ext p.sim g1 ((p.fr.sub f1).perm g2) hq)
end
end Nv
/-! Nv: comprehensions. -/
namespace Nv
open PySem PySem.Spec PyProof.Rows L2
def E0' : XK := fun _ _ _ => False
section
variable {C : Cxt} {R : XR} {X : Cx} {E : XK} {pos p0 : Pos} {e tg iter elt : Expr} {es ifs : List Expr} {fa fe : AEnv → Store → Rs D} {fs : AEnv → Store → Rs (List D)} {ft : AEnv → Store → Rs Bool}
/-! ### the weakest promises -/
def cE (C : Cxt) (R : XR) (E : XK) (f : AEnv → Store → Rs D) : TE := fun σ H Q => ∃ L ρ S, SimS C H L S ∧ SimE C H L ρ σ ∧ (f ρ S).sat (OkW C H L Q) (ExW C R E H L)
theorem EE.canon {f : AEnv → Store → Rs D} (h : EE C R X E e f) : PE X e (cE C R E f) := by
  obtain ⟨t, p, g⟩ := h
  exact ⟨fun pins s σ H Q I ⟨L, ρ, S, h1, h2, h3⟩ => p.run pins s σ H Q I (g σ H L ρ S Q h1 h2 h3)⟩
def cG (C : Cxt) (sl : List Nat) (f : D → AEnv → Store → Rs AEnv) : TG := fun v σ H Q => ∃ L S ρ d F, SimS C H L S ∧ SimE C H L ρ σ ∧ Rep C H L d v F ∧ F.Nodup ∧ (∀ a ∈ F, a ∉ L) ∧
    (f d ρ S).sat (fun ρ' S' => ∀ σ' M, SimS C H (L ++ M) S' → SimE C H (L ++ M) ρ' σ' → (∀ a ∈ M, a ∈ F) → Wip sl σ σ' → Q σ' H) (fun _ _ => False)
theorem EG.canon {sl : List Nat} {f : D → AEnv → Store → Rs AEnv} (h : EG C X e sl f) : PG X e (cG C sl f) := by
  obtain ⟨t, p, g⟩ := h
  exact ⟨fun pins s σ H v u Q I r ⟨L, S, ρ, d, F, h1, h2, h3, h4, h5, h6⟩ => p.run pins s σ H v u Q I r (g H L S ρ σ d v F Q h1 h2 h3 h4 h5 h6)⟩
/-- the conditions of a clause -/
def EF (C : Cxt) (R : XR) (X : Cx) (E : XK) (ifs : List Expr) (f : AEnv → Store → Rs Bool) : Prop := ∃ t, PTs X ifs t ∧ GoodT C R E t f
def cT (C : Cxt) (R : XR) (E : XK) (f : AEnv → Store → Rs Bool) : TT := fun σ H Q => ∃ L ρ S, SimS C H L S ∧ SimE C H L ρ σ ∧ (f ρ S).sat (OkP C H L Q) (ExW C R E H L)
theorem EF.canon (h : EF C R X E ifs ft) : PTs X ifs (cT C R E ft) := by
  obtain ⟨t, p, g⟩ := h
  exact ⟨fun pins s σ H Q I ⟨L, ρ, S, h1, h2, h3⟩ => p.run pins s σ H Q I (g σ H L ρ S Q h1 h2 h3)⟩
theorem ef_nil : EF C R X E [] (fun _ S => .ok true S) := ⟨_, pts_nil, fun σ H L ρ S Q s e h => h H L (Ext.refl _ _) s⟩
theorem ef_one (h : ET C R X E e fa) : EF C R X E [e] (truF fa) := let ⟨t, p, g⟩ := h; ⟨t, pts_one p, g⟩
/-! ### wiping -/
theorem wipe_in {σ : L2.St} {i : Nat} : ∀ {vs : List Nat}, i ∈ vs → i < σ.length → (wipe σ vs)[i]? = some none
  | v :: vs, h, hl => by
    show ((wipe σ vs).set v none)[i]? = some none
    by_cases q : v = i
    · subst q
      rw [List.getElem?_set_self (by rw [wipe_length]; exact hl)]
    · rw [List.getElem?_set_ne q]
      rcases List.mem_cons.mp h with z | z
      · exact absurd z.symm q
      · exact wipe_in z hl
theorem wipe_wip {sl vs : List Nat} {σ σ2 : L2.St} (w : Wip sl (wipe σ vs) σ2) (h : ∀ i ∈ sl, i ∈ vs) : wipe σ2 vs = wipe σ vs := by
  have hl : σ2.length = σ.length := by rw [w.1, wipe_length]
  apply List.ext_getElem?
  intro i
  by_cases q : i ∈ vs
  · by_cases hi : i < σ.length
    · rw [wipe_in q (by omega), wipe_in q hi]
    · rw [List.getElem?_eq_none (by rw [wipe_length]; omega), List.getElem?_eq_none (by rw [wipe_length]; omega)]
  · rw [wipe_out q, w.2 i fun z => q (h i z)]
theorem wipeD_not {ρ : AEnv} : ∀ {ks : List Nat} {i : Nat} {d : D}, (wipeD ρ ks)[i]? = some (some d) → i ∉ ks
  | [], i, d, h => by simp
  | k :: ks, i, d, h => by
    have h' : ((wipeD ρ ks).set k none)[i]? = some (some d) := h
    rw [List.getElem?_set] at h'
    by_cases q : k = i
    · rw [if_pos q] at h'
      split at h' <;> cases h'
    · rw [if_neg q] at h'
      intro z
      rcases List.mem_cons.mp z with z | z
      · exact q z.symm
      · exact wipeD_not h' z
theorem SimE.wipes {H : Hp} {L : List Addr} {ρ : AEnv} {σ : L2.St} (e : SimE C H L ρ σ) (ks : List Nat) : SimE C H L (wipeD ρ ks) (L2.wipe σ ks) :=
  ⟨by rw [wipeD_len, wipe_length]; exact e.1, fun i d h => by
    rw [wipe_out (wipeD_not h)]
    exact e.2 i d (wipeD_at ρ ks i d h)⟩
theorem sat_noex {α β : Type} {r : Rs α} {k : α → Store → Rs β} {A : β → Store → Prop} {B : Exn → Store → Prop} (h : (r.noex.bind k).sat A B) : r.sat (fun a S => (k a S).sat A B) (fun _ _ => False) := by
  cases r <;> exact h
/-! ### the object that is being filled -/
theorem Ext.poke {H H4 : Hp} {L L4 : List Addr} {p : Addr} {o o' : HO} (e : Ext H L H4 L4) (hp : H p = none) (h4 : H4 p = some o) : Ext H L (upd H4 p o') L4 :=
  ⟨e.pre, fun a q hn h => by rw [upd_ne (ne_of_none h hp)]; exact e.frame a q hn h, fun b xs h => by rw [upd_ne (ne_of_none h hp)]; exact e.tups b xs h, fun b q u h => by rw [upd_ne (ne_of_none h hp)]; exact e.frzs b q u h,
    fun a h => by
      by_cases q : a = p
      · subst q; exact hp
      · rw [upd_ne q] at h; exact e.dom a h⟩
theorem car_poke {H4 : Hp} {L4 F : List Addr} {p : Addr} {ho ho' : HO} (h4 : H4 p = some ho) (m : mutO ho = true) (hF : p ∉ F) : Car H4 L4 (upd H4 p ho') L4 F := by
  refine ⟨fun b xs h => ?_, fun b o u h => ?_, fun n a h => h, fun a ha o h => ?_⟩
  · have : b ≠ p := fun z => by subst z; rw [h4] at h; cases h; cases m
    rw [upd_ne this]; exact h
  · have : b ≠ p := fun z => by subst z; rw [h4] at h; cases h; cases m
    rw [upd_ne this]; exact h
  · have : a ≠ p := fun z => hF (z ▸ ha)
    rw [upd_ne this]; exact h
theorem SimS.poke {H4 : Hp} {L4 : List Addr} {S4 : Store} {p : Addr} {ho ho' : HO} (s : SimS C H4 L4 S4) (h4 : H4 p = some ho) (m : mutO ho = true) (hL : p ∉ L4) : SimS C (upd H4 p ho') L4 S4 := by
  refine ⟨s.len, s.nd, fun n c a h1 h2 => ?_⟩
  have k := s.cell n c a h1 h2
  have ne : a ≠ p := fun e => hL (e ▸ List.mem_of_getElem? h2)
  have car : Car H4 L4 (upd H4 p ho') L4 [] := car_poke h4 m (by simp)
  cases c with
  | frz xs =>
    obtain ⟨ob, vs, e1, e2⟩ := k
    exact ⟨ob, vs, by rw [upd_ne ne]; exact e1, e2.car car⟩
  | lst xs => obtain ⟨ho, e1, e2⟩ := k; exact ⟨ho, by rw [upd_ne ne]; exact e1, e2.car car⟩
  | dct xs => obtain ⟨ho, e1, e2⟩ := k; exact ⟨ho, by rw [upd_ne ne]; exact e1, e2.car car⟩
  | ins c xs => obtain ⟨ho, e1, e2⟩ := k; exact ⟨ho, by rw [upd_ne ne]; exact e1, e2.car car⟩
/-! ### the loop -/
def lcFin (C : Cxt) (R : XR) (E : XK) (H : Hp) (L : List Addr) (Q : VK) (zs : List D) (S2 : Store) : Prop :=
  (if zs.length ≤ sizeLine then Rs.ok (D.new (.lst zs)) S2 else .stuck).sat (OkW C H L Q) (ExW C R E H L)
theorem lc_good {wi : TI} {fi : AEnv → Store → Rs (List D × List (Nat × List D))} {g : G} {sl own : List Nat} (hsl : ∀ i ∈ sl, i ∈ own)
    (gi : ∀ (σ : L2.St) (H : Hp) (L : List Addr) (ρ : AEnv) (S : Store) (Rq : L2.It → Hp → Prop), SimS C H L S → SimE C H L ρ σ → (fi ρ S).sat (OkI C H L Rq) (ExW C R E H L) → wi σ H Rq) :
    GoodE C R E (tLc wi (cG C sl (evalG g)) (cT C R E0' ft) (cE C R E0' fe) own) (fun ρ S => (fi ρ S).bind fun r S1 => (compF r.2 (evalG g) ft fe (wipeD ρ own) r.1 S1).noex.bind fun ys S2 => if ys.length ≤ sizeLine then .ok (.new (.lst ys)) S2 else .stuck) := by
  intro σ H L ρ S Q s e h
  have h0 := sat_bind h
  refine gi σ H L ρ S _ s e (sat_mono h0 (fun r S1 h1 J Wk H1 L1 F1 x1 s1 f1' wk w0 => ?_) fun _ _ z => z)
  obtain ⟨items, gu⟩ := r
  have h1 : (compF gu (evalG g) ft fe (wipeD ρ own) items S1).sat (fun ys S2 => lcFin C R E H L Q ys S2) (fun _ _ => False) := sat_noex h1
  intro Dn hDn
  have ew : SimE C H1 L1 (wipeD ρ own) (wipe σ own) := (e.ext x1).wipes own
  have nDL : Dn ∉ L1 := s1.notin hDn
  have nDF : Dn ∉ F1 := fun hm => by
    obtain ⟨o, ho⟩ := wk.trk _ _ _ _ w0 Dn hm
    rw [hDn] at ho; cases ho
  let W : Nat → Nat → Hp → Prop := fun i m H' => m + i = items.length ∧ ∃ (L' : List Addr) (S' : Store) (F' : List Addr) (ysD : List D) (acc : List V) (Fa : List Addr), Ext H L H' L' ∧ SimS C H' L' S' ∧ SimE C H' L' (wipeD ρ own) (wipe σ own) ∧ Wk i H' L' F' ∧ H' Dn = some (.lst acc) ∧ Reps C H' L' ysD acc Fa ∧
    (F' ++ Fa).Nodup ∧ Dn ∉ F' ++ Fa ∧ Dn ∉ L' ∧ (∀ a ∈ F' ++ Fa, a ∉ L') ∧ (∀ a ∈ F' ++ Fa, H a = none) ∧
    (compF gu (evalG g) ft fe (wipeD ρ own) (items.drop i) S').sat (fun ys S2 => lcFin C R E H L Q (ysD ++ ys) S2) (fun _ _ => False)
  have hDH : H Dn = none := x1.dom _ hDn
  refine ⟨W, ⟨items.length, rfl, L1, S1, F1, [], [], [], x1.trans (Ext.new hDn), s1.new hDn nDL, ew.ext (Ext.new hDn), ?_, upd_same, .nil, ?_, ?_, nDL, ?_, ?_, ?_⟩, ?_⟩
  · exact wk.car _ _ _ _ _ _ w0 ((Ext.new (L := L1) hDn).car f1'.out)
  · rw [List.append_nil]; exact f1'.nd
  · rw [List.append_nil]; exact nDF
  · rw [List.append_nil]; exact f1'.out
  · rw [List.append_nil]; exact f1'.new
  · exact h1
  rintro i m H2 ⟨hm, L2', S2, F2, ysD, acc, Fa, x2, s2, e2, wk2, hD2, ra, nd2, nD2, nDL2, ou2, nw2, h2⟩
  have gd : guardOk gu S2 = true := by
    cases hq : guardOk gu S2 with
    | true => rfl
    | false =>
      cases hd : items.drop i with
      | nil => rw [hd] at h2; simp only [compF, hq] at h2; exact h2.elim
      | cons d ds => rw [hd] at h2; simp only [compF, hq] at h2; exact h2.elim
  have nd2' := List.nodup_append.mp nd2
  cases hd : items.drop i with
  | nil =>
    rw [hd] at h2
    simp only [compF, gd, if_true] at h2
    have hlen : items.length ≤ i := by
      have := congrArg List.length hd
      simp at this; omega
    have h2 : lcFin C R E H L Q (ysD ++ []) S2 := h2
    rw [List.append_nil] at h2
    refine .inl ⟨wk.stop i H2 L2' S2 F2 wk2 s2 gd hlen, ?_⟩
    unfold lcFin at h2
    by_cases hz : ysD.length ≤ sizeLine
    · rw [if_pos hz] at h2
      refine h2 _ H2 L2' (Dn :: Fa) ⟨x2, s2, .new hD2 (.lst ra), fun a ha => ?_, ?_, fun a ha => ?_⟩
      · rcases List.mem_cons.mp ha with z | z
        · rw [z]; exact hDH
        · exact nw2 a (List.mem_append_right _ z)
      · exact List.nodup_cons.mpr ⟨fun z => nD2 (List.mem_append_right _ z), nd2'.2.1⟩
      · rcases List.mem_cons.mp ha with z | z
        · rw [z]; exact nDL2
        · exact ou2 a (List.mem_append_right _ z)
    · rw [if_neg hz] at h2; exact h2.elim
  | cons d ds =>
    rw [hd] at h2
    simp only [compF, gd, if_true] at h2
    have hi : items[i]? = some d := by
      have : (items.drop i)[0]? = some d := by rw [hd]; rfl
      rwa [List.getElem?_drop, Nat.add_zero] at this
    have hds : ds = items.drop (i + 1) := by
      have : (items.drop i).drop 1 = ds := by rw [hd]; rfl
      rw [← this, List.drop_drop]
    have hlt : i < items.length := (List.getElem?_eq_some_iff.mp hi).1
    have ouF : ∀ a ∈ F2, a ∉ L2' := fun a ha => ou2 a (List.mem_append_left _ ha)
    obtain ⟨go, yl⟩ := wk.go i H2 L2' S2 F2 d wk2 s2 gd nd2'.1 ouF hi
    refine .inr ⟨go, fun H' => W (i + 1) (m - 1) H', fun H' z => ⟨m - 1, by omega, z⟩, fun x H3 hy => ?_⟩
    obtain ⟨G, F3, x3, s3, r3, wk3, ndGF0, sub⟩ := yl x H3 hy
    have subG : ∀ a ∈ G, a ∈ F2 := fun a ha => sub a (List.mem_append_left _ ha)
    have subF : ∀ a ∈ F3, a ∈ F2 := fun a ha => sub a (List.mem_append_right _ ha)
    have ndGF := List.nodup_append.mp ndGF0
    have h3 := sat_bind h2
    refine ⟨L2', S2, wipeD ρ own, d, G, s3, e2.ext x3, r3, ndGF.1, fun a ha => ouF a (subG a ha), ?_⟩
    refine sat_mono h3 (fun ρ3 S3 h3 σ3 M s4 e4 hM wip => ?_) fun _ _ z => z
    refine ⟨wipe_wip wip hsl, ?_⟩
    have x23 : Ext H L H3 L2' := x2.trans x3
    have x4 : Ext H L H3 (L2' ++ M) := by
      obtain ⟨N, en, nn⟩ := x23.pre
      refine ⟨⟨N ++ M, by rw [en, List.append_assoc], fun a ha => ?_⟩, x23.frame, x23.tups, x23.frzs, x23.dom⟩
      rcases List.mem_append.mp ha with q | q
      · exact nn a q
      · exact nw2 a (List.mem_append_left _ (subG a (hM a q)))
    have hD3 : H3 Dn = some (.lst acc) := x3.frame _ _ nDL2 hD2
    have nDM : Dn ∉ L2' ++ M := fun z => by
      rcases List.mem_append.mp z with q | q
      · exact nDL2 q
      · exact nD2 (List.mem_append_left _ (subG _ (hM _ q)))
    -- what stands besides the cells at H3
    have outF : ∀ a ∈ F3 ++ Fa, a ∉ L2' ++ M := fun a ha z => by
      rcases List.mem_append.mp ha with q | q
      · rcases List.mem_append.mp z with w | w
        · exact ouF a (subF a q) w
        · exact ndGF.2.2 a (hM a w) a q rfl
      · rcases List.mem_append.mp z with w | w
        · exact ou2 a (List.mem_append_right _ q) w
        · exact nd2'.2.2 a (subG a (hM a w)) a q rfl
    have ra3 : Reps C H3 (L2' ++ M) ysD acc Fa := (ra.car (x3.car fun a ha => ou2 a (List.mem_append_right _ ha))).car ⟨fun _ _ h => h, fun _ _ _ h => h, fun n a hn => by rw [List.getElem?_append_left (lt_of_get hn)]; exact hn, fun _ _ _ h => h⟩
    have wk4 : Wk (i + 1) H3 (L2' ++ M) F3 := wk.car _ _ _ _ _ _ wk3 ⟨fun _ _ h => h, fun _ _ _ h => h, fun n a hn => by rw [List.getElem?_append_left (lt_of_get hn)]; exact hn, fun _ _ _ h => h⟩
    have ndF : (F3 ++ Fa).Nodup := by
      rw [List.nodup_append]
      exact ⟨ndGF.2.1, nd2'.2.1, fun a ha b hb z => nd2'.2.2 a (subF a ha) b hb z⟩
    have nDF3 : Dn ∉ F3 ++ Fa := fun z => nD2 (by
      rcases List.mem_append.mp z with q | q
      · exact List.mem_append_left _ (subF _ q)
      · exact List.mem_append_right _ q)
    have nwF : ∀ a ∈ F3 ++ Fa, H a = none := fun a ha => by
      rcases List.mem_append.mp ha with q | q
      · exact nw2 a (List.mem_append_left _ (subF a q))
      · exact nw2 a (List.mem_append_right _ q)
    have trF : ∀ a ∈ F3 ++ Fa, ∃ o, H3 a = some o := fun a ha => by
      rcases List.mem_append.mp ha with q | q
      · exact wk.trk _ _ _ _ wk4 a q
      · exact ra3.trk a q
    have es4 : SimE C H3 (L2' ++ M) (wipeD ρ own) (wipe σ own) := (e2.ext x3).grow
    -- the test
    have h4 := sat_bind h3
    refine ⟨L2' ++ M, ρ3, S3, s4, e4, ?_⟩
    refine sat_mono h4 (fun b S5 h5 H5 L5 x5 s5 => ?_) fun _ _ z => z.elim
    have ouF5 : ∀ a ∈ F3 ++ Fa, a ∉ L5 := fun a ha => by
      obtain ⟨o, ho⟩ := trF a ha
      exact x5.out ho (outF a ha)
    have c5 : ∀ {Z : List Addr}, (∀ a ∈ Z, a ∈ F3 ++ Fa) → Car H3 (L2' ++ M) H5 L5 Z := fun hz => x5.car fun a ha => outF a (hz a ha)
    have hD5 : H5 Dn = some (.lst acc) := x5.frame _ _ nDM hD3
    have nDL5 : Dn ∉ L5 := x5.out hD3 nDM
    have x45 := x4.trans x5
    cases b with
    | false =>
      simp only [Bool.false_eq_true, if_false]
      have h5 : (compF gu (evalG g) ft fe (wipeD ρ own) ds S5).sat (fun ys S2 => lcFin C R E H L Q (ysD ++ ys) S2) (fun _ _ => False) := h5
      exact ⟨by omega, L5, S5, F3, ysD, acc, Fa, x45, s5, es4.ext x5, wk.car _ _ _ _ _ _ wk4 (c5 fun a ha => List.mem_append_left _ ha), hD5, ra3.car (c5 fun a ha => List.mem_append_right _ ha), ndF, nDF3, nDL5, ouF5, nwF, by rw [← hds]; exact h5⟩
    | true =>
      simp only [if_true]
      have h5 : ((fe ρ3 S5).bind fun y S3 => (compF gu (evalG g) ft fe (wipeD ρ own) ds S3).bind fun ys S4 => .ok (y :: ys) S4).sat (fun ys S2 => lcFin C R E H L Q (ysD ++ ys) S2) (fun _ _ => False) := h5
      have h6 := sat_bind h5
      refine ⟨L5, ρ3, S5, s5, e4.ext x5, ?_⟩
      refine sat_mono h6 (fun y S6 h7 v H6 L6 F6 p6 => ?_) fun _ _ z => z.elim
      have h8 := sat_bind h7
      have x6 := p6.ext
      have hD6 : H6 Dn = some (.lst acc) := x6.frame _ _ nDL5 hD5
      have nDL6 : Dn ∉ L6 := x6.out hD5 nDL5
      have x46 := x45.trans x6
      have tr5 : ∀ a ∈ F3 ++ Fa, ∃ o, H5 a = some o := fun a ha => by
        obtain ⟨o, ho⟩ := trF a ha
        exact ⟨o, x5.frame _ _ (outF a ha) ho⟩
      have ouF6 : ∀ a ∈ F3 ++ Fa, a ∉ L6 := fun a ha => by
        obtain ⟨o, ho⟩ := tr5 a ha
        exact x6.out ho (ouF5 a ha)
      have c6 : ∀ {Z : List Addr}, (∀ a ∈ Z, a ∈ F3 ++ Fa) → Car H5 L5 H6 L6 Z := fun hz => x6.car fun a ha => ouF5 a (hz a ha)
      have nDF6 : Dn ∉ F6 := fun z => by
        have := p6.fr.new _ z
        rw [hD5] at this; cases this
      have dis : ∀ a ∈ F3 ++ Fa, a ∉ F6 := fun a ha z => by
        obtain ⟨o, ho⟩ := tr5 a ha
        rw [p6.fr.new a z] at ho; cases ho
      have ck : ∀ {Z : List Addr}, Dn ∉ Z → Car H6 L6 (upd H6 Dn (.lst (acc ++ [v]))) L6 Z := fun hz => car_poke hD6 rfl hz
      have e6 : SimE C (upd H6 Dn (.lst (acc ++ [v]))) L6 (wipeD ρ own) (wipe σ own) :=
        ⟨es4.1, fun j dd hj => by
          obtain ⟨u, h1, h2⟩ := ((es4.ext x5).ext x6).2 j dd hj
          exact ⟨u, h1, h2.car (ck (by simp))⟩⟩
      have hlenA : acc.length = ysD.length := ra3.length.symm
      have hsz : acc.length < sizeLine := by
        cases hq : compF gu (evalG g) ft fe (wipeD ρ own) ds S6 with
        | ok zs S7 =>
          rw [hq] at h8
          have h8 : lcFin C R E H L Q (ysD ++ y :: zs) S7 := h8
          unfold lcFin at h8
          by_cases hz : (ysD ++ y :: zs).length ≤ sizeLine
          · rw [List.length_append, List.length_cons] at hz; omega
          · rw [if_neg hz] at h8; exact h8.elim
        | ex z S7 => rw [hq] at h8; exact h8.elim
        | stuck => rw [hq] at h8; exact h8.elim
      refine ⟨acc, hD6, hsz, by omega, L6, S6, F3, ysD ++ [y], acc ++ [v], Fa ++ F6, x46.poke hDH hD6, p6.sim.poke hD6 rfl nDL6, e6, ?_, upd_same, ?_, ?_, ?_, nDL6, ?_, ?_, ?_⟩
      · exact wk.car _ _ _ _ _ _ (wk.car _ _ _ _ _ _ (wk.car _ _ _ _ _ _ wk4 (c5 fun a ha => List.mem_append_left _ ha)) (c6 fun a ha => List.mem_append_left _ ha)) (ck fun z => nDF3 (List.mem_append_left _ z))
      · have q1 : Reps C (upd H6 Dn (.lst (acc ++ [v]))) L6 ysD acc Fa := ((ra3.car (c5 fun a ha => List.mem_append_right _ ha)).car (c6 fun a ha => List.mem_append_right _ ha)).car (ck fun z => nDF3 (List.mem_append_right _ z))
        have q2 : Rep C (upd H6 Dn (.lst (acc ++ [v]))) L6 y v F6 := p6.rep.car (ck nDF6)
        have q3 := q1.append (Reps.cons q2 .nil)
        simpa using q3
      · rw [← List.append_assoc, List.nodup_append]
        exact ⟨ndF, p6.fr.nd, fun a ha b hb z => dis a ha (z ▸ hb)⟩
      · rw [← List.append_assoc]
        intro z
        rcases List.mem_append.mp z with q | q
        · exact nDF3 q
        · exact nDF6 q
      · rw [← List.append_assoc]
        intro a ha
        rcases List.mem_append.mp ha with q | q
        · exact ouF6 a q
        · exact p6.fr.out a q
      · rw [← List.append_assoc]
        intro a ha
        rcases List.mem_append.mp ha with q | q
        · exact nwF a q
        · exact x45.dom a (p6.fr.new a q)
      · rw [← hds]
        refine sat_mono h8 (fun zs S7 z => ?_) fun _ _ z => z
        have z : lcFin C R E H L Q (ysD ++ y :: zs) S7 := z
        rw [List.append_assoc]; exact z
section
variable {scope : Scope} {own : List (Str × Nat)} {g : G} {sl : List Nat} {fi : AEnv → Store → Rs (List D × List (Nat × List D))}
theorem ee_lc (hc : X.calm = true) (hN : X.N.Nodup) (hi : EI C R X E tg iter fi) (ok : BlkOk X.N X.env.scope scope own) (hsl : ∀ i ∈ sl, i ∈ own.map (·.2))
    (hg : ∀ (s : Shared) (H : Hp) (Ca : Addr) (cl : List (Str × Addr)) (fp : List Addr), EG C (X.blk s H scope (compEnvC scope cl Ca X.env) fp) tg sl (evalG g))
    (ht : ∀ (s : Shared) (H : Hp) (Ca : Addr) (cl : List (Str × Addr)) (fp : List Addr), EF C R (X.blk s H scope (compEnvC scope cl Ca X.env) fp) E0' ifs ft)
    (he : ∀ (s : Shared) (H : Hp) (Ca : Addr) (cl : List (Str × Addr)) (fp : List Addr), EE C R (X.blk s H scope (compEnvC scope cl Ca X.env) fp) E0' elt fe) (hs : ∀ x, foldedSetIterable iter X.env x = pure x) :
    EE C R X E (.ListComp elt [⟨tg, iter, ifs, 0⟩] scope pos) (fun ρ S => (fi ρ S).bind fun r S1 => (compF r.2 (evalG g) ft fe (wipeD ρ (own.map (·.2))) r.1 S1).noex.bind fun ys S2 => if ys.length ≤ sizeLine then .ok (.new (.lst ys)) S2 else .stuck) := by
  obtain ⟨wi, pi, gi⟩ := hi
  exact ⟨_, pe_lc hc hN pi ok (fun s H Ca cl fp => (hg s H Ca cl fp).canon) (fun s H Ca cl fp => (ht s H Ca cl fp).canon) (fun s H Ca cl fp => (he s H Ca cl fp).canon) hs, lc_good hsl gi⟩
end
end
end Nv
/-! Nv: dicts written out, dict(..), sorted(..). -/
namespace Nv
open PySem PySem.Spec PyProof.Rows L2
section
variable {C : Cxt} {R : XR} {X : Cx} {E : XK} {pos p0 : Pos} {a b c e : Expr} {fk fv : AEnv → Store → Rs D} {fs : AEnv → Store → Rs (List D)}
/-! ### displays -/
def flatP : List (V × V) → List V
  | [] => []
  | (x, y) :: r => x :: y :: flatP r
def GoodP (C : Cxt) (R : XR) (E : XK) (trs : List (TE × TE)) (f : AEnv → Store → Rs (List D)) : Prop :=
  ∀ (σ : L2.St) (H : Hp) (L : List Addr) (ρ : AEnv) (S : Store) (Q : List (V × V) → Hp → Prop), SimS C H L S → SimE C H L ρ σ →
    (f ρ S).sat (fun ds S' => ∀ ps H' L' F, PostL C H L S' ds (flatP ps) H' L' F → Q ps H') (ExW C R E H L) → tPairs trs σ H Q
def EP' (C : Cxt) (R : XR) (X : Cx) (E : XK) (pos : Pos) (ks : List (Option Expr)) (vs : List Expr) (f : AEnv → Store → Rs (List D)) : Prop :=
  ∃ trs, PPs X pos ks vs trs ∧ ks.all (·.isSome) = true ∧ ks.length = vs.length ∧ GoodP C R E trs f
theorem ep_nil : EP' C R X E pos [] [] (fun _ S => .ok [] S) :=
  ⟨[], pps_nil, rfl, rfl, fun σ H L ρ S Q s e h => h [] H L [] ⟨Ext.refl H L, s, .nil, Fr.nil H L⟩⟩
theorem ep_cons {k v : Expr} {ks : List (Option Expr)} {vs : List Expr} (hk : EE C R X E k fk) (hv : EE C R X E v fv) (hr : EP' C R X E pos ks vs fs) :
    EP' C R X E pos (some k :: ks) (v :: vs) (fun ρ S => (fk ρ S).bind fun x S1 => ((fv ρ S1).bind fun y S2 => (fs ρ S2).bind fun xs S3 => .ok (y :: xs) S3).bind fun xs S3 => .ok (x :: xs) S3) := by
  obtain ⟨tk, pk, gk⟩ := hk
  obtain ⟨tv, pv, gv⟩ := hv
  obtain ⟨trs, pr, h1, h2, gr⟩ := hr
  refine ⟨(tk, tv) :: trs, pps_cons pk pv pr, by rw [List.all_cons, h1]; rfl, by rw [List.length_cons, List.length_cons, h2], fun σ H L ρ S Q s e h => ?_⟩
  refine gk.first s e (fun _ _ z => z) h fun x S1 u H1 L1 F1 p1 e1 h1 => ?_
  have h1' : ((fv ρ S1).bind fun y S2 => (fs ρ S2).bind fun xs S3 => .ok (x :: y :: xs) S3).sat (fun ds S' => ∀ ps H' L' F, PostL C H L S' ds (flatP ps) H' L' F → Q ps H') (ExW C R E H L) := by
    cases hfv : fv ρ S1 with
    | ok y S2 =>
      rw [hfv] at h1
      cases hfs : fs ρ S2 with
      | ok z S3 => simp only [Rs.bind, hfs] at h1 ⊢; exact h1
      | ex z S3 => simp only [Rs.bind, hfs] at h1 ⊢; exact h1
      | stuck => simp only [Rs.bind, hfs] at h1 ⊢; exact h1
    | ex y S2 => rw [hfv] at h1; exact h1
    | stuck => rw [hfv] at h1; exact h1
  refine gv.first p1.sim e1 (fun _ _ z => z.later p1.ext) h1' fun y S2 w H2 L2 F2 p2 e2 h2 => ?_
  have x12 := p1.ext.trans p2.ext
  have h3 := sat_bind h2
  refine gr σ H2 L2 ρ S2 _ p2.sim e2 (sat_mono h3 (fun ds S3 z ps H3 L3 F3 p3 => ?_) fun _ _ z => z.later x12)
  exact z ((u, w) :: ps) H3 L3 _ (PostL.cons p1 (PostL.cons p2 p3))
theorem mergeK_app : ∀ (kvs acc : List (L2.Key × V)), ((acc ++ kvs).map (·.1)).Nodup → mergeK acc kvs = acc ++ kvs
  | [], acc, _ => by simp [mergeK]
  | (k, v) :: r, acc, h => by
    show mergeK (putK acc k v) r = _
    have hn : valV acc k = none := by
      have h' := h
      rw [List.map_append, List.map_cons, List.nodup_append] at h'
      have : k ∉ acc.map (·.1) := fun hm => h'.2.2 k hm k List.mem_cons_self rfl
      have a := valV_any k acc
      cases hv : valV acc k with
      | none => rfl
      | some w =>
        rw [hv] at a
        obtain ⟨p, hp, hpk⟩ := List.any_eq_true.mp a
        exact absurd (List.mem_map.mpr ⟨p, hp, of_decide_eq_true hpk⟩) this
    rw [putK_new v hn, mergeK_app r (acc ++ [(k, v)]) (by simpa using h)]
    simp
theorem twos_rep {H : Hp} {L : List Addr} : ∀ {ps : List (V × V)} {ds : List D} {F : List Addr}, Reps C H L ds (flatP ps) F → freshK (twos ds) = true →
    ∃ (kvs : List (L2.Key × V)) (G : List Addr), ps = kvs.map (fun kv => (kV kv.1, kv.2)) ∧ RepKs C H L (twos ds) kvs G ∧ G.Sublist F ∧ (kvs.map (·.1)).Nodup ∧ kvs.map (fun kv => some kv.1) = (twos ds).map fun p => keyD p.1
  | [], ds, F, r, h => by
    cases ds with
    | nil => exact ⟨[], [], rfl, .nil, List.nil_sublist _, List.nodup_nil, rfl⟩
    | cons d ds => cases r
  | (x, y) :: ps, ds, F, r, h => by
    cases r with
    | cons r1 r2 =>
      rename_i d1 F1 ds1 F2
      cases r2 with
      | cons r2 r3 =>
        rename_i d2 F3 ds2 F4
        have h' : ((keyD d1).isSome && ((twos ds2).all fun p => decide (keyD p.1 ≠ keyD d1)) && freshK (twos ds2)) = true := h
        simp only [Bool.and_eq_true] at h'
        obtain ⟨⟨h1, h2⟩, h3⟩ := h'
        obtain ⟨kvs, G, e1, e2, e3, e4, e5⟩ := twos_rep r3 h3
        cases hk : keyD d1 with
        | none => rw [hk] at h1; cases h1
        | some q =>
          have ex := key_rep r1 hk
          subst ex; subst e1
          refine ⟨(q, y) :: kvs, F3 ++ G, rfl, .cons (key_repK hk) r2 e2, ?_, ?_, ?_⟩
          · exact ((List.Sublist.refl F3).append e3).trans (List.sublist_append_right _ _)
          · rw [List.map_cons, List.nodup_cons]
            refine ⟨fun hm => ?_, e4⟩
            obtain ⟨p, hp, hpq⟩ := List.mem_map.mp hm
            have : some q ∈ kvs.map (fun kv => some kv.1) := List.mem_map.mpr ⟨p, hp, by rw [hpq]⟩
            rw [e5] at this
            obtain ⟨p', hp', e'⟩ := List.mem_map.mp this
            have := of_decide_eq_true (List.all_eq_true.mp h2 p' hp')
            rw [hk] at this
            exact this e'
          · show some q :: kvs.map (fun kv => some kv.1) = keyD d1 :: (twos ds2).map fun p => keyD p.1
            rw [e5, hk]
theorem flat_len : ∀ ps : List (V × V), (flatP ps).length = 2 * ps.length
  | [] => rfl
  | _ :: r => by show (flatP r).length + 1 + 1 = _; rw [flat_len r, List.length_cons]; omega
theorem ee_disp {ks : List (Option Expr)} {vs : List Expr} (h : EP' C R X E pos ks vs fs) (h15 : ks.length ≤ 15) (h0 : ks = [] → fs = fun _ S => .ok [] S) :
    EE C R X E (.Dict ks vs pos) (fun ρ S => (fs ρ S).bind fun xs S1 => if xs.length ≤ 30 ∧ freshK (twos xs) = true then .ok (.new (.dct (twos xs))) S1 else .stuck) := by
  obtain ⟨trs, pp, hall, hl, gp⟩ := h
  cases hks : ks with
  | nil =>
    subst hks
    have e0 := h0 rfl
    subst e0
    have : vs = [] := List.length_eq_zero_iff.mp hl.symm
    subst this
    refine ⟨_, pe_dnewK, fun σ H L ρ S Q s e h => ?_⟩
    intro p hp
    have h : OkW C H L Q (.new (.dct [])) S := h
    have x2 : Ext H L (upd H p (.dK [])) L := Ext.new hp
    exact h (.ref p) _ L [p] ⟨x2, s.new hp (s.notin hp), .new upd_same (.dct .nil), ⟨fun a ha => by rw [List.mem_singleton.mp ha]; exact hp, by simp, fun a ha => by rw [List.mem_singleton.mp ha]; exact s.notin hp⟩⟩
  | cons k ks' =>
    have hne : ks ≠ [] := by rw [hks]; simp
    rw [← hks]
    refine ⟨_, pe_disp pp hall hl hne h15, fun σ H L ρ S Q s e h => ?_⟩
    intro p hp
    have hn := s.notin hp
    have x1 : Ext H L (upd H p (.dK [])) L := Ext.new hp
    have h' := sat_bind h
    refine gp σ (upd H p (.dK [])) L ρ S _ (s.new hp hn) (e.ext x1) (sat_mono h' (fun ds S1 z ps H2 L2 F p2 => ?_) fun _ _ z => z.later x1)
    by_cases q : ds.length ≤ 30 ∧ freshK (twos ds) = true
    · rw [if_pos q] at z
      have z : OkW C H L Q (.new (.dct (twos ds))) S1 := z
      obtain ⟨kvs, G, e1, e2, e3, e4, e5⟩ := twos_rep p2.rep q.2
      have hD : H2 p = some (.dK []) := p2.ext.frame _ _ hn upd_same
      have nDL : p ∉ L2 := p2.ext.out upd_same hn
      have nDF : p ∉ F := fun hm => by
        have := p2.fr.new p hm
        rw [upd_same] at this; cases this
      refine ⟨hD, kvs, e1, ?_, ?_⟩
      · have l1 := p2.rep.length
        rw [flat_len, e1, List.length_map] at l1
        omega
      · rw [mergeK_app kvs [] (by simpa using e4), List.nil_append]
        have x2 : Ext H L (upd H2 p (.dK kvs)) L2 := (x1.trans p2.ext).poke hp hD
        refine z (.ref p) _ L2 (p :: G) ⟨x2, p2.sim.poke hD rfl nDL, .new upd_same (.dct (e2.car (car_poke hD rfl fun hm => nDF (e3.subset hm)))), ⟨fun a ha => ?_, ?_, fun a ha => ?_⟩⟩
        · rcases List.mem_cons.mp ha with w | w
          · rw [w]; exact hp
          · exact x1.dom a (p2.fr.new a (e3.subset w))
        · exact List.nodup_cons.mpr ⟨fun hm => nDF (e3.subset hm), p2.fr.nd.sublist e3⟩
        · rcases List.mem_cons.mp ha with w | w
          · rw [w]; exact nDL
          · exact p2.fr.out a (e3.subset w)
    · rw [if_neg q] at z; exact z.elim
end
end Nv
/-! Nv: comprehensions of two clauses, dict comprehensions. -/
namespace Nv
open PySem PySem.Spec PyProof.Rows L2
/-- what is carried along: a footprint's facts -/
structure Pers (P : Hp → List Addr → List Addr → Prop) : Prop where
  car : ∀ H L H' L' F, P H L F → Car H L H' L' F → P H' L' F
  trk : ∀ H L F, P H L F → ∀ a ∈ F, ∃ o, H a = some o
def Both (P Q : Hp → List Addr → List Addr → Prop) : Hp → List Addr → List Addr → Prop := fun H L F => ∃ F1 F2, F = F1 ++ F2 ∧ P H L F1 ∧ Q H L F2
theorem Pers.both {P Q : Hp → List Addr → List Addr → Prop} (p : Pers P) (q : Pers Q) : Pers (Both P Q) where
  car := by
    rintro H L H' L' F ⟨F1, F2, rfl, h1, h2⟩ c
    exact ⟨F1, F2, rfl, p.car _ _ _ _ _ h1 (c.sub fun a ha => List.mem_append_left _ ha), q.car _ _ _ _ _ h2 (c.sub fun a ha => List.mem_append_right _ ha)⟩
  trk := by
    rintro H L F ⟨F1, F2, rfl, h1, h2⟩ a ha
    rcases List.mem_append.mp ha with w | w
    · exact p.trk _ _ _ h1 a w
    · exact q.trk _ _ _ h2 a w
theorem WalkI.pers {C : Cxt} {J : L2.It} {items : List D} {gu : List (Nat × List D)} {Wk : Nat → Hp → List Addr → List Addr → Prop} (w : WalkI C J items gu Wk) (i : Nat) : Pers (Wk i) := ⟨fun H L H' L' F h c => w.car i H L H' L' F h c, fun H L F h => w.trk i H L F h⟩
theorem pers_reps {C : Cxt} {xs : List D} {vs : List V} : Pers (fun H L F => Reps C H L xs vs F) := ⟨fun _ _ _ _ _ h c => h.car c, fun _ _ _ h => h.trk⟩
theorem pers_repKs {C : Cxt} {xs : List (D × D)} {vs : List (L2.Key × V)} : Pers (fun H L F => RepKs C H L xs vs F) := ⟨fun _ _ _ _ _ h c => h.car c, fun _ _ _ h => h.trk⟩
/-- the loop's state: from H with the cells L; Dn the object that is filled, ho what stands there; PO what is carried, RO what was filled -/
structure LS (C : Cxt) (H : Hp) (L : List Addr) (Dn : Addr) (PO RO : Hp → List Addr → List Addr → Prop) (ho : HO) (H' : Hp) (L' : List Addr) (S' : Store) (F' Fa : List Addr) : Prop where
  ext : Ext H L H' L'
  sim : SimS C H' L' S'
  po : PO H' L' F'
  at_ : H' Dn = some ho
  ro : RO H' L' Fa
  nd : (F' ++ Fa).Nodup
  nD : Dn ∉ F' ++ Fa
  nL : Dn ∉ L'
  ou : ∀ a ∈ F' ++ Fa, a ∉ L'
  nw : ∀ a ∈ F' ++ Fa, H a = none
section
variable {C : Cxt} {H : Hp} {L : List Addr} {Dn : Addr} {PO RO : Hp → List Addr → List Addr → Prop} {ho : HO} {H' : Hp} {L' : List Addr} {S' : Store} {F' Fa : List Addr}
theorem LS.trk (s : LS C H L Dn PO RO ho H' L' S' F' Fa) (po : Pers PO) (ro : Pers RO) : ∀ a ∈ F' ++ Fa, ∃ o, H' a = some o := fun a ha => by
  rcases List.mem_append.mp ha with q | q
  · exact po.trk _ _ _ s.po a q
  · exact ro.trk _ _ _ s.ro a q
theorem LS.later (s : LS C H L Dn PO RO ho H' L' S' F' Fa) (po : Pers PO) (ro : Pers RO) {H2 : Hp} {L2 : List Addr} {S2 : Store} (x : Ext H' L' H2 L2) (s2 : SimS C H2 L2 S2) : LS C H L Dn PO RO ho H2 L2 S2 F' Fa := by
  have c : ∀ {Z : List Addr}, (∀ a ∈ Z, a ∈ F' ++ Fa) → Car H' L' H2 L2 Z := fun hz => x.car fun a ha => s.ou a (hz a ha)
  refine ⟨s.ext.trans x, s2, po.car _ _ _ _ _ s.po (c fun a ha => List.mem_append_left _ ha), x.frame _ _ s.nL s.at_, ro.car _ _ _ _ _ s.ro (c fun a ha => List.mem_append_right _ ha), s.nd, s.nD, x.out s.at_ s.nL, fun a ha => ?_, s.nw⟩
  obtain ⟨o, h⟩ := s.trk po ro a ha
  exact x.out h (s.ou a ha)
/-- less is carried, some of it has become cells -/
theorem LS.take (s : LS C H L Dn PO RO ho H' L' S' F' Fa) (po : Pers PO) (ro : Pers RO) {PO' : Hp → List Addr → List Addr → Prop} (po' : Pers PO') {F2 M : List Addr} {S2 : Store} (h : PO' H' L' F2) (sub : ∀ a ∈ F2, a ∈ F') (nd : F2.Nodup) (hM : ∀ a ∈ M, a ∈ F') (dis : ∀ a ∈ M, a ∉ F2) (s2 : SimS C H' (L' ++ M) S2) :
    LS C H L Dn PO' RO ho H' (L' ++ M) S2 F2 Fa := by
  have nd' := List.nodup_append.mp s.nd
  have cg : ∀ {Z : List Addr}, Car H' L' H' (L' ++ M) Z := car_grow
  refine ⟨?_, s2, po'.car _ _ _ _ _ h cg, s.at_, ro.car _ _ _ _ _ s.ro cg, ?_, ?_, ?_, fun a ha => ?_, fun a ha => ?_⟩
  · obtain ⟨N, en, nn⟩ := s.ext.pre
    refine ⟨⟨N ++ M, by rw [en, List.append_assoc], fun a ha => ?_⟩, s.ext.frame, s.ext.tups, s.ext.frzs, s.ext.dom⟩
    rcases List.mem_append.mp ha with q | q
    · exact nn a q
    · exact s.nw a (List.mem_append_left _ (hM a q))
  · rw [List.nodup_append]
    exact ⟨nd, nd'.2.1, fun a ha b hb => nd'.2.2 a (sub a ha) b hb⟩
  · intro z
    rcases List.mem_append.mp z with q | q
    · exact s.nD (List.mem_append_left _ (sub _ q))
    · exact s.nD (List.mem_append_right _ q)
  · intro z
    rcases List.mem_append.mp z with q | q
    · exact s.nL q
    · exact s.nD (List.mem_append_left _ (hM _ q))
  · intro z
    rcases List.mem_append.mp ha with q | q
    · rcases List.mem_append.mp z with w | w
      · exact s.ou a (List.mem_append_left _ (sub a q)) w
      · exact dis a w q
    · rcases List.mem_append.mp z with w | w
      · exact s.ou a (List.mem_append_right _ q) w
      · exact nd'.2.2 a (hM a w) a q rfl
  · rcases List.mem_append.mp ha with q | q
    · exact s.nw a (List.mem_append_left _ (sub a q))
    · exact s.nw a (List.mem_append_right _ q)
/-- new objects F6 come, and the object is filled -/
theorem LS.fill (s : LS C H L Dn PO RO ho H' L' S' F' Fa) (po : Pers PO) (m : mutO ho = true) {ho' : HO} {RO' : Hp → List Addr → List Addr → Prop} {Fb : List Addr} (hb : RO' H' L' Fb) (ro' : Pers RO') (nd : (F' ++ Fb).Nodup) (nD : Dn ∉ Fb) (ou : ∀ a ∈ Fb, a ∉ L') (nw : ∀ a ∈ Fb, H a = none) (hDH : H Dn = none) :
    LS C H L Dn PO RO' ho' (upd H' Dn ho') L' S' F' Fb := by
  have ck : ∀ {Z : List Addr}, Dn ∉ Z → Car H' L' (upd H' Dn ho') L' Z := fun hz => car_poke s.at_ m hz
  have nF : Dn ∉ F' := fun z => s.nD (List.mem_append_left _ z)
  refine ⟨s.ext.poke hDH s.at_, s.sim.poke s.at_ m s.nL, po.car _ _ _ _ _ s.po (ck nF), upd_same, ro'.car _ _ _ _ _ hb (ck nD), nd, ?_, s.nL, fun a ha => ?_, fun a ha => ?_⟩
  · intro z
    rcases List.mem_append.mp z with q | q
    · exact nF q
    · exact nD q
  · rcases List.mem_append.mp ha with q | q
    · exact s.ou a (List.mem_append_left _ q)
    · exact ou a q
  · rcases List.mem_append.mp ha with q | q
    · exact s.nw a (List.mem_append_left _ q)
    · exact nw a q
end
/-! ### a loop -/
/-- the state somewhere behind: K what the evaluator asks of what was filled -/
def LG (C : Cxt) (H : Hp) (L : List Addr) (Dn : Addr) (PO : Hp → List Addr → List Addr → Prop) (K : List D → Store → Prop) (H' : Hp) : Prop :=
  ∃ (L' : List Addr) (S' : Store) (F' Fa : List Addr) (ys : List D) (acc : List V), LS C H L Dn PO (fun H L F => Reps C H L ys acc F) (.lst acc) H' L' S' F' Fa ∧ K ys S'
section
variable {C : Cxt} {R : XR} {H : Hp} {L : List Addr} {Dn : Addr} {ft : AEnv → Store → Rs Bool}
/-- a turn's body keeps its promise -/
def BodyOk (C : Cxt) (H : Hp) (L : List Addr) (Dn : Addr) (tb : L2.St → Hp → (Hp → Prop) → Prop) (body : AEnv → Store → Rs (List D)) : Prop :=
  ∀ (PO : Hp → List Addr → List Addr → Prop) (K : List D → Store → Prop) (σ : L2.St) (ρ : AEnv) (H' : Hp) (L' : List Addr) (S' : Store) (F' Fa : List Addr) (ys : List D) (acc : List V) (Nx : Hp → Prop), Pers PO → (∀ ys S, K ys S → ys.length ≤ sizeLine) →
    LS C H L Dn PO (fun H L F => Reps C H L ys acc F) (.lst acc) H' L' S' F' Fa → SimE C H' L' ρ σ → (body ρ S').sat (fun zs S2 => K (ys ++ zs) S2) (fun _ _ => False) → (∀ H2, LG C H L Dn PO K H2 → Nx H2) → tb σ H' Nx
theorem loop_ok {J : L2.It} {items : List D} {gu : List (Nat × List D)} {Wk : Nat → Hp → List Addr → List Addr → Prop} (wk : WalkI C J items gu Wk) {g : G} {sl own : List Nat} (hsl : ∀ i ∈ sl, i ∈ own) {tb : L2.St → Hp → (Hp → Prop) → Prop} {body : AEnv → Store → Rs (List D)} (bo : BodyOk C H L Dn tb body)
    {PO : Hp → List Addr → List Addr → Prop} (po : Pers PO) {K : List D → Store → Prop} (hK : ∀ ys S, K ys S → ys.length ≤ sizeLine) {A : Hp → Prop} (fin : ∀ H2, LG C H L Dn PO K H2 → A H2) {σ : L2.St} {ρ : AEnv} {H1 : Hp} {L1 : List Addr} {S1 : Store} {F1 Fa1 : List Addr} {ys1 : List D} {acc1 : List V}
    (s1 : LS C H L Dn (Both (Wk 0) PO) (fun H L F => Reps C H L ys1 acc1 F) (.lst acc1) H1 L1 S1 F1 Fa1) (e1 : SimE C H1 L1 ρ σ) (h1 : (compG gu (evalG g) ft body (wipeD ρ own) items S1).sat (fun zs S2 => K (ys1 ++ zs) S2) (fun _ _ => False)) :
    ∃ W : Nat → Nat → Hp → Prop, (∃ m, W 0 m H1) ∧ ∀ i m H', W i m H' → (J.stop i H' ∧ A H') ∨ (J.go i H' ∧ ∃ Nx : Hp → Prop, (∀ H', Nx H' → ∃ m', m' < m ∧ W (i + 1) m' H') ∧ ∀ x H3, J.yld i H' x H3 →
      cG C sl (evalG g) x (wipe σ own) H3 fun σ2 H2 => wipe σ2 own = wipe σ own ∧ cT C R E0' ft σ2 H2 fun b H3 => if b = true then tb σ2 H3 Nx else Nx H3) := by
  -- the environment ahead of each turn, of which nothing made is a part
  let EnvOk : Hp → List Addr → List Addr → Prop := fun H' L' F => F = [] ∧ SimE C H' L' (wipeD ρ own) (wipe σ own)
  let W : Nat → Nat → Hp → Prop := fun i m H' => m + i = items.length ∧ ∃ (L' : List Addr) (S' : Store) (F' Fa : List Addr) (ys : List D) (acc : List V),
    LS C H L Dn (Both (Wk i) PO) (fun H L F => Reps C H L ys acc F) (.lst acc) H' L' S' F' Fa ∧ SimE C H' L' (wipeD ρ own) (wipe σ own) ∧
      (compG gu (evalG g) ft body (wipeD ρ own) (items.drop i) S').sat (fun zs S2 => K (ys ++ zs) S2) (fun _ _ => False)
  refine ⟨W, ⟨items.length, rfl, L1, S1, F1, Fa1, ys1, acc1, s1, e1.wipes own, h1⟩, ?_⟩
  rintro i m H2 ⟨hm, L2', S2, F2, Fa, ys, acc, s2, e2, h2⟩
  have gd : guardOk gu S2 = true := by
    cases hq : guardOk gu S2 with
    | true => rfl
    | false =>
      cases hd : items.drop i with
      | nil => rw [hd] at h2; simp only [compG, hq] at h2; exact h2.elim
      | cons d ds => rw [hd] at h2; simp only [compG, hq] at h2; exact h2.elim
  obtain ⟨Fw, Fo, rfl, w2, o2⟩ := s2.po
  have nd2 := List.nodup_append.mp s2.nd
  have ndw := List.nodup_append.mp nd2.1
  have ouW : ∀ a ∈ Fw, a ∉ L2' := fun a ha => s2.ou a (List.mem_append_left _ (List.mem_append_left _ ha))
  cases hd : items.drop i with
  | nil =>
    rw [hd] at h2
    simp only [compG, gd, if_true] at h2
    have hlen : items.length ≤ i := by
      have := congrArg List.length hd
      simp at this; omega
    have h2 : K (ys ++ []) S2 := h2
    rw [List.append_nil] at h2
    refine .inl ⟨wk.stop i H2 L2' S2 Fw w2 s2.sim gd hlen, fin H2 ⟨L2', S2, Fo, Fa, ys, acc, ?_, h2⟩⟩
    have := s2.take ((wk.pers i).both po) pers_reps po (M := []) o2 (fun a ha => List.mem_append_right _ ha) ndw.2.1 (by simp) (by simp) (by rw [List.append_nil]; exact s2.sim)
    rwa [List.append_nil] at this
  | cons d ds =>
    rw [hd] at h2
    simp only [compG, gd, if_true] at h2
    have hi : items[i]? = some d := by
      have : (items.drop i)[0]? = some d := by rw [hd]; rfl
      rwa [List.getElem?_drop, Nat.add_zero] at this
    have hds : ds = items.drop (i + 1) := by
      have : (items.drop i).drop 1 = ds := by rw [hd]; rfl
      rw [← this, List.drop_drop]
    have hlt : i < items.length := (List.getElem?_eq_some_iff.mp hi).1
    obtain ⟨go, yl⟩ := wk.go i H2 L2' S2 Fw d w2 s2.sim gd ndw.1 ouW hi
    refine .inr ⟨go, fun H' => W (i + 1) (m - 1) H', fun H' z => ⟨m - 1, by omega, z⟩, fun x H3 hy => ?_⟩
    obtain ⟨G, F3, x3, s3, r3, wk3, ndGF0, sub⟩ := yl x H3 hy
    have ndGF := List.nodup_append.mp ndGF0
    have subG : ∀ a ∈ G, a ∈ Fw := fun a ha => sub a (List.mem_append_left _ ha)
    have subF : ∀ a ∈ F3, a ∈ Fw := fun a ha => sub a (List.mem_append_right _ ha)
    have h3 := sat_bind h2
    have t3 := s2.later ((wk.pers i).both po) pers_reps x3 s3
    refine ⟨L2', S2, wipeD ρ own, d, G, s3, e2.ext x3, r3, ndGF.1, fun a ha => ouW a (subG a ha), ?_⟩
    refine sat_mono h3 (fun ρ3 S3 h3 σ3 M s4 e4 hM wip => ?_) fun _ _ z => z
    refine ⟨wipe_wip wip hsl, ?_⟩
    obtain ⟨_, _, _, _, o3⟩ := t3.po
    have o3' : PO H3 L2' Fo := po.car _ _ _ _ _ o2 (x3.car fun a ha => s2.ou a (List.mem_append_left _ (List.mem_append_right _ ha)))
    have bothP : Pers (Both (Wk (i + 1)) PO) := (wk.pers (i + 1)).both po
    have t4 : LS C H L Dn (Both (Wk (i + 1)) PO) (fun H L F => Reps C H L ys acc F) (.lst acc) H3 (L2' ++ M) S3 (F3 ++ Fo) Fa := by
      refine t3.take ((wk.pers i).both po) pers_reps bothP ⟨F3, Fo, rfl, wk3, o3'⟩ (fun a ha => ?_) ?_ (fun a ha => List.mem_append_left _ (subG a (hM a ha))) (fun a ha z => ?_) s4
      · rcases List.mem_append.mp ha with q | q
        · exact List.mem_append_left _ (subF a q)
        · exact List.mem_append_right _ q
      · rw [List.nodup_append]
        exact ⟨ndGF.2.1, ndw.2.1, fun a ha b hb => ndw.2.2 a (subF a ha) b hb⟩
      · rcases List.mem_append.mp z with q | q
        · exact ndGF.2.2 a (hM a ha) a q rfl
        · exact ndw.2.2 a (subG a (hM a ha)) a q rfl
    have es4 : SimE C H3 (L2' ++ M) (wipeD ρ own) (wipe σ own) := (e2.ext x3).grow
    have h4 := sat_bind h3
    refine ⟨L2' ++ M, ρ3, S3, s4, e4, ?_⟩
    refine sat_mono h4 (fun b S5 h5 H5 L5 x5 s5 => ?_) fun _ _ z => z.elim
    have t5 := t4.later bothP pers_reps x5 s5
    cases b with
    | false =>
      simp only [Bool.false_eq_true, if_false]
      have h5 : (compG gu (evalG g) ft body (wipeD ρ own) ds S5).sat (fun zs S2 => K (ys ++ zs) S2) (fun _ _ => False) := h5
      exact ⟨by omega, L5, S5, _, Fa, ys, acc, t5, es4.ext x5, by rw [← hds]; exact h5⟩
    | true =>
      simp only [if_true]
      have h5 : ((body ρ3 S5).bind fun zs S3 => (compG gu (evalG g) ft body (wipeD ρ own) ds S3).bind fun us S4 => .ok (zs ++ us) S4).sat (fun zs S2 => K (ys ++ zs) S2) (fun _ _ => False) := h5
      have h6 := sat_bind h5
      -- the environment goes along with what is carried
      have envP : Pers EnvOk := ⟨fun H L H' L' F h c => ⟨h.1, ⟨h.2.1, fun j dd hj => by
        obtain ⟨u, k1, k2⟩ := h.2.2 j dd hj
        exact ⟨u, k1, k2.car (c.sub (by simp))⟩⟩⟩, fun H L F h => by rw [h.1]; simp⟩
      have t5' : LS C H L Dn (Both (Both (Wk (i + 1)) PO) EnvOk) (fun H L F => Reps C H L ys acc F) (.lst acc) H5 L5 S5 (F3 ++ Fo) Fa :=
        ⟨t5.ext, t5.sim, ⟨F3 ++ Fo, [], by simp, t5.po, rfl, es4.ext x5⟩, t5.at_, t5.ro, t5.nd, t5.nD, t5.nL, t5.ou, t5.nw⟩
      refine bo (Both (Both (Wk (i + 1)) PO) EnvOk) (fun zs S6 => (compG gu (evalG g) ft body (wipeD ρ own) ds S6).sat (fun us S2 => K (zs ++ us) S2) (fun _ _ => False)) σ3 ρ3 H5 L5 S5 _ Fa ys acc _ (bothP.both envP) (fun zs S6 hz => ?_) t5' (e4.ext x5) (sat_mono h6 (fun zs S6 hz => ?_) fun _ _ z => z) fun H6 hg => ?_
      · cases hq : compG gu (evalG g) ft body (wipeD ρ own) ds S6 with
        | ok us S7 =>
          rw [hq] at hz
          have := hK _ _ (show K (zs ++ us) S7 from hz)
          rw [List.length_append] at this; omega
        | ex z S7 => rw [hq] at hz; exact hz.elim
        | stuck => rw [hq] at hz; exact hz.elim
      · refine sat_mono (sat_bind hz) (fun us S7 w => ?_) fun _ _ z => z
        have w : K (ys ++ (zs ++ us)) S7 := w
        rwa [← List.append_assoc] at w
      · obtain ⟨L6, S6, F6, Fa6, ys6, acc6, t6, k6⟩ := hg
        obtain ⟨Fx, Fy, rfl, p6, hy, e6⟩ := t6.po
        subst hy
        have t6' : LS C H L Dn (Both (Wk (i + 1)) PO) (fun H L F => Reps C H L ys6 acc6 F) (.lst acc6) H6 L6 S6 Fx Fa6 := by
          have e0 : Fx ++ [] = Fx := List.append_nil _
          exact ⟨t6.ext, t6.sim, p6, t6.at_, t6.ro, e0 ▸ t6.nd, e0 ▸ t6.nD, t6.nL, e0 ▸ t6.ou, e0 ▸ t6.nw⟩
        exact ⟨by omega, L6, S6, Fx, Fa6, ys6, acc6, t6', e6, by rw [← hds]; exact k6⟩
/-- one item more -/
theorem push_ok {fe : AEnv → Store → Rs D} (hDH : H Dn = none) : BodyOk C H L Dn (fun σ H' Nx => cE C R E0' fe σ H' fun y H4 => ∃ acc, H4 Dn = some (.lst acc) ∧ acc.length < sizeLine ∧ Nx (upd H4 Dn (.lst (acc ++ [y])))) (fun ρ S => (fe ρ S).bind fun y S1 => .ok [y] S1) := by
  intro PO K σ ρ H' L' S' F' Fa ys acc Nx po hK s e h hN
  have h1 := sat_bind h
  refine ⟨L', ρ, S', s.sim, e, sat_mono h1 (fun y S6 h7 v H6 L6 F6 p6 => ?_) fun _ _ z => z.elim⟩
  have h7 : K (ys ++ [y]) S6 := h7
  have t := s.later po pers_reps p6.ext p6.sim
  have dis : ∀ a ∈ F' ++ Fa, a ∉ F6 := fun a ha z => by
    obtain ⟨o, ho⟩ := s.trk po pers_reps a ha
    rw [p6.fr.new a z] at ho; cases ho
  have nD6 : Dn ∉ F6 := fun z => by
    have := p6.fr.new _ z
    rw [s.at_] at this; cases this
  have nd' := List.nodup_append.mp t.nd
  refine ⟨acc, t.at_, ?_, hN _ ⟨L6, S6, F', Fa ++ F6, ys ++ [y], acc ++ [v], ?_, h7⟩⟩
  · have := hK _ _ h7
    have l1 := s.ro.length
    rw [List.length_append, List.length_cons, List.length_nil] at this
    omega
  · refine t.fill po rfl (Fb := Fa ++ F6) (RO' := fun H L F => Reps C H L (ys ++ [y]) (acc ++ [v]) F) ?_ pers_reps ?_ ?_ (fun a ha => ?_) (fun a ha => ?_) hDH
    · have := t.ro.append (Reps.cons p6.rep .nil)
      rwa [List.append_nil] at this
    · rw [← List.append_assoc, List.nodup_append]
      exact ⟨t.nd, p6.fr.nd, fun a ha b hb z => dis a ha (z ▸ hb)⟩
    · intro z
      rcases List.mem_append.mp z with q | q
      · exact t.nD (List.mem_append_right _ q)
      · exact nD6 q
    · rcases List.mem_append.mp ha with q | q
      · exact t.ou a (List.mem_append_right _ q)
      · exact p6.fr.out a q
    · rcases List.mem_append.mp ha with q | q
      · exact t.nw a (List.mem_append_right _ q)
      · exact s.ext.dom a (p6.fr.new a q)
end
/-- the weakest promise of a source -/
def cI (C : Cxt) (R : XR) (E : XK) (f : AEnv → Store → Rs (List D × List (Nat × List D))) : TI := fun σ H Rq => ∃ L ρ S, SimS C H L S ∧ SimE C H L ρ σ ∧ (f ρ S).sat (OkI C H L Rq) (ExW C R E H L)
theorem EI.canon {C : Cxt} {R : XR} {X : Cx} {E : XK} {tg it : Expr} {f : AEnv → Store → Rs (List D × List (Nat × List D))} (h : EI C R X E tg it f) : PI X tg it (cI C R E f) := by
  obtain ⟨w, p, g⟩ := h
  exact ⟨fun pins s σ H Rq I ⟨L, ρ, S, h1, h2, h3⟩ => p.run pins s σ H Rq I (g σ H L ρ S Rq h1 h2 h3)⟩
section
variable {C : Cxt} {R : XR} {X : Cx} {E : XK} {pos p0 : Pos} {e tg iter tg1 iter1 elt : Expr} {ifs ifs1 : List Expr} {fe : AEnv → Store → Rs D} {ft ft1 : AEnv → Store → Rs Bool} {scope : Scope} {own : List (Str × Nat)} {g g1 : G} {fi fi1 : AEnv → Store → Rs (List D × List (Nat × List D))}
theorem lc2_good {wi : TI} (hsl : ∀ i ∈ g.slots, i ∈ own.map (·.2)) (gi : ∀ (σ : L2.St) (H : Hp) (L : List Addr) (ρ : AEnv) (S : Store) (Rq : L2.It → Hp → Prop), SimS C H L S → SimE C H L ρ σ → (fi ρ S).sat (OkI C H L Rq) (ExW C R E H L) → wi σ H Rq) :
    GoodE C R E (tLc2 wi (cG C g.slots (evalG g)) (cT C R E0' ft) (cI C R E0' fi1) (cG C g1.slots (evalG g1)) (cT C R E0' ft1) (cE C R E0' fe) (own.map (·.2)) g1.slots) (fun ρ S => (fi ρ S).bind fun r S1 => (compG r.2 (evalG g) ft (fun ρ1 S2 => (fi1 ρ1 S2).bind fun r1 S3 => compG r1.2 (evalG g1) ft1 (fun ρ2 S4 => (fe ρ2 S4).bind fun y S5 => .ok [y] S5) (wipeD ρ1 g1.slots) r1.1 S3) (wipeD ρ (own.map (·.2))) r.1 S1).noex.bind fun ys S2 => if ys.length ≤ sizeLine then .ok (.new (.lst ys)) S2 else .stuck) := by
  intro σ H L ρ S Q s e h
  have h0 := sat_bind h
  refine gi σ H L ρ S _ s e (sat_mono h0 (fun r S1 h1 J Wk H1 L1 F1 x1 s1 f1' wk w0 => ?_) fun _ _ z => z)
  obtain ⟨items, gu⟩ := r
  have h1 := sat_noex h1
  intro Dn hDn
  have hDH : H Dn = none := x1.dom _ hDn
  have nDL : Dn ∉ L1 := s1.notin hDn
  have nDF : Dn ∉ F1 := fun hm => by
    obtain ⟨o, ho⟩ := wk.trk _ _ _ _ w0 Dn hm
    rw [hDn] at ho; cases ho
  have none_ : Pers (fun (_ : Hp) (_ : List Addr) F => F = ([] : List Addr)) := ⟨fun _ _ _ _ _ h _ => h, fun _ _ _ h => by rw [h]; simp⟩
  have st : LS C H L Dn (Both (Wk 0) fun _ _ F => F = []) (fun H L F => Reps C H L [] [] F) (.lst []) (upd H1 Dn (.lst [])) L1 S1 F1 [] := by
    have xn : Ext H1 L1 (upd H1 Dn (.lst [])) L1 := Ext.new hDn
    refine ⟨x1.trans xn, s1.new hDn nDL, ⟨F1, [], by simp, wk.car _ _ _ _ _ _ w0 (xn.car f1'.out), rfl⟩, upd_same, .nil, ?_, ?_, nDL, ?_, ?_⟩
    · rw [List.append_nil]; exact f1'.nd
    · rw [List.append_nil]; exact nDF
    · rw [List.append_nil]; exact f1'.out
    · rw [List.append_nil]; exact f1'.new
  refine loop_ok (R := R) (C := C) (H := H) (L := L) (Dn := Dn) (ft := ft) (g := g) (sl := g.slots) (own := own.map (·.2)) (tb := fun σ2 H3 Nx => cI C R E0' fi1 σ2 H3 fun J1 H4 => ∃ W1 : Nat → Nat → Hp → Prop, (∃ m, W1 0 m H4) ∧ ∀ j k H, W1 j k H →
      (J1.stop j H ∧ Nx H) ∨ (J1.go j H ∧ ∃ Nx1 : Hp → Prop, (∀ H', Nx1 H' → ∃ k', k' < k ∧ W1 (j + 1) k' H') ∧ ∀ x H', J1.yld j H x H' → cG C g1.slots (evalG g1) x (wipe σ2 g1.slots) H' fun σ3 H5 => wipe σ3 g1.slots = wipe σ2 g1.slots ∧ cT C R E0' ft1 σ3 H5 fun b H6 =>
        if b = true then cE C R E0' fe σ3 H6 fun y H7 => ∃ acc, H7 Dn = some (.lst acc) ∧ acc.length < sizeLine ∧ Nx1 (upd H7 Dn (.lst (acc ++ [y]))) else Nx1 H6))
    (body := fun ρ1 S2 => (fi1 ρ1 S2).bind fun r1 S3 => compG r1.2 (evalG g1) ft1 (fun ρ2 S4 => (fe ρ2 S4).bind fun y S5 => .ok [y] S5) (wipeD ρ1 g1.slots) r1.1 S3) wk hsl ?_ none_ (K := fun ys S2 => lcFin C R E H L Q ys S2) (fun ys S2 hk => ?_) (fun H2 hg => ?_) st (e.ext (x1.trans (Ext.new hDn))) (sat_mono h1 (fun ys S2 z => z) fun _ _ z => z)
  · -- the inner loop
    intro PO K σ2 ρ2 H' L' S' F' Fa ys acc Nx po hK ls es hb hN
    have hb1 := sat_bind hb
    refine ⟨L', ρ2, S', ls.sim, es, sat_mono hb1 (fun r1 S3 h3 J1 Wk1 H4 L4 F4 x4 s4 f4 wk1 w10 => ?_) fun _ _ z => z.elim⟩
    obtain ⟨items1, gu1⟩ := r1
    have t := ls.later po pers_reps x4 s4
    have dis : ∀ a ∈ F' ++ Fa, a ∉ F4 := fun a ha z => by
      obtain ⟨o, ho⟩ := ls.trk po pers_reps a ha
      rw [f4.new a z] at ho; cases ho
    have nd' := List.nodup_append.mp t.nd
    have st1 : LS C H L Dn (Both (Wk1 0) PO) (fun H L F => Reps C H L ys acc F) (.lst acc) H4 L4 S3 (F4 ++ F') Fa := by
      refine ⟨t.ext, t.sim, ⟨F4, F', rfl, w10, t.po⟩, t.at_, t.ro, ?_, ?_, t.nL, fun a ha => ?_, fun a ha => ?_⟩
      · rw [List.append_assoc, List.nodup_append]
        exact ⟨f4.nd, t.nd, fun a ha b hb z => dis b hb (z ▸ ha)⟩
      · intro z
        rw [List.append_assoc] at z
        rcases List.mem_append.mp z with q | q
        · have := f4.new _ q
          rw [ls.at_] at this; cases this
        · exact t.nD q
      · rw [List.append_assoc] at ha
        rcases List.mem_append.mp ha with q | q
        · exact f4.out a q
        · exact t.ou a q
      · rw [List.append_assoc] at ha
        rcases List.mem_append.mp ha with q | q
        · exact ls.ext.dom a (f4.new a q)
        · exact t.nw a q
    exact loop_ok (R := R) (ft := ft1) (g := g1) (sl := g1.slots) (own := g1.slots) wk1 (fun i hi => hi) (push_ok (R := R) hDH) po hK (A := Nx) (fun H2 z => hN H2 z) st1 (es.ext x4) h3
  · unfold lcFin at hk
    by_cases z : ys.length ≤ sizeLine
    · exact z
    · rw [if_neg z] at hk; exact hk.elim
  · obtain ⟨L2', S2, F2, Fa, ys, acc, ls, hk⟩ := hg
    have eF : F2 = [] := ls.po
    subst eF
    unfold lcFin at hk
    by_cases z : ys.length ≤ sizeLine
    · rw [if_pos z] at hk
      have nd := ls.nd
      have nD := ls.nD
      have ou := ls.ou
      have nw := ls.nw
      rw [List.nil_append] at nd nD
      simp only [List.nil_append] at ou nw
      refine hk _ H2 L2' (Dn :: Fa) ⟨ls.ext, ls.sim, .new ls.at_ (.lst ls.ro), fun a ha => ?_, ?_, fun a ha => ?_⟩
      · rcases List.mem_cons.mp ha with w | w
        · rw [w]; exact hDH
        · exact nw a w
      · exact List.nodup_cons.mpr ⟨nD, nd⟩
      · rcases List.mem_cons.mp ha with w | w
        · rw [w]; exact ls.nL
        · exact ou a w
    · rw [if_neg z] at hk; exact hk.elim
theorem ee_lc2 (hc : X.calm = true) (hN : X.N.Nodup) (hi : EI C R X E tg iter fi) (ok : BlkOk X.N X.env.scope scope own) (hsl : ∀ i ∈ g.slots, i ∈ own.map (·.2)) (hsl1 : ∀ i ∈ g1.slots, i ∈ own.map (·.2))
    (hg : ∀ (s : Shared) (H : Hp) (Ca : Addr) (cl : List (Str × Addr)) (fp : List Addr), EG C (X.blk s H scope (compEnvC scope cl Ca X.env) fp) tg g.slots (evalG g))
    (ht : ∀ (s : Shared) (H : Hp) (Ca : Addr) (cl : List (Str × Addr)) (fp : List Addr), EF C R (X.blk s H scope (compEnvC scope cl Ca X.env) fp) E0' ifs ft)
    (hi1 : ∀ (s : Shared) (H : Hp) (Ca : Addr) (cl : List (Str × Addr)) (fp : List Addr), EI C R (X.blk s H scope (compEnvC scope cl Ca X.env) fp) E0' tg1 iter1 fi1)
    (hg1 : ∀ (s : Shared) (H : Hp) (Ca : Addr) (cl : List (Str × Addr)) (fp : List Addr), EG C (X.blk s H scope (compEnvC scope cl Ca X.env) fp) tg1 g1.slots (evalG g1))
    (ht1 : ∀ (s : Shared) (H : Hp) (Ca : Addr) (cl : List (Str × Addr)) (fp : List Addr), EF C R (X.blk s H scope (compEnvC scope cl Ca X.env) fp) E0' ifs1 ft1)
    (he : ∀ (s : Shared) (H : Hp) (Ca : Addr) (cl : List (Str × Addr)) (fp : List Addr), EE C R (X.blk s H scope (compEnvC scope cl Ca X.env) fp) E0' elt fe) (hs : ∀ x, foldedSetIterable iter X.env x = pure x) (hs1 : ∀ env x, foldedSetIterable iter1 env x = pure x) :
    EE C R X E (.ListComp elt [⟨tg, iter, ifs, 0⟩, ⟨tg1, iter1, ifs1, 0⟩] scope pos) (fun ρ S => (fi ρ S).bind fun r S1 => (compG r.2 (evalG g) ft (fun ρ1 S2 => (fi1 ρ1 S2).bind fun r1 S3 => compG r1.2 (evalG g1) ft1 (fun ρ2 S4 => (fe ρ2 S4).bind fun y S5 => .ok [y] S5) (wipeD ρ1 g1.slots) r1.1 S3) (wipeD ρ (own.map (·.2))) r.1 S1).noex.bind fun ys S2 => if ys.length ≤ sizeLine then .ok (.new (.lst ys)) S2 else .stuck) := by
  obtain ⟨wi, pi, gi⟩ := hi
  refine ⟨_, pe_lc2 hc hN pi ok hsl1 (fun s H Ca cl fp => (hg s H Ca cl fp).canon) (fun s H Ca cl fp => (ht s H Ca cl fp).canon) (fun s H Ca cl fp => (hi1 s H Ca cl fp).canon) (fun s H Ca cl fp => (hg1 s H Ca cl fp).canon) (fun s H Ca cl fp => (ht1 s H Ca cl fp).canon) (fun s H Ca cl fp => (he s H Ca cl fp).canon) hs hs1, lc2_good hsl gi⟩
/-! ### dict comprehensions -/
theorem fresh_put {k v : D} {q : L2.Key} (hk : keyD k = some q) : ∀ {acc : List (D × D)}, freshK (acc ++ [(k, v)]) = true → (acc.any fun p => decide (keyD p.1 = some q)) = false
  | [], _ => rfl
  | (j, x) :: r, h => by
    have h' : ((keyD j).isSome && ((r ++ [(k, v)]).all fun p => decide (keyD p.1 ≠ keyD j)) && freshK (r ++ [(k, v)])) = true := h
    simp only [Bool.and_eq_true] at h'
    obtain ⟨⟨h1, h2⟩, h3⟩ := h'
    have := of_decide_eq_true (List.all_eq_true.mp h2 (k, v) (by simp))
    rw [List.any_cons, fresh_put hk h3, Bool.or_false]
    refine decide_eq_false fun z => ?_
    have z : keyD j = some q := z
    exact this (by show keyD k = keyD j; rw [hk, z])
theorem RepKs.app {H : Hp} {L : List Addr} : ∀ {a b : List (D × D)} {va vb : List (L2.Key × V)} {F G : List Addr}, RepKs C H L a va F → RepKs C H L b vb G → RepKs C H L (a ++ b) (va ++ vb) (F ++ G)
  | _, _, _, _, _, _, .nil, r => r
  | _, _, _, _, _, _, .cons hk x s, r => by rw [List.append_assoc]; exact .cons hk x (s.app r)
theorem RepKs.cells {H : Hp} {L : List Addr} : ∀ {a : List (D × D)} {va : List (L2.Key × V)} {F : List Addr}, (a.all fun p => isCell p.2) = true → RepKs C H L a va F → F = []
  | [], _, _, _, r => by cases r; rfl
  | (k, x) :: a, _, _, h, r => by
    rw [List.all_cons, Bool.and_eq_true] at h
    cases r with
    | cons hk rx rs => rw [cell_fp h.1 rx, RepKs.cells h.2 rs]; rfl
theorem put_rep {H : Hp} {L : List Addr} {k v : D} {q : L2.Key} {w : V} {acc : List (D × D)} {va : List (L2.Key × V)} {F G : List Addr} (hk : keyD k = some q) (ra : RepKs C H L acc va F) (rv : Rep C H L v w G) (h : freshK (acc ++ [(k, v)]) = true ∨ (isCell v = true ∧ (acc.all fun p => isCell p.2) = true)) :
    RepKs C H L (putKD k q v acc) (putK va q w) (F ++ G) := by
  rcases h with h | ⟨h1, h2⟩
  · have an := fresh_put hk h
    have e1 : putKD k q v acc = acc ++ [(k, v)] := by
      unfold putKD
      rw [an, if_neg Bool.false_ne_true]
    have an2 : valV va q = none := by
      rcases ra.get q with ⟨_, e2⟩ | ⟨d, u, G', g1, g2, _, _⟩
      · exact e2
      · exfalso
        have : ∀ {acc : List (D × D)}, getKD acc q = some d → (acc.any fun p => decide (keyD p.1 = some q)) = true := by
          intro acc hg
          induction acc with
          | nil => cases hg
          | cons p r ih =>
            obtain ⟨j, x⟩ := p
            rw [List.any_cons]
            by_cases z : keyD j = some q
            · rw [decide_eq_true z]; rfl
            · have hg' : (if keyD j = some q then some x else getKD r q) = some d := hg
              rw [if_neg z] at hg'
              rw [ih hg', Bool.or_true]
        rw [this g1] at an
        cases an
    rw [e1, putK_new w an2]
    have := ra.app (RepKs.cons (key_repK hk) rv .nil)
    rwa [List.append_nil] at this
  · have eF := RepKs.cells h2 ra
    have eG := cell_fp h1 rv
    subst eF; subst eG
    exact RepKs.put (key_repK hk) rv ra
theorem dc_good {wi : TI} {fk fv : AEnv → Store → Rs D} (hsl : ∀ i ∈ g.slots, i ∈ own.map (·.2)) (gi : ∀ (σ : L2.St) (H : Hp) (L : List Addr) (ρ : AEnv) (S : Store) (Rq : L2.It → Hp → Prop), SimS C H L S → SimE C H L ρ σ → (fi ρ S).sat (OkI C H L Rq) (ExW C R E H L) → wi σ H Rq) :
    GoodE C R E (tDc wi (cG C g.slots (evalG g)) (cT C R E0' ft) (cE C R E0' fk) (cE C R E0' fv) (own.map (·.2))) (fun ρ S => (fi ρ S).bind fun r S1 => (compD r.2 (evalG g) ft fk fv (wipeD ρ (own.map (·.2))) r.1 [] S1).noex.bind fun kvs S2 => .ok (.new (.dct kvs)) S2) := by
  intro σ H L ρ S Q s e h
  have h0 := sat_bind h
  refine gi σ H L ρ S _ s e (sat_mono h0 (fun r S1 h1 J Wk H1 L1 F1 x1 s1 f1' wk w0 => ?_) fun _ _ z => z)
  obtain ⟨items, gu⟩ := r
  have h1 := sat_noex h1
  intro Dn hDn
  have hDH : H Dn = none := x1.dom _ hDn
  have nDL : Dn ∉ L1 := s1.notin hDn
  have nDF : Dn ∉ F1 := fun hm => by
    obtain ⟨o, ho⟩ := wk.trk _ _ _ _ w0 Dn hm
    rw [hDn] at ho; cases ho
  have xn : Ext H1 L1 (upd H1 Dn (.dK [])) L1 := Ext.new hDn
  let ow := own.map (·.2)
  let W : Nat → Nat → Hp → Prop := fun i m H' => m + i = items.length ∧ ∃ (L' : List Addr) (S' : Store) (F' Fa : List Addr) (kvs : List (D × D)) (acc : List (L2.Key × V)),
    LS C H L Dn (Wk i) (fun H L F => RepKs C H L kvs acc F) (.dK acc) H' L' S' F' Fa ∧ SimE C H' L' (wipeD ρ ow) (wipe σ ow) ∧
      (compD gu (evalG g) ft fk fv (wipeD ρ ow) (items.drop i) kvs S').sat (fun zs S2 => OkW C H L Q (.new (.dct zs)) S2) (fun _ _ => False)
  refine ⟨W, ⟨items.length, rfl, L1, S1, F1, [], [], [], ?_, (e.ext (x1.trans xn)).wipes ow, sat_mono h1 (fun _ _ z => z) fun _ _ z => z⟩, ?_⟩
  · refine ⟨x1.trans xn, s1.new hDn nDL, wk.car _ _ _ _ _ _ w0 (xn.car f1'.out), upd_same, .nil, ?_, ?_, nDL, ?_, ?_⟩
    · rw [List.append_nil]; exact f1'.nd
    · rw [List.append_nil]; exact nDF
    · rw [List.append_nil]; exact f1'.out
    · rw [List.append_nil]; exact f1'.new
  rintro i m H2 ⟨hm, L2', S2, F2, Fa, kvs, acc, s2, e2, h2⟩
  have gd : guardOk gu S2 = true := by
    cases hq : guardOk gu S2 with
    | true => rfl
    | false =>
      cases hd : items.drop i with
      | nil => rw [hd] at h2; simp only [compD, hq] at h2; exact h2.elim
      | cons d ds => rw [hd] at h2; simp only [compD, hq] at h2; exact h2.elim
  have nd2 := List.nodup_append.mp s2.nd
  have ouW : ∀ a ∈ F2, a ∉ L2' := fun a ha => s2.ou a (List.mem_append_left _ ha)
  cases hd : items.drop i with
  | nil =>
    rw [hd] at h2
    simp only [compD, gd, if_true] at h2
    have hlen : items.length ≤ i := by
      have := congrArg List.length hd
      simp at this; omega
    have h2 : OkW C H L Q (.new (.dct kvs)) S2 := h2
    refine .inl ⟨wk.stop i H2 L2' S2 F2 s2.po s2.sim gd hlen, ?_⟩
    refine h2 _ H2 L2' (Dn :: Fa) ⟨s2.ext, s2.sim, .new s2.at_ (.dct s2.ro), fun a ha => ?_, ?_, fun a ha => ?_⟩
    · rcases List.mem_cons.mp ha with w | w
      · rw [w]; exact hDH
      · exact s2.nw a (List.mem_append_right _ w)
    · exact List.nodup_cons.mpr ⟨fun z => s2.nD (List.mem_append_right _ z), nd2.2.1⟩
    · rcases List.mem_cons.mp ha with w | w
      · rw [w]; exact s2.nL
      · exact s2.ou a (List.mem_append_right _ w)
  | cons d ds =>
    rw [hd] at h2
    simp only [compD, gd, if_true] at h2
    have hi : items[i]? = some d := by
      have : (items.drop i)[0]? = some d := by rw [hd]; rfl
      rwa [List.getElem?_drop, Nat.add_zero] at this
    have hds : ds = items.drop (i + 1) := by
      have : (items.drop i).drop 1 = ds := by rw [hd]; rfl
      rw [← this, List.drop_drop]
    have hlt : i < items.length := (List.getElem?_eq_some_iff.mp hi).1
    obtain ⟨go, yl⟩ := wk.go i H2 L2' S2 F2 d s2.po s2.sim gd nd2.1 ouW hi
    refine .inr ⟨go, fun H' => W (i + 1) (m - 1) H', fun H' z => ⟨m - 1, by omega, z⟩, fun x H3 hy => ?_⟩
    obtain ⟨G, F3, x3, s3, r3, wk3, ndGF0, sub⟩ := yl x H3 hy
    have ndGF := List.nodup_append.mp ndGF0
    have subG : ∀ a ∈ G, a ∈ F2 := fun a ha => sub a (List.mem_append_left _ ha)
    have subF : ∀ a ∈ F3, a ∈ F2 := fun a ha => sub a (List.mem_append_right _ ha)
    have h3 := sat_bind h2
    have t3 := s2.later (wk.pers i) pers_repKs x3 s3
    refine ⟨L2', S2, wipeD ρ ow, d, G, s3, e2.ext x3, r3, ndGF.1, fun a ha => ouW a (subG a ha), ?_⟩
    refine sat_mono h3 (fun ρ3 S3 h3 σ3 M s4 e4 hM wip => ?_) fun _ _ z => z
    refine ⟨wipe_wip wip hsl, ?_⟩
    have t4 : LS C H L Dn (Wk (i + 1)) (fun H L F => RepKs C H L kvs acc F) (.dK acc) H3 (L2' ++ M) S3 F3 Fa :=
      t3.take (wk.pers i) pers_repKs (wk.pers (i + 1)) wk3 subF ndGF.2.1 (fun a ha => subG a (hM a ha)) (fun a ha z => ndGF.2.2 a (hM a ha) a z rfl) s4
    have es4 : SimE C H3 (L2' ++ M) (wipeD ρ ow) (wipe σ ow) := (e2.ext x3).grow
    have h4 := sat_bind h3
    refine ⟨L2' ++ M, ρ3, S3, s4, e4, ?_⟩
    refine sat_mono h4 (fun b S5 h5 H5 L5 x5 s5 => ?_) fun _ _ z => z.elim
    have t5 := t4.later (wk.pers (i + 1)) pers_repKs x5 s5
    cases b with
    | false =>
      simp only [Bool.false_eq_true, if_false]
      have h5 : (compD gu (evalG g) ft fk fv (wipeD ρ ow) ds kvs S5).sat (fun zs S2 => OkW C H L Q (.new (.dct zs)) S2) (fun _ _ => False) := h5
      exact ⟨by omega, L5, S5, F3, Fa, kvs, acc, t5, es4.ext x5, by rw [← hds]; exact h5⟩
    | true =>
      simp only [if_true]
      have h6 := sat_bind h5
      refine ⟨L5, ρ3, S5, s5, e4.ext x5, sat_mono h6 (fun k S6 h7 u H6 L6 F6 p6 => ?_) fun _ _ z => z.elim⟩
      have t6 := t5.later (wk.pers (i + 1)) pers_repKs p6.ext p6.sim
      have h8 := sat_bind h7
      refine ⟨L6, ρ3, S6, p6.sim, (e4.ext x5).ext p6.ext, sat_mono h8 (fun v S7 h9 w H7 L7 F7 p7 => ?_) fun _ _ z => z.elim⟩
      have t7 := t6.later (wk.pers (i + 1)) pers_repKs p7.ext p7.sim
      cases hkd : keyD k with
      | none => simp only [hkd] at h9; exact h9.elim
      | some q =>
        simp only [hkd] at h9
        by_cases z : kvs.length < sizeLine ∧ (freshK (kvs ++ [(k, v)]) = true ∨ (isCell v = true ∧ (kvs.all fun p => isCell p.2) = true))
        · rw [if_pos z] at h9
          have ek := key_rep p6.rep hkd
          subst ek
          have rp := put_rep hkd t7.ro p7.rep z.2
          have dis : ∀ a ∈ F3 ++ Fa, a ∉ F7 := fun a ha zz => by
            obtain ⟨o, ho⟩ := t6.trk (wk.pers (i + 1)) pers_repKs a ha
            rw [p7.fr.new a zz] at ho; cases ho
          have nD7 : Dn ∉ F7 := fun zz => by
            have := p7.fr.new _ zz
            rw [t6.at_] at this; cases this
          have ndD := List.nodup_append.mp t7.nd
          refine ⟨acc, q, rfl, t7.at_, by rw [← t7.ro.length]; exact z.1, by omega, L7, S7, F3, Fa ++ F7, putKD k q v kvs, putK acc q w, ?_, ?_, ?_⟩
          · refine t7.fill (wk.pers (i + 1)) rfl (RO' := fun H L F => RepKs C H L (putKD k q v kvs) (putK acc q w) F) rp pers_repKs ?_ ?_ (fun a ha => ?_) (fun a ha => ?_) hDH
            · rw [← List.append_assoc, List.nodup_append]
              exact ⟨t7.nd, p7.fr.nd, fun a ha b hb zz => dis a ha (zz ▸ hb)⟩
            · intro zz
              rcases List.mem_append.mp zz with q | q
              · exact t7.nD (List.mem_append_right _ q)
              · exact nD7 q
            · rcases List.mem_append.mp ha with q | q
              · exact t7.ou a (List.mem_append_right _ q)
              · exact p7.fr.out a q
            · rcases List.mem_append.mp ha with q | q
              · exact t7.nw a (List.mem_append_right _ q)
              · exact t6.ext.dom a (p7.fr.new a q)
          · have e7 := (((es4.ext x5).ext p6.ext).ext p7.ext)
            refine ⟨e7.1, fun j dd hj => ?_⟩
            obtain ⟨u, k1, k2⟩ := e7.2 j dd hj
            exact ⟨u, k1, k2.car (car_poke t7.at_ rfl (by simp))⟩
          · rw [← hds]; exact h9
        · rw [if_neg z] at h9; exact h9.elim
theorem ee_dc {kx vx : Expr} {fk fv : AEnv → Store → Rs D} (hc : X.calm = true) (hN : X.N.Nodup) (hi : EI C R X E tg iter fi) (ok : BlkOk X.N X.env.scope scope own) (hsl : ∀ i ∈ g.slots, i ∈ own.map (·.2))
    (hg : ∀ (s : Shared) (H : Hp) (Ca : Addr) (cl : List (Str × Addr)) (fp : List Addr), EG C (X.blk s H scope (compEnvC scope cl Ca X.env) fp) tg g.slots (evalG g))
    (ht : ∀ (s : Shared) (H : Hp) (Ca : Addr) (cl : List (Str × Addr)) (fp : List Addr), EF C R (X.blk s H scope (compEnvC scope cl Ca X.env) fp) E0' ifs ft)
    (hk : ∀ (s : Shared) (H : Hp) (Ca : Addr) (cl : List (Str × Addr)) (fp : List Addr), EE C R (X.blk s H scope (compEnvC scope cl Ca X.env) fp) E0' kx fk)
    (hv : ∀ (s : Shared) (H : Hp) (Ca : Addr) (cl : List (Str × Addr)) (fp : List Addr), EE C R (X.blk s H scope (compEnvC scope cl Ca X.env) fp) E0' vx fv) (hs : ∀ x, foldedSetIterable iter X.env x = pure x) :
    EE C R X E (.DictComp kx vx [⟨tg, iter, ifs, 0⟩] scope pos) (fun ρ S => (fi ρ S).bind fun r S1 => (compD r.2 (evalG g) ft fk fv (wipeD ρ (own.map (·.2))) r.1 [] S1).noex.bind fun kvs S2 => .ok (.new (.dct kvs)) S2) := by
  obtain ⟨wi, pi, gi⟩ := hi
  refine ⟨_, pe_dc hc hN pi ok (fun s H Ca cl fp => (hg s H Ca cl fp).canon) (fun s H Ca cl fp => (ht s H Ca cl fp).canon) (fun s H Ca cl fp => (hk s H Ca cl fp).canon) (fun s H Ca cl fp => (hv s H Ca cl fp).canon) hs, dc_good hsl gi⟩
end
end Nv
/-! Nv: name = {k: v for ..}. -/
namespace Nv
open PySem PySem.Spec PyProof.Rows L2
section
variable {X : Cx}
theorem ps_setDc {i : Nat} {y : Str} {py : Pos} {kx vx tg iter : Expr} {ifs : List Expr} {scope : Scope} {own : List (Str × Nat)} {pos spos : Pos} {wi : TI} {g : TG} {tt : TT} {tk tv : TE} (hc : X.calm = true) (hN : X.N.Nodup) (hy : X.N[i]? = some y) (hyl : X.env.scope.names.lookup y = some .local)
    (hsw : swapsWith (.DictComp kx vx [⟨tg, iter, ifs, 0⟩] scope pos) (some (.Name y py)) spos.line X.env = pure true) (hi : PI X tg iter wi) (ok : BlkOk X.N X.env.scope scope own)
    (hg : ∀ (s : Shared) (H : Hp) (C : Addr) (cl : List (Str × Addr)) (fp : List Addr), PG (X.blk s H scope (compEnvC scope cl C X.env) fp) tg g)
    (ht : ∀ (s : Shared) (H : Hp) (C : Addr) (cl : List (Str × Addr)) (fp : List Addr), PTs (X.blk s H scope (compEnvC scope cl C X.env) fp) ifs tt)
    (hk : ∀ (s : Shared) (H : Hp) (C : Addr) (cl : List (Str × Addr)) (fp : List Addr), PE (X.blk s H scope (compEnvC scope cl C X.env) fp) kx tk)
    (he : ∀ (s : Shared) (H : Hp) (C : Addr) (cl : List (Str × Addr)) (fp : List Addr), PE (X.blk s H scope (compEnvC scope cl C X.env) fp) vx tv) (hs : ∀ x, foldedSetIterable iter X.env x = pure x) :
    PS X (.Assign [.Name y py] (.DictComp kx vx [⟨tg, iter, ifs, 0⟩] scope pos) spos) (tAsg (tDc wi g tt tk tv (own.map (·.2))) (gName i)) := by
  refine ⟨fun pins s σ H D I h0 => ?_⟩
  rw [exec_Assign_Name_used _ _ _ _ hsw]
  refine wpAny_bind (wpAny_standAt (wpAny_bind ?_))
  show wpAny _ X.A (do let _ ← comprehension (.DictComp kx vx [⟨tg, iter, ifs, 0⟩] scope pos) scope X.env (firstIterPos [⟨tg, iter, ifs, 0⟩] pos) newDict false (eval iter X.env) (some (assign (.Name y py) X.env))) _ _ s
  have h1 : tDc wi g tt tk tv (own.map (·.2)) σ H (fun x H1 => gName i x σ H1 D.nx) := h0
  refine wpAny_bind (thn (dc_core (Qf := fun _ s' => SP X pins D .next s') hc hN I hi ok hg ht hk he hs h1 fun Ld Cb s' m H' I' q hn f => ?_) fun _ s' hq => wpAny_pure (wpAny_pure hq))
  show wpAny _ _ (assign (.Name y py) X.env (.ref Ld)) _ _ _
  obtain ⟨f0, f1, f2, f3, f4, f5⟩ := f
  refine wpAny_assign_Name (store_ok2 (v := V.ref Ld) I' hN hy (.inl hyl) rfl (fun s2 I2 ab => ?_) (.inr hyl))
  obtain ⟨a, sb, ha⟩ := ab
  have ne : Cb ≠ a := by
    rcases ha with z | z
    · rw [z]; exact f1
    · intro z2; exact f4 y a z z2.symm
  exact ⟨m, hn.sameBut sb ne, fun h3 sb3 => ⟨_, H', I2.turned (t' := s2.toks) (fun b o hb z => (sb3.2 b hb).trans z) f0 f1 f3 f4 f5, q⟩⟩
end
end Nv
/-! Nv: sorted(..) of data, dict(..). -/
namespace Nv
open PySem PySem.Spec PyProof.Rows L2
open PySem.W (dataLe EachIs TotalLe sameRank sortLe)
/-! ### the order -/
theorem dataLe_total {β : Type} (enc : β → PyData) : TotalLe (dataLe false enc) := PySem.W.sortLe_total _ _ _
theorem insD_mem {x y : D} : ∀ {l : List D}, y ∈ insD x l ↔ y = x ∨ y ∈ l
  | [] => by simp [insD]
  | z :: r => by
    unfold insD
    by_cases h : dataLe false encD x z = true
    · rw [if_pos h]; simp
    · rw [if_neg h, List.mem_cons, insD_mem (l := r), List.mem_cons]
      constructor
      · rintro (h | h | h)
        · exact .inr (.inl h)
        · exact .inl h
        · exact .inr (.inr h)
      · rintro (h | h | h)
        · exact .inr (.inl h)
        · exact .inl h
        · exact .inr (.inr h)
theorem insD_sorted {x : D} : ∀ {l : List D}, l.Pairwise (fun a b => dataLe false encD a b = true) → (insD x l).Pairwise (fun a b => dataLe false encD a b = true)
  | [], _ => by simp [insD]
  | z :: r, h => by
    have T := dataLe_total encD
    have h' := List.pairwise_cons.mp h
    unfold insD
    by_cases q : dataLe false encD x z = true
    · rw [if_pos q]
      refine List.pairwise_cons.mpr ⟨fun a ha => ?_, h⟩
      rcases List.mem_cons.mp ha with e | e
      · rw [e]; exact q
      · exact T.trans _ _ _ q (h'.1 a e)
    · rw [if_neg q]
      refine List.pairwise_cons.mpr ⟨fun a ha => ?_, insD_sorted h'.2⟩
      rcases insD_mem.mp ha with e | e
      · rw [e]
        rcases T.total x z with w | w
        · exact absurd w q
        · exact w
      · exact h'.1 a e
theorem insD_filter {x c : D} : ∀ (l : List D), (insD x l).filter (sameRank (dataLe false encD) c) = (x :: l).filter (sameRank (dataLe false encD) c)
  | [] => rfl
  | z :: r => by
    have T := dataLe_total encD
    unfold insD
    by_cases q : dataLe false encD x z = true
    · rw [if_pos q]
    · rw [if_neg q, List.filter_cons, insD_filter r, List.filter_cons (x := x) (xs := z :: r), List.filter_cons (x := x) (xs := r), List.filter_cons (x := z) (xs := r)]
      by_cases px : sameRank (dataLe false encD) c x = true
      · have pz : ¬ sameRank (dataLe false encD) c z = true := fun w => by
          unfold sameRank at px w
          rw [Bool.and_eq_true] at px w
          exact q (T.trans _ _ _ px.2 w.1)
        simp only [if_pos px, if_neg pz]
      · rw [if_neg px]
        split <;> rfl
theorem isortD_sorted : ∀ (l : List D), (isortD l).Pairwise (fun a b => dataLe false encD a b = true)
  | [] => List.Pairwise.nil
  | x :: r => insD_sorted (isortD_sorted r)
theorem isortD_filter {c : D} : ∀ (l : List D), (isortD l).filter (sameRank (dataLe false encD) c) = l.filter (sameRank (dataLe false encD) c)
  | [] => rfl
  | x :: r => by
    show (insD x (isortD r)).filter _ = _
    rw [insD_filter, List.filter_cons, isortD_filter r, List.filter_cons]
theorem isortD_eq (l : List D) : isortD l = l.mergeSort (dataLe false encD) := PySem.W.sort_unique (dataLe_total encD) (isortD_sorted l) fun c => isortD_filter l
theorem isortD_perm (l : List D) : (isortD l).Perm l := by
  rw [isortD_eq]; exact List.mergeSort_perm _ _
/-! ### the rule -/
section
variable {X : Cx}
theorem each_of_vals {β : Type} (val : β → V) : ∀ {bs : List β} {us : List Value}, Vals (bs.map val) us → EachIs (fun u b => RelV (val b) u) us bs
  | [], us, h => by cases h; exact .nil
  | b :: bs, us, h => by
    rw [List.map_cons] at h
    cases h with
    | cons r rs => exact .cons r (each_of_vals val rs)
theorem vals_of_each {β : Type} (val : β → V) : ∀ {bs : List β} {us : List Value}, EachIs (fun u b => RelV (val b) u) us bs → Vals (bs.map val) us
  | _, _, .nil => .nil
  | _, _, .cons r rs => .cons r (vals_of_each val rs)
def rSortDat (K : PySem.W.Frag) (n : Nat) : List V → Hp → VK → Prop := fun vs H Q => ∃ (a : Addr) (bs : List (D × V)), vs = [.ref a] ∧ SqL K H a (bs.map (·.2)) ∧ (∀ b ∈ bs, Dp K H b.2 (encD b.1)) ∧ PySem.W.AllAlike (bs.map fun b => encD b.1) ∧ PySem.W.Sortable (bs.map fun b => encD b.1) ∧ bs.length ≤ sizeLine ∧
  (∀ b ∈ bs, n + 2 + (encD b.1).depth < cLine) ∧ ∀ p, H p = none → Q (.ref p) (upd H p (.lst ((bs.mergeSort (dataLe false fun b => encD b.1)).map (·.2))))
theorem cr_sortDat : CallR X (.builtin "sorted") (rSortDat X.K X.A.units) := by
  intro pins s σ H vs us Q I r h
  obtain ⟨a, bs, e, hs, hd, hal, hk, hL, hu, q⟩ := h
  subst e
  obtain ⟨its, rv, hl, hz⟩ := I.list hs
  rw [Vals.ref1 r]
  have ev := each_of_vals (β := D × V) (fun b => b.2) rv
  have er : ∀ {bs : List (D × V)} {us : List Value}, (∀ b ∈ bs, Dp X.K H b.2 (encD b.1)) → EachIs (fun u (b : D × V) => RelV b.2 u) us bs → EachIs (fun u (b : D × V) => ∃ as, Reads s.heap u (encD b.1) as) us bs := by
    intro bs us hd h
    induction h with
    | nil => exact .nil
    | cons h1 h2 ih => exact .cons (Dp.reads I _ _ _ (hd _ List.mem_cons_self) h1) (ih fun b hb => hd b (List.mem_cons_of_mem _ hb))
  refine PySem.W.sorted_data (R := fun u (b : D × V) => RelV b.2 u) (bs := bs) (enc := fun b => encD b.1) hl.isList ev (er hd ev) hal hk hL hu fun out ho eo => ?_
  have vo := vals_of_each (β := D × V) (fun b => b.2) eo
  obtain ⟨ep, he'⟩ := PyProof.Rows.sortedAll_at s.heap its out.toArray
  have hlen : ((bs.mergeSort (dataLe false fun b => encD b.1)).map (·.2)).length ≤ sizeLine := by rw [List.length_map, List.length_mergeSort]; exact hL
  exact ⟨.ref _, _, I.laid (o := .lst _) (t' := s.toks) (fun _ _ => PyProof.Rows.sortedAll_old) (Nat.le_succ _) ⟨hlen, out, ep, vo, he'⟩, rfl, q _ (I.hok.fresh (Nat.le_succ _))⟩
end
section
variable {C : Cxt} {R : XR} {X : Cx} {E : XK} {pos p0 : Pos}
theorem Reps.zip {H : Hp} {L : List Addr} : ∀ {xs : List D} {vs : List V}, areData xs = true → Reps C H L xs vs [] → (xs.zip vs).map (·.1) = xs ∧ (xs.zip vs).map (·.2) = vs ∧ ∀ b ∈ xs.zip vs, Rep C H L b.1 b.2 [] := by
  intro xs
  induction xs with
  | nil => intro vs _ r; cases r; exact ⟨rfl, rfl, by simp⟩
  | cons x xs ih =>
    intro vs hd r
    obtain ⟨F, hF⟩ : ∃ F : List Addr, F = [] := ⟨[], rfl⟩
    rw [← hF] at r
    cases r with
    | cons r1 r2 =>
      obtain ⟨rfl, rfl⟩ := List.append_eq_nil_iff.mp hF
      have hd' : (isData x && areData xs) = true := hd
      rw [Bool.and_eq_true] at hd'
      obtain ⟨e1, e2, e3⟩ := ih hd'.2 r2
      refine ⟨by rw [List.zip_cons_cons, List.map_cons, e1], by rw [List.zip_cons_cons, List.map_cons, e2], fun b hb => ?_⟩
      rw [List.zip_cons_cons] at hb
      rcases List.mem_cons.mp hb with e | e
      · rw [e]; exact r1
      · exact e3 b e
theorem reps_of {H : Hp} {L : List Addr} : ∀ {bs : List (D × V)}, (∀ b ∈ bs, Rep C H L b.1 b.2 []) → Reps C H L (bs.map (·.1)) (bs.map (·.2)) []
  | [], _ => .nil
  | b :: bs, h => .cons (F := []) (G := []) (h b List.mem_cons_self) (reps_of fun c hc => h c (List.mem_cons_of_mem _ hc))
/-- what sorting asks -/
theorem sortD_inv {xs ys : List D} (h : sortD xs = some ys) : ys = isortD xs ∧ areData xs = true ∧ (∀ x ∈ xs, (dat x).isSome = true) ∧ PySem.W.AllAlike (xs.map encD) ∧ PySem.W.Sortable (xs.map encD) ∧ xs.length ≤ sizeLine ∧ ∀ x ∈ xs, (encD x).depth ≤ 40 := by
  unfold sortD at h
  split at h
  · rename_i c
    obtain ⟨c1, c2, c3, c4, c5, c6⟩ := c
    cases h
    refine ⟨rfl, c1, fun x hx => List.all_eq_true.mp c2 x hx, ?_, ?_, c5, fun x hx => of_decide_eq_true (List.all_eq_true.mp c6 x hx)⟩
    · intro d hd e he
      obtain ⟨x, hx, rfl⟩ := List.mem_map.mp hd
      obtain ⟨y, hy, rfl⟩ := List.mem_map.mp he
      exact List.all_eq_true.mp (List.all_eq_true.mp c3 x hx) y hy
    · unfold kindB at c4
      rw [Bool.or_eq_true] at c4
      rcases c4 with q | q
      · refine .inl fun d hd => ?_
        have := List.all_eq_true.mp q d hd
        split at this
        · exact ⟨_, _, rfl⟩
        · cases this
      · refine .inr fun d hd => ?_
        have := List.all_eq_true.mp q d hd
        refine ⟨fun z => ?_, fun xs z => ?_⟩
        · subst z; cases this
        · subst z; cases this
  · cases h
theorem good_sorted (hu : X.A.units + 64 < cLine) : GoodC C (fun vs H Q => rSortDat C.K X.A.units vs H Q) (fun xs S => match xs with
    | [x] => match dctOf x S with
      | some _ => none
      | none => (lisOf x S).bind fun xs => (sortD xs).map fun ys => .new (.lst ys)
    | _ => none) := by
  intro H0 L0 H L S xs vs F d Q e s r fr hd q
  match xs, hd with
  | [x], hd =>
    obtain ⟨v, rfl, rx⟩ := r.one
    dsimp only at hd
    cases hdc : dctOf x S with
    | some _ => rw [hdc] at hd; cases hd
    | none =>
      rw [hdc] at hd
      have hd : ((lisOf x S).bind fun xs => (sortD xs).map fun ys => D.new (.lst ys)) = some d := hd
      cases hs : lisOf x S with
      | none => rw [hs] at hd; cases hd
      | some ys =>
        rw [hs] at hd
        cases hso : sortD ys with
        | none =>
          have hd' : ((sortD ys).map fun ys => D.new (.lst ys)) = some d := hd
          rw [hso] at hd'; cases hd'
        | some zs =>
          have hd' : ((sortD ys).map fun ys => D.new (.lst ys)) = some d := hd
          rw [hso] at hd'
          cases hd'
          obtain ⟨rfl, c1, c2, c3, c4, c5, c6⟩ := sortD_inv hso
          obtain ⟨a, ws, G, rfl, r1, f1, hq⟩ := lis_of s rx hs
          have eG := datas_fp _ c1 r1
          subst eG
          obtain ⟨e1, e2, e3⟩ := Reps.zip c1 r1
          have eb : (ys.zip ws).map (fun b => encD b.1) = ys.map encD := by
            have : (ys.zip ws).map (fun b => encD b.1) = ((ys.zip ws).map (·.1)).map encD := by rw [List.map_map]; rfl
            rw [this, e1]
          have hm : ∀ b ∈ ys.zip ws, b.1 ∈ ys := fun b hb => (List.of_mem_zip hb).1
          refine ⟨a, ys.zip ws, rfl, by rw [e2]; exact hq, fun b hb => ?_, eb ▸ c3, eb ▸ c4, ?_, fun b hb => ?_, fun p hp => ?_⟩
          · obtain ⟨pd, hpd⟩ := Option.isSome_iff_exists.mp (c2 b.1 (hm b hb))
            have : encD b.1 = pd := by unfold encD; rw [hpd]; rfl
            rw [this]
            exact dp_of b.1 (e3 b hb) hpd
          · have : (ys.zip ws).length = ys.length := by rw [← List.length_map (f := Prod.fst), e1]
            omega
          · have := c6 b.1 (hm b hb)
            omega
          · have k1 : (((ys.zip ws).mergeSort (dataLe false fun b => encD b.1)).map (·.1)) = isortD ys := by
              have := PySem.W.sort_maps (r := dataLe false fun b : D × V => encD b.1) (s := dataLe false encD) (fun b : D × V => b.1) (l := ys.zip ws) (fun a _ b _ => rfl)
              rw [isortD_eq, this, e1]
            have k2 := reps_of (C := C) (H := H) (L := L) (bs := (ys.zip ws).mergeSort (dataLe false fun b => encD b.1)) fun b hb => e3 b (List.mem_mergeSort.mp hb)
            rw [k1] at k2
            exact q _ _ L _ (post_lst e s k2 (Fr.nil _ _) hp)
  | [], hd => cases hd
  | x :: _ :: _, hd => cases hd
end
end Nv
namespace Nv
open PySem PySem.Spec PyProof.Rows L2
open PySem.W (dataLe EachIs TotalLe sameRank sortLe)
/-! ### sorted(d) -/
def leS (a b : Str) : Bool := dataLe false (fun s : Str => PyData.str s) a b
theorem leS_eq (a b : Str) : leS a b = !ltCps b.cps.toList a.cps.toList := by
  have e : dataLe false (fun s : Str => PyData.str s) = fun a b : Str => decide (a.cps.toList ≤ b.cps.toList) := PySem.W.dataLe_str (fun s => s)
  unfold leS
  rw [e, ltCps_eq]
  by_cases h : b.cps.toList < a.cps.toList
  · have : ¬ a.cps.toList ≤ b.cps.toList := List.not_le.mpr h
    simp [h, this]
  · have : a.cps.toList ≤ b.cps.toList := List.not_lt.mp h
    simp [h, this]
theorem leS_anti (x y : Str) (h1 : leS x y = true) (h2 : leS y x = true) : x = y := by
  rw [leS_eq, ltCps_eq] at h1 h2
  simp only [Bool.not_eq_true', decide_eq_false_iff_not] at h1 h2
  have e : x.cps.toList = y.cps.toList := List.le_antisymm (List.not_lt.mp h1) (List.not_lt.mp h2)
  cases x with
  | mk a =>
    cases y with
    | mk b =>
      have : a = b := by cases a; cases b; simpa using e
      rw [this]
theorem leS_total : TotalLe leS := dataLe_total _
theorem risingS_pw : ∀ (p : Str) (r : List Str), risingS p r = true → (p :: r).Pairwise (fun x y => leS x y = true)
  | p, [], _ => by simp
  | p, x :: r, h => by
    have h' : (!ltCps x.cps.toList p.cps.toList && risingS x r) = true := h
    rw [Bool.and_eq_true] at h'
    have px : leS p x = true := by rw [leS_eq]; exact h'.1
    have ih := risingS_pw x r h'.2
    refine List.pairwise_cons.mpr ⟨fun y hy => ?_, ih⟩
    rcases List.mem_cons.mp hy with e | e
    · rw [e]; exact px
    · exact leS_total.trans _ _ _ px ((List.pairwise_cons.mp ih).1 y e)
theorem sortedS_pw {ys : List Str} (h : sortedS ys = true) : ys.Pairwise (fun x y => leS x y = true) := by
  cases ys with
  | nil => exact List.Pairwise.nil
  | cons x r => exact risingS_pw x r h
theorem sortS_eq {ys ks : List Str} (hp : ys.Perm ks) (h : sortedS ys = true) : ys.map D.str = isortD (ks.map D.str) := by
  have e := PySem.W.Srt.the_of_perm (le := leS) (fun a b c => leS_total.trans a b c) (fun a b => by
    have := leS_total.total a b
    simpa [Bool.or_eq_true] using this) leS_anti hp (sortedS_pw h)
  rw [e, isortD_eq]
  exact PySem.W.sort_maps (r := leS) (s := dataLe false encD) D.str (fun a _ b _ => rfl)
theorem leI_eq (a b : Int) : dataLe false (fun i : Int => PyData.int i) a b = decide (a ≤ b) := by
  have e : dataLe false (fun i : Int => PyData.int i) = fun a b => decide (a ≤ b) := PySem.W.dataLe_int (fun s => s)
  rw [e]
theorem sortI_eq {ys ks : List Int} (hp : ys.Perm ks) (h : ys.Pairwise (· ≤ ·)) : ys.map D.int = isortD (ks.map D.int) := by
  have T : TotalLe (dataLe false fun i : Int => PyData.int i) := dataLe_total _
  have e := PySem.W.Srt.the_of_perm (le := dataLe false fun i : Int => PyData.int i) (fun a b c => T.trans a b c) (fun a b => by
    have := T.total a b
    simpa [Bool.or_eq_true] using this) (fun x y h1 h2 => by
      rw [leI_eq] at h1 h2
      exact Int.le_antisymm (of_decide_eq_true h1) (of_decide_eq_true h2)) hp (h.imp fun q => by rw [leI_eq]; exact decide_eq_true q)
  rw [e, isortD_eq]
  exact PySem.W.sort_maps (r := dataLe false fun i : Int => PyData.int i) (s := dataLe false encD) D.int (fun a _ b _ => rfl)
def rSortK (hc : Bool) : List V → Hp → VK → Prop := fun xs H Q =>
  (∃ (a : Addr) (kvs : List (L2.Key × V)) (ks : List Str), xs = [.ref a] ∧ Rd H a (.dK kvs) ∧ kvs.map (·.1) = ks.map Sum.inr ∧ ks.length < 64 ∧ ∀ ys p, ys.Perm ks → sortedS ys = true → H p = none → Q (.ref p) (upd H p (.lst (ys.map V.str)))) ∨
  ∃ (a : Addr) (kvs : List (L2.Key × V)) (ks : List Int), xs = [.ref a] ∧ Rd H a (.dK kvs) ∧ kvs.map (·.1) = ks.map Sum.inl ∧ ks.length < 64 ∧ ∀ (ys : List Int) (p : Addr), ys.Perm ks → ys.Pairwise (· ≤ ·) → H p = none → Q (.ref p) (upd H p (.lst (ys.map V.int)))
def intsD (xs : List D) : List Int := xs.filterMap fun d => match d with
  | .int i => some i
  | _ => none
section
variable {C : Cxt} {X : Cx}
theorem keys_strs {H : Hp} {L : List Addr} : ∀ {kvs : List (D × D)} {vs : List (L2.Key × V)} {F : List Addr} {ss : List Str}, RepKs C H L kvs vs F → strsOf (keysOf kvs) = some ss → vs.map (·.1) = ss.map Sum.inr ∧ keysOf kvs = ss.map D.str
  | [], vs, F, ss, r, h => by cases r; cases h; exact ⟨rfl, rfl⟩
  | (k, d) :: kvs, vs, F, ss, r, h => by
    cases r with
    | cons hk rx rs =>
      cases hk with
      | int i => cases h
      | str z =>
        cases hq : strsOf (keysOf kvs) with
        | none =>
          have h' : (strsOf (keysOf kvs)).map (z :: ·) = some ss := h
          rw [hq] at h'; cases h'
        | some ts =>
          have h' : (strsOf (keysOf kvs)).map (z :: ·) = some ss := h
          rw [hq] at h'; cases h'
          obtain ⟨e1, e2⟩ := keys_strs rs hq
          exact ⟨by rw [List.map_cons, e1]; rfl, by show D.str z :: keysOf kvs = _; rw [e2]; rfl⟩
theorem keys_ints {H : Hp} {L : List Addr} : ∀ {kvs : List (D × D)} {vs : List (L2.Key × V)} {F : List Addr} {ss : List Int}, RepKs C H L kvs vs F → intsOf (keysOf kvs) = some ss → vs.map (·.1) = ss.map Sum.inl ∧ keysOf kvs = ss.map D.int
  | [], vs, F, ss, r, h => by cases r; cases h; exact ⟨rfl, rfl⟩
  | (k, d) :: kvs, vs, F, ss, r, h => by
    cases r with
    | cons hk rx rs =>
      cases hk with
      | str i => cases h
      | int z =>
        cases hq : intsOf (keysOf kvs) with
        | none =>
          have h' : (intsOf (keysOf kvs)).map (z :: ·) = some ss := h
          rw [hq] at h'; cases h'
        | some ts =>
          have h' : (intsOf (keysOf kvs)).map (z :: ·) = some ss := h
          rw [hq] at h'; cases h'
          obtain ⟨e1, e2⟩ := keys_ints rs hq
          exact ⟨by rw [List.map_cons, e1]; rfl, by show D.int z :: keysOf kvs = _; rw [e2]; rfl⟩
theorem rep_strs {H : Hp} {L : List Addr} : ∀ ys : List Str, Reps C H L (ys.map D.str) (ys.map V.str) []
  | [] => .nil
  | y :: ys => .cons (F := []) (G := []) (.str y) (rep_strs ys)
theorem rep_ints {H : Hp} {L : List Addr} : ∀ ys : List Int, Reps C H L (ys.map D.int) (ys.map V.int) []
  | [] => .nil
  | y :: ys => .cons (F := []) (G := []) (.int y) (rep_ints ys)
theorem cr_sortAll (hc : X.calm = true) : CallR X (.builtin "sorted") (fun xs H Q => rSortDat X.K X.A.units xs H Q ∨ rSortK true xs H Q) :=
  CallR.or cr_sortDat (CallR.or (call_sortedD hc) (call_sortedDI hc))
theorem good_sortAll (hK : X.K = C.K) (hu : X.A.units + 64 < cLine) : GoodC C (fun xs H Q => rSortDat X.K X.A.units xs H Q ∨ rSortK true xs H Q) (bltD .sorted) := by
  intro H0 L0 H L S xs vs F d Q e s r fr hd q
  match xs, hd with
  | [x], hd =>
    have hd : (match dctOf x S with
      | some kvs => match strsOf (keysOf kvs) with
        | some ss => if ss.length < 64 then some (D.new (.lst (isortD (ss.map D.str)))) else none
        | none => match intsOf (keysOf kvs) with
          | some ss => if ss.length < 64 then some (D.new (.lst (isortD (ss.map D.int)))) else none
          | none => none
      | none => (lisOf x S).bind fun xs => (sortD xs).map fun ys => D.new (.lst ys)) = some d := hd
    cases hdc : dctOf x S with
    | none =>
      rw [hdc] at hd
      refine .inl (hK ▸ good_sorted (C := C) (X := X) hu H0 L0 H L S [x] vs F d Q e s r fr ?_ q)
      show (match dctOf x S with
        | some _ => none
        | none => (lisOf x S).bind fun xs => (sortD xs).map fun ys => D.new (.lst ys)) = some d
      rw [hdc]; exact hd
    | some kvs =>
      rw [hdc] at hd
      right
      obtain ⟨v, rfl, rx⟩ := r.one
      obtain ⟨a, us, G, rfl, ha, rk, sub⟩ := dct_of s rx hdc
      dsimp only at hd
      cases hs : strsOf (keysOf kvs) with
      | some ss =>
        rw [hs] at hd
        dsimp only at hd
        by_cases z : ss.length < 64
        · rw [if_pos z] at hd
          cases hd
          obtain ⟨e1, e2⟩ := keys_strs rk hs
          refine .inl ⟨a, us, ss, rfl, .inl ha, e1, z, fun ys p h1 h2 hp => ?_⟩
          refine q _ _ L _ (post_lst e s ?_ (Fr.nil _ _) hp)
          rw [← sortS_eq h1 h2]
          exact rep_strs ys
        · rw [if_neg z] at hd; cases hd
      | none =>
        rw [hs] at hd
        dsimp only at hd
        cases hi : intsOf (keysOf kvs) with
        | none => rw [hi] at hd; cases hd
        | some ss =>
          rw [hi] at hd
          dsimp only at hd
          by_cases z : ss.length < 64
          · rw [if_pos z] at hd
            cases hd
            obtain ⟨e1, e2⟩ := keys_ints rk hi
            refine .inr ⟨a, us, ss, rfl, .inl ha, e1, z, fun ys p h1 h2 hp => ?_⟩
            refine q _ _ L _ (post_lst e s ?_ (Fr.nil _ _) hp)
            rw [← sortI_eq h1 h2]
            exact rep_ints ys
          · rw [if_neg z] at hd; cases hd
  | [], hd => cases hd
  | x :: _ :: _, hd => cases hd
/-! ### dict(..) -/
def rDict (K : PySem.W.Frag) : List V → Hp → VK → Prop := fun xs H Q =>
  (∃ (a : Addr) (kvs : List (L2.Key × V)), xs = [.ref a] ∧ Rd H a (.dK kvs) ∧ ∀ p, H p = none → Q (.ref p) (upd H p (.dK kvs))) ∨
  (∃ (a : Addr) (ps : List Addr) (kvs : List (L2.Key × V)), xs = [.ref a] ∧ SqL K H a (ps.map V.ref) ∧ Paired (fun p kv => SqT K H p [kV kv.1, kv.2]) ps kvs ∧ ∀ p, H p = none → Q (.ref p) (upd H p (.dK (mergeK [] kvs)))) ∨
  ∃ (a : Addr) (ps : List Addr) (kvs : List (L2.Key × V)), xs = [.ref a] ∧ TupS K H a (ps.map V.ref) ∧ Paired (fun p kv => SqT K H p [kV kv.1, kv.2]) ps kvs ∧ ∀ p, H p = none → Q (.ref p) (upd H p (.dK (mergeK [] kvs)))
theorem cr_dict (hc : X.calm = true) : CallR X (.type "dict") (rDict X.K) := CallR.or call_dictD (CallR.or (call_dictP hc) (call_dictPT hc))
theorem pairs_rep {H : Hp} {L : List Addr} : ∀ {xs : List D} {ps : List (D × D)} {vs : List V} {F : List Addr}, pairsD xs = some ps → (ps.all fun p => isCell p.2) = true → (∀ p ∈ ps, (keyD p.1).isSome = true) → Reps C H L xs vs F →
    ∃ (as : List Addr) (kvs : List (L2.Key × V)), vs = as.map V.ref ∧ Paired (fun p kv => SqT C.K H p [kV kv.1, kv.2]) as kvs ∧ RepKs C H L ps kvs []
  | [], ps, vs, F, h, _, _, r => by cases h; cases r; exact ⟨[], [], rfl, .nil, .nil⟩
  | x :: xs, ps, vs, F, h, hc, hk, r => by
    cases r with
    | cons rx rs =>
      rename_i v0 F1 vs1 F2
      have two : ∃ k v qs, (x = .tup [k, v] ∨ x = .wtp [k, v]) ∧ pairsD xs = some qs ∧ ps = (k, v) :: qs := by
        unfold pairsD at h
        split at h
        · rename_i heq; cases heq
        · rename_i k v r heq
          injection heq with e1 e2
          subst e1; subst e2
          cases hq : pairsD xs with
          | none => rw [hq] at h; cases h
          | some qs => rw [hq] at h; cases h; exact ⟨k, v, qs, .inl rfl, rfl, rfl⟩
        · rename_i k v r heq
          injection heq with e1 e2
          subst e1; subst e2
          cases hq : pairsD xs with
          | none => rw [hq] at h; cases h
          | some qs => rw [hq] at h; cases h; exact ⟨k, v, qs, .inr rfl, rfl, rfl⟩
        · cases h
      obtain ⟨k, v, qs, hx, hq, rfl⟩ := two
      rw [List.all_cons, Bool.and_eq_true] at hc
      obtain ⟨as, kvs, rfl, pr, rk⟩ := pairs_rep hq hc.2 (fun p hp => hk p (List.mem_cons_of_mem _ hp)) rs
      have inv : ∃ a ws, v0 = V.ref a ∧ SqT C.K H a ws ∧ Reps C H L [k, v] ws F1 := by
        rcases hx with rfl | rfl
        · obtain ⟨a, ws, e, h1, h2⟩ := rx.tup_inv
          exact ⟨a, ws, e, h1.sq, h2⟩
        · exact rx.wtp_inv
      obtain ⟨a, ws, rfl, ht, r2⟩ := inv
      obtain ⟨w1, w2, F3, F4, rfl, rk1, rv1⟩ := r2.two
      have hk1 := hk (k, v) List.mem_cons_self
      cases hkd : keyD k with
      | none => simp only [hkd] at hk1; cases hk1
      | some q =>
        have ek := key_rep rk1 hkd
        subst ek
        have ev := cell_fp hc.1 rv1
        subst ev
        exact ⟨a :: as, (q, w2) :: kvs, rfl, .cons ht pr, .cons (F := []) (G := []) (key_repK hkd) rv1 rk⟩
theorem mergeKD_keys : ∀ {ps acc kvs : List (D × D)}, mergeKD acc ps = some kvs → ∀ p ∈ ps, (keyD p.1).isSome = true
  | [], _, _, _ => by simp
  | (k, v) :: r, acc, kvs, h => by
    unfold mergeKD at h
    cases hk : keyD k with
    | none => rw [hk] at h; cases h
    | some q =>
      rw [hk] at h
      intro p hp
      rcases List.mem_cons.mp hp with e | e
      · rw [e]; simp [hk]
      · exact mergeKD_keys h p e
theorem mergeKD_rep {H : Hp} {L : List Addr} : ∀ {ps acc kvs : List (D × D)} {qs accV : List (L2.Key × V)}, mergeKD acc ps = some kvs → RepKs C H L ps qs [] → RepKs C H L acc accV [] → RepKs C H L kvs (mergeK accV qs) []
  | [], acc, kvs, qs, accV, h, r, ra => by cases h; cases r; exact ra
  | (k, v) :: ps, acc, kvs, qs, accV, h, r, ra => by
    obtain ⟨F, hF⟩ : ∃ F : List Addr, F = [] := ⟨[], rfl⟩
    rw [← hF] at r
    cases r with
    | cons hk rv rs =>
      obtain ⟨rfl, rfl⟩ := List.append_eq_nil_iff.mp hF
      have e := keyD_of hk
      unfold mergeKD at h
      rw [e] at h
      have := mergeKD_rep h rs (RepKs.put hk rv ra)
      exact this
theorem good_dict (hK : X.K = C.K) : GoodC C (rDict C.K) (bltD .dict) := by
  intro H0 L0 H L S xs vs F d Q e s r fr hd q
  match xs, hd with
  | [x], hd =>
    obtain ⟨v, rfl, rx⟩ := r.one
    have hd : (match dctOf x S with
      | some kvs => some (D.new (.dct kvs))
      | none => match (seqOf x S).bind pairsD with
        | some ps => if (ps.all fun p => isCell p.2) = true ∧ ps.length ≤ sizeLine then (mergeKD [] ps).map fun kvs => D.new (.dct kvs) else none
        | none => none) = some d := hd
    have newp : ∀ {kvs : List (D × D)} {us : List (L2.Key × V)} {G : List Addr} {p : Addr}, RepKs C H L kvs us G → Fr H0 G L → H p = none → Post C H0 L0 S (.new (.dct kvs)) (.ref p) (upd H p (.dK us)) L (p :: G) := by
      intro kvs us G p rk frg hp
      have hn := s.notin hp
      have e2 : Ext H L (upd H p (.dK us)) L := Ext.new hp
      refine ⟨e.trans e2, s.new hp hn, .new upd_same (.dct (rk.car (e2.car frg.out))), ⟨fun a ha => ?_, ?_, fun a ha => ?_⟩⟩
      · rcases List.mem_cons.mp ha with w | w
        · rw [w]; exact e.dom p hp
        · exact frg.new a w
      · refine List.nodup_cons.mpr ⟨fun w => ?_, frg.nd⟩
        obtain ⟨o, z⟩ := rk.trk p w
        rw [hp] at z; cases z
      · rcases List.mem_cons.mp ha with w | w
        · rw [w]; exact hn
        · exact frg.out a w
    cases hdc : dctOf x S with
    | some kvs =>
      rw [hdc] at hd
      cases hd
      obtain ⟨a, us, G, rfl, ha, rk, sub⟩ := dct_of s rx hdc
      exact .inl ⟨a, us, rfl, .inl ha, fun p hp => q _ _ L _ (newp rk (fr.sub sub) hp)⟩
    | none =>
      rw [hdc] at hd
      dsimp only at hd
      right
      cases hs : seqOf x S with
      | none => rw [hs] at hd; cases hd
      | some ys =>
        rw [hs] at hd
        cases hp : pairsD ys with
        | none => simp only [Option.bind, hp] at hd; cases hd
        | some ps =>
          simp only [Option.bind, hp] at hd
          by_cases z : (ps.all fun p => isCell p.2) = true ∧ ps.length ≤ sizeLine
          · rw [if_pos z] at hd
            cases hm : mergeKD [] ps with
            | none => rw [hm] at hd; cases hd
            | some kvs =>
              rw [hm] at hd
              cases hd
              obtain ⟨a, ws, G, rfl, rs, sub, w⟩ := seq_of s rx hs
              obtain ⟨as, qs, rfl, pr, rk⟩ := pairs_rep hp z.1 (mergeKD_keys hm) rs
              have rm := mergeKD_rep hm rk .nil
              rcases w with ⟨w, _⟩ | ⟨_, w, _⟩
              · exact .inl ⟨a, as, qs, rfl, w, pr, fun p hp => q _ _ L _ (newp rm (Fr.nil _ _) hp)⟩
              · exact .inr ⟨a, as, qs, rfl, w, pr, fun p hp => q _ _ L _ (newp rm (Fr.nil _ _) hp)⟩
          · rw [if_neg z] at hd; cases hd
  | [], hd => cases hd
  | x :: _ :: _, hd => cases hd
end
end Nv
/-! Nv: shapes of the text. -/
namespace Nv
open PySem PySem.Spec PyProof.Rows L2
def xEName : PySem.Expr → Option ((Str) × (Pos))
  | .Name id pos => some (id, pos)
  | _ => none
theorem xEName_eq {e0 : PySem.Expr} {id : Str} {pos : Pos} (h : xEName e0 = some (id, pos)) : e0 = .Name id pos := by
  cases e0 <;> first | (cases h; rfl) | cases h
def xEConstant : PySem.Expr → Option ((Const) × (Nat) × (Pos))
  | .Constant v k pos => some (v, k, pos)
  | _ => none
theorem xEConstant_eq {e0 : PySem.Expr} {v : Const} {k : Nat} {pos : Pos} (h : xEConstant e0 = some (v, k, pos)) : e0 = .Constant v k pos := by
  cases e0 <;> first | (cases h; rfl) | cases h
def xETuple : PySem.Expr → Option ((List Expr) × (Nat) × (Pos))
  | .Tuple es k pos => some (es, k, pos)
  | _ => none
theorem xETuple_eq {e0 : PySem.Expr} {es : List Expr} {k : Nat} {pos : Pos} (h : xETuple e0 = some (es, k, pos)) : e0 = .Tuple es k pos := by
  cases e0 <;> first | (cases h; rfl) | cases h
def xEList : PySem.Expr → Option ((List Expr) × (Pos))
  | .List es pos => some (es, pos)
  | _ => none
theorem xEList_eq {e0 : PySem.Expr} {es : List Expr} {pos : Pos} (h : xEList e0 = some (es, pos)) : e0 = .List es pos := by
  cases e0 <;> first | (cases h; rfl) | cases h
def xEDict : PySem.Expr → Option ((List (Option Expr)) × (List Expr) × (Pos))
  | .Dict ks vs pos => some (ks, vs, pos)
  | _ => none
theorem xEDict_eq {e0 : PySem.Expr} {ks : List (Option Expr)} {vs : List Expr} {pos : Pos} (h : xEDict e0 = some (ks, vs, pos)) : e0 = .Dict ks vs pos := by
  cases e0 <;> first | (cases h; rfl) | cases h
def xEBinOp : PySem.Expr → Option ((Expr) × (Operator) × (Expr) × (Pos))
  | .BinOp a op b pos => some (a, op, b, pos)
  | _ => none
theorem xEBinOp_eq {e0 : PySem.Expr} {a : Expr} {op : Operator} {b : Expr} {pos : Pos} (h : xEBinOp e0 = some (a, op, b, pos)) : e0 = .BinOp a op b pos := by
  cases e0 <;> first | (cases h; rfl) | cases h
def xEUnaryOp : PySem.Expr → Option ((UnaryOp) × (Expr) × (Pos))
  | .UnaryOp op a pos => some (op, a, pos)
  | _ => none
theorem xEUnaryOp_eq {e0 : PySem.Expr} {op : UnaryOp} {a : Expr} {pos : Pos} (h : xEUnaryOp e0 = some (op, a, pos)) : e0 = .UnaryOp op a pos := by
  cases e0 <;> first | (cases h; rfl) | cases h
def xECompare : PySem.Expr → Option ((Expr) × (List CmpOp) × (List Expr) × (Pos))
  | .Compare a ops bs pos => some (a, ops, bs, pos)
  | _ => none
theorem xECompare_eq {e0 : PySem.Expr} {a : Expr} {ops : List CmpOp} {bs : List Expr} {pos : Pos} (h : xECompare e0 = some (a, ops, bs, pos)) : e0 = .Compare a ops bs pos := by
  cases e0 <;> first | (cases h; rfl) | cases h
def xEBoolOp : PySem.Expr → Option ((BoolOp) × (List Expr) × (Pos))
  | .BoolOp op es pos => some (op, es, pos)
  | _ => none
theorem xEBoolOp_eq {e0 : PySem.Expr} {op : BoolOp} {es : List Expr} {pos : Pos} (h : xEBoolOp e0 = some (op, es, pos)) : e0 = .BoolOp op es pos := by
  cases e0 <;> first | (cases h; rfl) | cases h
def xEIfExp : PySem.Expr → Option ((Expr) × (Expr) × (Expr) × (Pos))
  | .IfExp c a b pos => some (c, a, b, pos)
  | _ => none
theorem xEIfExp_eq {e0 : PySem.Expr} {c : Expr} {a : Expr} {b : Expr} {pos : Pos} (h : xEIfExp e0 = some (c, a, b, pos)) : e0 = .IfExp c a b pos := by
  cases e0 <;> first | (cases h; rfl) | cases h
def xESubscript : PySem.Expr → Option ((Expr) × (Expr) × (Pos))
  | .Subscript a i pos => some (a, i, pos)
  | _ => none
theorem xESubscript_eq {e0 : PySem.Expr} {a : Expr} {i : Expr} {pos : Pos} (h : xESubscript e0 = some (a, i, pos)) : e0 = .Subscript a i pos := by
  cases e0 <;> first | (cases h; rfl) | cases h
def xESlice : PySem.Expr → Option ((Option Expr) × (Option Expr) × (Option Expr) × (Pos))
  | .Slice lo hi st pos => some (lo, hi, st, pos)
  | _ => none
theorem xESlice_eq {e0 : PySem.Expr} {lo : Option Expr} {hi : Option Expr} {st : Option Expr} {pos : Pos} (h : xESlice e0 = some (lo, hi, st, pos)) : e0 = .Slice lo hi st pos := by
  cases e0 <;> first | (cases h; rfl) | cases h
def xEAttribute : PySem.Expr → Option ((Expr) × (Str) × (Pos))
  | .Attribute o nm pos => some (o, nm, pos)
  | _ => none
theorem xEAttribute_eq {e0 : PySem.Expr} {o : Expr} {nm : Str} {pos : Pos} (h : xEAttribute e0 = some (o, nm, pos)) : e0 = .Attribute o nm pos := by
  cases e0 <;> first | (cases h; rfl) | cases h
def xECall : PySem.Expr → Option ((Expr) × (List Expr) × (List Keyword) × (Pos))
  | .Call f es kws pos => some (f, es, kws, pos)
  | _ => none
theorem xECall_eq {e0 : PySem.Expr} {f : Expr} {es : List Expr} {kws : List Keyword} {pos : Pos} (h : xECall e0 = some (f, es, kws, pos)) : e0 = .Call f es kws pos := by
  cases e0 <;> first | (cases h; rfl) | cases h
def xEListComp : PySem.Expr → Option ((Expr) × (List Comprehension) × (Scope) × (Pos))
  | .ListComp elt gs scope pos => some (elt, gs, scope, pos)
  | _ => none
theorem xEListComp_eq {e0 : PySem.Expr} {elt : Expr} {gs : List Comprehension} {scope : Scope} {pos : Pos} (h : xEListComp e0 = some (elt, gs, scope, pos)) : e0 = .ListComp elt gs scope pos := by
  cases e0 <;> first | (cases h; rfl) | cases h
def xEDictComp : PySem.Expr → Option ((Expr) × (Expr) × (List Comprehension) × (Scope) × (Pos))
  | .DictComp k v gs scope pos => some (k, v, gs, scope, pos)
  | _ => none
theorem xEDictComp_eq {e0 : PySem.Expr} {k : Expr} {v : Expr} {gs : List Comprehension} {scope : Scope} {pos : Pos} (h : xEDictComp e0 = some (k, v, gs, scope, pos)) : e0 = .DictComp k v gs scope pos := by
  cases e0 <;> first | (cases h; rfl) | cases h
def xSReturn : PySem.Stmt → Option ((Option Expr) × (Pos))
  | .Return e pos => some (e, pos)
  | _ => none
theorem xSReturn_eq {e0 : PySem.Stmt} {e : Option Expr} {pos : Pos} (h : xSReturn e0 = some (e, pos)) : e0 = .Return e pos := by
  cases e0 <;> first | (cases h; rfl) | cases h
def xSAssign : PySem.Stmt → Option ((List Expr) × (Expr) × (Pos))
  | .Assign ts v pos => some (ts, v, pos)
  | _ => none
theorem xSAssign_eq {e0 : PySem.Stmt} {ts : List Expr} {v : Expr} {pos : Pos} (h : xSAssign e0 = some (ts, v, pos)) : e0 = .Assign ts v pos := by
  cases e0 <;> first | (cases h; rfl) | cases h
def xSFor : PySem.Stmt → Option ((Expr) × (Expr) × (List Stmt) × (List Stmt) × (Pos))
  | .For tg it b orelse pos => some (tg, it, b, orelse, pos)
  | _ => none
theorem xSFor_eq {e0 : PySem.Stmt} {tg : Expr} {it : Expr} {b : List Stmt} {orelse : List Stmt} {pos : Pos} (h : xSFor e0 = some (tg, it, b, orelse, pos)) : e0 = .For tg it b orelse pos := by
  cases e0 <;> first | (cases h; rfl) | cases h
def xSWhile : PySem.Stmt → Option ((Expr) × (List Stmt) × (List Stmt) × (Pos))
  | .While c b orelse pos => some (c, b, orelse, pos)
  | _ => none
theorem xSWhile_eq {e0 : PySem.Stmt} {c : Expr} {b : List Stmt} {orelse : List Stmt} {pos : Pos} (h : xSWhile e0 = some (c, b, orelse, pos)) : e0 = .While c b orelse pos := by
  cases e0 <;> first | (cases h; rfl) | cases h
def xSIf : PySem.Stmt → Option ((Expr) × (List Stmt) × (List Stmt) × (Pos))
  | .If c a b pos => some (c, a, b, pos)
  | _ => none
theorem xSIf_eq {e0 : PySem.Stmt} {c : Expr} {a : List Stmt} {b : List Stmt} {pos : Pos} (h : xSIf e0 = some (c, a, b, pos)) : e0 = .If c a b pos := by
  cases e0 <;> first | (cases h; rfl) | cases h
def xSExpr : PySem.Stmt → Option ((Expr) × (Pos))
  | .Expr e pos => some (e, pos)
  | _ => none
theorem xSExpr_eq {e0 : PySem.Stmt} {e : Expr} {pos : Pos} (h : xSExpr e0 = some (e, pos)) : e0 = .Expr e pos := by
  cases e0 <;> first | (cases h; rfl) | cases h
end Nv
/-! Nv: the text is the evaluator's. -/
namespace Nv
open PySem PySem.Spec PyProof.Rows L2
/-! ### names, small shapes -/
def visB (sc : Scope) (x : Str) : Bool := match sc.names.lookup x with
  | some .local => true
  | some .cell => true
  | some .free => true
  | _ => false
def locB (sc : Scope) (x : Str) : Bool := match sc.names.lookup x with
  | some .local => true
  | some .cell => true
  | _ => false
def stB (sc sc0 : Scope) (x : Str) : Bool := match sc.names.lookup x with
  | some .local => true
  | some .cell => (match sc0.names.lookup x with
    | some .cell => true
    | _ => false)
  | _ => false
def glB (sc : Scope) (x : Str) : Bool := match sc.names.lookup x with
  | some .globalImplicit => true
  | _ => false
def ndB (x : Str) : Bool := (x == ("__debug__" : Str)) == false
def ncB (x : Str) : Bool := (x == ("__classdict__" : Str)) == false
def nnB (x : Str) : Bool := decide (x ≠ "__name__")
def noSet : Expr → Bool
  | .Set .. => false
  | _ => true
def noSli : Expr → Bool
  | .Slice .. => false
  | _ => true
def notComp : Expr → Bool
  | .ListComp .. => false
  | .SetComp .. => false
  | .DictComp .. => false
  | _ => true
def notTup : Expr → Bool
  | .Tuple .. => false
  | _ => true
def tupT : Expr → Bool
  | .Tuple .. => true
  | _ => false
def abB : Expr → Bool
  | .Call (.Name _ _) [] [] _ => false
  | _ => true
def tstB : Expr → Bool
  | .IfExp .. => false
  | _ => true
def bltN : Blt → Str
  | .len => "len" | .sum => "sum" | .max => "max" | .min => "min" | .all => "all" | .any => "any" | .sorted => "sorted" | .list => "list" | .tuple => "tuple" | .dict => "dict" | .int => "int" | .str => "str"
def bltOk : Blt → Bool
  | .len => true | .sum => true | .max => true | .min => true | .all => true | .any => true | .list => true | .tuple => true | .dict => true | .sorted => true
  | _ => false
/-- a built-in method's name, how many arguments -/
def bmB (m : Bm) (nm : Str) (n : Nat) : Bool := match m with
  | .append => decide (nm = "append") && decide (n = 1)
  | .pop => decide (nm = "pop") && decide (n = 0)
  | .popAt => decide (nm = "pop") && decide (n = 1)
  | .insert => decide (nm = "insert") && decide (n = 2)
  | .extend => decide (nm = "extend") && decide (n = 1)
  | .index => decide (nm = "index") && decide (n = 1)
  | .join => decide (nm = "join") && decide (n = 1)
  | .get => decide (nm = "get") && (decide (n = 1) || decide (n = 2))
  | .setdefault => decide (nm = "setdefault") && decide (n = 2)
  | _ => false
def sameKw : List (Nat ⊕ D) → List (Nat ⊕ D) → Bool
  | [], [] => true
  | .inl a :: r, .inl b :: s => decide (a = b) && sameKw r s
  | .inr a :: r, .inr b :: s => sameD a b && sameKw r s
  | _, _ => false
def freeB (P : Prog) (x : Str) : Bool := P.free.contains x
def sizeB (xs ys : List Expr) : Bool := xs.length == ys.length
/-- the type that isinstance is asked of -/
def isiB (P : Prog) (sc : Scope) (t : IsT) (ty : Expr) : Bool := match t with
  | .cls _ => false
  | .blt => (match xETuple ty with
    | some ([t1, t2, t3], _, _) => (match xEName t1, xEName t2, xEName t3 with
      | some (x, _), some (y, _), some (z, _) => decide (x = "bool") && decide (y = "list") && decide (z = "tuple") && freeB P "bool" && freeB P "list" && freeB P "tuple" && glB sc "bool" && glB sc "list" && glB sc "tuple"
      | _, _, _ => false)
    | _ => false)
  | t => (match xEName ty with
    | some (y, _) => decide (y = istN t) && freeB P (istN t) && glB sc (istN t)
    | none => false)
/-! ### targets -/
mutual
def mG (N : List Str) (sc sc0 : Scope) : G → Expr → Bool
  | .name i, e => match xEName e with
    | some (x, _) => decide (N[i]? = some x) && stB sc sc0 x
    | none => false
  | .tup gs, e => match xETuple e with
    | some (es, _, _) => mGs N sc sc0 gs es
    | none => false
def mGs (N : List Str) (sc sc0 : Scope) : List G → List Expr → Bool
  | [], es => match es with
    | [] => true
    | _ => false
  | g :: gs, es => match es with
    | e :: es => noStar1 e && mG N sc sc0 g e && mGs N sc sc0 gs es
    | [] => false
end
mutual
def mE (P : Prog) (N : List Str) : E → Scope → Expr → Bool
  | .var i, sc, e => match xEName e with
    | some (x, _) => decide (N[i]? = some x) && visB sc x && ndB x && ncB x
    | none => false
  | .non, _, e => match xEConstant e with
    | some (c, _, _) => decide (c = .none)
    | none => false
  | .bl b, _, e => match xEConstant e with
    | some (c, _, _) => decide (c = .bool b)
    | none => false
  | .int i, _, e => match xEConstant e with
    | some (c, _, _) => decide (c = .int i)
    | none => false
  | .str s, _, e => match xEConstant e with
    | some (c, _, _) => decide (c = .str s)
    | none => false
  | .glb k, sc, e => match xEName e, P.globs[k]? with
    | some (x, _), some g => decide (g.1 = x) && glB sc x && ndB x
    | _, _ => false
  | .tup es, sc, e => match xETuple e with
    | some (es', _, _) => mEs P N es sc es'
    | none => false
  | .lst es, sc, e => match xEList e with
    | some (es', _) => mEs P N es sc es'
    | none => false
  | .dct es, sc, e => match xEDict e with
    | some (ks, vs, _) => mDs P N es sc ks vs && decide (ks.length ≤ 15)
    | none => false
  | .bin o a b, sc, e => match xEBinOp e with
    | some (a', q, b', _) => decide (q = bopP o) && mE P N a sc a' && mE P N b sc b'
    | none => false
  | .neg a, sc, e => match xEUnaryOp e with
    | some (q, a', _) => decide (q = .USub) && mE P N a sc a'
    | none => false
  | .cmp o a b, sc, e => match xECompare e with
    | some (a', [q], [b'], _) => decide (q = copP o) && noSet b' && mE P N a sc a' && mE P N b sc b'
    | _ => false
  | .chain o p a b c, sc, e => match xECompare e with
    | some (a', [q, r], [b', c'], _) => decide (q = copP o) && decide (r = copP p) && noSet c' && mE P N a sc a' && mE P N b sc b' && mE P N c sc c'
    | _ => false
  | .and es, sc, e => match xEBoolOp e with
    | some (q, es', _) => decide (q = .And) && mEs P N es sc es' && !es'.isEmpty && es'.all tstB
    | none => false
  | .or es, sc, e => match xEBoolOp e with
    | some (q, es', _) => decide (q = .Or) && mEs P N es sc es' && !es'.isEmpty && es'.all tstB
    | none => false
  | .not a, sc, e => match xEUnaryOp e with
    | some (q, a', _) => decide (q = .Not) && tstB a' && mE P N a sc a'
    | none => false
  | .ite c a b, sc, e => match xEIfExp e with
    | some (c', a', b', _) => tstB c' && mE P N c sc c' && mE P N a sc a' && mE P N b sc b'
    | none => false
  | .idx a i, sc, e => match xESubscript e with
    | some (a', i', _) => noSli i' && mE P N a sc a' && mE P N i sc i'
    | none => false
  | .slc a lo hi, sc, e => match xESubscript e with
    | some (a', i', _) => match xESlice i' with
      | some (lo', hi', none, _) => mE P N a sc a' && mO P N lo sc lo' && mO P N hi sc hi'
      | _ => false
    | none => false
  | .attr o f, sc, e => match xEAttribute e with
    | some (o', nm, _) => abB o' && decide (P.syms[f]? = some nm) && decide (f < P.nf) && mE P N o sc o'
    | none => false
  | .call f es, sc, e => match xECall e, P.fns[f]? with
    | some (g, es', [], _), some fn => match xEName g with
      | some (x, _) => decide (x = fn.name) && !(fn.name.cps.isEmpty) && glB sc x && mEs P N es sc es' && fn.pos
      | none => false
    | _, _ => false
  | .meth o c m f es, sc, e => match xECall e, P.cls[c]?, P.fns[f]? with
    | some (g, es', [], pos), some cl, some fn => match xEAttribute g with
      | some (o', nm, apos) => abB o' && decide (P.syms[m]? = some nm) && cl.meths.contains (m, f) && decide (es'.length < 30) && (apos.endLine == pos.line) && mE P N o sc o' && mEs P N es sc es' && fn.pos
      | none => false
    | _, _, _ => false
  | .make c es, sc, e => match xECall e, P.cls[c]? with
    | some (g, es', [], _), some cl => match xEName g with
      | some (x, _) => decide (x = cl.name) && (P.fns[cl.init]?).isSome && glB sc x && mEs P N es sc es' && (match P.fns[cl.init]? with
        | some fn => fn.pos
        | none => false)
      | none => false
    | _, _ => false
  | .makek c es ks names ds, sc, e => match xECall e, P.cls[c]? with
    | some (g, e0 :: es', kws, _), some cl => match xEName g with
      | some (x, _) => decide (x = cl.name) && (P.fns[cl.init]?).isSome && glB sc x && mEs P N es sc (e0 :: es') && mKs P N ks names sc kws && P.kws.any fun q => decide (q.1 = c) && decide (q.2.1 = es.length) && decide (q.2.2.1 = names) && sameKw q.2.2.2 ds
      | none => false
    | _, _ => false
  | .blt f es, sc, e => match xECall e with
    | some (g, e0 :: es', [], _) => match xEName g with
      | some (x, _) => bltOk f && decide (x = bltN f) && freeB P x && glB sc x && mEs P N es sc (e0 :: es')
      | none => false
    | _ => false
  | .bm m o es, sc, e => match xECall e with
    | some (g, es', [], pos) => match xEAttribute g with
      | some (o', nm, apos) => abB o' && (apos.endLine == pos.line) && mE P N o sc o' && mEs P N es sc es' && bmB m nm es'.length
      | none => false
    | _ => false
  | .isi a t, sc, e => match xECall e with
    | some (g, [a', ty], [], _) => match xEName g with
      | some (x, _) => decide (x = "isinstance") && freeB P "isinstance" && glB sc "isinstance" && noStar1 a' && mE P N a sc a' && isiB P sc t ty
      | none => false
    | _ => false
  | .comp own g it ifs elt, sc, e => match xEListComp e with
    | some (elt', [⟨tg, iter, ifs', asy⟩], scope, _) => decide (asy = 0) && blkC N sc scope own && mI P N it sc tg iter && mG N (relS scope sc) scope g tg && (g.slots.all fun i => (own.map (·.2)).contains i) &&
        mEs P N ifs (relS scope sc) ifs' && decide (ifs'.length ≤ 1) && ifs'.all tstB && mE P N elt (relS scope sc) elt'
    | _ => false
  | .comp2 own g it ifs g1 it1 ifs1 elt, sc, e => match xEListComp e with
    | some (elt', [⟨tg, iter, ifs', asy⟩, ⟨tg1, iter1, ifs1', asy1⟩], scope, _) => decide (asy = 0) && decide (asy1 = 0) && blkC N sc scope own && mI P N it sc tg iter && mG N (relS scope sc) scope g tg && (g.slots.all fun i => (own.map (·.2)).contains i) && (g1.slots.all fun i => (own.map (·.2)).contains i) &&
        (mEs P N ifs (relS scope sc) ifs' && decide (ifs'.length ≤ 1) && ifs'.all tstB) && mI P N it1 (relS scope sc) tg1 iter1 && mG N (relS scope sc) scope g1 tg1 && (mEs P N ifs1 (relS scope sc) ifs1' && decide (ifs1'.length ≤ 1) && ifs1'.all tstB) && noSet iter1 && mE P N elt (relS scope sc) elt'
    | _ => false
  | .dcomp own g it ifs k v, sc, e => match xEDictComp e with
    | some (k', v', [⟨tg, iter, ifs', asy⟩], scope, _) => decide (asy = 0) && blkC N sc scope own && mI P N it sc tg iter && mG N (relS scope sc) scope g tg && (g.slots.all fun i => (own.map (·.2)).contains i) &&
        (mEs P N ifs (relS scope sc) ifs' && decide (ifs'.length ≤ 1) && ifs'.all tstB) && mE P N k (relS scope sc) k' && mE P N v (relS scope sc) v'
    | _ => false
  | .revs a, sc, e => match xESubscript e with
    | some (a', i', _) => match xESlice i' with
      | some (none, none, some st, _) => match xEUnaryOp st with
        | some (.USub, o, _) => match xEConstant o with
          | some (c, _, _) => decide (c = .int 1) && mE P N a sc a'
          | none => false
        | _ => false
      | _ => false
    | none => false
  | .lens _, _, _ => false
termination_by structural e => e
def mDs (P : Prog) (N : List Str) : List E → Scope → List (Option Expr) → List Expr → Bool
  | [], _, ks, vs => match ks, vs with
    | [], [] => true
    | _, _ => false
  | [_], _, _, _ => false
  | a :: b :: as, sc, ks, vs => match ks, vs with
    | some k :: ks, v :: vs => mE P N a sc k && mE P N b sc v && mDs P N as sc ks vs
    | _, _ => false
termination_by structural e => e
def mEs (P : Prog) (N : List Str) : List E → Scope → List Expr → Bool
  | [], _, es => match es with
    | [] => true
    | _ => false
  | a :: as, sc, es => match es with
    | e :: es => noStar1 e && mE P N a sc e && mEs P N as sc es
    | [] => false
termination_by structural e => e
def mKs (P : Prog) (N : List Str) : List E → List Str → Scope → List Keyword → Bool
  | [], ns, _, kws => match ns, kws with
    | [], [] => true
    | _, _ => false
  | a :: as, ns, sc, kws => match ns, kws with
    | n :: ns, ⟨nm, e, _⟩ :: kws => decide (nm = some n) && mE P N a sc e && mKs P N as ns sc kws
    | _, _ => false
termination_by structural e => e
def mO (P : Prog) (N : List Str) : Option E → Scope → Option Expr → Bool
  | none, _, o => match o with
    | none => true
    | some _ => false
  | some a, sc, o => match o with
    | some e => mE P N a sc e
    | none => false
termination_by structural e => e
def mI (P : Prog) (N : List Str) : Nv.It → Scope → Expr → Expr → Bool
  | .of a, sc, _, e => noSet e && mE P N a sc e
  | .range es, sc, _, e => match xECall e with
    | some (g, es', [], _) => match xEName g with
      | some (x, _) => decide (x = "range") && freeB P "range" && glB sc "range" && mEs P N es sc es' && (decide (es'.length = 1) || decide (es'.length = 2))
      | none => false
    | _ => false
  | .enum a, sc, tg, e => match xECall e with
    | some (g, [e'], [], _) => match xEName g with
      | some (x, _) => decide (x = "enumerate") && freeB P "enumerate" && glB sc "enumerate" && tupT tg && noStar1 e' && mE P N a sc e'
      | none => false
    | _ => false
  | .zip a b, sc, tg, e => match xECall e with
    | some (g, [a', b'], [], _) => match xEName g with
      | some (x, _) => decide (x = "zip") && freeB P "zip" && glB sc "zip" && tupT tg && noStar1 a' && noStar1 b' && mE P N a sc a' && mE P N b sc b'
      | none => false
    | _ => false
  | .rev _, _, _, _ => false
termination_by structural e => e
end
end Nv
/-! Nv: where a text may be read; each expression is read as its evaluator says. -/
namespace Nv
open PySem PySem.Spec PyProof.Rows L2
def R0 : XR := fun _ _ _ _ => False
/-! ### what may be called -/
structure FnF (C : Cxt) (P : Program) (w : World) (K : PySem.W.Frag) (mg : Str → Option Value) (base : Heap) (A : Around) (nm : Str) (n : Nat) (g : List D → Store → Rs D) : Prop where
  nd : (nm == ("__debug__" : Str)) = false
  ex : ∃ (k : Nat) (f : Addr) (fd : FuncData) (ps : List Str), FnOk P w K mg base CX0 k f fd ps (spF C R0 n g) ∧ Room k A ∧ mg nm = some (.ref f) ∧ PySem.W.keepIn K (.ref f) = true ∧ Binds K fd ps []
theorem FnF.c {C : Cxt} {X : Cx} {E : XK} {nm : Str} {n : Nat} {g : List D → Store → Rs D} (h : FnF C X.prog X.w X.K X.mg X.base X.A nm n g) : FnC C R0 X E nm n g :=
  ⟨h.nd, let ⟨k, f, fd, ps, h1, h2, h3, h4, h5⟩ := h.ex; ⟨CX0, k, f, fd, ps, h1, h2, h3, h4, h5, pass0⟩⟩
structure MtF (C : Cxt) (P : Program) (w : World) (K : PySem.W.Frag) (mg : Str → Option Value) (base : Heap) (A : Around) (c : Nat) (m : Str) (n : Nat) (g : List D → Store → Rs D) : Prop where
  cl : Cls K (C.CA c)
  ex : ∃ (k : Nat) (f : Addr) (fd : FuncData) (ps : List Str), FnOk P w K mg base CX0 k f fd ps (spF C R0 n g) ∧ Room k A ∧ Meth K (C.CA c) m f ∧ Binds K fd ps []
theorem MtF.c {C : Cxt} {X : Cx} {E : XK} {c : Nat} {m : Str} {n : Nat} {g : List D → Store → Rs D} (h : MtF C X.prog X.w X.K X.mg X.base X.A c m n g) : MtC C R0 X E c m n g :=
  ⟨h.cl, let ⟨k, f, fd, ps, h1, h2, h3, h4⟩ := h.ex; ⟨CX0, k, f, fd, ps, h1, h2, h3, h4, pass0⟩⟩
structure MkF (C : Cxt) (P : Program) (w : World) (K : PySem.W.Frag) (mg : Str → Option Value) (base : Heap) (A : Around) (nm : Str) (c : Nat) (n : Nat) (g : List D → Store → Rs D) : Prop where
  nd : (nm == ("__debug__" : Str)) = false
  lt : c < C.nc
  hmg : mg nm = some (.ref (C.CA c))
  ex : ∃ (k : Nat) (f : Addr) (fd : FuncData) (ps : List Str), FnOk P w K mg base CX0 k f fd ps (spF C R0 n g) ∧ Room (k + 1) A ∧ Mk K (C.CA c) f ∧ Binds K fd ps []
theorem MkF.c {C : Cxt} {X : Cx} {E : XK} {nm : Str} {c : Nat} {n : Nat} {g : List D → Store → Rs D} (h : MkF C X.prog X.w X.K X.mg X.base X.A nm c n g) : MkC C R0 X E nm c n g :=
  ⟨h.nd, h.lt, h.hmg, let ⟨k, f, fd, ps, h1, h2, h3, h4⟩ := h.ex; ⟨CX0, k, f, fd, ps, h1, h2, h3, h4, pass0⟩⟩
structure MkKF (C : Cxt) (P : Program) (w : World) (K : PySem.W.Frag) (mg : Str → Option Value) (base : Heap) (A : Around) (nm : Str) (c : Nat) (n : Nat) (g : List D → Store → Rs D) (np : Nat) (ks : List Str) (ds : List (Nat ⊕ D)) : Prop where
  nd : (nm == ("__debug__" : Str)) = false
  lt : c < C.nc
  hmg : mg nm = some (.ref (C.CA c))
  ex : ∃ (k : Nat) (f : Addr) (fd : FuncData) (ps : List Str) (gV : List V → List V → List V) (gu : List Value → List Value → List Value), FnOk P w K mg base CX0 k f fd ps (spF C R0 n g) ∧ Room (k + 1) A ∧ Mk K (C.CA c) f ∧
    KBn K fd ps (np + 1) ks gu gV ∧ ∀ (H : Hp) (L : List Addr) (xs ys : List D) (vs zs : List V), xs.length = np → ys.length = ks.length → Reps C H L xs vs [] → Reps C H L ys zs [] → ∀ v, ∃ ws, gV (v :: vs) zs = v :: ws ∧ Reps C H L (xs ++ kwD ds ys) ws []
theorem MkKF.c {C : Cxt} {X : Cx} {E : XK} {nm : Str} {c : Nat} {n : Nat} {g : List D → Store → Rs D} {np : Nat} {ks : List Str} {ds : List (Nat ⊕ D)} (h : MkKF C X.prog X.w X.K X.mg X.base X.A nm c n g np ks ds) : MkK C R0 X E nm c n g np ks ds :=
  ⟨h.nd, h.lt, h.hmg, let ⟨k, f, fd, ps, gV, gu, h1, h2, h3, h4, h5⟩ := h.ex; ⟨CX0, k, f, fd, ps, gV, gu, h1, h2, h3, h4, pass0, h5⟩⟩
/-- the facts of the program -/
structure Gw (C : Cxt) (P : Prog) (M : Sm) (prog : Program) (w : World) (K : PySem.W.Frag) (mg : Str → Option Value) (base : Heap) (A : Around) : Prop where
  hK : K = C.K
  un : A.units + 64 < cLine
  fns : ∀ f fn, P.fns[f]? = some fn → fn.name.cps.isEmpty = false → fn.pos = true → FnF C prog w K mg base A fn.name fn.ps (M.call f)
  flen : ∀ f fn, P.fns[f]? = some fn → ∀ ds : List D, ds.length ≠ fn.ps → ∀ S, M.call f ds S = .stuck
  ilen : ∀ f fn, P.fns[f]? = some fn → ∀ ds : List D, ds.length ≠ fn.ps → ∀ S, M.init f ds S = .stuck
  mks : ∀ c cl fn, P.cls[c]? = some cl → P.fns[cl.init]? = some fn → fn.pos = true → MkF C prog w K mg base A cl.name c fn.ps (M.init cl.init)
  mkks : ∀ c cl fn np ks ds, P.cls[c]? = some cl → P.fns[cl.init]? = some fn → (c, np, ks, ds) ∈ P.kws → MkKF C prog w K mg base A cl.name c fn.ps (M.init cl.init) np ks ds
  mts : ∀ c cl m f fn nm, P.cls[c]? = some cl → (m, f) ∈ cl.meths → P.fns[f]? = some fn → fn.pos = true → P.syms[m]? = some nm → MtF C prog w K mg base A c nm fn.ps (M.call f)
  globs : ∀ (k : Nat) (g : Str × D), P.globs[k]? = some g → ∃ v u, mg g.1 = some u ∧ RelV v u ∧ ∀ H L, Rep C H L g.2 v []
  free : ∀ x ∈ P.free, mg x = none
  sym : ∀ k nm, P.syms[k]? = some nm → C.sym k = nm
  inj : ∀ f g, C.sym f = C.sym g → f = g
  cls : ∀ c, c < C.nc → Cls K (C.CA c)
  noat : ∀ f nm, P.syms[f]? = some nm → f < P.nf → ∀ c, c < C.nc → NoAttr K (C.CA c) nm
/-- a context -/
structure Cok (C : Cxt) (P : Prog) (M : Sm) (N : List Str) (sc sc0 : Scope) (X : Cx) : Prop where
  gw : Gw C P M X.prog X.w X.K X.mg X.base X.A
  hN : X.N = N
  nd : N.Nodup
  hsc : X.env.scope = sc
  calm : X.calm = true
  fn : ∀ x, sc0.names.lookup x = some .cell → X.fn x = true
  never : ∀ e s, ¬ X.xe e s
section
variable {C : Cxt} {P : Prog} {M : Sm} {N : List Str} {sc sc0 : Scope} {X : Cx} {pos : Pos}
theorem Cok.gl (G : Cok C P M N sc sc0 X) {x : Str} (h : glB sc x = true) : Gl X x := by
  unfold Gl Env.kindOf
  rw [G.hsc]
  unfold glB at h
  split at h
  · assumption
  · cases h
theorem Cok.vis (G : Cok C P M N sc sc0 X) {x : Str} (h : visB sc x = true) : L2.Vis X.env.scope x := by
  unfold L2.Vis
  rw [G.hsc]
  unfold visB at h
  split at h
  · exact .inl (by assumption)
  · exact .inr (.inl (by assumption))
  · exact .inr (.inr (by assumption))
  · cases h
theorem Cok.st (G : Cok C P M N sc sc0 X) {x : Str} (h : stB sc sc0 x = true) : L2.Loc X.env.scope x ∧ (X.fn x = true ∨ X.env.scope.names.lookup x = some .local) := by
  unfold L2.Loc
  rw [G.hsc]
  unfold stB at h
  split at h
  · rename_i q; exact ⟨.inl q, .inr q⟩
  · rename_i q
    split at h
    · rename_i q2; exact ⟨.inr q, .inl (G.fn x q2)⟩
    · cases h
  · cases h
theorem Cok.blk (G : Cok C P M N sc sc0 X) (s : Shared) (H : Hp) (scope : Scope) (Ca : Addr) (cl : List (Str × Addr)) (fp : List Addr) : Cok C P M N (relS scope sc) scope (X.blk s H scope (compEnvC scope cl Ca X.env) fp) where
  gw := G.gw
  hN := G.hN
  nd := G.nd
  hsc := by
    have := G.hsc
    subst this
    rfl
  calm := G.calm
  fn := fun x h => by
    show (scope.names.lookup x == some .cell) = true
    rw [h]; rfl
  never := fun _ _ z => z
theorem abB_ok {o : Expr} (h : abB o = true) (nm : Str) (env : Env) (whole : Sem Value) : attributeBase o nm env whole = whole := by
  unfold attributeBase
  split
  · cases h
  · rfl
theorem noSet_ne {e : Expr} (h : noSet e = true) : ∀ es k p, e ≠ .Set es k p := fun es k p q => by subst q; cases h
theorem noSli_ne {e : Expr} (h : noSli e = true) : ∀ l u s p, e ≠ .Slice l u s p := fun l u s p q => by subst q; cases h
theorem noSet_fold {e : Expr} {env : Env} (h : noSet e = true) (x : Value) : foldedSetIterable e env x = pure x := by
  cases e <;> first | rfl | cases h
theorem beqF {a b : Str} (h : ((a == b) == false) = true) : (a == b) = false := by
  cases q : a == b with
  | false => rfl
  | true => rw [q] at h; cases h
/-! ### targets -/
theorem assignEach_ns {e : Expr} {es : List Expr} {env : Env} (h : noStar1 e = true) : assignEach (e :: es) env = (false, assign e env) :: assignEach es env := by
  cases e <;> first
    | rfl
    | cases h
mutual
theorem mG_ok (G : Cok C P M N sc sc0 X) : ∀ (g : Nv.G) (e : Expr), mG N sc sc0 g e = true → EG C X e g.slots (evalG g)
  | .name i, e, h => by
    unfold mG at h
    cases q : xEName e with
    | none => rw [q] at h; cases h
    | some r =>
      obtain ⟨x, pos⟩ := r
      rw [q] at h
      simp only [Bool.and_eq_true, decide_eq_true_eq] at h
      obtain ⟨h1, h2⟩ := h
      have := xEName_eq q
      subst this
      exact eg_name (by rw [G.hN]; exact G.nd) (by rw [G.hN]; exact h1) (G.st h2).1 (G.st h2).2
  | .tup gs, e, h => by
    unfold mG at h
    cases q : xETuple e with
    | none => rw [q] at h; cases h
    | some r =>
      obtain ⟨es, k, pos⟩ := r
      rw [q] at h
      have := xETuple_eq q
      subst this
      obtain ⟨r1, r2, r3⟩ := mGs_ok G gs es h
      exact eg_tup (n := gs.length) G.gw.hK G.calm r1 (fun xs ρ S ρ' S' z => evalGs_len z) r2 r3
theorem mGs_ok (G : Cok C P M N sc sc0 X) : ∀ (g : List Nv.G) (e : List Expr), mGs N sc sc0 g e = true → EGs C X e (slotsL g) (evalGs g) ∧ (assignEach e X.env).length = g.length ∧ (assignEach e X.env).findIdx? (·.1) = none
  | [], e, h => by
    cases e with
    | nil => exact ⟨egs_nil, rfl, rfl⟩
    | cons e es => cases h
  | g :: gs, e, h => by
    cases e with
    | nil => cases h
    | cons e es =>
      have h' : (noStar1 e && mG N sc sc0 g e && mGs N sc sc0 gs es) = true := h
      simp only [Bool.and_eq_true] at h'
      obtain ⟨⟨h1, h2⟩, h3⟩ := h'
      obtain ⟨r1, r2, r3⟩ := mGs_ok G gs es h3
      have as := assignEach_ns (es := es) (env := X.env) h1
      refine ⟨egs_cons (mG_ok G g e h2) r1 (by rw [as]; rfl), by rw [as, List.length_cons, r2]; rfl, ?_⟩
      rw [as, List.findIdx?_cons, r3]
      rfl
end
end
end Nv
/-! Nv: each expression is read as its evaluator says. -/
namespace Nv
open PySem PySem.Spec PyProof.Rows L2
section
variable {C : Cxt} {P : Prog} {M : Sm} {N : List Str} {sc sc0 : Scope} {X : Cx} {pos : Pos}
abbrev EEb (C : Cxt) (P : Prog) (M : Sm) (X : Cx) (e : E) (e' : Expr) : Prop := EE C R0 X E0' e' (evalE P M e) ∧ (tstB e' = true → ET C R0 X E0' e' (evalE P M e))
def EEsP (C : Cxt) (P : Prog) (M : Sm) (X : Cx) : List E → List Expr → Prop
  | [], es => es = []
  | a :: as, es => match es with
    | [] => False
    | e :: es => noStar1 e = true ∧ EEb C P M X a e ∧ EEsP C P M X as es
theorem EEsP.ns : ∀ {es : List E} {es' : List Expr}, EEsP C P M X es es' → noStar es' = true
  | [], es', h => by cases h; rfl
  | a :: as, [], h => h.elim
  | a :: as, e :: es, h => by
    unfold noStar
    rw [List.all_cons, h.1]
    exact (EEsP.ns h.2.2)
theorem EEsP.ea : ∀ {es : List E} {es' : List Expr}, EEsP C P M X es es' → EA C R0 X E0' es' (evalEs P M es)
  | [], es', h => by cases h; exact ea_nil
  | a :: as, [], h => h.elim
  | a :: as, e :: es, h => ea_cons h.2.1.1 (EEsP.ea h.2.2) (starEach_ns h.1)
theorem EEsP.len : ∀ {es : List E} {es' : List Expr}, EEsP C P M X es es' → es.length = es'.length
  | [], es', h => by cases h; rfl
  | a :: as, [], h => h.elim
  | a :: as, e :: es, h => congrArg Nat.succ (EEsP.len h.2.2)
theorem evalEs_len : ∀ {es : List E} {ρ : AEnv} {S : Store} {xs : List D} {S1 : Store}, evalEs P M es ρ S = .ok xs S1 → xs.length = es.length
  | [], ρ, S, xs, S1, h => by cases h; rfl
  | e :: es, ρ, S, xs, S1, h => by
    obtain ⟨x, S2, h1, h2⟩ := Rs.bind_ok (show ((evalE P M e ρ S).bind fun x S1 => (evalEs P M es ρ S1).bind fun xs S2 => Rs.ok (x :: xs) S2) = _ from h)
    obtain ⟨ys, S3, h3, h4⟩ := Rs.bind_ok h2
    cases h4
    rw [List.length_cons, List.length_cons, evalEs_len h3]
theorem EEsP.and (hK : X.K = C.K) : ∀ {es : List E} {es' : List Expr}, EEsP C P M X es es' → es' ≠ [] → es'.all tstB = true → EE C R0 X E0' (.BoolOp .And es' pos) (evalAnd P M es) ∧ EW C R0 X E0' (.BoolOp .And es' pos) (evalAnd P M es)
  | [], es', h, ne, _ => by cases h; exact absurd rfl ne
  | a :: as, [], h, ne, _ => h.elim
  | [a], [e], h, ne, ht => by
    simp only [List.all_cons, List.all_nil, Bool.and_true] at ht
    exact ⟨ee_one h.2.1.1, ew_and1 (h.2.1.2 ht)⟩
  | [a], e :: e2 :: es, h, ne, ht => nomatch h.2.2
  | a :: b :: as, [e], h, ne, ht => h.2.2.elim
  | a :: b :: as, e :: e2 :: es, h, ne, ht => by
    rw [List.all_cons, Bool.and_eq_true] at ht
    obtain ⟨i1, i2⟩ := EEsP.and hK (es := b :: as) h.2.2 (by simp) ht.2
    exact ⟨ee_and hK h.2.1.1 i1, ew_and (h.2.1.2 ht.1) i2⟩
theorem EEsP.or (hK : X.K = C.K) : ∀ {es : List E} {es' : List Expr}, EEsP C P M X es es' → es' ≠ [] → es'.all tstB = true → EE C R0 X E0' (.BoolOp .Or es' pos) (evalOr P M es) ∧ EW C R0 X E0' (.BoolOp .Or es' pos) (evalOr P M es)
  | [], es', h, ne, _ => by cases h; exact absurd rfl ne
  | a :: as, [], h, ne, _ => h.elim
  | [a], [e], h, ne, ht => by
    simp only [List.all_cons, List.all_nil, Bool.and_true] at ht
    exact ⟨ee_one h.2.1.1, ew_or1 (h.2.1.2 ht)⟩
  | [a], e :: e2 :: es, h, ne, ht => nomatch h.2.2
  | a :: b :: as, [e], h, ne, ht => h.2.2.elim
  | a :: b :: as, e :: e2 :: es, h, ne, ht => by
    rw [List.all_cons, Bool.and_eq_true] at ht
    obtain ⟨i1, i2⟩ := EEsP.or hK (es := b :: as) h.2.2 (by simp) ht.2
    exact ⟨ee_or hK h.2.1.1 i1, ew_or (h.2.1.2 ht.1) i2⟩
theorem EEsP.nil0 {es : List E} {es' : List Expr} (h : EEsP C P M X es es') (q : es' = []) : evalEs P M es = fun _ S => .ok [] S := by
  subst q
  cases es with
  | nil => rfl
  | cons a as => exact h.elim
theorem of_plain (hK : X.K = C.K) {e : E} {e' : Expr} (hp : plainT e' = true) (h : EE C R0 X E0' e' (evalE P M e)) : EEb C P M X e e' := ⟨h, fun _ => et_plain hK hp h⟩
theorem nn_lit (s : Str) (h : nnB s = true) : s ≠ "__name__" := of_decide_eq_true h
theorem blt_ok (G : Cok C P M N sc sc0 X) {f : Blt} {es : List E} {e0 : Expr} {es' : List Expr} {p0 : Pos} (ok : bltOk f = true) (hf : P.free.contains (bltN f) = true) (hg : glB sc (bltN f) = true) (h : EEsP C P M X es (e0 :: es')) :
    EE C R0 X E0' (.Call (.Name (bltN f) p0) (e0 :: es') [] pos) (evalE P M (.blt f es)) := by
  have hm : X.mg (bltN f) = none := G.gw.free _ (by simpa using hf)
  have hK := G.gw.hK
  cases f <;> first
    | (cases ok; done)
    | exact ee_blt1 (hK ▸ CallR.or call_len call_lenD) good_len (G.gl hg) hm (by decide +kernel) (by decide +kernel) (by decide +kernel) h.ns h.ea
    | exact ee_blt1 (hK ▸ cr_sum G.calm) good_sum (G.gl hg) hm (by decide +kernel) (by decide +kernel) (by decide +kernel) h.ns h.ea
    | exact ee_blt1 (hK ▸ cr_all G.calm) good_all (G.gl hg) hm (by decide +kernel) (by decide +kernel) (by decide +kernel) h.ns h.ea
    | exact ee_blt1 (hK ▸ cr_all) good_all (G.gl hg) hm (by decide +kernel) (by decide +kernel) (by decide +kernel) h.ns h.ea
    | exact ee_blt1 (hK ▸ cr_any) good_any (G.gl hg) hm (by decide +kernel) (by decide +kernel) (by decide +kernel) h.ns h.ea
    | exact ee_blt1 (hK ▸ cr_any G.calm) good_any (G.gl hg) hm (by decide +kernel) (by decide +kernel) (by decide +kernel) h.ns h.ea
    | exact ee_bltT (T := "list") (hK ▸ call_list_of) good_list (G.gl hg) hm (by decide +kernel) (by decide +kernel) (by decide +kernel) h.ns h.ea
    | exact ee_bltT (T := "tuple") (hK ▸ call_tupleS) good_tuple (G.gl hg) hm (by decide +kernel) (by decide +kernel) (by decide +kernel) h.ns h.ea
    | exact ee_bltT (T := "dict") (hK ▸ cr_dict G.calm) (good_dict hK) (G.gl hg) hm (by decide +kernel) (by decide +kernel) (by decide +kernel) h.ns h.ea
    | exact ee_blt1 (cr_sortAll G.calm) (good_sortAll hK G.gw.un) (G.gl hg) hm (by decide +kernel) (by decide +kernel) (by decide +kernel) h.ns h.ea
    | exact ee_blt1 (call_max2 G.calm) good_max (G.gl hg) hm (by decide +kernel) (by decide +kernel) (by decide +kernel) h.ns h.ea
    | exact ee_blt1 (call_min2 G.calm) good_min (G.gl hg) hm (by decide +kernel) (by decide +kernel) (by decide +kernel) h.ns h.ea
end
end Nv
/-! Nv: each expression is read as its evaluator says. -/
namespace Nv
open PySem PySem.Spec PyProof.Rows L2
section
variable {C : Cxt} {P : Prog} {M : Sm} {N : List Str}
theorem sameKw_eq : ∀ {a b : List (Nat ⊕ D)}, sameKw a b = true → a = b
  | [], [], _ => rfl
  | .inl a :: r, .inl b :: s, h => by
    have h' : (decide (a = b) && sameKw r s) = true := h
    rw [Bool.and_eq_true] at h'
    rw [of_decide_eq_true h'.1, sameKw_eq h'.2]
  | .inr a :: r, .inr b :: s, h => by
    have h' : (sameD a b && sameKw r s) = true := h
    rw [Bool.and_eq_true] at h'
    rw [sameD_eq _ _ h'.1, sameKw_eq h'.2]
  | [], _ :: _, h => by cases h
  | .inl _ :: _, [], h => by cases h
  | .inr _ :: _, [], h => by cases h
  | .inl _ :: _, .inr _ :: _, h => by cases h
  | .inr _ :: _, .inl _ :: _, h => by cases h
theorem isi_ok {X : Cx} {sc sc0 : Scope} {p0 pos : Pos} (G : Cok C P M N sc sc0 X) {a : E} {a' ty : Expr} {t : IsT} (h : isiB P sc t ty = true) (hg : Gl X "isinstance") (m1 : X.mg "isinstance" = none) (ns : noStar1 a' = true) (ha : EE C R0 X E0' a' (evalE P M a)) :
    EE C R0 X E0' (.Call (.Name "isinstance" p0) [a', ty] [] pos) (evalE P M (.isi a t)) := by
  have one : t ≠ .blt → (∀ c, t ≠ .cls c) → (istN t == ("__debug__" : Str)) = false → istN t ≠ "__name__" → bootBuiltins (istN t) = some (.type (istS t)) → (match xEName ty with
    | some (y, _) => decide (y = istN t) && freeB P (istN t) && glB sc (istN t)
    | none => false) = true → EE C R0 X E0' (.Call (.Name "isinstance" p0) [a', ty] [] pos) (evalE P M (.isi a t)) := fun n1 _ n3 n4 n5 h => by
    cases q4 : xEName ty with
    | none => rw [q4] at h; cases h
    | some r4 =>
      obtain ⟨y, p2⟩ := r4
      rw [q4] at h
      simp only [Bool.and_eq_true, decide_eq_true_eq] at h
      obtain ⟨⟨g1, g2⟩, g3⟩ := h
      have := xEName_eq q4
      subst this
      subst g1
      exact ee_isi G.gw.hK hg m1 (G.gl g3) (G.gw.free _ (by simpa [freeB] using g2)) n3 n4 ns n1 n5 ha
  cases t with
  | cls c => cases h
  | blt =>
    unfold isiB at h
    cases q : xETuple ty with
    | none => rw [q] at h; cases h
    | some r =>
      obtain ⟨es, k, pt⟩ := r
      rw [q] at h
      match es, h, q with
      | [t1, t2, t3], h, q =>
        dsimp only at h
        cases q1 : xEName t1 with
        | none => rw [q1] at h; cases h
        | some r1 =>
          cases q2 : xEName t2 with
          | none => rw [q1, q2] at h; cases h
          | some r2 =>
            cases q3 : xEName t3 with
            | none => rw [q1, q2, q3] at h; cases h
            | some r3 =>
              obtain ⟨x, p1⟩ := r1
              obtain ⟨y, p2⟩ := r2
              obtain ⟨z, p3⟩ := r3
              rw [q1, q2, q3] at h
              simp only [Bool.and_eq_true, decide_eq_true_eq] at h
              obtain ⟨⟨⟨⟨⟨⟨⟨⟨e1, e2⟩, e3⟩, f1⟩, f2⟩, f3⟩, g1⟩, g2⟩, g3⟩ := h
              have := xETuple_eq q
              subst this
              have := xEName_eq q1
              subst this
              have := xEName_eq q2
              subst this
              have := xEName_eq q3
              subst this
              subst e1; subst e2; subst e3
              exact ee_isiB G.gw.hK hg m1 (G.gl g1) (G.gw.free _ (by simpa [freeB] using f1)) (G.gl g2) (G.gw.free _ (by simpa [freeB] using f2)) (G.gl g3) (G.gw.free _ (by simpa [freeB] using f3)) ns ha
      | [], h, q => cases h
      | [_], h, q => cases h
      | [_, _], h, q => cases h
      | _ :: _ :: _ :: _ :: _, h, q => cases h
  | int => exact one (by simp) (by simp) (by decide +kernel) (by decide +kernel) (by decide +kernel) h
  | bool => exact one (by simp) (by simp) (by decide +kernel) (by decide +kernel) (by decide +kernel) h
  | str => exact one (by simp) (by simp) (by decide +kernel) (by decide +kernel) (by decide +kernel) h
  | tuple => exact one (by simp) (by simp) (by decide +kernel) (by decide +kernel) (by decide +kernel) h
  | list => exact one (by simp) (by simp) (by decide +kernel) (by decide +kernel) (by decide +kernel) h
/-- the conditions of a clause -/
theorem efs_ok {X : Cx} {ifs : List E} {ifs' : List Expr} (z : EEsP C P M X ifs ifs') (h7 : ifs'.length ≤ 1) (h8 : ifs'.all tstB = true) : EF C R0 X E0' ifs' (evalIfs P M ifs) := by
  match ifs', ifs, z, h7, h8 with
  | [], [], z, _, _ => exact ef_nil
  | [], _ :: _, z, _, _ => exact z.elim
  | [c'], [c], z, _, h8 =>
    simp only [List.all_cons, List.all_nil, Bool.and_true] at h8
    exact ef_one (z.2.1.2 h8)
  | [c'], [], z, _, _ => cases z
  | [c'], _ :: _ :: _, z, _, _ => exact z.2.2.elim
  | _ :: _ :: _, _, z, h7, _ => simp at h7
mutual
theorem mE_ok : ∀ (e : E) {X : Cx} {sc sc0 : Scope} (G : Cok C P M N sc sc0 X) (e' : Expr), mE P N e sc e' = true → EEb C P M X e e'
  | .var i, X, sc, sc0, G, e', h => by
    unfold mE at h
    cases q : xEName e' with
    | none => rw [q] at h; cases h
    | some r =>
      obtain ⟨x, pos⟩ := r
      rw [q] at h
      simp only [Bool.and_eq_true, decide_eq_true_eq] at h
      obtain ⟨⟨⟨h1, h2⟩, h3⟩, h4⟩ := h
      have := xEName_eq q
      subst this
      exact of_plain G.gw.hK rfl (ee_var (by rw [G.hN]; exact h1) (G.vis h2) (beqF h3) (beqF h4))
  | .non, X, sc, sc0, G, e', h => by
    unfold mE at h
    cases q : xEConstant e' with
    | none => rw [q] at h; cases h
    | some r =>
      obtain ⟨c, k, pos⟩ := r
      rw [q] at h
      have h := of_decide_eq_true h
      have := xEConstant_eq q
      subst this; subst h
      exact of_plain G.gw.hK rfl (ee_c pe_non fun _ _ => .non)
  | .bl b, X, sc, sc0, G, e', h => by
    unfold mE at h
    cases q : xEConstant e' with
    | none => rw [q] at h; cases h
    | some r =>
      obtain ⟨c, k, pos⟩ := r
      rw [q] at h
      have h := of_decide_eq_true h
      have := xEConstant_eq q
      subst this; subst h
      exact of_plain G.gw.hK rfl (ee_c pe_bl fun _ _ => .bl b)
  | .int i, X, sc, sc0, G, e', h => by
    unfold mE at h
    cases q : xEConstant e' with
    | none => rw [q] at h; cases h
    | some r =>
      obtain ⟨c, k, pos⟩ := r
      rw [q] at h
      have h := of_decide_eq_true h
      have := xEConstant_eq q
      subst this; subst h
      exact of_plain G.gw.hK rfl (ee_c pe_int fun _ _ => .int i)
  | .str s, X, sc, sc0, G, e', h => by
    unfold mE at h
    cases q : xEConstant e' with
    | none => rw [q] at h; cases h
    | some r =>
      obtain ⟨c, k, pos⟩ := r
      rw [q] at h
      have h := of_decide_eq_true h
      have := xEConstant_eq q
      subst this; subst h
      exact of_plain G.gw.hK rfl (ee_c pe_str fun _ _ => .str s)
  | .glb k, X, sc, sc0, G, e', h => by
    unfold mE at h
    cases q : xEName e' with
    | none => rw [q] at h; cases h
    | some r =>
      obtain ⟨x, pos⟩ := r
      cases q2 : P.globs[k]? with
      | none => rw [q, q2] at h; cases h
      | some g =>
        rw [q, q2] at h
        simp only [Bool.and_eq_true, decide_eq_true_eq] at h
        obtain ⟨⟨h1, h2⟩, h3⟩ := h
        have := xEName_eq q
        subst this
        obtain ⟨v, u, m1, m2, m3⟩ := G.gw.globs k g q2
        have e : evalE P M (.glb k) = fun _ S => Rs.ok g.2 S := by
          funext ρ S
          show (match P.globs[k]? with
            | some g => Rs.ok g.2 S
            | none => Rs.stuck) = _
          rw [q2]
        refine of_plain G.gw.hK rfl ?_
        rw [e]
        exact ee_glob (G.gl h2) (h1 ▸ m1) m2 (beqF h3) m3
  | .tup es, X, sc, sc0, G, e', h => by
    unfold mE at h
    cases q : xETuple e' with
    | none => rw [q] at h; cases h
    | some r =>
      obtain ⟨es', k, pos⟩ := r
      rw [q] at h
      have := xETuple_eq q
      subst this
      exact of_plain G.gw.hK rfl (ee_tup (mEs_ok es G es' h).ea)
  | .lst es, X, sc, sc0, G, e', h => by
    unfold mE at h
    cases q : xEList e' with
    | none => rw [q] at h; cases h
    | some r =>
      obtain ⟨es', pos⟩ := r
      rw [q] at h
      have := xEList_eq q
      subst this
      exact of_plain G.gw.hK rfl (ee_lst (mEs_ok es G es' h).ea)
  | .dct es, X, sc, sc0, G, e', h => by
    unfold mE at h
    cases q : xEDict e' with
    | none => rw [q] at h; cases h
    | some r =>
      obtain ⟨ks, vs, pos⟩ := r
      rw [q] at h
      simp only [Bool.and_eq_true, decide_eq_true_eq] at h
      have := xEDict_eq q
      subst this
      obtain ⟨z1, z2⟩ := mDs_ok (pos := pos) es G ks vs h.1
      exact of_plain G.gw.hK rfl (ee_disp z1 h.2 z2)
  | .bin o a b, X, sc, sc0, G, e', h => by
    unfold mE at h
    cases q : xEBinOp e' with
    | none => rw [q] at h; cases h
    | some r =>
      obtain ⟨a', op, b', pos⟩ := r
      rw [q] at h
      simp only [Bool.and_eq_true, decide_eq_true_eq] at h
      obtain ⟨⟨h1, h2⟩, h3⟩ := h
      have := xEBinOp_eq q
      subst this; subst h1
      exact of_plain G.gw.hK rfl (ee_bin o G.gw.hK (mE_ok a G a' h2).1 (mE_ok b G b' h3).1)
  | .neg a, X, sc, sc0, G, e', h => by
    unfold mE at h
    cases q : xEUnaryOp e' with
    | none => rw [q] at h; cases h
    | some r =>
      obtain ⟨op, a', pos⟩ := r
      rw [q] at h
      simp only [Bool.and_eq_true, decide_eq_true_eq] at h
      obtain ⟨h1, h2⟩ := h
      have := xEUnaryOp_eq q
      subst this; subst h1
      exact of_plain G.gw.hK rfl (ee_neg (mE_ok a G a' h2).1)
  | .cmp o a b, X, sc, sc0, G, e', h => by
    unfold mE at h
    cases q : xECompare e' with
    | none => rw [q] at h; cases h
    | some r =>
      obtain ⟨a', ops, bs, pos⟩ := r
      rw [q] at h
      match ops, bs, h, q with
      | [op], [b'], h, q =>
        simp only [Bool.and_eq_true, decide_eq_true_eq] at h
        obtain ⟨⟨⟨h1, h2⟩, h3⟩, h4⟩ := h
        have := xECompare_eq q
        subst this; subst h1
        exact ⟨ee_cmp o G.gw.hK G.gw.un (noSet_ne h2) (mE_ok a G a' h3).1 (mE_ok b G b' h4).1, fun _ => et_cmp o G.gw.hK G.gw.un (noSet_ne h2) (mE_ok a G a' h3).1 (mE_ok b G b' h4).1⟩
      | [], _, h, q => cases h
      | _ :: _ :: _, _, h, q => cases h
      | [_], [], h, q => cases h
      | [_], _ :: _ :: _, h, q => cases h
  | .chain o p a b c, X, sc, sc0, G, e', h => by
    unfold mE at h
    cases q : xECompare e' with
    | none => rw [q] at h; cases h
    | some r =>
      obtain ⟨a', ops, bs, pos⟩ := r
      rw [q] at h
      match ops, bs, h, q with
      | [op, op2], [b', c'], h, q =>
        simp only [Bool.and_eq_true, decide_eq_true_eq] at h
        obtain ⟨⟨⟨⟨⟨h1, h2⟩, h3⟩, h4⟩, h5⟩, h6⟩ := h
        have := xECompare_eq q
        subst this; subst h1; subst h2
        exact ⟨ee_chain o p G.gw.hK G.gw.un (noSet_ne h3) (mE_ok a G a' h4).1 (mE_ok b G b' h5).1 (mE_ok c G c' h6).1, fun _ => et_chain o p G.gw.hK G.gw.un (noSet_ne h3) (mE_ok a G a' h4).1 (mE_ok b G b' h5).1 (mE_ok c G c' h6).1⟩
      | [], _, h, q => cases h
      | [_], _, h, q => cases h
      | _ :: _ :: _ :: _, _, h, q => cases h
      | [_, _], [], h, q => cases h
      | [_, _], [_], h, q => cases h
      | [_, _], _ :: _ :: _ :: _, h, q => cases h
  | .and es, X, sc, sc0, G, e', h => by
    unfold mE at h
    cases q : xEBoolOp e' with
    | none => rw [q] at h; cases h
    | some r =>
      obtain ⟨op, es', pos⟩ := r
      rw [q] at h
      simp only [Bool.and_eq_true, decide_eq_true_eq] at h
      obtain ⟨⟨⟨h1, h2⟩, h3⟩, h4⟩ := h
      have := xEBoolOp_eq q
      subst this; subst h1
      have ne : es' ≠ [] := fun z => by subst z; cases h3
      have z := (mEs_ok es G es' h2).and (pos := pos) G.gw.hK ne h4
      exact ⟨z.1, fun _ => z.2.et⟩
  | .or es, X, sc, sc0, G, e', h => by
    unfold mE at h
    cases q : xEBoolOp e' with
    | none => rw [q] at h; cases h
    | some r =>
      obtain ⟨op, es', pos⟩ := r
      rw [q] at h
      simp only [Bool.and_eq_true, decide_eq_true_eq] at h
      obtain ⟨⟨⟨h1, h2⟩, h3⟩, h4⟩ := h
      have := xEBoolOp_eq q
      subst this; subst h1
      have ne : es' ≠ [] := fun z => by subst z; cases h3
      have z := (mEs_ok es G es' h2).or (pos := pos) G.gw.hK ne h4
      exact ⟨z.1, fun _ => z.2.et⟩
  | .not a, X, sc, sc0, G, e', h => by
    unfold mE at h
    cases q : xEUnaryOp e' with
    | none => rw [q] at h; cases h
    | some r =>
      obtain ⟨op, a', pos⟩ := r
      rw [q] at h
      simp only [Bool.and_eq_true, decide_eq_true_eq] at h
      obtain ⟨⟨h1, h2⟩, h3⟩ := h
      have := xEUnaryOp_eq q
      subst this; subst h1
      have z := mE_ok a G a' h3
      exact ⟨ee_not G.gw.hK z.1, fun _ => et_not (z.2 h2)⟩
  | .ite c a b, X, sc, sc0, G, e', h => by
    unfold mE at h
    cases q : xEIfExp e' with
    | none => rw [q] at h; cases h
    | some r =>
      obtain ⟨c', a', b', pos⟩ := r
      rw [q] at h
      simp only [Bool.and_eq_true, decide_eq_true_eq] at h
      obtain ⟨⟨⟨h1, h2⟩, h3⟩, h4⟩ := h
      have := xEIfExp_eq q
      subst this
      exact ⟨ee_ite ((mE_ok c G c' h2).2 h1) (mE_ok a G a' h3).1 (mE_ok b G b' h4).1, fun z => by cases z⟩
  | .idx a i, X, sc, sc0, G, e', h => by
    unfold mE at h
    cases q : xESubscript e' with
    | none => rw [q] at h; cases h
    | some r =>
      obtain ⟨a', i', pos⟩ := r
      rw [q] at h
      simp only [Bool.and_eq_true, decide_eq_true_eq] at h
      obtain ⟨⟨h1, h2⟩, h3⟩ := h
      have := xESubscript_eq q
      subst this
      exact of_plain G.gw.hK rfl (ee_idx G.gw.hK G.gw.un (noSli_ne h1) (mE_ok a G a' h2).1 (mE_ok i G i' h3).1)
  | .slc a lo hi, X, sc, sc0, G, e', h => by
    unfold mE at h
    cases q : xESubscript e' with
    | none => rw [q] at h; cases h
    | some r =>
      obtain ⟨a', i', pos⟩ := r
      rw [q] at h
      dsimp only at h
      cases q2 : xESlice i' with
      | none => rw [q2] at h; cases h
      | some r2 =>
        obtain ⟨lo', hi', st', p2⟩ := r2
        rw [q2] at h
        cases st' with
        | some _ => cases h
        | none =>
          simp only [Bool.and_eq_true, decide_eq_true_eq] at h
          obtain ⟨⟨h1, h2⟩, h3⟩ := h
          have := xESubscript_eq q
          subst this
          have := xESlice_eq q2
          subst this
          exact of_plain G.gw.hK rfl (ee_slc G.gw.hK (mE_ok a G a' h1).1 (mO_ok lo G lo' h2) (mO_ok hi G hi' h3))
  | .attr o f, X, sc, sc0, G, e', h => by
    unfold mE at h
    cases q : xEAttribute e' with
    | none => rw [q] at h; cases h
    | some r =>
      obtain ⟨o', nm, pos⟩ := r
      rw [q] at h
      simp only [Bool.and_eq_true, decide_eq_true_eq] at h
      obtain ⟨⟨⟨h1, h2⟩, h3⟩, h4⟩ := h
      have := xEAttribute_eq q
      subst this
      exact of_plain G.gw.hK rfl (ee_attr G.gw.hK (G.gw.hK ▸ G.gw.cls) (fun c hc => G.gw.hK ▸ G.gw.noat f nm h2 h3 c hc) (G.gw.sym f nm h2) (fun g z => G.gw.inj _ _ z) (abB_ok h1 _ _ _) (mE_ok o G o' h4).1)
  | .call f es, X, sc, sc0, G, e', h => by
    unfold mE at h
    cases q : xECall e' with
    | none => rw [q] at h; cases h
    | some r =>
      obtain ⟨g, es', kws, pos⟩ := r
      cases q2 : P.fns[f]? with
      | none => rw [q, q2] at h; cases kws <;> cases h
      | some fn =>
        rw [q, q2] at h
        cases kws with
        | cons k kws => cases h
        | nil =>
          dsimp only at h
          cases q3 : xEName g with
          | none => rw [q3] at h; cases h
          | some r3 =>
            obtain ⟨x, p0⟩ := r3
            rw [q3] at h
            simp only [Bool.and_eq_true, decide_eq_true_eq] at h
            obtain ⟨⟨⟨⟨h1, h2⟩, h3⟩, h4⟩, h5⟩ := h
            have := xECall_eq q
            subst this
            have := xEName_eq q3
            subst this
            subst h1
            have z := mEs_ok es G es' h4
            exact of_plain G.gw.hK rfl (ee_call (G.gw.fns f fn q2 (by simpa using h2) h5).c (G.gl h3) (G.gw.flen f fn q2) z.ns z.ea z.nil0)
  | .meth o c m f es, X, sc, sc0, G, e', h => by
    unfold mE at h
    cases q : xECall e' with
    | none => rw [q] at h; cases h
    | some r =>
      obtain ⟨g, es', kws, pos⟩ := r
      cases q4 : P.cls[c]? with
      | none => rw [q, q4] at h; cases kws <;> cases h
      | some cl =>
        cases q2 : P.fns[f]? with
        | none => rw [q, q4, q2] at h; cases kws <;> cases h
        | some fn =>
          rw [q, q4, q2] at h
          cases kws with
          | cons k kws => cases h
          | nil =>
            dsimp only at h
            cases q3 : xEAttribute g with
            | none => rw [q3] at h; cases h
            | some r3 =>
              obtain ⟨o', nm, apos⟩ := r3
              rw [q3] at h
              simp only [Bool.and_eq_true, decide_eq_true_eq] at h
              obtain ⟨⟨⟨⟨⟨⟨⟨h1, h2⟩, h3⟩, h4⟩, h5⟩, h6⟩, h7⟩, h8⟩ := h
              have := xECall_eq q
              subst this
              have := xEAttribute_eq q3
              subst this
              have z := mEs_ok es G es' h7
              exact of_plain G.gw.hK rfl (ee_meth (f := f) (G.gw.mts c cl m f fn nm q4 (by simpa using h3) q2 h8 h2).c (G.gw.sym m nm h2) (fun g z => G.gw.inj _ _ z) (G.gw.flen f fn q2) (abB_ok h1 _ _ _) z.ns h4 h5 (mE_ok o G o' h6).1 z.ea z.nil0)
  | .make c es, X, sc, sc0, G, e', h => by
    unfold mE at h
    cases q : xECall e' with
    | none => rw [q] at h; cases h
    | some r =>
      obtain ⟨g, es', kws, pos⟩ := r
      cases q2 : P.cls[c]? with
      | none => rw [q, q2] at h; cases kws <;> cases h
      | some cl =>
        rw [q, q2] at h
        cases kws with
        | cons k kws => cases h
        | nil =>
          dsimp only at h
          cases q3 : xEName g with
          | none => rw [q3] at h; cases h
          | some r3 =>
            obtain ⟨x, p0⟩ := r3
            rw [q3] at h
            simp only [Bool.and_eq_true, decide_eq_true_eq] at h
            obtain ⟨⟨⟨⟨h1, h2⟩, h3⟩, h4⟩, h5⟩ := h
            have := xECall_eq q
            subst this
            have := xEName_eq q3
            subst this
            subst h1
            have z := mEs_ok es G es' h4
            obtain ⟨fn, hf⟩ := Option.isSome_iff_exists.mp h2
            have e : evalE P M (.make c es) = fun ρ S => (evalEs P M es ρ S).bind fun xs S1 => makeD c (M.init cl.init) xs S1 := by
              funext ρ S
              show (match P.cls[c]? with
                | none => Rs.stuck
                | some cl => (evalEs P M es ρ S).bind fun xs S1 => makeD c (M.init cl.init) xs S1) = _
              rw [q2]
            refine of_plain G.gw.hK rfl ?_
            rw [e]
            exact ee_make (G.gw.mks c cl fn q2 hf (by rw [hf] at h5; exact h5)).c (G.gl h3) (G.gw.ilen _ fn hf) z.ns z.ea z.nil0
  | .makek c es ks names ds, X, sc, sc0, G, e', h => by
    unfold mE at h
    cases q : xECall e' with
    | none => rw [q] at h; cases h
    | some r =>
      obtain ⟨g, es', kws, pos⟩ := r
      cases q2 : P.cls[c]? with
      | none => rw [q, q2] at h; cases es' <;> cases h
      | some cl =>
        rw [q, q2] at h
        cases es' with
        | nil => cases h
        | cons e0 es' =>
          dsimp only at h
          cases q3 : xEName g with
          | none => rw [q3] at h; cases h
          | some r3 =>
            obtain ⟨x, p0⟩ := r3
            rw [q3] at h
            simp only [Bool.and_eq_true, decide_eq_true_eq, List.any_eq_true] at h
            obtain ⟨⟨⟨⟨⟨h1, h2⟩, h3⟩, h4⟩, h5⟩, ⟨c1, np1, ks1, ds1⟩, hm, ⟨⟨k1, k2⟩, k3⟩, k4⟩ := h
            dsimp only at k1 k2 k3 k4
            subst k1; subst k2; subst k3
            have := sameKw_eq k4
            subst this
            have := xECall_eq q
            subst this
            have := xEName_eq q3
            subst this
            subst h1
            have z := mEs_ok es G (e0 :: es') h4
            obtain ⟨w1, w2⟩ := mKs_ok ks G ks1 kws h5
            obtain ⟨fn, hf⟩ := Option.isSome_iff_exists.mp h2
            have e : evalE P M (.makek c1 es ks ks1 ds1) = fun ρ S => (evalEs P M es ρ S).bind fun xs S1 => (evalEs P M ks ρ S1).bind fun ys S2 => makeKD c1 (M.init cl.init) ds1 xs ys S2 := by
              funext ρ S
              show (match P.cls[c1]? with
                | none => Rs.stuck
                | some cl => (evalEs P M es ρ S).bind fun xs S1 => (evalEs P M ks ρ S1).bind fun ys S2 => makeKD c1 (M.init cl.init) ds1 xs ys S2) = _
              rw [q2]
            refine of_plain G.gw.hK rfl ?_
            rw [e]
            exact ee_makek (G.gw.mkks c1 cl fn _ _ _ q2 hf hm).c (G.gl h3) (G.gw.ilen _ fn hf) z.ns w2.1 (fun ρ S xs S1 y => evalEs_len y) (fun ρ S xs S1 y => (evalEs_len y).trans w2.2) z.ea w1
  | .blt f es, X, sc, sc0, G, e', h => by
    unfold mE at h
    cases q : xECall e' with
    | none => rw [q] at h; cases h
    | some r =>
      obtain ⟨g, es', kws, pos⟩ := r
      rw [q] at h
      cases es' with
      | nil => cases h
      | cons e0 es' =>
        cases kws with
        | cons k kws => cases h
        | nil =>
          dsimp only at h
          cases q3 : xEName g with
          | none => rw [q3] at h; cases h
          | some r3 =>
            obtain ⟨x, p0⟩ := r3
            rw [q3] at h
            simp only [Bool.and_eq_true, decide_eq_true_eq] at h
            obtain ⟨⟨⟨⟨h1, h2⟩, h3⟩, h4⟩, h5⟩ := h
            have := xECall_eq q
            subst this
            have := xEName_eq q3
            subst this
            subst h2
            exact of_plain G.gw.hK rfl (blt_ok G h1 h3 h4 (mEs_ok es G (e0 :: es') h5))
  | .bm m o es, X, sc, sc0, G, e', h => by
    unfold mE at h
    cases q : xECall e' with
    | none => rw [q] at h; cases h
    | some r =>
      obtain ⟨g, es', kws, pos⟩ := r
      rw [q] at h
      cases kws with
      | cons k kws => cases h
      | nil =>
        dsimp only at h
        cases q3 : xEAttribute g with
        | none => rw [q3] at h; cases h
        | some r3 =>
          obtain ⟨o', nm, apos⟩ := r3
          rw [q3] at h
          simp only [Bool.and_eq_true] at h
          obtain ⟨⟨⟨⟨h1, h2⟩, h3⟩, h4⟩, h5⟩ := h
          have := xECall_eq q
          subst this
          have := xEAttribute_eq q3
          subst this
          have z := mEs_ok es G es' h4
          refine of_plain G.gw.hK rfl ?_
          unfold bmB at h5
          have hK := G.gw.hK
          have tl : ∀ {m : Bm}, (∀ x S, bmTy m x S = (lstOf x S).isSome) → ∀ {H : Hp} {L : List Addr} {S : Store} {x : D} {v : V} {F : List Addr}, SimS C H L S → Rep C H L x v F → bmTy m x S = true → tyV C.K "list" v H := fun hm _ _ _ _ _ _ s r h => ty_list s r (by rw [← hm]; exact h)
          have gen : ∀ {T id : String} {nm' : Str} {r : V → List V → Hp → VK → Prop}, nm = nm' → 0 < es'.length → es'.length < 30 → PlainAttrs T → Slot T nm' id → typeOf (.builtin id) = pure (.type "method_descriptor") → MtR X id r → GoodM C r m →
              (∀ {H : Hp} {L : List Addr} {S : Store} {x : D} {v : V} {F : List Addr}, SimS C H L S → Rep C H L x v F → bmTy m x S = true → tyV C.K T v H) → EE C R0 X E0' (.Call (.Attribute o' nm apos) es' [] pos) (evalE P M (.bm m o es)) := by
            intro T id nm' r e1 e2 e3 pa slot hty hm hr ty
            subst e1
            cases es' with
            | nil => simp at e2
            | cons a' es'' => exact ee_bm pa slot hty hm hr hK ty (abB_ok h1 _ _ _) h2 z.ns e3 (mE_ok o G o' h3).1 z.ea
          cases m with
          | popAt =>
            simp only [Bool.and_eq_true, decide_eq_true_eq] at h5
            exact gen h5.1 (by omega) (by omega) PySem.F.plainAttrs_list PySem.F.slot_list_pop PySem.F.type_list_pop mt_popAt good_popAt (tl fun _ _ => rfl)
          | insert =>
            simp only [Bool.and_eq_true, decide_eq_true_eq] at h5
            exact gen h5.1 (by omega) (by omega) PySem.F.plainAttrs_list PySem.F.slot_list_insert PySem.F.type_list_insert mt_insert good_insert (tl fun _ _ => rfl)
          | extend =>
            simp only [Bool.and_eq_true, decide_eq_true_eq] at h5
            exact gen h5.1 (by omega) (by omega) PySem.F.plainAttrs_list PySem.F.slot_list_extend PySem.F.type_list_extend mt_extend good_extend (tl fun _ _ => rfl)
          | index =>
            simp only [Bool.and_eq_true, decide_eq_true_eq] at h5
            exact gen h5.1 (by omega) (by omega) PySem.F.plainAttrs_list PySem.F.slot_list_index PySem.F.type_list_index (hK ▸ mt_index) good_index (fun s r h => by
              cases hx : lisOf _ _ with
              | none => have h : (lisOf _ _).isSome = true := h; rw [hx] at h; cases h
              | some xs =>
                obtain ⟨a, vs, F', rfl, _, _, hq⟩ := lis_of s r hx
                exact .inl ⟨rfl, vs, hq⟩)
          | join =>
            simp only [Bool.and_eq_true, decide_eq_true_eq] at h5
            exact gen h5.1 (by omega) (by omega) PySem.F.plainAttrs_str PySem.F.slot_str_join PySem.F.type_str_join (hK ▸ mt_join) good_join (fun {H L S x v F} s r h => by
              cases x with
              | str z => obtain ⟨rfl, _⟩ := r.str_inv; exact rfl
              | _ => cases h)
          | get =>
            simp only [Bool.and_eq_true, Bool.or_eq_true, decide_eq_true_eq] at h5
            obtain ⟨h5, h6⟩ := h5
            subst h5
            match es', es, z with
            | [a'], [a], z => exact ee_get1 G.gw.un (abB_ok h1 _ _ _) h2 z.1 (mE_ok o G o' h3).1 z.2.1.1
            | [a', b'], [a, b], z => exact ee_get2 G.gw.un (abB_ok h1 _ _ _) h2 z.1 z.2.2.1 (mE_ok o G o' h3).1 z.2.1.1 z.2.2.2.1.1
            | [], _, _ => simp at h6
            | [_], [], z => cases z
            | [_], _ :: _ :: _, z => exact z.2.2.elim
            | [_, _], [], z => cases z
            | [_, _], [_], z => exact absurd z.2.2 (by simp [EEsP])
            | [_, _], _ :: _ :: _ :: _, z => exact z.2.2.2.2.elim
            | _ :: _ :: _ :: _, _, _ => simp at h6
          | setdefault =>
            simp only [Bool.and_eq_true, decide_eq_true_eq] at h5
            obtain ⟨h5, h6⟩ := h5
            subst h5
            match es', es, z with
            | [a', b'], [a, b], z => exact ee_setdef (abB_ok h1 _ _ _) h2 z.1 z.2.2.1 (mE_ok o G o' h3).1 z.2.1.1 z.2.2.2.1.1
            | [], _, _ => simp at h6
            | [_], _, _ => simp at h6
            | [_, _], [], z => cases z
            | [_, _], [_], z => exact absurd z.2.2 (by simp [EEsP])
            | [_, _], _ :: _ :: _ :: _, z => exact z.2.2.2.2.elim
            | _ :: _ :: _ :: _, _, _ => simp at h6
          | append =>
            simp only [Bool.and_eq_true, decide_eq_true_eq] at h5
            obtain ⟨h5, h6⟩ := h5
            subst h5
            match es', h6, es, z with
            | [a'], _, [a], z => exact ee_append G.gw.hK (abB_ok h1 _ _ _) h2 z.1 (mE_ok o G o' h3).1 z.2.1.1
            | [a'], _, [], z => cases z
            | [a'], _, _ :: _ :: _, z => exact z.2.2.elim
          | pop =>
            simp only [Bool.and_eq_true, decide_eq_true_eq] at h5
            obtain ⟨h5, h6⟩ := h5
            subst h5
            have h6 : es' = [] := List.length_eq_zero_iff.mp h6
            match es', h6, es, z with
            | [], _, [], z => exact ee_pop G.gw.hK (abB_ok h1 _ _ _) h2 (mE_ok o G o' h3).1
            | [], _, _ :: _, z => exact z.elim
          | _ => cases h5
  | .isi a t, X, sc, sc0, G, e', h => by
    unfold mE at h
    cases q : xECall e' with
    | none => rw [q] at h; cases h
    | some r =>
      obtain ⟨g, es', kws, pos⟩ := r
      rw [q] at h
      match es', kws, h, q with
      | [a', ty], [], h, q =>
        dsimp only at h
        cases q3 : xEName g with
        | none => rw [q3] at h; cases h
        | some r3 =>
          obtain ⟨x, p0⟩ := r3
          rw [q3] at h
          simp only [Bool.and_eq_true, decide_eq_true_eq] at h
          obtain ⟨⟨⟨⟨⟨h1, h4⟩, h6⟩, h8⟩, h9⟩, h10⟩ := h
          have := xECall_eq q
          subst this
          have := xEName_eq q3
          subst this
          subst h1
          have m1 := G.gw.free "isinstance" (by simpa [freeB] using h4)
          exact of_plain G.gw.hK rfl (isi_ok G h10 (G.gl h6) m1 h8 (mE_ok a G a' h9).1)
      | [], _, h, q => cases h
      | [_], _, h, q => cases h
      | _ :: _ :: _ :: _, _, h, q => cases h
      | [_, _], _ :: _, h, q => cases h
  | .comp own g it ifs elt, X, sc, sc0, G, e', h => by
    unfold mE at h
    cases q : xEListComp e' with
    | none => rw [q] at h; cases h
    | some r =>
      obtain ⟨elt', gs, scope, pos⟩ := r
      rw [q] at h
      match gs, h, q with
      | [⟨tg, iter, ifs', asy⟩], h, q =>
        simp only [Bool.and_eq_true, decide_eq_true_eq] at h
        obtain ⟨⟨⟨⟨⟨⟨⟨⟨h1, h2⟩, h3⟩, h4⟩, h5⟩, h6⟩, h7⟩, h8⟩, h9⟩ := h
        subst h1
        have := xEListComp_eq q
        subst this
        have ok : BlkOk X.N X.env.scope scope own := by rw [G.hN, G.hsc]; exact blkOk_by h2
        obtain ⟨i1, i2⟩ := mI_ok it G tg iter h3
        refine of_plain G.gw.hK rfl ?_
        refine ee_lc G.calm (by rw [G.hN]; exact G.nd) i1 ok (sl := g.slots) (fun i hi => ?_) (fun s H Ca cl fp => mG_ok (G.blk s H scope Ca cl fp) g tg h4) (fun s H Ca cl fp => ?_) (fun s H Ca cl fp => (mE_ok elt (G.blk s H scope Ca cl fp) elt' h9).1) i2
        · have := List.all_eq_true.mp h5 i hi
          simpa using this
        · have z := mEs_ok ifs (G.blk s H scope Ca cl fp) ifs' h6
          match ifs', ifs, z, h7, h8 with
          | [], [], z, _, _ => exact ef_nil
          | [], _ :: _, z, _, _ => exact z.elim
          | [c'], [c], z, _, h8 =>
            simp only [List.all_cons, List.all_nil, Bool.and_true] at h8
            exact ef_one (z.2.1.2 h8)
          | [c'], [], z, _, _ => cases z
          | [c'], _ :: _ :: _, z, _, _ => exact z.2.2.elim
          | _ :: _ :: _, _, z, h7, _ => simp at h7
      | [], h, q => cases h
      | ⟨_, _, _, _⟩ :: _ :: _, h, q => cases h
  | .comp2 own g it ifs g1 it1 ifs1 elt, X, sc, sc0, G, e', h => by
    unfold mE at h
    cases q : xEListComp e' with
    | none => rw [q] at h; cases h
    | some r =>
      obtain ⟨elt', gs, scope, pos⟩ := r
      rw [q] at h
      match gs, h, q with
      | [⟨tg, iter, ifs', asy⟩, ⟨tg1, iter1, ifs1', asy1⟩], h, q =>
        simp only [Bool.and_eq_true, decide_eq_true_eq] at h
        obtain ⟨⟨⟨⟨⟨⟨⟨⟨⟨⟨⟨⟨h1, h2⟩, h3⟩, h4⟩, h5⟩, h6⟩, h7⟩, h8⟩, h9⟩, h10⟩, h11⟩, h12⟩, h13⟩ := h
        subst h1; subst h2
        have := xEListComp_eq q
        subst this
        have ok : BlkOk X.N X.env.scope scope own := by rw [G.hN, G.hsc]; exact blkOk_by h3
        obtain ⟨i1, i2⟩ := mI_ok it G tg iter h4
        refine of_plain G.gw.hK rfl ?_
        exact ee_lc2 G.calm (by rw [G.hN]; exact G.nd) i1 ok (fun i hi => by have := List.all_eq_true.mp h6 i hi; simpa using this) (fun i hi => by have := List.all_eq_true.mp h7 i hi; simpa using this) (fun s H Ca cl fp => mG_ok (G.blk s H scope Ca cl fp) g tg h5)
          (fun s H Ca cl fp => efs_ok (mEs_ok ifs (G.blk s H scope Ca cl fp) ifs' h8.1.1) h8.1.2 h8.2) (fun s H Ca cl fp => (mI_ok it1 (G.blk s H scope Ca cl fp) tg1 iter1 h9).1) (fun s H Ca cl fp => mG_ok (G.blk s H scope Ca cl fp) g1 tg1 h10)
          (fun s H Ca cl fp => efs_ok (mEs_ok ifs1 (G.blk s H scope Ca cl fp) ifs1' h11.1.1) h11.1.2 h11.2) (fun s H Ca cl fp => (mE_ok elt (G.blk s H scope Ca cl fp) elt' h13).1) i2 (fun env x => noSet_fold h12 x)
      | [], h, q => cases h
      | [⟨_, _, _, _⟩], h, q => cases h
      | ⟨_, _, _, _⟩ :: ⟨_, _, _, _⟩ :: _ :: _, h, q => cases h
  | .dcomp own g it ifs k v, X, sc, sc0, G, e', h => by
    unfold mE at h
    cases q : xEDictComp e' with
    | none => rw [q] at h; cases h
    | some r =>
      obtain ⟨k', v', gs, scope, pos⟩ := r
      rw [q] at h
      match gs, h, q with
      | [⟨tg, iter, ifs', asy⟩], h, q =>
        simp only [Bool.and_eq_true, decide_eq_true_eq] at h
        obtain ⟨⟨⟨⟨⟨⟨⟨h1, h2⟩, h3⟩, h4⟩, h5⟩, h6⟩, h7⟩, h8⟩ := h
        subst h1
        have := xEDictComp_eq q
        subst this
        have ok : BlkOk X.N X.env.scope scope own := by rw [G.hN, G.hsc]; exact blkOk_by h2
        obtain ⟨i1, i2⟩ := mI_ok it G tg iter h3
        refine of_plain G.gw.hK rfl ?_
        exact ee_dc G.calm (by rw [G.hN]; exact G.nd) i1 ok (fun i hi => by have := List.all_eq_true.mp h5 i hi; simpa using this) (fun s H Ca cl fp => mG_ok (G.blk s H scope Ca cl fp) g tg h4)
          (fun s H Ca cl fp => efs_ok (mEs_ok ifs (G.blk s H scope Ca cl fp) ifs' h6.1.1) h6.1.2 h6.2) (fun s H Ca cl fp => (mE_ok k (G.blk s H scope Ca cl fp) k' h7).1) (fun s H Ca cl fp => (mE_ok v (G.blk s H scope Ca cl fp) v' h8).1) i2
      | [], h, q => cases h
      | ⟨_, _, _, _⟩ :: _ :: _, h, q => cases h
  | .revs a, X, sc, sc0, G, e', h => by
    unfold mE at h
    cases q : xESubscript e' with
    | none => rw [q] at h; cases h
    | some r =>
      obtain ⟨a', i', pos⟩ := r
      rw [q] at h
      dsimp only at h
      cases q2 : xESlice i' with
      | none => rw [q2] at h; cases h
      | some r2 =>
        obtain ⟨lo, hi, st, p2⟩ := r2
        rw [q2] at h
        match lo, hi, st, h, q2 with
        | none, none, some st, h, q2 =>
          dsimp only at h
          cases q3 : xEUnaryOp st with
          | none => rw [q3] at h; cases h
          | some r3 =>
            obtain ⟨op, o, p3⟩ := r3
            rw [q3] at h
            cases op with
            | USub =>
              dsimp only at h
              cases q4 : xEConstant o with
              | none => rw [q4] at h; cases h
              | some r4 =>
                obtain ⟨c, kk, p4⟩ := r4
                rw [q4] at h
                simp only [Bool.and_eq_true, decide_eq_true_eq] at h
                obtain ⟨h1, h2⟩ := h
                have := xESubscript_eq q
                subst this
                have := xESlice_eq q2
                subst this
                have := xEUnaryOp_eq q3
                subst this
                have := xEConstant_eq q4
                subst this
                subst h1
                exact of_plain G.gw.hK rfl (ee_revs G.gw.hK (mE_ok a G a' h2).1)
            | _ => cases h
        | some _, _, _, h, q2 => cases h
        | none, some _, _, h, q2 => cases h
        | none, none, none, h, q2 => cases h
  | .lens _, X, sc, sc0, G, e', h => by unfold mE at h; cases h
theorem mDs_ok : ∀ (es : List E) {X : Cx} {sc sc0 : Scope} {pos : Pos} (G : Cok C P M N sc sc0 X) (ks : List (Option Expr)) (vs : List Expr), mDs P N es sc ks vs = true → EP' C R0 X E0' pos ks vs (evalEs P M es) ∧ (ks = [] → evalEs P M es = fun _ S => .ok [] S)
  | [], X, sc, sc0, pos, G, ks, vs, h => by
    cases ks with
    | nil =>
      cases vs with
      | nil => exact ⟨ep_nil, fun _ => rfl⟩
      | cons _ _ => cases h
    | cons _ _ => cases h
  | [_], X, sc, sc0, pos, G, ks, vs, h => by cases h
  | a :: b :: as, X, sc, sc0, pos, G, ks, vs, h => by
    match ks, vs, h with
    | some k :: ks, v :: vs, h =>
      have h' : (mE P N a sc k && mE P N b sc v && mDs P N as sc ks vs) = true := h
      simp only [Bool.and_eq_true] at h'
      exact ⟨ep_cons (mE_ok a G k h'.1.1).1 (mE_ok b G v h'.1.2).1 (mDs_ok as G ks vs h'.2).1, fun z => by cases z⟩
    | [], _, h => cases h
    | none :: _, _, h => cases h
    | some _ :: _, [], h => cases h
theorem mEs_ok : ∀ (es : List E) {X : Cx} {sc sc0 : Scope} (G : Cok C P M N sc sc0 X) (es' : List Expr), mEs P N es sc es' = true → EEsP C P M X es es'
  | [], X, sc, sc0, G, es', h => by
    cases es' with
    | nil => exact rfl
    | cons a as => cases h
  | a :: as, X, sc, sc0, G, es', h => by
    cases es' with
    | nil => cases h
    | cons e es' =>
      have h' : (noStar1 e && mE P N a sc e && mEs P N as sc es') = true := h
      simp only [Bool.and_eq_true] at h'
      exact ⟨h'.1.1, mE_ok a G e h'.1.2, mEs_ok as G es' h'.2⟩
theorem mKs_ok : ∀ (es : List E) {X : Cx} {sc sc0 : Scope} (G : Cok C P M N sc sc0 X) (ns : List Str) (kws : List Keyword), mKs P N es ns sc kws = true → EK C R0 X E0' kws (evalEs P M es) ∧ kwNames kws = ns.map some ∧ es.length = ns.length
  | [], X, sc, sc0, G, ns, kws, h => by
    cases ns with
    | nil =>
      cases kws with
      | nil => exact ⟨ek_nil, rfl, rfl⟩
      | cons k kws => cases h
    | cons n ns => cases h
  | a :: as, X, sc, sc0, G, ns, kws, h => by
    cases ns with
    | nil => cases h
    | cons n ns =>
      cases kws with
      | nil => cases h
      | cons k kws =>
        obtain ⟨nm, e, p⟩ := k
        have h' : (decide (nm = some n) && mE P N a sc e && mKs P N as ns sc kws) = true := h
        simp only [Bool.and_eq_true, decide_eq_true_eq] at h'
        obtain ⟨⟨h1, h2⟩, h3⟩ := h'
        subst h1
        obtain ⟨r1, r2, r3⟩ := mKs_ok as G ns kws h3
        refine ⟨ek_cons (mE_ok a G e h2).1 r1, ?_, by rw [List.length_cons, List.length_cons, r3]⟩
        show some n :: kwNames kws = some n :: ns.map some
        rw [r2]
theorem mO_ok : ∀ (o : Option E) {X : Cx} {sc sc0 : Scope} (G : Cok C P M N sc sc0 X) (o' : Option Expr), mO P N o sc o' = true → EO C R0 X E0' o' (evalO P M o)
  | none, X, sc, sc0, G, o', h => by
    cases o' with
    | none => exact eo_none
    | some e => cases h
  | some a, X, sc, sc0, G, o', h => by
    cases o' with
    | none => cases h
    | some e => exact eo_some (mE_ok a G e h).1
theorem mI_ok : ∀ (it : Nv.It) {X : Cx} {sc sc0 : Scope} (G : Cok C P M N sc sc0 X) (tg e' : Expr), mI P N it sc tg e' = true → EI C R0 X E0' tg e' (evalIt P M it) ∧ ∀ x, foldedSetIterable e' X.env x = pure x
  | .of a, X, sc, sc0, G, tg, e', h => by
    unfold mI at h
    simp only [Bool.and_eq_true] at h
    exact ⟨ei_of G.gw.hK (mE_ok a G e' h.2).1, noSet_fold h.1⟩
  | .range es, X, sc, sc0, G, tg, e', h => by
    unfold mI at h
    cases q : xECall e' with
    | none => rw [q] at h; cases h
    | some r =>
      obtain ⟨g, es', kws, pos⟩ := r
      rw [q] at h
      cases kws with
      | cons k kws => cases h
      | nil =>
        dsimp only at h
        cases q3 : xEName g with
        | none => rw [q3] at h; cases h
        | some r3 =>
          obtain ⟨x, p0⟩ := r3
          rw [q3] at h
          simp only [Bool.and_eq_true, decide_eq_true_eq] at h
          obtain ⟨⟨⟨⟨h1, h2⟩, h3⟩, h4⟩, h5⟩ := h
          have := xECall_eq q
          subst this
          have := xEName_eq q3
          subst this
          subst h1
          have z := mEs_ok es G es' h4
          have hm := G.gw.free "range" (by simpa [freeB] using h2)
          refine ⟨?_, noSet_fold rfl⟩
          match es', es, z with
          | [a'], [a], z => exact ei_range1 (G.gl h3) hm z.1 z.2.1.1
          | [a', b'], [a, b], z => exact ei_range2 (G.gl h3) hm z.1 z.2.2.1 z.2.1.1 z.2.2.2.1.1
          | [], _, z => simp at h5
          | [a'], [], z => cases z
          | [a'], _ :: _ :: _, z => exact z.2.2.elim
          | [a', b'], [], z => cases z
          | [a', b'], [_], z => exact absurd z.2.2 (by simp [EEsP])
          | [a', b'], _ :: _ :: _ :: _, z => exact z.2.2.2.2.elim
          | _ :: _ :: _ :: _, _, z => simp at h5
  | .enum a, X, sc, sc0, G, tg, e', h => by
    unfold mI at h
    cases q : xECall e' with
    | none => rw [q] at h; cases h
    | some r =>
      obtain ⟨g, es', kws, pos⟩ := r
      rw [q] at h
      match es', kws, h, q with
      | [a'], [], h, q =>
        dsimp only at h
        cases q3 : xEName g with
        | none => rw [q3] at h; cases h
        | some r3 =>
          obtain ⟨x, p0⟩ := r3
          rw [q3] at h
          simp only [Bool.and_eq_true, decide_eq_true_eq] at h
          obtain ⟨⟨⟨⟨⟨h1, h2⟩, h3⟩, h4⟩, h5⟩, h6⟩ := h
          have := xECall_eq q
          subst this
          have := xEName_eq q3
          subst this
          subst h1
          have hm := G.gw.free "enumerate" (by simpa [freeB] using h2)
          refine ⟨?_, noSet_fold rfl⟩
          cases tg with
          | Tuple elts kk tpos => exact ei_enum G.gw.hK (G.gl h3) hm h5 (mE_ok a G a' h6).1
          | _ => cases h4
      | [], _, h, q => cases h
      | _ :: _ :: _, _, h, q => cases h
      | [_], _ :: _, h, q => cases h
  | .zip a b, X, sc, sc0, G, tg, e', h => by
    unfold mI at h
    cases q : xECall e' with
    | none => rw [q] at h; cases h
    | some r =>
      obtain ⟨g, es', kws, pos⟩ := r
      rw [q] at h
      match es', kws, h, q with
      | [a', b'], [], h, q =>
        dsimp only at h
        cases q3 : xEName g with
        | none => rw [q3] at h; cases h
        | some r3 =>
          obtain ⟨x, p0⟩ := r3
          rw [q3] at h
          simp only [Bool.and_eq_true, decide_eq_true_eq] at h
          obtain ⟨⟨⟨⟨⟨⟨⟨h1, h2⟩, h3⟩, h4⟩, h5⟩, h6⟩, h7⟩, h8⟩ := h
          have := xECall_eq q
          subst this
          have := xEName_eq q3
          subst this
          subst h1
          have hm := G.gw.free "zip" (by simpa [freeB] using h2)
          refine ⟨?_, noSet_fold rfl⟩
          cases tg with
          | Tuple elts kk tpos => exact ei_zip G.gw.hK (G.gl h3) hm h5 h6 (mE_ok a G a' h7).1 (mE_ok b G b' h8).1
          | _ => cases h4
      | [], _, h, q => cases h
      | [_], _, h, q => cases h
      | _ :: _ :: _ :: _, _, h, q => cases h
      | [_, _], _ :: _, h, q => cases h
  | .rev _, X, sc, sc0, G, tg, e', h => by unfold mI at h; cases h
end
end
end Nv
/-! Nv: each statement is read as its evaluator says. -/
namespace Nv
open PySem PySem.Spec PyProof.Rows L2
mutual
def mS (P : Prog) (N : List Str) (sc : Scope) : St → Stmt → Bool
  | .expr e, s => match xSExpr s with
    | some (a, _) => notComp a && mE P N e sc a
    | none => false
  | .set i e, s => match xSAssign s with
    | some ([t], a, _) => mG N sc sc (.name i) t && mE P N e sc a && (match e with
      | .comp _ _ _ _ _ => true
      | .comp2 _ _ _ _ _ _ _ _ => true
      | .dcomp _ _ _ _ _ _ => true
      | _ => notComp a)
    | _ => false
  | .unp g e, s => match xSAssign s with
    | some ([t], a, _) => tupT t && (notTup a || (match xETuple t, xETuple a with
      | some (ts, _, _), some (vs, _, _) => decide (sc.kind = .function) && !(swBad vs) && (swOpt sc ts vs).isNone
      | _, _ => false)) && notComp a && mG N sc sc g t && mE P N e sc a
    | _ => false
  | .par is es, s => match xSAssign s with
    | some ([t], a, _) => (match xETuple t, xETuple a with
      | some (ts, _, _), some (vs, _, _) => decide (sc.kind = .function) && !(swBad vs) && mEs P N es sc vs && (match is, ts with
        | [i, j], [tx, ty] => (match xEName tx, xEName ty with
          | some (x, _), some (y, _) => decide (N[i]? = some x) && decide (N[j]? = some y) && decide (i ≠ j) && decide (sc.names.lookup x = some .local) && decide (sc.names.lookup y = some .local) && decide (swOpt sc ts vs = some [x, y]) && decide (vs.length = 2)
          | _, _ => false)
        | [i, j, l], [tx, ty, tz] => (match xEName tx, xEName ty, xEName tz with
          | some (x, _), some (y, _), some (z, _) => decide (N[i]? = some x) && decide (N[j]? = some y) && decide (N[l]? = some z) && decide (i ≠ j) && decide (i ≠ l) && decide (j ≠ l) && decide (sc.names.lookup x = some .local) && decide (sc.names.lookup y = some .local) && decide (sc.names.lookup z = some .local) && decide (swOpt sc ts vs = some [x, y, z]) && decide (vs.length = 3)
          | _, _, _ => false)
        | _, _ => false)
      | _, _ => false)
    | _ => false
  | .attr o f e, s => match xSAssign s with
    | some ([t], a, _) => (match xEAttribute t with
      | some (o', nm, _) => decide (P.syms[f]? = some nm) && decide (f < P.nf) && mE P N o sc o' && mE P N e sc a
      | none => false)
    | _ => false
  | .sub o i e, s => match xSAssign s with
    | some ([t], a, _) => (match xESubscript t with
      | some (o', i', _) => noSli i' && mE P N o sc o' && mE P N i sc i' && mE P N e sc a
      | none => false)
    | _ => false
  | .ite c a b, s => match xSIf s with
    | some (c', a', b', _) => tstB c' && mE P N c sc c' && mSs P N sc a a' && mSs P N sc b b'
    | none => false
  | .wh c b, s => match xSWhile s with
    | some (c', b', [], _) => tstB c' && mE P N c sc c' && mSs P N sc b b'
    | _ => false
  | .forr g it b _, s => match xSFor s with
    | some (tg, iter, b', [], _) => mI P N it sc tg iter && mG N sc sc g tg && mSs P N sc b b'
    | _ => false
  | .ret e, s => match xSReturn s with
    | some (some a, _) => mE P N e sc a
    | _ => false
  | .retN, s => match xSReturn s with
    | some (none, _) => true
    | _ => false
  | .pass, s => match s with
    | .Pass _ => true
    | _ => false
  | .cont, s => match s with
    | .Continue _ => true
    | _ => false
  | .brk, s => match s with
    | .Break _ => true
    | _ => false
  | .raise, _ => true
termination_by structural e => e
def mSs (P : Prog) (N : List Str) (sc : Scope) : List St → List Stmt → Bool
  | [], ss => match ss with
    | [] => true
    | _ => false
  | a :: as, ss => match ss with
    | s :: ss => mS P N sc a s && mSs P N sc as ss
    | [] => false
termination_by structural e => e
end
section
variable {C : Cxt} {P : Prog} {M : Sm} {N : List Str} {sc : Scope} {X : Cx}
theorem swaps_no {a : Expr} (h : notComp a = true) (t : Option Expr) (l : Nat) (env : Env) : swapsWith a t l env = pure false := by
  cases a <;> first
    | rfl
    | cases h
theorem swaps_other {a t : Expr} (h : ∀ x p, t ≠ .Name x p) (l : Nat) (env : Env) : swapsWith a (some t) l env = pure false := by
  cases t <;> first
    | (exact absurd rfl (h _ _))
    | (cases a <;> rfl)
theorem stores_no {t a : Expr} (h : tupT t = false ∨ notTup a = true) (hl : ∀ es p, t ≠ .List es p) (env : Env) : swappedStores [t] a env = pure none := by
  cases t <;> first
    | rfl
    | exact absurd rfl (hl _ _)
    | (cases a <;> first
        | rfl
        | (rcases h with h | h <;> cases h))
theorem sole {t a : Expr} {l : Nat} {env : Env} (h : swapsWith a (some t) l env = pure false) : swapsWithSole [t] a l env = pure false := h
theorem gName_good {i : Nat} : GoodG C (gName i) [i] (evalG (.name i)) := fun H L S ρ σ d v F Q s e r nd ou h => by
  have h' : (Rs.ok (ρ.set i (some (mat d S).1)) (mat d S).2).sat (fun ρ' S' => ∀ σ' M, SimS C H (L ++ M) S' → SimE C H (L ++ M) ρ' σ' → (∀ a ∈ M, a ∈ F) → Wip [i] σ σ' → Q σ' H) (fun _ _ => False) := h
  obtain ⟨M, s', r', m⟩ := mat_ok d s r nd ou
  refine h' (σ.set i (some v)) M s' (e.grow.set r') m ⟨List.length_set, fun j hj => ?_⟩
  exact List.getElem?_set_ne (fun q => hj (by simp [q]))
theorem asg_good {R : XR} {E : XK} {t : TE} {tg : TG} {sl : List Nat} {g : Nv.G} {fa : AEnv → Store → Rs D} (ga : GoodE C R E t fa) (gg : GoodG C tg sl (evalG g)) : GoodS C R E (tAsg t tg) (fun ρ S => (fa ρ S).bind fun x S1 => (evalG g x ρ S1).bind fun ρ1 S2 => .ok (.nx, ρ1) S2) := fun σ H L ρ S Z s e h => by
  refine ga.first s e (fun _ _ z => z) h fun x S1 v H1 L1 F1 p1 e1 h2 => ?_
  have h3 := sat_bind h2
  refine gg H1 L1 S1 ρ σ x v F1 _ p1.sim e1 p1.rep p1.fr.nd p1.fr.out ?_
  cases hq : evalG g x ρ S1 with
  | ok ρ1 S2 =>
    rw [hq] at h3
    exact fun σ' M s' e' m w => h3 σ' H1 (L1 ++ M) (p1.ext.grow p1.fr m) s' e'
  | ex y S2 => exact absurd hq (evalG_noex _ _ _ _ _ _)
  | stuck => rw [hq] at h3; exact h3.elim
/-- name = [..] -/
theorem setc_ok (G : Cok C P M N sc sc X) {i : Nat} {own : List (Str × Nat)} {g : Nv.G} {it : Nv.It} {ifs : List E} {elt : E} {t a : Expr} {pos : Pos} (hg : mG N sc sc (.name i) t = true) (h : mE P N (.comp own g it ifs elt) sc a = true) :
    ES C R0 X E0' (.Assign [t] a pos) (evalS P M (.set i (.comp own g it ifs elt))) := by
  have hE := (mE_ok (.comp own g it ifs elt) G a h).1
  have hG := mG_ok G (.name i) t hg
  unfold mE at h
  cases q : xEListComp a with
  | none => rw [q] at h; cases h
  | some r =>
    obtain ⟨elt', gs, scope, p1⟩ := r
    rw [q] at h
    match gs, h, q with
    | [⟨tg, iter, ifs', asy⟩], h, q =>
      simp only [Bool.and_eq_true, decide_eq_true_eq] at h
      obtain ⟨⟨⟨⟨⟨⟨⟨⟨h1, h2⟩, h3⟩, h4⟩, h5⟩, h6⟩, h7⟩, h8⟩, h9⟩ := h
      subst h1
      have := xEListComp_eq q
      subst this
      have ok : BlkOk X.N X.env.scope scope own := by rw [G.hN, G.hsc]; exact blkOk_by h2
      obtain ⟨i1, i2⟩ := mI_ok it G tg iter h3
      unfold mG at hg
      cases qn : xEName t with
      | none => rw [qn] at hg; cases hg
      | some r =>
        obtain ⟨x, px⟩ := r
        rw [qn] at hg
        simp only [Bool.and_eq_true, decide_eq_true_eq] at hg
        obtain ⟨g1, g2⟩ := hg
        have := xEName_eq qn
        subst this
        have hsw : ∃ b, swapsWith (.ListComp elt' [⟨tg, iter, ifs', 0⟩] scope p1) (some (.Name x px)) pos.line X.env = pure b ∧ (b = true → X.env.scope.names.lookup x = some .local) := by
          refine ⟨X.env.blockKind == .function && X.env.kindOf x == some .local && px.line == p1.line && !(scope.names.any fun (n, k) => n == x && (k == .local || k == .cell)), rfl, fun z => ?_⟩
          simp only [Bool.and_eq_true] at z
          have := z.1.1.2
          simpa [Env.kindOf] using this
        obtain ⟨b, sw, lo⟩ := hsw
        cases b with
        | false => exact es_asg (sole sw) rfl rfl hE hG
        | true =>
          have nd : X.N.Nodup := by rw [G.hN]; exact G.nd
          obtain ⟨wi, pi, gi⟩ := i1
          refine ⟨_, ps_setLc G.calm nd (by rw [G.hN]; exact g1) (lo rfl) sw pi ok (fun s H Ca cl fp => (mG_ok (G.blk s H scope Ca cl fp) g tg h4).canon) (fun s H Ca cl fp => (?_ : EF C R0 _ E0' ifs' (evalIfs P M ifs)).canon) (fun s H Ca cl fp => ((mE_ok elt (G.blk s H scope Ca cl fp) elt' h9).1).canon) i2, ?_⟩
          · have z := mEs_ok ifs (G.blk s H scope Ca cl fp) ifs' h6
            match ifs', ifs, z, h7, h8 with
            | [], [], z, _, _ => exact ef_nil
            | [], _ :: _, z, _, _ => exact z.elim
            | [c'], [c], z, _, h8 =>
              simp only [List.all_cons, List.all_nil, Bool.and_true] at h8
              exact ef_one (z.2.1.2 h8)
            | [c'], [], z, _, _ => cases z
            | [c'], _ :: _ :: _, z, _, _ => exact z.2.2.elim
            | _ :: _ :: _, _, z, h7, _ => simp at h7
          · exact asg_good (lc_good (fun i hi => by have := List.all_eq_true.mp h5 i hi; simpa using this) gi) gName_good
    | [], h, q => cases h
    | ⟨_, _, _, _⟩ :: _ :: _, h, q => cases h
/-- name = [.. for .. for ..] -/
theorem setc2_ok (G : Cok C P M N sc sc X) {i : Nat} {own : List (Str × Nat)} {g g1 : Nv.G} {it it1 : Nv.It} {ifs ifs1 : List E} {elt : E} {t a : Expr} {pos : Pos} (hg : mG N sc sc (.name i) t = true) (h : mE P N (.comp2 own g it ifs g1 it1 ifs1 elt) sc a = true) :
    ES C R0 X E0' (.Assign [t] a pos) (evalS P M (.set i (.comp2 own g it ifs g1 it1 ifs1 elt))) := by
  have hE := (mE_ok (.comp2 own g it ifs g1 it1 ifs1 elt) G a h).1
  have hG := mG_ok G (.name i) t hg
  unfold mE at h
  cases q : xEListComp a with
  | none => rw [q] at h; cases h
  | some r =>
    obtain ⟨elt', gs, scope, p1⟩ := r
    rw [q] at h
    match gs, h, q with
    | [⟨tg, iter, ifs', asy⟩, ⟨tg1, iter1, ifs1', asy1⟩], h, q =>
      simp only [Bool.and_eq_true, decide_eq_true_eq] at h
      obtain ⟨⟨⟨⟨⟨⟨⟨⟨⟨⟨⟨⟨h1, h2⟩, h3⟩, h4⟩, h5⟩, h6⟩, h7⟩, h8⟩, h9⟩, h10⟩, h11⟩, h12⟩, h13⟩ := h
      subst h1; subst h2
      have := xEListComp_eq q
      subst this
      have ok : BlkOk X.N X.env.scope scope own := by rw [G.hN, G.hsc]; exact blkOk_by h3
      obtain ⟨i1, i2⟩ := mI_ok it G tg iter h4
      have s6 : ∀ i ∈ g.slots, i ∈ own.map (·.2) := fun i hi => by have := List.all_eq_true.mp h6 i hi; simpa using this
      have s7 : ∀ i ∈ g1.slots, i ∈ own.map (·.2) := fun i hi => by have := List.all_eq_true.mp h7 i hi; simpa using this
      unfold mG at hg
      cases qn : xEName t with
      | none => rw [qn] at hg; cases hg
      | some r =>
        obtain ⟨x, px⟩ := r
        rw [qn] at hg
        simp only [Bool.and_eq_true, decide_eq_true_eq] at hg
        obtain ⟨g1', g2⟩ := hg
        have := xEName_eq qn
        subst this
        have hsw : ∃ b, swapsWith (.ListComp elt' [⟨tg, iter, ifs', 0⟩, ⟨tg1, iter1, ifs1', 0⟩] scope p1) (some (.Name x px)) pos.line X.env = pure b ∧ (b = true → X.env.scope.names.lookup x = some .local) := by
          refine ⟨X.env.blockKind == .function && X.env.kindOf x == some .local && px.line == p1.line && !(scope.names.any fun (n, k) => n == x && (k == .local || k == .cell)), rfl, fun z => ?_⟩
          simp only [Bool.and_eq_true] at z
          have := z.1.1.2
          simpa [Env.kindOf] using this
        obtain ⟨b, sw, lo⟩ := hsw
        cases b with
        | false => exact es_asg (sole sw) rfl rfl hE hG
        | true =>
          have nd : X.N.Nodup := by rw [G.hN]; exact G.nd
          obtain ⟨wi, pi, gi⟩ := i1
          refine ⟨_, ps_setLc2 G.calm nd (by rw [G.hN]; exact g1') (lo rfl) sw pi ok s7 (fun s H Ca cl fp => (mG_ok (G.blk s H scope Ca cl fp) g tg h5).canon)
            (fun s H Ca cl fp => (efs_ok (mEs_ok ifs (G.blk s H scope Ca cl fp) ifs' h8.1.1) h8.1.2 h8.2).canon) (fun s H Ca cl fp => ((mI_ok it1 (G.blk s H scope Ca cl fp) tg1 iter1 h9).1).canon) (fun s H Ca cl fp => (mG_ok (G.blk s H scope Ca cl fp) g1 tg1 h10).canon)
            (fun s H Ca cl fp => (efs_ok (mEs_ok ifs1 (G.blk s H scope Ca cl fp) ifs1' h11.1.1) h11.1.2 h11.2).canon) (fun s H Ca cl fp => ((mE_ok elt (G.blk s H scope Ca cl fp) elt' h13).1).canon) i2 (fun env x => noSet_fold h12 x), ?_⟩
          exact asg_good (lc2_good s6 gi) gName_good
    | [], h, q => cases h
    | [⟨_, _, _, _⟩], h, q => cases h
    | ⟨_, _, _, _⟩ :: ⟨_, _, _, _⟩ :: _ :: _, h, q => cases h
/-- name = {k: v for ..} -/
theorem setd_ok (G : Cok C P M N sc sc X) {i : Nat} {own : List (Str × Nat)} {g : Nv.G} {it : Nv.It} {ifs : List E} {k v : E} {t a : Expr} {pos : Pos} (hg : mG N sc sc (.name i) t = true) (h : mE P N (.dcomp own g it ifs k v) sc a = true) :
    ES C R0 X E0' (.Assign [t] a pos) (evalS P M (.set i (.dcomp own g it ifs k v))) := by
  have hE := (mE_ok (.dcomp own g it ifs k v) G a h).1
  have hG := mG_ok G (.name i) t hg
  unfold mE at h
  cases q : xEDictComp a with
  | none => rw [q] at h; cases h
  | some r =>
    obtain ⟨k', v', gs, scope, p1⟩ := r
    rw [q] at h
    match gs, h, q with
    | [⟨tg, iter, ifs', asy⟩], h, q =>
      simp only [Bool.and_eq_true, decide_eq_true_eq] at h
      obtain ⟨⟨⟨⟨⟨⟨⟨h1, h2⟩, h3⟩, h4⟩, h5⟩, h6⟩, h7⟩, h8⟩ := h
      subst h1
      have := xEDictComp_eq q
      subst this
      have ok : BlkOk X.N X.env.scope scope own := by rw [G.hN, G.hsc]; exact blkOk_by h2
      obtain ⟨i1, i2⟩ := mI_ok it G tg iter h3
      have s5 : ∀ i ∈ g.slots, i ∈ own.map (·.2) := fun i hi => by have := List.all_eq_true.mp h5 i hi; simpa using this
      unfold mG at hg
      cases qn : xEName t with
      | none => rw [qn] at hg; cases hg
      | some r =>
        obtain ⟨x, px⟩ := r
        rw [qn] at hg
        simp only [Bool.and_eq_true, decide_eq_true_eq] at hg
        obtain ⟨g1', g2⟩ := hg
        have := xEName_eq qn
        subst this
        have hsw : ∃ b, swapsWith (.DictComp k' v' [⟨tg, iter, ifs', 0⟩] scope p1) (some (.Name x px)) pos.line X.env = pure b ∧ (b = true → X.env.scope.names.lookup x = some .local) := by
          refine ⟨X.env.blockKind == .function && X.env.kindOf x == some .local && px.line == p1.line && !(scope.names.any fun (n, k) => n == x && (k == .local || k == .cell)), rfl, fun z => ?_⟩
          simp only [Bool.and_eq_true] at z
          have := z.1.1.2
          simpa [Env.kindOf] using this
        obtain ⟨b, sw, lo⟩ := hsw
        cases b with
        | false => exact es_asg (sole sw) rfl rfl hE hG
        | true =>
          have nd : X.N.Nodup := by rw [G.hN]; exact G.nd
          obtain ⟨wi, pi, gi⟩ := i1
          refine ⟨_, ps_setDc G.calm nd (by rw [G.hN]; exact g1') (lo rfl) sw pi ok (fun s H Ca cl fp => (mG_ok (G.blk s H scope Ca cl fp) g tg h4).canon)
            (fun s H Ca cl fp => (efs_ok (mEs_ok ifs (G.blk s H scope Ca cl fp) ifs' h6.1.1) h6.1.2 h6.2).canon) (fun s H Ca cl fp => ((mE_ok k (G.blk s H scope Ca cl fp) k' h7).1).canon) (fun s H Ca cl fp => ((mE_ok v (G.blk s H scope Ca cl fp) v' h8).1).canon) i2, ?_⟩
          exact asg_good (dc_good s5 gi) gName_good
    | [], h, q => cases h
    | ⟨_, _, _, _⟩ :: _ :: _, h, q => cases h
theorem own_pass (G : Cok C P M N sc sc X) : PassesOwn (model X.prog X.w) X.A X.env X.xe := fun e s h => absurd h (G.never e s)
mutual
theorem mS_ok (G : Cok C P M N sc sc X) : ∀ (st : St) (s : Stmt), mS P N sc st s = true → ES C R0 X E0' s (evalS P M st)
  | .expr e, s, h => by
    unfold mS at h
    cases q : xSExpr s with
    | none => rw [q] at h; cases h
    | some r =>
      obtain ⟨a, pos⟩ := r
      rw [q] at h
      simp only [Bool.and_eq_true] at h
      have := xSExpr_eq q
      subst this
      exact es_expr (fun l => swaps_no h.1 _ _ _) (mE_ok e G a h.2).1
  | .set i e, s, h => by
    unfold mS at h
    cases q : xSAssign s with
    | none => rw [q] at h; cases h
    | some r =>
      obtain ⟨ts, a, pos⟩ := r
      rw [q] at h
      match ts, h, q with
      | [t], h, q =>
        simp only [Bool.and_eq_true] at h
        obtain ⟨⟨h1, h2⟩, h3⟩ := h
        have := xSAssign_eq q
        subst this
        have hn : ∃ x p, t = .Name x p := by
          unfold mG at h1
          cases qn : xEName t with
          | none => rw [qn] at h1; cases h1
          | some r => exact ⟨r.1, r.2, xEName_eq qn⟩
        obtain ⟨x, px, rfl⟩ := hn
        cases e with
        | comp own g it ifs elt => exact setc_ok G h1 h2
        | comp2 own g it ifs g1 it1 ifs1 elt => exact setc2_ok G h1 h2
        | dcomp own g it ifs k v => exact setd_ok G h1 h2
        | _ => exact es_asg (sole (swaps_no h3 _ _ _)) (stores_no (.inl rfl) (fun _ _ z => by cases z) _) rfl (mE_ok _ G a h2).1 (mG_ok G (.name i) _ h1)
      | [], h, q => cases h
      | _ :: _ :: _, h, q => cases h
  | .unp g e, s, h => by
    unfold mS at h
    cases q : xSAssign s with
    | none => rw [q] at h; cases h
    | some r =>
      obtain ⟨ts, a, pos⟩ := r
      rw [q] at h
      match ts, h, q with
      | [t], h, q =>
        simp only [Bool.and_eq_true] at h
        obtain ⟨⟨⟨⟨h1, h2⟩, h3⟩, h4⟩, h5⟩ := h
        have := xSAssign_eq q
        subst this
        cases t with
        | Tuple es k p =>
          have hw : swappedStores [.Tuple es k p] a X.env = pure none := by
            rw [Bool.or_eq_true] at h2
            rcases h2 with h2 | h2
            · exact stores_no (.inr h2) (fun _ _ z => by cases z) _
            · cases qa : xETuple a with
              | none => rw [qa] at h2; cases h2
              | some r =>
                obtain ⟨vs, k2, p2⟩ := r
                have := xETuple_eq qa
                subst this
                have h2 : (decide (sc.kind = .function) && !(swBad vs) && (swOpt sc es vs).isNone) = true := h2
                simp only [Bool.and_eq_true, decide_eq_true_eq, Bool.not_eq_true', Option.isNone_iff_eq_none] at h2
                rw [swapped_eq G.hsc h2.1.1 h2.1.2, h2.2]
          exact es_asg (sole (swaps_no h3 _ _ _)) hw rfl (mE_ok _ G a h5).1 (mG_ok G g _ h4)
        | _ => cases h1
      | [], h, q => cases h
      | _ :: _ :: _, h, q => cases h
  | .par is es, s, h => by
    unfold mS at h
    cases q : xSAssign s with
    | none => rw [q] at h; cases h
    | some r =>
      obtain ⟨tts, a, pos⟩ := r
      rw [q] at h
      match tts, h, q with
      | [t], h, q =>
        dsimp only at h
        have := xSAssign_eq q
        subst this
        cases qt : xETuple t with
        | none => rw [qt] at h; cases h
        | some r =>
          obtain ⟨ts, kt, pt⟩ := r
          cases qa : xETuple a with
          | none => rw [qt, qa] at h; cases h
          | some r =>
            obtain ⟨vs, k2, p2⟩ := r
            rw [qt, qa] at h
            simp only [Bool.and_eq_true, decide_eq_true_eq, Bool.not_eq_true'] at h
            obtain ⟨⟨⟨h1, h2⟩, h3⟩, h4⟩ := h
            have := xETuple_eq qt
            subst this
            have := xETuple_eq qa
            subst this
            have z := mEs_ok es G vs h3
            have sw := swapped_eq (ts := ts) (k := kt) (k2 := k2) (p := pt) (p2 := p2) G.hsc h1 h2
            have nd : X.N.Nodup := by rw [G.hN]; exact G.nd
            match is, ts, h4, sw with
            | [i, j], [tx, ty], h4, sw =>
              dsimp only at h4
              cases qx : xEName tx with
              | none => rw [qx] at h4; cases h4
              | some r =>
                obtain ⟨x, px⟩ := r
                cases qy : xEName ty with
                | none => rw [qx, qy] at h4; cases h4
                | some r =>
                  obtain ⟨y, py⟩ := r
                  rw [qx, qy] at h4
                  simp only [Bool.and_eq_true, decide_eq_true_eq] at h4
                  obtain ⟨⟨⟨⟨⟨⟨g1, g2⟩, g3⟩, g4⟩, g5⟩, g6⟩, g7⟩ := h4
                  have := xEName_eq qx
                  subst this
                  have := xEName_eq qy
                  subst this
                  rw [g6] at sw
                  match vs, g7, z, sw with
                  | [a1, a2], _, z, sw =>
                    exact es_par2 G.calm nd (by rw [G.hN]; exact g1) (by rw [G.hN]; exact g2) g3 (by rw [G.hsc]; exact g4) (by rw [G.hsc]; exact g5) z.ea (fun ρ S xs S1 w => (evalEs_len w).trans z.len) sw
            | [i, j, l], [tx, ty, tz], h4, sw =>
              dsimp only at h4
              cases qx : xEName tx with
              | none => rw [qx] at h4; cases h4
              | some r =>
                obtain ⟨x, px⟩ := r
                cases qy : xEName ty with
                | none => rw [qx, qy] at h4; cases h4
                | some r =>
                  obtain ⟨y, py⟩ := r
                  cases qz : xEName tz with
                  | none => rw [qx, qy, qz] at h4; cases h4
                  | some r =>
                    obtain ⟨zz, pz⟩ := r
                    rw [qx, qy, qz] at h4
                    simp only [Bool.and_eq_true, decide_eq_true_eq] at h4
                    obtain ⟨⟨⟨⟨⟨⟨⟨⟨⟨⟨g1, g2⟩, g3⟩, g4⟩, g5⟩, g6⟩, g7⟩, g8⟩, g9⟩, g10⟩, g11⟩ := h4
                    have := xEName_eq qx
                    subst this
                    have := xEName_eq qy
                    subst this
                    have := xEName_eq qz
                    subst this
                    rw [g10] at sw
                    match vs, g11, z, sw with
                    | [a1, a2, a3], _, z, sw =>
                      exact es_par3 G.calm nd (by rw [G.hN]; exact g1) (by rw [G.hN]; exact g2) (by rw [G.hN]; exact g3) g4 g5 g6 (by rw [G.hsc]; exact g7) (by rw [G.hsc]; exact g8) (by rw [G.hsc]; exact g9) z.ea (fun ρ S xs S1 w => (evalEs_len w).trans z.len) sw
            | [], _, h4, sw => cases h4
            | [_], _, h4, sw => cases h4
            | _ :: _ :: _ :: _ :: _, _, h4, sw => cases h4
            | [_, _], [], h4, sw => cases h4
            | [_, _], [_], h4, sw => cases h4
            | [_, _], _ :: _ :: _ :: _, h4, sw => cases h4
            | [_, _, _], [], h4, sw => cases h4
            | [_, _, _], [_], h4, sw => cases h4
            | [_, _, _], [_, _], h4, sw => cases h4
            | [_, _, _], _ :: _ :: _ :: _ :: _, h4, sw => cases h4
      | [], h, q => cases h
      | _ :: _ :: _, h, q => cases h
  | .attr o f e, s, h => by
    unfold mS at h
    cases q : xSAssign s with
    | none => rw [q] at h; cases h
    | some r =>
      obtain ⟨ts, a, pos⟩ := r
      rw [q] at h
      match ts, h, q with
      | [t], h, q =>
        dsimp only at h
        cases q2 : xEAttribute t with
        | none => rw [q2] at h; cases h
        | some r =>
          obtain ⟨o', nm, p2⟩ := r
          rw [q2] at h
          simp only [Bool.and_eq_true, decide_eq_true_eq] at h
          obtain ⟨⟨⟨h1, h2⟩, h3⟩, h4⟩ := h
          have := xSAssign_eq q
          subst this
          have := xEAttribute_eq q2
          subst this
          exact es_attr G.gw.hK (G.gw.hK ▸ G.gw.cls) (fun c hc => G.gw.hK ▸ G.gw.noat f nm h1 h2 c hc) (G.gw.sym f nm h1) (fun g z => G.gw.inj _ _ z) (swaps_other (fun _ _ z => by cases z) _ _) (mE_ok o G o' h3).1 (mE_ok e G a h4).1
      | [], h, q => cases h
      | _ :: _ :: _, h, q => cases h
  | .sub o i e, s, h => by
    unfold mS at h
    cases q : xSAssign s with
    | none => rw [q] at h; cases h
    | some r =>
      obtain ⟨ts, a, pos⟩ := r
      rw [q] at h
      match ts, h, q with
      | [t], h, q =>
        dsimp only at h
        cases q2 : xESubscript t with
        | none => rw [q2] at h; cases h
        | some r =>
          obtain ⟨o', i', p2⟩ := r
          rw [q2] at h
          simp only [Bool.and_eq_true] at h
          obtain ⟨⟨⟨h1, h2⟩, h3⟩, h4⟩ := h
          have := xSAssign_eq q
          subst this
          have := xESubscript_eq q2
          subst this
          exact es_sub G.gw.un (noSli_ne h1) (sole (swaps_other (fun _ _ z => by cases z) _ _)) (stores_no (.inl rfl) (fun _ _ z => by cases z) _) (mE_ok o G o' h2).1 (mE_ok i G i' h3).1 (mE_ok e G a h4).1
      | [], h, q => cases h
      | _ :: _ :: _, h, q => cases h
  | .ite c a b, s, h => by
    unfold mS at h
    cases q : xSIf s with
    | none => rw [q] at h; cases h
    | some r =>
      obtain ⟨c', a', b', pos⟩ := r
      rw [q] at h
      simp only [Bool.and_eq_true] at h
      obtain ⟨⟨⟨h1, h2⟩, h3⟩, h4⟩ := h
      have := xSIf_eq q
      subst this
      exact es_ite ((mE_ok c G c' h2).2 h1) (mSs_ok G a a' h3) (mSs_ok G b b' h4)
  | .wh c b, s, h => by
    unfold mS at h
    cases q : xSWhile s with
    | none => rw [q] at h; cases h
    | some r =>
      obtain ⟨c', b', orelse, pos⟩ := r
      rw [q] at h
      cases orelse with
      | cons _ _ => cases h
      | nil =>
        simp only [Bool.and_eq_true] at h
        obtain ⟨⟨h1, h2⟩, h3⟩ := h
        have := xSWhile_eq q
        subst this
        exact es_wh (own_pass G) ((mE_ok c G c' h2).2 h1) (mSs_ok G b b' h3) WF
  | .forr g it b gc, s, h => by
    unfold mS at h
    cases q : xSFor s with
    | none => rw [q] at h; cases h
    | some r =>
      obtain ⟨tg, iter, b', orelse, pos⟩ := r
      rw [q] at h
      cases orelse with
      | cons _ _ => cases h
      | nil =>
        simp only [Bool.and_eq_true] at h
        obtain ⟨⟨h1, h2⟩, h3⟩ := h
        have := xSFor_eq q
        subst this
        obtain ⟨i1, i2⟩ := mI_ok it G tg iter h1
        exact es_for gc (own_pass G) G.calm i1 (mG_ok G g tg h2) (mSs_ok G b b' h3) i2
  | .ret e, s, h => by
    unfold mS at h
    cases q : xSReturn s with
    | none => rw [q] at h; cases h
    | some r =>
      obtain ⟨o, pos⟩ := r
      rw [q] at h
      cases o with
      | none => cases h
      | some a =>
        have := xSReturn_eq q
        subst this
        exact es_ret (mE_ok e G a h).1
  | .retN, s, h => by
    unfold mS at h
    cases q : xSReturn s with
    | none => rw [q] at h; cases h
    | some r =>
      obtain ⟨o, pos⟩ := r
      rw [q] at h
      cases o with
      | some _ => cases h
      | none =>
        have := xSReturn_eq q
        subst this
        exact es_retN
  | .pass, s, h => by
    unfold mS at h
    cases s with
    | Pass p => exact es_pass
    | _ => cases h
  | .cont, s, h => by
    unfold mS at h
    cases s with
    | Continue p => exact es_cont
    | _ => cases h
  | .brk, s, h => by
    unfold mS at h
    cases s with
    | Break p => exact es_brk
    | _ => cases h
  | .raise, s, h => es_never
theorem mSs_ok (G : Cok C P M N sc sc X) : ∀ (st : List St) (s : List Stmt), mSs P N sc st s = true → ESs C R0 X E0' s (evalSs P M st)
  | [], s, h => by
    cases s with
    | nil => exact ess_nil
    | cons _ _ => cases h
  | a :: as, s, h => by
    cases s with
    | nil => cases h
    | cons s ss =>
      have h' : (mS P N sc a s && mSs P N sc as ss) = true := h
      simp only [Bool.and_eq_true] at h'
      exact ess_cons (mS_ok G a s h'.1) (mSs_ok G as ss h'.2)
end
end
end Nv
/-! Nv: each def keeps its evaluator's promise. -/
namespace Nv
open PySem PySem.Spec PyProof.Rows L2
section
variable {C : Cxt} {P : Prog} {M : Sm} {N : List Str} {sc : Scope} {X : Cx}
theorem start_get {N : List Str} {vs : List V} {i : Nat} {v : V} (h : vs[i]? = some v) : (L2.start N vs)[i]? = some (some v) := by
  unfold L2.start
  have hl := (List.getElem?_eq_some_iff.mp h).1
  rw [List.getElem?_append_left (by rw [List.length_map]; exact hl), List.getElem?_map, h]
  rfl
theorem start_len {N : List Str} {vs : List V} (h : vs.length ≤ N.length) : (L2.start N vs).length = N.length := by
  unfold L2.start
  rw [List.length_append, List.length_map, List.length_replicate]; omega
theorem simE_start {H : Hp} {L : List Addr} {ds : List D} {vs : List V} {N : List Str} {n : Nat} (r : Reps C H L ds vs []) (hn : n = N.length) (hp : ds.length ≤ n) : SimE C H L (ds.map some ++ List.replicate (n - ds.length) none) (L2.start N vs) := by
  have hl := r.length
  refine ⟨?_, fun i d h => ?_⟩
  · rw [start_len (by omega), List.length_append, List.length_map, List.length_replicate]; omega
  · by_cases q : i < ds.length
    · rw [List.getElem?_append_left (by rw [List.length_map]; exact q), List.getElem?_map] at h
      cases hd : ds[i]? with
      | none => rw [hd] at h; cases h
      | some d' =>
        rw [hd] at h
        cases h
        obtain ⟨v, G, h1, h2, h3⟩ := r.at hd
        have : G = [] := List.sublist_nil.mp h3
        subst this
        exact ⟨v, start_get h1, h2⟩
    · rw [List.getElem?_append_right (by rw [List.length_map]; omega), List.getElem?_replicate] at h
      split at h <;> cases h
theorem adrs_mem {L : List Addr} {us : List Nat} (h : ∀ u ∈ us, u < L.length) : ∀ a ∈ adrs L us, ∃ u ∈ us, L[u]? = some a := by
  intro a ha
  obtain ⟨u, hu, e⟩ := List.mem_map.mp ha
  refine ⟨u, hu, ?_⟩
  rw [List.getElem?_eq_getElem (h u hu)]
  rw [List.getD_eq_getElem?_getD, List.getElem?_eq_getElem (h u hu)] at e
  exact congrArg some e
theorem nodup_get : ∀ {L : List Addr} (nd : L.Nodup) {i j : Nat} {a : Addr} (h1 : L[i]? = some a) (h2 : L[j]? = some a), i = j
  | [], _, i, j, a, h1, _ => by simp at h1
  | x :: L, nd, 0, 0, a, _, _ => rfl
  | x :: L, nd, 0, j + 1, a, h1, h2 => by
    simp at h1 h2
    subst h1
    exact absurd (List.mem_of_getElem? h2) (List.nodup_cons.mp nd).1
  | x :: L, nd, i + 1, 0, a, h1, h2 => by
    simp at h1 h2
    subst h2
    exact absurd (List.mem_of_getElem? h1) (List.nodup_cons.mp nd).1
  | x :: L, nd, i + 1, j + 1, a, h1, h2 => by
    simp at h1 h2
    rw [nodup_get (List.nodup_cons.mp nd).2 h1 h2]
theorem adrs_nodup {L : List Addr} (nd : L.Nodup) : ∀ {us : List Nat}, us.Nodup → (∀ u ∈ us, u < L.length) → (adrs L us).Nodup
  | [], _, _ => List.nodup_nil
  | u :: us, h, hl => by
    have h' := List.nodup_cons.mp h
    have ih := adrs_nodup nd h'.2 fun w hw => hl w (List.mem_cons_of_mem _ hw)
    refine List.nodup_cons.mpr ⟨fun hm => ?_, ih⟩
    obtain ⟨w, hw, e⟩ := adrs_mem (fun w hw => hl w (List.mem_cons_of_mem _ hw)) _ hm
    have hu := hl u List.mem_cons_self
    have e2 : L[u]? = some (L.getD u 0) := by rw [List.getD_eq_getElem?_getD, List.getElem?_eq_getElem hu]; rfl
    exact h'.1 (nodup_get nd e2 e ▸ hw)
/-- a def's end -/
theorem fin_ok {gc : Bool} {H : Hp} {L : List Addr} {S : Store} {Q : VK} {R : XR} {E : XK} {d : D} {S' : Store} (s0 : SimS C H L S) (h : (finF gc S d S').sat (OkW C H L Q) (ExW C R E H L)) {v : V} {H' : Hp} {L' F : List Addr} (p : Post C H L S' d v H' L' F) : Q v H' := by
  cases gc with
  | false => exact h v H' L' F p
  | true =>
    unfold finF at h
    cases h1 : reify S' S.length 6 d with
    | none => simp only [h1] at h; exact h.elim
    | some r =>
      obtain ⟨d', us⟩ := r
      cases h2 : trunc S S' with
      | none => simp only [h1, h2] at h; exact h.elim
      | some T =>
        simp only [h1, h2] at h
        by_cases nu : us.Nodup
        · rw [if_pos nu] at h
          obtain ⟨G, r1, r2, r3⟩ := reify_ok p.sim (n := S.length) 6 d v F (d', us) p.rep h1
          obtain ⟨M, en, nn⟩ := p.ext.pre
          have hn : L'.take S.length = L := by rw [← s0.len, en]; simp
          rw [hn] at r1
          have tk := trunc_ok s0 ⟨M, en⟩ p.sim h2
          have inM : ∀ u, S.length ≤ u → u < L'.length → ∀ a, L'[u]? = some a → a ∈ M ∧ a ∉ L := by
            intro u h1 h2 a ha
            have hm : a ∈ M := by
              rw [en, List.getElem?_append_right (by rw [s0.len]; exact h1)] at ha
              exact List.mem_of_getElem? ha
            refine ⟨hm, fun hl => ?_⟩
            obtain ⟨k, hk⟩ := List.getElem?_of_mem hl
            have hk' : L'[k]? = some a := by rw [en, List.getElem?_append_left (List.getElem?_eq_some_iff.mp hk).1]; exact hk
            have := nodup_get p.sim.nd ha hk'
            have := (List.getElem?_eq_some_iff.mp hk).1
            rw [s0.len] at this
            omega
          refine h v H' L G ⟨p.ext.drop, tk.1, r1, ⟨fun a ha => ?_, r2.nodup_iff.mpr ?_, fun a ha => ?_⟩⟩
          · rcases List.mem_append.mp (r2.mem_iff.mp ha) with q | q
            · exact p.fr.new a q
            · obtain ⟨u, hu, e⟩ := adrs_mem (fun u hu => (r3 u hu).2) a q
              exact nn a (inM u (r3 u hu).1 (r3 u hu).2 a e).1
          · rw [List.nodup_append]
            refine ⟨p.fr.nd, adrs_nodup p.sim.nd nu fun u hu => (r3 u hu).2, fun a ha b hb z => ?_⟩
            subst z
            obtain ⟨u, hu, e⟩ := adrs_mem (fun u hu => (r3 u hu).2) a hb
            exact p.fr.out a ha (List.mem_of_getElem? e)
          · rcases List.mem_append.mp (r2.mem_iff.mp ha) with q | q
            · intro hl
              exact p.fr.out a q (by rw [en]; exact List.mem_append_left _ hl)
            · obtain ⟨u, hu, e⟩ := adrs_mem (fun u hu => (r3 u hu).2) a q
              exact (inM u (r3 u hu).1 (r3 u hu).2 a e).2
        · rw [if_neg nu] at h; exact h.elim
/-- THE RULE for a def -/
theorem fn_ok {prog : Program} {w : World} {K : PySem.W.Frag} {mg : Str → Option Value} {base : Heap} {x qual : Str} {params : Arguments} {body : List Stmt} {dvs : List V} {kws : List (Str × V)} {f : Addr} {fd : FuncData} {ps : List Str} {k i : Nat} {fn : Fn}
    (F : FunD K x qual params body sc dvs kws f fd) (S : FnScope N ps sc) (hf : P.fns[i]? = some fn) (hN : fn.slots = N.length) (hp : fn.ps = ps.length) (hm : mSs P N sc fn.body body = true)
    (hG : ∀ A : Around, Room k A → Gw C P M prog w K mg base A) : FnOk prog w K mg base CX0 (k + 1) f fd ps (spF C R0 fn.ps (runF P M i)) := by
  refine F.ok S (fun vs H Q E h => by rw [← hp]; exact h.1) fun cdv A outer s H vs Q E hr h => ?_
  obtain ⟨hl, L, S0, ds, s0, r0, h⟩ := h
  have G : Cok C P M N sc sc (cxOf CX0 prog w K mg base N qual sc f cdv A outer s H E).nox := ⟨hG _ hr, rfl, S.nd, rfl, rfl, fun _ _ => rfl, fun _ _ z => z⟩
  obtain ⟨t, pt, gt⟩ := mSs_ok G fn.body body hm
  refine ⟨t, PSs.nox pt, ?_⟩
  have hd : ds.length = fn.ps := r0.length.trans hl
  have h' : (if ds.length = fn.ps ∧ fn.ps ≤ fn.slots then
      (evalSs P M fn.body (ds.map some ++ List.replicate (fn.slots - fn.ps) none) S0).bind fun q S' => match q.1 with
        | .nx => finF fn.gc S0 .non S'
        | .rt d => finF fn.gc S0 d S'
        | _ => .stuck
    else .stuck).sat (OkW C H L Q) (ExW C R0 E H L) := by
    have e : runF P M i ds S0 = (if ds.length = fn.ps ∧ fn.ps ≤ fn.slots then
      (evalSs P M fn.body (ds.map some ++ List.replicate (fn.slots - fn.ps) none) S0).bind fun q S' => match q.1 with
        | .nx => finF fn.gc S0 .non S'
        | .rt d => finF fn.gc S0 d S'
        | _ => .stuck
    else .stuck) := by
      unfold runF
      rw [hf]
      try rfl
    rw [← e]; exact h
  by_cases q : ds.length = fn.ps ∧ fn.ps ≤ fn.slots
  · rw [if_pos q] at h'
    have h2 := sat_bind h'
    have e0 : SimE C H L (ds.map some ++ List.replicate (fn.slots - fn.ps) none) (L2.start N vs) := by
      rw [← q.1]
      exact simE_start r0 hN (by omega)
    refine gt (L2.start N vs) H L _ S0 _ s0 e0 (sat_mono h2 (fun r S' z => ?_) fun _ _ z => fun cls dd H' L' e1 e2 e3 => e3.elim)
    obtain ⟨fl, ρ⟩ := r
    cases fl with
    | nx => exact fun σ' H' L' x' s' e' => fin_ok s0 z ⟨x', s', .non, Fr.nil _ _⟩
    | rt d => exact fun v H' L' F p => fin_ok s0 z p
    | bk => exact z.elim
    | ct => exact z.elim
  · rw [if_neg q] at h'; exact h'.elim
end
end Nv
/-! Nv: a whole program. -/
namespace Nv
open PySem PySem.Spec PyProof.Rows L2
def clsB : Stmt → List Stmt
  | .ClassDef (body := b) .. => b
  | _ => []
/-! ### depth -/
theorem runF_len {P : Prog} {M : Sm} {f : Nat} {fn : Fn} (h : P.fns[f]? = some fn) (ds : List D) (hl : ds.length ≠ fn.ps) (S : Store) : runF P M f ds S = .stuck := by
  unfold runF
  rw [h]
  exact if_neg fun q => hl q.1
theorem sm_len {P : Prog} : ∀ (d : Nat) {f : Nat} {fn : Fn}, P.fns[f]? = some fn → ∀ ds : List D, ds.length ≠ fn.ps → ∀ S, (sm P d).call f ds S = .stuck
  | 0, _, _, _, _, _, _ => rfl
  | d + 1, f, fn, h, ds, hl, S => runF_len h ds hl S
theorem sm_leni {P : Prog} : ∀ (d : Nat) {f : Nat} {fn : Fn}, P.fns[f]? = some fn → ∀ ds : List D, ds.length ≠ fn.ps → ∀ S, (sm P d).init f ds S = .stuck
  | 0, _, _, _, _, _, _ => rfl
  | d + 1, f, fn, h, ds, hl, S => sm_len d h ds hl S
theorem vals_app : ∀ {vs zs : List V} {us ws : List Value}, Vals vs us → Vals zs ws → Vals (vs ++ zs) (us ++ ws)
  | _, _, _, _, .nil, h => h
  | _, _, _, _, .cons r rr, h => .cons r (vals_app rr h)
/-! ### the program's facts -/
def KwOk (C : Cxt) (K : PySem.W.Frag) (fd : FuncData) (ps : List Str) (np : Nat) (ks : List Str) (ds : List (Nat ⊕ D)) : Prop :=
  ∃ (gV : List V → List V → List V) (gu : List Value → List Value → List Value), KBn K fd ps (np + 1) ks gu gV ∧ ∀ (H : Hp) (L : List Addr) (xs ys : List D) (vs zs : List V), xs.length = np → ys.length = ks.length → Reps C H L xs vs [] → Reps C H L ys zs [] → ∀ v, ∃ ws, gV (v :: vs) zs = v :: ws ∧ Reps C H L (xs ++ kwD ds ys) ws []
def initOf (P : Prog) (c : Nat) : Option Nat := (P.cls[c]?).map (·.init)
structure DefOk (C : Cxt) (P : Prog) (K : PySem.W.Frag) (f : Addr) (i : Nat) (fn : Fn) (fd : FuncData) (ps : List Str) : Prop where
  ex : ∃ (N : List Str) (x qual : Str) (params : Arguments) (body : List Stmt) (sc : Scope) (dvs : List V) (kws : List (Str × V)), FunD K x qual params body sc dvs kws f fd ∧ FnScope N ps sc ∧ fn.slots = N.length ∧ mSs P N sc fn.body body = true
  np : fn.ps = ps.length
  kp : PySem.W.keepIn K (.ref f) = true
  bd : fn.pos = true → Binds K fd ps []
  kw : ∀ q ∈ P.kws, initOf P q.1 = some i → KwOk C K fd ps q.2.1 q.2.2.1 q.2.2.2
structure PF (C : Cxt) (P : Prog) (w : World) (K : PySem.W.Frag) (mg : Str → Option Value) (FA : Nat → Addr) : Prop where
  hK : K = C.K
  defs : ∀ i fn, P.fns[i]? = some fn → ∃ fd ps, DefOk C P K (FA i) i fn fd ps
  call_ : ∀ i fn, P.fns[i]? = some fn → fn.name.cps.isEmpty = false → (fn.name == ("__debug__" : Str)) = false ∧ mg fn.name = some (.ref (FA i))
  make_ : ∀ c cl, P.cls[c]? = some cl → (cl.name == ("__debug__" : Str)) = false ∧ c < C.nc ∧ mg cl.name = some (.ref (C.CA c)) ∧ (∀ fn, P.fns[cl.init]? = some fn → Mk K (C.CA c) (FA cl.init))
  meth_ : ∀ c cl m f nm, P.cls[c]? = some cl → (m, f) ∈ cl.meths → P.syms[m]? = some nm → Meth K (C.CA c) nm (FA f)
  globs : ∀ (k : Nat) (g : Str × D), P.globs[k]? = some g → ∃ v u, mg g.1 = some u ∧ RelV v u ∧ ∀ H L, Rep C H L g.2 v []
  free : ∀ x ∈ P.free, mg x = none
  sym : ∀ k nm, P.syms[k]? = some nm → C.sym k = nm
  inj : ∀ f g, C.sym f = C.sym g → f = g
  cls : ∀ c, c < C.nc → Cls K (C.CA c)
  noat : ∀ f nm, P.syms[f]? = some nm → f < P.nf → ∀ c, c < C.nc → NoAttr K (C.CA c) nm
section
variable {C : Cxt} {P : Prog} {prog : Program} {w : World} {K : PySem.W.Frag} {mg : Str → Option Value} {base : Heap} {FA : Nat → Addr}
/-- every def keeps its promise at a depth -/
def All (C : Cxt) (P : Prog) (prog : Program) (w : World) (K : PySem.W.Frag) (mg : Str → Option Value) (base : Heap) (FA : Nat → Addr) (k : Nat) (g : Nat → List D → Store → Rs D) : Prop :=
  ∀ i fn fd ps, P.fns[i]? = some fn → DefOk C P K (FA i) i fn fd ps → FnOk prog w K mg base CX0 k (FA i) fd ps (spF C R0 fn.ps (g i))
theorem all_stuck (k : Nat) : All C P prog w K mg base FA k (fun _ _ _ => .stuck) := fun i fn fd ps h d =>
  ⟨fun vs H Q E z => by rw [← d.np]; exact z.1, fun A outer s H args us vs Q E _ _ _ _ z => by
    obtain ⟨_, L, S, ds, _, _, q⟩ := z
    exact q.elim⟩
theorem gw_of (F : PF C P w K mg FA) {M : Sm} {k j : Nat} (hj : j + 1 ≤ k) (hc : All C P prog w K mg base FA k M.call) (hi : All C P prog w K mg base FA j M.init)
    (lc : ∀ f fn, P.fns[f]? = some fn → ∀ ds : List D, ds.length ≠ fn.ps → ∀ S, M.call f ds S = .stuck) (li : ∀ f fn, P.fns[f]? = some fn → ∀ ds : List D, ds.length ≠ fn.ps → ∀ S, M.init f ds S = .stuck) {A : Around} (hr : Room k A) : Gw C P M prog w K mg base A where
  hK := F.hK
  un := by have := hr.un; omega
  fns := fun f fn h hn hp => by
    obtain ⟨fd, ps, d⟩ := F.defs f fn h
    obtain ⟨h1, h2⟩ := F.call_ f fn h hn
    exact ⟨h1, k, FA f, fd, ps, hc f fn fd ps h d, hr, h2, d.kp, d.bd hp⟩
  flen := lc
  ilen := li
  mks := fun c cl fn h h2 hp => by
    obtain ⟨fd, ps, d⟩ := F.defs _ fn h2
    obtain ⟨m1, m2, m3, m4⟩ := F.make_ c cl h
    exact ⟨m1, m2, m3, j, FA cl.init, fd, ps, hi _ fn fd ps h2 d, hr.mono hj, m4 fn h2, d.bd hp⟩
  mkks := fun c cl fn np ks ds h h2 hm => by
    obtain ⟨fd, ps, d⟩ := F.defs _ fn h2
    obtain ⟨m1, m2, m3, m4⟩ := F.make_ c cl h
    obtain ⟨gV, gu, q1, q2⟩ := d.kw _ hm (show initOf P c = some cl.init by unfold initOf; rw [h]; rfl)
    exact ⟨m1, m2, m3, j, FA cl.init, fd, ps, gV, gu, hi _ fn fd ps h2 d, hr.mono hj, m4 fn h2, q1, q2⟩
  mts := fun c cl m f fn nm h hm h2 hp hs => by
    obtain ⟨fd, ps, d⟩ := F.defs f fn h2
    obtain ⟨m1, m2, m3, m4⟩ := F.make_ c cl h
    exact ⟨F.cls c m2, k, FA f, fd, ps, hc f fn fd ps h2 d, hr, F.meth_ c cl m f nm h hm hs, d.bd hp⟩
  globs := F.globs
  free := F.free
  sym := F.sym
  inj := F.inj
  cls := F.cls
  noat := F.noat
theorem all_run (F : PF C P w K mg FA) {M : Sm} {k j : Nat} (hj : j + 1 ≤ k) (hc : All C P prog w K mg base FA k M.call) (hi : All C P prog w K mg base FA j M.init)
    (lc : ∀ f fn, P.fns[f]? = some fn → ∀ ds : List D, ds.length ≠ fn.ps → ∀ S, M.call f ds S = .stuck) (li : ∀ f fn, P.fns[f]? = some fn → ∀ ds : List D, ds.length ≠ fn.ps → ∀ S, M.init f ds S = .stuck) : All C P prog w K mg base FA (k + 1) (runF P M) := fun i fn fd ps h d => by
  obtain ⟨N, x, qual, params, body, sc, dvs, kws, F1, S, h1, h2⟩ := d.ex
  exact fn_ok F1 S h h1 d.np h2 fun A hr => gw_of F hj hc hi lc li hr
theorem all_sm (F : PF C P w K mg FA) : ∀ d, All C P prog w K mg base FA (d + 1) (sm P d).call ∧ All C P prog w K mg base FA d (sm P d).init
  | 0 => ⟨all_stuck 1, all_stuck 0⟩
  | d + 1 => by
    obtain ⟨h1, h2⟩ := all_sm F d
    exact ⟨all_run F (Nat.le_refl _) h1 h2 (fun f fn h => sm_len d h) (fun f fn h => sm_leni d h), h1⟩
end
/-! ### the facts by the head -/
def symF (syms : List Str) (k : Nat) : Str := match syms[k]? with
  | some s => s
  | none => ⟨Array.replicate (k + 10000) 65⟩
theorem symF_inj {syms : List Str} (nd : syms.Nodup) (hl : ∀ s ∈ syms, s.cps.size < 10000) (f g : Nat) (h : symF syms f = symF syms g) : f = g := by
  unfold symF at h
  cases hf : syms[f]? with
  | none =>
    cases hg : syms[g]? with
    | none =>
      rw [hf, hg] at h
      have := congrArg (fun s : Str => s.cps.size) h
      simp at this; exact this
    | some b =>
      rw [hf, hg] at h
      have := congrArg (fun s : Str => s.cps.size) h
      simp at this
      have := hl b (List.mem_of_getElem? hg)
      omega
  | some a =>
    cases hg : syms[g]? with
    | none =>
      rw [hf, hg] at h
      have := congrArg (fun s : Str => s.cps.size) h
      simp at this
      have := hl a (List.mem_of_getElem? hf)
      omega
    | some b =>
      rw [hf, hg] at h
      have h : a = b := h
      subst h
      have l1 := (List.getElem?_eq_some_iff.mp hf).1
      have l2 := (List.getElem?_eq_some_iff.mp hg).1
      rw [List.getElem?_eq_getElem l1] at hf
      rw [List.getElem?_eq_getElem l2] at hg
      exact (List.getElem_inj nd).mp ((Option.some.inj hf).trans (Option.some.inj hg).symm)
/-! ### data of the module -/
mutual
def relD (K : PySem.W.Frag) : D → Value → Bool
  | .non, u => decide (u = .none)
  | .bl b, u => decide (u = .bool b)
  | .int i, u => match u with
    | .int j _ => decide (j = i)
    | _ => false
  | .str s, u => match u with
    | .str z _ => decide (z = s)
    | _ => false
  | .tup xs, u => match u with
    | .ref a => (match K.lookup a with
      | some ⟨.type c, od, .seq its _, _⟩ => decide (c = "tuple") && od.isNone && decide (its.size ≤ sizeLine) && relDs K xs its.toList
      | _ => false)
    | _ => false
  | .wtp _, _ => false
  | .ref _, _ => false
  | .new _, _ => false
termination_by structural d => d
def relDs (K : PySem.W.Frag) : List D → List Value → Bool
  | [], us => us.isEmpty
  | x :: xs, us => match us with
    | u :: us => relD K x u && relDs K xs us
    | [] => false
termination_by structural d => d
end
mutual
theorem relD_ok {C : Cxt} : ∀ (d : D) (u : Value), relD C.K d u = true → ∃ v, RelV v u ∧ ∀ H L, Rep C H L d v []
  | .non, u, h => by
    have := of_decide_eq_true h
    subst this
    exact ⟨.non, rfl, fun _ _ => .non⟩
  | .bl b, u, h => by
    have := of_decide_eq_true h
    subst this
    exact ⟨.bl b, rfl, fun _ _ => .bl b⟩
  | .int i, u, h => by
    cases u with
    | int j t =>
      have := of_decide_eq_true h
      subst this
      exact ⟨.int j, ⟨t, rfl⟩, fun _ _ => .int j⟩
    | _ => cases h
  | .str s, u, h => by
    cases u with
    | str z t =>
      have := of_decide_eq_true h
      subst this
      exact ⟨.str z, ⟨t, rfl⟩, fun _ _ => .str z⟩
    | _ => cases h
  | .tup xs, u, h => by
    cases u with
    | ref a =>
      have h' : (match C.K.lookup a with
      | some ⟨.type c, od, .seq its _, _⟩ => decide (c = "tuple") && od.isNone && decide (its.size ≤ sizeLine) && relDs C.K xs its.toList
      | _ => false) = true := h
      cases q : C.K.lookup a with
      | none => rw [q] at h'; cases h'
      | some o =>
        obtain ⟨oc, od, dt, osl⟩ := o
        rw [q] at h'
        cases oc with
        | type c =>
          cases dt with
          | seq its n =>
            simp only [Bool.and_eq_true, decide_eq_true_eq] at h'
            obtain ⟨⟨⟨h1, h0⟩, h2⟩, h3⟩ := h'
            obtain ⟨vs, r1, r2⟩ := relDs_ok xs its.toList h3
            exact ⟨.ref a, rfl, fun H L => .tup (.inr ⟨_, its, n, q, congrArg Value.type h1, Option.isNone_iff_eq_none.mp h0, rfl, h2, r1⟩) (r2 H L)⟩
          | _ => cases h'
        | _ => cases dt <;> cases h'
    | _ => cases h
  | .wtp _, _, h => by cases h
  | .ref _, _, h => by cases h
  | .new _, _, h => by cases h
theorem relDs_ok {C : Cxt} : ∀ (d : List D) (u : List Value), relDs C.K d u = true → ∃ v, Vals v u ∧ ∀ H L, Reps C H L d v []
  | [], us, h => by
    cases us with
    | nil => exact ⟨[], .nil, fun _ _ => .nil⟩
    | cons _ _ => cases h
  | x :: xs, us, h => by
    cases us with
    | nil => cases h
    | cons u us =>
      have h' : (relD C.K x u && relDs C.K xs us) = true := h
      rw [Bool.and_eq_true] at h'
      obtain ⟨v, r1, r2⟩ := relD_ok x u h'.1
      obtain ⟨vs, r3, r4⟩ := relDs_ok xs us h'.2
      exact ⟨v :: vs, .cons r1 r3, fun H L => .cons (r2 H L) (r4 H L)⟩
end
def globB (K : PySem.W.Frag) (g : Str × D) : Bool := match PySem.W.nsIn K mainGlobals g.1 with
  | some (some u) => relD K g.2 u
  | _ => false
/-- no list of the module is reached -/
def noL (K : PySem.W.Frag) : Bool := K.all fun p => match p.2.cls with
  | .type c => decide (c ≠ "list")
  | _ => true
theorem noL_ok {K : PySem.W.Frag} (h : noL K = true) {a : Addr} {o : Obj} (e : K.lookup a = some o) : o.cls ≠ .type "list" := by
  have hm : (a, o) ∈ K := by
    clear h
    induction K with
    | nil => cases e
    | cons p r ih =>
      obtain ⟨b, ob⟩ := p
      rw [List.lookup_cons] at e
      cases q : a == b with
      | true =>
        rw [q] at e
        cases e
        rw [beq_iff_eq.mp q]
        exact List.mem_cons_self
      | false =>
        rw [q] at e
        exact List.mem_cons_of_mem _ (ih e)
  have := List.all_eq_true.mp h _ hm
  intro hc
  simp only [hc] at this
  simp at this
def exN (P : Prog) (K : PySem.W.Frag) : Bool := noL K && P.globs.all (globB K)
def faOf (P : Prog) : List He.Fa := (P.fns.filterMap fun f => if f.name.cps.isEmpty = true then none else some (.glo f.name)) ++ (P.free.map .free ++ P.cls.flatMap fun c => .glo c.name :: .cls c.name :: .mkr c.name :: ((P.syms.take P.nf).map (.noat c.name) ++ c.meths.map fun m => .meth c.name (P.syms.getD m.1 default)))
abbrev AlN : Type := He.AlD × Bool
def obsN (n : Nat) (P : Prog) (dn : List He.DefD) (g : Addr → Option Obj) : AlN := (He.obsDG n (faOf P) dn g, exN P (He.frG g (He.asD g n)))
def valN (dn : List He.DefD) : AlN := (He.valD dn, true)
def hookN (n : Nat) (P : Prog) (dn : List He.DefD) : PySem.W.Hook where
  α := AlN
  obs := fun s => obsN n P dn s.heap.get?
  val := fun _ => valN dn
  says := fun _ h => ∃ K : PySem.W.Frag, K.In h ∧ He.SaysD (faOf P) dn K ∧ exN P K = true
  of := fun _ _ e => ⟨_, He.frG_in, congrArg Prod.fst e, congrArg Prod.snd e⟩
  keeps := fun _ _ _ ⟨K, hK, c⟩ k => ⟨K, PySem.W.Frag.In.keeps hK k, c⟩
theorem obsN_eq {n : Nat} {P : Prog} {dn : List He.DefD} {g : Addr → Option Obj} {s : Shared} (h : ∀ a, g a = s.heap.get? a) : obsN n P dn g = (hookN n P dn).obs s := by
  have e : g = s.heap.get? := funext h
  rw [e] <;> rfl
/-! ### the tables agree -/
def tabB (P : Prog) (dn : List He.DefD) : Bool :=
  ((P.fns.zip dn).all fun p => p.1.name.cps.isEmpty || (decide (p.2.at_ = (p.1.name, none)) && ((p.1.name == ("__debug__" : Str)) == false))) &&
  (P.cls.all fun c => ((c.name == ("__debug__" : Str)) == false) && (match dn[c.init]? with
    | some d => decide (d.at_ = (c.name, some ("__init__" : Str)))
    | none => true) && c.meths.all fun m => match dn[m.2]?, P.syms[m.1]? with
    | some d, some nm => decide (d.at_ = (c.name, some nm))
    | _, _ => false) &&
  decide (P.syms.Nodup) && (P.syms.all fun s => decide (s.cps.size < 10000)) && decide (dn.length = P.fns.length)
def cxtN (P : Prog) (K : PySem.W.Frag) : Cxt := ⟨K, fun c => match P.cls[c]? with
  | some cl => He.ga K cl.name
  | none => 0, P.cls.length, symF P.syms⟩
def faN (dn : List He.DefD) (K : PySem.W.Frag) (i : Nat) : Addr := match dn[i]? with
  | some d => He.fAd K d.at_
  | none => 0
/-- what is to be shown of each def -/
def DefAll (C : Cxt) (P : Prog) (K : PySem.W.Frag) (FA : Nat → Addr) : Nat → List Fn → Prop
  | _, [] => True
  | i, fn :: r => (∃ fd ps, DefOk C P K (FA i) i fn fd ps) ∧ DefAll C P K FA (i + 1) r
theorem DefAll.at_ {C : Cxt} {P : Prog} {K : PySem.W.Frag} {FA : Nat → Addr} : ∀ {l : List Fn} {j i : Nat} {fn : Fn}, DefAll C P K FA j l → l[i]? = some fn → ∃ fd ps, DefOk C P K (FA (j + i)) (j + i) fn fd ps
  | [], j, i, fn, _, h => by simp at h
  | f :: r, j, 0, fn, h, e => by
    simp at e; subst e
    exact h.1
  | f :: r, j, i + 1, fn, h, e => by
    have := DefAll.at_ h.2 (i := i) (fn := fn) (by simpa using e)
    rw [show j + 1 + i = j + (i + 1) by omega] at this
    exact this
theorem pf_of {P : Prog} {dn : List He.DefD} {w : World} {K : PySem.W.Frag} {mg : Str → Option Value} {h : Heap} (X : K.In h) (G : h.Ns mainGlobals mg) (sy : He.SaysD (faOf P) dn K) (ex : exN P K = true) (tb : tabB P dn = true)
    (da : DefAll (cxtN P K) P K (faN dn K) 0 P.fns) : PF (cxtN P K) P w K mg (faN dn K) := by
  unfold tabB at tb
  simp only [Bool.and_eq_true, decide_eq_true_eq] at tb
  obtain ⟨⟨⟨⟨t1, t2⟩, t3⟩, t4⟩, t5⟩ := tb
  unfold exN at ex
  rw [Bool.and_eq_true] at ex
  have CA : ∀ {c : Nat} {cl : Cls'}, P.cls[c]? = some cl → (cxtN P K).CA c = He.ga K cl.name := fun {c cl} h => by
    show (match P.cls[c]? with
      | some cl => He.ga K cl.name
      | none => 0) = _
    rw [h]
  have inC : ∀ {c : Nat} {cl : Cls'} {f : He.Fa}, P.cls[c]? = some cl → f ∈ (He.Fa.glo cl.name :: .cls cl.name :: .mkr cl.name :: ((P.syms.take P.nf).map (.noat cl.name) ++ cl.meths.map fun m => .meth cl.name (P.syms.getD m.1 default))) → f ∈ faOf P := fun {c cl f} h hf => by
    unfold faOf
    exact List.mem_append_right _ (List.mem_append_right _ (List.mem_flatMap.mpr ⟨cl, List.mem_of_getElem? h, hf⟩))
  have lt : ∀ {c : Nat} {cl : Cls'}, P.cls[c]? = some cl → c < P.cls.length := fun h => (List.getElem?_eq_some_iff.mp h).1
  have ofLt : ∀ {c : Nat}, c < (cxtN P K).nc → ∃ cl, P.cls[c]? = some cl := fun {c} h => ⟨P.cls[c]'h, List.getElem?_eq_getElem h⟩
  refine ⟨rfl, fun i fn h => ?_, fun i fn h hn => ?_, fun c cl h => ?_, fun c cl m f nm h hm hs => ?_, fun k g h => ?_, fun x hx => ?_, fun k nm h => ?_, ?_, fun c hc => ?_, fun f nm h hf c hc => ?_⟩
  · have := DefAll.at_ da h
    rwa [Nat.zero_add] at this
  · have hl := (List.getElem?_eq_some_iff.mp h).1
    obtain ⟨d, hd⟩ : ∃ d, dn[i]? = some d := ⟨dn[i]'(by omega), List.getElem?_eq_getElem (by omega)⟩
    have hz : (P.fns.zip dn)[i]? = some (fn, d) := List.getElem?_zip_eq_some.mpr ⟨h, hd⟩
    have q := List.all_eq_true.mp t1 _ (List.mem_of_getElem? hz)
    simp only [hn, Bool.false_or, Bool.and_eq_true, decide_eq_true_eq] at q
    refine ⟨beqF q.2, ?_⟩
    have hf : He.Fa.glo fn.name ∈ faOf P := by
      unfold faOf
      refine List.mem_append_left _ (List.mem_filterMap.mpr ⟨fn, List.mem_of_getElem? h, ?_⟩)
      rw [if_neg (by rw [hn]; simp)]
    have := He.glo_ok X G (sy.facts hf)
    rw [this]
    show some (Value.ref (He.ga K fn.name)) = some (.ref (match dn[i]? with
      | some d => He.fAd K d.at_
      | none => 0))
    rw [hd]
    show _ = some (Value.ref (He.fAd K d.at_))
    rw [q.1]; rfl
  · have q := List.all_eq_true.mp t2 _ (List.mem_of_getElem? h)
    simp only [Bool.and_eq_true] at q
    refine ⟨beqF q.1.1, lt h, ?_, fun fn h2 => ?_⟩
    · rw [CA h]
      exact He.glo_ok X G (sy.facts (inC h (by simp)))
    · have hl := (List.getElem?_eq_some_iff.mp h2).1
      obtain ⟨d, hd⟩ : ∃ d, dn[cl.init]? = some d := ⟨dn[cl.init]'(by omega), List.getElem?_eq_getElem (by omega)⟩
      have q2 := q.1.2
      rw [hd] at q2
      have q2 : d.at_ = (cl.name, some ("__init__" : Str)) := of_decide_eq_true q2
      have := He.mkr_ok (sy.facts (inC h (f := .mkr cl.name) (by simp)))
      rw [CA h]
      show Mk K (He.ga K cl.name) (match dn[cl.init]? with
      | some d => He.fAd K d.at_
      | none => 0)
      rw [hd]
      show Mk K (He.ga K cl.name) (He.fAd K d.at_)
      rw [q2]
      exact this
  · have q := List.all_eq_true.mp t2 _ (List.mem_of_getElem? h)
    simp only [Bool.and_eq_true] at q
    have q2 := List.all_eq_true.mp q.2 _ hm
    dsimp only at q2
    cases hd : dn[f]? with
    | none => rw [hd] at q2; cases q2
    | some d =>
      rw [hd, hs] at q2
      have q2 : d.at_ = (cl.name, some nm) := of_decide_eq_true q2
      have hg : P.syms.getD m default = nm := by rw [List.getD_eq_getElem?_getD, hs]; rfl
      have := He.meth_ok (sy.facts (inC h (f := .meth cl.name nm) (by
        refine List.mem_cons_of_mem _ (List.mem_cons_of_mem _ (List.mem_cons_of_mem _ (List.mem_append_right _ (List.mem_map.mpr ⟨(m, f), hm, ?_⟩))))
        show He.Fa.meth cl.name (P.syms.getD m default) = _
        rw [hg])))
      rw [CA h]
      show Meth K (He.ga K cl.name) nm (match dn[f]? with
      | some d => He.fAd K d.at_
      | none => 0)
      rw [hd]
      show Meth K (He.ga K cl.name) nm (He.fAd K d.at_)
      rw [q2]
      exact this
  · have q := List.all_eq_true.mp ex.2 _ (List.mem_of_getElem? h)
    unfold globB at q
    cases e : PySem.W.nsIn K mainGlobals g.1 with
    | none => rw [e] at q; cases q
    | some o =>
      rw [e] at q
      cases o with
      | none => cases q
      | some u =>
        obtain ⟨v, r1, r2⟩ := relD_ok (C := cxtN P K) g.2 u q
        exact ⟨v, u, PySem.W.mg_of X G e, r1, r2⟩
  · refine He.free_ok X G (sy.facts ?_)
    unfold faOf
    exact List.mem_append_right _ (List.mem_append_left _ (List.mem_map.mpr ⟨x, hx, rfl⟩))
  · show symF P.syms k = nm
    unfold symF
    rw [h]
  · exact symF_inj t3 fun s hs => by
      have := List.all_eq_true.mp t4 s hs
      exact of_decide_eq_true this
  · obtain ⟨cl, h⟩ := ofLt hc
    rw [CA h]
    exact He.cls_ok (sy.facts (inC h (by simp)))
  · obtain ⟨cl, hcl⟩ := ofLt hc
    rw [CA hcl]
    refine He.noat_ok (sy.facts (inC hcl (f := .noat cl.name nm) ?_))
    refine List.mem_cons_of_mem _ (List.mem_cons_of_mem _ (List.mem_cons_of_mem _ (List.mem_append_left _ (List.mem_map.mpr ⟨nm, ?_, rfl⟩))))
    have : (P.syms.take P.nf)[f]? = some nm := by rw [List.getElem?_take_of_lt hf]; exact h
    exact List.mem_of_getElem? this
theorem kw_none {C : Cxt} {P : Prog} {K : PySem.W.Frag} {i : Nat} {fd : FuncData} {ps : List Str} (h : (P.kws.all fun q => decide (initOf P q.1 ≠ some i)) = true) : ∀ q ∈ P.kws, initOf P q.1 = some i → KwOk C K fd ps q.2.1 q.2.2.1 q.2.2.2 := fun q hq e =>
  absurd e (of_decide_eq_true (List.all_eq_true.mp h q hq))
/-- every parameter is given, the last ones by keywords -/
theorem kw_full {C : Cxt} {K : PySem.W.Frag} {x qual : Str} {params : Arguments} {body : List Stmt} {scope : Scope} {kws : List (Str × V)} {f : Addr} {fd : FuncData} {ps ks : List Str} {np : Nat} {ds : List (Nat ⊕ D)} (F : FunD K x qual params body scope [] kws f fd)
    (hd : ∀ ys : List D, ys.length = ks.length → kwD ds ys = ys)
    (h : ∀ (kV doc pm : Value) (an : Option Addr) (cdv ct : Value) (us ws : List Value), us.length = np + 1 → ws.length = ks.length → bindArgs (PySem.W.fnOf x qual params body scope .none kV doc pm an cdv ct) ⟨us, ks.zip ws⟩ = pure (ps.zip (us ++ ws))) : KwOk C K fd ps np ks ds := by
  obtain ⟨oc, od, dV, kV, doc, pm, an, cdv, ct, osl, rfl, lk, hcd, hD, hK⟩ := F.ex
  rcases hD with ⟨_, rfl⟩ | ⟨e, _⟩
  · refine ⟨fun vs zs => vs ++ zs, fun us ws => us ++ ws, ⟨fun s us ws _ h1 h2 => .of_eq (h kV doc pm an cdv ct us ws h1 h2), fun r1 r2 => vals_app r1 r2⟩, fun H L xs ys vs zs h1 h2 r1 r2 v => ⟨vs ++ zs, rfl, ?_⟩⟩
    rw [hd ys h2]
    have := r1.append r2
    rwa [List.append_nil] at this
  · exact absurd rfl e
/-- keyword-only parameters that all lack -/
theorem kw_miss {C : Cxt} {K : PySem.W.Frag} {x qual : Str} {params : Arguments} {body : List Stmt} {scope : Scope} {kws : List (Str × V)} {f : Addr} {fd : FuncData} {ps : List Str} {np : Nat} {ds : List (Nat ⊕ D)} (ms : List (Str × V)) (dms : List D) (F : FunD K x qual params body scope [] kws f fd)
    (hk : kws ≠ []) (hms : ∀ q ∈ ms, q ∈ kws) (hr : ∀ H L, Reps C H L dms (ms.map (·.2)) []) (hd : kwD ds [] = dms)
    (h : ∀ (D : Addr) (doc pm : Value) (an : Option Addr) (cdv ct : Value) (us mv : List Value), us.length = np + 1 → mv.length = ms.length →
      KwChain D ((ms.map (·.1)).zip mv) (bindArgs (PySem.W.fnOf x qual params body scope .none (.ref D) doc pm an cdv ct) ⟨us, []⟩) (ps.zip (us ++ mv))) : KwOk C K fd ps np [] ds := by
  obtain ⟨mv, kb⟩ := F.kbinds0 (np + 1) [] ms (fun us mv _ => us ++ mv) hk hms (fun r1 r2 _ => vals_app r1 r2) (fun D doc pm an cdv ct us mv ws l1 l2 l3 => by
    cases ws with
    | nil => exact h D doc pm an cdv ct us mv l1 l2
    | cons _ _ => cases l3)
  refine ⟨_, _, kb, fun H L xs ys vs zs h1 h2 r1 r2 v => ⟨vs ++ ms.map (·.2), rfl, ?_⟩⟩
  cases ys with
  | cons _ _ => cases h2
  | nil =>
    rw [hd]
    have := r1.append (hr H L)
    rwa [List.append_nil] at this
/-! ### the law -/
/-- the law's evaluator at a script -/
def lawRun (P : Prog) (d i : Nat) (ns : List Int) : Rs D := (sm P d).call i [.ref 0] [.frz (ns.map .int)]
theorem reps_ints {C : Cxt} {H : Hp} {L : List Addr} : ∀ ns : List Int, Reps C H L (ns.map D.int) (ns.map V.int) []
  | [] => .nil
  | n :: r => .cons (.int n) (reps_ints r)
theorem law_sp {P : Prog} {K : PySem.W.Frag} {d i : Nat} {ns : List Int} {H : Hp} {a : Addr} (hn : noL K = true) (hO : Only H) (hS : SqL K H a (ns.map V.int)) (h : ∃ S, lawRun P d i ns = .ok (.bl true) S) :
    spF (cxtN P K) R0 1 ((sm P d).call i) [.ref a] H (fun v _ => v = .bl true) fun _ _ _ => False := by
  have hf : ∃ ob, H a = some (.frz ob (.lst (ns.map V.int))) := by
    rcases hS with (h | ⟨o, h⟩) | ⟨o, its, n, h, hc, _⟩
    · rcases hO a with q | ⟨o, xs, q⟩
      · rw [h] at q; cases q
      · rw [h] at q; cases q
    · exact ⟨o, h⟩
    · exact absurd hc (noL_ok hn h)
  obtain ⟨ob, hf⟩ := hf
  refine ⟨rfl, [a], [.frz (ns.map .int)], [.ref 0], ⟨rfl, by simp, fun n o b h1 h2 => ?_⟩, .cons (.ref rfl) .nil, ?_⟩
  · cases n with
    | zero =>
      simp at h1 h2
      subst h1; subst h2
      exact ⟨ob, _, hf, reps_ints ns⟩
    | succ n => simp at h1
  · obtain ⟨S, e⟩ := h
    have e : (sm P d).call i [.ref 0] [.frz (ns.map .int)] = .ok (.bl true) S := e
    rw [e]
    intro v H' L' F p
    exact p.rep.bl_inv.1
end Nv
/-! Nv: reckoning with the evaluator. -/
namespace Nv
open PySem PySem.Spec PyProof.Rows L2
/-- the result is one, and Q holds of it -/
def wp {α : Type} (r : Rs α) (Q : α → Store → Prop) : Prop := match r with
  | .ok a S => Q a S
  | _ => False
section
variable {α β : Type} {a : α} {S : Store} {Q Q' : α → Store → Prop}
theorem wp_ok : wp (.ok a S) Q = Q a S := rfl
theorem wp_bind {r : Rs α} {f : α → Store → Rs β} {Q : β → Store → Prop} : wp (r.bind f) Q = wp r (fun a S => wp (f a S) Q) := by cases r <;> rfl
theorem wp_stuck : wp (.stuck : Rs α) Q = False := rfl
def optQ (o : Option α) (Q : α → Prop) : Prop := match o with
  | some a => Q a
  | none => False
theorem optQ_some {a : α} {Q : α → Prop} : optQ (some a) Q = Q a := rfl
theorem wp_of {o : Option α} : wp (Rs.of o S) Q = optQ o fun a => Q a S := by cases o <;> rfl
theorem wp_noex {r : Rs α} : wp r.noex Q = wp r Q := by cases r <;> rfl
theorem wp_mono {r : Rs α} (h : wp r Q) (hq : ∀ a S, Q a S → Q' a S) : wp r Q' := by
  cases r with
  | ok a S => exact hq a S h
  | ex x S => exact h
  | stuck => exact h
theorem wp_if {c : Prop} [Decidable c] {x y : Rs α} : wp (if c then x else y) Q = if c then wp x Q else wp y Q := by by_cases h : c <;> simp [h]
theorem wp_ex {r : Rs α} (h : wp r Q) : ∃ a S, r = .ok a S ∧ Q a S := by
  cases r with
  | ok a S => exact ⟨a, S, rfl, h⟩
  | ex x S => exact h.elim
  | stuck => exact h.elim
end
section
variable {P : Prog} {M : Sm} {ρ : AEnv} {S : Store}
/-! ### statements -/
theorem wp_nil {Q : Fl × AEnv → Store → Prop} (h : Q (.nx, ρ) S) : wp (evalSs P M [] ρ S) Q := h
theorem wp_cons {s : Nv.St} {r : List Nv.St} {Q : Fl × AEnv → Store → Prop} (h : wp (evalS P M s ρ S) fun q S1 => match q.1 with
    | .nx => wp (evalSs P M r q.2 S1) Q
    | .rt d => Q (.rt d, q.2) S1
    | .bk => Q (.bk, q.2) S1
    | .ct => Q (.ct, q.2) S1) : wp (evalSs P M (s :: r) ρ S) Q := by
  show wp ((evalS P M s ρ S).bind fun q S1 => match q.1 with
    | .nx => evalSs P M r q.2 S1
    | _ => .ok q S1) Q
  rw [wp_bind]
  refine wp_mono h fun q S1 z => ?_
  obtain ⟨fl, ρ1⟩ := q
  cases fl <;> exact z
/-- a test -/
def tstD (d : D) (S : Store) (Q : Bool → Prop) : Prop := optQ (truD d S) Q
theorem wp_S_ite {c : E} {a b : List Nv.St} {Q : Fl × AEnv → Store → Prop} (h : wp (evalE P M c ρ S) fun d S1 => tstD d S1 fun k => (k = true → wp (evalSs P M a ρ S1) Q) ∧ (k = false → wp (evalSs P M b ρ S1) Q)) : wp (evalS P M (.ite c a b) ρ S) Q := by
  show wp ((evalE P M c ρ S).bind fun x S1 => match truD x S1 with
    | some true => evalSs P M a ρ S1
    | some false => evalSs P M b ρ S1
    | none => .stuck) Q
  rw [wp_bind]
  refine wp_mono h fun d S1 z => ?_
  unfold tstD optQ at z
  cases hk : truD d S1 with
  | none => rw [hk] at z; exact z.elim
  | some k =>
    rw [hk] at z
    cases k with
    | true => exact z.1 rfl
    | false => exact z.2 rfl
theorem wp_S_set {i : Nat} {e : E} {Q : Fl × AEnv → Store → Prop} (h : wp (evalE P M e ρ S) fun d S1 => Q (.nx, ρ.set i (some (mat d S1).1)) (mat d S1).2) : wp (evalS P M (.set i e) ρ S) Q := by
  show wp ((evalE P M e ρ S).bind fun x S1 => (storeD i x ρ S1).bind fun ρ1 S2 => .ok (.nx, ρ1) S2) Q
  rw [wp_bind]
  exact wp_mono h fun d S1 z => z
theorem wp_S_expr {e : E} {Q : Fl × AEnv → Store → Prop} (h : wp (evalE P M e ρ S) fun _ S1 => Q (.nx, ρ) S1) : wp (evalS P M (.expr e) ρ S) Q := by
  show wp ((evalE P M e ρ S).bind fun _ S1 => .ok (.nx, ρ) S1) Q
  rw [wp_bind]
  exact h
theorem wp_S_ret {e : E} {Q : Fl × AEnv → Store → Prop} (h : wp (evalE P M e ρ S) fun d S1 => Q (.rt d, ρ) S1) : wp (evalS P M (.ret e) ρ S) Q := by
  show wp ((evalE P M e ρ S).bind fun x S1 => .ok (.rt x, ρ) S1) Q
  rw [wp_bind]
  exact h
theorem wp_S_retN {Q : Fl × AEnv → Store → Prop} (h : Q (.rt .non, ρ) S) : wp (evalS P M .retN ρ S) Q := h
theorem wp_S_unp {g : Nv.G} {e : E} {Q : Fl × AEnv → Store → Prop} (h : wp (evalE P M e ρ S) fun d S1 => wp (evalG g d ρ S1) fun ρ1 S2 => Q (.nx, ρ1) S2) : wp (evalS P M (.unp g e) ρ S) Q := by
  show wp ((evalE P M e ρ S).bind fun x S1 => (evalG g x ρ S1).bind fun ρ1 S2 => .ok (.nx, ρ1) S2) Q
  simp only [wp_bind]
  exact h
theorem wp_S_par {is : List Nat} {es : List E} {Q : Fl × AEnv → Store → Prop} (h : wp (evalEs P M es ρ S) fun xs S1 => Q (.nx, parD is (mats xs S1).1 ρ) (mats xs S1).2) : wp (evalS P M (.par is es) ρ S) Q := by
  show wp ((evalEs P M es ρ S).bind fun xs S1 => .ok (.nx, parD is (mats xs S1).1 ρ) (mats xs S1).2) Q
  rw [wp_bind]
  exact h
theorem wp_S_attr {o : E} {f : Nat} {e : E} {Q : Fl × AEnv → Store → Prop} (h : wp (evalE P M e ρ S) fun y S1 => wp (evalE P M o ρ S1) fun x S2 => optQ (setAttr x f (mat y S2).1 (mat y S2).2) fun S3 => Q (.nx, ρ) S3) : wp (evalS P M (.attr o f e) ρ S) Q := by
  show wp ((evalE P M e ρ S).bind fun y S1 => (evalE P M o ρ S1).bind fun x S2 => (Rs.of (setAttr x f (mat y S2).1 (mat y S2).2) S2).bind fun S3 _ => .ok (.nx, ρ) S3) Q
  simp only [wp_bind, wp_of, wp_ok]
  exact h
theorem wp_S_sub {o i : E} {e : E} {Q : Fl × AEnv → Store → Prop} (h : wp (evalE P M e ρ S) fun y S1 => wp (evalE P M o ρ S1) fun x S2 => wp (evalE P M i ρ S2) fun k S3 => optQ (setSub x k (mat y S3).1 (mat y S3).2) fun S4 => Q (.nx, ρ) S4) : wp (evalS P M (.sub o i e) ρ S) Q := by
  show wp ((evalE P M e ρ S).bind fun y S1 => (evalE P M o ρ S1).bind fun x S2 => (evalE P M i ρ S2).bind fun k S3 => (Rs.of (setSub x k (mat y S3).1 (mat y S3).2) S3).bind fun S4 _ => .ok (.nx, ρ) S4) Q
  simp only [wp_bind, wp_of, wp_ok]
  exact h
theorem wp_S_for {g : Nv.G} {it : Nv.It} {b : List Nv.St} {gc : Option (List Nat)} {Q : Fl × AEnv → Store → Prop} (h : wp (evalIt P M it ρ S) fun r S1 => wp (forF r.2 gc (evalG g) (evalSs P M b) r.1 ρ S1) Q) : wp (evalS P M (.forr g it b gc) ρ S) Q := by
  show wp ((evalIt P M it ρ S).bind fun r S1 => forF r.2 gc (evalG g) (evalSs P M b) r.1 ρ S1) Q
  rw [wp_bind]
  exact h
theorem wp_S_wh {c : E} {b : List Nv.St} {Q : Fl × AEnv → Store → Prop} (h : wp (whF (truF (evalE P M c)) (evalSs P M b) WF ρ S) Q) : wp (evalS P M (.wh c b) ρ S) Q := h
/-! ### loops -/
theorem wp_forF {gu : List (Nat × List D)} {gc : Option (List Nat)} {asg : D → AEnv → Store → Rs AEnv} {body : AEnv → Store → Rs (Fl × AEnv)} {items : List D} {Q : Fl × AEnv → Store → Prop} (I : Nat → AEnv → Store → Prop) (h0 : I 0 ρ S)
    (hg : ∀ i ρ S, I i ρ S → guardOk gu S = true)
    (step : ∀ i d ρ S, items[i]? = some d → I i ρ S → wp (asg d ρ S) fun ρ1 S1 => wp (body ρ1 S1) fun r S2 => match r.1 with
      | .nx => wp (turnEnd gc S r.2 S2) (I (i + 1))
      | .ct => wp (turnEnd gc S r.2 S2) (I (i + 1))
      | .bk => Q (.nx, r.2) S2
      | .rt d => Q (.rt d, r.2) S2)
    (fin : ∀ ρ S, I items.length ρ S → Q (.nx, ρ) S) : wp (forF gu gc asg body items ρ S) Q := by
  suffices h : ∀ (k : Nat) (ρ : AEnv) (S : Store), I k ρ S → k ≤ items.length → wp (forF gu gc asg body (items.drop k) ρ S) Q by
    have := h 0 ρ S h0 (Nat.zero_le _)
    rwa [List.drop_zero] at this
  intro k
  generalize hm : items.length - k = m
  induction m generalizing k with
  | zero =>
    intro ρ S hI hk
    have : k = items.length := by omega
    subst this
    rw [List.drop_length]
    show wp (if guardOk gu S = true then Rs.ok (.nx, ρ) S else .stuck) Q
    rw [if_pos (hg _ _ _ hI)]
    exact fin _ _ hI
  | succ m ih =>
    intro ρ S hI hk
    have hlt : k < items.length := by omega
    rw [List.drop_eq_getElem_cons hlt]
    show wp (if guardOk gu S = true then (asg items[k] ρ S).bind fun ρ1 S1 => (body ρ1 S1).bind fun r S2 => match r.1 with
      | .nx => (turnEnd gc S r.2 S2).bind fun ρ3 S3 => forF gu gc asg body (items.drop (k + 1)) ρ3 S3
      | .ct => (turnEnd gc S r.2 S2).bind fun ρ3 S3 => forF gu gc asg body (items.drop (k + 1)) ρ3 S3
      | .bk => .ok (.nx, r.2) S2
      | .rt d => .ok (.rt d, r.2) S2
    else .stuck) Q
    rw [if_pos (hg _ _ _ hI), wp_bind]
    refine wp_mono (step k items[k] ρ S (List.getElem?_eq_getElem hlt) hI) fun ρ1 S1 z => ?_
    rw [wp_bind]
    refine wp_mono z fun r S2 z => ?_
    obtain ⟨fl, ρ2⟩ := r
    cases fl with
    | nx =>
      show wp ((turnEnd gc S ρ2 S2).bind fun ρ3 S3 => forF gu gc asg body (items.drop (k + 1)) ρ3 S3) Q
      rw [wp_bind]
      exact wp_mono z fun ρ3 S3 z => ih (k + 1) (by omega) ρ3 S3 z (by omega)
    | ct =>
      show wp ((turnEnd gc S ρ2 S2).bind fun ρ3 S3 => forF gu gc asg body (items.drop (k + 1)) ρ3 S3) Q
      rw [wp_bind]
      exact wp_mono z fun ρ3 S3 z => ih (k + 1) (by omega) ρ3 S3 z (by omega)
    | bk => exact z
    | rt d => exact z
theorem wp_whF {c : AEnv → Store → Rs Bool} {body : AEnv → Store → Rs (Fl × AEnv)} {Q : Fl × AEnv → Store → Prop} (I : Nat → AEnv → Store → Prop)
    (step : ∀ k ρ S, I k ρ S → wp (c ρ S) fun b S1 => (b = true → wp (body ρ S1) fun r S2 => match r.1 with
      | .nx => ∃ j, j < k ∧ I j r.2 S2
      | .ct => ∃ j, j < k ∧ I j r.2 S2
      | .bk => Q (.nx, r.2) S2
      | .rt d => Q (.rt d, r.2) S2) ∧ (b = false → Q (.nx, ρ) S1)) : ∀ (n k : Nat) {ρ : AEnv} {S : Store}, I k ρ S → k < n → wp (whF c body n ρ S) Q
  | 0, k, ρ, S, _, h => by omega
  | n + 1, k, ρ, S, hI, hk => by
    show wp ((c ρ S).bind fun b S1 => match b with
      | true => (body ρ S1).bind fun r S2 => match r.1 with
        | .nx => whF c body n r.2 S2
        | .ct => whF c body n r.2 S2
        | .bk => .ok (.nx, r.2) S2
        | .rt d => .ok (.rt d, r.2) S2
      | false => .ok (.nx, ρ) S1) Q
    rw [wp_bind]
    refine wp_mono (step k ρ S hI) fun b S1 z => ?_
    cases b with
    | false => exact z.2 rfl
    | true =>
      show wp ((body ρ S1).bind fun r S2 => match r.1 with
        | .nx => whF c body n r.2 S2
        | .ct => whF c body n r.2 S2
        | .bk => .ok (.nx, r.2) S2
        | .rt d => .ok (.rt d, r.2) S2) Q
      rw [wp_bind]
      refine wp_mono (z.1 rfl) fun r S2 z => ?_
      obtain ⟨fl, ρ2⟩ := r
      cases fl with
      | nx => obtain ⟨j, hj, z⟩ := z; exact wp_whF I step n j z (by omega)
      | ct => obtain ⟨j, hj, z⟩ := z; exact wp_whF I step n j z (by omega)
      | bk => exact z
      | rt d => exact z
theorem wp_compF {gu : List (Nat × List D)} {asg : D → AEnv → Store → Rs AEnv} {tst : AEnv → Store → Rs Bool} {elt : AEnv → Store → Rs D} {items : List D} {Q : List D → Store → Prop} (I : Nat → List D → Store → Prop) (h0 : I 0 [] S)
    (hg : ∀ i ys S, I i ys S → guardOk gu S = true)
    (step : ∀ i d ys S, items[i]? = some d → I i ys S → wp (asg d ρ S) fun ρ1 S1 => wp (tst ρ1 S1) fun b S2 => (b = true → wp (elt ρ1 S2) fun y S3 => I (i + 1) (ys ++ [y]) S3) ∧ (b = false → I (i + 1) ys S2))
    (fin : ∀ ys S, I items.length ys S → Q ys S) : wp (compF gu asg tst elt ρ items S) Q := by
  suffices h : ∀ (k : Nat) (ys : List D) (S : Store), I k ys S → k ≤ items.length → wp (compF gu asg tst elt ρ (items.drop k) S) fun zs S' => Q (ys ++ zs) S' by
    have := h 0 [] S h0 (Nat.zero_le _)
    rw [List.drop_zero] at this
    exact wp_mono this fun zs S' z => by rwa [List.nil_append] at z
  intro k
  generalize hm : items.length - k = m
  induction m generalizing k with
  | zero =>
    intro ys S hI hk
    have : k = items.length := by omega
    subst this
    rw [List.drop_length]
    show wp (if guardOk gu S = true then Rs.ok [] S else .stuck) _
    rw [if_pos (hg _ _ _ hI)]
    show Q (ys ++ []) S
    rw [List.append_nil]
    exact fin _ _ hI
  | succ m ih =>
    intro ys S hI hk
    have hlt : k < items.length := by omega
    rw [List.drop_eq_getElem_cons hlt]
    show wp (if guardOk gu S = true then (asg items[k] ρ S).bind fun ρ1 S1 => (tst ρ1 S1).bind fun b S2 => match b with
      | true => (elt ρ1 S2).bind fun y S3 => (compF gu asg tst elt ρ (items.drop (k + 1)) S3).bind fun ys S4 => .ok (y :: ys) S4
      | false => compF gu asg tst elt ρ (items.drop (k + 1)) S2
    else .stuck) _
    rw [if_pos (hg _ _ _ hI), wp_bind]
    refine wp_mono (step k items[k] ys S (List.getElem?_eq_getElem hlt) hI) fun ρ1 S1 z => ?_
    rw [wp_bind]
    refine wp_mono z fun b S2 z => ?_
    cases b with
    | false => exact ih (k + 1) (by omega) ys S2 (z.2 rfl) (by omega)
    | true =>
      show wp ((elt ρ1 S2).bind fun y S3 => (compF gu asg tst elt ρ (items.drop (k + 1)) S3).bind fun ys S4 => .ok (y :: ys) S4) _
      rw [wp_bind]
      refine wp_mono (z.1 rfl) fun y S3 z => ?_
      rw [wp_bind]
      refine wp_mono (ih (k + 1) (by omega) (ys ++ [y]) S3 z (by omega)) fun zs S4 z => ?_
      show Q (ys ++ y :: zs) S4
      rwa [List.append_assoc] at z
/-! ### calls -/
/-- what a def does, its end -/
def retQ (gc : Bool) (S0 : Store) (Q : D → Store → Prop) (q : Fl × AEnv) (S' : Store) : Prop := match q.1 with
  | .nx => wp (finF gc S0 .non S') Q
  | .rt d => wp (finF gc S0 d S') Q
  | _ => False
theorem wp_call {d i : Nat} {fn : Nv.Fn} {args : List D} {Q : D → Store → Prop} (h : P.fns[i]? = some fn) (hl : args.length = fn.ps) (hs : fn.ps ≤ fn.slots)
    (hb : wp (evalSs P (sm P d) fn.body (args.map some ++ List.replicate (fn.slots - fn.ps) none) S) (retQ fn.gc S Q)) : wp ((sm P (d + 1)).call i args S) Q := by
  show wp (runF P (sm P d) i args S) Q
  unfold runF
  rw [h]
  show wp (if args.length = fn.ps ∧ fn.ps ≤ fn.slots then
      (evalSs P (sm P d) fn.body (args.map some ++ List.replicate (fn.slots - fn.ps) none) S).bind fun q S' => match q.1 with
        | .nx => finF fn.gc S .non S'
        | .rt d => finF fn.gc S d S'
        | _ => .stuck
    else .stuck) Q
  rw [if_pos ⟨hl, hs⟩, wp_bind]
  refine wp_mono hb fun q S' z => ?_
  obtain ⟨fl, ρ⟩ := q
  cases fl <;> exact z
theorem wp_init {d i : Nat} {args : List D} {Q : D → Store → Prop} (h : wp ((sm P d).call i args S) Q) : wp ((sm P (d + 1)).init i args S) Q := h
theorem wp_fin {d : D} {S0 : Store} {Q : D → Store → Prop} (h : Q d S) : wp (finF false S0 d S) Q := h
theorem ret_q {d : D} {S0 : Store} {Q : D → Store → Prop} (h : Q d S) : retQ false S0 Q (.rt d, ρ) S := h
theorem ret_n {S0 : Store} {Q : D → Store → Prop} (h : Q .non S) : retQ false S0 Q (.nx, ρ) S := h
theorem wp_turn0 {S' : Store} {Q : AEnv → Store → Prop} (h : Q ρ S') : wp (turnEnd none S ρ S') Q := h
theorem wp_turn1 {ks : List Nat} {S0 S' T : Store} {Q : AEnv → Store → Prop} (hl : lowE S0.length (wipeD ρ ks) = true) (ht : trunc S0 S' = some T) (h : Q (wipeD ρ ks) T) : wp (turnEnd (some ks) S0 ρ S') Q := by
  show wp (if lowE S0.length (wipeD ρ ks) = true then (match trunc S0 S' with
      | some T => Rs.ok (wipeD ρ ks) T
      | none => .stuck) else .stuck) Q
  rw [if_pos hl, ht]
  exact h
/-- the cells that stood are as they were -/
theorem trunc_app {S0 N : Store} : trunc S0 (S0 ++ N) = some S0 := by
  have h : ∀ (n : Nat) (A B : Store), truncOk n A (A ++ B) = true := fun n A B => by
    induction A with
    | nil => rfl
    | cons a r ih => show ((sameO a a || lowO n a) && truncOk n r (r ++ B)) = true; rw [sameO_refl, ih]; rfl
  unfold trunc
  rw [if_pos (h _ _ _), List.take_left]
/-! ### made objects that are none -/
theorem mat_int {i : Int} : mat (.int i) S = (.int i, S) := rfl
theorem mat_bl {i : Bool} : mat (.bl i) S = (.bl i, S) := rfl
theorem mat_str {i : Str} : mat (.str i) S = (.str i, S) := rfl
theorem mat_non : mat .non S = (.non, S) := rfl
theorem mat_ref {i : Nat} : mat (.ref i) S = (.ref i, S) := rfl
theorem mats_nil : mats [] S = ([], S) := rfl
theorem mats_cons {x : D} {xs : List D} : mats (x :: xs) S = ((mat x S).1 :: (mats xs (mat x S).2).1, (mats xs (mat x S).2).2) := rfl
theorem mat_tup {xs : List D} : mat (.tup xs) S = (.tup (mats xs S).1, (mats xs S).2) := rfl
theorem mat_lst {xs : List D} : mat (.new (.lst xs)) S = (.ref (mats xs S).2.length, (mats xs S).2 ++ [.lst (mats xs S).1]) := rfl
/-! ### tests -/
theorem tst_bl {b : Bool} {Q : Bool → Prop} : tstD (.bl b) S Q = Q b := rfl
theorem tst_non {Q : Bool → Prop} : tstD .non S Q = Q false := rfl
theorem tst_int {i : Int} {Q : Bool → Prop} : tstD (.int i) S Q = Q (i != 0) := rfl
end
end Nv
/-! Nv: reckoning with expressions. -/
namespace Nv
open PySem PySem.Spec PyProof.Rows L2
section
variable {P : Prog} {M : Sm} {ρ : AEnv} {S : Store} {Q : D → Store → Prop} {QL : List D → Store → Prop}
theorem optQ_if {α : Type} {c : Prop} [Decidable c] {a : α} {Q : α → Prop} : optQ (if c then some a else none) Q = (c ∧ Q a) := by
  by_cases h : c <;> simp [h, optQ]
theorem optQ_map {α β : Type} {o : Option α} {f : α → β} {Q : β → Prop} : optQ (o.map f) Q = optQ o fun a => Q (f a) := by cases o <;> rfl
theorem optQ_bind {α β : Type} {o : Option α} {f : α → Option β} {Q : β → Prop} : optQ (o.bind f) Q = optQ o fun a => optQ (f a) Q := by cases o <;> rfl
theorem we_var {i : Nat} : wp (evalE P M (.var i) ρ S) Q = optQ ρ[i]? fun o => optQ o fun d => Q d S := by
  show wp (match ρ[i]? with
    | some (some d) => .ok d S
    | _ => .stuck) Q = _
  cases ρ[i]? with
  | none => rfl
  | some o => cases o <;> rfl
theorem we_non : wp (evalE P M .non ρ S) Q = Q .non S := rfl
theorem we_bl {b : Bool} : wp (evalE P M (.bl b) ρ S) Q = Q (.bl b) S := rfl
theorem we_int {i : Int} : wp (evalE P M (.int i) ρ S) Q = Q (.int i) S := rfl
theorem we_str {s : Str} : wp (evalE P M (.str s) ρ S) Q = Q (.str s) S := rfl
theorem we_glb {k : Nat} : wp (evalE P M (.glb k) ρ S) Q = optQ P.globs[k]? fun g => Q g.2 S := by
  show wp (match P.globs[k]? with
    | some g => .ok g.2 S
    | none => .stuck) Q = _
  cases P.globs[k]? <;> rfl
theorem ws_nil : wp (evalEs P M [] ρ S) QL = QL [] S := rfl
theorem ws_cons {e : E} {es : List E} : wp (evalEs P M (e :: es) ρ S) QL = wp (evalE P M e ρ S) fun x S1 => wp (evalEs P M es ρ S1) fun xs S2 => QL (x :: xs) S2 := by
  show wp ((evalE P M e ρ S).bind fun x S1 => (evalEs P M es ρ S1).bind fun xs S2 => .ok (x :: xs) S2) QL = _
  simp only [wp_bind, wp_ok]
theorem we_tup {es : List E} : wp (evalE P M (.tup es) ρ S) Q = wp (evalEs P M es ρ S) fun xs S1 => xs.length ≤ sizeLine ∧ Q (.tup xs) S1 := by
  show wp ((evalEs P M es ρ S).bind fun xs S1 => if xs.length ≤ sizeLine then .ok (.tup xs) S1 else .stuck) Q = _
  rw [wp_bind]
  congr 1; funext xs S1
  by_cases h : xs.length ≤ sizeLine <;> simp [h, wp]
theorem we_lst {es : List E} : wp (evalE P M (.lst es) ρ S) Q = wp (evalEs P M es ρ S) fun xs S1 => xs.length ≤ sizeLine ∧ Q (.new (.lst xs)) S1 := by
  show wp ((evalEs P M es ρ S).bind fun xs S1 => if xs.length ≤ sizeLine then .ok (.new (.lst xs)) S1 else .stuck) Q = _
  rw [wp_bind]
  congr 1; funext xs S1
  by_cases h : xs.length ≤ sizeLine <;> simp [h, wp]
theorem we_bin {o : Bop} {a b : E} : wp (evalE P M (.bin o a b) ρ S) Q = wp (evalE P M a ρ S) fun x S1 => wp (evalE P M b ρ S1) fun y S2 => optQ (binD o x y S2) fun d => Q d S2 := by
  show wp ((evalE P M a ρ S).bind fun x S1 => (evalE P M b ρ S1).bind fun y S2 => Rs.of (binD o x y S2) S2) Q = _
  simp only [wp_bind, wp_of]
def negD : D → Option D
  | .int i => some (.int (-i))
  | _ => none
theorem we_neg {a : E} : wp (evalE P M (.neg a) ρ S) Q = wp (evalE P M a ρ S) fun x S1 => optQ (negD x) fun d => Q d S1 := by
  show wp ((evalE P M a ρ S).bind fun x S1 => match x with
    | .int i => .ok (.int (-i)) S1
    | _ => .stuck) Q = _
  rw [wp_bind]
  congr 1; funext x S1
  cases x <;> rfl
theorem we_cmp {o : Cop} {a b : E} : wp (evalE P M (.cmp o a b) ρ S) Q = wp (evalE P M a ρ S) fun x S1 => wp (evalE P M b ρ S1) fun y S2 => optQ (cmpD o x y S2) fun k => Q (.bl k) S2 := by
  show wp ((evalE P M a ρ S).bind fun x S1 => (evalE P M b ρ S1).bind fun y S2 => Rs.of ((cmpD o x y S2).map .bl) S2) Q = _
  simp only [wp_bind, wp_of, optQ_map]
theorem we_chain {o p : Cop} {a b c : E} : wp (evalE P M (.chain o p a b c) ρ S) Q = wp (evalE P M a ρ S) fun x S1 => wp (evalE P M b ρ S1) fun y S2 => optQ (cmpD o x y S2) fun k =>
    (k = true → wp (evalE P M c ρ S2) fun z S3 => optQ (cmpD p y z S3) fun k => Q (.bl k) S3) ∧ (k = false → Q (.bl false) S2) := by
  show wp ((evalE P M a ρ S).bind fun x S1 => (evalE P M b ρ S1).bind fun y S2 => match cmpD o x y S2 with
    | some true => (evalE P M c ρ S2).bind fun z S3 => Rs.of ((cmpD p y z S3).map .bl) S3
    | some false => .ok (.bl false) S2
    | none => .stuck) Q = _
  simp only [wp_bind]
  congr 1; funext x S1; congr 1; funext y S2
  cases cmpD o x y S2 with
  | none => rfl
  | some k =>
    cases k with
    | true =>
      rw [optQ_some]
      simp only [wp_bind, wp_of, optQ_map, true_implies, reduceCtorEq, false_implies, and_true]
    | false => simp [optQ, wp]
theorem we_and1 {e : E} : wp (evalE P M (.and [e]) ρ S) Q = wp (evalE P M e ρ S) Q := rfl
theorem we_or1 {e : E} : wp (evalE P M (.or [e]) ρ S) Q = wp (evalE P M e ρ S) Q := rfl
theorem we_and {e e2 : E} {es : List E} : wp (evalE P M (.and (e :: e2 :: es)) ρ S) Q = wp (evalE P M e ρ S) fun x S1 => tstD x S1 fun k => (k = true → wp (evalE P M (.and (e2 :: es)) ρ S1) Q) ∧ (k = false → Q x S1) := by
  show wp ((evalE P M e ρ S).bind fun x S1 => match truD x S1 with
    | some true => evalE P M (.and (e2 :: es)) ρ S1
    | some false => .ok x S1
    | none => .stuck) Q = _
  rw [wp_bind]
  congr 1; funext x S1
  unfold tstD
  cases truD x S1 with
  | none => rfl
  | some k => cases k <;> simp [optQ, wp]
theorem we_or {e e2 : E} {es : List E} : wp (evalE P M (.or (e :: e2 :: es)) ρ S) Q = wp (evalE P M e ρ S) fun x S1 => tstD x S1 fun k => (k = true → Q x S1) ∧ (k = false → wp (evalE P M (.or (e2 :: es)) ρ S1) Q) := by
  show wp ((evalE P M e ρ S).bind fun x S1 => match truD x S1 with
    | some true => .ok x S1
    | some false => evalE P M (.or (e2 :: es)) ρ S1
    | none => .stuck) Q = _
  rw [wp_bind]
  congr 1; funext x S1
  unfold tstD
  cases truD x S1 with
  | none => rfl
  | some k => cases k <;> simp [optQ, wp]
theorem we_not {a : E} : wp (evalE P M (.not a) ρ S) Q = wp (evalE P M a ρ S) fun x S1 => tstD x S1 fun k => Q (.bl (!k)) S1 := by
  show wp ((evalE P M a ρ S).bind fun x S1 => match truD x S1 with
    | some k => .ok (.bl (!k)) S1
    | none => .stuck) Q = _
  rw [wp_bind]
  congr 1; funext x S1
  unfold tstD
  cases truD x S1 <;> rfl
theorem we_ite {c a b : E} : wp (evalE P M (.ite c a b) ρ S) Q = wp (evalE P M c ρ S) fun x S1 => tstD x S1 fun k => (k = true → wp (evalE P M a ρ S1) Q) ∧ (k = false → wp (evalE P M b ρ S1) Q) := by
  show wp ((evalE P M c ρ S).bind fun x S1 => match truD x S1 with
    | some true => evalE P M a ρ S1
    | some false => evalE P M b ρ S1
    | none => .stuck) Q = _
  rw [wp_bind]
  congr 1; funext x S1
  unfold tstD
  cases truD x S1 with
  | none => rfl
  | some k => cases k <;> simp [optQ, wp]
theorem we_idx {a i : E} : wp (evalE P M (.idx a i) ρ S) Q = wp (evalE P M a ρ S) fun x S1 => wp (evalE P M i ρ S1) fun y S2 => optQ (idxD x y S2) fun d => Q d S2 := by
  show wp ((evalE P M a ρ S).bind fun x S1 => (evalE P M i ρ S1).bind fun y S2 => Rs.of (idxD x y S2) S2) Q = _
  simp only [wp_bind, wp_of]
theorem wo_none {Q : Option Int → Store → Prop} : wp (evalO P M none ρ S) Q = Q none S := rfl
def intD : D → Option Int
  | .int i => some i
  | _ => none
theorem wo_some {e : E} {Q : Option Int → Store → Prop} : wp (evalO P M (some e) ρ S) Q = wp (evalE P M e ρ S) fun x S1 => optQ (intD x) fun i => Q (some i) S1 := by
  show wp ((evalE P M e ρ S).bind fun x S1 => match x with
    | .int i => .ok (some i) S1
    | _ => .stuck) Q = _
  rw [wp_bind]
  congr 1; funext x S1
  cases x <;> rfl
theorem we_slc {a : E} {lo hi : Option E} : wp (evalE P M (.slc a lo hi) ρ S) Q = wp (evalE P M a ρ S) fun x S1 => wp (evalO P M lo ρ S1) fun l S2 => wp (evalO P M hi ρ S2) fun h S3 => optQ (slcD x l h S3) fun d => Q d S3 := by
  show wp ((evalE P M a ρ S).bind fun x S1 => (evalO P M lo ρ S1).bind fun l S2 => (evalO P M hi ρ S2).bind fun h S3 => Rs.of (slcD x l h S3) S3) Q = _
  simp only [wp_bind, wp_of]
theorem we_attr {e : E} {f : Nat} : wp (evalE P M (.attr e f) ρ S) Q = wp (evalE P M e ρ S) fun x S1 => optQ (attrD x f S1) fun d => Q d S1 := by
  show wp ((evalE P M e ρ S).bind fun x S1 => Rs.of (attrD x f S1) S1) Q = _
  simp only [wp_bind, wp_of]
theorem we_call {f : Nat} {es : List E} : wp (evalE P M (.call f es) ρ S) Q = wp (evalEs P M es ρ S) fun xs S1 => wp (M.call f (mats xs S1).1 (mats xs S1).2) Q := by
  show wp ((evalEs P M es ρ S).bind fun xs S1 => M.call f (mats xs S1).1 (mats xs S1).2) Q = _
  rw [wp_bind]
/-- the receiver of an own method -/
def recvD (c m : Nat) (x : D) (S : Store) : Option Nat := match x with
  | .ref n => match S[n]? with
    | some (.ins c' fs) => if c' = c ∧ fs.lookup m = none then some n else none
    | _ => none
  | _ => none
theorem methD_eq {c m : Nat} {x : D} {S : Store} {k : Nat → Rs D} : wp (methD c m x S k) Q = optQ (recvD c m x S) fun n => wp (k n) Q := by
  unfold methD recvD
  cases x with
  | ref n =>
    dsimp only
    cases S[n]? with
    | none => rfl
    | some o =>
      cases o with
      | ins c' fs =>
        dsimp only
        by_cases h : c' = c ∧ fs.lookup m = none
        · rw [if_pos h, if_pos h]; rfl
        · rw [if_neg h, if_neg h]; rfl
      | _ => rfl
  | _ => rfl
theorem we_meth {o : E} {c m f : Nat} {es : List E} : wp (evalE P M (.meth o c m f es) ρ S) Q = wp (evalE P M o ρ S) fun x S1 => optQ (recvD c m (mat x S1).1 (mat x S1).2) fun n => wp (evalEs P M es ρ (mat x S1).2) fun xs S2 => wp (M.call f (.ref n :: (mats xs S2).1) (mats xs S2).2) Q := by
  show wp ((evalE P M o ρ S).bind fun x S1 => methD c m (mat x S1).1 (mat x S1).2 fun n => (evalEs P M es ρ (mat x S1).2).bind fun xs S2 => M.call f (.ref n :: (mats xs S2).1) (mats xs S2).2) Q = _
  rw [wp_bind]
  congr 1; funext x S1
  rw [methD_eq]
  simp only [wp_bind]
def nonD : D → Option Unit
  | .non => some ()
  | _ => none
theorem wmake {c : Nat} {g : List D → Store → Rs D} {xs : List D} {S : Store} : wp (makeD c g xs S) Q = wp (g (.ref (mats xs S).2.length :: (mats xs S).1) ((mats xs S).2 ++ [.ins c []])) fun v S3 => optQ (nonD v) fun _ => Q (.ref (mats xs S).2.length) S3 := by
  unfold makeD
  rw [wp_bind]
  congr 1; funext v S3
  cases v <;> rfl
theorem we_make {c : Nat} {es : List E} : wp (evalE P M (.make c es) ρ S) Q = optQ P.cls[c]? fun cl => wp (evalEs P M es ρ S) fun xs S1 => wp (makeD c (M.init cl.init) xs S1) Q := by
  show wp (match P.cls[c]? with
    | none => .stuck
    | some cl => (evalEs P M es ρ S).bind fun xs S1 => makeD c (M.init cl.init) xs S1) Q = _
  cases P.cls[c]? with
  | none => rfl
  | some cl => simp only [wp_bind, optQ_some]
theorem we_makek {c : Nat} {es ks : List E} {ns : List Str} {ds : List (Nat ⊕ D)} : wp (evalE P M (.makek c es ks ns ds) ρ S) Q = optQ P.cls[c]? fun cl => wp (evalEs P M es ρ S) fun xs S1 => wp (evalEs P M ks ρ S1) fun ys S2 =>
    (xs.all isCell = true ∧ ys.all isCell = true) ∧ wp (makeD c (M.init cl.init) (xs ++ kwD ds ys) S2) Q := by
  show wp (match P.cls[c]? with
    | none => .stuck
    | some cl => (evalEs P M es ρ S).bind fun xs S1 => (evalEs P M ks ρ S1).bind fun ys S2 => makeKD c (M.init cl.init) ds xs ys S2) Q = _
  cases P.cls[c]? with
  | none => rfl
  | some cl =>
    simp only [wp_bind, optQ_some]
    congr 1; funext xs S1; congr 1; funext ys S2
    unfold makeKD
    by_cases h : xs.all isCell = true ∧ ys.all isCell = true
    · rw [if_pos h]; simp only [h, true_and, and_self]
    · rw [if_neg h]
      simp only [h, false_and]; rfl
theorem we_blt {f : Blt} {es : List E} : wp (evalE P M (.blt f es) ρ S) Q = wp (evalEs P M es ρ S) fun xs S1 => optQ (bltD f xs S1) fun d => Q d S1 := by
  show wp ((evalEs P M es ρ S).bind fun xs S1 => Rs.of (bltD f xs S1) S1) Q = _
  simp only [wp_bind, wp_of]
theorem we_bm {m : Bm} {o : E} {es : List E} : wp (evalE P M (.bm m o es) ρ S) Q = wp (evalE P M o ρ S) fun x S1 => bmTy m x S1 = true ∧ wp (evalEs P M es ρ S1) fun xs S2 => wp (bmD m x xs S2) Q := by
  show wp ((evalE P M o ρ S).bind fun x S1 => if bmTy m x S1 = true then (evalEs P M es ρ S1).bind fun xs S2 => bmD m x xs S2 else .stuck) Q = _
  rw [wp_bind]
  congr 1; funext x S1
  by_cases h : bmTy m x S1 = true
  · rw [if_pos h, wp_bind]; simp only [h, true_and]
  · rw [if_neg h]
    exact propext ⟨fun z => z.elim, fun z => absurd z.1 h⟩
theorem we_isi {e : E} {t : IsT} : wp (evalE P M (.isi e t) ρ S) Q = wp (evalE P M e ρ S) fun x S1 => optQ (isiD x t S1) fun k => Q (.bl k) S1 := by
  show wp ((evalE P M e ρ S).bind fun x S1 => Rs.of ((isiD x t S1).map .bl) S1) Q = _
  simp only [wp_bind, wp_of, optQ_map]
theorem we_comp {own : List (Str × Nat)} {g : Nv.G} {it : Nv.It} {ifs : List E} {elt : E} : wp (evalE P M (.comp own g it ifs elt) ρ S) Q = wp (evalIt P M it ρ S) fun r S1 => wp (compF r.2 (evalG g) (evalIfs P M ifs) (evalE P M elt) (wipeD ρ (own.map (·.2))) r.1 S1) fun ys S2 => ys.length ≤ sizeLine ∧ Q (.new (.lst ys)) S2 := by
  show wp ((evalIt P M it ρ S).bind fun r S1 => (compF r.2 (evalG g) (evalIfs P M ifs) (evalE P M elt) (wipeD ρ (own.map (·.2))) r.1 S1).noex.bind fun ys S2 => if ys.length ≤ sizeLine then .ok (.new (.lst ys)) S2 else .stuck) Q = _
  simp only [wp_bind, wp_noex]
  congr 1; funext r S1; congr 1; funext ys S2
  by_cases h : ys.length ≤ sizeLine <;> simp [h, wp]
theorem wf_nil {Q : Bool → Store → Prop} : wp (evalIfs P M [] ρ S) Q = Q true S := rfl
theorem wf_one {e : E} {Q : Bool → Store → Prop} : wp (evalIfs P M [e] ρ S) Q = wp (evalE P M e ρ S) fun x S1 => tstD x S1 fun k => Q k S1 := by
  show wp ((evalE P M e ρ S).bind fun x S1 => Rs.of (truD x S1) S1) Q = _
  simp only [wp_bind, wp_of]
  rfl
theorem wt_tru {e : E} {Q : Bool → Store → Prop} : wp (truF (evalE P M e) ρ S) Q = wp (evalE P M e ρ S) fun x S1 => tstD x S1 fun k => Q k S1 := wf_one
/-! ### what is walked -/
section
variable {Q : List D × List (Nat × List D) → Store → Prop}
theorem wi_of {e : E} : wp (evalIt P M (.of e) ρ S) Q = wp (evalE P M e ρ S) fun x S1 => optQ (itemsOf x S1) fun xs => Q (xs, guardOf x xs) S1 := by
  show wp ((evalE P M e ρ S).bind fun x S1 => match itemsOf x S1 with
    | some xs => .ok (xs, guardOf x xs) S1
    | none => .stuck) Q = _
  rw [wp_bind]
  congr 1; funext x S1
  cases itemsOf x S1 <;> rfl
theorem wi_range {es : List E} : wp (evalIt P M (.range es) ρ S) Q = wp (evalEs P M es ρ S) fun xs S1 => optQ (rangeD xs) fun ys => Q (ys, []) S1 := by
  show wp ((evalEs P M es ρ S).bind fun xs S1 => match rangeD xs with
    | some ys => .ok (ys, []) S1
    | none => .stuck) Q = _
  rw [wp_bind]
  congr 1; funext xs S1
  cases rangeD xs <;> rfl
theorem wi_enum {e : E} : wp (evalIt P M (.enum e) ρ S) Q = wp (evalE P M e ρ S) fun x S1 => optQ (lisOf x S1) fun xs => Q (enumD 0 xs, guardOf x xs) S1 := by
  show wp ((evalE P M e ρ S).bind fun x S1 => match lisOf x S1 with
    | some xs => .ok (enumD 0 xs, guardOf x xs) S1
    | none => .stuck) Q = _
  rw [wp_bind]
  congr 1; funext x S1
  cases lisOf x S1 <;> rfl
end
section
variable {Q : AEnv → Store → Prop}
theorem wg_name {i : Nat} {d : D} : wp (evalG (.name i) d ρ S) Q = Q (ρ.set i (some (mat d S).1)) (mat d S).2 := rfl
theorem wg_tup {gs : List Nv.G} {xs : List D} : wp (evalG (.tup gs) (.tup xs) ρ S) Q = wp (evalGs gs xs ρ S) Q := rfl
theorem wg_nil : wp (evalGs [] [] ρ S) Q = Q ρ S := rfl
theorem wg_cons {g : Nv.G} {gs : List Nv.G} {x : D} {xs : List D} : wp (evalGs (g :: gs) (x :: xs) ρ S) Q = wp (evalG g x ρ S) fun ρ1 S1 => wp (evalGs gs xs ρ1 S1) Q := by
  show wp ((evalG g x ρ S).bind fun ρ1 S1 => evalGs gs xs ρ1 S1) Q = _
  rw [wp_bind]
end
/-! ### values -/
theorem b_add {i j : Int} : binD .add (.int i) (.int j) S = some (.int (i + j)) := rfl
theorem b_sub {i j : Int} : binD .sub (.int i) (.int j) S = some (.int (i - j)) := rfl
theorem b_mul {i j : Int} : binD .mul (.int i) (.int j) S = if i.natAbs.log2 + j.natAbs.log2 < 1000000 then some (.int (i * j)) else none := rfl
theorem b_fdiv {i j : Int} : binD .fdiv (.int i) (.int j) S = if 0 < j ∧ j.natAbs.log2 < 9000 then some (.int (i / j)) else none := rfl
theorem b_mod {i j : Int} : binD .mod (.int i) (.int j) S = if 0 < j then some (.int (i % j)) else none := rfl
theorem b_pow {i j : Int} : binD .pow (.int i) (.int j) S = if 0 ≤ j ∧ j ≤ 1000000 ∧ i.natAbs < 2 ^ 64 then some (.int (i ^ j.toNat)) else none := rfl
theorem c_lt {i j : Int} : cmpD .lt (.int i) (.int j) S = some (decide (i < j)) := rfl
theorem c_le {i j : Int} : cmpD .le (.int i) (.int j) S = some (decide (i ≤ j)) := rfl
theorem c_gt {i j : Int} : cmpD .gt (.int i) (.int j) S = some (decide (j < i)) := rfl
theorem c_ge {i j : Int} : cmpD .ge (.int i) (.int j) S = some (decide (j ≤ i)) := rfl
theorem c_eqI {i j : Int} : cmpD .eq (.int i) (.int j) S = some (decide (i = j)) := by
  show (if scal (.int i) (.int j) = true then some (decide (V.int i = V.int j)) else none) = _
  have : scal (.int i) (.int j) = true := rfl
  rw [if_pos this]
  congr 1
  by_cases h : i = j <;> simp [h]
theorem c_neI {i j : Int} : cmpD .ne (.int i) (.int j) S = some (!decide (i = j)) := by
  show (cmpD .eq (.int i) (.int j) S).map not = _
  rw [c_eqI]; rfl
theorem c_isI {i : Int} : cmpD .isN (.int i) .non S = some false := rfl
theorem c_notI {i : Int} : cmpD .notN (.int i) .non S = some true := rfl
theorem c_isN : cmpD .isN .non .non S = some true := rfl
theorem c_notN : cmpD .notN .non .non S = some false := rfl
theorem i_ii {i : Int} : isiD (.int i) .int S = some true := rfl
theorem i_ib {i : Int} : isiD (.int i) .bool S = some false := rfl
theorem n_i {i : Int} : negD (.int i) = some (.int (-i)) := rfl
theorem d_i {i : Int} : intD (.int i) = some i := rfl
theorem l_min {i j : Int} : bltD .min [.int i, .int j] S = some (.int (if j < i then j else i)) := rfl
theorem l_max {i j : Int} : bltD .max [.int i, .int j] S = some (.int (if j > i then j else i)) := rfl
theorem x_ref {n : Nat} {k : Int} (h : (seqOf (.ref n) S).isSome = true) : idxD (.ref n) (.int k) S = (seqOf (.ref n) S).bind fun xs => L2.atI xs k := by
  show (match seqOf (.ref n) S with
    | some xs => L2.atI xs k
    | none => _) = _
  cases q : seqOf (.ref n) S with
  | none => rw [q] at h; cases h
  | some xs => rfl
theorem x_new {xs : List D} {k : Int} : idxD (.new (.lst xs)) (.int k) S = L2.atI xs k := rfl
theorem x_tup {xs : List D} {k : Int} : idxD (.tup xs) (.int k) S = L2.atI xs k := rfl
theorem s_lst {n : Nat} {xs : List D} (h : S[n]? = some (.lst xs)) : seqOf (.ref n) S = some xs := by simp only [seqOf, h]
theorem s_frz {n : Nat} {xs : List D} (h : S[n]? = some (.frz xs)) : seqOf (.ref n) S = some xs := by simp only [seqOf, h]
theorem s_new {xs : List D} : seqOf (.new (.lst xs)) S = some xs := rfl
theorem s_tup {xs : List D} : seqOf (.tup xs) S = some xs := rfl
theorem y_new {xs : List D} : lisOf (.new (.lst xs)) S = some xs := rfl
theorem y_ref {n : Nat} {xs : List D} (h : S[n]? = some (.lst xs)) : lisOf (.ref n) S = some xs := by simp only [lisOf, h]
theorem y_frz {n : Nat} {xs : List D} (h : S[n]? = some (.frz xs)) : lisOf (.ref n) S = some xs := by simp only [lisOf, h]
theorem at_0 {α : Type} {a : α} {r : List α} : L2.atI (a :: r) (0 : Int) = some a := by
  have : L2.ixN (a :: r).length 0 = some 0 := by simp [L2.ixN]
  unfold L2.atI
  rw [this]; rfl
theorem at_nat {α : Type} {xs : List α} {i : Int} {a : α} (h0 : 0 ≤ i) (h : xs[i.toNat]? = some a) : L2.atI xs i = some a := by
  have hl := (List.getElem?_eq_some_iff.mp h).1
  have : L2.ixN xs.length i = some i.toNat := by
    unfold L2.ixN
    rw [if_pos h0, if_pos (by omega)]
  unfold L2.atI
  rw [this]; exact h
theorem at_1 {α : Type} {a b : α} {r : List α} : L2.atI (a :: b :: r) (1 : Int) = some b := at_nat (by decide) rfl
theorem at_2 {α : Type} {a b c : α} {r : List α} : L2.atI (a :: b :: c :: r) (2 : Int) = some c := at_nat (by decide) rfl
theorem ix_0 {n : Nat} : L2.ixN (n + 1) 0 = some 0 := by simp [L2.ixN]
theorem ix_1 {n : Nat} : L2.ixN (n + 1 + 1) 1 = some 1 := by
  unfold L2.ixN
  rw [if_pos (by decide), if_pos (by omega)]; rfl
theorem ix_2 {n : Nat} : L2.ixN (n + 1 + 1 + 1) 2 = some 2 := by
  unfold L2.ixN
  rw [if_pos (by decide), if_pos (by omega)]; rfl
theorem u_sub {n : Nat} {k : Int} {v : D} {xs : List D} (h : S[n]? = some (.lst xs)) : setSub (.ref n) (.int k) v S = (ixN xs.length k).map fun j => S.set n (.lst (xs.set j v)) := by simp only [setSub, h]
theorem a_ins {n c f : Nat} {fs : List (Nat × D)} (h : S[n]? = some (.ins c fs)) : attrD (.ref n) f S = fs.lookup f := by simp only [attrD, h]
theorem u_attr {n c f : Nat} {v : D} {fs : List (Nat × D)} (h : S[n]? = some (.ins c fs)) : setAttr (.ref n) f v S = if fs.length < 1000 then some (S.set n (.ins c (putA f v fs))) else none := by simp only [setAttr, h]
theorem r_ins {n c m : Nat} {fs : List (Nat × D)} (h : S[n]? = some (.ins c fs)) (hl : fs.lookup m = none) : recvD c m (.ref n) S = some n := by simp [recvD, h, hl]
theorem optQ_ifd {α : Type} {c : Prop} [Decidable c] {a b : α} {Q : α → Prop} : optQ (if c then some a else some b) Q = if c then Q a else Q b := by by_cases h : c <;> simp [h, optQ]
end
end Nv
/-! Nv: reckoning with what came later: dicts, pairs, comprehensions, a def's end. -/
namespace Nv
open PySem PySem.Spec PyProof.Rows L2
section
variable {P : Prog} {M : Sm} {ρ : AEnv} {S : Store} {Q : D → Store → Prop} {QL : List D → Store → Prop}
theorem we_dct {es : List E} : wp (evalE P M (.dct es) ρ S) Q = wp (evalEs P M es ρ S) fun xs S1 => (xs.length ≤ 30 ∧ freshK (twos xs) = true) ∧ Q (.new (.dct (twos xs))) S1 := by
  show wp ((evalEs P M es ρ S).bind fun xs S1 => if xs.length ≤ 30 ∧ freshK (twos xs) = true then .ok (.new (.dct (twos xs))) S1 else .stuck) Q = _
  rw [wp_bind]
  congr 1; funext xs S1
  by_cases h : xs.length ≤ 30 ∧ freshK (twos xs) = true <;> simp [h, wp]
theorem we_revs {e : E} : wp (evalE P M (.revs e) ρ S) Q = wp (evalE P M e ρ S) fun x S1 => optQ (lisOf x S1) fun xs => Q (.new (.lst xs.reverse)) S1 := by
  show wp ((evalE P M e ρ S).bind fun x S1 => match lisOf x S1 with
    | some xs => .ok (.new (.lst xs.reverse)) S1
    | none => .stuck) Q = _
  rw [wp_bind]
  congr 1; funext x S1
  cases lisOf x S1 <;> rfl
theorem we_comp2 {own : List (Str × Nat)} {g g1 : Nv.G} {it it1 : Nv.It} {ifs ifs1 : List E} {elt : E} : wp (evalE P M (.comp2 own g it ifs g1 it1 ifs1 elt) ρ S) Q = wp (evalIt P M it ρ S) fun r S1 => wp (compG r.2 (evalG g) (evalIfs P M ifs) (fun ρ1 S2 => (evalIt P M it1 ρ1 S2).bind fun r1 S3 => compG r1.2 (evalG g1) (evalIfs P M ifs1) (fun ρ2 S4 => (evalE P M elt ρ2 S4).bind fun y S5 => .ok [y] S5) (wipeD ρ1 g1.slots) r1.1 S3) (wipeD ρ (own.map (·.2))) r.1 S1) fun ys S2 => ys.length ≤ sizeLine ∧ Q (.new (.lst ys)) S2 := by
  show wp ((evalIt P M it ρ S).bind fun r S1 => (compG r.2 (evalG g) (evalIfs P M ifs) (fun ρ1 S2 => (evalIt P M it1 ρ1 S2).bind fun r1 S3 => compG r1.2 (evalG g1) (evalIfs P M ifs1) (fun ρ2 S4 => (evalE P M elt ρ2 S4).bind fun y S5 => .ok [y] S5) (wipeD ρ1 g1.slots) r1.1 S3) (wipeD ρ (own.map (·.2))) r.1 S1).noex.bind fun ys S2 => if ys.length ≤ sizeLine then .ok (.new (.lst ys)) S2 else .stuck) Q = _
  simp only [wp_bind, wp_noex]
  congr 1; funext r S1; congr 1; funext ys S2
  by_cases h : ys.length ≤ sizeLine <;> simp [h, wp]
theorem we_dcomp {own : List (Str × Nat)} {g : Nv.G} {it : Nv.It} {ifs : List E} {k v : E} : wp (evalE P M (.dcomp own g it ifs k v) ρ S) Q = wp (evalIt P M it ρ S) fun r S1 => wp (compD r.2 (evalG g) (evalIfs P M ifs) (evalE P M k) (evalE P M v) (wipeD ρ (own.map (·.2))) r.1 [] S1) fun kvs S2 => Q (.new (.dct kvs)) S2 := by
  show wp ((evalIt P M it ρ S).bind fun r S1 => (compD r.2 (evalG g) (evalIfs P M ifs) (evalE P M k) (evalE P M v) (wipeD ρ (own.map (·.2))) r.1 [] S1).noex.bind fun kvs S2 => .ok (.new (.dct kvs)) S2) Q = _
  simp only [wp_bind, wp_noex, wp_ok]
theorem wi_zip {a b : E} {Q : List D × List (Nat × List D) → Store → Prop} : wp (evalIt P M (.zip a b) ρ S) Q = wp (evalE P M a ρ S) fun x S1 => wp (evalE P M b ρ S1) fun y S2 => wp (zipOf x y S2) Q := by
  show wp ((evalE P M a ρ S).bind fun x S1 => (evalE P M b ρ S1).bind fun y S2 => zipOf x y S2) Q = _
  simp only [wp_bind]
theorem z_tt {xs ys : List D} : zipOf (.tup xs) (.tup ys) S = .ok (zipD xs ys, []) S := rfl
theorem z_ll {x y : D} {xs ys : List D} (hx : lisOf x S = some xs) (hy : lisOf y S = some ys) : zipOf x y S = .ok (zipD xs ys, guardOf x xs ++ guardOf y ys) S := by
  cases x with
  | tup zs => cases hx
  | _ =>
    first
      | cases hx; done
      | (show (match lisOf _ S, lisOf y S with
          | some xs, some ys => Rs.ok (zipD xs ys, guardOf _ xs ++ guardOf y ys) S
          | _, _ => .stuck) = _
         rw [hx, hy])
theorem wg_wtp {gs : List Nv.G} {xs : List D} {Q : AEnv → Store → Prop} : wp (evalG (.tup gs) (.wtp xs) ρ S) Q = wp (evalGs gs xs ρ S) Q := rfl
/-! ### what is read -/
theorem io_str {z : Str} : itemsOf (.str z) S = some (z.cps.toList.map fun c => .str ⟨#[c]⟩) := rfl
theorem io_tup {xs : List D} : itemsOf (.tup xs) S = some xs := rfl
theorem io_new {xs : List D} : itemsOf (.new (.lst xs)) S = some xs := rfl
theorem io_ref {n : Nat} {xs : List D} (h : S[n]? = some (.lst xs)) : itemsOf (.ref n) S = some xs := s_lst h
theorem io_frz {n : Nat} {xs : List D} (h : S[n]? = some (.frz xs)) : itemsOf (.ref n) S = some xs := s_frz h
theorem tst_b {b : Bool} {Q : Bool → Prop} : tstD (.bl b) S Q = Q b := rfl
theorem tst_str {z : Str} {Q : Bool → Prop} : tstD (.str z) S Q = (z.length ≤ sizeLine ∧ Q ((z.length : Int) != 0)) := by
  unfold tstD truD
  by_cases h : z.length ≤ sizeLine <;> simp [h, optQ]
theorem tst_tup {xs : List D} {Q : Bool → Prop} : tstD (.tup xs) S Q = Q (!xs.isEmpty) := rfl
theorem len_tup {xs : List D} : bltD .len [.tup xs] S = some (.int xs.length) := rfl
theorem len_new {xs : List D} : bltD .len [.new (.lst xs)] S = some (.int xs.length) := rfl
theorem len_ref {n : Nat} {xs : List D} (h : S[n]? = some (.lst xs)) : bltD .len [.ref n] S = some (.int xs.length) := by
  show (match dctOf (.ref n) S with
    | some kvs => some (D.int kvs.length)
    | none => (seqOf (.ref n) S).map fun (xs : List D) => D.int xs.length) = _
  have : dctOf (.ref n) S = none := by simp only [dctOf, h]
  rw [this, s_lst h]; rfl
theorem len_dct {n : Nat} {kvs : List (D × D)} (h : S[n]? = some (.dct kvs)) : bltD .len [.ref n] S = some (.int kvs.length) := by
  show (match dctOf (.ref n) S with
    | some kvs => some (D.int kvs.length)
    | none => (seqOf (.ref n) S).map fun (xs : List D) => D.int xs.length) = _
  have : dctOf (.ref n) S = some kvs := by simp only [dctOf, h]
  rw [this]
theorem len_str {z : Str} : bltD .len [.str z] S = if z.length ≤ sizeLine then some (.int z.length) else none := rfl
theorem all_new {bs : List Bool} : bltD .all [.new (.lst (bs.map .bl))] S = some (.bl (bs.all id)) := by
  have h : ∀ bs : List Bool, blsOf (bs.map D.bl) = some bs := fun bs => by
    induction bs with
    | nil => rfl
    | cons b r ih => show (blsOf (r.map D.bl)).map (b :: ·) = _; rw [ih]; rfl
  show (lisOf (.new (.lst (bs.map D.bl))) S).bind (fun xs => (blsOf xs).map fun ns => D.bl (ns.all id)) = _
  show ((blsOf (bs.map D.bl)).map fun ns => D.bl (ns.all id)) = _
  rw [h]; rfl
theorem any_new {bs : List Bool} : bltD .any [.new (.lst (bs.map .bl))] S = some (.bl (bs.any id)) := by
  have h : ∀ bs : List Bool, blsOf (bs.map D.bl) = some bs := fun bs => by
    induction bs with
    | nil => rfl
    | cons b r ih => show (blsOf (r.map D.bl)).map (b :: ·) = _; rw [ih]; rfl
  show ((blsOf (bs.map D.bl)).map fun ns => D.bl (ns.any id)) = _
  rw [h]; rfl
theorem lis_tup {xs : List D} : bltD .list [.tup xs] S = some (.new (.lst xs)) := rfl
theorem tup_new {xs : List D} : bltD .tuple [.new (.lst xs)] S = some (.tup xs) := rfl
theorem tup_ref {n : Nat} {xs : List D} (h : S[n]? = some (.lst xs)) : bltD .tuple [.ref n] S = some (.tup xs) := by
  show (seqOf (.ref n) S).map D.tup = _
  rw [s_lst h]; rfl
/-! ### texts, equality -/
theorem c_eqS {a b : Str} : cmpD .eq (.str a) (.str b) S = some (decide (a = b)) := by
  show (if scal (.str a) (.str b) = true then some (decide (V.str a = V.str b)) else none) = _
  have : scal (.str a) (.str b) = true := rfl
  rw [if_pos this]
  congr 1
  by_cases h : a = b <;> simp [h]
theorem c_neS {a b : Str} : cmpD .ne (.str a) (.str b) S = some (!decide (a = b)) := by
  show (cmpD .eq (.str a) (.str b) S).map not = _
  rw [c_eqS]; rfl
theorem c_eqB {a b : Bool} : cmpD .eq (.bl a) (.bl b) S = some (decide (a = b)) := by
  show (if scal (.bl a) (.bl b) = true then some (decide (V.bl a = V.bl b)) else none) = _
  have : scal (.bl a) (.bl b) = true := rfl
  rw [if_pos this]
  congr 1
  by_cases h : a = b <;> simp [h]
theorem c_neB {a b : Bool} : cmpD .ne (.bl a) (.bl b) S = some (!decide (a = b)) := by
  show (cmpD .eq (.bl a) (.bl b) S).map not = _
  rw [c_eqB]; rfl
theorem c_ltS {a b : Str} : cmpD .lt (.str a) (.str b) S = some (decide (a.cps.toList < b.cps.toList)) := rfl
theorem c_isD {d : D} : cmpD .isN d .non S = some (match d with
  | .non => true
  | _ => false) := by cases d <;> rfl
theorem c_notD {d : D} : cmpD .notN d .non S = some (match d with
  | .non => false
  | _ => true) := by cases d <;> rfl
theorem c_inS {c : Nat} {b : Str} : cmpD .inn (.str ⟨#[c]⟩) (.str b) S = some (decide (c ∈ b.cps.toList)) := rfl
/-! ### comprehensions -/
theorem wp_compG {gu : List (Nat × List D)} {asg : D → AEnv → Store → Rs AEnv} {tst : AEnv → Store → Rs Bool} {body : AEnv → Store → Rs (List D)} {items : List D} {Q : List D → Store → Prop} (I : Nat → List D → Store → Prop) (h0 : I 0 [] S)
    (hg : ∀ i ys S, I i ys S → guardOk gu S = true)
    (step : ∀ i d ys S, items[i]? = some d → I i ys S → wp (asg d ρ S) fun ρ1 S1 => wp (tst ρ1 S1) fun b S2 => (b = true → wp (body ρ1 S2) fun zs S3 => I (i + 1) (ys ++ zs) S3) ∧ (b = false → I (i + 1) ys S2))
    (fin : ∀ ys S, I items.length ys S → Q ys S) : wp (compG gu asg tst body ρ items S) Q := by
  suffices h : ∀ (k : Nat) (ys : List D) (S : Store), I k ys S → k ≤ items.length → wp (compG gu asg tst body ρ (items.drop k) S) fun zs S' => Q (ys ++ zs) S' by
    have := h 0 [] S h0 (Nat.zero_le _)
    rw [List.drop_zero] at this
    exact wp_mono this fun zs S' z => by rwa [List.nil_append] at z
  intro k
  generalize hm : items.length - k = m
  induction m generalizing k with
  | zero =>
    intro ys S hI hk
    have : k = items.length := by omega
    subst this
    rw [List.drop_length]
    show wp (if guardOk gu S = true then Rs.ok [] S else .stuck) _
    rw [if_pos (hg _ _ _ hI)]
    show Q (ys ++ []) S
    rw [List.append_nil]
    exact fin _ _ hI
  | succ m ih =>
    intro ys S hI hk
    have hlt : k < items.length := by omega
    rw [List.drop_eq_getElem_cons hlt]
    show wp (if guardOk gu S = true then (asg items[k] ρ S).bind fun ρ1 S1 => (tst ρ1 S1).bind fun b S2 => match b with
      | true => (body ρ1 S2).bind fun ys S3 => (compG gu asg tst body ρ (items.drop (k + 1)) S3).bind fun zs S4 => .ok (ys ++ zs) S4
      | false => compG gu asg tst body ρ (items.drop (k + 1)) S2
    else .stuck) _
    rw [if_pos (hg _ _ _ hI), wp_bind]
    refine wp_mono (step k items[k] ys S (List.getElem?_eq_getElem hlt) hI) fun ρ1 S1 z => ?_
    rw [wp_bind]
    refine wp_mono z fun b S2 z => ?_
    cases b with
    | false => exact ih (k + 1) (by omega) ys S2 (z.2 rfl) (by omega)
    | true =>
      show wp ((body ρ1 S2).bind fun ys S3 => (compG gu asg tst body ρ (items.drop (k + 1)) S3).bind fun zs S4 => .ok (ys ++ zs) S4) _
      rw [wp_bind]
      refine wp_mono (z.1 rfl) fun ws S3 z => ?_
      rw [wp_bind]
      refine wp_mono (ih (k + 1) (by omega) (ys ++ ws) S3 z (by omega)) fun zs S4 z => ?_
      show Q (ys ++ (ws ++ zs)) S4
      rwa [List.append_assoc] at z
/-- each item gives its value, nothing else changes -/
theorem comp_map {gu : List (Nat × List D)} {asg : D → AEnv → Store → Rs AEnv} {tst : AEnv → Store → Rs Bool} {elt : AEnv → Store → Rs D} {items : List D} {Q : List D → Store → Prop} (f : D → D) (hg : guardOk gu S = true)
    (step : ∀ d ∈ items, wp (asg d ρ S) fun ρ1 S1 => wp (tst ρ1 S1) fun b S2 => b = true ∧ wp (elt ρ1 S2) fun y S3 => y = f d ∧ S3 = S) (fin : Q (items.map f) S) : wp (compF gu asg tst elt ρ items S) Q := by
  refine wp_compF (fun i ys S' => S' = S ∧ ys = (items.take i).map f) ⟨rfl, by simp⟩ (fun i ys S' h => by rw [h.1]; exact hg) (fun i d ys S' hd h => ?_) fun ys S' h => ?_
  · obtain ⟨rfl, rfl⟩ := h
    have hl := (List.getElem?_eq_some_iff.mp hd).1
    have hi : items[i] = d := (List.getElem?_eq_some_iff.mp hd).2
    refine wp_mono (step d (List.mem_of_getElem? hd)) fun ρ1 S1 z => wp_mono z fun b S2 z => ⟨fun _ => wp_mono z.2 fun y S3 w => ⟨w.2, ?_⟩, fun hb => ?_⟩
    · rw [w.1, List.take_succ_eq_append_getElem hl, List.map_append, hi]; rfl
    · rw [z.1] at hb; cases hb
  · obtain ⟨rfl, rfl⟩ := h
    rw [List.take_length]; exact fin
/-- items that pass give their value -/
theorem comp_filter {gu : List (Nat × List D)} {asg : D → AEnv → Store → Rs AEnv} {tst : AEnv → Store → Rs Bool} {elt : AEnv → Store → Rs D} {items : List D} {Q : List D → Store → Prop} (p : D → Bool) (f : D → D) (hg : guardOk gu S = true)
    (step : ∀ d ∈ items, wp (asg d ρ S) fun ρ1 S1 => wp (tst ρ1 S1) fun b S2 => b = p d ∧ (b = true → wp (elt ρ1 S2) fun y S3 => y = f d ∧ S3 = S) ∧ (b = false → S2 = S)) (fin : Q ((items.filter p).map f) S) : wp (compF gu asg tst elt ρ items S) Q := by
  refine wp_compF (fun i ys S' => S' = S ∧ ys = ((items.take i).filter p).map f) ⟨rfl, by simp⟩ (fun i ys S' h => by rw [h.1]; exact hg) (fun i d ys S' hd h => ?_) fun ys S' h => ?_
  · obtain ⟨rfl, rfl⟩ := h
    have hl := (List.getElem?_eq_some_iff.mp hd).1
    have hi : items[i] = d := (List.getElem?_eq_some_iff.mp hd).2
    refine wp_mono (step d (List.mem_of_getElem? hd)) fun ρ1 S1 z => wp_mono z fun b S2 z => ⟨fun hb => wp_mono (z.2.1 hb) fun y S3 w => ⟨w.2, ?_⟩, fun hb => ⟨z.2.2 hb, ?_⟩⟩
    · rw [w.1, List.take_succ_eq_append_getElem hl, List.filter_append, List.map_append, hi]
      have : p d = true := by rw [← z.1]; exact hb
      simp [this]
    · rw [List.take_succ_eq_append_getElem hl, List.filter_append, List.map_append, hi]
      have : p d = false := by rw [← z.1]; exact hb
      simp [this]
  · obtain ⟨rfl, rfl⟩ := h
    rw [List.take_length]; exact fin
/-! ### a def's end -/
theorem reify_data {n k : Nat} : ∀ {d : D}, isData d = true → reify S n (k + 1) d = some (d, [])
  | .non, _ => rfl
  | .bl _, _ => rfl
  | .int _, _ => rfl
  | .str _, _ => rfl
  | .tup xs, h => if_pos h
  | .wtp xs, h => if_pos h
  | .ref _, h => by cases h
  | .new _, h => by cases h
theorem mapU_data {n k : Nat} : ∀ {xs : List D}, areData xs = true → mapU (reify S n (k + 1)) xs = some (xs, [])
  | [], _ => rfl
  | x :: xs, h => by
    have h' : (isData x && areData xs) = true := h
    rw [Bool.and_eq_true] at h'
    show (match reify S n (k + 1) x, mapU (reify S n (k + 1)) xs with
      | some (y, u), some (ys, w) => some (y :: ys, u ++ w)
      | _, _ => none) = _
    rw [reify_data h'.1, mapU_data h'.2]; rfl
theorem fin_d {d : D} {S0 S1 S' : Store} {Q : D → Store → Prop} (hd : isData d = true) (ht : trunc S0 S' = some S1) (h : Q d S1) : wp (finF true S0 d S') Q := by
  show wp (match reify S' S0.length 6 d, trunc S0 S' with
    | some (d', us), some T => if us.Nodup then Rs.ok d' T else .stuck
    | _, _ => .stuck) Q
  rw [reify_data hd, ht]
  show wp (if ([] : List Nat).Nodup then Rs.ok d S1 else .stuck) Q
  rw [if_pos List.nodup_nil]
  exact h
/-- data is returned -/
theorem ret_d {d : D} {S0 S1 S' : Store} {Q : D → Store → Prop} (hd : isData d = true) (ht : trunc S0 S' = some S1) (h : Q d S1) : retQ true S0 Q (.rt d, ρ) S' := fin_d hd ht h
theorem ret_dn {S0 S1 S' : Store} {Q : D → Store → Prop} (ht : trunc S0 S' = some S1) (h : Q .non S1) : retQ true S0 Q (.nx, ρ) S' := fin_d (d := .non) rfl ht h
/-- data is returned, cells were made at most -/
theorem ret_p {d : D} {S0 N : Store} {Q : D → Store → Prop} (hd : isData d = true) (h : Q d S0) : retQ true S0 Q (.rt d, ρ) (S0 ++ N) := ret_d hd trunc_app h
theorem trunc_same {S0 : Store} : trunc S0 S0 = some S0 := by
  have := trunc_app (S0 := S0) (N := [])
  rwa [List.append_nil] at this
theorem ret_p0 {d : D} {S0 : Store} {Q : D → Store → Prop} (hd : isData d = true) (h : Q d S0) : retQ true S0 Q (.rt d, ρ) S0 := ret_d hd trunc_same h
/-- a new list of data -/
theorem ret_l {xs : List D} {S0 S1 S' : Store} {Q : D → Store → Prop} (hd : areData xs = true) (ht : trunc S0 S' = some S1) (h : Q (.new (.lst xs)) S1) : retQ true S0 Q (.rt (.new (.lst xs)), ρ) S' := by
  show wp (match reify S' S0.length 6 (.new (.lst xs)), trunc S0 S' with
    | some (d', us), some T => if us.Nodup then Rs.ok d' T else .stuck
    | _, _ => .stuck) Q
  have e : reify S' S0.length 6 (.new (.lst xs)) = some (.new (.lst xs), []) := by
    show (reifyO (reify S' S0.length 5) (.lst xs)).map (fun r => (D.new r.1, r.2)) = _
    show ((mapU (reify S' S0.length 5) xs).map fun r => (O.lst r.1, r.2)).map (fun r => (D.new r.1, r.2)) = _
    rw [mapU_data hd]; rfl
  rw [e, ht]
  show wp (if ([] : List Nat).Nodup then Rs.ok (D.new (.lst xs)) S1 else .stuck) Q
  rw [if_pos List.nodup_nil]
  exact h
/-- a cell that is a list of data is returned -/
theorem ret_r {m : Nat} {xs : List D} {S0 S1 S' : Store} {Q : D → Store → Prop} (hm : S0.length ≤ m) (hc : S'[m]? = some (.lst xs)) (hd : areData xs = true) (ht : trunc S0 S' = some S1) (h : Q (.new (.lst xs)) S1) : retQ true S0 Q (.rt (.ref m), ρ) S' := by
  show wp (match reify S' S0.length 6 (.ref m), trunc S0 S' with
    | some (d', us), some T => if us.Nodup then Rs.ok d' T else .stuck
    | _, _ => .stuck) Q
  have e : reify S' S0.length 6 (.ref m) = some (.new (.lst xs), [m]) := by
    show (if m < S0.length then some (D.ref m, []) else match S'[m]? with
      | some o => (reifyO (reify S' S0.length 5) o).map fun r => (D.new r.1, m :: r.2)
      | none => none) = _
    rw [if_neg (by omega), hc]
    show ((mapU (reify S' S0.length 5) xs).map fun r => (O.lst r.1, r.2)).map (fun r => (D.new r.1, m :: r.2)) = _
    rw [mapU_data hd]; rfl
  rw [e, ht]
  show wp (if ([m] : List Nat).Nodup then Rs.ok (D.new (.lst xs)) S1 else .stuck) Q
  rw [if_pos (by simp)]
  exact h
/-- made from data: nothing becomes a cell -/
theorem mat_both : ∀ n : Nat, (∀ {d : D} {S : Store}, sizeOf d ≤ n → isData d = true → mat d S = (d, S)) ∧ (∀ {xs : List D} {S : Store}, sizeOf xs ≤ n → areData xs = true → mats xs S = (xs, S))
  | 0 => ⟨fun {d} {S} h _ => by cases d <;> simp at h, fun {xs} {S} h _ => by cases xs <;> simp at h⟩
  | n + 1 => by
    refine ⟨fun {d} {S} h hd => ?_, fun {xs} {S} h hd => ?_⟩
    · cases d with
      | tup xs =>
        show (D.tup (mats xs S).1, (mats xs S).2) = _
        rw [(mat_both n).2 (by simp at h; omega) hd]
      | wtp xs =>
        show (D.wtp (mats xs S).1, (mats xs S).2) = _
        rw [(mat_both n).2 (by simp at h; omega) hd]
      | ref _ => cases hd
      | new _ => cases hd
      | _ => rfl
    · cases xs with
      | nil => rfl
      | cons x xs =>
        have h' : (isData x && areData xs) = true := hd
        rw [Bool.and_eq_true] at h'
        show ((mat x S).1 :: (mats xs (mat x S).2).1, (mats xs (mat x S).2).2) = _
        rw [(mat_both n).1 (by simp at h; omega) h'.1, (mat_both n).2 (by simp at h; omega) h'.2]
theorem mat_data {d : D} (h : isData d = true) : mat d S = (d, S) := (mat_both _).1 (Nat.le_refl _) h
theorem mats_data {xs : List D} (h : areData xs = true) : mats xs S = (xs, S) := (mat_both _).2 (Nat.le_refl _) h
end
end Nv
/-! Nv: statements reckoned by rewriting; data compared; pure calls. -/
namespace Nv
open PySem PySem.Spec PyProof.Rows L2
section
variable {P : Prog} {M : Sm} {ρ : AEnv} {S : Store} {Q : Fl × AEnv → Store → Prop}
/-- what stands behind a statement -/
def seqQ (P : Prog) (M : Sm) (r : List Nv.St) (Q : Fl × AEnv → Store → Prop) (q : Fl × AEnv) (S1 : Store) : Prop := match q.1 with
    | .nx => wp (evalSs P M r q.2 S1) Q
    | .rt d => Q (.rt d, q.2) S1
    | .bk => Q (.bk, q.2) S1
    | .ct => Q (.ct, q.2) S1
theorem sq_nx {r : List Nv.St} : seqQ P M r Q (.nx, ρ) S = wp (evalSs P M r ρ S) Q := rfl
theorem sq_rt {r : List Nv.St} {d : D} : seqQ P M r Q (.rt d, ρ) S = Q (.rt d, ρ) S := rfl
theorem sq_bk {r : List Nv.St} : seqQ P M r Q (.bk, ρ) S = Q (.bk, ρ) S := rfl
theorem sq_ct {r : List Nv.St} : seqQ P M r Q (.ct, ρ) S = Q (.ct, ρ) S := rfl
theorem ss_nil : wp (evalSs P M [] ρ S) Q = Q (.nx, ρ) S := rfl
theorem ss_cons {s : Nv.St} {r : List Nv.St} : wp (evalSs P M (s :: r) ρ S) Q = wp (evalS P M s ρ S) (seqQ P M r Q) := by
  show wp ((evalS P M s ρ S).bind fun q S1 => match q.1 with
    | .nx => evalSs P M r q.2 S1
    | _ => .ok q S1) Q = _
  rw [wp_bind]
  congr 1; funext q S1
  obtain ⟨fl, ρ1⟩ := q
  cases fl <;> rfl
theorem st_ite {c : E} {a b : List Nv.St} : wp (evalS P M (.ite c a b) ρ S) Q = wp (evalE P M c ρ S) fun d S1 => tstD d S1 fun k => (k = true → wp (evalSs P M a ρ S1) Q) ∧ (k = false → wp (evalSs P M b ρ S1) Q) := by
  show wp ((evalE P M c ρ S).bind fun x S1 => match truD x S1 with
    | some true => evalSs P M a ρ S1
    | some false => evalSs P M b ρ S1
    | none => .stuck) Q = _
  rw [wp_bind]
  congr 1; funext d S1
  unfold tstD optQ
  cases truD d S1 with
  | none => rfl
  | some k => cases k <;> simp
theorem st_set {i : Nat} {e : E} : wp (evalS P M (.set i e) ρ S) Q = wp (evalE P M e ρ S) fun d S1 => Q (.nx, ρ.set i (some (mat d S1).1)) (mat d S1).2 := by
  show wp ((evalE P M e ρ S).bind fun x S1 => (storeD i x ρ S1).bind fun ρ1 S2 => .ok (.nx, ρ1) S2) Q = _
  rw [wp_bind]; rfl
theorem st_expr {e : E} : wp (evalS P M (.expr e) ρ S) Q = wp (evalE P M e ρ S) fun _ S1 => Q (.nx, ρ) S1 := by
  show wp ((evalE P M e ρ S).bind fun _ S1 => .ok (.nx, ρ) S1) Q = _
  rw [wp_bind]; rfl
theorem st_ret {e : E} : wp (evalS P M (.ret e) ρ S) Q = wp (evalE P M e ρ S) fun d S1 => Q (.rt d, ρ) S1 := by
  show wp ((evalE P M e ρ S).bind fun x S1 => .ok (.rt x, ρ) S1) Q = _
  rw [wp_bind]; rfl
theorem st_retN : wp (evalS P M .retN ρ S) Q = Q (.rt .non, ρ) S := rfl
theorem st_pass : wp (evalS P M .pass ρ S) Q = Q (.nx, ρ) S := rfl
theorem st_cont : wp (evalS P M .cont ρ S) Q = Q (.ct, ρ) S := rfl
theorem st_unp {g : Nv.G} {e : E} : wp (evalS P M (.unp g e) ρ S) Q = wp (evalE P M e ρ S) fun d S1 => wp (evalG g d ρ S1) fun ρ1 S2 => Q (.nx, ρ1) S2 := by
  show wp ((evalE P M e ρ S).bind fun x S1 => (evalG g x ρ S1).bind fun ρ1 S2 => .ok (.nx, ρ1) S2) Q = _
  simp only [wp_bind]; rfl
theorem st_par {is : List Nat} {es : List E} : wp (evalS P M (.par is es) ρ S) Q = wp (evalEs P M es ρ S) fun xs S1 => Q (.nx, parD is (mats xs S1).1 ρ) (mats xs S1).2 := by
  show wp ((evalEs P M es ρ S).bind fun xs S1 => .ok (.nx, parD is (mats xs S1).1 ρ) (mats xs S1).2) Q = _
  rw [wp_bind]; rfl
theorem st_sub {o i : E} {e : E} : wp (evalS P M (.sub o i e) ρ S) Q = wp (evalE P M e ρ S) fun y S1 => wp (evalE P M o ρ S1) fun x S2 => wp (evalE P M i ρ S2) fun k S3 => optQ (setSub x k (mat y S3).1 (mat y S3).2) fun S4 => Q (.nx, ρ) S4 := by
  show wp ((evalE P M e ρ S).bind fun y S1 => (evalE P M o ρ S1).bind fun x S2 => (evalE P M i ρ S2).bind fun k S3 => (Rs.of (setSub x k (mat y S3).1 (mat y S3).2) S3).bind fun S4 _ => .ok (.nx, ρ) S4) Q = _
  simp only [wp_bind, wp_of, wp_ok]
theorem st_for {g : Nv.G} {it : Nv.It} {b : List Nv.St} {gc : Option (List Nat)} : wp (evalS P M (.forr g it b gc) ρ S) Q = wp (evalIt P M it ρ S) fun r S1 => wp (forF r.2 gc (evalG g) (evalSs P M b) r.1 ρ S1) Q := by
  show wp ((evalIt P M it ρ S).bind fun r S1 => forF r.2 gc (evalG g) (evalSs P M b) r.1 ρ S1) Q = _
  rw [wp_bind]
theorem st_wh {c : E} {b : List Nv.St} : wp (evalS P M (.wh c b) ρ S) Q = wp (whF (truF (evalE P M c)) (evalSs P M b) WF ρ S) Q := rfl
/-- a check that does not hit -/
theorem wp_check {c : E} {a : List Nv.St} {r : List Nv.St} {T : Store} (h : wp (evalE P M c ρ S) fun d S1 => tstD d S1 fun k => k = false ∧ S1 = T) (hr : wp (evalSs P M r ρ T) Q) : wp (evalSs P M (.ite c a [] :: r) ρ S) Q := by
  rw [ss_cons, st_ite]
  refine wp_mono h fun d S1 z => ?_
  unfold tstD optQ at z ⊢
  cases e : truD d S1 with
  | none => rw [e] at z; exact z
  | some k =>
    rw [e] at z
    obtain ⟨rfl, rfl⟩ := z
    exact ⟨fun h => (by cases h), fun _ => hr⟩
theorem rq_f {d : D} {S0 : Store} {Q : D → Store → Prop} : retQ false S0 Q (.rt d, ρ) S = Q d S := rfl
theorem rq_n {S0 : Store} {Q : D → Store → Prop} : retQ false S0 Q (.nx, ρ) S = Q .non S := rfl
end
/-! ### pure calls -/
theorem eq_of_wp {α : Type} {r : Rs α} {a : α} {S : Store} (h : wp r fun b S' => b = a ∧ S' = S) : r = .ok a S := by
  cases r with
  | ok b S' => obtain ⟨rfl, rfl⟩ := h; rfl
  | ex x S => exact h.elim
  | stuck => exact h.elim
theorem wp_eq {α : Type} {r : Rs α} {a : α} {S : Store} {Q : α → Store → Prop} (h : r = .ok a S) : wp r Q = Q a S := by rw [h]; rfl
theorem cl_of {P : Prog} {d i : Nat} {fn : Nv.Fn} {args : List D} {S : Store} {r : D} (h : P.fns[i]? = some fn) (hl : args.length = fn.ps) (hs : fn.ps ≤ fn.slots)
    (hb : wp (evalSs P (sm P d) fn.body (args.map some ++ List.replicate (fn.slots - fn.ps) none) S) (retQ fn.gc S fun x S' => x = r ∧ S' = S)) : (sm P (d + 1)).call i args S = .ok r S := eq_of_wp (wp_call h hl hs hb)
/-! ### plain data: None, numbers, texts, tuples of such -/
mutual
def okE : D → Bool
  | .non => true
  | .int _ => true
  | .str s => PyData.strOk s
  | .tup xs => okEs xs
  | _ => false
def okEs : List D → Bool
  | [] => true
  | x :: xs => okE x && okEs xs
end
mutual
def depD : D → Nat
  | .tup xs => depDs xs + 1
  | _ => 0
def depDs : List D → Nat
  | [] => 0
  | x :: xs => max (depD x) (depDs xs)
end
theorem okEs_cons {x : D} {xs : List D} : okEs (x :: xs) = (okE x && okEs xs) := rfl
theorem okE_tup {xs : List D} : okE (.tup xs) = okEs xs := rfl
theorem depDs_cons {x : D} {xs : List D} : depDs (x :: xs) = max (depD x) (depDs xs) := rfl
theorem depD_tup {xs : List D} : depD (.tup xs) = depDs xs + 1 := rfl
mutual
theorem okE_data : ∀ {x : D}, okE x = true → isData x = true
  | .non, _ => rfl
  | .int _, _ => rfl
  | .str _, _ => rfl
  | .tup xs, h => okEs_data (xs := xs) h
  | .bl _, h => rfl
  | .wtp _, h => by cases h
  | .ref _, h => by cases h
  | .new _, h => by cases h
theorem okEs_data : ∀ {xs : List D}, okEs xs = true → areData xs = true
  | [], _ => rfl
  | x :: xs, h => by
    rw [okEs_cons, Bool.and_eq_true] at h
    show (isData x && areData xs) = true
    rw [okE_data h.1, okEs_data h.2]; rfl
end
mutual
theorem dat_ok : ∀ {x : D}, okE x = true → dat x = some (encD x) ∧ (encD x).canLay0 = true ∧ (encD x).depth = depD x
  | .non, _ => ⟨rfl, rfl, rfl⟩
  | .int _, _ => ⟨rfl, rfl, rfl⟩
  | .str s, h => ⟨rfl, (show PyData.canLay0 (.str s) = true by rw [PyData.canLay0]; exact h), rfl⟩
  | .tup xs, h => by
    obtain ⟨h1, h2, h3⟩ := dats_ok (xs := xs) h
    have e : encD (.tup xs) = .tuple (xs.map encD) := by
      show ((dats xs).map PyData.tuple).getD .none = _
      rw [h1]; rfl
    rw [e]
    refine ⟨by show (dats xs).map PyData.tuple = _; rw [h1]; rfl, by rw [PyData.canLay0]; exact h2, ?_⟩
    rw [PyData.depth, h3]; rfl
  | .bl _, h => by cases h
  | .wtp _, h => by cases h
  | .ref _, h => by cases h
  | .new _, h => by cases h
theorem dats_ok : ∀ {xs : List D}, okEs xs = true → dats xs = some (xs.map encD) ∧ PyData.canLayAll0 (xs.map encD) = true ∧ PyData.depthAll (xs.map encD) = depDs xs
  | [], _ => ⟨rfl, by rw [List.map_nil, PyData.canLayAll0], by rw [List.map_nil, PyData.depthAll]; rfl⟩
  | x :: xs, h => by
    rw [okEs_cons, Bool.and_eq_true] at h
    obtain ⟨a1, a2, a3⟩ := dat_ok h.1
    obtain ⟨b1, b2, b3⟩ := dats_ok h.2
    refine ⟨?_, ?_, ?_⟩
    · show (match dat x, dats xs with
        | some d, some ds => some (d :: ds)
        | _, _ => none) = _
      rw [a1, b1]; rfl
    · rw [List.map_cons, PyData.canLayAll0, a2, b2]; rfl
    · rw [List.map_cons, PyData.depthAll, a3, b3]; rfl
end
theorem enc_tup {xs : List D} (h : okEs xs = true) : encD (.tup xs) = .tuple (xs.map encD) := by
  show ((dats xs).map PyData.tuple).getD .none = _
  rw [(dats_ok h).1]; rfl
theorem str_beq (a b : Str) : (a == b) = decide (a = b) := by
  rw [Bool.eq_iff_iff]; simp
mutual
theorem eqv_ok : ∀ {x y : D}, okE x = true → okE y = true → PyData.eqv (encD x) (encD y) = sameD x y
  | .non, .non, _, _ => rfl
  | .non, .int _, _, _ => rfl
  | .non, .str _, _, _ => rfl
  | .non, .tup ys, _, h => by rw [enc_tup h]; rfl
  | .int _, .non, _, _ => rfl
  | .int i, .int j, _, _ => by
    show PyData.eqv (.int i) (.int j) = decide (i = j)
    rw [PyData.eqv, Bool.eq_iff_iff]; simp
  | .int _, .str _, _, _ => rfl
  | .int _, .tup ys, _, h => by rw [enc_tup h]; rfl
  | .str _, .non, _, _ => rfl
  | .str _, .int _, _, _ => rfl
  | .str i, .str j, _, _ => by
    show PyData.eqv (.str i) (.str j) = decide (i = j)
    rw [PyData.eqv, str_beq]
  | .str _, .tup ys, _, h => by rw [enc_tup h]; rfl
  | .tup xs, .non, h, _ => by rw [enc_tup h]; rfl
  | .tup xs, .int _, h, _ => by rw [enc_tup h]; rfl
  | .tup xs, .str _, h, _ => by rw [enc_tup h]; rfl
  | .tup xs, .tup ys, h, k => by
    rw [enc_tup h, enc_tup k, PyData.eqv]
    exact eqvs_ok (xs := xs) (ys := ys) h k
  | .bl _, _, h, _ => by cases h
  | .wtp _, _, h, _ => by cases h
  | .ref _, _, h, _ => by cases h
  | .new _, _, h, _ => by cases h
  | _, .bl _, _, h => by cases h
  | _, .wtp _, _, h => by cases h
  | _, .ref _, _, h => by cases h
  | _, .new _, _, h => by cases h
theorem eqvs_ok : ∀ {xs ys : List D}, okEs xs = true → okEs ys = true → PyData.eqvAll (xs.map encD) (ys.map encD) = sameDs xs ys
  | [], [], _, _ => by rw [List.map_nil, PyData.eqvAll]; rfl
  | [], y :: ys, _, _ => by rw [List.map_nil, List.map_cons, PyData.eqvAll]; rfl
  | x :: xs, [], _, _ => by rw [List.map_nil, List.map_cons, PyData.eqvAll]; rfl
  | x :: xs, y :: ys, h, k => by
    rw [okEs_cons, Bool.and_eq_true] at h k
    rw [List.map_cons, List.map_cons, PyData.eqvAll, eqv_ok h.1 k.1, eqvs_ok h.2 k.2]; rfl
end
theorem eqD_ok {x y : D} {S : Store} (hx : okE x = true) (hy : okE y = true) (dx : depD x ≤ 64) (dy : depD y ≤ 64) : eqD x y S = some (sameD x y) := by
  have key : (match datS S x, datS S y with
    | some d, some e => if SeqAt.shaped d = true ∧ SeqAt.shaped e = true then some (PyData.eqv d e) else none
    | _, _ => none) = some (sameD x y) := by
    obtain ⟨a1, a2, a3⟩ := dat_ok hx
    obtain ⟨b1, b2, b3⟩ := dat_ok hy
    have ex : datS S x = some (encD x) := by
      cases x <;> first | exact a1 | cases hx
    have ey : datS S y = some (encD y) := by
      cases y <;> first | exact b1 | cases hy
    rw [ex, ey]
    show (if SeqAt.shaped (encD x) = true ∧ SeqAt.shaped (encD y) = true then some (PyData.eqv (encD x) (encD y)) else none) = _
    rw [if_pos, eqv_ok hx hy]
    unfold SeqAt.shaped
    rw [a2, b2, a3, b3]
    exact ⟨by simpa using dx, by simpa using dy⟩
  cases x with
  | tup xs => exact key
  | non => cases y with
    | tup ys => exact key
    | _ => first | rfl | cases hy
  | int i => cases y with
    | tup ys => exact key
    | int j =>
      show (if scal (V.int i) (V.int j) = true then some (decide (V.int i = V.int j)) else none) = some (decide (i = j))
      rw [if_pos (by rfl)]; congr 1; by_cases h : i = j <;> simp [h]
    | non => rfl
    | str s => rfl
    | _ => first | rfl | cases hy
  | str i => cases y with
    | tup ys => exact key
    | str j =>
      show (if scal (V.str i) (V.str j) = true then some (decide (V.str i = V.str j)) else none) = some (decide (i = j))
      rw [if_pos (by rfl)]; congr 1; by_cases h : i = j <;> simp [h]
    | non => rfl
    | int s => rfl
    | _ => first | rfl | cases hy
  | bl _ => cases hx
  | wtp _ => cases hx
  | ref _ => cases hx
  | new _ => cases hx
theorem c_eqE {x y : D} {S : Store} (hx : okE x = true) (hy : okE y = true) (dx : depD x ≤ 64) (dy : depD y ≤ 64) : cmpD .eq x y S = some (sameD x y) := by
  rw [show cmpD .eq x y S = eqD x y S from by cases x <;> cases y <;> rfl, eqD_ok hx hy dx dy]
theorem c_neE {x y : D} {S : Store} (hx : okE x = true) (hy : okE y = true) (dx : depD x ≤ 64) (dy : depD y ≤ 64) : cmpD .ne x y S = some (!sameD x y) := by
  rw [show cmpD .ne x y S = (eqD x y S).map not from by cases x <;> cases y <;> rfl, eqD_ok hx hy dx dy]; rfl
instance : DecidableEq D := fun x y => if h : sameD x y = true then isTrue (sameD_eq x y h) else isFalse fun e => h (by rw [e]; exact sameD_refl y)
theorem sameD_iff {x y : D} : sameD x y = decide (x = y) := by
  rw [Bool.eq_iff_iff]
  constructor
  · intro h; exact decide_eq_true (sameD_eq x y h)
  · intro h; rw [of_decide_eq_true h]; exact sameD_refl y
theorem matE {x : D} {S : Store} (h : okE x = true) : mat x S = (x, S) := mat_data (okE_data h)
theorem matsE {xs : List D} {S : Store} (h : okEs xs = true) : mats xs S = (xs, S) := mats_data (okEs_data h)
end Nv
/-! Nv: functions of the program and draws of the laws, with the places of what they call left open. -/
namespace Nv
open PySem PySem.Spec PyProof.Rows L2
/-- is_whole: 0 thing -/
def B_is_whole : List Nv.St := [
    .ret (.and [(.isi (.var 0) .int), (.not (.isi (.var 0) .bool))])]
def F_is_whole : Nv.Fn := { name := "is_whole", ps := 1, slots := 1, gc := false, body := B_is_whole, pos := true }
/-- is_within: 0 thing, 1 low, 2 high -/
def B_is_within (i_is_whole : Nat) : List Nv.St := [
    .ret (.and [(.call i_is_whole [(.var 0)]), (.chain .le .le (.var 1) (.var 0) (.var 2))])]
def F_is_within (i_is_whole : Nat) : Nv.Fn := { name := "is_within", ps := 3, slots := 3, gc := false, body := B_is_within i_is_whole, pos := true }
/-- is_name: 0 thing, 1 sign -/
def B_is_name (g_LETTERS g_MOST_NAME : Nat) : List Nv.St := [
    .ret (.and [(.isi (.var 0) .str), (.chain .le .le (.int 1) (.blt .len [(.var 0)]) (.glb g_MOST_NAME)), (.blt .all [(.comp [("sign", 1)] (.name 1) (.of (.var 0)) [] (.cmp .inn (.var 1) (.glb g_LETTERS)))])])]
def F_is_name (g_LETTERS g_MOST_NAME : Nat) : Nv.Fn := { name := "is_name", ps := 1, slots := 2, gc := false, body := B_is_name g_LETTERS g_MOST_NAME, pos := true }
/-- rises: 0 things, 1 one, 2 other -/
def B_rises : List Nv.St := [
    .ret (.blt .all [(.comp [("one", 1), ("other", 2)] (.tup [(.name 1), (.name 2)]) (.zip (.var 0) (.slc (.var 0) (some (.int 1)) none)) [] (.cmp .lt (.var 1) (.var 2)))])]
def F_rises : Nv.Fn := { name := "rises", ps := 1, slots := 3, gc := false, body := B_rises, pos := true }
/-- is_pair: 0 thing -/
def B_is_pair (i_is_name g_TOP : Nat) : List Nv.St := [
    .ret (.and [(.isi (.var 0) .tuple), (.cmp .eq (.blt .len [(.var 0)]) (.int 2)), (.call i_is_name [(.idx (.var 0) (.int 0))]), (.call i_is_name [(.idx (.var 0) (.int 1))]), (.cmp .ne (.idx (.var 0) (.int 0)) (.glb g_TOP))])]
def F_is_pair (i_is_name g_TOP : Nat) : Nv.Fn := { name := "is_pair", ps := 1, slots := 1, gc := false, body := B_is_pair i_is_name g_TOP, pos := true }
/-- chain_in: 0 book, 1 kind, 2 table, 3 found -/
def B_chain_in : List Nv.St := [
    .set 2 (.blt .dict [(.var 0)]),
    .set 3 (.lst [(.var 1)]),
    .wh (.and [(.cmp .inn (.idx (.var 3) (.neg (.int 1))) (.var 2)), (.cmp .le (.blt .len [(.var 3)]) (.blt .len [(.var 2)]))]) [
      .expr (.bm .append (.var 3) [(.idx (.var 2) (.idx (.var 3) (.neg (.int 1))))])],
    .ret (.var 3)]
def F_chain_in : Nv.Fn := { name := "chain_in", ps := 2, slots := 4, gc := true, body := B_chain_in, pos := true }
/-- is_book: 0 thing, 1 one -/
def B_is_book (i_chain_in i_is_pair i_rises g_MOST_KINDS g_TOP : Nat) : List Nv.St := [
    .ite (.or [(.not (.isi (.var 0) .tuple)), (.cmp .gt (.blt .len [(.var 0)]) (.glb g_MOST_KINDS)), (.not (.blt .all [(.comp [("one", 1)] (.name 1) (.of (.var 0)) [] (.call i_is_pair [(.var 1)]))]))]) [
      .ret (.bl false)] [],
    .ret (.and [(.call i_rises [(.comp [("one", 1)] (.name 1) (.of (.var 0)) [] (.idx (.var 1) (.int 0)))]), (.blt .all [(.comp [("one", 1)] (.name 1) (.of (.var 0)) [] (.cmp .eq (.idx (.call i_chain_in [(.var 0), (.idx (.var 1) (.int 0))]) (.neg (.int 1))) (.glb g_TOP)))])])]
def F_is_book (i_chain_in i_is_pair i_rises g_MOST_KINDS g_TOP : Nat) : Nv.Fn := { name := "is_book", ps := 1, slots := 2, gc := true, body := B_is_book i_chain_in i_is_pair i_rises g_MOST_KINDS g_TOP, pos := true }
/-- look_at_book: 0 book -/
def B_look_at_book (i_is_book : Nat) : List Nv.St := [
    .ite (.not (.call i_is_book [(.var 0)])) [
      .raise] []]
def F_look_at_book (i_is_book : Nat) : Nv.Fn := { name := "look_at_book", ps := 1, slots := 1, gc := false, body := B_look_at_book i_is_book, pos := true }
/-- is_kind: 0 book, 1 thing -/
def B_is_kind (g_TOP : Nat) : List Nv.St := [
    .ret (.and [(.isi (.var 1) .str), (.or [(.cmp .eq (.var 1) (.glb g_TOP)), (.cmp .inn (.var 1) (.blt .dict [(.var 0)]))])])]
def F_is_kind (g_TOP : Nat) : Nv.Fn := { name := "is_kind", ps := 2, slots := 2, gc := false, body := B_is_kind g_TOP, pos := true }
/-- cause_of: 0 fault -/
def B_cause_of : List Nv.St := [
    .ret (.idx (.var 0) (.neg (.int 1)))]
def F_cause_of : Nv.Fn := { name := "cause_of", ps := 1, slots := 1, gc := false, body := B_cause_of, pos := true }
/-- ones_in: 0 fault, 1 found, 2 left, 3 here, 4 some -/
def B_ones_in (i_cause_of : Nat) : List Nv.St := [
    .set 1 (.lst []),
    .set 2 (.lst [(.var 0)]),
    .wh (.cmp .ne (.var 2) (.lst [])) [
      .set 3 (.bm .popAt (.var 2) [(.int 0)]),
      .ite (.cmp .eq (.idx (.var 3) (.int 0)) (.str "one")) [
        .expr (.bm .append (.var 1) [(.var 3)])] [],
      .set 4 (.ite (.cmp .eq (.idx (.var 3) (.int 0)) (.str "many")) (.blt .list [(.idx (.var 3) (.int 1))]) (.lst [])),
      .ite (.cmp .notN (.call i_cause_of [(.var 3)]) .non) [
        .expr (.bm .append (.var 4) [(.call i_cause_of [(.var 3)])])] [],
      .set 2 (.bin .add (.var 4) (.var 2))],
    .ret (.var 1)]
def F_ones_in (i_cause_of : Nat) : Nv.Fn := { name := "ones_in", ps := 1, slots := 5, gc := true, body := B_ones_in i_cause_of, pos := true }
/-- is_formed: 0 book, 1 thing, 2 deep, 3 good, 4 one -/
def B_is_formed (i_cause_of i_is_formed i_is_kind i_is_within g_MOST_MEMBERS g_MOST_NOTE g_MOST_NUMBER : Nat) : List Nv.St := [
    .ite (.or [(.cmp .eq (.var 2) (.int 0)), (.not (.isi (.var 1) .tuple)), (.cmp .eq (.var 1) (.tup [])), (.not (.isi (.idx (.var 1) (.int 0)) .str))]) [
      .ret (.bl false)] [],
    .ite (.cmp .eq (.idx (.var 1) (.int 0)) (.str "one")) [
      .ite (.or [(.cmp .ne (.blt .len [(.var 1)]) (.int 5)), (.not (.call i_is_within [(.idx (.var 1) (.int 1)), (.int 0), (.glb g_MOST_NUMBER)])), (.not (.call i_is_kind [(.var 0), (.idx (.var 1) (.int 2))]))]) [
        .ret (.bl false)] [],
      .set 3 (.call i_is_within [(.idx (.var 1) (.int 3)), (.int 0), (.glb g_MOST_NOTE)])] [
      .ite (.cmp .eq (.idx (.var 1) (.int 0)) (.str "many")) [
        .ite (.or [(.cmp .ne (.blt .len [(.var 1)]) (.int 3)), (.not (.isi (.idx (.var 1) (.int 1)) .tuple)), (.not (.chain .le .le (.int 1) (.blt .len [(.idx (.var 1) (.int 1))]) (.glb g_MOST_MEMBERS)))]) [
          .ret (.bl false)] [],
        .set 3 (.blt .all [(.comp [("one", 4)] (.name 4) (.of (.idx (.var 1) (.int 1))) [] (.call i_is_formed [(.var 0), (.var 4), (.bin .sub (.var 2) (.int 1))]))])] [
        .set 3 (.bl false)]],
    .ret (.and [(.var 3), (.or [(.cmp .isN (.call i_cause_of [(.var 1)]) .non), (.call i_is_formed [(.var 0), (.call i_cause_of [(.var 1)]), (.bin .sub (.var 2) (.int 1))])])])]
def F_is_formed (i_cause_of i_is_formed i_is_kind i_is_within g_MOST_MEMBERS g_MOST_NOTE g_MOST_NUMBER : Nat) : Nv.Fn := { name := "is_formed", ps := 3, slots := 5, gc := false, body := B_is_formed i_cause_of i_is_formed i_is_kind i_is_within g_MOST_MEMBERS g_MOST_NOTE g_MOST_NUMBER, pos := true }
/-- numbers_agree: 0 fault, 1 table, 2 one -/
def B_numbers_agree (i_ones_in : Nat) : List Nv.St := [
    .set 1 (.dct []),
    .forr (.name 2) (.of (.call i_ones_in [(.var 0)])) [
      .ite (.cmp .ne (.bm .setdefault (.var 1) [(.idx (.var 2) (.int 1)), (.slc (.var 2) (some (.int 2)) (some (.int 4)))]) (.slc (.var 2) (some (.int 2)) (some (.int 4)))) [
        .ret (.bl false)] []] none,
    .ret (.bl true)]
def F_numbers_agree (i_ones_in : Nat) : Nv.Fn := { name := "numbers_agree", ps := 1, slots := 3, gc := true, body := B_numbers_agree i_ones_in, pos := true }
/-- is_fault: 0 book, 1 thing -/
def B_is_fault (i_is_formed i_look_at_book i_numbers_agree i_ones_in g_MOST_DEEP g_MOST_ONES : Nat) : List Nv.St := [
    .expr (.call i_look_at_book [(.var 0)]),
    .ret (.and [(.call i_is_formed [(.var 0), (.var 1), (.glb g_MOST_DEEP)]), (.cmp .le (.blt .len [(.call i_ones_in [(.var 1)])]) (.glb g_MOST_ONES)), (.call i_numbers_agree [(.var 1)])])]
def F_is_fault (i_is_formed i_look_at_book i_numbers_agree i_ones_in g_MOST_DEEP g_MOST_ONES : Nat) : Nv.Fn := { name := "is_fault", ps := 2, slots := 2, gc := false, body := B_is_fault i_is_formed i_look_at_book i_numbers_agree i_ones_in g_MOST_DEEP g_MOST_ONES, pos := true }
/-- caused: 0 fault, 1 cause -/
def B_caused (i_cause_of : Nat) : List Nv.St := [
    .ite (.or [(.cmp .isN (.var 1) .non), (.cmp .eq (.var 0) (.var 1)), (.cmp .notN (.call i_cause_of [(.var 0)]) .non)]) [
      .ret (.var 0)] [],
    .ret (.bin .add (.slc (.var 0) none (some (.neg (.int 1)))) (.tup [(.var 1)]))]
def F_caused (i_cause_of : Nat) : Nv.Fn := { name := "caused", ps := 2, slots := 2, gc := false, body := B_caused i_cause_of, pos := true }
/-- shifted: 0 fault, 1 by, 2 cause, 3 member -/
def B_shifted (i_cause_of i_shifted : Nat) : List Nv.St := [
    .ite (.cmp .isN (.var 0) .non) [
      .ret .non] [],
    .set 2 (.call i_shifted [(.call i_cause_of [(.var 0)]), (.var 1)]),
    .ite (.cmp .eq (.idx (.var 0) (.int 0)) (.str "one")) [
      .ret (.tup [(.str "one"), (.bin .add (.idx (.var 0) (.int 1)) (.var 1)), (.idx (.var 0) (.int 2)), (.idx (.var 0) (.int 3)), (.var 2)])] [],
    .ret (.tup [(.str "many"), (.blt .tuple [(.comp [("member", 3)] (.name 3) (.of (.idx (.var 0) (.int 1))) [] (.call i_shifted [(.var 3), (.var 1)]))]), (.var 2)])]
def F_shifted (i_cause_of i_shifted : Nat) : Nv.Fn := { name := "shifted", ps := 2, slots := 4, gc := false, body := B_shifted i_cause_of i_shifted, pos := true }
/-- is_result: 0 book, 1 thing, 2 note -/
def B_is_result (i_is_fault i_is_within i_look_at_book g_MOST_COUNT g_MOST_NOTE g_MOST_NOTES g_WORDS : Nat) : List Nv.St := [
    .expr (.call i_look_at_book [(.var 0)]),
    .ite (.or [(.not (.isi (.var 1) .tuple)), (.cmp .ne (.blt .len [(.var 1)]) (.int 4)), (.not (.isi (.idx (.var 1) (.int 0)) .str)), (.cmp .nin (.idx (.var 1) (.int 0)) (.glb g_WORDS))]) [
      .ret (.bl false)] [],
    .ite (.or [(.not (.isi (.idx (.var 1) (.int 1)) .tuple)), (.cmp .gt (.blt .len [(.idx (.var 1) (.int 1))]) (.glb g_MOST_NOTES)), (.not (.call i_is_within [(.idx (.var 1) (.int 2)), (.int 0), (.glb g_MOST_COUNT)]))]) [
      .ret (.bl false)] [],
    .ite (.not (.blt .all [(.comp [("note", 2)] (.name 2) (.of (.idx (.var 1) (.int 1))) [] (.call i_is_within [(.var 2), (.int 0), (.glb g_MOST_NOTE)]))])) [
      .ret (.bl false)] [],
    .ret (.ite (.cmp .eq (.idx (.var 1) (.int 0)) (.str "bad")) (.call i_is_fault [(.var 0), (.idx (.var 1) (.int 3))]) (.cmp .isN (.idx (.var 1) (.int 3)) .non))]
def F_is_result (i_is_fault i_is_within i_look_at_book g_MOST_COUNT g_MOST_NOTE g_MOST_NOTES g_WORDS : Nat) : Nv.Fn := { name := "is_result", ps := 2, slots := 3, gc := false, body := B_is_result i_is_fault i_is_within i_look_at_book g_MOST_COUNT g_MOST_NOTE g_MOST_NOTES g_WORDS, pos := true }
/-- then: 0 one, 1 other -/
def B_then (i_shifted : Nat) : List Nv.St := [
    .ite (.cmp .ne (.idx (.var 0) (.int 0)) (.str "done")) [
      .ret (.var 0)] [],
    .ret (.tup [(.idx (.var 1) (.int 0)), (.bin .add (.idx (.var 0) (.int 1)) (.idx (.var 1) (.int 1))), (.bin .add (.idx (.var 0) (.int 2)) (.idx (.var 1) (.int 2))), (.call i_shifted [(.idx (.var 1) (.int 3)), (.idx (.var 0) (.int 2))])])]
def F_then (i_shifted : Nat) : Nv.Fn := { name := "then", ps := 2, slots := 2, gc := false, body := B_then i_shifted, pos := true }
/-- ensured: 0 one, 1 other, 2 notes, 3 count -/
def B_ensured (i_caused i_shifted : Nat) : List Nv.St := [
    .set 2 (.bin .add (.idx (.var 0) (.int 1)) (.idx (.var 1) (.int 1))),
    .set 3 (.bin .add (.idx (.var 0) (.int 2)) (.idx (.var 1) (.int 2))),
    .ite (.cmp .eq (.idx (.var 1) (.int 0)) (.str "bad")) [
      .ret (.tup [(.str "bad"), (.var 2), (.var 3), (.call i_caused [(.call i_shifted [(.idx (.var 1) (.int 3)), (.idx (.var 0) (.int 2))]), (.idx (.var 0) (.int 3))])])] [],
    .ret (.tup [(.idx (.var 0) (.int 0)), (.var 2), (.var 3), (.idx (.var 0) (.int 3))])]
def F_ensured (i_caused i_shifted : Nat) : Nv.Fn := { name := "ensured", ps := 2, slots := 4, gc := false, body := B_ensured i_caused i_shifted, pos := true }
/-- chained: 0 book, 1 results, 2 found, 3 one -/
def B_chained (i_is_result i_look_at_book i_then : Nat) : List Nv.St := [
    .expr (.call i_look_at_book [(.var 0)]),
    .set 2 (.tup [(.str "done"), (.tup []), (.int 0), .non]),
    .forr (.name 3) (.of (.var 1)) [
      .ite (.not (.call i_is_result [(.var 0), (.var 3)])) [
        .raise] [],
      .set 2 (.call i_then [(.var 2), (.var 3)])] none,
    .ret (.var 2)]
def F_chained (i_is_result i_look_at_book i_then : Nat) : Nv.Fn := { name := "chained", ps := 2, slots := 4, gc := true, body := B_chained i_is_result i_look_at_book i_then, pos := true }
/-- _law_well: 0 cell, 1 turn -/
def B_law_well : List Nv.St := [
    .ite (.cmp .ge (.var 0) (.bin .pow (.int 10) (.int 18))) [
      .ret (.lst [(.bin .sub (.var 0) (.bin .pow (.int 10) (.int 18))), (.bin .mod (.var 0) (.int 2305843009213693951)), (.var 1)])] [],
    .ret (.lst [(.int 0), (.bin .mod (.var 0) (.int 2305843009213693951)), (.var 1)])]
def F_law_well : Nv.Fn := { name := "_law_well", ps := 2, slots := 2, gc := false, body := B_law_well, pos := true }
/-- _law_take: 0 bag, 1 many, 2 found, 3 p, 4 n -/
def B_law_take : List Nv.St := [
    .ite (.cmp .gt (.idx (.var 0) (.int 0)) (.int 0)) [
      .set 2 (.bin .mod (.idx (.var 0) (.int 0)) (.var 1)),
      .sub (.var 0) (.int 0) (.bin .fdiv (.idx (.var 0) (.int 0)) (.var 1)),
      .ret (.var 2)] [],
    .sub (.var 0) (.int 2) (.bin .add (.idx (.var 0) (.int 2)) (.int 1)),
    .set 3 (.int 2305843009213693951),
    .set 4 (.bin .mod (.bin .add (.idx (.var 0) (.int 1)) (.bin .mul (.int 1000003) (.idx (.var 0) (.int 2)))) (.var 3)),
    .set 4 (.bin .mod (.bin .add (.bin .add (.bin .mul (.var 4) (.var 4)) (.bin .mul (.int 7919) (.bin .pow (.idx (.var 0) (.int 2)) (.int 2)))) (.int 5)) (.var 3)),
    .ret (.bin .mod (.bin .fdiv (.bin .mod (.bin .pow (.var 4) (.int 3)) (.var 3)) (.int 13)) (.var 1))]
def F_law_take : Nv.Fn := { name := "_law_take", ps := 2, slots := 5, gc := false, body := B_law_take, pos := true }
/-- _law_bags: 0 script, 1 most, 2 k, 3 cell -/
def B_law_bags (i__law_well : Nat) : List Nv.St := [
    .ret (.comp [("k", 2), ("cell", 3)] (.tup [(.name 2), (.name 3)]) (.enum (.bin .add (.slc (.var 0) none (some (.var 1))) (.lst [(.int 0)]))) [] (.call i__law_well [(.var 3), (.bin .mul (.int 977) (.var 2))]))]
def F_law_bags (i__law_well : Nat) : Nv.Fn := { name := "_law_bags", ps := 2, slots := 4, gc := false, body := B_law_bags i__law_well, pos := true }
/-- _law_tree: 0 bag, 1 names, 2 rows, 3 k, 4 name -/
def B_law_tree (i__law_take : Nat) : List Nv.St := [
    .set 1 (.slc (.lst [(.str "disk"), (.str "late"), (.str "net"), (.str "zip")]) none (some (.call i__law_take [(.var 0), (.int 5)]))),
    .set 2 (.lst []),
    .forr (.tup [(.name 3), (.name 4)]) (.enum (.var 1)) [
      .expr (.bm .append (.var 2) [(.tup [(.var 4), (.idx (.bin .add (.lst [(.str "fault")]) (.slc (.var 1) none (some (.var 3)))) (.call i__law_take [(.var 0), (.bin .add (.var 3) (.int 1))]))])])] none,
    .ret (.blt .tuple [(.var 2)])]
def F_law_tree (i__law_take : Nat) : Nv.Fn := { name := "_law_tree", ps := 1, slots := 5, gc := true, body := B_law_tree i__law_take, pos := true }
/-- _law_a_kind: 0 bag, 1 book, 2 names, 3 row -/
def B_law_a_kind (i__law_take : Nat) : List Nv.St := [
    .set 2 (.bin .add (.comp [("row", 3)] (.name 3) (.of (.var 1)) [] (.idx (.var 3) (.int 0))) (.lst [(.str "fault")])),
    .ret (.idx (.var 2) (.call i__law_take [(.var 0), (.blt .len [(.var 2)])]))]
def F_law_a_kind (i__law_take : Nat) : Nv.Fn := { name := "_law_a_kind", ps := 2, slots := 4, gc := true, body := B_law_a_kind i__law_take, pos := true }
/-- _law_result: 0 bag, 1 book, 2 marks, 3 way, 4 turn -/
def B_law_result (i__law_small i__law_take : Nat) : List Nv.St := [
    .set 2 (.blt .tuple [(.comp [("turn", 4)] (.name 4) (.range [(.call i__law_take [(.var 0), (.int 4)])]) [] (.call i__law_take [(.var 0), (.int 1000)]))]),
    .set 3 (.call i__law_take [(.var 0), (.int 5)]),
    .ite (.cmp .lt (.var 3) (.int 3)) [
      .ret (.tup [(.str "done"), (.var 2), (.call i__law_take [(.var 0), (.int 5)]), .non])] [],
    .ite (.cmp .eq (.var 3) (.int 3)) [
      .ret (.tup [(.str "left"), (.var 2), (.call i__law_take [(.var 0), (.int 5)]), .non])] [],
    .ret (.tup [(.str "bad"), (.var 2), (.bin .add (.int 40) (.call i__law_take [(.var 0), (.int 9)])), (.call i__law_small [(.var 0), (.var 1), (.int 2), (.lst [(.int 0)])])])]
def F_law_result (i__law_small i__law_take : Nat) : Nv.Fn := { name := "_law_result", ps := 2, slots := 5, gc := true, body := B_law_result i__law_small i__law_take, pos := true }
/-- _law_small: 0 bag, 1 book, 2 deep, 3 count, 4 rows, 5 number, 6 cause, 7 turn -/
def B_law_small (i__law_a_kind i__law_small i__law_take : Nat) : List Nv.St := [
    .ite (.and [(.cmp .gt (.var 2) (.int 0)), (.cmp .eq (.call i__law_take [(.var 0), (.int 3)]) (.int 0))]) [
      .set 4 (.blt .tuple [(.comp [("turn", 7)] (.name 7) (.range [(.bin .add (.int 1) (.call i__law_take [(.var 0), (.int 3)]))]) [] (.call i__law_small [(.var 0), (.var 1), (.bin .sub (.var 2) (.int 1)), (.var 3)]))]),
      .ret (.tup [(.str "many"), (.var 4), (.ite (.cmp .eq (.call i__law_take [(.var 0), (.int 5)]) (.int 0)) (.call i__law_small [(.var 0), (.var 1), (.bin .sub (.var 2) (.int 1)), (.var 3)]) .non)])] [],
    .sub (.var 3) (.int 0) (.bin .add (.idx (.var 3) (.int 0)) (.int 1)),
    .set 5 (.idx (.var 3) (.int 0)),
    .set 6 (.ite (.and [(.cmp .gt (.var 2) (.int 0)), (.cmp .eq (.call i__law_take [(.var 0), (.int 3)]) (.int 0))]) (.call i__law_small [(.var 0), (.var 1), (.bin .sub (.var 2) (.int 1)), (.var 3)]) .non),
    .ret (.tup [(.str "one"), (.var 5), (.call i__law_a_kind [(.var 0), (.var 1)]), (.call i__law_take [(.var 0), (.int 1000)]), (.var 6)])]
def F_law_small (i__law_a_kind i__law_small i__law_take : Nat) : Nv.Fn := { name := "_law_small", ps := 4, slots := 8, gc := false, body := B_law_small i__law_a_kind i__law_small i__law_take, pos := true }
/-- look_at_kind: 0 book, 1 kind -/
def B_look_at_kind (i_is_kind : Nat) : List Nv.St := [
    .ite (.not (.call i_is_kind [(.var 0), (.var 1)])) [
      .raise] []]
def F_look_at_kind (i_is_kind : Nat) : Nv.Fn := { name := "look_at_kind", ps := 2, slots := 2, gc := false, body := B_look_at_kind i_is_kind, pos := true }
/-- above: 0 book, 1 kind -/
def B_above (i_chain_in i_look_at_book i_look_at_kind : Nat) : List Nv.St := [
    .expr (.call i_look_at_book [(.var 0)]),
    .expr (.call i_look_at_kind [(.var 0), (.var 1)]),
    .ret (.call i_chain_in [(.var 0), (.var 1)])]
def F_above (i_chain_in i_look_at_book i_look_at_kind : Nat) : Nv.Fn := { name := "above", ps := 2, slots := 2, gc := true, body := B_above i_chain_in i_look_at_book i_look_at_kind, pos := true }
/-- is_under: 0 book, 1 kind, 2 other -/
def B_is_under (i_chain_in i_look_at_book i_look_at_kind : Nat) : List Nv.St := [
    .expr (.call i_look_at_book [(.var 0)]),
    .expr (.call i_look_at_kind [(.var 0), (.var 1)]),
    .expr (.call i_look_at_kind [(.var 0), (.var 2)]),
    .ret (.cmp .inn (.var 2) (.call i_chain_in [(.var 0), (.var 1)]))]
def F_is_under (i_chain_in i_look_at_book i_look_at_kind : Nat) : Nv.Fn := { name := "is_under", ps := 3, slots := 3, gc := false, body := B_is_under i_chain_in i_look_at_book i_look_at_kind, pos := true }
/-- below: 0 book, 1 kind, 2 some, 3 one -/
def B_below (i_chain_in i_look_at_book i_look_at_kind g_TOP : Nat) : List Nv.St := [
    .expr (.call i_look_at_book [(.var 0)]),
    .expr (.call i_look_at_kind [(.var 0), (.var 1)]),
    .set 2 (.bin .add (.comp [("one", 3)] (.name 3) (.of (.var 0)) [] (.idx (.var 3) (.int 0))) (.lst [(.glb g_TOP)])),
    .ret (.blt .sorted [(.comp [("one", 3)] (.name 3) (.of (.var 2)) [(.cmp .inn (.var 1) (.call i_chain_in [(.var 0), (.var 3)]))] (.var 3))])]
def F_below (i_chain_in i_look_at_book i_look_at_kind g_TOP : Nat) : Nv.Fn := { name := "below", ps := 2, slots := 4, gc := true, body := B_below i_chain_in i_look_at_book i_look_at_kind g_TOP, pos := true }
/-- nearest: 0 book, 1 one, 2 other, 3 table, 4 kind -/
def B_nearest (i_chain_in i_look_at_book i_look_at_kind : Nat) : List Nv.St := [
    .expr (.call i_look_at_book [(.var 0)]),
    .expr (.call i_look_at_kind [(.var 0), (.var 1)]),
    .expr (.call i_look_at_kind [(.var 0), (.var 2)]),
    .set 3 (.dcomp [("kind", 4)] (.name 4) (.of (.call i_chain_in [(.var 0), (.var 2)])) [] (.var 4) (.bl true)),
    .ret (.idx (.comp [("kind", 4)] (.name 4) (.of (.call i_chain_in [(.var 0), (.var 1)])) [(.cmp .inn (.var 4) (.var 3))] (.var 4)) (.int 0))]
def F_nearest (i_chain_in i_look_at_book i_look_at_kind : Nat) : Nv.Fn := { name := "nearest", ps := 3, slots := 5, gc := true, body := B_nearest i_chain_in i_look_at_book i_look_at_kind, pos := true }
/-- _law_same: 0 a, 1 b, 2 x, 3 y -/
def B_law_same (i__law_same : Nat) : List Nv.St := [
    .ite (.or [(.and [(.isi (.var 0) .list), (.isi (.var 1) .list)]), (.and [(.isi (.var 0) .tuple), (.isi (.var 1) .tuple)])]) [
      .ret (.and [(.cmp .eq (.blt .len [(.var 0)]) (.blt .len [(.var 1)])), (.blt .all [(.comp [("x", 2), ("y", 3)] (.tup [(.name 2), (.name 3)]) (.zip (.var 0) (.var 1)) [] (.call i__law_same [(.var 2), (.var 3)]))])])] [],
    .ite (.or [(.isi (.var 0) .blt), (.isi (.var 1) .blt)]) [
      .ret (.and [(.isi (.var 0) .bool), (.isi (.var 1) .bool), (.cmp .eq (.var 0) (.var 1))])] [],
    .ite (.or [(.isi (.var 0) .int), (.isi (.var 1) .int)]) [
      .ret (.and [(.isi (.var 0) .int), (.isi (.var 1) .int), (.cmp .eq (.var 0) (.var 1))])] [],
    .ite (.or [(.isi (.var 0) .str), (.isi (.var 1) .str)]) [
      .ret (.and [(.isi (.var 0) .str), (.isi (.var 1) .str), (.cmp .eq (.var 0) (.var 1))])] [],
    .ret (.and [(.cmp .isN (.var 0) .non), (.cmp .isN (.var 1) .non)])]
def F_law_same (i__law_same : Nat) : Nv.Fn := { name := "_law_same", ps := 2, slots := 4, gc := false, body := B_law_same i__law_same, pos := true }
/-- _law_name: 0 bag, 1 letters, 2 k -/
def B_law_name (i__law_take : Nat) : List Nv.St := [
    .ite (.cmp .gt (.call i__law_take [(.var 0), (.int 4)]) (.int 0)) [
      .ret (.idx (.lst [(.str "a"), (.str "b"), (.str "c"), (.str "disk"), (.str "net"), (.str "late"), (.str "z")]) (.call i__law_take [(.var 0), (.int 7)]))] [],
    .set 1 (.str "abcdefghijklmnopqrstuvwxyz"),
    .ret (.bm .join (.str "") [(.comp [("k", 2)] (.name 2) (.range [(.idx (.lst [(.int 1), (.int 2), (.int 8)]) (.call i__law_take [(.var 0), (.int 3)]))]) [] (.idx (.var 1) (.call i__law_take [(.var 0), (.int 26)])))])]
def F_law_name (i__law_take : Nat) : Nv.Fn := { name := "_law_name", ps := 1, slots := 3, gc := false, body := B_law_name i__law_take, pos := true }
/-- _law_some_names: 0 bag, 1 many, 2 found, 3 k, 4 name -/
def B_law_some_names (i__law_name : Nat) : List Nv.St := [
    .set 2 (.lst []),
    .forr (.name 3) (.range [(.var 1)]) [
      .set 4 (.call i__law_name [(.var 0)]),
      .ite (.and [(.cmp .nin (.var 4) (.var 2)), (.cmp .ne (.var 4) (.str "fault"))]) [
        .expr (.bm .append (.var 2) [(.var 4)])] []] none,
    .ret (.blt .sorted [(.var 2)])]
def F_law_some_names (i__law_name : Nat) : Nv.Fn := { name := "_law_some_names", ps := 2, slots := 5, gc := false, body := B_law_some_names i__law_name, pos := true }
/-- _law_book: 0 bag, 1 most, 2 names, 3 order, 4 name, 5 rows, 6 k -/
def B_law_book (i__law_some_names i__law_take : Nat) : List Nv.St := [
    .set 2 (.call i__law_some_names [(.var 0), (.call i__law_take [(.var 0), (.bin .add (.var 1) (.int 1))])]),
    .set 3 (.lst []),
    .forr (.name 4) (.of (.var 2)) [
      .expr (.bm .insert (.var 3) [(.call i__law_take [(.var 0), (.bin .add (.blt .len [(.var 3)]) (.int 1))]), (.var 4)])] none,
    .set 5 (.lst []),
    .forr (.tup [(.name 6), (.name 4)]) (.enum (.var 3)) [
      .expr (.bm .append (.var 5) [(.tup [(.var 4), (.idx (.bin .add (.lst [(.str "fault")]) (.slc (.var 3) none (some (.var 6)))) (.call i__law_take [(.var 0), (.bin .add (.var 6) (.int 1))]))])])] none,
    .ret (.blt .tuple [(.blt .sorted [(.var 5)])])]
def F_law_book (i__law_some_names i__law_take : Nat) : Nv.Fn := { name := "_law_book", ps := 2, slots := 7, gc := false, body := B_law_book i__law_some_names i__law_take, pos := true }
/-- _law_chain: 0 book, 1 kind, 2 found -/
def B_law_chain : List Nv.St := [
    .set 2 (.lst [(.var 1)]),
    .wh (.cmp .ne (.idx (.var 2) (.neg (.int 1))) (.str "fault")) [
      .expr (.bm .append (.var 2) [(.idx (.blt .dict [(.var 0)]) (.idx (.var 2) (.neg (.int 1))))])],
    .ret (.var 2)]
def F_law_chain : Nv.Fn := { name := "_law_chain", ps := 2, slots := 3, gc := false, body := B_law_chain, pos := true }
/-- _law_in: 0 x, 1 low, 2 high -/
def B_law_in : List Nv.St := [
    .ret (.and [(.isi (.var 0) .int), (.not (.isi (.var 0) .bool)), (.chain .le .le (.var 1) (.var 0) (.var 2))])]
def F_law_in : Nv.Fn := { name := "_law_in", ps := 3, slots := 3, gc := false, body := B_law_in, pos := true }
/-- _law_good: 0 book, 1 x, 2 note -/
def B_law_good (i__law_in i_is_fault : Nat) : List Nv.St := [
    .ite (.or [(.not (.isi (.var 1) .tuple)), (.cmp .ne (.blt .len [(.var 1)]) (.int 4)), (.not (.isi (.idx (.var 1) (.int 0)) .str)), (.cmp .nin (.idx (.var 1) (.int 0)) (.tup [(.str "done"), (.str "left"), (.str "bad")]))]) [
      .ret (.bl false)] [],
    .ite (.or [(.not (.isi (.idx (.var 1) (.int 1)) .tuple)), (.cmp .gt (.blt .len [(.idx (.var 1) (.int 1))]) (.int 400)), (.cmp .ne (.comp [("note", 2)] (.name 2) (.of (.idx (.var 1) (.int 1))) [(.not (.call i__law_in [(.var 2), (.int 0), (.int 999)]))] (.var 2)) (.lst []))]) [
      .ret (.bl false)] [],
    .ite (.not (.call i__law_in [(.idx (.var 1) (.int 2)), (.int 0), (.int 1000)])) [
      .ret (.bl false)] [],
    .ret (.ite (.cmp .eq (.idx (.var 1) (.int 0)) (.str "bad")) (.call i_is_fault [(.var 0), (.idx (.var 1) (.int 3))]) (.cmp .isN (.idx (.var 1) (.int 3)) .non))]
def F_law_good (i__law_in i_is_fault : Nat) : Nv.Fn := { name := "_law_good", ps := 2, slots := 3, gc := false, body := B_law_good i__law_in i_is_fault, pos := true }
end Nv
/-! Nv: the laws' own draws. -/
namespace Nv
open PySem PySem.Spec PyProof.Rows L2
/-! ### sizes -/
theorem log2_lt {n k : Nat} (h : n < 2 ^ k) (hk : 0 < k) : n.log2 < k := by
  by_cases h0 : n = 0
  · subst h0; simpa using hk
  · exact (Nat.log2_lt h0).mpr h
theorem mul_ok {a b : Int} (ha : a.natAbs < 2 ^ 64) (hb : b.natAbs < 2 ^ 64) : a.natAbs.log2 + b.natAbs.log2 < 1000000 := by
  have := log2_lt ha (by decide)
  have := log2_lt hb (by decide)
  omega
/-- a bag: x the digits that are left, y the seed, z the turn -/
def bag (x y z : Int) : O := .lst [.int x, .int y, .int z]
/-- a bag that is in order, at most k draws from the start -/
def BagOk (k : Int) (o : O) : Prop := ∃ x y z, o = bag x y z ∧ 0 ≤ y ∧ y < 2305843009213693951 ∧ 0 ≤ z ∧ z ≤ k
theorem BagOk.mono {k l : Int} {o : O} (h : BagOk k o) (hl : k ≤ l) : BagOk l o := let ⟨x, y, z, h1, h2, h3, h4, h5⟩ := h; ⟨x, y, z, h1, h2, h3, h4, by omega⟩
theorem take_ok {P : Prog} {d i : Nat} (hf : P.fns[i]? = some F_law_take) {S : Store} {b : Nat} {o : O} {k many : Int} (h : S[b]? = some o) (ho : BagOk k o)
    (hk : k < 2 ^ 62) (h0 : 0 < many) (h1 : many < 2 ^ 63) {Q : D → Store → Prop} (hQ : ∀ r o', 0 ≤ r → r < many → BagOk (k + 1) o' → Q (.int r) (S.set b o')) : wp ((sm P (d + 1)).call i [.ref b, .int many] S) Q := by
  obtain ⟨x, y, z, rfl, hy, hy2, hz, hz2⟩ := ho
  have hlt : b < S.length := (List.getElem?_eq_some_iff.mp h).1
  have hl : many.natAbs.log2 < 9000 := by
    have : many.natAbs < 2 ^ 64 := by omega
    have := log2_lt this (by decide)
    omega
  refine wp_call hf rfl (Nat.le_of_ble_eq_true rfl) ?_
  show wp (evalSs P (sm P d) B_law_take [some (.ref b), some (.int many), none, none, none] S) _
  have hS := s_lst h
  refine wp_cons (wp_S_ite ?_)
  simp only [we_var, we_non, we_bl, we_int, we_str, we_glb, ws_nil, ws_cons, we_tup, we_lst, we_bin, we_neg, we_cmp, we_chain, we_and1, we_or1, we_and, we_or, we_not, we_ite, we_idx, wo_none, wo_some, we_slc, we_attr, we_call, we_meth, we_make, we_makek, wmake, we_blt, we_bm, we_isi, we_comp, wf_nil, wf_one, wt_tru, wi_of, wi_range, wi_enum, wg_name, wg_tup, wg_wtp, wg_nil, wg_cons, optQ_some, optQ_if, optQ_map, optQ_bind, tst_bl, tst_non, tst_int, b_add, b_sub, b_mul, b_fdiv, b_mod, b_pow, c_lt, c_le, c_gt, c_ge, c_eqI, c_neI, c_isI, c_notI, c_isN, c_notN, i_ii, i_ib, n_i, d_i, l_min, l_max, x_ref, x_new, x_tup, s_new, s_tup, y_new, at_0, at_1, at_2, mat_int, mat_bl, mat_str, mat_non, mat_ref, mats_nil, mats_cons, mat_tup, Option.isSome_some, List.getElem?_cons_zero, List.getElem?_cons_succ, List.set_cons_zero, List.set_cons_succ, decide_eq_true_eq, decide_eq_false_iff_not, wp_ok, hS]
  refine ⟨fun hx => ?_, fun hx => ?_⟩
  · refine wp_cons (wp_S_set ?_)
    simp only [we_var, we_non, we_bl, we_int, we_str, we_glb, ws_nil, ws_cons, we_tup, we_lst, we_bin, we_neg, we_cmp, we_chain, we_and1, we_or1, we_and, we_or, we_not, we_ite, we_idx, wo_none, wo_some, we_slc, we_attr, we_call, we_meth, we_make, we_makek, wmake, we_blt, we_bm, we_isi, we_comp, wf_nil, wf_one, wt_tru, wi_of, wi_range, wi_enum, wg_name, wg_tup, wg_wtp, wg_nil, wg_cons, optQ_some, optQ_if, optQ_map, optQ_bind, tst_bl, tst_non, tst_int, b_add, b_sub, b_mul, b_fdiv, b_mod, b_pow, c_lt, c_le, c_gt, c_ge, c_eqI, c_neI, c_isI, c_notI, c_isN, c_notN, i_ii, i_ib, n_i, d_i, l_min, l_max, x_ref, x_new, x_tup, s_new, s_tup, y_new, at_0, at_1, at_2, mat_int, mat_bl, mat_str, mat_non, mat_ref, mats_nil, mats_cons, mat_tup, Option.isSome_some, List.getElem?_cons_zero, List.getElem?_cons_succ, List.set_cons_zero, List.set_cons_succ, decide_eq_true_eq, decide_eq_false_iff_not, wp_ok, hS]
    refine ⟨h0, ?_⟩
    refine wp_cons (wp_S_sub ?_)
    simp only [we_var, we_non, we_bl, we_int, we_str, we_glb, ws_nil, ws_cons, we_tup, we_lst, we_bin, we_neg, we_cmp, we_chain, we_and1, we_or1, we_and, we_or, we_not, we_ite, we_idx, wo_none, wo_some, we_slc, we_attr, we_call, we_meth, we_make, we_makek, wmake, we_blt, we_bm, we_isi, we_comp, wf_nil, wf_one, wt_tru, wi_of, wi_range, wi_enum, wg_name, wg_tup, wg_wtp, wg_nil, wg_cons, optQ_some, optQ_if, optQ_map, optQ_bind, tst_bl, tst_non, tst_int, b_add, b_sub, b_mul, b_fdiv, b_mod, b_pow, c_lt, c_le, c_gt, c_ge, c_eqI, c_neI, c_isI, c_notI, c_isN, c_notN, i_ii, i_ib, n_i, d_i, l_min, l_max, x_ref, x_new, x_tup, s_new, s_tup, y_new, at_0, at_1, at_2, mat_int, mat_bl, mat_str, mat_non, mat_ref, mats_nil, mats_cons, mat_tup, Option.isSome_some, List.getElem?_cons_zero, List.getElem?_cons_succ, List.set_cons_zero, List.set_cons_succ, decide_eq_true_eq, decide_eq_false_iff_not, wp_ok, hS, u_sub h, List.length_cons, ix_0]
    refine ⟨⟨h0, hl⟩, ?_⟩
    refine wp_cons (wp_S_ret ?_)
    simp only [we_var, we_non, we_bl, we_int, we_str, we_glb, ws_nil, ws_cons, we_tup, we_lst, we_bin, we_neg, we_cmp, we_chain, we_and1, we_or1, we_and, we_or, we_not, we_ite, we_idx, wo_none, wo_some, we_slc, we_attr, we_call, we_meth, we_make, we_makek, wmake, we_blt, we_bm, we_isi, we_comp, wf_nil, wf_one, wt_tru, wi_of, wi_range, wi_enum, wg_name, wg_tup, wg_wtp, wg_nil, wg_cons, optQ_some, optQ_if, optQ_map, optQ_bind, tst_bl, tst_non, tst_int, b_add, b_sub, b_mul, b_fdiv, b_mod, b_pow, c_lt, c_le, c_gt, c_ge, c_eqI, c_neI, c_isI, c_notI, c_isN, c_notN, i_ii, i_ib, n_i, d_i, l_min, l_max, x_ref, x_new, x_tup, s_new, s_tup, y_new, at_0, at_1, at_2, mat_int, mat_bl, mat_str, mat_non, mat_ref, mats_nil, mats_cons, mat_tup, Option.isSome_some, List.getElem?_cons_zero, List.getElem?_cons_succ, List.set_cons_zero, List.set_cons_succ, decide_eq_true_eq, decide_eq_false_iff_not, wp_ok]
    exact ret_q (hQ _ _ (Int.emod_nonneg _ (by omega)) (Int.emod_lt_of_pos _ h0) ⟨_, y, z, rfl, hy, hy2, hz, by omega⟩)
  · refine wp_nil ?_
    refine wp_cons (wp_S_sub ?_)
    simp only [we_var, we_non, we_bl, we_int, we_str, we_glb, ws_nil, ws_cons, we_tup, we_lst, we_bin, we_neg, we_cmp, we_chain, we_and1, we_or1, we_and, we_or, we_not, we_ite, we_idx, wo_none, wo_some, we_slc, we_attr, we_call, we_meth, we_make, we_makek, wmake, we_blt, we_bm, we_isi, we_comp, wf_nil, wf_one, wt_tru, wi_of, wi_range, wi_enum, wg_name, wg_tup, wg_wtp, wg_nil, wg_cons, optQ_some, optQ_if, optQ_map, optQ_bind, tst_bl, tst_non, tst_int, b_add, b_sub, b_mul, b_fdiv, b_mod, b_pow, c_lt, c_le, c_gt, c_ge, c_eqI, c_neI, c_isI, c_notI, c_isN, c_notN, i_ii, i_ib, n_i, d_i, l_min, l_max, x_ref, x_new, x_tup, s_new, s_tup, y_new, at_0, at_1, at_2, mat_int, mat_bl, mat_str, mat_non, mat_ref, mats_nil, mats_cons, mat_tup, Option.isSome_some, List.getElem?_cons_zero, List.getElem?_cons_succ, List.set_cons_zero, List.set_cons_succ, decide_eq_true_eq, decide_eq_false_iff_not, wp_ok, hS, u_sub h, List.length_cons, ix_2]
    have h' : (S.set b (bag x y (z + 1)))[b]? = some (bag x y (z + 1)) := List.getElem?_set_self hlt
    have hS' := s_lst h'
    refine wp_cons (wp_S_set ?_)
    simp only [we_var, we_non, we_bl, we_int, we_str, we_glb, ws_nil, ws_cons, we_tup, we_lst, we_bin, we_neg, we_cmp, we_chain, we_and1, we_or1, we_and, we_or, we_not, we_ite, we_idx, wo_none, wo_some, we_slc, we_attr, we_call, we_meth, we_make, we_makek, wmake, we_blt, we_bm, we_isi, we_comp, wf_nil, wf_one, wt_tru, wi_of, wi_range, wi_enum, wg_name, wg_tup, wg_wtp, wg_nil, wg_cons, optQ_some, optQ_if, optQ_map, optQ_bind, tst_bl, tst_non, tst_int, b_add, b_sub, b_mul, b_fdiv, b_mod, b_pow, c_lt, c_le, c_gt, c_ge, c_eqI, c_neI, c_isI, c_notI, c_isN, c_notN, i_ii, i_ib, n_i, d_i, l_min, l_max, x_ref, x_new, x_tup, s_new, s_tup, y_new, at_0, at_1, at_2, mat_int, mat_bl, mat_str, mat_non, mat_ref, mats_nil, mats_cons, mat_tup, Option.isSome_some, List.getElem?_cons_zero, List.getElem?_cons_succ, List.set_cons_zero, List.set_cons_succ, decide_eq_true_eq, decide_eq_false_iff_not, wp_ok]
    refine wp_cons (wp_S_set ?_)
    show wp (evalE P (sm P d) _ _ (S.set b (bag x y (z + 1)))) _
    simp only [we_var, we_non, we_bl, we_int, we_str, we_glb, ws_nil, ws_cons, we_tup, we_lst, we_bin, we_neg, we_cmp, we_chain, we_and1, we_or1, we_and, we_or, we_not, we_ite, we_idx, wo_none, wo_some, we_slc, we_attr, we_call, we_meth, we_make, we_makek, wmake, we_blt, we_bm, we_isi, we_comp, wf_nil, wf_one, wt_tru, wi_of, wi_range, wi_enum, wg_name, wg_tup, wg_wtp, wg_nil, wg_cons, optQ_some, optQ_if, optQ_map, optQ_bind, tst_bl, tst_non, tst_int, b_add, b_sub, b_mul, b_fdiv, b_mod, b_pow, c_lt, c_le, c_gt, c_ge, c_eqI, c_neI, c_isI, c_notI, c_isN, c_notN, i_ii, i_ib, n_i, d_i, l_min, l_max, x_ref, x_new, x_tup, s_new, s_tup, y_new, at_0, at_1, at_2, mat_int, mat_bl, mat_str, mat_non, mat_ref, mats_nil, mats_cons, mat_tup, Option.isSome_some, List.getElem?_cons_zero, List.getElem?_cons_succ, List.set_cons_zero, List.set_cons_succ, decide_eq_true_eq, decide_eq_false_iff_not, wp_ok, hS']
    refine ⟨mul_ok (by decide) (by omega), by decide, ?_⟩
    refine wp_cons (wp_S_set ?_)
    simp only [we_var, we_non, we_bl, we_int, we_str, we_glb, ws_nil, ws_cons, we_tup, we_lst, we_bin, we_neg, we_cmp, we_chain, we_and1, we_or1, we_and, we_or, we_not, we_ite, we_idx, wo_none, wo_some, we_slc, we_attr, we_call, we_meth, we_make, we_makek, wmake, we_blt, we_bm, we_isi, we_comp, wf_nil, wf_one, wt_tru, wi_of, wi_range, wi_enum, wg_name, wg_tup, wg_wtp, wg_nil, wg_cons, optQ_some, optQ_if, optQ_map, optQ_bind, tst_bl, tst_non, tst_int, b_add, b_sub, b_mul, b_fdiv, b_mod, b_pow, c_lt, c_le, c_gt, c_ge, c_eqI, c_neI, c_isI, c_notI, c_isN, c_notN, i_ii, i_ib, n_i, d_i, l_min, l_max, x_ref, x_new, x_tup, s_new, s_tup, y_new, at_0, at_1, at_2, mat_int, mat_bl, mat_str, mat_non, mat_ref, mats_nil, mats_cons, mat_tup, Option.isSome_some, List.getElem?_cons_zero, List.getElem?_cons_succ, List.set_cons_zero, List.set_cons_succ, decide_eq_true_eq, decide_eq_false_iff_not, wp_ok, hS']
    generalize hn : (y + 1000003 * (z + 1)) % 2305843009213693951 = n
    have n0 : 0 ≤ n := by rw [← hn]; exact Int.emod_nonneg _ (by decide)
    have n1 : n < 2305843009213693951 := by rw [← hn]; exact Int.emod_lt_of_pos _ (by decide)
    refine ⟨mul_ok (by omega) (by omega), ⟨by decide, by decide, by omega⟩, ?_, by decide, ?_⟩
    · have e : (z + 1) ^ (2 : Int).toNat = (z + 1) * (z + 1) := by show (z + 1) ^ 2 = _; rw [Int.pow_succ, Int.pow_succ, Int.pow_zero, Int.one_mul]
      rw [e]
      have : ((z + 1) * (z + 1)).natAbs < 2 ^ 128 := by
        rw [Int.natAbs_mul]
        have h1 : (z + 1).natAbs < 2 ^ 64 := by omega
        have := Nat.mul_lt_mul'' h1 h1
        simpa [← Nat.pow_add] using this
      have l1 := log2_lt this (by decide)
      have l2 : (7919 : Int).natAbs.log2 < 64 := log2_lt (by decide) (by decide)
      omega
    refine wp_cons (wp_S_ret ?_)
    simp only [we_var, we_non, we_bl, we_int, we_str, we_glb, ws_nil, ws_cons, we_tup, we_lst, we_bin, we_neg, we_cmp, we_chain, we_and1, we_or1, we_and, we_or, we_not, we_ite, we_idx, wo_none, wo_some, we_slc, we_attr, we_call, we_meth, we_make, we_makek, wmake, we_blt, we_bm, we_isi, we_comp, wf_nil, wf_one, wt_tru, wi_of, wi_range, wi_enum, wg_name, wg_tup, wg_wtp, wg_nil, wg_cons, optQ_some, optQ_if, optQ_map, optQ_bind, tst_bl, tst_non, tst_int, b_add, b_sub, b_mul, b_fdiv, b_mod, b_pow, c_lt, c_le, c_gt, c_ge, c_eqI, c_neI, c_isI, c_notI, c_isN, c_notN, i_ii, i_ib, n_i, d_i, l_min, l_max, x_ref, x_new, x_tup, s_new, s_tup, y_new, at_0, at_1, at_2, mat_int, mat_bl, mat_str, mat_non, mat_ref, mats_nil, mats_cons, mat_tup, Option.isSome_some, List.getElem?_cons_zero, List.getElem?_cons_succ, List.set_cons_zero, List.set_cons_succ, decide_eq_true_eq, decide_eq_false_iff_not, wp_ok]
    generalize hm : (n * n + 7919 * (z + 1) ^ (2 : Int).toNat + 5) % 2305843009213693951 = m
    have m0 : 0 ≤ m := by rw [← hm]; exact Int.emod_nonneg _ (by decide)
    have m1 : m < 2305843009213693951 := by rw [← hm]; exact Int.emod_lt_of_pos _ (by decide)
    refine ⟨⟨by decide, by decide, by omega⟩, by decide, ⟨by decide, by
      have := log2_lt (n := (13 : Int).natAbs) (k := 64) (by decide) (by decide)
      omega⟩, h0, ?_⟩
    exact ret_q (hQ _ _ (Int.emod_nonneg _ (by omega)) (Int.emod_lt_of_pos _ h0) ⟨x, y, z + 1, rfl, hy, hy2, by omega, by omega⟩)
theorem well_ok {P : Prog} {d i : Nat} (hf : P.fns[i]? = some F_law_well) {S : Store} {cell turn : Int} (h0 : 0 ≤ turn) {Q : D → Store → Prop}
    (hQ : ∀ o, BagOk turn o → Q (.new o) S) : wp ((sm P (d + 1)).call i [.int cell, .int turn] S) Q := by
  refine wp_call hf rfl (Nat.le_of_ble_eq_true rfl) ?_
  show wp (evalSs P (sm P d) B_law_well [some (.int cell), some (.int turn)] S) _
  have b : BagOk turn (bag 0 (cell % 2305843009213693951) turn) := ⟨_, _, _, rfl, Int.emod_nonneg _ (by decide), Int.emod_lt_of_pos _ (by decide), h0, Int.le_refl _⟩
  refine wp_cons (wp_S_ite ?_)
  simp only [we_var, we_non, we_bl, we_int, we_str, we_glb, ws_nil, ws_cons, we_tup, we_lst, we_bin, we_neg, we_cmp, we_chain, we_and1, we_or1, we_and, we_or, we_not, we_ite, we_idx, wo_none, wo_some, we_slc, we_attr, we_call, we_meth, we_make, we_makek, wmake, we_blt, we_bm, we_isi, we_comp, wf_nil, wf_one, wt_tru, wi_of, wi_range, wi_enum, wg_name, wg_tup, wg_wtp, wg_nil, wg_cons, optQ_some, optQ_if, optQ_map, optQ_bind, tst_bl, tst_non, tst_int, b_add, b_sub, b_mul, b_fdiv, b_mod, b_pow, c_lt, c_le, c_gt, c_ge, c_eqI, c_neI, c_isI, c_notI, c_isN, c_notN, i_ii, i_ib, n_i, d_i, l_min, l_max, x_ref, x_new, x_tup, s_new, s_tup, y_new, at_0, at_1, at_2, mat_int, mat_bl, mat_str, mat_non, mat_ref, mats_nil, mats_cons, mat_tup, Option.isSome_some, List.getElem?_cons_zero, List.getElem?_cons_succ, List.set_cons_zero, List.set_cons_succ, decide_eq_true_eq, decide_eq_false_iff_not, wp_ok]
  refine ⟨⟨by decide, by decide, by decide⟩, fun hx => ?_, fun hx => ?_⟩
  · refine wp_cons (wp_S_ret ?_)
    simp only [we_var, we_non, we_bl, we_int, we_str, we_glb, ws_nil, ws_cons, we_tup, we_lst, we_bin, we_neg, we_cmp, we_chain, we_and1, we_or1, we_and, we_or, we_not, we_ite, we_idx, wo_none, wo_some, we_slc, we_attr, we_call, we_meth, we_make, we_makek, wmake, we_blt, we_bm, we_isi, we_comp, wf_nil, wf_one, wt_tru, wi_of, wi_range, wi_enum, wg_name, wg_tup, wg_wtp, wg_nil, wg_cons, optQ_some, optQ_if, optQ_map, optQ_bind, tst_bl, tst_non, tst_int, b_add, b_sub, b_mul, b_fdiv, b_mod, b_pow, c_lt, c_le, c_gt, c_ge, c_eqI, c_neI, c_isI, c_notI, c_isN, c_notN, i_ii, i_ib, n_i, d_i, l_min, l_max, x_ref, x_new, x_tup, s_new, s_tup, y_new, at_0, at_1, at_2, mat_int, mat_bl, mat_str, mat_non, mat_ref, mats_nil, mats_cons, mat_tup, Option.isSome_some, List.getElem?_cons_zero, List.getElem?_cons_succ, List.set_cons_zero, List.set_cons_succ, decide_eq_true_eq, decide_eq_false_iff_not, wp_ok]
    refine ⟨⟨by decide, by decide, by decide⟩, by decide, (show (3 : Nat) ≤ sizeLine by decide), ?_⟩
    exact ret_q (hQ _ ⟨_, _, _, rfl, Int.emod_nonneg _ (by decide), Int.emod_lt_of_pos _ (by decide), h0, Int.le_refl _⟩)
  · refine wp_nil (wp_cons (wp_S_ret ?_))
    simp only [we_var, we_non, we_bl, we_int, we_str, we_glb, ws_nil, ws_cons, we_tup, we_lst, we_bin, we_neg, we_cmp, we_chain, we_and1, we_or1, we_and, we_or, we_not, we_ite, we_idx, wo_none, wo_some, we_slc, we_attr, we_call, we_meth, we_make, we_makek, wmake, we_blt, we_bm, we_isi, we_comp, wf_nil, wf_one, wt_tru, wi_of, wi_range, wi_enum, wg_name, wg_tup, wg_wtp, wg_nil, wg_cons, optQ_some, optQ_if, optQ_map, optQ_bind, tst_bl, tst_non, tst_int, b_add, b_sub, b_mul, b_fdiv, b_mod, b_pow, c_lt, c_le, c_gt, c_ge, c_eqI, c_neI, c_isI, c_notI, c_isN, c_notN, i_ii, i_ib, n_i, d_i, l_min, l_max, x_ref, x_new, x_tup, s_new, s_tup, y_new, at_0, at_1, at_2, mat_int, mat_bl, mat_str, mat_non, mat_ref, mats_nil, mats_cons, mat_tup, Option.isSome_some, List.getElem?_cons_zero, List.getElem?_cons_succ, List.set_cons_zero, List.set_cons_succ, decide_eq_true_eq, decide_eq_false_iff_not, wp_ok]
    refine ⟨by decide, (show (3 : Nat) ≤ sizeLine by decide), ?_⟩
    exact ret_q (hQ _ b)
theorem bags_ok {P : Prog} {d i iw : Nat} (hw : P.fns[iw]? = some F_law_well) (hf : P.fns[i]? = some (F_law_bags iw)) {S : Store} {ns : List Int} (hS : S[0]? = some (.frz (ns.map .int))) {most : Nat} (hm : most ≤ 1000) {Q : D → Store → Prop}
    (hQ : ∀ os : List O, (∀ o ∈ os, BagOk (977 * 1000) o) → Q (.new (.lst (os.map .new))) S) : wp ((sm P (d + 2)).call i [.ref 0, .int (most : Nat)] S) Q := by
  refine wp_call hf rfl (Nat.le_of_ble_eq_true rfl) ?_
  show wp (evalSs P (sm P (d + 1)) (B_law_bags iw) [some (.ref 0), some (.int (most : Nat)), none, none] S) _
  refine wp_cons (wp_S_ret ?_)
  have sl : slcD (.ref 0) none (some (most : Int)) S = some (.new (.lst (cutD (ns.map .int) none (some (most : Int))))) := by
    show (seqOf (.ref 0) S).map _ = _
    rw [s_frz hS]; rfl
  have cut : cutD (ns.map .int) none (some (most : Int)) = (ns.take most).map D.int := by
    unfold cutD
    rw [HT.sIx_none, HT.sIx_nat, List.drop_zero, Nat.sub_zero, List.map_take, List.length_map]
    by_cases h : most ≤ ns.length
    · rw [Nat.min_eq_left h]
    · rw [Nat.min_eq_right (by omega), List.take_of_length_le (by simp), List.take_of_length_le (by simp; omega)]
  have ad : binD .add (.new (.lst ((ns.take most).map D.int))) (.new (.lst [.int 0])) S = some (.new (.lst ((ns.take most).map D.int ++ [.int 0]))) := by
    show (if ((ns.take most).map D.int).length + [D.int 0].length ≤ sizeLine then some (D.new (.lst ((ns.take most).map D.int ++ [.int 0]))) else none) = _
    rw [if_pos]
    simp only [List.length_map, List.length_take, List.length_cons, List.length_nil]
    have : (2000 : Nat) ≤ sizeLine := by decide
    omega
  simp only [we_var, we_non, we_bl, we_int, we_str, we_glb, ws_nil, ws_cons, we_tup, we_lst, we_bin, we_neg, we_cmp, we_chain, we_and1, we_or1, we_and, we_or, we_not, we_ite, we_idx, wo_none, wo_some, we_slc, we_attr, we_call, we_meth, we_make, we_makek, wmake, we_blt, we_bm, we_isi, we_comp, wf_nil, wf_one, wt_tru, wi_of, wi_range, wi_enum, wg_name, wg_tup, wg_wtp, wg_nil, wg_cons, optQ_some, optQ_if, optQ_map, optQ_bind, tst_bl, tst_non, tst_int, b_add, b_sub, b_mul, b_fdiv, b_mod, b_pow, c_lt, c_le, c_gt, c_ge, c_eqI, c_neI, c_isI, c_notI, c_isN, c_notN, i_ii, i_ib, n_i, d_i, l_min, l_max, x_ref, x_new, x_tup, s_new, s_tup, y_new, at_0, at_1, at_2, mat_int, mat_bl, mat_str, mat_non, mat_ref, mats_nil, mats_cons, mat_tup, Option.isSome_some, List.getElem?_cons_zero, List.getElem?_cons_succ, List.set_cons_zero, List.set_cons_succ, decide_eq_true_eq, decide_eq_false_iff_not, wp_ok, sl, cut]
  refine ⟨by decide, ?_⟩
  simp only [ad, optQ_some, y_new]
  generalize hi : (ns.take most).map D.int ++ [D.int 0] = items
  have hlen : items.length ≤ 1001 := by
    rw [← hi]; simp; omega
  have hit : ∀ i (d : D), items[i]? = some d → ∃ n, d = .int n := fun i d h => by
    have : d ∈ items := List.mem_of_getElem? h
    rw [← hi] at this
    rcases List.mem_append.mp this with q | q
    · obtain ⟨n, _, e⟩ := List.mem_map.mp q
      exact ⟨n, e.symm⟩
    · exact ⟨0, by simpa using q⟩
  refine wp_compF (fun j ys S' => S' = S ∧ j ≤ items.length ∧ ys.length ≤ j ∧ ∃ os : List O, ys = os.map .new ∧ ∀ o ∈ os, BagOk (977 * 1000) o) ⟨rfl, Nat.zero_le _, Nat.le_refl _, [], rfl, by simp⟩ (fun _ _ _ _ => rfl) ?_ ?_
  · rintro j d' ys S' hd ⟨rfl, hj, hy, os, rfl, hos⟩
    rw [enumD_at, Nat.zero_add] at hd
    cases hx : items[j]? with
    | none => rw [hx] at hd; cases hd
    | some x =>
      rw [hx] at hd
      cases hd
      obtain ⟨n, rfl⟩ := hit j x hx
      have hjl := (List.getElem?_eq_some_iff.mp hx).1
      simp only [we_var, we_non, we_bl, we_int, we_str, we_glb, ws_nil, ws_cons, we_tup, we_lst, we_bin, we_neg, we_cmp, we_chain, we_and1, we_or1, we_and, we_or, we_not, we_ite, we_idx, wo_none, wo_some, we_slc, we_attr, we_call, we_meth, we_make, we_makek, wmake, we_blt, we_bm, we_isi, we_comp, wf_nil, wf_one, wt_tru, wi_of, wi_range, wi_enum, wg_name, wg_tup, wg_wtp, wg_nil, wg_cons, optQ_some, optQ_if, optQ_map, optQ_bind, tst_bl, tst_non, tst_int, b_add, b_sub, b_mul, b_fdiv, b_mod, b_pow, c_lt, c_le, c_gt, c_ge, c_eqI, c_neI, c_isI, c_notI, c_isN, c_notN, i_ii, i_ib, n_i, d_i, l_min, l_max, x_ref, x_new, x_tup, s_new, s_tup, y_new, at_0, at_1, at_2, mat_int, mat_bl, mat_str, mat_non, mat_ref, mats_nil, mats_cons, mat_tup, Option.isSome_some, List.getElem?_cons_zero, List.getElem?_cons_succ, List.set_cons_zero, List.set_cons_succ, decide_eq_true_eq, decide_eq_false_iff_not, wp_ok, wipeD, List.map_cons, List.map_nil, true_implies, reduceCtorEq, false_implies, and_true]
      refine ⟨mul_ok (by decide) (by omega), ?_⟩
      refine well_ok hw (by omega) fun o hbo => ⟨rfl, by omega, by simpa using hy, os ++ [o], by simp, fun o' ho' => ?_⟩
      rcases List.mem_append.mp ho' with q | q
      · exact hos o' q
      · have : o' = o := by simpa using q
        subst this
        exact hbo.mono (by omega)
  · rintro ys S' ⟨rfl, _, hy, os, rfl, hos⟩
    refine ⟨?_, ret_q (hQ os hos)⟩
    have : (2000 : Nat) ≤ sizeLine := by decide
    rw [enumD_len] at hy
    omega
end Nv
/-! Nv: what the program's smaller functions tell. -/
namespace Nv
open PySem PySem.Spec PyProof.Rows L2
theorem at_3 {α : Type} {a b c d : α} {r : List α} : L2.atI (a :: b :: c :: d :: r) (3 : Int) = some d := at_nat (by decide) rfl
theorem at_4 {α : Type} {a b c d e : α} {r : List α} : L2.atI (a :: b :: c :: d :: e :: r) (4 : Int) = some e := at_nat (by decide) rfl
theorem at_m1 {α : Type} {xs : List α} : L2.atI xs (-1 : Int) = xs.getLast? := by
  cases xs with
  | nil => rfl
  | cons x r =>
    unfold L2.atI
    have e : L2.ixN (x :: r).length (-1) = some r.length := by
      unfold L2.ixN
      simp only [List.length_cons]
      rw [if_neg (by omega), if_pos (by omega)]
      congr 1; omega
    rw [e, List.getLast?_eq_getElem?]
    show (x :: r)[r.length]? = (x :: r)[(x :: r).length - 1]?
    simp
section
variable {S : Store}
theorem i_non {t : IsT} : isiD .non t S = match t with
  | .cls _ => none
  | t => some (isT .non t) := by cases t <;> rfl
theorem i_bl {b : Bool} {t : IsT} : isiD (.bl b) t S = match t with
  | .cls _ => none
  | t => some (isT .bool t) := by cases t <;> rfl
theorem i_str {b : Str} {t : IsT} : isiD (.str b) t S = match t with
  | .cls _ => none
  | t => some (isT .str t) := by cases t <;> rfl
theorem i_tup {b : List D} {t : IsT} : isiD (.tup b) t S = match t with
  | .cls _ => none
  | t => some (isT .tup t) := by cases t <;> rfl
theorem x_str0 : True := trivial
theorem le1 : ((0 + 1 : Nat) : Int) = 1 := rfl
theorem le2 : ((0 + 1 + 1 : Nat) : Int) = 2 := rfl
theorem le3 : ((0 + 1 + 1 + 1 : Nat) : Int) = 3 := rfl
theorem le4 : ((0 + 1 + 1 + 1 + 1 : Nat) : Int) = 4 := rfl
theorem le5 : ((0 + 1 + 1 + 1 + 1 + 1 : Nat) : Int) = 5 := rfl
theorem c_isT {xs : List D} : cmpD .isN (.tup xs) .non S = some false := rfl
theorem c_notT {xs : List D} : cmpD .notN (.tup xs) .non S = some true := rfl
theorem c_isS {z : Str} : cmpD .isN (.str z) .non S = some false := rfl
theorem c_notS {z : Str} : cmpD .notN (.str z) .non S = some true := rfl
theorem sl_5m {a b c d e : D} : slcD (.tup [a, b, c, d, e]) none (some (-1)) S = some (.tup [a, b, c, d]) := rfl
theorem sl_3m {a b c : D} : slcD (.tup [a, b, c]) none (some (-1)) S = some (.tup [a, b]) := rfl
theorem sl_524 {a b c d e : D} : slcD (.tup [a, b, c, d, e]) (some 2) (some 4) S = some (.tup [c, d]) := rfl
theorem cat_tt {xs ys : List D} : binD .add (.tup xs) (.tup ys) S = if xs.length + ys.length ≤ sizeLine then some (.tup (xs ++ ys)) else none := rfl
end
theorem so_one : PyData.strOk "one" = true := by decide +kernel
theorem so_many : PyData.strOk "many" = true := by decide +kernel
theorem so_done : PyData.strOk "done" = true := by decide +kernel
theorem so_left : PyData.strOk "left" = true := by decide +kernel
theorem so_bad : PyData.strOk "bad" = true := by decide +kernel
/-! ### faults -/
mutual
inductive Fa where | nil | one (n : Int) (k : Str) (t : Int) (c : Fa) | many (ms : Fs) (c : Fa)
inductive Fs where | nil | cons (h : Fa) (r : Fs)
end
mutual
def toD : Fa → D
  | .nil => .non
  | .one n k t c => .tup [.str "one", .int n, .str k, .int t, toD c]
  | .many ms c => .tup [.str "many", .tup (toL ms), toD c]
def toL : Fs → List D
  | .nil => []
  | .cons h r => toD h :: toL r
end
mutual
def shF (b : Int) : Fa → Fa
  | .nil => .nil
  | .one n k t c => .one (n + b) k t (shF b c)
  | .many ms c => .many (shL b ms) (shF b c)
def shL (b : Int) : Fs → Fs
  | .nil => .nil
  | .cons h r => .cons (shF b h) (shL b r)
end
def Fs.len : Fs → Nat
  | .nil => 0
  | .cons _ r => r.len + 1
def Fa.notnil : Fa → Bool
  | .nil => false
  | _ => true
mutual
def dpF : Fa → Nat
  | .nil => 0
  | .one _ _ _ c => dpF c + 1
  | .many ms c => max (dpL ms) (dpF c) + 1
def dpL : Fs → Nat
  | .nil => 0
  | .cons h r => max (dpF h) (dpL r)
end
mutual
/-- sound: names are texts, lists are no longer than 1000 -/
def szF : Fa → Bool
  | .nil => true
  | .one _ k _ c => PyData.strOk k && szF c
  | .many ms c => decide (ms.len ≤ 1000) && szL ms && szF c
def szL : Fs → Bool
  | .nil => true
  | .cons h r => h.notnil && szF h && szL r
end
theorem toL_len : ∀ ms : Fs, (toL ms).length = ms.len
  | .nil => rfl
  | .cons h r => by show (toL r).length + 1 = r.len + 1; rw [toL_len r]
mutual
theorem toD_ok : ∀ f : Fa, szF f = true → okE (toD f) = true
  | .nil, _ => rfl
  | .one n k t c, h => by
    have h' : (PyData.strOk k && szF c) = true := h
    rw [Bool.and_eq_true] at h'
    show (PyData.strOk "one" && (true && (PyData.strOk k && (true && (okE (toD c) && true))))) = true
    rw [so_one, h'.1, toD_ok c h'.2]; rfl
  | .many ms c, h => by
    have h' : (decide (ms.len ≤ 1000) && szL ms && szF c) = true := h
    rw [Bool.and_eq_true, Bool.and_eq_true] at h'
    show (PyData.strOk "many" && (okEs (toL ms) && (okE (toD c) && true))) = true
    rw [so_many, toL_ok ms h'.1.2, toD_ok c h'.2]; rfl
theorem toL_ok : ∀ ms : Fs, szL ms = true → okEs (toL ms) = true
  | .nil, _ => rfl
  | .cons h r, k => by
    have h' : (h.notnil && szF h && szL r) = true := k
    rw [Bool.and_eq_true, Bool.and_eq_true] at h'
    show (okE (toD h) && okEs (toL r)) = true
    rw [toD_ok h h'.1.2, toL_ok r h'.2]; rfl
end
mutual
theorem toD_dep : ∀ f : Fa, depD (toD f) ≤ 2 * dpF f
  | .nil => Nat.zero_le _
  | .one n k t c => by
    have := toD_dep c
    show max 0 (max 0 (max 0 (max 0 (max (depD (toD c)) 0)))) + 1 ≤ 2 * (dpF c + 1)
    omega
  | .many ms c => by
    have := toD_dep c
    have := toL_dep ms
    show max 0 (max (depDs (toL ms) + 1) (max (depD (toD c)) 0)) + 1 ≤ 2 * (max (dpL ms) (dpF c) + 1)
    omega
theorem toL_dep : ∀ ms : Fs, depDs (toL ms) ≤ 2 * dpL ms
  | .nil => Nat.zero_le _
  | .cons h r => by
    have := toD_dep h
    have := toL_dep r
    show max (depD (toD h)) (depDs (toL r)) ≤ 2 * max (dpF h) (dpL r)
    omega
end
mutual
theorem sz_sh (b : Int) : ∀ f : Fa, szF (shF b f) = szF f ∧ dpF (shF b f) = dpF f ∧ (shF b f).notnil = f.notnil
  | .nil => ⟨rfl, rfl, rfl⟩
  | .one n k t c => ⟨by show (PyData.strOk k && szF (shF b c)) = _; rw [(sz_sh b c).1]; rfl, by show dpF (shF b c) + 1 = _; rw [(sz_sh b c).2.1]; rfl, rfl⟩
  | .many ms c => ⟨by show (decide ((shL b ms).len ≤ 1000) && szL (shL b ms) && szF (shF b c)) = _; rw [(sz_sh b c).1, (szL_sh b ms).1, (szL_sh b ms).2.2]; rfl, by show max (dpL (shL b ms)) (dpF (shF b c)) + 1 = _; rw [(sz_sh b c).2.1, (szL_sh b ms).2.1]; rfl, rfl⟩
theorem szL_sh (b : Int) : ∀ ms : Fs, szL (shL b ms) = szL ms ∧ dpL (shL b ms) = dpL ms ∧ (shL b ms).len = ms.len
  | .nil => ⟨rfl, rfl, rfl⟩
  | .cons h r => ⟨by show ((shF b h).notnil && szF (shF b h) && szL (shL b r)) = _; rw [(sz_sh b h).1, (sz_sh b h).2.2, (szL_sh b r).1]; rfl, by show max (dpF (shF b h)) (dpL (shL b r)) = _; rw [(sz_sh b h).2.1, (szL_sh b r).2.1]; rfl, by show (shL b r).len + 1 = _; rw [(szL_sh b r).2.2]; rfl⟩
end
mutual
theorem sh_sh (a b : Int) : ∀ f : Fa, shF a (shF b f) = shF (b + a) f
  | .nil => rfl
  | .one n k t c => by show Fa.one (n + b + a) k t (shF a (shF b c)) = .one (n + (b + a)) k t (shF (b + a) c); rw [sh_sh a b c, Int.add_assoc]
  | .many ms c => by show Fa.many (shL a (shL b ms)) (shF a (shF b c)) = .many (shL (b + a) ms) (shF (b + a) c); rw [shL_shL a b ms, sh_sh a b c]
theorem shL_shL (a b : Int) : ∀ ms : Fs, shL a (shL b ms) = shL (b + a) ms
  | .nil => rfl
  | .cons h r => by show Fs.cons (shF a (shF b h)) (shL a (shL b r)) = .cons (shF (b + a) h) (shL (b + a) r); rw [sh_sh a b h, shL_shL a b r]
end
mutual
theorem sh_0 : ∀ f : Fa, shF 0 f = f
  | .nil => rfl
  | .one n k t c => by show Fa.one (n + 0) k t (shF 0 c) = _; rw [sh_0 c, Int.add_zero]
  | .many ms c => by show Fa.many (shL 0 ms) (shF 0 c) = _; rw [shL_0 ms, sh_0 c]
theorem shL_0 : ∀ ms : Fs, shL 0 ms = ms
  | .nil => rfl
  | .cons h r => by show Fs.cons (shF 0 h) (shL 0 r) = _; rw [sh_0 h, shL_0 r]
end
section
variable {P : Prog}
theorem is_whole_ok {i d : Nat} (hf : P.fns[i]? = some F_is_whole) {x : Int} {S : Store} : (sm P (d + 1)).call i [.int x] S = .ok (.bl true) S := by
  refine cl_of hf rfl (by decide) ?_
  simp only [F_is_whole, B_is_whole, List.map_cons, List.map_nil, List.replicate, List.cons_append, List.nil_append, we_var, we_non, we_bl, we_int, we_str, ws_nil, ws_cons, we_tup, we_lst, we_bin, we_neg, we_cmp, we_chain, we_and1, we_or1, we_and, we_or, we_not, we_ite, we_idx, wo_none, wo_some, we_slc, we_attr, we_call, we_meth, we_make, we_makek, wmake, we_blt, we_bm, we_isi, we_comp, wf_nil, wf_one, wt_tru, wi_of, wi_zip, wi_range, wi_enum, wg_name, wg_tup, wg_nil, wg_cons, optQ_some, optQ_if, optQ_map, optQ_bind, tst_bl, tst_non, tst_int, b_add, b_sub, b_mul, b_fdiv, b_mod, b_pow, c_lt, c_le, c_gt, c_ge, c_eqI, c_neI, c_isI, c_notI, c_isN, c_notN, i_ii, i_ib, n_i, d_i, l_min, l_max, x_ref, x_new, x_tup, s_new, s_tup, y_new, at_0, at_1, at_2, mat_int, mat_bl, mat_str, mat_non, mat_ref, mats_nil, mats_cons, mat_tup, Option.isSome_some, List.getElem?_cons_zero, List.getElem?_cons_succ, List.set_cons_zero, List.set_cons_succ, decide_eq_true_eq, decide_eq_false_iff_not, wp_ok, st_ite, st_set, st_expr, st_ret, st_retN, st_pass, st_cont, st_unp, st_par, st_sub, st_for, st_wh, sq_nx, sq_rt, sq_ct, sq_bk, ss_nil, ss_cons, rq_f, rq_n, we_dct, we_revs, we_comp2, we_dcomp, wg_wtp, io_str, io_tup, io_new, tst_b, tst_str, tst_tup, len_tup, len_new, all_new, any_new, lis_tup, tup_new, c_eqS, c_neS, c_eqB, c_neB, c_isT, c_notT, c_isS, c_notS, at_3, at_4, at_m1, x_str0, i_non, i_bl, i_str, i_tup, le1, le2, le3, le4, le5, true_implies, false_implies, reduceCtorEq, and_true, true_and, Bool.not_true, Bool.not_false, putA, List.length_nil, List.length_cons, List.set_set, reduceIte, Nat.reduceEqDiff, Nat.zero_ne_one, Nat.one_ne_zero, ne_eq, not_true_eq_false, not_false_eq_true, List.append_assoc, List.cons_append, List.nil_append, List.lookup_cons, List.lookup_nil, Nat.reduceBEq, beq_self_eq_true, Bool.and_true, Bool.true_and, Bool.false_and, Bool.and_false]
theorem is_within_ok {i i1 d : Nat} (hf : P.fns[i]? = some (F_is_within i1)) (h1 : P.fns[i1]? = some F_is_whole) {x lo hi : Int} {S : Store} : (sm P (d + 2)).call i [.int x, .int lo, .int hi] S = .ok (.bl (decide (lo ≤ x ∧ x ≤ hi))) S := by
  refine cl_of hf rfl (Nat.le_of_ble_eq_true rfl) ?_
  simp only [F_is_within, B_is_within, List.map_cons, List.map_nil, List.replicate, List.cons_append, List.nil_append, we_var, we_non, we_bl, we_int, we_str, ws_nil, ws_cons, we_tup, we_lst, we_bin, we_neg, we_cmp, we_chain, we_and1, we_or1, we_and, we_or, we_not, we_ite, we_idx, wo_none, wo_some, we_slc, we_attr, we_call, we_meth, we_make, we_makek, wmake, we_blt, we_bm, we_isi, we_comp, wf_nil, wf_one, wt_tru, wi_of, wi_zip, wi_range, wi_enum, wg_name, wg_tup, wg_nil, wg_cons, optQ_some, optQ_if, optQ_map, optQ_bind, tst_bl, tst_non, tst_int, b_add, b_sub, b_mul, b_fdiv, b_mod, b_pow, c_lt, c_le, c_gt, c_ge, c_eqI, c_neI, c_isI, c_notI, c_isN, c_notN, i_ii, i_ib, n_i, d_i, l_min, l_max, x_ref, x_new, x_tup, s_new, s_tup, y_new, at_0, at_1, at_2, mat_int, mat_bl, mat_str, mat_non, mat_ref, mats_nil, mats_cons, mat_tup, Option.isSome_some, List.getElem?_cons_zero, List.getElem?_cons_succ, List.set_cons_zero, List.set_cons_succ, decide_eq_true_eq, decide_eq_false_iff_not, wp_ok, st_ite, st_set, st_expr, st_ret, st_retN, st_pass, st_cont, st_unp, st_par, st_sub, st_for, st_wh, sq_nx, sq_rt, sq_ct, sq_bk, ss_nil, ss_cons, rq_f, rq_n, we_dct, we_revs, we_comp2, we_dcomp, wg_wtp, io_str, io_tup, io_new, tst_b, tst_str, tst_tup, len_tup, len_new, all_new, any_new, lis_tup, tup_new, c_eqS, c_neS, c_eqB, c_neB, c_isT, c_notT, c_isS, c_notS, at_3, at_4, at_m1, x_str0, i_non, i_bl, i_str, i_tup, le1, le2, le3, le4, le5, true_implies, false_implies, reduceCtorEq, and_true, true_and, Bool.not_true, Bool.not_false, putA, List.length_nil, List.length_cons, List.set_set, reduceIte, Nat.reduceEqDiff, Nat.zero_ne_one, Nat.one_ne_zero, ne_eq, not_true_eq_false, not_false_eq_true, List.append_assoc, List.cons_append, List.nil_append, List.lookup_cons, List.lookup_nil, Nat.reduceBEq, beq_self_eq_true, Bool.and_true, Bool.true_and, Bool.false_and, Bool.and_false, wp_eq (is_whole_ok (d := d) h1)]
  by_cases h : lo ≤ x <;> simp [h]
theorem cause_of_ok {i d : Nat} (hf : P.fns[i]? = some F_cause_of) {xs : List D} {x : D} (hx : xs.getLast? = some x) {S : Store} : (sm P (d + 1)).call i [.tup xs] S = .ok x S := by
  refine cl_of hf rfl (by decide) ?_
  simp only [F_cause_of, B_cause_of, List.map_cons, List.map_nil, List.replicate, List.cons_append, List.nil_append, we_var, we_non, we_bl, we_int, we_str, ws_nil, ws_cons, we_tup, we_lst, we_bin, we_neg, we_cmp, we_chain, we_and1, we_or1, we_and, we_or, we_not, we_ite, we_idx, wo_none, wo_some, we_slc, we_attr, we_call, we_meth, we_make, we_makek, wmake, we_blt, we_bm, we_isi, we_comp, wf_nil, wf_one, wt_tru, wi_of, wi_zip, wi_range, wi_enum, wg_name, wg_tup, wg_nil, wg_cons, optQ_some, optQ_if, optQ_map, optQ_bind, tst_bl, tst_non, tst_int, b_add, b_sub, b_mul, b_fdiv, b_mod, b_pow, c_lt, c_le, c_gt, c_ge, c_eqI, c_neI, c_isI, c_notI, c_isN, c_notN, i_ii, i_ib, n_i, d_i, l_min, l_max, x_ref, x_new, x_tup, s_new, s_tup, y_new, at_0, at_1, at_2, mat_int, mat_bl, mat_str, mat_non, mat_ref, mats_nil, mats_cons, mat_tup, Option.isSome_some, List.getElem?_cons_zero, List.getElem?_cons_succ, List.set_cons_zero, List.set_cons_succ, decide_eq_true_eq, decide_eq_false_iff_not, wp_ok, st_ite, st_set, st_expr, st_ret, st_retN, st_pass, st_cont, st_unp, st_par, st_sub, st_for, st_wh, sq_nx, sq_rt, sq_ct, sq_bk, ss_nil, ss_cons, rq_f, rq_n, we_dct, we_revs, we_comp2, we_dcomp, wg_wtp, io_str, io_tup, io_new, tst_b, tst_str, tst_tup, len_tup, len_new, all_new, any_new, lis_tup, tup_new, c_eqS, c_neS, c_eqB, c_neB, c_isT, c_notT, c_isS, c_notS, at_3, at_4, at_m1, x_str0, i_non, i_bl, i_str, i_tup, le1, le2, le3, le4, le5, true_implies, false_implies, reduceCtorEq, and_true, true_and, Bool.not_true, Bool.not_false, putA, List.length_nil, List.length_cons, List.set_set, reduceIte, Nat.reduceEqDiff, Nat.zero_ne_one, Nat.one_ne_zero, ne_eq, not_true_eq_false, not_false_eq_true, List.append_assoc, List.cons_append, List.nil_append, List.lookup_cons, List.lookup_nil, Nat.reduceBEq, beq_self_eq_true, Bool.and_true, Bool.true_and, Bool.false_and, Bool.and_false, hx]
theorem len_ok {n : Nat} (h : n ≤ 100000) : n ≤ sizeLine := Nat.le_trans h (by decide)
theorem wk_om : decide (("one" : Str) = "many") = false := by decide +kernel
theorem wk_mo : decide (("many" : Str) = "one") = false := by decide +kernel
section
variable {M : Sm} {ρ : AEnv} {asg : D → AEnv → Store → Rs AEnv} {tst : AEnv → Store → Rs Bool} {elt : AEnv → Store → Rs D} {S : Store} {Q : List D → Store → Prop}
theorem cF_nil : wp (compF [] asg tst elt ρ [] S) Q = Q [] S := rfl
theorem cF_cons {x : D} {xs : List D} : wp (compF [] asg tst elt ρ (x :: xs) S) Q = wp (asg x ρ S) fun ρ1 S1 => wp (tst ρ1 S1) fun b S2 => (b = true → wp (elt ρ1 S2) fun y S3 => wp (compF [] asg tst elt ρ xs S3) fun ys S4 => Q (y :: ys) S4) ∧ (b = false → wp (compF [] asg tst elt ρ xs S2) Q) := by
  show wp ((asg x ρ S).bind fun ρ1 S1 => (tst ρ1 S1).bind fun b S2 => match b with
      | true => (elt ρ1 S2).bind fun y S3 => (compF [] asg tst elt ρ xs S3).bind fun ys S4 => .ok (y :: ys) S4
      | false => compF [] asg tst elt ρ xs S2) Q = _
  rw [wp_bind]; congr 1; funext ρ1 S1; rw [wp_bind]; congr 1; funext b S2
  cases b
  · simp
  · simp only [wp_bind, wp_ok]; simp
end
mutual
theorem shifted_ok {i i1 : Nat} (hf : P.fns[i]? = some (F_shifted i1 i)) (h1 : P.fns[i1]? = some F_cause_of) {b : Int} : ∀ (f : Fa) {S : Store} {d : Nat}, szF f = true → dpF f + 2 ≤ d → (sm P d).call i [toD f, .int b] S = .ok (toD (shF b f)) S
  | .nil, S, d, hs, hd => by
    obtain ⟨d, rfl⟩ : ∃ e, d = e + 1 := ⟨d - 1, by omega⟩
    refine cl_of hf rfl (Nat.le_of_ble_eq_true rfl) ?_
    simp only [toD, shF, F_shifted, B_shifted, List.map_cons, List.map_nil, List.replicate, List.cons_append, List.nil_append, we_var, we_non, we_bl, we_int, we_str, ws_nil, ws_cons, we_tup, we_lst, we_bin, we_neg, we_cmp, we_chain, we_and1, we_or1, we_and, we_or, we_not, we_ite, we_idx, wo_none, wo_some, we_slc, we_attr, we_call, we_meth, we_make, we_makek, wmake, we_blt, we_bm, we_isi, we_comp, wf_nil, wf_one, wt_tru, wi_of, wi_zip, wi_range, wi_enum, wg_name, wg_tup, wg_nil, wg_cons, optQ_some, optQ_if, optQ_map, optQ_bind, tst_bl, tst_non, tst_int, b_add, b_sub, b_mul, b_fdiv, b_mod, b_pow, c_lt, c_le, c_gt, c_ge, c_eqI, c_neI, c_isI, c_notI, c_isN, c_notN, i_ii, i_ib, n_i, d_i, l_min, l_max, x_ref, x_new, x_tup, s_new, s_tup, y_new, at_0, at_1, at_2, mat_int, mat_bl, mat_str, mat_non, mat_ref, mats_nil, mats_cons, mat_tup, Option.isSome_some, List.getElem?_cons_zero, List.getElem?_cons_succ, List.set_cons_zero, List.set_cons_succ, decide_eq_true_eq, decide_eq_false_iff_not, wp_ok, st_ite, st_set, st_expr, st_ret, st_retN, st_pass, st_cont, st_unp, st_par, st_sub, st_for, st_wh, sq_nx, sq_rt, sq_ct, sq_bk, ss_nil, ss_cons, rq_f, rq_n, we_dct, we_revs, we_comp2, we_dcomp, wg_wtp, io_str, io_tup, io_new, tst_b, tst_str, tst_tup, len_tup, len_new, all_new, any_new, lis_tup, tup_new, c_eqS, c_neS, c_eqB, c_neB, c_isT, c_notT, c_isS, c_notS, at_3, at_4, at_m1, x_str0, i_non, i_bl, i_str, i_tup, le1, le2, le3, le4, le5, true_implies, false_implies, reduceCtorEq, and_true, true_and, Bool.not_true, Bool.not_false, putA, List.length_nil, List.length_cons, List.set_set, reduceIte, Nat.reduceEqDiff, Nat.zero_ne_one, Nat.one_ne_zero, ne_eq, not_true_eq_false, not_false_eq_true, List.append_assoc, List.cons_append, List.nil_append, List.lookup_cons, List.lookup_nil, Nat.reduceBEq, beq_self_eq_true, Bool.and_true, Bool.true_and, Bool.false_and, Bool.and_false]
  | .one n k t c, S, d, hs, hd => by
    have hs' : (PyData.strOk k && szF c) = true := hs
    rw [Bool.and_eq_true] at hs'
    have hd' : dpF c + 1 + 2 ≤ d := hd
    obtain ⟨d, rfl⟩ : ∃ e, d = e + 2 := ⟨d - 2, by omega⟩
    refine cl_of hf rfl (Nat.le_of_ble_eq_true rfl) ?_
    have hc : okE (toD (shF b c)) = true := toD_ok _ (by rw [(sz_sh b c).1]; exact hs'.2)
    simp only [toD, shF, F_shifted, B_shifted, List.map_cons, List.map_nil, List.replicate, List.cons_append, List.nil_append, matE (toD_ok c hs'.2), wp_eq (cause_of_ok (d := d) h1 (xs := [.str "one", .int n, .str k, .int t, toD c]) (x := toD c) rfl), wp_eq (shifted_ok hf h1 c (d := d + 1) hs'.2 (by omega)), matE hc, we_var, we_non, we_bl, we_int, we_str, ws_nil, ws_cons, we_tup, we_lst, we_bin, we_neg, we_cmp, we_chain, we_and1, we_or1, we_and, we_or, we_not, we_ite, we_idx, wo_none, wo_some, we_slc, we_attr, we_call, we_meth, we_make, we_makek, wmake, we_blt, we_bm, we_isi, we_comp, wf_nil, wf_one, wt_tru, wi_of, wi_zip, wi_range, wi_enum, wg_name, wg_tup, wg_nil, wg_cons, optQ_some, optQ_if, optQ_map, optQ_bind, tst_bl, tst_non, tst_int, b_add, b_sub, b_mul, b_fdiv, b_mod, b_pow, c_lt, c_le, c_gt, c_ge, c_eqI, c_neI, c_isI, c_notI, c_isN, c_notN, i_ii, i_ib, n_i, d_i, l_min, l_max, x_ref, x_new, x_tup, s_new, s_tup, y_new, at_0, at_1, at_2, mat_int, mat_bl, mat_str, mat_non, mat_ref, mats_nil, mats_cons, mat_tup, Option.isSome_some, List.getElem?_cons_zero, List.getElem?_cons_succ, List.set_cons_zero, List.set_cons_succ, decide_eq_true_eq, decide_eq_false_iff_not, wp_ok, st_ite, st_set, st_expr, st_ret, st_retN, st_pass, st_cont, st_unp, st_par, st_sub, st_for, st_wh, sq_nx, sq_rt, sq_ct, sq_bk, ss_nil, ss_cons, rq_f, rq_n, we_dct, we_revs, we_comp2, we_dcomp, wg_wtp, io_str, io_tup, io_new, tst_b, tst_str, tst_tup, len_tup, len_new, all_new, any_new, lis_tup, tup_new, c_eqS, c_neS, c_eqB, c_neB, c_isT, c_notT, c_isS, c_notS, at_3, at_4, at_m1, x_str0, i_non, i_bl, i_str, i_tup, le1, le2, le3, le4, le5, true_implies, false_implies, reduceCtorEq, and_true, true_and, Bool.not_true, Bool.not_false, putA, List.length_nil, List.length_cons, List.set_set, reduceIte, Nat.reduceEqDiff, Nat.zero_ne_one, Nat.one_ne_zero, ne_eq, not_true_eq_false, not_false_eq_true, List.append_assoc, List.cons_append, List.nil_append, List.lookup_cons, List.lookup_nil, Nat.reduceBEq, beq_self_eq_true, Bool.and_true, Bool.true_and, Bool.false_and, Bool.and_false]
    exact len_ok (by decide)
  | .many ms c, S, d, hs, hd => by
    have hs' : (decide (ms.len ≤ 1000) && szL ms && szF c) = true := hs
    rw [Bool.and_eq_true, Bool.and_eq_true, decide_eq_true_eq] at hs'
    have hd' : max (dpL ms) (dpF c) + 1 + 2 ≤ d := hd
    obtain ⟨d, rfl⟩ : ∃ e, d = e + 2 := ⟨d - 2, by omega⟩
    refine cl_of hf rfl (Nat.le_of_ble_eq_true rfl) ?_
    have hc : okE (toD (shF b c)) = true := toD_ok _ (by rw [(sz_sh b c).1]; exact hs'.2)
    simp only [toD, shF, F_shifted, B_shifted, List.map_cons, List.map_nil, List.replicate, List.cons_append, List.nil_append, matsE (toL_ok ms hs'.1.2), matE (toD_ok c hs'.2), wp_eq (cause_of_ok (d := d) h1 (xs := [.str "many", .tup (toL ms), toD c]) (x := toD c) rfl), wp_eq (shifted_ok hf h1 c (d := d + 1) hs'.2 (by omega)), matE hc, wk_mo, wipeD, we_var, we_non, we_bl, we_int, we_str, ws_nil, ws_cons, we_tup, we_lst, we_bin, we_neg, we_cmp, we_chain, we_and1, we_or1, we_and, we_or, we_not, we_ite, we_idx, wo_none, wo_some, we_slc, we_attr, we_call, we_meth, we_make, we_makek, wmake, we_blt, we_bm, we_isi, we_comp, wf_nil, wf_one, wt_tru, wi_of, wi_zip, wi_range, wi_enum, wg_name, wg_tup, wg_nil, wg_cons, optQ_some, optQ_if, optQ_map, optQ_bind, tst_bl, tst_non, tst_int, b_add, b_sub, b_mul, b_fdiv, b_mod, b_pow, c_lt, c_le, c_gt, c_ge, c_eqI, c_neI, c_isI, c_notI, c_isN, c_notN, i_ii, i_ib, n_i, d_i, l_min, l_max, x_ref, x_new, x_tup, s_new, s_tup, y_new, at_0, at_1, at_2, mat_int, mat_bl, mat_str, mat_non, mat_ref, mats_nil, mats_cons, mat_tup, Option.isSome_some, List.getElem?_cons_zero, List.getElem?_cons_succ, List.set_cons_zero, List.set_cons_succ, decide_eq_true_eq, decide_eq_false_iff_not, wp_ok, st_ite, st_set, st_expr, st_ret, st_retN, st_pass, st_cont, st_unp, st_par, st_sub, st_for, st_wh, sq_nx, sq_rt, sq_ct, sq_bk, ss_nil, ss_cons, rq_f, rq_n, we_dct, we_revs, we_comp2, we_dcomp, wg_wtp, io_str, io_tup, io_new, tst_b, tst_str, tst_tup, len_tup, len_new, all_new, any_new, lis_tup, tup_new, c_eqS, c_neS, c_eqB, c_neB, c_isT, c_notT, c_isS, c_notS, at_3, at_4, at_m1, x_str0, i_non, i_bl, i_str, i_tup, le1, le2, le3, le4, le5, true_implies, false_implies, reduceCtorEq, and_true, true_and, Bool.not_true, Bool.not_false, putA, List.length_nil, List.length_cons, List.set_set, reduceIte, Nat.reduceEqDiff, Nat.zero_ne_one, Nat.one_ne_zero, ne_eq, not_true_eq_false, not_false_eq_true, List.append_assoc, List.cons_append, List.nil_append, List.lookup_cons, List.lookup_nil, Nat.reduceBEq, beq_self_eq_true, Bool.and_true, Bool.true_and, Bool.false_and, Bool.and_false]
    refine wp_mono (shiftedL_ok hf h1 ms (d := d + 1) hs'.1.2 (by omega)) fun ys S' z => ?_
    obtain ⟨rfl, rfl⟩ := z
    refine ⟨?_, len_ok (by decide), rfl, rfl⟩
    rw [toL_len, (szL_sh b ms).2.2]; exact len_ok (by omega)
theorem shiftedL_ok {i i1 : Nat} (hf : P.fns[i]? = some (F_shifted i1 i)) (h1 : P.fns[i1]? = some F_cause_of) {b : Int} {x0 x2 : Option D} : ∀ (ms : Fs) {S : Store} {d : Nat}, szL ms = true → dpL ms + 2 ≤ d → wp (compF [] (evalG (.name 3)) (evalIfs P (sm P d) []) (evalE P (sm P d) (.call i [.var 3, .var 1])) [x0, some (.int b), x2, none] (toL ms) S) fun ys S' => ys = toL (shL b ms) ∧ S' = S
  | .nil, S, d, hs, hd => ⟨rfl, rfl⟩
  | .cons h r, S, d, hs, hd => by
    have hs' : (h.notnil && szF h && szL r) = true := hs
    rw [Bool.and_eq_true, Bool.and_eq_true] at hs'
    have hd' : max (dpF h) (dpL r) + 2 ≤ d := hd
    simp only [toL, shL, cF_cons, matE (toD_ok h hs'.1.2), wp_eq (shifted_ok hf h1 h (d := d) hs'.1.2 (by omega)), we_var, we_non, we_bl, we_int, we_str, ws_nil, ws_cons, we_tup, we_lst, we_bin, we_neg, we_cmp, we_chain, we_and1, we_or1, we_and, we_or, we_not, we_ite, we_idx, wo_none, wo_some, we_slc, we_attr, we_call, we_meth, we_make, we_makek, wmake, we_blt, we_bm, we_isi, we_comp, wf_nil, wf_one, wt_tru, wi_of, wi_zip, wi_range, wi_enum, wg_name, wg_tup, wg_nil, wg_cons, optQ_some, optQ_if, optQ_map, optQ_bind, tst_bl, tst_non, tst_int, b_add, b_sub, b_mul, b_fdiv, b_mod, b_pow, c_lt, c_le, c_gt, c_ge, c_eqI, c_neI, c_isI, c_notI, c_isN, c_notN, i_ii, i_ib, n_i, d_i, l_min, l_max, x_ref, x_new, x_tup, s_new, s_tup, y_new, at_0, at_1, at_2, mat_int, mat_bl, mat_str, mat_non, mat_ref, mats_nil, mats_cons, mat_tup, Option.isSome_some, List.getElem?_cons_zero, List.getElem?_cons_succ, List.set_cons_zero, List.set_cons_succ, decide_eq_true_eq, decide_eq_false_iff_not, wp_ok, st_ite, st_set, st_expr, st_ret, st_retN, st_pass, st_cont, st_unp, st_par, st_sub, st_for, st_wh, sq_nx, sq_rt, sq_ct, sq_bk, ss_nil, ss_cons, rq_f, rq_n, we_dct, we_revs, we_comp2, we_dcomp, wg_wtp, io_str, io_tup, io_new, tst_b, tst_str, tst_tup, len_tup, len_new, all_new, any_new, lis_tup, tup_new, c_eqS, c_neS, c_eqB, c_neB, c_isT, c_notT, c_isS, c_notS, at_3, at_4, at_m1, x_str0, i_non, i_bl, i_str, i_tup, le1, le2, le3, le4, le5, true_implies, false_implies, reduceCtorEq, and_true, true_and, Bool.not_true, Bool.not_false, putA, List.length_nil, List.length_cons, List.set_set, reduceIte, Nat.reduceEqDiff, Nat.zero_ne_one, Nat.one_ne_zero, ne_eq, not_true_eq_false, not_false_eq_true, List.append_assoc, List.cons_append, List.nil_append, List.lookup_cons, List.lookup_nil, Nat.reduceBEq, beq_self_eq_true, Bool.and_true, Bool.true_and, Bool.false_and, Bool.and_false]
    exact wp_mono (shiftedL_ok hf h1 r hs'.2 (by omega)) fun ys S' z => ⟨by rw [z.1], z.2⟩
end
/-! ### caused, results -/
def Fa.cause : Fa → Fa
  | .nil => .nil
  | .one _ _ _ c => c
  | .many _ c => c
def Fa.withC (f c : Fa) : Fa := match f with
  | .nil => .nil
  | .one n k t _ => .one n k t c
  | .many ms _ => .many ms c
def caF (f c : Fa) : Fa := if c.notnil = false ∨ toD f = toD c ∨ f.cause.notnil = true then f else f.withC c
theorem isN_toD {f : Fa} {S : Store} : cmpD .isN (toD f) .non S = some (!f.notnil) := by cases f <;> rfl
theorem notN_toD {f : Fa} {S : Store} : cmpD .notN (toD f) .non S = some f.notnil := by cases f <;> rfl
theorem toD_nil {f : Fa} : toD f = .non ↔ f.notnil = false := by cases f <;> simp [toD, Fa.notnil]
theorem caused_ok {i i1 d : Nat} (hf : P.fns[i]? = some (F_caused i1)) (h1 : P.fns[i1]? = some F_cause_of) {f c : Fa} (hn : f.notnil = true) (sf : szF f = true) (sc : szF c = true) (df : dpF f ≤ 30) (dc : dpF c ≤ 30) {S : Store} : (sm P (d + 2)).call i [toD f, toD c] S = .ok (toD (caF f c)) S := by
  refine cl_of hf rfl (Nat.le_of_ble_eq_true rfl) ?_
  have e1 := toD_dep f
  have e2 := toD_dep c
  have key : (cmpD .eq (toD f) (toD c) S) = some (sameD (toD f) (toD c)) := c_eqE (toD_ok f sf) (toD_ok c sc) (by omega) (by omega)
  have hk : ∀ Q : D → Store → Prop, wp ((sm P (d + 1)).call i1 [toD f] S) Q = Q (toD f.cause) S := by
    intro Q
    cases f with
    | nil => cases hn
    | one n k t c => exact wp_eq (cause_of_ok h1 rfl)
    | many ms c => exact wp_eq (cause_of_ok h1 rfl)
  simp only [F_caused, B_caused, List.map_cons, List.map_nil, List.replicate, List.cons_append, List.nil_append, isN_toD, notN_toD, key, matE (toD_ok f sf), hk, we_var, we_non, we_bl, we_int, we_str, ws_nil, ws_cons, we_tup, we_lst, we_bin, we_neg, we_cmp, we_chain, we_and1, we_or1, we_and, we_or, we_not, we_ite, we_idx, wo_none, wo_some, we_slc, we_attr, we_call, we_meth, we_make, we_makek, wmake, we_blt, we_bm, we_isi, we_comp, wf_nil, wf_one, wt_tru, wi_of, wi_zip, wi_range, wi_enum, wg_name, wg_tup, wg_nil, wg_cons, optQ_some, optQ_if, optQ_map, optQ_bind, tst_bl, tst_non, tst_int, b_add, b_sub, b_mul, b_fdiv, b_mod, b_pow, c_lt, c_le, c_gt, c_ge, c_eqI, c_neI, c_isI, c_notI, c_isN, c_notN, i_ii, i_ib, n_i, d_i, l_min, l_max, x_ref, x_new, x_tup, s_new, s_tup, y_new, at_0, at_1, at_2, mat_int, mat_bl, mat_str, mat_non, mat_ref, mats_nil, mats_cons, mat_tup, Option.isSome_some, List.getElem?_cons_zero, List.getElem?_cons_succ, List.set_cons_zero, List.set_cons_succ, decide_eq_true_eq, decide_eq_false_iff_not, wp_ok, st_ite, st_set, st_expr, st_ret, st_retN, st_pass, st_cont, st_unp, st_par, st_sub, st_for, st_wh, sq_nx, sq_rt, sq_ct, sq_bk, ss_nil, ss_cons, rq_f, rq_n, we_dct, we_revs, we_comp2, we_dcomp, wg_wtp, io_str, io_tup, io_new, tst_b, tst_str, tst_tup, len_tup, len_new, all_new, any_new, lis_tup, tup_new, c_eqS, c_neS, c_eqB, c_neB, c_isT, c_notT, c_isS, c_notS, at_3, at_4, at_m1, x_str0, i_non, i_bl, i_str, i_tup, le1, le2, le3, le4, le5, true_implies, false_implies, reduceCtorEq, and_true, true_and, Bool.not_true, Bool.not_false, putA, List.length_nil, List.length_cons, List.set_set, reduceIte, Nat.reduceEqDiff, Nat.zero_ne_one, Nat.one_ne_zero, ne_eq, not_true_eq_false, not_false_eq_true, List.append_assoc, List.cons_append, List.nil_append, List.lookup_cons, List.lookup_nil, Nat.reduceBEq, beq_self_eq_true, Bool.and_true, Bool.true_and, Bool.false_and, Bool.and_false]
  have fin : (f.cause.notnil = false) → c.notnil = true → sameD (toD f) (toD c) = false → optQ (slcD (toD f) none (some (-1)) S) fun d => 0 + 1 ≤ sizeLine ∧ optQ (binD Bop.add d (D.tup [toD c]) S) fun d => d = toD (caF f c) := by
    intro g1 g2 g3
    have g4 : caF f c = f.withC c := by
      unfold caF
      rw [if_neg]
      rintro (h | h | h)
      · rw [g2] at h; cases h
      · rw [h, sameD_refl] at g3; cases g3
      · rw [g1] at h; cases h
    rw [g4]
    cases f with
    | nil => cases hn
    | one n k t c' =>
      simp only [toD, sl_5m, optQ_some, cat_tt, optQ_if]
      exact ⟨len_ok (by decide), len_ok (Nat.le_of_ble_eq_true rfl), rfl⟩
    | many ms c' =>
      simp only [toD, sl_3m, optQ_some, cat_tt, optQ_if]
      exact ⟨len_ok (by decide), len_ok (Nat.le_of_ble_eq_true rfl), rfl⟩
  have same : (c.notnil = false ∨ toD f = toD c ∨ f.cause.notnil = true) → toD f = toD (caF f c) := by
    intro h
    unfold caF
    rw [if_pos h]
  cases hc : c.notnil <;> cases hq : sameD (toD f) (toD c) <;> cases hu : f.cause.notnil <;> simp only [hc, hq, hu, we_var, we_non, we_bl, we_int, we_str, ws_nil, ws_cons, we_tup, we_lst, we_bin, we_neg, we_cmp, we_chain, we_and1, we_or1, we_and, we_or, we_not, we_ite, we_idx, wo_none, wo_some, we_slc, we_attr, we_call, we_meth, we_make, we_makek, wmake, we_blt, we_bm, we_isi, we_comp, wf_nil, wf_one, wt_tru, wi_of, wi_zip, wi_range, wi_enum, wg_name, wg_tup, wg_nil, wg_cons, optQ_some, optQ_if, optQ_map, optQ_bind, tst_bl, tst_non, tst_int, b_add, b_sub, b_mul, b_fdiv, b_mod, b_pow, c_lt, c_le, c_gt, c_ge, c_eqI, c_neI, c_isI, c_notI, c_isN, c_notN, i_ii, i_ib, n_i, d_i, l_min, l_max, x_ref, x_new, x_tup, s_new, s_tup, y_new, at_0, at_1, at_2, mat_int, mat_bl, mat_str, mat_non, mat_ref, mats_nil, mats_cons, mat_tup, Option.isSome_some, List.getElem?_cons_zero, List.getElem?_cons_succ, List.set_cons_zero, List.set_cons_succ, decide_eq_true_eq, decide_eq_false_iff_not, wp_ok, st_ite, st_set, st_expr, st_ret, st_retN, st_pass, st_cont, st_unp, st_par, st_sub, st_for, st_wh, sq_nx, sq_rt, sq_ct, sq_bk, ss_nil, ss_cons, rq_f, rq_n, we_dct, we_revs, we_comp2, we_dcomp, wg_wtp, io_str, io_tup, io_new, tst_b, tst_str, tst_tup, len_tup, len_new, all_new, any_new, lis_tup, tup_new, c_eqS, c_neS, c_eqB, c_neB, c_isT, c_notT, c_isS, c_notS, at_3, at_4, at_m1, x_str0, i_non, i_bl, i_str, i_tup, le1, le2, le3, le4, le5, true_implies, false_implies, reduceCtorEq, and_true, true_and, Bool.not_true, Bool.not_false, putA, List.length_nil, List.length_cons, List.set_set, reduceIte, Nat.reduceEqDiff, Nat.zero_ne_one, Nat.one_ne_zero, ne_eq, not_true_eq_false, not_false_eq_true, List.append_assoc, List.cons_append, List.nil_append, List.lookup_cons, List.lookup_nil, Nat.reduceBEq, beq_self_eq_true, Bool.and_true, Bool.true_and, Bool.false_and, Bool.and_false] at same fin ⊢
  all_goals first
    | exact fin trivial trivial trivial
    | exact fin
    | exact same (.inr (.inl (sameD_eq _ _ hq)))
    | exact same (by simp)
    | exact same trivial
    | exact same (.inr (.inl (sameD_eq _ _ hq)))
    | skip
/-- a result -/
structure Re where
  w : Str
  ns : List Int
  cnt : Int
  f : Fa
def toR (r : Re) : D := .tup [.str r.w, .tup (r.ns.map .int), .int r.cnt, toD r.f]
/-- sound -/
def szR (r : Re) : Prop := PyData.strOk r.w = true ∧ r.ns.length ≤ 5000 ∧ szF r.f = true ∧ dpF r.f ≤ 20
def thR (a b : Re) : Re := if a.w = "done" then ⟨b.w, a.ns ++ b.ns, a.cnt + b.cnt, shF a.cnt b.f⟩ else a
def enR (a b : Re) : Re := if b.w = "bad" then ⟨"bad", a.ns ++ b.ns, a.cnt + b.cnt, caF (shF a.cnt b.f) a.f⟩ else ⟨a.w, a.ns ++ b.ns, a.cnt + b.cnt, a.f⟩
theorem oks_ints : ∀ ns : List Int, okEs (ns.map D.int) = true
  | [] => rfl
  | _ :: r => oks_ints r
theorem deps_ints : ∀ ns : List Int, depDs (ns.map D.int) = 0
  | [] => rfl
  | _ :: r => by show max 0 (depDs (r.map D.int)) = 0; rw [deps_ints r]; rfl
theorem toR_ok {r : Re} (h : szR r) : okE (toR r) = true := by
  show (PyData.strOk r.w && (okEs (r.ns.map D.int) && (true && (okE (toD r.f) && true)))) = true
  rw [h.1, oks_ints, toD_ok _ h.2.2.1]; rfl
theorem toR_dep {r : Re} (h : szR r) : depD (toR r) ≤ 41 := by
  have := toD_dep r.f
  have := h.2.2.2
  show max 0 (max (depDs (r.ns.map D.int) + 1) (max 0 (max (depD (toD r.f)) 0))) + 1 ≤ 41
  rw [deps_ints]; omega
theorem szR_th {a b : Re} (ha : szR a) (hb : szR b) (h : a.ns.length + b.ns.length ≤ 5000) : szR (thR a b) := by
  unfold thR
  split
  · exact ⟨hb.1, by simpa using h, by rw [(sz_sh _ _).1]; exact hb.2.2.1, by rw [(sz_sh _ _).2.1]; exact hb.2.2.2⟩
  · exact ha
theorem then_ok {i i1 i2 d : Nat} (hf : P.fns[i]? = some (F_then i1)) (h1 : P.fns[i1]? = some (F_shifted i2 i1)) (h2 : P.fns[i2]? = some F_cause_of) {a b : Re} (ha : szR a) (hb : szR b) {S : Store} : (sm P (d + 23)).call i [toR a, toR b] S = .ok (toR (thR a b)) S := by
  refine cl_of hf rfl (Nat.le_of_ble_eq_true rfl) ?_
  have e1 := shifted_ok h1 h2 (b := a.cnt) b.f (S := S) (d := d + 22) hb.2.2.1 (by have := hb.2.2.2; omega)
  simp only [toR, F_then, B_then, List.map_cons, List.map_nil, List.replicate, List.cons_append, List.nil_append, matE (toD_ok _ hb.2.2.1), wp_eq e1, cat_tt, we_var, we_non, we_bl, we_int, we_str, ws_nil, ws_cons, we_tup, we_lst, we_bin, we_neg, we_cmp, we_chain, we_and1, we_or1, we_and, we_or, we_not, we_ite, we_idx, wo_none, wo_some, we_slc, we_attr, we_call, we_meth, we_make, we_makek, wmake, we_blt, we_bm, we_isi, we_comp, wf_nil, wf_one, wt_tru, wi_of, wi_zip, wi_range, wi_enum, wg_name, wg_tup, wg_nil, wg_cons, optQ_some, optQ_if, optQ_map, optQ_bind, tst_bl, tst_non, tst_int, b_add, b_sub, b_mul, b_fdiv, b_mod, b_pow, c_lt, c_le, c_gt, c_ge, c_eqI, c_neI, c_isI, c_notI, c_isN, c_notN, i_ii, i_ib, n_i, d_i, l_min, l_max, x_ref, x_new, x_tup, s_new, s_tup, y_new, at_0, at_1, at_2, mat_int, mat_bl, mat_str, mat_non, mat_ref, mats_nil, mats_cons, mat_tup, Option.isSome_some, List.getElem?_cons_zero, List.getElem?_cons_succ, List.set_cons_zero, List.set_cons_succ, decide_eq_true_eq, decide_eq_false_iff_not, wp_ok, st_ite, st_set, st_expr, st_ret, st_retN, st_pass, st_cont, st_unp, st_par, st_sub, st_for, st_wh, sq_nx, sq_rt, sq_ct, sq_bk, ss_nil, ss_cons, rq_f, rq_n, we_dct, we_revs, we_comp2, we_dcomp, wg_wtp, io_str, io_tup, io_new, tst_b, tst_str, tst_tup, len_tup, len_new, all_new, any_new, lis_tup, tup_new, c_eqS, c_neS, c_eqB, c_neB, c_isT, c_notT, c_isS, c_notS, at_3, at_4, at_m1, x_str0, i_non, i_bl, i_str, i_tup, le1, le2, le3, le4, le5, true_implies, false_implies, reduceCtorEq, and_true, true_and, Bool.not_true, Bool.not_false, putA, List.length_nil, List.length_cons, List.set_set, reduceIte, Nat.reduceEqDiff, Nat.zero_ne_one, Nat.one_ne_zero, ne_eq, not_true_eq_false, not_false_eq_true, List.append_assoc, List.cons_append, List.nil_append, List.lookup_cons, List.lookup_nil, Nat.reduceBEq, beq_self_eq_true, Bool.and_true, Bool.true_and, Bool.false_and, Bool.and_false]
  by_cases h : a.w = "done"
  · have e : thR a b = ⟨b.w, a.ns ++ b.ns, a.cnt + b.cnt, shF a.cnt b.f⟩ := if_pos h
    rw [e]
    refine ⟨fun z => ?_, fun _ => ⟨len_ok ?_, len_ok (by decide), ?_⟩⟩
    · rw [h] at z; simp at z
    · have := ha.2.1; have := hb.2.1; simp; omega
    · show _ = D.tup [D.str b.w, D.tup (List.map D.int (a.ns ++ b.ns)), D.int (a.cnt + b.cnt), toD (shF a.cnt b.f)]
      rw [List.map_append]
  · have e : thR a b = a := if_neg h
    rw [e]
    refine ⟨fun _ => rfl, fun z => ?_⟩
    simp [h] at z
theorem ensured_ok {i i1 i2 i3 d : Nat} (hf : P.fns[i]? = some (F_ensured i3 i1)) (h1 : P.fns[i1]? = some (F_shifted i2 i1)) (h2 : P.fns[i2]? = some F_cause_of) (h3 : P.fns[i3]? = some (F_caused i2)) {a b : Re} (ha : szR a) (hb : szR b) (hn : b.w = "bad" → b.f.notnil = true) {S : Store} : (sm P (d + 23)).call i [toR a, toR b] S = .ok (toR (enR a b)) S := by
  refine cl_of hf rfl (Nat.le_of_ble_eq_true rfl) ?_
  have e1 := shifted_ok h1 h2 (b := a.cnt) b.f (S := S) (d := d + 22) hb.2.2.1 (by have := hb.2.2.2; omega)
  have e2 : List.map D.int a.ns ++ List.map D.int b.ns = (a.ns ++ b.ns).map D.int := List.map_append.symm
  have sh : szF (shF a.cnt b.f) = true := by rw [(sz_sh _ _).1]; exact hb.2.2.1
  simp only [toR, F_ensured, B_ensured, List.map_cons, List.map_nil, List.replicate, List.cons_append, List.nil_append, matE (toD_ok _ hb.2.2.1), matE (toD_ok _ ha.2.2.1), matE (toD_ok _ sh), cat_tt, e2, matsE (oks_ints (a.ns ++ b.ns)), wp_eq e1, we_var, we_non, we_bl, we_int, we_str, ws_nil, ws_cons, we_tup, we_lst, we_bin, we_neg, we_cmp, we_chain, we_and1, we_or1, we_and, we_or, we_not, we_ite, we_idx, wo_none, wo_some, we_slc, we_attr, we_call, we_meth, we_make, we_makek, wmake, we_blt, we_bm, we_isi, we_comp, wf_nil, wf_one, wt_tru, wi_of, wi_zip, wi_range, wi_enum, wg_name, wg_tup, wg_nil, wg_cons, optQ_some, optQ_if, optQ_map, optQ_bind, tst_bl, tst_non, tst_int, b_add, b_sub, b_mul, b_fdiv, b_mod, b_pow, c_lt, c_le, c_gt, c_ge, c_eqI, c_neI, c_isI, c_notI, c_isN, c_notN, i_ii, i_ib, n_i, d_i, l_min, l_max, x_ref, x_new, x_tup, s_new, s_tup, y_new, at_0, at_1, at_2, mat_int, mat_bl, mat_str, mat_non, mat_ref, mats_nil, mats_cons, mat_tup, Option.isSome_some, List.getElem?_cons_zero, List.getElem?_cons_succ, List.set_cons_zero, List.set_cons_succ, decide_eq_true_eq, decide_eq_false_iff_not, wp_ok, st_ite, st_set, st_expr, st_ret, st_retN, st_pass, st_cont, st_unp, st_par, st_sub, st_for, st_wh, sq_nx, sq_rt, sq_ct, sq_bk, ss_nil, ss_cons, rq_f, rq_n, we_dct, we_revs, we_comp2, we_dcomp, wg_wtp, io_str, io_tup, io_new, tst_b, tst_str, tst_tup, len_tup, len_new, all_new, any_new, lis_tup, tup_new, c_eqS, c_neS, c_eqB, c_neB, c_isT, c_notT, c_isS, c_notS, at_3, at_4, at_m1, x_str0, i_non, i_bl, i_str, i_tup, le1, le2, le3, le4, le5, true_implies, false_implies, reduceCtorEq, and_true, true_and, Bool.not_true, Bool.not_false, putA, List.length_nil, List.length_cons, List.set_set, reduceIte, Nat.reduceEqDiff, Nat.zero_ne_one, Nat.one_ne_zero, ne_eq, not_true_eq_false, not_false_eq_true, List.append_assoc, List.cons_append, List.nil_append, List.lookup_cons, List.lookup_nil, Nat.reduceBEq, beq_self_eq_true, Bool.and_true, Bool.true_and, Bool.false_and, Bool.and_false]
  refine ⟨len_ok (by have := ha.2.1; have := hb.2.1; simp; omega), fun h => ?_, fun h => ?_⟩
  · have c := caused_ok (d := d + 20) h3 h2 (f := shF a.cnt b.f) (c := a.f) (by rw [(sz_sh _ _).2.2]; exact hn h) sh ha.2.2.1 (by rw [(sz_sh _ _).2.1]; have := hb.2.2.2; omega) (by have := ha.2.2.2; omega) (S := S)
    rw [wp_eq c]
    refine ⟨len_ok (by decide), ?_, rfl⟩
    have e : enR a b = ⟨"bad", a.ns ++ b.ns, a.cnt + b.cnt, caF (shF a.cnt b.f) a.f⟩ := if_pos h
    rw [e]
  · refine ⟨len_ok (by decide), ?_⟩
    have e : enR a b = ⟨a.w, a.ns ++ b.ns, a.cnt + b.cnt, a.f⟩ := if_neg h
    rw [e]
end
end Nv
/-! Nv: books. -/
namespace Nv
open PySem PySem.Spec PyProof.Rows L2
def letters : Str := "abcdefghijklmnopqrstuvwxyz"
def nameB (z : Str) : Bool := decide (1 ≤ z.length ∧ z.length ≤ 8) && z.cps.toList.all fun c => decide (c ∈ letters.cps.toList)
abbrev Bk := List (Str × Str)
def rowD (r : Str × Str) : D := .tup [.str r.1, .str r.2]
def kvD (r : Str × Str) : D × D := (.str r.1, .str r.2)
def toB (rows : Bk) : D := .tup (rows.map rowD)
def wee (z : Str) : Prop := z.length ≤ 1000 ∧ PyData.strOk z = true
def weeB (rows : Bk) : Prop := rows.length ≤ 1000 ∧ ∀ r ∈ rows, wee r.1 ∧ wee r.2
def pairB (r : Str × Str) : Bool := nameB r.1 && (nameB r.2 && decide (r.1 ≠ "fault"))
def ltS (a b : Str) : Bool := decide (a.cps.toList < b.cps.toList)
def risesB : List Str → Bool
  | a :: b :: r => ltS a b && risesB (b :: r)
  | _ => true
def getS : Bk → Str → Option Str
  | [], _ => none
  | (a, b) :: r, k => if a = k then some b else getS r k
def chainL (rows : Bk) : Nat → Str → List Str
  | 0, k => [k]
  | n + 1, k => k :: match getS rows k with
    | some p => chainL rows n p
    | none => []
def bookB (rows : Bk) : Bool := decide (rows.length ≤ 12) && (rows.all pairB && (risesB (rows.map (·.1)) && rows.all fun r => decide ((chainL rows rows.length r.1).getLast? = some "fault")))
def kindB1 (rows : Bk) (k : Str) : Bool := decide (k = "fault") || (getS rows k).isSome
/-- a global's value -/
def Gl (P : Prog) (g : Nat) (v : D) : Prop := (P.globs[g]?).map (·.2) = some v
/-! ### general -/
section
variable {P : Prog} {M : Sm} {ρ : AEnv} {S : Store}
theorem we_gl {Q : D → Store → Prop} {g : Nat} {v : D} (h : Gl P g v) : wp (evalE P M (.glb g) ρ S) Q = Q v S := by
  rw [we_glb]
  unfold Gl at h
  cases e : P.globs[g]? with
  | none => rw [e] at h; cases h
  | some x => rw [e] at h; cases h; rfl
theorem comp_maps {α : Type} {gu : List (Nat × List D)} {asg : D → AEnv → Store → Rs AEnv} {tst : AEnv → Store → Rs Bool} {elt : AEnv → Store → Rs D} {Q : List D → Store → Prop} {xs : List α} (e f : α → D) (hg : guardOk gu S = true)
    (step : ∀ x ∈ xs, wp (asg (e x) ρ S) fun ρ1 S1 => wp (tst ρ1 S1) fun b S2 => b = true ∧ wp (elt ρ1 S2) fun y S3 => y = f x ∧ S3 = S) (fin : Q (xs.map f) S) : wp (compF gu asg tst elt ρ (xs.map e) S) Q := by
  induction xs generalizing Q with
  | nil =>
    show wp (if guardOk gu S = true then Rs.ok [] S else .stuck) Q
    rw [if_pos hg]; exact fin
  | cons x r ih =>
    show wp (if guardOk gu S = true then (asg (e x) ρ S).bind fun ρ1 S1 => (tst ρ1 S1).bind fun b S2 => match b with
      | true => (elt ρ1 S2).bind fun y S3 => (compF gu asg tst elt ρ (r.map e) S3).bind fun ys S4 => .ok (y :: ys) S4
      | false => compF gu asg tst elt ρ (r.map e) S2
    else .stuck) Q
    rw [if_pos hg, wp_bind]
    refine wp_mono (step x List.mem_cons_self) fun ρ1 S1 z => ?_
    rw [wp_bind]
    refine wp_mono z fun b S2 z => ?_
    obtain ⟨rfl, z⟩ := z
    show wp ((elt ρ1 S2).bind fun y S3 => (compF gu asg tst elt ρ (r.map e) S3).bind fun ys S4 => .ok (y :: ys) S4) Q
    rw [wp_bind]
    refine wp_mono z fun y S3 z => ?_
    obtain ⟨rfl, rfl⟩ := z
    rw [wp_bind]
    exact ih (fun x hx => step x (List.mem_cons_of_mem _ hx)) fin
theorem comp_empty {gu : List (Nat × List D)} {asg : D → AEnv → Store → Rs AEnv} {tst : AEnv → Store → Rs Bool} {elt : AEnv → Store → Rs D} {Q : List D → Store → Prop} (hg : guardOk gu S = true) (h : Q [] S) : wp (compF gu asg tst elt ρ [] S) Q := by
  show wp (if guardOk gu S = true then Rs.ok [] S else .stuck) Q
  rw [if_pos hg]; exact h
theorem gu_str {z : Str} {xs : List D} : guardOf (.str z) xs = [] := rfl
theorem gu_tup {z : List D} {xs : List D} : guardOf (.tup z) xs = [] := rfl
theorem gu_new {z : O} {xs : List D} : guardOf (.new z) xs = [] := rfl
theorem gu_nil : guardOk [] S = true := rfl
theorem gu_ref {n : Nat} {xs : List D} (h : S[n]? = some (.lst xs)) : guardOk (guardOf (.ref n) xs) S = true := by
  show (guard1 (n, xs) S && true) = true
  unfold guard1
  simp only [h, sameDs_refl]; rfl
theorem gu_app {a b : List (Nat × List D)} : guardOk (a ++ b) S = (guardOk a S && guardOk b S) := by
  unfold guardOk; rw [List.all_append]
theorem all_bl {α : Type} {xs : List α} {g : α → Bool} {S : Store} : bltD .all [.new (.lst (xs.map fun x => .bl (g x)))] S = some (.bl (xs.all g)) := by
  have : xs.map (fun x => D.bl (g x)) = (xs.map g).map D.bl := by rw [List.map_map]; rfl
  rw [this, all_new, List.all_map]; rfl
theorem at_e0 {a : O} {r : List O} : (S ++ a :: r)[S.length]? = some a := by simp
theorem at_e1 {a b : O} {r : List O} : (S ++ a :: b :: r)[S.length + 1]? = some b := by
  rw [List.getElem?_append_right (by omega)]; simp
theorem at_e2 {a b c : O} {r : List O} : (S ++ a :: b :: c :: r)[S.length + 2]? = some c := by
  rw [List.getElem?_append_right (by omega)]; simp
theorem set_e0 {a c : O} {r : List O} : (S ++ a :: r).set S.length c = S ++ c :: r := by
  rw [List.set_append_right _ _ (by omega)]; simp
theorem set_e1 {a b c : O} {r : List O} : (S ++ a :: b :: r).set (S.length + 1) c = S ++ a :: c :: r := by
  rw [List.set_append_right _ _ (by omega)]; simp
theorem bm_app {n : Nat} {xs : List D} {y : D} {Q : D → Store → Prop} (h : S[n]? = some (.lst xs)) (hd : isData y = true) (hl : xs.length < sizeLine) : wp (bmD .append (.ref n) [y] S) Q = Q .non (S.set n (.lst (xs ++ [y]))) := by
  show wp (match S[n]? with
    | some (.lst xs) => if xs.length < sizeLine then Rs.ok D.non ((mat y S).2.set n (.lst (xs ++ [(mat y S).1]))) else .stuck
    | _ => .stuck) Q = _
  rw [h]
  show wp (if xs.length < sizeLine then Rs.ok D.non ((mat y S).2.set n (.lst (xs ++ [(mat y S).1]))) else .stuck) Q = _
  rw [if_pos hl, mat_data hd]; rfl
theorem bt_app {n : Nat} {xs : List D} (h : S[n]? = some (.lst xs)) : bmTy .append (.ref n) S = true := by
  show (lstOf (.ref n) S).isSome = true
  simp only [lstOf, h]; rfl
theorem q_of {α : Type} {a : α} {o : Option α} {Q : α → Prop} (h : o = some a) : optQ o Q = Q a := by rw [h]; rfl
end
theorem strs_data : ∀ zs : List Str, areData (zs.map D.str) = true
  | [] => rfl
  | _ :: r => strs_data r
theorem rows_data : ∀ rows : Bk, areData (rows.map rowD) = true
  | [] => rfl
  | _ :: r => rows_data r
section
variable {P : Prog}
theorem is_name_ok {i g1 g2 d : Nat} (hf : P.fns[i]? = some (F_is_name g1 g2)) (k1 : Gl P g1 (.str letters)) (k2 : Gl P g2 (.int 8)) {z : Str} (hz : wee z) {S : Store} : (sm P (d + 1)).call i [.str z] S = .ok (.bl (nameB z)) S := by
  refine cl_of hf rfl (Nat.le_of_ble_eq_true rfl) ?_
  have hz1 := hz.1
  have hl : z.length ≤ sizeLine := len_ok (by omega)
  have el : bltD .len [.str z] S = some (.int z.length) := by rw [len_str, if_pos hl]
  simp only [F_is_name, B_is_name, List.map_cons, List.map_nil, List.replicate, List.cons_append, List.nil_append, we_gl k1, we_gl k2, wipeD, el, isT, we_var, we_non, we_bl, we_int, we_str, ws_nil, ws_cons, we_tup, we_lst, we_bin, we_neg, we_cmp, we_chain, we_and1, we_or1, we_and, we_or, we_not, we_ite, we_idx, wo_none, wo_some, we_slc, we_attr, we_call, we_meth, we_make, we_makek, wmake, we_blt, we_bm, we_isi, we_comp, wf_nil, wf_one, wt_tru, wi_of, wi_zip, wi_range, wi_enum, wg_name, wg_tup, wg_nil, wg_cons, optQ_some, optQ_if, optQ_map, optQ_bind, tst_bl, tst_non, tst_int, b_add, b_sub, b_mul, b_fdiv, b_mod, b_pow, c_lt, c_le, c_gt, c_ge, c_eqI, c_neI, c_isI, c_notI, c_isN, c_notN, i_ii, i_ib, n_i, d_i, l_min, l_max, x_ref, x_new, x_tup, s_new, s_tup, y_new, at_0, at_1, at_2, mat_int, mat_bl, mat_str, mat_non, mat_ref, mats_nil, mats_cons, mat_tup, Option.isSome_some, List.getElem?_cons_zero, List.getElem?_cons_succ, List.set_cons_zero, List.set_cons_succ, decide_eq_true_eq, decide_eq_false_iff_not, wp_ok, st_ite, st_set, st_expr, st_ret, st_retN, st_pass, st_cont, st_unp, st_par, st_sub, st_for, st_wh, sq_nx, sq_rt, sq_ct, sq_bk, ss_nil, ss_cons, rq_f, rq_n, we_dct, we_revs, we_comp2, we_dcomp, wg_wtp, io_str, io_tup, io_new, tst_b, tst_str, tst_tup, len_tup, len_new, all_new, any_new, lis_tup, tup_new, c_eqS, c_neS, c_eqB, c_neB, c_isT, c_notT, c_isS, c_notS, at_3, at_4, at_m1, x_str0, i_non, i_bl, i_str, i_tup, le1, le2, le3, le4, le5, true_implies, false_implies, reduceCtorEq, and_true, true_and, Bool.not_true, Bool.not_false, putA, List.length_nil, List.length_cons, List.set_set, reduceIte, Nat.reduceEqDiff, Nat.zero_ne_one, Nat.one_ne_zero, ne_eq, not_true_eq_false, not_false_eq_true, List.append_assoc, List.cons_append, List.nil_append, List.lookup_cons, List.lookup_nil, Nat.reduceBEq, beq_self_eq_true, Bool.and_true, Bool.true_and, Bool.false_and, Bool.and_false]
  refine ⟨fun h1 => ⟨fun h2 => ?_, fun h2 => ?_⟩, fun h1 => ?_⟩
  · refine comp_maps (fun c : Nat => D.str ⟨#[c]⟩) (fun c => .bl (decide (c ∈ letters.cps.toList))) gu_nil (fun c hc => ?_) ?_
    · simp only [we_gl k1, c_inS, we_var, we_non, we_bl, we_int, we_str, ws_nil, ws_cons, we_tup, we_lst, we_bin, we_neg, we_cmp, we_chain, we_and1, we_or1, we_and, we_or, we_not, we_ite, we_idx, wo_none, wo_some, we_slc, we_attr, we_call, we_meth, we_make, we_makek, wmake, we_blt, we_bm, we_isi, we_comp, wf_nil, wf_one, wt_tru, wi_of, wi_zip, wi_range, wi_enum, wg_name, wg_tup, wg_nil, wg_cons, optQ_some, optQ_if, optQ_map, optQ_bind, tst_bl, tst_non, tst_int, b_add, b_sub, b_mul, b_fdiv, b_mod, b_pow, c_lt, c_le, c_gt, c_ge, c_eqI, c_neI, c_isI, c_notI, c_isN, c_notN, i_ii, i_ib, n_i, d_i, l_min, l_max, x_ref, x_new, x_tup, s_new, s_tup, y_new, at_0, at_1, at_2, mat_int, mat_bl, mat_str, mat_non, mat_ref, mats_nil, mats_cons, mat_tup, Option.isSome_some, List.getElem?_cons_zero, List.getElem?_cons_succ, List.set_cons_zero, List.set_cons_succ, decide_eq_true_eq, decide_eq_false_iff_not, wp_ok, st_ite, st_set, st_expr, st_ret, st_retN, st_pass, st_cont, st_unp, st_par, st_sub, st_for, st_wh, sq_nx, sq_rt, sq_ct, sq_bk, ss_nil, ss_cons, rq_f, rq_n, we_dct, we_revs, we_comp2, we_dcomp, wg_wtp, io_str, io_tup, io_new, tst_b, tst_str, tst_tup, len_tup, len_new, all_new, any_new, lis_tup, tup_new, c_eqS, c_neS, c_eqB, c_neB, c_isT, c_notT, c_isS, c_notS, at_3, at_4, at_m1, x_str0, i_non, i_bl, i_str, i_tup, le1, le2, le3, le4, le5, true_implies, false_implies, reduceCtorEq, and_true, true_and, Bool.not_true, Bool.not_false, putA, List.length_nil, List.length_cons, List.set_set, reduceIte, Nat.reduceEqDiff, Nat.zero_ne_one, Nat.one_ne_zero, ne_eq, not_true_eq_false, not_false_eq_true, List.append_assoc, List.cons_append, List.nil_append, List.lookup_cons, List.lookup_nil, Nat.reduceBEq, beq_self_eq_true, Bool.and_true, Bool.true_and, Bool.false_and, Bool.and_false]
    · refine ⟨len_ok ?_, ?_⟩
      · rw [List.length_map]
        have : z.cps.toList.length = z.length := by rw [Array.length_toList]; rfl
        omega
      · rw [all_bl, optQ_some]
        refine ⟨?_, rfl⟩
        unfold nameB
        rw [decide_eq_true (by omega : 1 ≤ z.length ∧ z.length ≤ 8), Bool.true_and]
  · unfold nameB
    rw [decide_eq_false h2, decide_eq_false (by omega : ¬(1 ≤ z.length ∧ z.length ≤ 8))]; rfl
  · unfold nameB
    rw [decide_eq_false (by omega : ¬(1 ≤ z.length ∧ z.length ≤ 8))]; rfl
theorem zip_pairs : ∀ zs ws : List Str, zipD (zs.map .str) (ws.map .str) = (zs.zip ws).map fun p => .wtp [.str p.1, .str p.2]
  | [], ws => by cases ws <;> rfl
  | z :: zs, [] => rfl
  | z :: zs, w :: ws => by
    show D.wtp [.str z, .str w] :: zipD (zs.map .str) (ws.map .str) = _
    rw [zip_pairs zs ws]; rfl
theorem rises_all : ∀ zs : List Str, (zs.zip (zs.drop 1)).all (fun p => ltS p.1 p.2) = risesB zs
  | [] => rfl
  | [_] => rfl
  | a :: b :: r => by
    have := rises_all (b :: r)
    show (ltS a b && ((b :: r).zip r).all fun p => ltS p.1 p.2) = (ltS a b && risesB (b :: r))
    rw [← this]; rfl
theorem rises_ok {i d : Nat} (hf : P.fns[i]? = some F_rises) {n : Nat} {zs : List Str} {S : Store} (hn : S[n]? = some (.lst (zs.map .str))) (hz : zs.length ≤ 1000) : (sm P (d + 1)).call i [.ref n] S = .ok (.bl (risesB zs)) S := by
  refine cl_of hf rfl (Nat.le_of_ble_eq_true rfl) ?_
  have e1 : slcD (.ref n) (some 1) none S = some (.new (.lst ((zs.drop 1).map .str))) := by
    show (seqOf (.ref n) S).map (fun xs => D.new (.lst (cutD xs (some 1) none))) = _
    rw [s_lst hn]
    show some (D.new (.lst (cutD (zs.map .str) (some 1) none))) = _
    congr 3
    unfold cutD
    have : HT.sIx (zs.map D.str).length 0 (some 1) = min 1 (zs.map D.str).length := HT.sIx_nat _ _ 1
    rw [this, HT.sIx_none, List.map_drop]
    cases zs with
    | nil => rfl
    | cons z r =>
      simp only [List.map_cons, List.length_cons, List.drop_succ_cons, List.drop_zero]
      rw [show min 1 ((r.map D.str).length + 1) = 1 by omega]
      simp only [List.drop_succ_cons, List.drop_zero]
      rw [List.take_of_length_le (by simp)]
  have e2 := z_ll (S := S) (x := .ref n) (y := .new (.lst ((zs.drop 1).map D.str))) (y_ref hn) rfl
  have e3 : guardOk (guardOf (.ref n) (zs.map .str) ++ guardOf (.new (.lst ((zs.drop 1).map D.str))) ((zs.drop 1).map .str)) S = true := by rw [gu_app, gu_ref hn]; rfl
  simp only [F_rises, B_rises, List.map_cons, List.map_nil, List.replicate, List.cons_append, List.nil_append, wipeD, isT, e1, e2, zip_pairs, we_var, we_non, we_bl, we_int, we_str, ws_nil, ws_cons, we_tup, we_lst, we_bin, we_neg, we_cmp, we_chain, we_and1, we_or1, we_and, we_or, we_not, we_ite, we_idx, wo_none, wo_some, we_slc, we_attr, we_call, we_meth, we_make, we_makek, wmake, we_blt, we_bm, we_isi, we_comp, wf_nil, wf_one, wt_tru, wi_of, wi_zip, wi_range, wi_enum, wg_name, wg_tup, wg_nil, wg_cons, optQ_some, optQ_if, optQ_map, optQ_bind, tst_bl, tst_non, tst_int, b_add, b_sub, b_mul, b_fdiv, b_mod, b_pow, c_lt, c_le, c_gt, c_ge, c_eqI, c_neI, c_isI, c_notI, c_isN, c_notN, i_ii, i_ib, n_i, d_i, l_min, l_max, x_ref, x_new, x_tup, s_new, s_tup, y_new, at_0, at_1, at_2, mat_int, mat_bl, mat_str, mat_non, mat_ref, mats_nil, mats_cons, mat_tup, Option.isSome_some, List.getElem?_cons_zero, List.getElem?_cons_succ, List.set_cons_zero, List.set_cons_succ, decide_eq_true_eq, decide_eq_false_iff_not, wp_ok, st_ite, st_set, st_expr, st_ret, st_retN, st_pass, st_cont, st_unp, st_par, st_sub, st_for, st_wh, sq_nx, sq_rt, sq_ct, sq_bk, ss_nil, ss_cons, rq_f, rq_n, we_dct, we_revs, we_comp2, we_dcomp, wg_wtp, io_str, io_tup, io_new, tst_b, tst_str, tst_tup, len_tup, len_new, all_new, any_new, lis_tup, tup_new, c_eqS, c_neS, c_eqB, c_neB, c_isT, c_notT, c_isS, c_notS, at_3, at_4, at_m1, x_str0, i_non, i_bl, i_str, i_tup, le1, le2, le3, le4, le5, true_implies, false_implies, reduceCtorEq, and_true, true_and, Bool.not_true, Bool.not_false, putA, List.length_nil, List.length_cons, List.set_set, reduceIte, Nat.reduceEqDiff, Nat.zero_ne_one, Nat.one_ne_zero, ne_eq, not_true_eq_false, not_false_eq_true, List.append_assoc, List.cons_append, List.nil_append, List.lookup_cons, List.lookup_nil, Nat.reduceBEq, beq_self_eq_true, Bool.and_true, Bool.true_and, Bool.false_and, Bool.and_false]
  refine comp_maps (fun p : Str × Str => D.wtp [.str p.1, .str p.2]) (fun p => .bl (ltS p.1 p.2)) e3 (fun p _ => ?_) ?_
  · simp only [c_ltS, ltS, we_var, we_non, we_bl, we_int, we_str, ws_nil, ws_cons, we_tup, we_lst, we_bin, we_neg, we_cmp, we_chain, we_and1, we_or1, we_and, we_or, we_not, we_ite, we_idx, wo_none, wo_some, we_slc, we_attr, we_call, we_meth, we_make, we_makek, wmake, we_blt, we_bm, we_isi, we_comp, wf_nil, wf_one, wt_tru, wi_of, wi_zip, wi_range, wi_enum, wg_name, wg_tup, wg_nil, wg_cons, optQ_some, optQ_if, optQ_map, optQ_bind, tst_bl, tst_non, tst_int, b_add, b_sub, b_mul, b_fdiv, b_mod, b_pow, c_lt, c_le, c_gt, c_ge, c_eqI, c_neI, c_isI, c_notI, c_isN, c_notN, i_ii, i_ib, n_i, d_i, l_min, l_max, x_ref, x_new, x_tup, s_new, s_tup, y_new, at_0, at_1, at_2, mat_int, mat_bl, mat_str, mat_non, mat_ref, mats_nil, mats_cons, mat_tup, Option.isSome_some, List.getElem?_cons_zero, List.getElem?_cons_succ, List.set_cons_zero, List.set_cons_succ, decide_eq_true_eq, decide_eq_false_iff_not, wp_ok, st_ite, st_set, st_expr, st_ret, st_retN, st_pass, st_cont, st_unp, st_par, st_sub, st_for, st_wh, sq_nx, sq_rt, sq_ct, sq_bk, ss_nil, ss_cons, rq_f, rq_n, we_dct, we_revs, we_comp2, we_dcomp, wg_wtp, io_str, io_tup, io_new, tst_b, tst_str, tst_tup, len_tup, len_new, all_new, any_new, lis_tup, tup_new, c_eqS, c_neS, c_eqB, c_neB, c_isT, c_notT, c_isS, c_notS, at_3, at_4, at_m1, x_str0, i_non, i_bl, i_str, i_tup, le1, le2, le3, le4, le5, true_implies, false_implies, reduceCtorEq, and_true, true_and, Bool.not_true, Bool.not_false, putA, List.length_nil, List.length_cons, List.set_set, reduceIte, Nat.reduceEqDiff, Nat.zero_ne_one, Nat.one_ne_zero, ne_eq, not_true_eq_false, not_false_eq_true, List.append_assoc, List.cons_append, List.nil_append, List.lookup_cons, List.lookup_nil, Nat.reduceBEq, beq_self_eq_true, Bool.and_true, Bool.true_and, Bool.false_and, Bool.and_false]
  · refine ⟨len_ok ?_, ?_⟩
    · simp only [List.length_map, List.length_zip, List.length_drop]; omega
    · rw [all_bl, optQ_some, rises_all]
      exact ⟨rfl, rfl⟩
theorem is_pair_ok {i i1 g g1 g2 d : Nat} (hf : P.fns[i]? = some (F_is_pair i1 g)) (h1 : P.fns[i1]? = some (F_is_name g1 g2)) (k1 : Gl P g1 (.str letters)) (k2 : Gl P g2 (.int 8)) (k : Gl P g (.str "fault")) {r : Str × Str} (hr : wee r.1 ∧ wee r.2) {S : Store} : (sm P (d + 2)).call i [rowD r] S = .ok (.bl (pairB r)) S := by
  refine cl_of hf rfl (Nat.le_of_ble_eq_true rfl) ?_
  simp only [F_is_pair, B_is_pair, rowD, List.map_cons, List.map_nil, List.replicate, List.cons_append, List.nil_append, we_gl k, wp_eq (is_name_ok (d := d) h1 k1 k2 hr.1), wp_eq (is_name_ok (d := d) h1 k1 k2 hr.2), isT, we_var, we_non, we_bl, we_int, we_str, ws_nil, ws_cons, we_tup, we_lst, we_bin, we_neg, we_cmp, we_chain, we_and1, we_or1, we_and, we_or, we_not, we_ite, we_idx, wo_none, wo_some, we_slc, we_attr, we_call, we_meth, we_make, we_makek, wmake, we_blt, we_bm, we_isi, we_comp, wf_nil, wf_one, wt_tru, wi_of, wi_zip, wi_range, wi_enum, wg_name, wg_tup, wg_nil, wg_cons, optQ_some, optQ_if, optQ_map, optQ_bind, tst_bl, tst_non, tst_int, b_add, b_sub, b_mul, b_fdiv, b_mod, b_pow, c_lt, c_le, c_gt, c_ge, c_eqI, c_neI, c_isI, c_notI, c_isN, c_notN, i_ii, i_ib, n_i, d_i, l_min, l_max, x_ref, x_new, x_tup, s_new, s_tup, y_new, at_0, at_1, at_2, mat_int, mat_bl, mat_str, mat_non, mat_ref, mats_nil, mats_cons, mat_tup, Option.isSome_some, List.getElem?_cons_zero, List.getElem?_cons_succ, List.set_cons_zero, List.set_cons_succ, decide_eq_true_eq, decide_eq_false_iff_not, wp_ok, st_ite, st_set, st_expr, st_ret, st_retN, st_pass, st_cont, st_unp, st_par, st_sub, st_for, st_wh, sq_nx, sq_rt, sq_ct, sq_bk, ss_nil, ss_cons, rq_f, rq_n, we_dct, we_revs, we_comp2, we_dcomp, wg_wtp, io_str, io_tup, io_new, tst_b, tst_str, tst_tup, len_tup, len_new, all_new, any_new, lis_tup, tup_new, c_eqS, c_neS, c_eqB, c_neB, c_isT, c_notT, c_isS, c_notS, at_3, at_4, at_m1, x_str0, i_non, i_bl, i_str, i_tup, le1, le2, le3, le4, le5, true_implies, false_implies, reduceCtorEq, and_true, true_and, Bool.not_true, Bool.not_false, putA, List.length_nil, List.length_cons, List.set_set, reduceIte, Nat.reduceEqDiff, Nat.zero_ne_one, Nat.one_ne_zero, ne_eq, not_true_eq_false, not_false_eq_true, List.append_assoc, List.cons_append, List.nil_append, List.lookup_cons, List.lookup_nil, Nat.reduceBEq, beq_self_eq_true, Bool.and_true, Bool.true_and, Bool.false_and, Bool.and_false]
  refine ⟨fun h1 => ⟨fun h2 => ?_, fun h2 => ?_⟩, fun h1 => ?_⟩
  · unfold pairB; rw [h1, h2]; simp
  · unfold pairB; rw [h1, h2]; rfl
  · unfold pairB; rw [h1]; rfl
theorem pairs_rows : ∀ rows : Bk, pairsD (rows.map rowD) = some (rows.map kvD)
  | [] => rfl
  | r :: rs => by
    show (pairsD (rs.map rowD)).map (kvD r :: ·) = _
    rw [pairs_rows rs]; rfl
theorem put_new {k : Str} {v : D} : ∀ {kvs : Bk}, k ∉ kvs.map (·.1) → putKD (.str k) (.inr k) v (kvs.map kvD) = kvs.map kvD ++ [(.str k, v)] := by
  intro kvs h
  unfold putKD
  rw [if_neg]
  rw [List.any_map, List.any_eq_true]
  rintro ⟨r, hr, e⟩
  have e' : keyD (D.str r.1) = some (.inr k) := of_decide_eq_true e
  have : r.1 = k := by
    have : (some (Sum.inr r.1) : Option Key) = some (.inr k) := e'
    cases this; rfl
  exact h (List.mem_map.mpr ⟨r, hr, this⟩)
theorem merge_rows : ∀ (acc rows : Bk), ((acc ++ rows).map (·.1)).Nodup → mergeKD (acc.map kvD) (rows.map kvD) = some ((acc ++ rows).map kvD)
  | acc, [], _ => by rw [List.append_nil]; rfl
  | acc, r :: rs, h => by
    show mergeKD (putKD (.str r.1) (.inr r.1) (.str r.2) (acc.map kvD)) (rs.map kvD) = _
    have hn : r.1 ∉ acc.map (·.1) := by
      rw [List.map_append, List.map_cons, List.nodup_append] at h
      intro hm
      exact h.2.2 _ hm _ (List.mem_cons_self) rfl
    rw [put_new hn]
    have e : acc.map kvD ++ [(D.str r.1, D.str r.2)] = (acc ++ [r]).map kvD := by rw [List.map_append]; rfl
    rw [e, merge_rows (acc ++ [r]) rs (by rw [List.append_assoc]; exact h), List.append_assoc]; rfl
theorem dict_rows {rows : Bk} (hn : (rows.map (·.1)).Nodup) (hw : rows.length ≤ 1000) {S : Store} : bltD .dict [toB rows] S = some (.new (.dct (rows.map kvD))) := by
  show (match pairsD (rows.map rowD) with
      | some ps => if (ps.all fun p => isCell p.2) = true ∧ ps.length ≤ sizeLine then (mergeKD [] ps).map fun kvs => D.new (.dct kvs) else none
      | none => none) = _
  rw [pairs_rows]
  show (if ((rows.map kvD).all fun p => isCell p.2) = true ∧ (rows.map kvD).length ≤ sizeLine then (mergeKD [] (rows.map kvD)).map fun kvs => D.new (.dct kvs) else none) = _
  rw [if_pos]
  · have := merge_rows [] rows hn
    rw [show mergeKD [] (rows.map kvD) = some (rows.map kvD) from this]; rfl
  · refine ⟨?_, len_ok (by simp; omega)⟩
    rw [List.all_map, List.all_eq_true]
    intro r _; rfl
theorem get_rows : ∀ (rows : Bk) (k : Str), getKD (rows.map kvD) (.inr k) = (getS rows k).map .str
  | [], _ => rfl
  | r :: rs, k => by
    show (if keyD (D.str r.1) = some (.inr k) then some (D.str r.2) else getKD (rs.map kvD) (.inr k)) = Option.map _ (if r.1 = k then some r.2 else getS rs k)
    by_cases h : r.1 = k
    · rw [if_pos (by rw [h]; rfl), if_pos h]; rfl
    · rw [if_neg (by intro z; apply h; have : (some (Sum.inr r.1) : Option Key) = some (.inr k) := z; cases this; rfl), if_neg h, get_rows rs k]
theorem mat_dct {rows : Bk} {S : Store} : mat (.new (.dct (rows.map kvD))) S = (.ref S.length, S ++ [.dct (rows.map kvD)]) := by
  have : ∀ (rows : Bk) (S : Store), matKs (rows.map kvD) S = (rows.map kvD, S) := by
    intro rows
    induction rows with
    | nil => intro S; rfl
    | cons r rs ih =>
      intro S
      show ((D.str r.1, D.str r.2) :: (matKs (rs.map kvD) S).1, (matKs (rs.map kvD) S).2) = _
      rw [ih]; rfl
  show (D.ref (matKs (rows.map kvD) S).2.length, (matKs (rows.map kvD) S).2 ++ [O.dct (matKs (rows.map kvD) S).1]) = _
  rw [this]
theorem mat_lstd {xs : List D} {S : Store} (h : areData xs = true) : mat (.new (.lst xs)) S = (.ref S.length, S ++ [.lst xs]) := by
  rw [mat_lst, mats_data h]
theorem chain_in_ok {i d : Nat} (hf : P.fns[i]? = some F_chain_in) {rows : Bk} (hn : (rows.map (·.1)).Nodup) (hw : rows.length ≤ 1000) {k : Str} {S : Store} : (sm P (d + 1)).call i [toB rows, .str k] S = .ok (.new (.lst ((chainL rows rows.length k).map .str))) S := by
  refine cl_of hf rfl (Nat.le_of_ble_eq_true rfl) ?_
  have m1 : ∀ T, mat (.new (.lst [.str k])) T = (.ref T.length, T ++ [.lst [.str k]]) := fun T => mat_lstd rfl
  simp only [F_chain_in, B_chain_in, List.map_cons, List.map_nil, List.replicate, List.cons_append, List.nil_append, isT, dict_rows hn hw, mat_dct, m1, List.length_append, we_var, we_non, we_bl, we_int, we_str, ws_nil, ws_cons, we_tup, we_lst, we_bin, we_neg, we_cmp, we_chain, we_and1, we_or1, we_and, we_or, we_not, we_ite, we_idx, wo_none, wo_some, we_slc, we_attr, we_call, we_meth, we_make, we_makek, wmake, we_blt, we_bm, we_isi, we_comp, wf_nil, wf_one, wt_tru, wi_of, wi_zip, wi_range, wi_enum, wg_name, wg_tup, wg_nil, wg_cons, optQ_some, optQ_if, optQ_map, optQ_bind, tst_bl, tst_non, tst_int, b_add, b_sub, b_mul, b_fdiv, b_mod, b_pow, c_lt, c_le, c_gt, c_ge, c_eqI, c_neI, c_isI, c_notI, c_isN, c_notN, i_ii, i_ib, n_i, d_i, l_min, l_max, x_ref, x_new, x_tup, s_new, s_tup, y_new, at_0, at_1, at_2, mat_int, mat_bl, mat_str, mat_non, mat_ref, mats_nil, mats_cons, mat_tup, Option.isSome_some, List.getElem?_cons_zero, List.getElem?_cons_succ, List.set_cons_zero, List.set_cons_succ, decide_eq_true_eq, decide_eq_false_iff_not, wp_ok, st_ite, st_set, st_expr, st_ret, st_retN, st_pass, st_cont, st_unp, st_par, st_sub, st_for, st_wh, sq_nx, sq_rt, sq_ct, sq_bk, ss_nil, ss_cons, rq_f, rq_n, we_dct, we_revs, we_comp2, we_dcomp, wg_wtp, io_str, io_tup, io_new, tst_b, tst_str, tst_tup, len_tup, len_new, all_new, any_new, lis_tup, tup_new, c_eqS, c_neS, c_eqB, c_neB, c_isT, c_notT, c_isS, c_notS, at_3, at_4, at_m1, x_str0, i_non, i_bl, i_str, i_tup, le1, le2, le3, le4, le5, true_implies, false_implies, reduceCtorEq, and_true, true_and, Bool.not_true, Bool.not_false, putA, List.length_nil, List.length_cons, List.set_set, reduceIte, Nat.reduceEqDiff, Nat.zero_ne_one, Nat.one_ne_zero, ne_eq, not_true_eq_false, not_false_eq_true, List.append_assoc, List.cons_append, List.nil_append, List.lookup_cons, List.lookup_nil, Nat.reduceBEq, beq_self_eq_true, Bool.and_true, Bool.true_and, Bool.false_and, Bool.and_false]
  refine ⟨len_ok (by decide), ?_⟩
  refine wp_whF (fun m ρ T => ∃ pre last, ρ = [some (toB rows), some (.str k), some (.ref S.length), some (.ref (S.length + 1))] ∧ T = S ++ [.dct (rows.map kvD), .lst ((pre ++ [last]).map .str)] ∧ pre.length + m = rows.length ∧ pre ++ chainL rows m last = chainL rows rows.length k) ?_ WF rows.length ⟨[], k, rfl, rfl, by simp, rfl⟩ (by have : WF = 1000000 := rfl; omega)
  rintro m ρ T ⟨pre, last, rfl, rfl, hm, hc⟩
  generalize hT : S ++ [O.dct (rows.map kvD), O.lst ((pre ++ [last]).map D.str)] = T
  have c0 : T[S.length]? = some (.dct (rows.map kvD)) := by rw [← hT]; exact at_e0
  have c1 : T[S.length + 1]? = some (.lst ((pre ++ [last]).map .str)) := by rw [← hT]; exact at_e1
  have i1 : idxD (.ref (S.length + 1)) (.int (-1)) T = some (.str last) := by
    rw [x_ref (by rw [s_lst c1]; rfl), s_lst c1, List.map_append]
    show L2.atI _ _ = _
    rw [at_m1]; simp
  have i2 : cmpD .inn (.str last) (.ref S.length) T = some ((getS rows last).isSome) := by
    show inD (.str last) (.ref S.length) T = _
    have : dctOf (.ref S.length) T = some (rows.map kvD) := by simp only [dctOf, c0]
    simp only [inD, this]
    show some ((getKD (rows.map kvD) (.inr last)).isSome) = _
    rw [get_rows]; simp
  have l1 : bltD .len [.ref (S.length + 1)] T = some (.int ((pre.length + 1 : Nat) : Int)) := by rw [len_ref c1]; simp
  have l2 : bltD .len [.ref S.length] T = some (.int (rows.length : Nat)) := by rw [len_dct c0]; simp
  have fin : pre ++ [last] = chainL rows rows.length k → ∀ ρ, retQ true S (fun x S' => x = D.new (O.lst ((chainL rows rows.length k).map .str)) ∧ S' = S) (Fl.rt (.ref (S.length + 1)), ρ) T := by
    intro e ρ
    rw [← e]
    exact ret_r (Nat.le_succ _) c1 (strs_data _) (by rw [← hT]; exact trunc_app) ⟨rfl, rfl⟩
  simp only [i1, i2, l1, l2, we_var, we_non, we_bl, we_int, we_str, ws_nil, ws_cons, we_tup, we_lst, we_bin, we_neg, we_cmp, we_chain, we_and1, we_or1, we_and, we_or, we_not, we_ite, we_idx, wo_none, wo_some, we_slc, we_attr, we_call, we_meth, we_make, we_makek, wmake, we_blt, we_bm, we_isi, we_comp, wf_nil, wf_one, wt_tru, wi_of, wi_zip, wi_range, wi_enum, wg_name, wg_tup, wg_nil, wg_cons, optQ_some, optQ_if, optQ_map, optQ_bind, tst_bl, tst_non, tst_int, b_add, b_sub, b_mul, b_fdiv, b_mod, b_pow, c_lt, c_le, c_gt, c_ge, c_eqI, c_neI, c_isI, c_notI, c_isN, c_notN, i_ii, i_ib, n_i, d_i, l_min, l_max, x_ref, x_new, x_tup, s_new, s_tup, y_new, at_0, at_1, at_2, mat_int, mat_bl, mat_str, mat_non, mat_ref, mats_nil, mats_cons, mat_tup, Option.isSome_some, List.getElem?_cons_zero, List.getElem?_cons_succ, List.set_cons_zero, List.set_cons_succ, decide_eq_true_eq, decide_eq_false_iff_not, wp_ok, st_ite, st_set, st_expr, st_ret, st_retN, st_pass, st_cont, st_unp, st_par, st_sub, st_for, st_wh, sq_nx, sq_rt, sq_ct, sq_bk, ss_nil, ss_cons, rq_f, rq_n, we_dct, we_revs, we_comp2, we_dcomp, wg_wtp, io_str, io_tup, io_new, tst_b, tst_str, tst_tup, len_tup, len_new, all_new, any_new, lis_tup, tup_new, c_eqS, c_neS, c_eqB, c_neB, c_isT, c_notT, c_isS, c_notS, at_3, at_4, at_m1, x_str0, i_non, i_bl, i_str, i_tup, le1, le2, le3, le4, le5, true_implies, false_implies, reduceCtorEq, and_true, true_and, Bool.not_true, Bool.not_false, putA, List.length_nil, List.length_cons, List.set_set, reduceIte, Nat.reduceEqDiff, Nat.zero_ne_one, Nat.one_ne_zero, ne_eq, not_true_eq_false, not_false_eq_true, List.append_assoc, List.cons_append, List.nil_append, List.lookup_cons, List.lookup_nil, Nat.reduceBEq, beq_self_eq_true, Bool.and_true, Bool.true_and, Bool.false_and, Bool.and_false]
  refine ⟨fun h1 => ⟨fun h2 => ?_, fun h2 => ?_⟩, fun h1 => ⟨fun h2 => ?_, fun _ => ?_⟩⟩
  · obtain ⟨p, hp⟩ := Option.isSome_iff_exists.mp h1
    have i3 : idxD (.ref S.length) (.str last) T = some (.str p) := by
      have a : seqOf (.ref S.length) T = none := by simp only [seqOf, c0]
      have b : dctOf (.ref S.length) T = some (rows.map kvD) := by simp only [dctOf, c0]
      show (match seqOf (.ref S.length) T with
        | some xs => none
        | none => match dctOf (.ref S.length) T, keyD (.str last) with
          | some kvs, some k => getKD kvs k
          | _, _ => none) = _
      rw [a, b]
      show getKD (rows.map kvD) (.inr last) = _
      rw [get_rows, hp]; rfl
    simp only [i3, bt_app c1, we_var, we_non, we_bl, we_int, we_str, ws_nil, ws_cons, we_tup, we_lst, we_bin, we_neg, we_cmp, we_chain, we_and1, we_or1, we_and, we_or, we_not, we_ite, we_idx, wo_none, wo_some, we_slc, we_attr, we_call, we_meth, we_make, we_makek, wmake, we_blt, we_bm, we_isi, we_comp, wf_nil, wf_one, wt_tru, wi_of, wi_zip, wi_range, wi_enum, wg_name, wg_tup, wg_nil, wg_cons, optQ_some, optQ_if, optQ_map, optQ_bind, tst_bl, tst_non, tst_int, b_add, b_sub, b_mul, b_fdiv, b_mod, b_pow, c_lt, c_le, c_gt, c_ge, c_eqI, c_neI, c_isI, c_notI, c_isN, c_notN, i_ii, i_ib, n_i, d_i, l_min, l_max, x_ref, x_new, x_tup, s_new, s_tup, y_new, at_0, at_1, at_2, mat_int, mat_bl, mat_str, mat_non, mat_ref, mats_nil, mats_cons, mat_tup, Option.isSome_some, List.getElem?_cons_zero, List.getElem?_cons_succ, List.set_cons_zero, List.set_cons_succ, decide_eq_true_eq, decide_eq_false_iff_not, wp_ok, st_ite, st_set, st_expr, st_ret, st_retN, st_pass, st_cont, st_unp, st_par, st_sub, st_for, st_wh, sq_nx, sq_rt, sq_ct, sq_bk, ss_nil, ss_cons, rq_f, rq_n, we_dct, we_revs, we_comp2, we_dcomp, wg_wtp, io_str, io_tup, io_new, tst_b, tst_str, tst_tup, len_tup, len_new, all_new, any_new, lis_tup, tup_new, c_eqS, c_neS, c_eqB, c_neB, c_isT, c_notT, c_isS, c_notS, at_3, at_4, at_m1, x_str0, i_non, i_bl, i_str, i_tup, le1, le2, le3, le4, le5, true_implies, false_implies, reduceCtorEq, and_true, true_and, Bool.not_true, Bool.not_false, putA, List.length_nil, List.length_cons, List.set_set, reduceIte, Nat.reduceEqDiff, Nat.zero_ne_one, Nat.one_ne_zero, ne_eq, not_true_eq_false, not_false_eq_true, List.append_assoc, List.cons_append, List.nil_append, List.lookup_cons, List.lookup_nil, Nat.reduceBEq, beq_self_eq_true, Bool.and_true, Bool.true_and, Bool.false_and, Bool.and_false]
    rw [bm_app c1 rfl (by have : (100000 : Nat) ≤ sizeLine := by decide
                          simp; omega)]
    refine ⟨m - 1, by omega, pre ++ [last], p, ?_, by simp; omega, ?_⟩
    · rw [← hT, set_e1]; simp
    · obtain ⟨m, rfl⟩ : ∃ e, m = e + 1 := ⟨m - 1, by omega⟩
      rw [← hc]
      show _ = pre ++ (last :: match getS rows last with
        | some p => chainL rows m p
        | none => [])
      rw [hp]; simp
  · refine fin ?_ _
    rw [← hc, show m = 0 by omega]; rfl
  · rw [h1] at h2; cases h2
  · refine fin ?_ _
    rw [← hc]
    cases m with
    | zero => rfl
    | succ m =>
      show _ = pre ++ (last :: match getS rows last with
        | some p => chainL rows m p
        | none => [])
      have : getS rows last = none := by
        cases e : getS rows last with
        | none => rfl
        | some p => rw [e] at h1; cases h1
      rw [this]
theorem ltS_trans {a b c : Str} (h : ltS a b = true) (k : ltS b c = true) : ltS a c = true := decide_eq_true (List.lt_trans (of_decide_eq_true h) (of_decide_eq_true k))
theorem ltS_irr {a : Str} : ltS a a = false := decide_eq_false (List.lt_irrefl _)
theorem rises_pw : ∀ {zs : List Str}, risesB zs = true → zs.Pairwise fun a b => ltS a b = true
  | [], _ => .nil
  | [a], _ => by simp
  | a :: b :: r, h => by
    have h' : (ltS a b && risesB (b :: r)) = true := h
    rw [Bool.and_eq_true] at h'
    have ih := rises_pw h'.2
    refine List.pairwise_cons.mpr ⟨fun c hc => ?_, ih⟩
    rcases List.mem_cons.mp hc with rfl | hc
    · exact h'.1
    · exact ltS_trans h'.1 ((List.pairwise_cons.mp ih).1 c hc)
theorem rises_nodup {zs : List Str} (h : risesB zs = true) : zs.Nodup := (rises_pw h).imp fun {a b} k e => by rw [e, ltS_irr] at k; cases k
theorem book_nodup {rows : Bk} (h : bookB rows = true) : (rows.map (·.1)).Nodup := by
  unfold bookB at h
  simp only [Bool.and_eq_true] at h
  exact rises_nodup h.2.2.1
/-- where the functions of books stand -/
structure BkAt (P : Prog) (iN iR iP iC iB iL iK gL gN gT gM : Nat) : Prop where
  name : P.fns[iN]? = some (F_is_name gL gN)
  rises : P.fns[iR]? = some F_rises
  pair : P.fns[iP]? = some (F_is_pair iN gT)
  chain : P.fns[iC]? = some F_chain_in
  book : P.fns[iB]? = some (F_is_book iC iP iR gM gT)
  look : P.fns[iL]? = some (F_look_at_book iB)
  kind : P.fns[iK]? = some (F_is_kind gT)
  let_ : Gl P gL (.str letters)
  eight : Gl P gN (.int 8)
  top : Gl P gT (.str "fault")
  twelve : Gl P gM (.int 12)
variable {iN iR iP iC iB iL iK gL gN gT gM : Nat} (b : BkAt P iN iR iP iC iB iL iK gL gN gT gM)
include b
omit b in
theorem tB_isi {rows : Bk} {S : Store} : isiD (toB rows) .tuple S = some true := rfl
omit b in
theorem tB_len {rows : Bk} {S : Store} : bltD .len [toB rows] S = some (.int (rows.length : Nat)) := by
  show bltD .len [.tup (rows.map rowD)] S = _
  rw [len_tup, List.length_map]
omit b in
theorem tB_it {rows : Bk} {S : Store} : itemsOf (toB rows) S = some (rows.map rowD) := rfl
omit b in
theorem tB_gu {rows : Bk} {xs : List D} : guardOf (toB rows) xs = [] := rfl
omit b in
theorem tB_mat {rows : Bk} {S : Store} : mat (toB rows) S = (toB rows, S) := mat_data (rows_data rows)
omit b in
theorem row_mat {r : Str × Str} {S : Store} : mat (rowD r) S = (rowD r, S) := rfl
omit b in
theorem row_x0 {r : Str × Str} {S : Store} : idxD (rowD r) (.int 0) S = some (.str r.1) := rfl
omit b in
theorem row_x1 {r : Str × Str} {S : Store} : idxD (rowD r) (.int 1) S = some (.str r.2) := rfl
theorem is_book_ok {rows : Bk} (hw : weeB rows) {S : Store} {d : Nat} : (sm P (d + 4)).call iB [toB rows] S = .ok (.bl (bookB rows)) S := by
  refine cl_of b.book rfl (Nat.le_of_ble_eq_true rfl) ?_
  have hw1 := hw.1
  simp only [F_is_book, B_is_book, List.map_cons, List.map_nil, List.replicate, List.cons_append, List.nil_append, wipeD, isT, we_gl b.twelve, tB_isi, tB_len, tB_it, tB_gu, tB_mat, row_mat, row_x0, we_var, we_non, we_bl, we_int, we_str, ws_nil, ws_cons, we_tup, we_lst, we_bin, we_neg, we_cmp, we_chain, we_and1, we_or1, we_and, we_or, we_not, we_ite, we_idx, wo_none, wo_some, we_slc, we_attr, we_call, we_meth, we_make, we_makek, wmake, we_blt, we_bm, we_isi, we_comp, wf_nil, wf_one, wt_tru, wi_of, wi_zip, wi_range, wi_enum, wg_name, wg_tup, wg_nil, wg_cons, optQ_some, optQ_if, optQ_map, optQ_bind, tst_bl, tst_non, tst_int, b_add, b_sub, b_mul, b_fdiv, b_mod, b_pow, c_lt, c_le, c_gt, c_ge, c_eqI, c_neI, c_isI, c_notI, c_isN, c_notN, i_ii, i_ib, n_i, d_i, l_min, l_max, x_ref, x_new, x_tup, s_new, s_tup, y_new, at_0, at_1, at_2, mat_int, mat_bl, mat_str, mat_non, mat_ref, mats_nil, mats_cons, mat_tup, Option.isSome_some, List.getElem?_cons_zero, List.getElem?_cons_succ, List.set_cons_zero, List.set_cons_succ, decide_eq_true_eq, decide_eq_false_iff_not, wp_ok, st_ite, st_set, st_expr, st_ret, st_retN, st_pass, st_cont, st_unp, st_par, st_sub, st_for, st_wh, sq_nx, sq_rt, sq_ct, sq_bk, ss_nil, ss_cons, rq_f, rq_n, we_dct, we_revs, we_comp2, we_dcomp, wg_wtp, io_str, io_tup, io_new, tst_b, tst_str, tst_tup, len_tup, len_new, all_new, any_new, lis_tup, tup_new, c_eqS, c_neS, c_eqB, c_neB, c_isT, c_notT, c_isS, c_notS, at_3, at_4, at_m1, x_str0, i_non, i_bl, i_str, i_tup, le1, le2, le3, le4, le5, true_implies, false_implies, reduceCtorEq, and_true, true_and, Bool.not_true, Bool.not_false, putA, List.length_nil, List.length_cons, List.set_set, reduceIte, Nat.reduceEqDiff, Nat.zero_ne_one, Nat.one_ne_zero, ne_eq, not_true_eq_false, not_false_eq_true, List.append_assoc, List.cons_append, List.nil_append, List.lookup_cons, List.lookup_nil, Nat.reduceBEq, beq_self_eq_true, Bool.and_true, Bool.true_and, Bool.false_and, Bool.and_false]
  have tail : rows.length ≤ 12 → rows.all pairB = true → ∀ ρ, wp (compF [] (evalG (G.name 1)) (evalIfs P (sm P (d + 3)) [])
              (evalE P (sm P (d + 3)) ((E.var 1).idx (E.int 0))) [some (toB rows), none]
              (rows.map rowD) S) fun ys S2 =>
            ys.length ≤ sizeLine ∧
              wp ((sm P (d + 3)).call iR [(mat (D.new (O.lst ys)) S2).fst] (mat (D.new (O.lst ys)) S2).snd) fun x S1 =>
                tstD x S1 fun k =>
                  (k = true →
                      wp
                        (compF [] (evalG (G.name 1)) (evalIfs P (sm P (d + 3)) [])
                          (evalE P (sm P (d + 3))
                            (E.cmp Cop.eq ((E.call iC [E.var 0, (E.var 1).idx (E.int 0)]).idx (E.int 1).neg)
                              (E.glb gT)))
                          [some (toB rows), none] (List.map rowD rows) S1)
                        fun ys S2 =>
                        ys.length ≤ sizeLine ∧
                          optQ (bltD Blt.all [D.new (O.lst ys)] S2) fun d =>
                            retQ true S (fun x S' => x = D.bl (bookB rows) ∧ S' = S)
                              (Fl.rt d, ρ) S2) ∧
                    (k = false →
                      retQ true S (fun x S' => x = D.bl (bookB rows) ∧ S' = S)
                        (Fl.rt x, ρ) S1) := by
    intro h12 hp ρ
    refine comp_maps rowD (fun r => .str r.1) gu_nil (fun r _ => ?_) ?_
    · simp only [row_mat, row_x0, we_var, we_non, we_bl, we_int, we_str, ws_nil, ws_cons, we_tup, we_lst, we_bin, we_neg, we_cmp, we_chain, we_and1, we_or1, we_and, we_or, we_not, we_ite, we_idx, wo_none, wo_some, we_slc, we_attr, we_call, we_meth, we_make, we_makek, wmake, we_blt, we_bm, we_isi, we_comp, wf_nil, wf_one, wt_tru, wi_of, wi_zip, wi_range, wi_enum, wg_name, wg_tup, wg_nil, wg_cons, optQ_some, optQ_if, optQ_map, optQ_bind, tst_bl, tst_non, tst_int, b_add, b_sub, b_mul, b_fdiv, b_mod, b_pow, c_lt, c_le, c_gt, c_ge, c_eqI, c_neI, c_isI, c_notI, c_isN, c_notN, i_ii, i_ib, n_i, d_i, l_min, l_max, x_ref, x_new, x_tup, s_new, s_tup, y_new, at_0, at_1, at_2, mat_int, mat_bl, mat_str, mat_non, mat_ref, mats_nil, mats_cons, mat_tup, Option.isSome_some, List.getElem?_cons_zero, List.getElem?_cons_succ, List.set_cons_zero, List.set_cons_succ, decide_eq_true_eq, decide_eq_false_iff_not, wp_ok, st_ite, st_set, st_expr, st_ret, st_retN, st_pass, st_cont, st_unp, st_par, st_sub, st_for, st_wh, sq_nx, sq_rt, sq_ct, sq_bk, ss_nil, ss_cons, rq_f, rq_n, we_dct, we_revs, we_comp2, we_dcomp, wg_wtp, io_str, io_tup, io_new, tst_b, tst_str, tst_tup, len_tup, len_new, all_new, any_new, lis_tup, tup_new, c_eqS, c_neS, c_eqB, c_neB, c_isT, c_notT, c_isS, c_notS, at_3, at_4, at_m1, x_str0, i_non, i_bl, i_str, i_tup, le1, le2, le3, le4, le5, true_implies, false_implies, reduceCtorEq, and_true, true_and, Bool.not_true, Bool.not_false, putA, List.length_nil, List.length_cons, List.set_set, reduceIte, Nat.reduceEqDiff, Nat.zero_ne_one, Nat.one_ne_zero, ne_eq, not_true_eq_false, not_false_eq_true, List.append_assoc, List.cons_append, List.nil_append, List.lookup_cons, List.lookup_nil, Nat.reduceBEq, beq_self_eq_true, Bool.and_true, Bool.true_and, Bool.false_and, Bool.and_false]
    refine ⟨len_ok (by simp; omega), ?_⟩
    have e0 : rows.map (fun r => D.str r.1) = (rows.map (·.1)).map .str := by rw [List.map_map]; rfl
    rw [e0, mat_lstd (strs_data _)]
    rw [wp_eq (rises_ok (d := d + 2) b.rises (n := S.length) (zs := rows.map (·.1)) at_e0 (by simp; omega)), tst_bl]
    refine ⟨fun hr => ?_, fun hr => ?_⟩
    · have hn : (rows.map (·.1)).Nodup := rises_nodup hr
      refine comp_maps rowD (fun r => .bl (decide ((chainL rows rows.length r.1).getLast? = some "fault"))) gu_nil (fun r _ => ?_) ?_
      · simp only [row_mat, row_x0, tB_mat, wp_eq (chain_in_ok (d := d + 2) b.chain hn hw1 (k := r.1)), we_gl b.top, at_m1, List.getLast?_map, we_var, we_non, we_bl, we_int, we_str, ws_nil, ws_cons, we_tup, we_lst, we_bin, we_neg, we_cmp, we_chain, we_and1, we_or1, we_and, we_or, we_not, we_ite, we_idx, wo_none, wo_some, we_slc, we_attr, we_call, we_meth, we_make, we_makek, wmake, we_blt, we_bm, we_isi, we_comp, wf_nil, wf_one, wt_tru, wi_of, wi_zip, wi_range, wi_enum, wg_name, wg_tup, wg_nil, wg_cons, optQ_some, optQ_if, optQ_map, optQ_bind, tst_bl, tst_non, tst_int, b_add, b_sub, b_mul, b_fdiv, b_mod, b_pow, c_lt, c_le, c_gt, c_ge, c_eqI, c_neI, c_isI, c_notI, c_isN, c_notN, i_ii, i_ib, n_i, d_i, l_min, l_max, x_ref, x_new, x_tup, s_new, s_tup, y_new, at_0, at_1, at_2, mat_int, mat_bl, mat_str, mat_non, mat_ref, mats_nil, mats_cons, mat_tup, Option.isSome_some, List.getElem?_cons_zero, List.getElem?_cons_succ, List.set_cons_zero, List.set_cons_succ, decide_eq_true_eq, decide_eq_false_iff_not, wp_ok, st_ite, st_set, st_expr, st_ret, st_retN, st_pass, st_cont, st_unp, st_par, st_sub, st_for, st_wh, sq_nx, sq_rt, sq_ct, sq_bk, ss_nil, ss_cons, rq_f, rq_n, we_dct, we_revs, we_comp2, we_dcomp, wg_wtp, io_str, io_tup, io_new, tst_b, tst_str, tst_tup, len_tup, len_new, all_new, any_new, lis_tup, tup_new, c_eqS, c_neS, c_eqB, c_neB, c_isT, c_notT, c_isS, c_notS, at_3, at_4, at_m1, x_str0, i_non, i_bl, i_str, i_tup, le1, le2, le3, le4, le5, true_implies, false_implies, reduceCtorEq, and_true, true_and, Bool.not_true, Bool.not_false, putA, List.length_nil, List.length_cons, List.set_set, reduceIte, Nat.reduceEqDiff, Nat.zero_ne_one, Nat.one_ne_zero, ne_eq, not_true_eq_false, not_false_eq_true, List.append_assoc, List.cons_append, List.nil_append, List.lookup_cons, List.lookup_nil, Nat.reduceBEq, beq_self_eq_true, Bool.and_true, Bool.true_and, Bool.false_and, Bool.and_false]
        have : ∀ n k, ∃ z, (chainL rows n k).getLast? = some z := by
          intro n k
          cases n <;> exact ⟨_, List.getLast?_eq_some_getLast (by simp [chainL])⟩
        obtain ⟨z, hz⟩ := this rows.length r.1
        simp only [hz, Option.map_some, we_var, we_non, we_bl, we_int, we_str, ws_nil, ws_cons, we_tup, we_lst, we_bin, we_neg, we_cmp, we_chain, we_and1, we_or1, we_and, we_or, we_not, we_ite, we_idx, wo_none, wo_some, we_slc, we_attr, we_call, we_meth, we_make, we_makek, wmake, we_blt, we_bm, we_isi, we_comp, wf_nil, wf_one, wt_tru, wi_of, wi_zip, wi_range, wi_enum, wg_name, wg_tup, wg_nil, wg_cons, optQ_some, optQ_if, optQ_map, optQ_bind, tst_bl, tst_non, tst_int, b_add, b_sub, b_mul, b_fdiv, b_mod, b_pow, c_lt, c_le, c_gt, c_ge, c_eqI, c_neI, c_isI, c_notI, c_isN, c_notN, i_ii, i_ib, n_i, d_i, l_min, l_max, x_ref, x_new, x_tup, s_new, s_tup, y_new, at_0, at_1, at_2, mat_int, mat_bl, mat_str, mat_non, mat_ref, mats_nil, mats_cons, mat_tup, Option.isSome_some, List.getElem?_cons_zero, List.getElem?_cons_succ, List.set_cons_zero, List.set_cons_succ, decide_eq_true_eq, decide_eq_false_iff_not, wp_ok, st_ite, st_set, st_expr, st_ret, st_retN, st_pass, st_cont, st_unp, st_par, st_sub, st_for, st_wh, sq_nx, sq_rt, sq_ct, sq_bk, ss_nil, ss_cons, rq_f, rq_n, we_dct, we_revs, we_comp2, we_dcomp, wg_wtp, io_str, io_tup, io_new, tst_b, tst_str, tst_tup, len_tup, len_new, all_new, any_new, lis_tup, tup_new, c_eqS, c_neS, c_eqB, c_neB, c_isT, c_notT, c_isS, c_notS, at_3, at_4, at_m1, x_str0, i_non, i_bl, i_str, i_tup, le1, le2, le3, le4, le5, true_implies, false_implies, reduceCtorEq, and_true, true_and, Bool.not_true, Bool.not_false, putA, List.length_nil, List.length_cons, List.set_set, reduceIte, Nat.reduceEqDiff, Nat.zero_ne_one, Nat.one_ne_zero, ne_eq, not_true_eq_false, not_false_eq_true, List.append_assoc, List.cons_append, List.nil_append, List.lookup_cons, List.lookup_nil, Nat.reduceBEq, beq_self_eq_true, Bool.and_true, Bool.true_and, Bool.false_and, Bool.and_false]
        by_cases h : z = "fault" <;> simp [h]
      · refine ⟨len_ok (by simp; omega), ?_⟩
        rw [all_bl, optQ_some]
        refine ret_p rfl ⟨?_, rfl⟩
        unfold bookB
        rw [hp, hr, decide_eq_true h12]; rfl
    · refine ret_p rfl ⟨?_, rfl⟩
      unfold bookB
      rw [hp, hr, decide_eq_true h12]; rfl
  refine ⟨fun h => ⟨fun _ => ?_, fun z => absurd h z⟩, fun h => ?_⟩
  · refine ret_p0 rfl ⟨?_, rfl⟩
    unfold bookB
    rw [decide_eq_false (by omega : ¬ rows.length ≤ 12)]; rfl
  · refine comp_maps rowD (fun r => .bl (pairB r)) gu_nil (fun r hr => ?_) ?_
    · simp only [row_mat, wp_eq (is_pair_ok (d := d + 1) b.pair b.name b.let_ b.eight b.top (hw.2 r hr)), we_var, we_non, we_bl, we_int, we_str, ws_nil, ws_cons, we_tup, we_lst, we_bin, we_neg, we_cmp, we_chain, we_and1, we_or1, we_and, we_or, we_not, we_ite, we_idx, wo_none, wo_some, we_slc, we_attr, we_call, we_meth, we_make, we_makek, wmake, we_blt, we_bm, we_isi, we_comp, wf_nil, wf_one, wt_tru, wi_of, wi_zip, wi_range, wi_enum, wg_name, wg_tup, wg_nil, wg_cons, optQ_some, optQ_if, optQ_map, optQ_bind, tst_bl, tst_non, tst_int, b_add, b_sub, b_mul, b_fdiv, b_mod, b_pow, c_lt, c_le, c_gt, c_ge, c_eqI, c_neI, c_isI, c_notI, c_isN, c_notN, i_ii, i_ib, n_i, d_i, l_min, l_max, x_ref, x_new, x_tup, s_new, s_tup, y_new, at_0, at_1, at_2, mat_int, mat_bl, mat_str, mat_non, mat_ref, mats_nil, mats_cons, mat_tup, Option.isSome_some, List.getElem?_cons_zero, List.getElem?_cons_succ, List.set_cons_zero, List.set_cons_succ, decide_eq_true_eq, decide_eq_false_iff_not, wp_ok, st_ite, st_set, st_expr, st_ret, st_retN, st_pass, st_cont, st_unp, st_par, st_sub, st_for, st_wh, sq_nx, sq_rt, sq_ct, sq_bk, ss_nil, ss_cons, rq_f, rq_n, we_dct, we_revs, we_comp2, we_dcomp, wg_wtp, io_str, io_tup, io_new, tst_b, tst_str, tst_tup, len_tup, len_new, all_new, any_new, lis_tup, tup_new, c_eqS, c_neS, c_eqB, c_neB, c_isT, c_notT, c_isS, c_notS, at_3, at_4, at_m1, x_str0, i_non, i_bl, i_str, i_tup, le1, le2, le3, le4, le5, true_implies, false_implies, reduceCtorEq, and_true, true_and, Bool.not_true, Bool.not_false, putA, List.length_nil, List.length_cons, List.set_set, reduceIte, Nat.reduceEqDiff, Nat.zero_ne_one, Nat.one_ne_zero, ne_eq, not_true_eq_false, not_false_eq_true, List.append_assoc, List.cons_append, List.nil_append, List.lookup_cons, List.lookup_nil, Nat.reduceBEq, beq_self_eq_true, Bool.and_true, Bool.true_and, Bool.false_and, Bool.and_false]
    refine ⟨len_ok (by simp; omega), ?_⟩
    rw [all_bl, optQ_some, tst_bl]
    refine ⟨fun h1 => ?_, fun h1 => ?_⟩
    · refine ret_p0 rfl ⟨?_, rfl⟩
      unfold bookB
      have : rows.all pairB = false := by simpa using h1
      rw [this]; simp
    · exact tail (by omega) (by simpa using h1) _
theorem look_ok {rows : Bk} (hw : weeB rows) (hb : bookB rows = true) {S : Store} {d : Nat} : (sm P (d + 5)).call iL [toB rows] S = .ok .non S := by
  refine cl_of b.look rfl (Nat.le_of_ble_eq_true rfl) ?_
  simp only [F_look_at_book, B_look_at_book, List.map_cons, List.map_nil, List.replicate, List.cons_append, List.nil_append, tB_mat, wp_eq (is_book_ok b (d := d) hw), hb, we_var, we_non, we_bl, we_int, we_str, ws_nil, ws_cons, we_tup, we_lst, we_bin, we_neg, we_cmp, we_chain, we_and1, we_or1, we_and, we_or, we_not, we_ite, we_idx, wo_none, wo_some, we_slc, we_attr, we_call, we_meth, we_make, we_makek, wmake, we_blt, we_bm, we_isi, we_comp, wf_nil, wf_one, wt_tru, wi_of, wi_zip, wi_range, wi_enum, wg_name, wg_tup, wg_nil, wg_cons, optQ_some, optQ_if, optQ_map, optQ_bind, tst_bl, tst_non, tst_int, b_add, b_sub, b_mul, b_fdiv, b_mod, b_pow, c_lt, c_le, c_gt, c_ge, c_eqI, c_neI, c_isI, c_notI, c_isN, c_notN, i_ii, i_ib, n_i, d_i, l_min, l_max, x_ref, x_new, x_tup, s_new, s_tup, y_new, at_0, at_1, at_2, mat_int, mat_bl, mat_str, mat_non, mat_ref, mats_nil, mats_cons, mat_tup, Option.isSome_some, List.getElem?_cons_zero, List.getElem?_cons_succ, List.set_cons_zero, List.set_cons_succ, decide_eq_true_eq, decide_eq_false_iff_not, wp_ok, st_ite, st_set, st_expr, st_ret, st_retN, st_pass, st_cont, st_unp, st_par, st_sub, st_for, st_wh, sq_nx, sq_rt, sq_ct, sq_bk, ss_nil, ss_cons, rq_f, rq_n, we_dct, we_revs, we_comp2, we_dcomp, wg_wtp, io_str, io_tup, io_new, tst_b, tst_str, tst_tup, len_tup, len_new, all_new, any_new, lis_tup, tup_new, c_eqS, c_neS, c_eqB, c_neB, c_isT, c_notT, c_isS, c_notS, at_3, at_4, at_m1, x_str0, i_non, i_bl, i_str, i_tup, le1, le2, le3, le4, le5, true_implies, false_implies, reduceCtorEq, and_true, true_and, Bool.not_true, Bool.not_false, putA, List.length_nil, List.length_cons, List.set_set, reduceIte, Nat.reduceEqDiff, Nat.zero_ne_one, Nat.one_ne_zero, ne_eq, not_true_eq_false, not_false_eq_true, List.append_assoc, List.cons_append, List.nil_append, List.lookup_cons, List.lookup_nil, Nat.reduceBEq, beq_self_eq_true, Bool.and_true, Bool.true_and, Bool.false_and, Bool.and_false]
theorem is_kind_ok {rows : Bk} (hw : weeB rows) (hb : bookB rows = true) {k : Str} {S : Store} {d : Nat} : (sm P (d + 1)).call iK [toB rows, .str k] S = .ok (.bl (kindB1 rows k)) S := by
  refine cl_of b.kind rfl (Nat.le_of_ble_eq_true rfl) ?_
  have hin : cmpD .inn (.str k) (.new (.dct (rows.map kvD))) S = some ((getS rows k).isSome) := by
    show some ((getKD (rows.map kvD) (.inr k)).isSome) = _
    rw [get_rows]; simp
  simp only [F_is_kind, B_is_kind, List.map_cons, List.map_nil, List.replicate, List.cons_append, List.nil_append, isT, we_gl b.top, dict_rows (book_nodup hb) hw.1, hin, we_var, we_non, we_bl, we_int, we_str, ws_nil, ws_cons, we_tup, we_lst, we_bin, we_neg, we_cmp, we_chain, we_and1, we_or1, we_and, we_or, we_not, we_ite, we_idx, wo_none, wo_some, we_slc, we_attr, we_call, we_meth, we_make, we_makek, wmake, we_blt, we_bm, we_isi, we_comp, wf_nil, wf_one, wt_tru, wi_of, wi_zip, wi_range, wi_enum, wg_name, wg_tup, wg_nil, wg_cons, optQ_some, optQ_if, optQ_map, optQ_bind, tst_bl, tst_non, tst_int, b_add, b_sub, b_mul, b_fdiv, b_mod, b_pow, c_lt, c_le, c_gt, c_ge, c_eqI, c_neI, c_isI, c_notI, c_isN, c_notN, i_ii, i_ib, n_i, d_i, l_min, l_max, x_ref, x_new, x_tup, s_new, s_tup, y_new, at_0, at_1, at_2, mat_int, mat_bl, mat_str, mat_non, mat_ref, mats_nil, mats_cons, mat_tup, Option.isSome_some, List.getElem?_cons_zero, List.getElem?_cons_succ, List.set_cons_zero, List.set_cons_succ, decide_eq_true_eq, decide_eq_false_iff_not, wp_ok, st_ite, st_set, st_expr, st_ret, st_retN, st_pass, st_cont, st_unp, st_par, st_sub, st_for, st_wh, sq_nx, sq_rt, sq_ct, sq_bk, ss_nil, ss_cons, rq_f, rq_n, we_dct, we_revs, we_comp2, we_dcomp, wg_wtp, io_str, io_tup, io_new, tst_b, tst_str, tst_tup, len_tup, len_new, all_new, any_new, lis_tup, tup_new, c_eqS, c_neS, c_eqB, c_neB, c_isT, c_notT, c_isS, c_notS, at_3, at_4, at_m1, x_str0, i_non, i_bl, i_str, i_tup, le1, le2, le3, le4, le5, true_implies, false_implies, reduceCtorEq, and_true, true_and, Bool.not_true, Bool.not_false, putA, List.length_nil, List.length_cons, List.set_set, reduceIte, Nat.reduceEqDiff, Nat.zero_ne_one, Nat.one_ne_zero, ne_eq, not_true_eq_false, not_false_eq_true, List.append_assoc, List.cons_append, List.nil_append, List.lookup_cons, List.lookup_nil, Nat.reduceBEq, beq_self_eq_true, Bool.and_true, Bool.true_and, Bool.false_and, Bool.and_false]
  unfold kindB1
  by_cases h : k = "fault" <;> simp [h]
end
end Nv
/-! Nv: what is a fault. -/
namespace Nv
open PySem PySem.Spec PyProof.Rows L2
def within (x lo hi : Int) : Bool := decide (lo ≤ x ∧ x ≤ hi)
mutual
/-- a fault of the book, or none -/
def vF (rows : Bk) : Fa → Bool
  | .nil => true
  | .one n k t c => within n 0 1000000 && (kindB1 rows k && (within t 0 999 && vF rows c))
  | .many ms c => within ms.len 1 200 && (vL rows ms && vF rows c)
def vL (rows : Bk) : Fs → Bool
  | .nil => true
  | .cons h r => h.notnil && (vF rows h && vL rows r)
end
mutual
/-- all ones in a fault, causes too, in order -/
def onF : Fa → List Fa
  | .nil => []
  | .one n k t c => .one n k t c :: onF c
  | .many ms c => onL ms ++ onF c
def onL : Fs → List Fa
  | .nil => []
  | .cons h r => onF h ++ onL r
end
mutual
def ndF : Fa → Nat
  | .nil => 0
  | .one _ _ _ c => ndF c + 1
  | .many ms c => ndL ms + ndF c + 1
def ndL : Fs → Nat
  | .nil => 0
  | .cons h r => ndF h + ndL r
end
def Fs.app : Fs → Fs → Fs
  | .nil, q => q
  | .cons h r, q => .cons h (r.app q)
theorem toL_app : ∀ p q : Fs, toL (p.app q) = toL p ++ toL q
  | .nil, _ => rfl
  | .cons h r, q => by show toD h :: toL (r.app q) = _; rw [toL_app r q]; rfl
theorem onL_app : ∀ p q : Fs, onL (p.app q) = onL p ++ onL q
  | .nil, _ => rfl
  | .cons h r, q => by show onF h ++ onL (r.app q) = _; rw [onL_app r q, ← List.append_assoc]; rfl
theorem ndL_app : ∀ p q : Fs, ndL (p.app q) = ndL p + ndL q
  | .nil, q => (Nat.zero_add (ndL q)).symm
  | .cons h r, q => by show ndF h + ndL (r.app q) = ndF h + ndL r + ndL q; rw [ndL_app r q]; omega
theorem szL_app : ∀ p q : Fs, szL (p.app q) = (szL p && szL q)
  | .nil, _ => rfl
  | .cons h r, q => by show (h.notnil && szF h && szL (r.app q)) = (h.notnil && szF h && szL r && szL q); rw [szL_app r q]; simp only [Bool.and_assoc]
theorem dpL_app : ∀ p q : Fs, dpL (p.app q) = max (dpL p) (dpL q)
  | .nil, q => (Nat.zero_max (dpL q)).symm
  | .cons h r, q => by show max (dpF h) (dpL (r.app q)) = max (max (dpF h) (dpL r)) (dpL q); rw [dpL_app r q]; omega
theorem len_app : ∀ p q : Fs, (p.app q).len = p.len + q.len
  | .nil, q => (Nat.zero_add q.len).symm
  | .cons h r, q => by show (r.app q).len + 1 = r.len + 1 + q.len; rw [len_app r q]; omega
theorem nd_len : ∀ p : Fs, szL p = true → p.len ≤ ndL p
  | .nil, _ => Nat.le_refl _
  | .cons h r, k => by
    have h' : (h.notnil && szF h && szL r) = true := k
    rw [Bool.and_eq_true, Bool.and_eq_true] at h'
    have := nd_len r h'.2
    show r.len + 1 ≤ ndF h + ndL r
    have : 1 ≤ ndF h := by cases h <;> first | (cases h'.1.1; done) | (show 1 ≤ _ + 1; omega)
    omega
/-- a store with cells behind it -/
def Ex1 (S T : Store) : Prop := ∃ N, T = S ++ N
theorem Ex1.set {S T : Store} {n : Nat} {o : O} (h : Ex1 S T) (hn : S.length ≤ n) : Ex1 S (T.set n o) := by
  obtain ⟨N, rfl⟩ := h
  exact ⟨N.set (n - S.length) o, by rw [List.set_append_right _ _ hn]⟩
theorem Ex1.app {S T : Store} {o : List O} (h : Ex1 S T) : Ex1 S (T ++ o) := by
  obtain ⟨N, rfl⟩ := h
  exact ⟨N ++ o, by rw [List.append_assoc]⟩
theorem Ex1.refl {S : Store} : Ex1 S S := ⟨[], by rw [List.append_nil]⟩
theorem Ex1.trunc {S T : Store} (h : Ex1 S T) : trunc S T = some S := by
  obtain ⟨N, rfl⟩ := h
  exact trunc_app
theorem Ex1.len {S T : Store} (h : Ex1 S T) : S.length ≤ T.length := by
  obtain ⟨N, rfl⟩ := h
  simp
theorem ne_emp {S : Store} {n : Nat} {xs : List D} (h : S[n]? = some (.lst xs)) (ho : okEs xs = true) (hd : depDs xs ≤ 60) : cmpD .ne (.ref n) (.new (.lst [])) S = some (!xs.isEmpty) := by
  obtain ⟨d1, d2, d3⟩ := dats_ok ho
  show (eqD (.ref n) (.new (.lst [])) S).map not = _
  have : eqD (.ref n) (.new (.lst [])) S = some xs.isEmpty := by
    show (match datS S (.ref n), datS S (.new (.lst [])) with
      | some d, some e => if SeqAt.shaped d = true ∧ SeqAt.shaped e = true then some (PyData.eqv d e) else none
      | _, _ => none) = _
    have e1 : datS S (.ref n) = some (.list (xs.map encD)) := by
      simp only [datS, h, d1]; rfl
    have e2 : datS S (.new (.lst [])) = some (.list []) := rfl
    rw [e1, e2]
    show (if SeqAt.shaped (.list (xs.map encD)) = true ∧ SeqAt.shaped (.list []) = true then some (PyData.eqv (.list (xs.map encD)) (.list [])) else none) = _
    rw [if_pos]
    · rw [PyData.eqv]
      cases xs with
      | nil => rfl
      | cons x r => rw [List.map_cons, PyData.eqvAll]; rfl
    · refine ⟨?_, by decide +kernel⟩
      unfold SeqAt.shaped
      rw [PyData.canLay0, d2, PyData.depth, d3]
      simpa using by omega
  rw [this]; rfl
theorem oks_app : ∀ xs ys : List D, okEs (xs ++ ys) = (okEs xs && okEs ys)
  | [], _ => rfl
  | x :: xs, ys => by show (okE x && okEs (xs ++ ys)) = (okE x && okEs xs && okEs ys); rw [oks_app xs ys, Bool.and_assoc]
section
variable {P : Prog}
theorem wk_oo : decide (("one" : Str) = "one") = true := by decide +kernel
theorem wk_mm : decide (("many" : Str) = "many") = true := by decide +kernel
theorem app_new {x : Nat} {xs ys : List D} {S : Store} {m : Nat} (hx : S[x]? = some (.lst xs)) (hm : S[m]? = some (.lst ys)) (hl : xs.length + ys.length ≤ sizeLine) : binD .add (.ref x) (.ref m) S = some (.new (.lst (xs ++ ys))) := by
  have e1 : lstOf (.ref x) S = some xs := by simp only [lstOf, hx]
  have e2 : lstOf (.ref m) S = some ys := by simp only [lstOf, hm]
  show (match lstOf (.ref x) S, lstOf (.ref m) S with
    | some xs, some ys => if xs.length + ys.length ≤ sizeLine then some (D.new (.lst (xs ++ ys))) else none
    | _, _ => none) = _
  rw [e1, e2]
  show (if xs.length + ys.length ≤ sizeLine then some (D.new (.lst (xs ++ ys))) else none) = _
  rw [if_pos hl]
theorem bm_pop0 {n : Nat} {y : D} {xs : List D} {S : Store} {Q : D → Store → Prop} (h : S[n]? = some (.lst (y :: xs))) : wp (bmD .popAt (.ref n) [.int 0] S) Q = Q y (S.set n (.lst xs)) := by
  have e : seqIndex? 0 (y :: xs).length = some 0 := by
    unfold seqIndex?
    simp
  simp only [bmD, h]
  rw [if_pos (by decide), e]; rfl
theorem bt_pop {n : Nat} {xs : List D} {S : Store} (h : S[n]? = some (.lst xs)) : bmTy .popAt (.ref n) S = true := by
  show (lstOf (.ref n) S).isSome = true
  simp only [lstOf, h]; rfl
mutual
theorem onF_ok : ∀ f : Fa, szF f = true → okEs ((onF f).map toD) = true
  | .nil, _ => rfl
  | .one n k t c, h => by
    have h' : (PyData.strOk k && szF c) = true := h
    rw [Bool.and_eq_true] at h'
    show (okE (toD (.one n k t c)) && okEs ((onF c).map toD)) = true
    rw [toD_ok _ h, onF_ok c h'.2]; rfl
  | .many ms c, h => by
    have h' : (decide (ms.len ≤ 1000) && szL ms && szF c) = true := h
    rw [Bool.and_eq_true, Bool.and_eq_true] at h'
    show okEs ((onL ms ++ onF c).map toD) = true
    rw [List.map_append, oks_app, onL_ok ms h'.1.2, onF_ok c h'.2]; rfl
theorem onL_ok : ∀ ms : Fs, szL ms = true → okEs ((onL ms).map toD) = true
  | .nil, _ => rfl
  | .cons h r, k => by
    have h' : (h.notnil && szF h && szL r) = true := k
    rw [Bool.and_eq_true, Bool.and_eq_true] at h'
    show okEs ((onF h ++ onL r).map toD) = true
    rw [List.map_append, oks_app, onF_ok h h'.1.2, onL_ok r h'.2]; rfl
end
theorem ones_in_ok {i i1 d : Nat} (hf : P.fns[i]? = some (F_ones_in i1)) (h1 : P.fns[i1]? = some F_cause_of) {f : Fa} (hn : f.notnil = true) (hs : szF f = true) (hd : dpF f ≤ 25) (hm : ndF f ≤ 50000) {S : Store} : (sm P (d + 2)).call i [toD f] S = .ok (.new (.lst ((onF f).map toD))) S := by
  refine cl_of hf rfl (Nat.le_of_ble_eq_true rfl) ?_
  have m0 : ∀ T, mat (.new (.lst [])) T = (.ref T.length, T ++ [.lst []]) := fun T => mat_lstd rfl
  have m1 : ∀ T, mat (.new (.lst [toD f])) T = (.ref T.length, T ++ [.lst [toD f]]) := fun T => mat_lstd (by show (isData (toD f) && true) = true; rw [okE_data (toD_ok f hs)]; rfl)
  simp only [F_ones_in, B_ones_in, List.map_cons, List.map_nil, List.replicate, List.cons_append, List.nil_append, m0, m1, we_var, we_non, we_bl, we_int, we_str, ws_nil, ws_cons, we_tup, we_lst, we_bin, we_neg, we_cmp, we_chain, we_and1, we_or1, we_and, we_or, we_not, we_ite, we_idx, wo_none, wo_some, we_slc, we_attr, we_call, we_meth, we_make, we_makek, wmake, we_blt, we_bm, we_isi, we_comp, wf_nil, wf_one, wt_tru, wi_of, wi_zip, wi_range, wi_enum, wg_name, wg_tup, wg_nil, wg_cons, optQ_some, optQ_if, optQ_map, optQ_bind, tst_bl, tst_non, tst_int, b_add, b_sub, b_mul, b_fdiv, b_mod, b_pow, c_lt, c_le, c_gt, c_ge, c_eqI, c_neI, c_isI, c_notI, c_isN, c_notN, i_ii, i_ib, n_i, d_i, l_min, l_max, x_ref, x_new, x_tup, s_new, s_tup, y_new, at_0, at_1, at_2, mat_int, mat_bl, mat_str, mat_non, mat_ref, mats_nil, mats_cons, mat_tup, Option.isSome_some, List.getElem?_cons_zero, List.getElem?_cons_succ, List.set_cons_zero, List.set_cons_succ, decide_eq_true_eq, decide_eq_false_iff_not, wp_ok, st_ite, st_set, st_expr, st_ret, st_retN, st_pass, st_cont, st_unp, st_par, st_sub, st_for, st_wh, sq_nx, sq_rt, sq_ct, sq_bk, ss_nil, ss_cons, rq_f, rq_n, we_dct, we_revs, we_comp2, we_dcomp, wg_wtp, io_str, io_tup, io_new, tst_b, tst_str, tst_tup, len_tup, len_new, all_new, any_new, lis_tup, tup_new, c_eqS, c_neS, c_eqB, c_neB, c_isT, c_notT, c_isS, c_notS, at_3, at_4, at_m1, x_str0, i_non, i_bl, i_str, i_tup, le1, le2, le3, le4, le5, true_implies, false_implies, reduceCtorEq, and_true, true_and, Bool.not_true, Bool.not_false, putA, List.length_nil, List.length_cons, List.set_set, reduceIte, Nat.reduceEqDiff, Nat.zero_ne_one, Nat.one_ne_zero, ne_eq, not_true_eq_false, not_false_eq_true, List.append_assoc, List.cons_append, List.nil_append, List.lookup_cons, List.lookup_nil, Nat.reduceBEq, beq_self_eq_true, Bool.and_true, Bool.true_and, Bool.false_and, Bool.and_false]
  refine ⟨len_ok (by decide), len_ok (by decide), ?_⟩
  have fdat : areData ((onF f).map toD) = true := okEs_data (onF_ok f hs)
  refine wp_whF (fun m ρ T => ∃ (fd : List Fa) (q : Fs) (l : Nat) (x y : Option D), ρ = [some (toD f), some (.ref S.length), some (.ref l), x, y] ∧ Ex1 S T ∧ S.length < l ∧ T[S.length]? = some (.lst (fd.map toD)) ∧ T[l]? = some (.lst (toL q)) ∧ fd ++ onL q = onF f ∧ szL q = true ∧ dpL q ≤ 25 ∧ ndL q = m ∧ fd.length + m ≤ 50000) ?_ WF (ndF f) ⟨[], .cons f .nil, (S ++ [O.lst []]).length, none, none, rfl, ⟨_, rfl⟩, by simp, ?_, ?_, by show onF f ++ [] = _; rw [List.append_nil], ?_, ?_, rfl, by simpa using hm⟩ (by have : WF = 1000000 := rfl; omega)
  · rintro m ρ T ⟨fd, q, l, x, y, rfl, hE, hl, ha, hq, ho, hz, hp, hk, hc⟩
    have nz := ne_emp hq (toL_ok q hz) (by have := toL_dep q; omega)
    have lt1 : l < T.length := (List.getElem?_eq_some_iff.mp hq).1
    have hsl : (60000 : Nat) ≤ sizeLine := by decide
    cases q with
    | nil =>
      simp only [nz, toL, List.isEmpty_nil, we_var, we_non, we_bl, we_int, we_str, ws_nil, ws_cons, we_tup, we_lst, we_bin, we_neg, we_cmp, we_chain, we_and1, we_or1, we_and, we_or, we_not, we_ite, we_idx, wo_none, wo_some, we_slc, we_attr, we_call, we_meth, we_make, we_makek, wmake, we_blt, we_bm, we_isi, we_comp, wf_nil, wf_one, wt_tru, wi_of, wi_zip, wi_range, wi_enum, wg_name, wg_tup, wg_nil, wg_cons, optQ_some, optQ_if, optQ_map, optQ_bind, tst_bl, tst_non, tst_int, b_add, b_sub, b_mul, b_fdiv, b_mod, b_pow, c_lt, c_le, c_gt, c_ge, c_eqI, c_neI, c_isI, c_notI, c_isN, c_notN, i_ii, i_ib, n_i, d_i, l_min, l_max, x_ref, x_new, x_tup, s_new, s_tup, y_new, at_0, at_1, at_2, mat_int, mat_bl, mat_str, mat_non, mat_ref, mats_nil, mats_cons, mat_tup, Option.isSome_some, List.getElem?_cons_zero, List.getElem?_cons_succ, List.set_cons_zero, List.set_cons_succ, decide_eq_true_eq, decide_eq_false_iff_not, wp_ok, st_ite, st_set, st_expr, st_ret, st_retN, st_pass, st_cont, st_unp, st_par, st_sub, st_for, st_wh, sq_nx, sq_rt, sq_ct, sq_bk, ss_nil, ss_cons, rq_f, rq_n, we_dct, we_revs, we_comp2, we_dcomp, wg_wtp, io_str, io_tup, io_new, tst_b, tst_str, tst_tup, len_tup, len_new, all_new, any_new, lis_tup, tup_new, c_eqS, c_neS, c_eqB, c_neB, c_isT, c_notT, c_isS, c_notS, at_3, at_4, at_m1, x_str0, i_non, i_bl, i_str, i_tup, le1, le2, le3, le4, le5, true_implies, false_implies, reduceCtorEq, and_true, true_and, Bool.not_true, Bool.not_false, putA, List.length_nil, List.length_cons, List.set_set, reduceIte, Nat.reduceEqDiff, Nat.zero_ne_one, Nat.one_ne_zero, ne_eq, not_true_eq_false, not_false_eq_true, List.append_assoc, List.cons_append, List.nil_append, List.lookup_cons, List.lookup_nil, Nat.reduceBEq, beq_self_eq_true, Bool.and_true, Bool.true_and, Bool.false_and, Bool.and_false]
      refine ⟨Nat.zero_le _, ret_r (Nat.le_refl _) ha ?_ hE.trunc ?_⟩
      · have e : onL Fs.nil = [] := rfl
        rw [e, List.append_nil] at ho
        rw [ho]
        exact fdat
      · have e : onL Fs.nil = [] := rfl
        rw [e, List.append_nil] at ho
        rw [ho]; exact ⟨rfl, rfl⟩
    | cons h r =>
      have hz' : (h.notnil && szF h && szL r) = true := hz
      rw [Bool.and_eq_true, Bool.and_eq_true] at hz'
      have hp' : max (dpF h) (dpL r) ≤ 25 := hp
      have hk' : ndF h + ndL r = m := hk
      have ho' : fd ++ (onF h ++ onL r) = onF f := ho
      have p1 : ∀ Q : D → Store → Prop, wp (bmD .popAt (.ref l) [.int 0] T) Q = Q (toD h) (T.set l (.lst (toL r))) := fun Q => bm_pop0 hq
      have hT1 : T.set l (.lst (toL r)) = T.set l (.lst (toL r)) := rfl
      generalize hT1 : T.set l (.lst (toL r)) = T1 at p1
      have hE1 : Ex1 S T1 := by rw [← hT1]; exact hE.set (by omega)
      have ha1 : T1[S.length]? = some (.lst (fd.map toD)) := by rw [← hT1, List.getElem?_set_ne (by omega)]; exact ha
      have hl1 : T1[l]? = some (.lst (toL r)) := by rw [← hT1, List.getElem?_set_self lt1]
      have len1 : S.length < T1.length := (List.getElem?_eq_some_iff.mp ha1).1
      have hlr : (toL r).length ≤ 50000 := by
        have := nd_len r hz'.2
        rw [toL_len]; omega
      have rdat : areData (toL r) = true := okEs_data (toL_ok r hz'.2)
      have fin : ∀ (fd' : List Fa) (q' : Fs) (T3 : Store) (xs : List D) (x y : Option D), xs = toL q' → Ex1 S T3 → T3[S.length]? = some (.lst (fd'.map toD)) → fd' ++ onL q' = onF f → szL q' = true → dpL q' ≤ 25 → fd'.length + ndL q' ≤ 50000 → ndL q' < m → ∃ j, j < m ∧ ∃ (fd : List Fa) (q : Fs) (l : Nat) (x' y' : Option D), [some (toD f), some (D.ref S.length), some (mat (D.new (O.lst xs)) T3).1, x, y] = [some (toD f), some (D.ref S.length), some (D.ref l), x', y'] ∧ Ex1 S (mat (D.new (O.lst xs)) T3).2 ∧ S.length < l ∧ (mat (D.new (O.lst xs)) T3).2[S.length]? = some (.lst (fd.map toD)) ∧ (mat (D.new (O.lst xs)) T3).2[l]? = some (.lst (toL q)) ∧ fd ++ onL q = onF f ∧ szL q = true ∧ dpL q ≤ 25 ∧ ndL q = j ∧ fd.length + j ≤ 50000 := by
        rintro fd' q' T3 xs x y rfl g1 g2 g3 g4 g5 g6 g7
        rw [mat_lstd (okEs_data (toL_ok q' g4))]
        have l3 : S.length < T3.length := (List.getElem?_eq_some_iff.mp g2).1
        refine ⟨ndL q', g7, fd', q', T3.length, x, y, rfl, g1.app, l3, ?_, ?_, g3, g4, g5, rfl, g6⟩
        · show (T3 ++ [_])[S.length]? = _
          rw [List.getElem?_append_left l3]; exact g2
        · show (T3 ++ [_])[T3.length]? = _
          simp
      cases h with
      | nil => cases hz'.1.1
      | one n k t c =>
        have hs' : (PyData.strOk k && szF c) = true := hz'.1.2
        rw [Bool.and_eq_true] at hs'
        have dc : dpF c + 1 ≤ 25 := by have : max (dpF c + 1) (dpL r) ≤ 25 := hp'; omega
        have nk : ndF c + 1 + ndL r = m := hk'
        have on : fd ++ ((.one n k t c :: onF c) ++ onL r) = onF f := ho'
        have p2 : ∀ Q : D → Store → Prop, wp (bmD .append (.ref S.length) [.tup [.str "one", .int n, .str k, .int t, toD c]] T1) Q = Q .non (T1.set S.length (.lst ((fd ++ [Fa.one n k t c]).map toD))) := fun Q => by
          show wp (bmD .append (.ref S.length) [toD (.one n k t c)] T1) Q = _
          rw [bm_app ha1 (okE_data (toD_ok (.one n k t c) hz'.1.2)) (by rw [List.length_map]; omega), List.map_append]; rfl
        generalize hT2 : T1.set S.length (.lst ((fd ++ [Fa.one n k t c]).map toD)) = T2 at p2
        have hE2 : Ex1 S T2 := by rw [← hT2]; exact hE1.set (Nat.le_refl _)
        have ha2 : T2[S.length]? = some (.lst ((fd ++ [Fa.one n k t c]).map toD)) := by rw [← hT2, List.getElem?_set_self len1]
        have hl2 : T2[l]? = some (.lst (toL r)) := by rw [← hT2, List.getElem?_set_ne (by omega)]; exact hl1
        have len2 : S.length < T2.length := (List.getElem?_eq_some_iff.mp ha2).1
        have lt2 : l < T2.length := (List.getElem?_eq_some_iff.mp hl2).1
        have z3 : ∀ o : O, (T2 ++ [o])[T2.length]? = some o := fun o => by simp
        have l3 : ∀ o : O, (T2 ++ [o])[l]? = some (.lst (toL r)) := fun o => by rw [List.getElem?_append_left lt2]; exact hl2
        cases hc : c.notnil with
        | true =>
          have p3 : ∀ Q : D → Store → Prop, wp (bmD .append (.ref T2.length) [toD c] (T2 ++ [.lst []])) Q = Q .non (T2 ++ [.lst [toD c]]) := fun Q => by
            rw [bm_app (z3 _) (okE_data (toD_ok c hs'.2)) (by show 0 < sizeLine; omega)]
            simp
          have p4 : binD .add (.ref T2.length) (.ref l) (T2 ++ [.lst [toD c]]) = some (.new (.lst (toD c :: toL r))) := app_new (z3 _) (l3 _) (by simp; omega)
          simp only [nz, toL, List.isEmpty_cons, bt_pop hq, p1, toD, p2, bt_app ha1, m0, matE (toD_ok c hs'.2), wp_eq (cause_of_ok (d := d) h1 (xs := [.str "one", .int n, .str k, .int t, toD c]) (x := toD c) rfl), notN_toD, hc, bt_app (z3 (.lst [])), p3, p4, wk_om, we_var, we_non, we_bl, we_int, we_str, ws_nil, ws_cons, we_tup, we_lst, we_bin, we_neg, we_cmp, we_chain, we_and1, we_or1, we_and, we_or, we_not, we_ite, we_idx, wo_none, wo_some, we_slc, we_attr, we_call, we_meth, we_make, we_makek, wmake, we_blt, we_bm, we_isi, we_comp, wf_nil, wf_one, wt_tru, wi_of, wi_zip, wi_range, wi_enum, wg_name, wg_tup, wg_nil, wg_cons, optQ_some, optQ_if, optQ_map, optQ_bind, tst_bl, tst_non, tst_int, b_add, b_sub, b_mul, b_fdiv, b_mod, b_pow, c_lt, c_le, c_gt, c_ge, c_eqI, c_neI, c_isI, c_notI, c_isN, c_notN, i_ii, i_ib, n_i, d_i, l_min, l_max, x_ref, x_new, x_tup, s_new, s_tup, y_new, at_0, at_1, at_2, mat_int, mat_bl, mat_str, mat_non, mat_ref, mats_nil, mats_cons, mat_tup, Option.isSome_some, List.getElem?_cons_zero, List.getElem?_cons_succ, List.set_cons_zero, List.set_cons_succ, decide_eq_true_eq, decide_eq_false_iff_not, wp_ok, st_ite, st_set, st_expr, st_ret, st_retN, st_pass, st_cont, st_unp, st_par, st_sub, st_for, st_wh, sq_nx, sq_rt, sq_ct, sq_bk, ss_nil, ss_cons, rq_f, rq_n, we_dct, we_revs, we_comp2, we_dcomp, wg_wtp, io_str, io_tup, io_new, tst_b, tst_str, tst_tup, len_tup, len_new, all_new, any_new, lis_tup, tup_new, c_eqS, c_neS, c_eqB, c_neB, c_isT, c_notT, c_isS, c_notS, at_3, at_4, at_m1, x_str0, i_non, i_bl, i_str, i_tup, le1, le2, le3, le4, le5, true_implies, false_implies, reduceCtorEq, and_true, true_and, Bool.not_true, Bool.not_false, putA, List.length_nil, List.length_cons, List.set_set, reduceIte, Nat.reduceEqDiff, Nat.zero_ne_one, Nat.one_ne_zero, ne_eq, not_true_eq_false, not_false_eq_true, List.append_assoc, List.cons_append, List.nil_append, List.lookup_cons, List.lookup_nil, Nat.reduceBEq, beq_self_eq_true, Bool.and_true, Bool.true_and, Bool.false_and, Bool.and_false]
          refine ⟨Nat.zero_le _, Nat.zero_le _, fin (fd ++ [Fa.one n k t c]) (.cons c r) (T2 ++ [O.lst [toD c]]) (toD c :: toL r) _ _ rfl hE2.app ?_ ?_ ?_ ?_ ?_ ?_⟩
          · rw [List.getElem?_append_left len2]; exact ha2
          · rw [List.append_assoc]; exact on
          · show (c.notnil && szF c && szL r) = true
            rw [hc, hs'.2, hz'.2]; rfl
          · show max (dpF c) (dpL r) ≤ 25
            omega
          · show (fd ++ [_]).length + (ndF c + ndL r) ≤ 50000
            simp; omega
          · show ndF c + ndL r < m
            omega
        | false =>
          have cn : c = .nil := by cases c <;> first | rfl | cases hc
          subst cn
          have p2' : ∀ Q : D → Store → Prop, wp (bmD .append (.ref S.length) [.tup [.str "one", .int n, .str k, .int t, .non]] T1) Q = Q .non T2 := p2
          have p4 : binD .add (.ref T2.length) (.ref l) (T2 ++ [.lst []]) = some (.new (.lst (toL r))) := app_new (z3 _) (l3 _) (by show 0 + _ ≤ _; omega)
          simp only [nz, toL, List.isEmpty_cons, bt_pop hq, p1, toD, p2', bt_app ha1, m0, wp_eq (cause_of_ok (d := d) h1 (xs := [.str "one", .int n, .str k, .int t, .non]) (x := .non) rfl), notN_toD, hc, p4, wk_om, we_var, we_non, we_bl, we_int, we_str, ws_nil, ws_cons, we_tup, we_lst, we_bin, we_neg, we_cmp, we_chain, we_and1, we_or1, we_and, we_or, we_not, we_ite, we_idx, wo_none, wo_some, we_slc, we_attr, we_call, we_meth, we_make, we_makek, wmake, we_blt, we_bm, we_isi, we_comp, wf_nil, wf_one, wt_tru, wi_of, wi_zip, wi_range, wi_enum, wg_name, wg_tup, wg_nil, wg_cons, optQ_some, optQ_if, optQ_map, optQ_bind, tst_bl, tst_non, tst_int, b_add, b_sub, b_mul, b_fdiv, b_mod, b_pow, c_lt, c_le, c_gt, c_ge, c_eqI, c_neI, c_isI, c_notI, c_isN, c_notN, i_ii, i_ib, n_i, d_i, l_min, l_max, x_ref, x_new, x_tup, s_new, s_tup, y_new, at_0, at_1, at_2, mat_int, mat_bl, mat_str, mat_non, mat_ref, mats_nil, mats_cons, mat_tup, Option.isSome_some, List.getElem?_cons_zero, List.getElem?_cons_succ, List.set_cons_zero, List.set_cons_succ, decide_eq_true_eq, decide_eq_false_iff_not, wp_ok, st_ite, st_set, st_expr, st_ret, st_retN, st_pass, st_cont, st_unp, st_par, st_sub, st_for, st_wh, sq_nx, sq_rt, sq_ct, sq_bk, ss_nil, ss_cons, rq_f, rq_n, we_dct, we_revs, we_comp2, we_dcomp, wg_wtp, io_str, io_tup, io_new, tst_b, tst_str, tst_tup, len_tup, len_new, all_new, any_new, lis_tup, tup_new, c_eqS, c_neS, c_eqB, c_neB, c_isT, c_notT, c_isS, c_notS, at_3, at_4, at_m1, x_str0, i_non, i_bl, i_str, i_tup, le1, le2, le3, le4, le5, true_implies, false_implies, reduceCtorEq, and_true, true_and, Bool.not_true, Bool.not_false, putA, List.length_nil, List.length_cons, List.set_set, reduceIte, Nat.reduceEqDiff, Nat.zero_ne_one, Nat.one_ne_zero, ne_eq, not_true_eq_false, not_false_eq_true, List.append_assoc, List.cons_append, List.nil_append, List.lookup_cons, List.lookup_nil, Nat.reduceBEq, beq_self_eq_true, Bool.and_true, Bool.true_and, Bool.false_and, Bool.and_false]
          refine ⟨Nat.zero_le _, Nat.zero_le _, fin (fd ++ [Fa.one n k t .nil]) r (T2 ++ [O.lst []]) (toL r) _ _ rfl hE2.app ?_ ?_ hz'.2 ?_ ?_ ?_⟩
          · rw [List.getElem?_append_left len2]; exact ha2
          · rw [List.append_assoc]; exact on
          · omega
          · simp; have e : ndF Fa.nil = 0 := rfl
            omega
          · omega
      | many ms c =>
        have hs' : (decide (ms.len ≤ 1000) && szL ms && szF c) = true := hz'.1.2
        rw [Bool.and_eq_true, Bool.and_eq_true, decide_eq_true_eq] at hs'
        have dc : max (dpL ms) (dpF c) + 1 ≤ 25 := by have : max (max (dpL ms) (dpF c) + 1) (dpL r) ≤ 25 := hp'; omega
        have nk : ndL ms + ndF c + 1 + ndL r = m := hk'
        have on : fd ++ ((onL ms ++ onF c) ++ onL r) = onF f := ho'
        have lt2 : l < T1.length := (List.getElem?_eq_some_iff.mp hl1).1
        have z3 : ∀ o : O, (T1 ++ [o])[T1.length]? = some o := fun o => by simp
        have l3 : ∀ o : O, (T1 ++ [o])[l]? = some (.lst (toL r)) := fun o => by rw [List.getElem?_append_left lt2]; exact hl1
        have m2 : ∀ T, mat (.new (.lst (toL ms))) T = (.ref T.length, T ++ [.lst (toL ms)]) := fun T => mat_lstd (okEs_data (toL_ok ms hs'.1.2))
        have mlen := nd_len ms hs'.1.2
        cases hc : c.notnil with
        | true =>
          have p3 : ∀ Q : D → Store → Prop, wp (bmD .append (.ref T1.length) [toD c] (T1 ++ [.lst (toL ms)])) Q = Q .non (T1 ++ [.lst (toL ms ++ [toD c])]) := fun Q => by
            rw [bm_app (z3 _) (okE_data (toD_ok c hs'.2)) (by rw [toL_len]; omega)]
            simp
          have p4 : binD .add (.ref T1.length) (.ref l) (T1 ++ [.lst (toL ms ++ [toD c])]) = some (.new (.lst (toL ms ++ toD c :: toL r))) := by
            rw [app_new (z3 _) (l3 _) (by simp [toL_len]; have := toL_len r; omega)]; simp
          simp only [nz, toL, List.isEmpty_cons, bt_pop hq, p1, toD, m2, matE (toD_ok c hs'.2), matsE (toL_ok ms hs'.1.2), wp_eq (cause_of_ok (d := d) h1 (xs := [.str "many", .tup (toL ms), toD c]) (x := toD c) rfl), notN_toD, hc, bt_app (z3 (.lst (toL ms))), p3, p4, wk_mo, wk_mm, we_var, we_non, we_bl, we_int, we_str, ws_nil, ws_cons, we_tup, we_lst, we_bin, we_neg, we_cmp, we_chain, we_and1, we_or1, we_and, we_or, we_not, we_ite, we_idx, wo_none, wo_some, we_slc, we_attr, we_call, we_meth, we_make, we_makek, wmake, we_blt, we_bm, we_isi, we_comp, wf_nil, wf_one, wt_tru, wi_of, wi_zip, wi_range, wi_enum, wg_name, wg_tup, wg_nil, wg_cons, optQ_some, optQ_if, optQ_map, optQ_bind, tst_bl, tst_non, tst_int, b_add, b_sub, b_mul, b_fdiv, b_mod, b_pow, c_lt, c_le, c_gt, c_ge, c_eqI, c_neI, c_isI, c_notI, c_isN, c_notN, i_ii, i_ib, n_i, d_i, l_min, l_max, x_ref, x_new, x_tup, s_new, s_tup, y_new, at_0, at_1, at_2, mat_int, mat_bl, mat_str, mat_non, mat_ref, mats_nil, mats_cons, mat_tup, Option.isSome_some, List.getElem?_cons_zero, List.getElem?_cons_succ, List.set_cons_zero, List.set_cons_succ, decide_eq_true_eq, decide_eq_false_iff_not, wp_ok, st_ite, st_set, st_expr, st_ret, st_retN, st_pass, st_cont, st_unp, st_par, st_sub, st_for, st_wh, sq_nx, sq_rt, sq_ct, sq_bk, ss_nil, ss_cons, rq_f, rq_n, we_dct, we_revs, we_comp2, we_dcomp, wg_wtp, io_str, io_tup, io_new, tst_b, tst_str, tst_tup, len_tup, len_new, all_new, any_new, lis_tup, tup_new, c_eqS, c_neS, c_eqB, c_neB, c_isT, c_notT, c_isS, c_notS, at_3, at_4, at_m1, x_str0, i_non, i_bl, i_str, i_tup, le1, le2, le3, le4, le5, true_implies, false_implies, reduceCtorEq, and_true, true_and, Bool.not_true, Bool.not_false, putA, List.length_nil, List.length_cons, List.set_set, reduceIte, Nat.reduceEqDiff, Nat.zero_ne_one, Nat.one_ne_zero, ne_eq, not_true_eq_false, not_false_eq_true, List.append_assoc, List.cons_append, List.nil_append, List.lookup_cons, List.lookup_nil, Nat.reduceBEq, beq_self_eq_true, Bool.and_true, Bool.true_and, Bool.false_and, Bool.and_false]
          refine ⟨Nat.zero_le _, fin fd (ms.app (.cons c r)) (T1 ++ [O.lst (toL ms ++ [toD c])]) (toL ms ++ toD c :: toL r) _ _ ?_ hE1.app ?_ ?_ ?_ ?_ ?_ ?_⟩
          · rw [toL_app]; rfl
          · rw [List.getElem?_append_left len1]; exact ha1
          · rw [onL_app]
            show fd ++ (onL ms ++ (onF c ++ onL r)) = _
            rw [← on, List.append_assoc]
          · rw [szL_app, hs'.1.2]
            show (true && (c.notnil && szF c && szL r)) = true
            rw [hc, hs'.2, hz'.2]; rfl
          · rw [dpL_app]
            show max (dpL ms) (max (dpF c) (dpL r)) ≤ 25
            omega
          · rw [ndL_app]
            show fd.length + (ndL ms + (ndF c + ndL r)) ≤ 50000
            omega
          · rw [ndL_app]
            show ndL ms + (ndF c + ndL r) < m
            omega
        | false =>
          have cn : c = .nil := by cases c <;> first | rfl | cases hc
          subst cn
          have e0 : ndF Fa.nil = 0 := rfl
          have p4 : binD .add (.ref T1.length) (.ref l) (T1 ++ [.lst (toL ms)]) = some (.new (.lst (toL ms ++ toL r))) := app_new (z3 _) (l3 _) (by simp [toL_len]; have := toL_len r; omega)
          simp only [nz, toL, List.isEmpty_cons, bt_pop hq, p1, toD, m2, matsE (toL_ok ms hs'.1.2), wp_eq (cause_of_ok (d := d) h1 (xs := [.str "many", .tup (toL ms), .non]) (x := .non) rfl), notN_toD, hc, p4, wk_mo, wk_mm, we_var, we_non, we_bl, we_int, we_str, ws_nil, ws_cons, we_tup, we_lst, we_bin, we_neg, we_cmp, we_chain, we_and1, we_or1, we_and, we_or, we_not, we_ite, we_idx, wo_none, wo_some, we_slc, we_attr, we_call, we_meth, we_make, we_makek, wmake, we_blt, we_bm, we_isi, we_comp, wf_nil, wf_one, wt_tru, wi_of, wi_zip, wi_range, wi_enum, wg_name, wg_tup, wg_nil, wg_cons, optQ_some, optQ_if, optQ_map, optQ_bind, tst_bl, tst_non, tst_int, b_add, b_sub, b_mul, b_fdiv, b_mod, b_pow, c_lt, c_le, c_gt, c_ge, c_eqI, c_neI, c_isI, c_notI, c_isN, c_notN, i_ii, i_ib, n_i, d_i, l_min, l_max, x_ref, x_new, x_tup, s_new, s_tup, y_new, at_0, at_1, at_2, mat_int, mat_bl, mat_str, mat_non, mat_ref, mats_nil, mats_cons, mat_tup, Option.isSome_some, List.getElem?_cons_zero, List.getElem?_cons_succ, List.set_cons_zero, List.set_cons_succ, decide_eq_true_eq, decide_eq_false_iff_not, wp_ok, st_ite, st_set, st_expr, st_ret, st_retN, st_pass, st_cont, st_unp, st_par, st_sub, st_for, st_wh, sq_nx, sq_rt, sq_ct, sq_bk, ss_nil, ss_cons, rq_f, rq_n, we_dct, we_revs, we_comp2, we_dcomp, wg_wtp, io_str, io_tup, io_new, tst_b, tst_str, tst_tup, len_tup, len_new, all_new, any_new, lis_tup, tup_new, c_eqS, c_neS, c_eqB, c_neB, c_isT, c_notT, c_isS, c_notS, at_3, at_4, at_m1, x_str0, i_non, i_bl, i_str, i_tup, le1, le2, le3, le4, le5, true_implies, false_implies, reduceCtorEq, and_true, true_and, Bool.not_true, Bool.not_false, putA, List.length_nil, List.length_cons, List.set_set, reduceIte, Nat.reduceEqDiff, Nat.zero_ne_one, Nat.one_ne_zero, ne_eq, not_true_eq_false, not_false_eq_true, List.append_assoc, List.cons_append, List.nil_append, List.lookup_cons, List.lookup_nil, Nat.reduceBEq, beq_self_eq_true, Bool.and_true, Bool.true_and, Bool.false_and, Bool.and_false]
          refine ⟨Nat.zero_le _, fin fd (ms.app r) (T1 ++ [O.lst (toL ms)]) (toL ms ++ toL r) _ _ ?_ hE1.app ?_ ?_ ?_ ?_ ?_ ?_⟩
          · rw [toL_app]
          · rw [List.getElem?_append_left len1]; exact ha1
          · rw [onL_app, ← on]
            have e : onF Fa.nil = [] := rfl
            rw [e, List.append_nil]
          · rw [szL_app, hs'.1.2, hz'.2]; rfl
          · rw [dpL_app]; omega
          · rw [ndL_app]; omega
          · rw [ndL_app]; omega
  · exact at_e0
  · rw [show (S ++ [O.lst []]).length = S.length + 1 by simp]; exact at_e1
  · show (f.notnil && szF f && true) = true
    rw [hn, hs]; rfl
  · show max (dpF f) 0 ≤ 25
    omega
end
end Nv
/-! Nv: what is a fault, a result. -/
namespace Nv
open PySem PySem.Spec PyProof.Rows L2
/-- where the functions of faults stand -/
structure FaAt (P : Prog) (iN iR iP iC iB iL iK gL gN gT gM iW iI iCa iOn iFo iNa iF gMe gNo gNu gDe gOn : Nat) : Prop extends BkAt P iN iR iP iC iB iL iK gL gN gT gM where
  whole : P.fns[iW]? = some F_is_whole
  inn : P.fns[iI]? = some (F_is_within iW)
  cause : P.fns[iCa]? = some F_cause_of
  ones : P.fns[iOn]? = some (F_ones_in iCa)
  formed : P.fns[iFo]? = some (F_is_formed iCa iFo iK iI gMe gNo gNu)
  agree : P.fns[iNa]? = some (F_numbers_agree iOn)
  fault : P.fns[iF]? = some (F_is_fault iFo iL iNa iOn gDe gOn)
  members : Gl P gMe (.int 200)
  note : Gl P gNo (.int 999)
  number : Gl P gNu (.int 1000000)
  deep : Gl P gDe (.int 160)
  many : Gl P gOn (.int 200)
section
variable {P : Prog} {iN iR iP iC iB iL iK gL gN gT gM iW iI iCa iOn iFo iNa iF gMe gNo gNu gDe gOn : Nat}
theorem ne_tup0 {x : D} {xs : List D} (h : okEs (x :: xs) = true) (hd : depDs (x :: xs) ≤ 60) {S : Store} : cmpD .eq (.tup (x :: xs)) (.tup []) S = some false :=
  c_eqE (x := .tup (x :: xs)) (y := .tup []) h rfl (by show depDs (x :: xs) + 1 ≤ 64; omega) (by decide)
theorem all_rep {n : Nat} : (List.replicate n true).all id = true := by simp
mutual
theorem is_formed_ok (b : FaAt P iN iR iP iC iB iL iK gL gN gT gM iW iI iCa iOn iFo iNa iF gMe gNo gNu gDe gOn) {rows : Bk} (hw : weeB rows) (hb : bookB rows = true) : ∀ (f : Fa) {S : Store} {d : Nat} {deep : Int}, f.notnil = true → szF f = true → dpF f ≤ 25 → vF rows f = true → (dpF f : Int) ≤ deep → dpF f + 3 ≤ d → (sm P d).call iFo [toB rows, toD f, .int deep] S = .ok (.bl true) S
  | .nil, S, d, deep, hn, _, _, _, _, _ => by cases hn
  | .one n k t c, S, d, deep, hn, hs, hdp, hv, hde, hd => by
    have hs' : (PyData.strOk k && szF c) = true := hs
    rw [Bool.and_eq_true] at hs'
    have hv' : (within n 0 1000000 && (kindB1 rows k && (within t 0 999 && vF rows c))) = true := hv
    simp only [Bool.and_eq_true] at hv'
    obtain ⟨v1, v2, v3, v4⟩ := hv'
    have hde' : ((dpF c + 1 : Nat) : Int) ≤ deep := hde
    have hd' : dpF c + 1 + 3 ≤ d := hd
    have hdp' : dpF c + 1 ≤ 25 := hdp
    obtain ⟨d, rfl⟩ : ∃ e, d = e + 4 := ⟨d - 4, by omega⟩
    refine cl_of b.formed rfl (Nat.le_of_ble_eq_true rfl) ?_
    have okf := toD_ok _ hs
    have dpf := toD_dep (.one n k t c)
    have e0 : cmpD .eq (.tup [.str "one", .int n, .str k, .int t, toD c]) (.tup []) S = some false := ne_tup0 okf (by
      have : depDs [.str "one", .int n, .str k, .int t, toD c] + 1 ≤ 2 * (dpF c + 1) := dpf
      omega)
    have e1 := is_within_ok (d := d + 1) b.inn b.whole (x := n) (lo := 0) (hi := 1000000) (S := S)
    have e2 := is_within_ok (d := d + 1) b.inn b.whole (x := t) (lo := 0) (hi := 999) (S := S)
    have e3 := is_kind_ok b.toBkAt hw hb (k := k) (d := d + 2) (S := S)
    have w1 : decide (0 ≤ n ∧ n ≤ 1000000) = true := v1
    have w2 : decide (0 ≤ t ∧ t ≤ 999) = true := v3
    rw [w1] at e1; rw [w2] at e2; rw [v2] at e3
    have nd : ¬ deep = 0 := by omega
    cases hc : c.notnil with
    | true =>
      have ih := is_formed_ok b hw hb c (S := S) (d := d + 3) (deep := deep - 1) hc hs'.2 (by omega) v4 (by omega) (by omega)
      simp only [toD, F_is_formed, B_is_formed, List.map_cons, List.map_nil, List.replicate, List.cons_append, List.nil_append, e0, tB_mat, isT, we_gl b.number, we_gl b.note, wp_eq e1, wp_eq e2, wp_eq e3, matE (toD_ok c hs'.2), isN_toD, hc, wp_eq (cause_of_ok (d := d + 2) b.cause (xs := [.str "one", .int n, .str k, .int t, toD c]) (x := toD c) rfl), wp_eq ih, wk_oo, nd, we_var, we_non, we_bl, we_int, we_str, ws_nil, ws_cons, we_tup, we_lst, we_bin, we_neg, we_cmp, we_chain, we_and1, we_or1, we_and, we_or, we_not, we_ite, we_idx, wo_none, wo_some, we_slc, we_attr, we_call, we_meth, we_make, we_makek, wmake, we_blt, we_bm, we_isi, we_comp, wf_nil, wf_one, wt_tru, wi_of, wi_zip, wi_range, wi_enum, wg_name, wg_tup, wg_wtp, wg_nil, wg_cons, optQ_some, optQ_if, optQ_map, optQ_bind, tst_bl, tst_non, tst_int, b_add, b_sub, b_mul, b_fdiv, b_mod, b_pow, c_lt, c_le, c_gt, c_ge, c_eqI, c_neI, c_isI, c_notI, c_isN, c_notN, i_ii, i_ib, n_i, d_i, l_min, l_max, x_ref, x_new, x_tup, s_new, s_tup, y_new, at_0, at_1, at_2, mat_int, mat_bl, mat_str, mat_non, mat_ref, mats_nil, mats_cons, mat_tup, Option.isSome_some, List.getElem?_cons_zero, List.getElem?_cons_succ, List.set_cons_zero, List.set_cons_succ, decide_eq_true_eq, decide_eq_false_iff_not, wp_ok, st_ite, st_set, st_expr, st_ret, st_retN, st_pass, st_cont, st_unp, st_par, st_sub, st_for, st_wh, sq_nx, sq_rt, sq_ct, sq_bk, ss_nil, ss_cons, rq_f, rq_n, we_dct, we_revs, we_comp2, we_dcomp, io_str, io_tup, io_new, tst_b, tst_str, tst_tup, len_tup, len_new, all_new, any_new, lis_tup, tup_new, c_eqS, c_neS, c_eqB, c_neB, c_isT, c_notT, c_isS, c_notS, at_3, at_4, at_m1, x_str0, i_non, i_bl, i_str, i_tup, le1, le2, le3, le4, le5, decide_true, decide_false, true_implies, false_implies, reduceCtorEq, and_true, true_and, Bool.not_true, Bool.not_false, putA, List.length_nil, List.length_cons, List.set_set, reduceIte, Nat.reduceEqDiff, Nat.zero_ne_one, Nat.one_ne_zero, ne_eq, not_true_eq_false, not_false_eq_true, List.append_assoc, List.cons_append, List.nil_append, List.lookup_cons, List.lookup_nil, Nat.reduceBEq, beq_self_eq_true, Bool.and_true, Bool.true_and, Bool.false_and, Bool.and_false]
      exact Nat.zero_le _
    | false =>
      simp only [toD, F_is_formed, B_is_formed, List.map_cons, List.map_nil, List.replicate, List.cons_append, List.nil_append, e0, tB_mat, isT, we_gl b.number, we_gl b.note, wp_eq e1, wp_eq e2, wp_eq e3, matE (toD_ok c hs'.2), isN_toD, hc, wp_eq (cause_of_ok (d := d + 2) b.cause (xs := [.str "one", .int n, .str k, .int t, toD c]) (x := toD c) rfl), wk_oo, nd, we_var, we_non, we_bl, we_int, we_str, ws_nil, ws_cons, we_tup, we_lst, we_bin, we_neg, we_cmp, we_chain, we_and1, we_or1, we_and, we_or, we_not, we_ite, we_idx, wo_none, wo_some, we_slc, we_attr, we_call, we_meth, we_make, we_makek, wmake, we_blt, we_bm, we_isi, we_comp, wf_nil, wf_one, wt_tru, wi_of, wi_zip, wi_range, wi_enum, wg_name, wg_tup, wg_wtp, wg_nil, wg_cons, optQ_some, optQ_if, optQ_map, optQ_bind, tst_bl, tst_non, tst_int, b_add, b_sub, b_mul, b_fdiv, b_mod, b_pow, c_lt, c_le, c_gt, c_ge, c_eqI, c_neI, c_isI, c_notI, c_isN, c_notN, i_ii, i_ib, n_i, d_i, l_min, l_max, x_ref, x_new, x_tup, s_new, s_tup, y_new, at_0, at_1, at_2, mat_int, mat_bl, mat_str, mat_non, mat_ref, mats_nil, mats_cons, mat_tup, Option.isSome_some, List.getElem?_cons_zero, List.getElem?_cons_succ, List.set_cons_zero, List.set_cons_succ, decide_eq_true_eq, decide_eq_false_iff_not, wp_ok, st_ite, st_set, st_expr, st_ret, st_retN, st_pass, st_cont, st_unp, st_par, st_sub, st_for, st_wh, sq_nx, sq_rt, sq_ct, sq_bk, ss_nil, ss_cons, rq_f, rq_n, we_dct, we_revs, we_comp2, we_dcomp, io_str, io_tup, io_new, tst_b, tst_str, tst_tup, len_tup, len_new, all_new, any_new, lis_tup, tup_new, c_eqS, c_neS, c_eqB, c_neB, c_isT, c_notT, c_isS, c_notS, at_3, at_4, at_m1, x_str0, i_non, i_bl, i_str, i_tup, le1, le2, le3, le4, le5, decide_true, decide_false, true_implies, false_implies, reduceCtorEq, and_true, true_and, Bool.not_true, Bool.not_false, putA, List.length_nil, List.length_cons, List.set_set, reduceIte, Nat.reduceEqDiff, Nat.zero_ne_one, Nat.one_ne_zero, ne_eq, not_true_eq_false, not_false_eq_true, List.append_assoc, List.cons_append, List.nil_append, List.lookup_cons, List.lookup_nil, Nat.reduceBEq, beq_self_eq_true, Bool.and_true, Bool.true_and, Bool.false_and, Bool.and_false]
      exact Nat.zero_le _
  | .many ms c, S, d, deep, hn, hs, hdp, hv, hde, hd => by
    have hs' : (decide (ms.len ≤ 1000) && szL ms && szF c) = true := hs
    rw [Bool.and_eq_true, Bool.and_eq_true, decide_eq_true_eq] at hs'
    have hv' : (within ms.len 1 200 && (vL rows ms && vF rows c)) = true := hv
    simp only [Bool.and_eq_true] at hv'
    obtain ⟨v1, v2, v3⟩ := hv'
    have hde' : ((max (dpL ms) (dpF c) + 1 : Nat) : Int) ≤ deep := hde
    have hd' : max (dpL ms) (dpF c) + 1 + 3 ≤ d := hd
    have hdp' : max (dpL ms) (dpF c) + 1 ≤ 25 := hdp
    obtain ⟨d, rfl⟩ : ∃ e, d = e + 4 := ⟨d - 4, by omega⟩
    refine cl_of b.formed rfl (Nat.le_of_ble_eq_true rfl) ?_
    have okf := toD_ok _ hs
    have dpf := toD_dep (.many ms c)
    have e0 : cmpD .eq (.tup [.str "many", .tup (toL ms), toD c]) (.tup []) S = some false := ne_tup0 okf (by
      have : depDs [.str "many", .tup (toL ms), toD c] + 1 ≤ 2 * (max (dpL ms) (dpF c) + 1) := dpf
      omega)
    have nd : ¬ deep = 0 := by omega
    have w1 : (1 : Int) ≤ ms.len ∧ (ms.len : Int) ≤ 200 := of_decide_eq_true v1
    have lms := is_formedL b hw hb ms (S := S) (d := d + 3) (deep := deep - 1) (x := toD (.many ms c)) hs'.1.2 (by omega) v2 (by omega) (by omega)
    have m : ∀ T, mats (toL ms) T = (toL ms, T) := fun T => matsE (toL_ok ms hs'.1.2)
    have w2 : (1 : Int) ≤ ((toL ms).length : Nat) := by rw [toL_len]; exact w1.1
    have w3 : ((toL ms).length : Nat) ≤ (200 : Int) := by rw [toL_len]; exact w1.2
    have de : deep - 1 + 1 = deep := by omega
    rw [de] at lms
    cases hc : c.notnil with
    | true =>
      have ih := is_formed_ok b hw hb c (S := S) (d := d + 3) (deep := deep - 1) hc hs'.2 (by omega) v3 (by omega) (by omega)
      simp only [toD, F_is_formed, B_is_formed, List.map_cons, List.map_nil, List.replicate, List.cons_append, List.nil_append, e0, tB_mat, isT, we_gl b.members, m, matE (toD_ok c hs'.2), isN_toD, hc, wp_eq (cause_of_ok (d := d + 2) b.cause (xs := [.str "many", .tup (toL ms), toD c]) (x := toD c) rfl), wp_eq ih, wk_mo, wk_mm, nd, wipeD, w2, w3, gu_tup, we_var, we_non, we_bl, we_int, we_str, ws_nil, ws_cons, we_tup, we_lst, we_bin, we_neg, we_cmp, we_chain, we_and1, we_or1, we_and, we_or, we_not, we_ite, we_idx, wo_none, wo_some, we_slc, we_attr, we_call, we_meth, we_make, we_makek, wmake, we_blt, we_bm, we_isi, we_comp, wf_nil, wf_one, wt_tru, wi_of, wi_zip, wi_range, wi_enum, wg_name, wg_tup, wg_wtp, wg_nil, wg_cons, optQ_some, optQ_if, optQ_map, optQ_bind, tst_bl, tst_non, tst_int, b_add, b_sub, b_mul, b_fdiv, b_mod, b_pow, c_lt, c_le, c_gt, c_ge, c_eqI, c_neI, c_isI, c_notI, c_isN, c_notN, i_ii, i_ib, n_i, d_i, l_min, l_max, x_ref, x_new, x_tup, s_new, s_tup, y_new, at_0, at_1, at_2, mat_int, mat_bl, mat_str, mat_non, mat_ref, mats_nil, mats_cons, mat_tup, Option.isSome_some, List.getElem?_cons_zero, List.getElem?_cons_succ, List.set_cons_zero, List.set_cons_succ, decide_eq_true_eq, decide_eq_false_iff_not, wp_ok, st_ite, st_set, st_expr, st_ret, st_retN, st_pass, st_cont, st_unp, st_par, st_sub, st_for, st_wh, sq_nx, sq_rt, sq_ct, sq_bk, ss_nil, ss_cons, rq_f, rq_n, we_dct, we_revs, we_comp2, we_dcomp, io_str, io_tup, io_new, tst_b, tst_str, tst_tup, len_tup, len_new, all_new, any_new, lis_tup, tup_new, c_eqS, c_neS, c_eqB, c_neB, c_isT, c_notT, c_isS, c_notS, at_3, at_4, at_m1, x_str0, i_non, i_bl, i_str, i_tup, le1, le2, le3, le4, le5, decide_true, decide_false, true_implies, false_implies, reduceCtorEq, and_true, true_and, Bool.not_true, Bool.not_false, putA, List.length_nil, List.length_cons, List.set_set, reduceIte, Nat.reduceEqDiff, Nat.zero_ne_one, Nat.one_ne_zero, ne_eq, not_true_eq_false, not_false_eq_true, List.append_assoc, List.cons_append, List.nil_append, List.lookup_cons, List.lookup_nil, Nat.reduceBEq, beq_self_eq_true, Bool.and_true, Bool.true_and, Bool.false_and, Bool.and_false]
      refine ⟨Nat.zero_le _, wp_mono lms fun ys S' z => ?_⟩
      obtain ⟨rfl, rfl⟩ := z
      simp only [all_new, List.length_map, List.length_replicate, all_rep, wp_eq ih, we_var, we_non, we_bl, we_int, we_str, ws_nil, ws_cons, we_tup, we_lst, we_bin, we_neg, we_cmp, we_chain, we_and1, we_or1, we_and, we_or, we_not, we_ite, we_idx, wo_none, wo_some, we_slc, we_attr, we_call, we_meth, we_make, we_makek, wmake, we_blt, we_bm, we_isi, we_comp, wf_nil, wf_one, wt_tru, wi_of, wi_zip, wi_range, wi_enum, wg_name, wg_tup, wg_wtp, wg_nil, wg_cons, optQ_some, optQ_if, optQ_map, optQ_bind, tst_bl, tst_non, tst_int, b_add, b_sub, b_mul, b_fdiv, b_mod, b_pow, c_lt, c_le, c_gt, c_ge, c_eqI, c_neI, c_isI, c_notI, c_isN, c_notN, i_ii, i_ib, n_i, d_i, l_min, l_max, x_ref, x_new, x_tup, s_new, s_tup, y_new, at_0, at_1, at_2, mat_int, mat_bl, mat_str, mat_non, mat_ref, mats_nil, mats_cons, mat_tup, Option.isSome_some, List.getElem?_cons_zero, List.getElem?_cons_succ, List.set_cons_zero, List.set_cons_succ, decide_eq_true_eq, decide_eq_false_iff_not, wp_ok, st_ite, st_set, st_expr, st_ret, st_retN, st_pass, st_cont, st_unp, st_par, st_sub, st_for, st_wh, sq_nx, sq_rt, sq_ct, sq_bk, ss_nil, ss_cons, rq_f, rq_n, we_dct, we_revs, we_comp2, we_dcomp, io_str, io_tup, io_new, tst_b, tst_str, tst_tup, len_tup, len_new, all_new, any_new, lis_tup, tup_new, c_eqS, c_neS, c_eqB, c_neB, c_isT, c_notT, c_isS, c_notS, at_3, at_4, at_m1, x_str0, i_non, i_bl, i_str, i_tup, le1, le2, le3, le4, le5, decide_true, decide_false, true_implies, false_implies, reduceCtorEq, and_true, true_and, Bool.not_true, Bool.not_false, putA, List.length_nil, List.length_cons, List.set_set, reduceIte, Nat.reduceEqDiff, Nat.zero_ne_one, Nat.one_ne_zero, ne_eq, not_true_eq_false, not_false_eq_true, List.append_assoc, List.cons_append, List.nil_append, List.lookup_cons, List.lookup_nil, Nat.reduceBEq, beq_self_eq_true, Bool.and_true, Bool.true_and, Bool.false_and, Bool.and_false]
      exact len_ok (by omega)
    | false =>
      simp only [toD, F_is_formed, B_is_formed, List.map_cons, List.map_nil, List.replicate, List.cons_append, List.nil_append, e0, tB_mat, isT, we_gl b.members, m, matE (toD_ok c hs'.2), isN_toD, hc, wp_eq (cause_of_ok (d := d + 2) b.cause (xs := [.str "many", .tup (toL ms), toD c]) (x := toD c) rfl), wk_mo, wk_mm, nd, wipeD, w2, w3, gu_tup, we_var, we_non, we_bl, we_int, we_str, ws_nil, ws_cons, we_tup, we_lst, we_bin, we_neg, we_cmp, we_chain, we_and1, we_or1, we_and, we_or, we_not, we_ite, we_idx, wo_none, wo_some, we_slc, we_attr, we_call, we_meth, we_make, we_makek, wmake, we_blt, we_bm, we_isi, we_comp, wf_nil, wf_one, wt_tru, wi_of, wi_zip, wi_range, wi_enum, wg_name, wg_tup, wg_wtp, wg_nil, wg_cons, optQ_some, optQ_if, optQ_map, optQ_bind, tst_bl, tst_non, tst_int, b_add, b_sub, b_mul, b_fdiv, b_mod, b_pow, c_lt, c_le, c_gt, c_ge, c_eqI, c_neI, c_isI, c_notI, c_isN, c_notN, i_ii, i_ib, n_i, d_i, l_min, l_max, x_ref, x_new, x_tup, s_new, s_tup, y_new, at_0, at_1, at_2, mat_int, mat_bl, mat_str, mat_non, mat_ref, mats_nil, mats_cons, mat_tup, Option.isSome_some, List.getElem?_cons_zero, List.getElem?_cons_succ, List.set_cons_zero, List.set_cons_succ, decide_eq_true_eq, decide_eq_false_iff_not, wp_ok, st_ite, st_set, st_expr, st_ret, st_retN, st_pass, st_cont, st_unp, st_par, st_sub, st_for, st_wh, sq_nx, sq_rt, sq_ct, sq_bk, ss_nil, ss_cons, rq_f, rq_n, we_dct, we_revs, we_comp2, we_dcomp, io_str, io_tup, io_new, tst_b, tst_str, tst_tup, len_tup, len_new, all_new, any_new, lis_tup, tup_new, c_eqS, c_neS, c_eqB, c_neB, c_isT, c_notT, c_isS, c_notS, at_3, at_4, at_m1, x_str0, i_non, i_bl, i_str, i_tup, le1, le2, le3, le4, le5, decide_true, decide_false, true_implies, false_implies, reduceCtorEq, and_true, true_and, Bool.not_true, Bool.not_false, putA, List.length_nil, List.length_cons, List.set_set, reduceIte, Nat.reduceEqDiff, Nat.zero_ne_one, Nat.one_ne_zero, ne_eq, not_true_eq_false, not_false_eq_true, List.append_assoc, List.cons_append, List.nil_append, List.lookup_cons, List.lookup_nil, Nat.reduceBEq, beq_self_eq_true, Bool.and_true, Bool.true_and, Bool.false_and, Bool.and_false]
      refine ⟨Nat.zero_le _, wp_mono lms fun ys S' z => ?_⟩
      obtain ⟨rfl, rfl⟩ := z
      simp only [all_new, List.length_map, List.length_replicate, all_rep, we_var, we_non, we_bl, we_int, we_str, ws_nil, ws_cons, we_tup, we_lst, we_bin, we_neg, we_cmp, we_chain, we_and1, we_or1, we_and, we_or, we_not, we_ite, we_idx, wo_none, wo_some, we_slc, we_attr, we_call, we_meth, we_make, we_makek, wmake, we_blt, we_bm, we_isi, we_comp, wf_nil, wf_one, wt_tru, wi_of, wi_zip, wi_range, wi_enum, wg_name, wg_tup, wg_wtp, wg_nil, wg_cons, optQ_some, optQ_if, optQ_map, optQ_bind, tst_bl, tst_non, tst_int, b_add, b_sub, b_mul, b_fdiv, b_mod, b_pow, c_lt, c_le, c_gt, c_ge, c_eqI, c_neI, c_isI, c_notI, c_isN, c_notN, i_ii, i_ib, n_i, d_i, l_min, l_max, x_ref, x_new, x_tup, s_new, s_tup, y_new, at_0, at_1, at_2, mat_int, mat_bl, mat_str, mat_non, mat_ref, mats_nil, mats_cons, mat_tup, Option.isSome_some, List.getElem?_cons_zero, List.getElem?_cons_succ, List.set_cons_zero, List.set_cons_succ, decide_eq_true_eq, decide_eq_false_iff_not, wp_ok, st_ite, st_set, st_expr, st_ret, st_retN, st_pass, st_cont, st_unp, st_par, st_sub, st_for, st_wh, sq_nx, sq_rt, sq_ct, sq_bk, ss_nil, ss_cons, rq_f, rq_n, we_dct, we_revs, we_comp2, we_dcomp, io_str, io_tup, io_new, tst_b, tst_str, tst_tup, len_tup, len_new, all_new, any_new, lis_tup, tup_new, c_eqS, c_neS, c_eqB, c_neB, c_isT, c_notT, c_isS, c_notS, at_3, at_4, at_m1, x_str0, i_non, i_bl, i_str, i_tup, le1, le2, le3, le4, le5, decide_true, decide_false, true_implies, false_implies, reduceCtorEq, and_true, true_and, Bool.not_true, Bool.not_false, putA, List.length_nil, List.length_cons, List.set_set, reduceIte, Nat.reduceEqDiff, Nat.zero_ne_one, Nat.one_ne_zero, ne_eq, not_true_eq_false, not_false_eq_true, List.append_assoc, List.cons_append, List.nil_append, List.lookup_cons, List.lookup_nil, Nat.reduceBEq, beq_self_eq_true, Bool.and_true, Bool.true_and, Bool.false_and, Bool.and_false]
      exact len_ok (by omega)
theorem is_formedL (b : FaAt P iN iR iP iC iB iL iK gL gN gT gM iW iI iCa iOn iFo iNa iF gMe gNo gNu gDe gOn) {rows : Bk} (hw : weeB rows) (hb : bookB rows = true) : ∀ (ms : Fs) {S : Store} {d : Nat} {deep : Int} {x : D}, szL ms = true → dpL ms ≤ 25 → vL rows ms = true → (dpL ms : Int) ≤ deep → dpL ms + 3 ≤ d → wp (compF [] (evalG (.name 4)) (evalIfs P (sm P d) []) (evalE P (sm P d) (.call iFo [.var 0, .var 4, .bin .sub (.var 2) (.int 1)])) [some (toB rows), some x, some (.int (deep + 1)), none, none] (toL ms) S) fun ys S' => (ys = (List.replicate ms.len true).map .bl) ∧ S' = S
  | .nil, S, d, deep, x, _, _, _, _, _ => ⟨rfl, rfl⟩
  | .cons h r, S, d, deep, x, hs, hdp, hv, hde, hd => by
    have hs' : (h.notnil && szF h && szL r) = true := hs
    rw [Bool.and_eq_true, Bool.and_eq_true] at hs'
    have hv' : (h.notnil && (vF rows h && vL rows r)) = true := hv
    simp only [Bool.and_eq_true] at hv'
    have hde' : ((max (dpF h) (dpL r) : Nat) : Int) ≤ deep := hde
    have hd' : max (dpF h) (dpL r) + 3 ≤ d := hd
    have hdp' : max (dpF h) (dpL r) ≤ 25 := hdp
    have ih := is_formed_ok b hw hb h (S := S) (d := d) (deep := deep + 1 - 1) hv'.1 hs'.1.2 (by omega) hv'.2.1 (by omega) (by omega)
    simp only [toL, cF_cons, tB_mat, matE (toD_ok h hs'.1.2), wp_eq ih, we_var, we_non, we_bl, we_int, we_str, ws_nil, ws_cons, we_tup, we_lst, we_bin, we_neg, we_cmp, we_chain, we_and1, we_or1, we_and, we_or, we_not, we_ite, we_idx, wo_none, wo_some, we_slc, we_attr, we_call, we_meth, we_make, we_makek, wmake, we_blt, we_bm, we_isi, we_comp, wf_nil, wf_one, wt_tru, wi_of, wi_zip, wi_range, wi_enum, wg_name, wg_tup, wg_wtp, wg_nil, wg_cons, optQ_some, optQ_if, optQ_map, optQ_bind, tst_bl, tst_non, tst_int, b_add, b_sub, b_mul, b_fdiv, b_mod, b_pow, c_lt, c_le, c_gt, c_ge, c_eqI, c_neI, c_isI, c_notI, c_isN, c_notN, i_ii, i_ib, n_i, d_i, l_min, l_max, x_ref, x_new, x_tup, s_new, s_tup, y_new, at_0, at_1, at_2, mat_int, mat_bl, mat_str, mat_non, mat_ref, mats_nil, mats_cons, mat_tup, Option.isSome_some, List.getElem?_cons_zero, List.getElem?_cons_succ, List.set_cons_zero, List.set_cons_succ, decide_eq_true_eq, decide_eq_false_iff_not, wp_ok, st_ite, st_set, st_expr, st_ret, st_retN, st_pass, st_cont, st_unp, st_par, st_sub, st_for, st_wh, sq_nx, sq_rt, sq_ct, sq_bk, ss_nil, ss_cons, rq_f, rq_n, we_dct, we_revs, we_comp2, we_dcomp, io_str, io_tup, io_new, tst_b, tst_str, tst_tup, len_tup, len_new, all_new, any_new, lis_tup, tup_new, c_eqS, c_neS, c_eqB, c_neB, c_isT, c_notT, c_isS, c_notS, at_3, at_4, at_m1, x_str0, i_non, i_bl, i_str, i_tup, le1, le2, le3, le4, le5, decide_true, decide_false, true_implies, false_implies, reduceCtorEq, and_true, true_and, Bool.not_true, Bool.not_false, putA, List.length_nil, List.length_cons, List.set_set, reduceIte, Nat.reduceEqDiff, Nat.zero_ne_one, Nat.one_ne_zero, ne_eq, not_true_eq_false, not_false_eq_true, List.append_assoc, List.cons_append, List.nil_append, List.lookup_cons, List.lookup_nil, Nat.reduceBEq, beq_self_eq_true, Bool.and_true, Bool.true_and, Bool.false_and, Bool.and_false]
    exact wp_mono (is_formedL b hw hb r hs'.2 (by omega) hv'.2.2 (by omega) (by omega)) fun ys S' z => ⟨by rw [z.1]; rfl, z.2⟩
end
def Fa.num : Fa → Int
  | .one n _ _ _ => n
  | _ => 0
def entF : Fa → D × D
  | .one n k t _ => (.int n, .tup [.str k, .int t])
  | _ => (.non, .non)
mutual
theorem onF_one : ∀ (f x : Fa), x ∈ onF f → ∃ n k t c, x = .one n k t c
  | .nil, x, h => by cases h
  | .one n k t c, x, h => by
    have h' : x ∈ Fa.one n k t c :: onF c := h
    rcases List.mem_cons.mp h' with rfl | h'
    · exact ⟨_, _, _, _, rfl⟩
    · exact onF_one c x h'
  | .many ms c, x, h => by
    have h' : x ∈ onL ms ++ onF c := h
    rcases List.mem_append.mp h' with h' | h'
    · exact onL_one ms x h'
    · exact onF_one c x h'
theorem onL_one : ∀ (ms : Fs) (x : Fa), x ∈ onL ms → ∃ n k t c, x = .one n k t c
  | .nil, x, h => by cases h
  | .cons h r, x, k => by
    have h' : x ∈ onF h ++ onL r := k
    rcases List.mem_append.mp h' with h' | h'
    · exact onF_one h x h'
    · exact onL_one r x h'
end
theorem ent_get : ∀ {xs : List Fa} {n : Int}, (∀ x ∈ xs, ∃ n k t c, x = Fa.one n k t c) → n ∉ xs.map Fa.num → getKD (xs.map entF) (.inl n) = none
  | [], n, _, _ => rfl
  | x :: xs, n, h, hn => by
    obtain ⟨m, k, t, c, rfl⟩ := h x List.mem_cons_self
    show (if keyD (.int m) = some (.inl n) then some _ else getKD (xs.map entF) (.inl n)) = none
    rw [if_neg, ent_get (fun x hx => h x (List.mem_cons_of_mem _ hx)) (fun hm => hn (List.mem_cons_of_mem _ hm))]
    intro e
    have : (some (Sum.inl m) : Option Key) = some (.inl n) := e
    cases this
    exact hn List.mem_cons_self
theorem ent_put {xs : List Fa} {n : Int} {v : D} (h : ∀ x ∈ xs, ∃ n k t c, x = Fa.one n k t c) (hn : n ∉ xs.map Fa.num) : putKD (.int n) (.inl n) v (xs.map entF) = xs.map entF ++ [(.int n, v)] := by
  unfold putKD
  rw [if_neg]
  rw [List.any_map, List.any_eq_true]
  rintro ⟨x, hx, e⟩
  obtain ⟨m, k, t, c, rfl⟩ := h x hx
  have e' : (some (Sum.inl m) : Option Key) = some (.inl n) := of_decide_eq_true e
  cases e'
  exact hn (List.mem_map.mpr ⟨_, hx, rfl⟩)
theorem oks_mem : ∀ {xs : List D} {x : D}, okEs xs = true → x ∈ xs → okE x = true
  | y :: ys, x, h, hx => by
    rw [okEs_cons, Bool.and_eq_true] at h
    rcases List.mem_cons.mp hx with rfl | hx
    · exact h.1
    · exact oks_mem h.2 hx
theorem bm_sd {n : Nat} {kvs : List (D × D)} {k z : D} {q : Key} {S : Store} {Q : D → Store → Prop} (h : S[n]? = some (.dct kvs)) (hl : kvs.length < sizeLine) (hk : keyD k = some q) (hg : getKD kvs q = none) (hz : isData z = true) : wp (bmD .setdefault (.ref n) [k, z] S) Q = Q z (S.set n (.dct (putKD k q z kvs))) := by
  simp only [bmD, h, hk]
  rw [if_pos hl]
  simp only [hg, mat_data hz]
  rfl
theorem numbers_agree_ok {i i1 i2 d : Nat} (hf : P.fns[i]? = some (F_numbers_agree i1)) (h1 : P.fns[i1]? = some (F_ones_in i2)) (h2 : P.fns[i2]? = some F_cause_of) {f : Fa} (hn : f.notnil = true) (hs : szF f = true) (hd : dpF f ≤ 25) (hm : ndF f ≤ 50000) (hl : (onF f).length ≤ 50000) (hu : ((onF f).map Fa.num).Nodup) {S : Store} : (sm P (d + 3)).call i [toD f] S = .ok (.bl true) S := by
  refine cl_of hf rfl (Nat.le_of_ble_eq_true rfl) ?_
  have m0 : ∀ T, mat (.new (.dct [])) T = (.ref T.length, T ++ [.dct []]) := fun T => rfl
  have io : ∀ T, itemsOf (.new (.lst ((onF f).map toD))) T = some ((onF f).map toD) := fun T => rfl
  have fk : freshK (twos []) = true := rfl
  simp only [F_numbers_agree, B_numbers_agree, List.map_cons, List.map_nil, List.replicate, List.cons_append, List.nil_append, m0, matE (toD_ok f hs), wp_eq (ones_in_ok (d := d) h1 h2 hn hs hd hm), io, gu_new, fk, twos, we_var, we_non, we_bl, we_int, we_str, ws_nil, ws_cons, we_tup, we_lst, we_bin, we_neg, we_cmp, we_chain, we_and1, we_or1, we_and, we_or, we_not, we_ite, we_idx, wo_none, wo_some, we_slc, we_attr, we_call, we_meth, we_make, we_makek, wmake, we_blt, we_bm, we_isi, we_comp, wf_nil, wf_one, wt_tru, wi_of, wi_zip, wi_range, wi_enum, wg_name, wg_tup, wg_wtp, wg_nil, wg_cons, optQ_some, optQ_if, optQ_map, optQ_bind, tst_bl, tst_non, tst_int, b_add, b_sub, b_mul, b_fdiv, b_mod, b_pow, c_lt, c_le, c_gt, c_ge, c_eqI, c_neI, c_isI, c_notI, c_isN, c_notN, i_ii, i_ib, n_i, d_i, l_min, l_max, x_ref, x_new, x_tup, s_new, s_tup, y_new, at_0, at_1, at_2, mat_int, mat_bl, mat_str, mat_non, mat_ref, mats_nil, mats_cons, mat_tup, Option.isSome_some, List.getElem?_cons_zero, List.getElem?_cons_succ, List.set_cons_zero, List.set_cons_succ, decide_eq_true_eq, decide_eq_false_iff_not, wp_ok, st_ite, st_set, st_expr, st_ret, st_retN, st_pass, st_cont, st_unp, st_par, st_sub, st_for, st_wh, sq_nx, sq_rt, sq_ct, sq_bk, ss_nil, ss_cons, rq_f, rq_n, we_dct, we_revs, we_comp2, we_dcomp, io_str, io_tup, io_new, tst_b, tst_str, tst_tup, len_tup, len_new, all_new, any_new, lis_tup, tup_new, c_eqS, c_neS, c_eqB, c_neB, c_isT, c_notT, c_isS, c_notS, at_3, at_4, at_m1, x_str0, i_non, i_bl, i_str, i_tup, le1, le2, le3, le4, le5, decide_true, decide_false, true_implies, false_implies, reduceCtorEq, and_true, true_and, Bool.not_true, Bool.not_false, putA, List.length_nil, List.length_cons, List.set_set, reduceIte, Nat.reduceEqDiff, Nat.zero_ne_one, Nat.one_ne_zero, ne_eq, not_true_eq_false, not_false_eq_true, List.append_assoc, List.cons_append, List.nil_append, List.lookup_cons, List.lookup_nil, Nat.reduceBEq, beq_self_eq_true, Bool.and_true, Bool.true_and, Bool.false_and, Bool.and_false]
  refine ⟨by decide, wp_forF (fun j ρ T => ∃ x, ρ = [some (toD f), some (.ref S.length), x] ∧ T = S ++ [.dct (((onF f).take j).map entF)]) ⟨none, rfl, rfl⟩ (fun _ _ _ _ => rfl) ?_ ?_⟩
  · rintro j x ρ T hj ⟨y, rfl, rfl⟩
    rw [List.getElem?_map] at hj
    cases hx : (onF f)[j]? with
    | none => rw [hx] at hj; cases hj
    | some g =>
      rw [hx] at hj
      cases hj
      have lj : j < (onF f).length := (List.getElem?_eq_some_iff.mp hx).1
      have gj : (onF f)[j] = g := (List.getElem?_eq_some_iff.mp hx).2
      obtain ⟨n, k, t, c, rfl⟩ := onF_one f g (List.mem_of_getElem? hx)
      have hall : ∀ x ∈ (onF f).take j, ∃ n k t c, x = Fa.one n k t c := fun x hx => onF_one f x (List.mem_of_mem_take hx)
      have hnot : n ∉ ((onF f).take j).map Fa.num := by
        intro hmem
        have e : (onF f).map Fa.num = ((onF f).take j).map Fa.num ++ n :: ((onF f).drop (j + 1)).map Fa.num := by
          conv => lhs; rw [← List.take_append_drop j (onF f), List.drop_eq_getElem_cons lj, gj]
          rw [List.map_append, List.map_cons]; rfl
        rw [e, List.nodup_append] at hu
        exact hu.2.2 n hmem n List.mem_cons_self rfl
      have okx := oks_mem (onF_ok f hs) (List.mem_map.mpr ⟨_, List.mem_of_getElem? hx, rfl⟩)
      have okc : okE (toD c) = true := by
        have h' : (PyData.strOk "one" && (true && (PyData.strOk k && (true && (okE (toD c) && true))))) = true := okx
        simp only [Bool.and_eq_true] at h'
        exact h'.2.2.2.2.1
      have okk : PyData.strOk k = true := by
        have h' : (PyData.strOk "one" && (true && (PyData.strOk k && (true && (okE (toD c) && true))))) = true := okx
        simp only [Bool.and_eq_true] at h'
        exact h'.2.2.1
      have ok2 : okE (.tup [.str k, .int t]) = true := by
        show (PyData.strOk k && (true && true)) = true
        rw [okk]; rfl
      have p1 : ∀ Q : D → Store → Prop, wp (bmD .setdefault (.ref S.length) [.int n, .tup [.str k, .int t]] (S ++ [.dct (((onF f).take j).map entF)])) Q = Q (.tup [.str k, .int t]) (S ++ [.dct (((onF f).take (j + 1)).map entF)]) := fun Q => by
        have : (100000 : Nat) ≤ sizeLine := by decide
        rw [bm_sd at_e0 (by simp; omega) rfl (ent_get hall hnot) rfl, ent_put hall hnot, set_e0, List.take_succ_eq_append_getElem lj, List.map_append, gj]
        rfl
      have bt : bmTy .setdefault (.ref S.length) (S ++ [.dct (((onF f).take j).map entF)]) = true := by
        show (dctOf _ _).isSome = true
        simp only [dctOf, at_e0]; rfl
      simp only [toD, matE okc, sl_524, bt, p1, c_neE ok2 ok2 (by show max 0 (max 0 0) + 1 ≤ 64; decide) (by show max 0 (max 0 0) + 1 ≤ 64; decide), sameD_refl, we_var, we_non, we_bl, we_int, we_str, ws_nil, ws_cons, we_tup, we_lst, we_bin, we_neg, we_cmp, we_chain, we_and1, we_or1, we_and, we_or, we_not, we_ite, we_idx, wo_none, wo_some, we_slc, we_attr, we_call, we_meth, we_make, we_makek, wmake, we_blt, we_bm, we_isi, we_comp, wf_nil, wf_one, wt_tru, wi_of, wi_zip, wi_range, wi_enum, wg_name, wg_tup, wg_wtp, wg_nil, wg_cons, optQ_some, optQ_if, optQ_map, optQ_bind, tst_bl, tst_non, tst_int, b_add, b_sub, b_mul, b_fdiv, b_mod, b_pow, c_lt, c_le, c_gt, c_ge, c_eqI, c_neI, c_isI, c_notI, c_isN, c_notN, i_ii, i_ib, n_i, d_i, l_min, l_max, x_ref, x_new, x_tup, s_new, s_tup, y_new, at_0, at_1, at_2, mat_int, mat_bl, mat_str, mat_non, mat_ref, mats_nil, mats_cons, mat_tup, Option.isSome_some, List.getElem?_cons_zero, List.getElem?_cons_succ, List.set_cons_zero, List.set_cons_succ, decide_eq_true_eq, decide_eq_false_iff_not, wp_ok, st_ite, st_set, st_expr, st_ret, st_retN, st_pass, st_cont, st_unp, st_par, st_sub, st_for, st_wh, sq_nx, sq_rt, sq_ct, sq_bk, ss_nil, ss_cons, rq_f, rq_n, we_dct, we_revs, we_comp2, we_dcomp, io_str, io_tup, io_new, tst_b, tst_str, tst_tup, len_tup, len_new, all_new, any_new, lis_tup, tup_new, c_eqS, c_neS, c_eqB, c_neB, c_isT, c_notT, c_isS, c_notS, at_3, at_4, at_m1, x_str0, i_non, i_bl, i_str, i_tup, le1, le2, le3, le4, le5, decide_true, decide_false, true_implies, false_implies, reduceCtorEq, and_true, true_and, Bool.not_true, Bool.not_false, putA, List.length_nil, List.length_cons, List.set_set, reduceIte, Nat.reduceEqDiff, Nat.zero_ne_one, Nat.one_ne_zero, ne_eq, not_true_eq_false, not_false_eq_true, List.append_assoc, List.cons_append, List.nil_append, List.lookup_cons, List.lookup_nil, Nat.reduceBEq, beq_self_eq_true, Bool.and_true, Bool.true_and, Bool.false_and, Bool.and_false]
      refine wp_turn0 ⟨_, rfl, rfl⟩
  · rintro ρ T ⟨y, rfl, rfl⟩
    simp only [we_var, we_non, we_bl, we_int, we_str, ws_nil, ws_cons, we_tup, we_lst, we_bin, we_neg, we_cmp, we_chain, we_and1, we_or1, we_and, we_or, we_not, we_ite, we_idx, wo_none, wo_some, we_slc, we_attr, we_call, we_meth, we_make, we_makek, wmake, we_blt, we_bm, we_isi, we_comp, wf_nil, wf_one, wt_tru, wi_of, wi_zip, wi_range, wi_enum, wg_name, wg_tup, wg_wtp, wg_nil, wg_cons, optQ_some, optQ_if, optQ_map, optQ_bind, tst_bl, tst_non, tst_int, b_add, b_sub, b_mul, b_fdiv, b_mod, b_pow, c_lt, c_le, c_gt, c_ge, c_eqI, c_neI, c_isI, c_notI, c_isN, c_notN, i_ii, i_ib, n_i, d_i, l_min, l_max, x_ref, x_new, x_tup, s_new, s_tup, y_new, at_0, at_1, at_2, mat_int, mat_bl, mat_str, mat_non, mat_ref, mats_nil, mats_cons, mat_tup, Option.isSome_some, List.getElem?_cons_zero, List.getElem?_cons_succ, List.set_cons_zero, List.set_cons_succ, decide_eq_true_eq, decide_eq_false_iff_not, wp_ok, st_ite, st_set, st_expr, st_ret, st_retN, st_pass, st_cont, st_unp, st_par, st_sub, st_for, st_wh, sq_nx, sq_rt, sq_ct, sq_bk, ss_nil, ss_cons, rq_f, rq_n, we_dct, we_revs, we_comp2, we_dcomp, io_str, io_tup, io_new, tst_b, tst_str, tst_tup, len_tup, len_new, all_new, any_new, lis_tup, tup_new, c_eqS, c_neS, c_eqB, c_neB, c_isT, c_notT, c_isS, c_notS, at_3, at_4, at_m1, x_str0, i_non, i_bl, i_str, i_tup, le1, le2, le3, le4, le5, decide_true, decide_false, true_implies, false_implies, reduceCtorEq, and_true, true_and, Bool.not_true, Bool.not_false, putA, List.length_nil, List.length_cons, List.set_set, reduceIte, Nat.reduceEqDiff, Nat.zero_ne_one, Nat.one_ne_zero, ne_eq, not_true_eq_false, not_false_eq_true, List.append_assoc, List.cons_append, List.nil_append, List.lookup_cons, List.lookup_nil, Nat.reduceBEq, beq_self_eq_true, Bool.and_true, Bool.true_and, Bool.false_and, Bool.and_false]
    exact ret_p rfl ⟨rfl, rfl⟩
theorem is_fault_ok (b : FaAt P iN iR iP iC iB iL iK gL gN gT gM iW iI iCa iOn iFo iNa iF gMe gNo gNu gDe gOn) {rows : Bk} (hw : weeB rows) (hb : bookB rows = true) {f : Fa} (hn : f.notnil = true) (hs : szF f = true) (hd : dpF f ≤ 25) (hm : ndF f ≤ 50000) (hv : vF rows f = true) (hl : (onF f).length ≤ 200) (hu : ((onF f).map Fa.num).Nodup) {S : Store} {d : Nat} : (sm P (d + 30)).call iF [toB rows, toD f] S = .ok (.bl true) S := by
  refine cl_of b.fault rfl (Nat.le_of_ble_eq_true rfl) ?_
  have e1 := look_ok b.toBkAt hw hb (S := S) (d := d + 24)
  have e2 := is_formed_ok b hw hb f (S := S) (d := d + 29) (deep := 160) hn hs hd hv (by omega) (by omega)
  have e3 := ones_in_ok (d := d + 27) b.ones b.cause hn hs hd hm (S := S)
  have e4 := numbers_agree_ok (d := d + 26) b.agree b.ones b.cause hn hs hd hm (by omega) hu (S := S)
  have hl' : (((onF f).map toD).length : Int) ≤ 200 := by rw [List.length_map]; omega
  simp only [F_is_fault, B_is_fault, List.map_cons, List.map_nil, List.replicate, List.cons_append, List.nil_append, tB_mat, matE (toD_ok f hs), we_gl b.deep, we_gl b.many, wp_eq e1, wp_eq e2, wp_eq e3, wp_eq e4, hl', we_var, we_non, we_bl, we_int, we_str, ws_nil, ws_cons, we_tup, we_lst, we_bin, we_neg, we_cmp, we_chain, we_and1, we_or1, we_and, we_or, we_not, we_ite, we_idx, wo_none, wo_some, we_slc, we_attr, we_call, we_meth, we_make, we_makek, wmake, we_blt, we_bm, we_isi, we_comp, wf_nil, wf_one, wt_tru, wi_of, wi_zip, wi_range, wi_enum, wg_name, wg_tup, wg_wtp, wg_nil, wg_cons, optQ_some, optQ_if, optQ_map, optQ_bind, tst_bl, tst_non, tst_int, b_add, b_sub, b_mul, b_fdiv, b_mod, b_pow, c_lt, c_le, c_gt, c_ge, c_eqI, c_neI, c_isI, c_notI, c_isN, c_notN, i_ii, i_ib, n_i, d_i, l_min, l_max, x_ref, x_new, x_tup, s_new, s_tup, y_new, at_0, at_1, at_2, mat_int, mat_bl, mat_str, mat_non, mat_ref, mats_nil, mats_cons, mat_tup, Option.isSome_some, List.getElem?_cons_zero, List.getElem?_cons_succ, List.set_cons_zero, List.set_cons_succ, decide_eq_true_eq, decide_eq_false_iff_not, wp_ok, st_ite, st_set, st_expr, st_ret, st_retN, st_pass, st_cont, st_unp, st_par, st_sub, st_for, st_wh, sq_nx, sq_rt, sq_ct, sq_bk, ss_nil, ss_cons, rq_f, rq_n, we_dct, we_revs, we_comp2, we_dcomp, io_str, io_tup, io_new, tst_b, tst_str, tst_tup, len_tup, len_new, all_new, any_new, lis_tup, tup_new, c_eqS, c_neS, c_eqB, c_neB, c_isT, c_notT, c_isS, c_notS, at_3, at_4, at_m1, x_str0, i_non, i_bl, i_str, i_tup, le1, le2, le3, le4, le5, decide_true, decide_false, true_implies, false_implies, reduceCtorEq, and_true, true_and, Bool.not_true, Bool.not_false, putA, List.length_nil, List.length_cons, List.set_set, reduceIte, Nat.reduceEqDiff, Nat.zero_ne_one, Nat.one_ne_zero, ne_eq, not_true_eq_false, not_false_eq_true, List.append_assoc, List.cons_append, List.nil_append, List.lookup_cons, List.lookup_nil, Nat.reduceBEq, beq_self_eq_true, Bool.and_true, Bool.true_and, Bool.false_and, Bool.and_false]
/-- where the functions of results stand -/
structure ReAt (P : Prog) (iN iR iP iC iB iL iK gL gN gT gM iW iI iCa iOn iFo iNa iF gMe gNo gNu gDe gOn iRe iSh iTh iEn iCh iCd gWo gNs gCo : Nat) : Prop extends FaAt P iN iR iP iC iB iL iK gL gN gT gM iW iI iCa iOn iFo iNa iF gMe gNo gNu gDe gOn where
  result : P.fns[iRe]? = some (F_is_result iF iI iL gCo gNo gNs gWo)
  shift : P.fns[iSh]? = some (F_shifted iCa iSh)
  then_ : P.fns[iTh]? = some (F_then iSh)
  ens : P.fns[iEn]? = some (F_ensured iCd iSh)
  chained : P.fns[iCh]? = some (F_chained iRe iL iTh)
  caused : P.fns[iCd]? = some (F_caused iCa)
  words : Gl P gWo (.tup [.str "done", .str "left", .str "bad"])
  notes : Gl P gNs (.int 400)
  count : Gl P gCo (.int 1000)
/-- a result of the book -/
structure VR (rows : Bk) (r : Re) : Prop where
  w : r.w = "done" ∨ r.w = "left" ∨ r.w = "bad"
  len : r.ns.length ≤ 400
  ns : ∀ n ∈ r.ns, within n 0 999 = true
  cnt : within r.cnt 0 1000 = true
  bad : r.w = "bad" → r.f.notnil = true ∧ dpF r.f ≤ 5 ∧ ndF r.f ≤ 50000 ∧ vF rows r.f = true ∧ (onF r.f).length ≤ 200 ∧ ((onF r.f).map Fa.num).Nodup
  good : r.w ≠ "bad" → r.f = .nil
  sz : szF r.f = true
theorem VR.szR {rows : Bk} {r : Re} (h : VR rows r) : szR r := by
  refine ⟨?_, by have := h.len; omega, h.sz, ?_⟩
  · rcases h.w with e | e | e <;> rw [e]
    · exact so_done
    · exact so_left
    · exact so_bad
  · by_cases e : r.w = "bad"
    · have := (h.bad e).2.1
      omega
    · rw [h.good e]; exact Nat.zero_le _
theorem is_result_ok {iRe iSh iTh iEn iCh iCd gWo gNs gCo : Nat} (b : ReAt P iN iR iP iC iB iL iK gL gN gT gM iW iI iCa iOn iFo iNa iF gMe gNo gNu gDe gOn iRe iSh iTh iEn iCh iCd gWo gNs gCo) {rows : Bk} (hw : weeB rows) (hb : bookB rows = true) {r : Re} (hr : VR rows r) {S : Store} {d : Nat} : (sm P (d + 31)).call iRe [toB rows, toR r] S = .ok (.bl true) S := by
  refine cl_of b.result rfl (Nat.le_of_ble_eq_true rfl) ?_
  have e1 := look_ok b.toBkAt hw hb (S := S) (d := d + 25)
  have e2 := is_within_ok (d := d + 28) b.inn b.whole (x := r.cnt) (lo := 0) (hi := 1000) (S := S)
  have w2 : decide (0 ≤ r.cnt ∧ r.cnt ≤ 1000) = true := hr.cnt
  rw [w2] at e2
  have hl : ((r.ns.map D.int).length : Int) ≤ 400 := by rw [List.length_map]; have := hr.len; omega
  have hl2 : ¬ ((400 : Int) < ((r.ns.map D.int).length : Nat)) := by omega
  have nin : cmpD .nin (.str r.w) (.tup [.str "done", .str "left", .str "bad"]) S = some false := by
    have h : inV (V.str r.w) [V.str "done", V.str "left", V.str "bad"] = true := by rcases hr.w with e | e | e <;> rw [e] <;> decide +kernel
    show some (!(inV (V.str r.w) [V.str "done", V.str "left", V.str "bad"])) = _
    rw [h]; rfl
  have mi : ∀ T, mats (r.ns.map D.int) T = (r.ns.map D.int, T) := fun T => matsE (oks_ints _)
  simp only [toR, F_is_result, B_is_result, List.map_cons, List.map_nil, List.replicate, List.cons_append, List.nil_append, tB_mat, matE (toD_ok _ hr.sz), mi, isT, we_gl b.words, we_gl b.notes, we_gl b.count, we_gl b.note, wp_eq e1, wp_eq e2, nin, hl2, wipeD, gu_tup, we_var, we_non, we_bl, we_int, we_str, ws_nil, ws_cons, we_tup, we_lst, we_bin, we_neg, we_cmp, we_chain, we_and1, we_or1, we_and, we_or, we_not, we_ite, we_idx, wo_none, wo_some, we_slc, we_attr, we_call, we_meth, we_make, we_makek, wmake, we_blt, we_bm, we_isi, we_comp, wf_nil, wf_one, wt_tru, wi_of, wi_zip, wi_range, wi_enum, wg_name, wg_tup, wg_wtp, wg_nil, wg_cons, optQ_some, optQ_if, optQ_map, optQ_bind, tst_bl, tst_non, tst_int, b_add, b_sub, b_mul, b_fdiv, b_mod, b_pow, c_lt, c_le, c_gt, c_ge, c_eqI, c_neI, c_isI, c_notI, c_isN, c_notN, i_ii, i_ib, n_i, d_i, l_min, l_max, x_ref, x_new, x_tup, s_new, s_tup, y_new, at_0, at_1, at_2, mat_int, mat_bl, mat_str, mat_non, mat_ref, mats_nil, mats_cons, mat_tup, Option.isSome_some, List.getElem?_cons_zero, List.getElem?_cons_succ, List.set_cons_zero, List.set_cons_succ, decide_eq_true_eq, decide_eq_false_iff_not, wp_ok, st_ite, st_set, st_expr, st_ret, st_retN, st_pass, st_cont, st_unp, st_par, st_sub, st_for, st_wh, sq_nx, sq_rt, sq_ct, sq_bk, ss_nil, ss_cons, rq_f, rq_n, we_dct, we_revs, we_comp2, we_dcomp, io_str, io_tup, io_new, tst_b, tst_str, tst_tup, len_tup, len_new, all_new, any_new, lis_tup, tup_new, c_eqS, c_neS, c_eqB, c_neB, c_isT, c_notT, c_isS, c_notS, at_3, at_4, at_m1, x_str0, i_non, i_bl, i_str, i_tup, le1, le2, le3, le4, le5, decide_true, decide_false, true_implies, false_implies, reduceCtorEq, and_true, true_and, Bool.not_true, Bool.not_false, putA, List.length_nil, List.length_cons, List.set_set, reduceIte, Nat.reduceEqDiff, Nat.zero_ne_one, Nat.one_ne_zero, ne_eq, not_true_eq_false, not_false_eq_true, List.append_assoc, List.cons_append, List.nil_append, List.lookup_cons, List.lookup_nil, Nat.reduceBEq, beq_self_eq_true, Bool.and_true, Bool.true_and, Bool.false_and, Bool.and_false]
  refine comp_maps (fun n : Int => D.int n) (fun n => .bl (within n 0 999)) gu_nil (fun n hn => ?_) ?_
  · have e := is_within_ok (d := d + 28) b.inn b.whole (x := n) (lo := 0) (hi := 999) (S := S)
    simp only [we_gl b.note, wp_eq e, within, we_var, we_non, we_bl, we_int, we_str, ws_nil, ws_cons, we_tup, we_lst, we_bin, we_neg, we_cmp, we_chain, we_and1, we_or1, we_and, we_or, we_not, we_ite, we_idx, wo_none, wo_some, we_slc, we_attr, we_call, we_meth, we_make, we_makek, wmake, we_blt, we_bm, we_isi, we_comp, wf_nil, wf_one, wt_tru, wi_of, wi_zip, wi_range, wi_enum, wg_name, wg_tup, wg_wtp, wg_nil, wg_cons, optQ_some, optQ_if, optQ_map, optQ_bind, tst_bl, tst_non, tst_int, b_add, b_sub, b_mul, b_fdiv, b_mod, b_pow, c_lt, c_le, c_gt, c_ge, c_eqI, c_neI, c_isI, c_notI, c_isN, c_notN, i_ii, i_ib, n_i, d_i, l_min, l_max, x_ref, x_new, x_tup, s_new, s_tup, y_new, at_0, at_1, at_2, mat_int, mat_bl, mat_str, mat_non, mat_ref, mats_nil, mats_cons, mat_tup, Option.isSome_some, List.getElem?_cons_zero, List.getElem?_cons_succ, List.set_cons_zero, List.set_cons_succ, decide_eq_true_eq, decide_eq_false_iff_not, wp_ok, st_ite, st_set, st_expr, st_ret, st_retN, st_pass, st_cont, st_unp, st_par, st_sub, st_for, st_wh, sq_nx, sq_rt, sq_ct, sq_bk, ss_nil, ss_cons, rq_f, rq_n, we_dct, we_revs, we_comp2, we_dcomp, io_str, io_tup, io_new, tst_b, tst_str, tst_tup, len_tup, len_new, all_new, any_new, lis_tup, tup_new, c_eqS, c_neS, c_eqB, c_neB, c_isT, c_notT, c_isS, c_notS, at_3, at_4, at_m1, x_str0, i_non, i_bl, i_str, i_tup, le1, le2, le3, le4, le5, decide_true, decide_false, true_implies, false_implies, reduceCtorEq, and_true, true_and, Bool.not_true, Bool.not_false, putA, List.length_nil, List.length_cons, List.set_set, reduceIte, Nat.reduceEqDiff, Nat.zero_ne_one, Nat.one_ne_zero, ne_eq, not_true_eq_false, not_false_eq_true, List.append_assoc, List.cons_append, List.nil_append, List.lookup_cons, List.lookup_nil, Nat.reduceBEq, beq_self_eq_true, Bool.and_true, Bool.true_and, Bool.false_and, Bool.and_false]
  have hall : (r.ns.all fun n => within n 0 999) = true := List.all_eq_true.mpr hr.ns
  refine ⟨len_ok (by rw [List.length_map]; have := hr.len; omega), ?_⟩
  rw [all_bl, hall, optQ_some, tst_bl]
  refine ⟨fun h => (by cases h), fun _ => ⟨fun h => ?_, fun h => ?_⟩⟩
  · have z := hr.bad h
    rw [wp_eq (is_fault_ok b.toFaAt hw hb z.1 hr.sz (by omega) z.2.2.1 z.2.2.2.1 z.2.2.2.2.1 z.2.2.2.2.2 (S := S) (d := d))]
    exact ⟨rfl, rfl⟩
  · rw [hr.good h]
    exact ⟨rfl, rfl⟩
theorem th_len {a b : Re} : (thR a b).ns.length ≤ a.ns.length + b.ns.length := by
  unfold thR
  split
  · simp
  · omega
theorem chained_ok {iRe iSh iTh iEn iCh iCd gWo gNs gCo : Nat} (b : ReAt P iN iR iP iC iB iL iK gL gN gT gM iW iI iCa iOn iFo iNa iF gMe gNo gNu gDe gOn iRe iSh iTh iEn iCh iCd gWo gNs gCo) {rows : Bk} (hw : weeB rows) (hb : bookB rows = true) {rs : List Re} (hrs : ∀ r ∈ rs, VR rows r) (hl : rs.length ≤ 10) {n : Nat} {S : Store} (hn : S[n]? = some (.lst (rs.map toR))) {d : Nat} : (sm P (d + 32)).call iCh [toB rows, .ref n] S = .ok (toR (rs.foldl thR ⟨"done", [], 0, .nil⟩)) S := by
  refine cl_of b.chained rfl (Nat.le_of_ble_eq_true rfl) ?_
  have e1 := look_ok b.toBkAt hw hb (S := S) (d := d + 26)
  simp only [F_chained, B_chained, List.map_cons, List.map_nil, List.replicate, List.cons_append, List.nil_append, tB_mat, wp_eq e1, io_ref hn, we_var, we_non, we_bl, we_int, we_str, ws_nil, ws_cons, we_tup, we_lst, we_bin, we_neg, we_cmp, we_chain, we_and1, we_or1, we_and, we_or, we_not, we_ite, we_idx, wo_none, wo_some, we_slc, we_attr, we_call, we_meth, we_make, we_makek, wmake, we_blt, we_bm, we_isi, we_comp, wf_nil, wf_one, wt_tru, wi_of, wi_zip, wi_range, wi_enum, wg_name, wg_tup, wg_wtp, wg_nil, wg_cons, optQ_some, optQ_if, optQ_map, optQ_bind, tst_bl, tst_non, tst_int, b_add, b_sub, b_mul, b_fdiv, b_mod, b_pow, c_lt, c_le, c_gt, c_ge, c_eqI, c_neI, c_isI, c_notI, c_isN, c_notN, i_ii, i_ib, n_i, d_i, l_min, l_max, x_ref, x_new, x_tup, s_new, s_tup, y_new, at_0, at_1, at_2, mat_int, mat_bl, mat_str, mat_non, mat_ref, mats_nil, mats_cons, mat_tup, Option.isSome_some, List.getElem?_cons_zero, List.getElem?_cons_succ, List.set_cons_zero, List.set_cons_succ, decide_eq_true_eq, decide_eq_false_iff_not, wp_ok, st_ite, st_set, st_expr, st_ret, st_retN, st_pass, st_cont, st_unp, st_par, st_sub, st_for, st_wh, sq_nx, sq_rt, sq_ct, sq_bk, ss_nil, ss_cons, rq_f, rq_n, we_dct, we_revs, we_comp2, we_dcomp, io_str, io_tup, io_new, tst_b, tst_str, tst_tup, len_tup, len_new, all_new, any_new, lis_tup, tup_new, c_eqS, c_neS, c_eqB, c_neB, c_isT, c_notT, c_isS, c_notS, at_3, at_4, at_m1, x_str0, i_non, i_bl, i_str, i_tup, le1, le2, le3, le4, le5, decide_true, decide_false, true_implies, false_implies, reduceCtorEq, and_true, true_and, Bool.not_true, Bool.not_false, putA, List.length_nil, List.length_cons, List.set_set, reduceIte, Nat.reduceEqDiff, Nat.zero_ne_one, Nat.one_ne_zero, ne_eq, not_true_eq_false, not_false_eq_true, List.append_assoc, List.cons_append, List.nil_append, List.lookup_cons, List.lookup_nil, Nat.reduceBEq, beq_self_eq_true, Bool.and_true, Bool.true_and, Bool.false_and, Bool.and_false]
  refine ⟨Nat.zero_le _, len_ok (by decide), ?_⟩
  have acc : ∀ j, j ≤ 10 → szR ((rs.take j).foldl thR ⟨"done", [], 0, .nil⟩) ∧ ((rs.take j).foldl thR ⟨"done", [], 0, .nil⟩).ns.length ≤ 400 * j := by
    intro j
    induction j with
    | zero => intro _; exact ⟨⟨so_done, Nat.zero_le _, rfl, Nat.zero_le _⟩, Nat.le_refl _⟩
    | succ j ih =>
      intro hj
      obtain ⟨i1, i2⟩ := ih (by omega)
      by_cases hlt : j < rs.length
      · rw [List.take_succ_eq_append_getElem hlt, List.foldl_append]
        have vr := hrs rs[j] (List.getElem_mem hlt)
        have := vr.len
        have := th_len (a := (rs.take j).foldl thR ⟨"done", [], 0, .nil⟩) (b := rs[j])
        exact ⟨szR_th i1 vr.szR (by omega), by show (thR _ _).ns.length ≤ _; omega⟩
      · rw [List.take_of_length_le (by omega)]
        rw [List.take_of_length_le (by omega)] at i1 i2
        exact ⟨i1, by omega⟩
  refine wp_forF (fun j ρ T => T = S ∧ ∃ x, ρ = [some (toB rows), some (.ref n), some (toR ((rs.take j).foldl thR ⟨"done", [], 0, .nil⟩)), x]) ⟨rfl, none, rfl⟩ (fun j ρ T z => by rw [z.1]; exact gu_ref hn) ?_ ?_
  · rintro j x ρ T hj ⟨rfl, y, rfl⟩
    rw [List.getElem?_map] at hj
    cases hx : rs[j]? with
    | none => rw [hx] at hj; cases hj
    | some r =>
      rw [hx] at hj
      cases hj
      have lj : j < rs.length := (List.getElem?_eq_some_iff.mp hx).1
      have gj : rs[j] = r := (List.getElem?_eq_some_iff.mp hx).2
      have vr := hrs r (List.mem_of_getElem? hx)
      obtain ⟨a1, a2⟩ := acc j (by omega)
      have e2 := is_result_ok b hw hb vr (S := T) (d := d)
      have e3 := then_ok (d := d + 8) b.then_ b.shift b.cause a1 vr.szR (S := T)
      have m : ∀ T, mat (toR r) T = (toR r, T) := fun T => matE (toR_ok vr.szR)
      have ma : ∀ T, mat (toR ((rs.take j).foldl thR ⟨"done", [], 0, .nil⟩)) T = (toR ((rs.take j).foldl thR ⟨"done", [], 0, .nil⟩), T) := fun T => matE (toR_ok a1)
      have mc : ∀ T, mat (toR (thR ((rs.take j).foldl thR ⟨"done", [], 0, .nil⟩) r)) T = (toR (thR ((rs.take j).foldl thR ⟨"done", [], 0, .nil⟩) r), T) := fun T => matE (toR_ok (szR_th a1 vr.szR (by have := vr.len; omega)))
      simp only [m, ma, mc, tB_mat, wp_eq e2, wp_eq e3, we_var, we_non, we_bl, we_int, we_str, ws_nil, ws_cons, we_tup, we_lst, we_bin, we_neg, we_cmp, we_chain, we_and1, we_or1, we_and, we_or, we_not, we_ite, we_idx, wo_none, wo_some, we_slc, we_attr, we_call, we_meth, we_make, we_makek, wmake, we_blt, we_bm, we_isi, we_comp, wf_nil, wf_one, wt_tru, wi_of, wi_zip, wi_range, wi_enum, wg_name, wg_tup, wg_wtp, wg_nil, wg_cons, optQ_some, optQ_if, optQ_map, optQ_bind, tst_bl, tst_non, tst_int, b_add, b_sub, b_mul, b_fdiv, b_mod, b_pow, c_lt, c_le, c_gt, c_ge, c_eqI, c_neI, c_isI, c_notI, c_isN, c_notN, i_ii, i_ib, n_i, d_i, l_min, l_max, x_ref, x_new, x_tup, s_new, s_tup, y_new, at_0, at_1, at_2, mat_int, mat_bl, mat_str, mat_non, mat_ref, mats_nil, mats_cons, mat_tup, Option.isSome_some, List.getElem?_cons_zero, List.getElem?_cons_succ, List.set_cons_zero, List.set_cons_succ, decide_eq_true_eq, decide_eq_false_iff_not, wp_ok, st_ite, st_set, st_expr, st_ret, st_retN, st_pass, st_cont, st_unp, st_par, st_sub, st_for, st_wh, sq_nx, sq_rt, sq_ct, sq_bk, ss_nil, ss_cons, rq_f, rq_n, we_dct, we_revs, we_comp2, we_dcomp, io_str, io_tup, io_new, tst_b, tst_str, tst_tup, len_tup, len_new, all_new, any_new, lis_tup, tup_new, c_eqS, c_neS, c_eqB, c_neB, c_isT, c_notT, c_isS, c_notS, at_3, at_4, at_m1, x_str0, i_non, i_bl, i_str, i_tup, le1, le2, le3, le4, le5, decide_true, decide_false, true_implies, false_implies, reduceCtorEq, and_true, true_and, Bool.not_true, Bool.not_false, putA, List.length_nil, List.length_cons, List.set_set, reduceIte, Nat.reduceEqDiff, Nat.zero_ne_one, Nat.one_ne_zero, ne_eq, not_true_eq_false, not_false_eq_true, List.append_assoc, List.cons_append, List.nil_append, List.lookup_cons, List.lookup_nil, Nat.reduceBEq, beq_self_eq_true, Bool.and_true, Bool.true_and, Bool.false_and, Bool.and_false]
      refine wp_turn0 ⟨rfl, some (toR r), ?_⟩
      rw [List.take_succ_eq_append_getElem lj, List.foldl_append, gj]
      rfl
  · rintro ρ T ⟨rfl, y, rfl⟩
    rw [List.length_map, List.take_length]
    simp only [we_var, we_non, we_bl, we_int, we_str, ws_nil, ws_cons, we_tup, we_lst, we_bin, we_neg, we_cmp, we_chain, we_and1, we_or1, we_and, we_or, we_not, we_ite, we_idx, wo_none, wo_some, we_slc, we_attr, we_call, we_meth, we_make, we_makek, wmake, we_blt, we_bm, we_isi, we_comp, wf_nil, wf_one, wt_tru, wi_of, wi_zip, wi_range, wi_enum, wg_name, wg_tup, wg_wtp, wg_nil, wg_cons, optQ_some, optQ_if, optQ_map, optQ_bind, tst_bl, tst_non, tst_int, b_add, b_sub, b_mul, b_fdiv, b_mod, b_pow, c_lt, c_le, c_gt, c_ge, c_eqI, c_neI, c_isI, c_notI, c_isN, c_notN, i_ii, i_ib, n_i, d_i, l_min, l_max, x_ref, x_new, x_tup, s_new, s_tup, y_new, at_0, at_1, at_2, mat_int, mat_bl, mat_str, mat_non, mat_ref, mats_nil, mats_cons, mat_tup, Option.isSome_some, List.getElem?_cons_zero, List.getElem?_cons_succ, List.set_cons_zero, List.set_cons_succ, decide_eq_true_eq, decide_eq_false_iff_not, wp_ok, st_ite, st_set, st_expr, st_ret, st_retN, st_pass, st_cont, st_unp, st_par, st_sub, st_for, st_wh, sq_nx, sq_rt, sq_ct, sq_bk, ss_nil, ss_cons, rq_f, rq_n, we_dct, we_revs, we_comp2, we_dcomp, io_str, io_tup, io_new, tst_b, tst_str, tst_tup, len_tup, len_new, all_new, any_new, lis_tup, tup_new, c_eqS, c_neS, c_eqB, c_neB, c_isT, c_notT, c_isS, c_notS, at_3, at_4, at_m1, x_str0, i_non, i_bl, i_str, i_tup, le1, le2, le3, le4, le5, decide_true, decide_false, true_implies, false_implies, reduceCtorEq, and_true, true_and, Bool.not_true, Bool.not_false, putA, List.length_nil, List.length_cons, List.set_set, reduceIte, Nat.reduceEqDiff, Nat.zero_ne_one, Nat.one_ne_zero, ne_eq, not_true_eq_false, not_false_eq_true, List.append_assoc, List.cons_append, List.nil_append, List.lookup_cons, List.lookup_nil, Nat.reduceBEq, beq_self_eq_true, Bool.and_true, Bool.true_and, Bool.false_and, Bool.and_false]
    refine ret_p0 (okE_data (toR_ok ?_)) ⟨rfl, rfl⟩
    have := (acc rs.length hl).1
    rwa [List.take_length] at this
end
end Nv
/-! Nv: small books, kinds, faults as the laws draw them. -/
namespace Nv
open PySem PySem.Spec PyProof.Rows L2
theorem bag_low {k : Int} {o : O} {n : Nat} (h : BagOk k o) : lowO n o = true := by
  obtain ⟨x, y, z, rfl, _⟩ := h
  rfl
theorem truncOk_app (n : Nat) : ∀ (A B : Store), truncOk n A (A ++ B) = true
  | [], _ => rfl
  | a :: r, B => by show ((sameO a a || lowO n a) && truncOk n r (r ++ B)) = true; rw [sameO_refl, truncOk_app n r B]; rfl
theorem truncOk_set (n : Nat) {o : O} (ho : lowO n o = true) : ∀ (A B : Store) (b : Nat), truncOk n A (A.set b o ++ B) = true
  | [], _, _ => rfl
  | a :: r, B, 0 => by show ((sameO a o || lowO n o) && truncOk n r (r ++ B)) = true; rw [ho, truncOk_app n r B, Bool.or_true]; rfl
  | a :: r, B, b + 1 => by show ((sameO a a || lowO n a) && truncOk n r (r.set b o ++ B)) = true; rw [sameO_refl, truncOk_set n ho r B b]; rfl
theorem trunc_set {S N : Store} {b : Nat} {o : O} (ho : lowO S.length o = true) : trunc S (S.set b o ++ N) = some (S.set b o) := by
  unfold trunc
  rw [if_pos (truncOk_set _ ho _ _ _)]
  have : S.length = (S.set b o).length := by simp
  rw [this, List.take_left]
theorem Ex1.tset {S T : Store} {b : Nat} {o : O} (h : Ex1 (S.set b o) T) (ho : lowO S.length o = true) : Nv.trunc S T = some (S.set b o) := by
  obtain ⟨N, rfl⟩ := h
  exact Nv.trunc_set ho
theorem Ex1.setl {S T : Store} {b : Nat} {o o' : O} (h : Ex1 (S.set b o) T) (hb : b < S.length) : Ex1 (S.set b o') (T.set b o') := by
  obtain ⟨N, rfl⟩ := h
  exact ⟨N, by rw [List.set_append_left _ _ (by simpa using hb), List.set_set]⟩
theorem Ex1.len_set {S T : Store} {b : Nat} {o : O} (h : Ex1 (S.set b o) T) : S.length ≤ T.length := by
  have := h.len
  simpa using this
/-- the books that a tree can be -/
def tNames : List Str := ["disk", "late", "net", "zip"]
def treesN : Nat → List Bk
  | 0 => [[]]
  | n + 1 => (treesN n).flatMap fun t => ((("fault" : Str) :: tNames.take n).map fun p => t ++ [(tNames.getD n "", p)])
def trees : List Bk := treesN 0 ++ treesN 1 ++ treesN 2 ++ treesN 3 ++ treesN 4
theorem trees_book : ∀ rows ∈ trees, bookB rows = true := by decide +kernel
theorem trees_wee : ∀ rows ∈ trees, weeB rows := by
  unfold weeB wee
  decide +kernel
section
variable {P : Prog}
theorem add_nn {xs ys : List D} {S : Store} (h : xs.length + ys.length ≤ 100000) : binD .add (.new (.lst xs)) (.new (.lst ys)) S = some (.new (.lst (xs ++ ys))) := by
  show (if xs.length + ys.length ≤ sizeLine then some (D.new (.lst (xs ++ ys))) else none) = _
  rw [if_pos (len_ok h)]
theorem at_map {α : Type} {xs : List α} {e : α → D} {r : Int} (h0 : 0 ≤ r) (h1 : r < xs.length) : ∃ x, x ∈ xs ∧ L2.atI (xs.map e) r = some (e x) := by
  have hlt : r.toNat < xs.length := by omega
  exact ⟨xs[r.toNat], List.getElem_mem _, at_nat h0 (by rw [List.getElem?_map, List.getElem?_eq_getElem hlt]; rfl)⟩
theorem sl_pre {n : Nat} {xs : List D} {j : Nat} {S : Store} (h : S[n]? = some (.lst xs)) (hj : j ≤ xs.length) : slcD (.ref n) none (some (j : Int)) S = some (.new (.lst (xs.take j))) := by
  show (seqOf (.ref n) S).map (fun xs => D.new (.lst (cutD xs none (some (j : Int))))) = _
  rw [s_lst h]
  show some (D.new (.lst (cutD xs none (some (j : Int))))) = _
  unfold cutD
  rw [HT.sIx_none, HT.sIx_nat, List.drop_zero, Nat.sub_zero, Nat.min_eq_left hj]
theorem tree_ok {i it d : Nat} (hf : P.fns[i]? = some (F_law_tree it)) (ht : P.fns[it]? = some F_law_take) {S : Store} {b : Nat} {o : O} {k : Int} (h : S[b]? = some o) (ho : BagOk k o) (hk : k < 2 ^ 61) {Q : D → Store → Prop} (hQ : ∀ rows o', rows ∈ trees → BagOk (k + 10) o' → Q (toB rows) (S.set b o')) : wp ((sm P (d + 2)).call i [.ref b] S) Q := by
  refine wp_call hf rfl (Nat.le_of_ble_eq_true rfl) ?_
  have hb : b < S.length := (List.getElem?_eq_some_iff.mp h).1
  simp only [F_law_tree, B_law_tree, List.map_cons, List.map_nil, List.replicate, List.cons_append, List.nil_append, we_var, we_non, we_bl, we_int, we_str, ws_nil, ws_cons, we_tup, we_lst, we_bin, we_neg, we_cmp, we_chain, we_and1, we_or1, we_and, we_or, we_not, we_ite, we_idx, wo_none, wo_some, we_slc, we_attr, we_call, we_meth, we_make, we_makek, wmake, we_blt, we_bm, we_isi, we_comp, wf_nil, wf_one, wt_tru, wi_of, wi_zip, wi_range, wi_enum, wg_name, wg_tup, wg_wtp, wg_nil, wg_cons, optQ_some, optQ_if, optQ_map, optQ_bind, tst_bl, tst_non, tst_int, b_add, b_sub, b_mul, b_fdiv, b_mod, b_pow, c_lt, c_le, c_gt, c_ge, c_eqI, c_neI, c_isI, c_notI, c_isN, c_notN, i_ii, i_ib, n_i, d_i, l_min, l_max, x_ref, x_new, x_tup, s_new, s_tup, y_new, at_0, at_1, at_2, mat_int, mat_bl, mat_str, mat_non, mat_ref, mats_nil, mats_cons, mat_tup, Option.isSome_some, List.getElem?_cons_zero, List.getElem?_cons_succ, List.set_cons_zero, List.set_cons_succ, decide_eq_true_eq, decide_eq_false_iff_not, wp_ok, st_ite, st_set, st_expr, st_ret, st_retN, st_pass, st_cont, st_unp, st_par, st_sub, st_for, st_wh, sq_nx, sq_rt, sq_ct, sq_bk, ss_nil, ss_cons, rq_f, rq_n, we_dct, we_revs, we_comp2, we_dcomp, io_str, io_tup, io_new, tst_b, tst_str, tst_tup, len_tup, len_new, all_new, any_new, lis_tup, tup_new, c_eqS, c_neS, c_eqB, c_neB, c_isT, c_notT, c_isS, c_notS, at_3, at_4, at_m1, x_str0, i_non, i_bl, i_str, i_tup, le1, le2, le3, le4, le5, decide_true, decide_false, true_implies, false_implies, reduceCtorEq, and_true, true_and, Bool.not_true, Bool.not_false, putA, List.length_nil, List.length_cons, List.set_set, reduceIte, Nat.reduceEqDiff, Nat.zero_ne_one, Nat.one_ne_zero, ne_eq, not_true_eq_false, not_false_eq_true, List.append_assoc, List.cons_append, List.nil_append, List.lookup_cons, List.lookup_nil, Nat.reduceBEq, beq_self_eq_true, Bool.and_true, Bool.true_and, Bool.false_and, Bool.and_false]
  refine ⟨Nat.le_of_ble_eq_true rfl, ?_⟩
  refine take_ok ht h ho (by omega) (by decide) (by decide) fun r o1 r0 r1 ho1 => ?_
  have hr : ∃ n : Nat, r = n ∧ n ≤ 4 := ⟨r.toNat, by omega, by omega⟩
  obtain ⟨n, rfl, hn⟩ := hr
  have cut : cutD [D.str "disk", .str "late", .str "net", .str "zip"] none (some (n : Int)) = (tNames.take n).map .str := by
    have : n = 0 ∨ n = 1 ∨ n = 2 ∨ n = 3 ∨ n = 4 := by omega
    rcases this with rfl | rfl | rfl | rfl | rfl <;> rfl
  have sl : ∀ T, slcD (.new (.lst [D.str "disk", .str "late", .str "net", .str "zip"])) none (some (n : Int)) T = some (.new (.lst ((tNames.take n).map .str))) := fun T => by
    show some (D.new (.lst (cutD [D.str "disk", .str "late", .str "net", .str "zip"] none (some (n : Int))))) = _
    rw [cut]
  have m1 : ∀ T, mat (.new (.lst ((tNames.take n).map .str))) T = (.ref T.length, T ++ [.lst ((tNames.take n).map .str)]) := fun T => mat_lstd (strs_data _)
  have m2 : ∀ T, mat (.new (.lst [])) T = (.ref T.length, T ++ [.lst []]) := fun T => mat_lstd rfl
  simp only [sl, m1, m2, List.length_set, we_var, we_non, we_bl, we_int, we_str, ws_nil, ws_cons, we_tup, we_lst, we_bin, we_neg, we_cmp, we_chain, we_and1, we_or1, we_and, we_or, we_not, we_ite, we_idx, wo_none, wo_some, we_slc, we_attr, we_call, we_meth, we_make, we_makek, wmake, we_blt, we_bm, we_isi, we_comp, wf_nil, wf_one, wt_tru, wi_of, wi_zip, wi_range, wi_enum, wg_name, wg_tup, wg_wtp, wg_nil, wg_cons, optQ_some, optQ_if, optQ_map, optQ_bind, tst_bl, tst_non, tst_int, b_add, b_sub, b_mul, b_fdiv, b_mod, b_pow, c_lt, c_le, c_gt, c_ge, c_eqI, c_neI, c_isI, c_notI, c_isN, c_notN, i_ii, i_ib, n_i, d_i, l_min, l_max, x_ref, x_new, x_tup, s_new, s_tup, y_new, at_0, at_1, at_2, mat_int, mat_bl, mat_str, mat_non, mat_ref, mats_nil, mats_cons, mat_tup, Option.isSome_some, List.getElem?_cons_zero, List.getElem?_cons_succ, List.set_cons_zero, List.set_cons_succ, decide_eq_true_eq, decide_eq_false_iff_not, wp_ok, st_ite, st_set, st_expr, st_ret, st_retN, st_pass, st_cont, st_unp, st_par, st_sub, st_for, st_wh, sq_nx, sq_rt, sq_ct, sq_bk, ss_nil, ss_cons, rq_f, rq_n, we_dct, we_revs, we_comp2, we_dcomp, io_str, io_tup, io_new, tst_b, tst_str, tst_tup, len_tup, len_new, all_new, any_new, lis_tup, tup_new, c_eqS, c_neS, c_eqB, c_neB, c_isT, c_notT, c_isS, c_notS, at_3, at_4, at_m1, x_str0, i_non, i_bl, i_str, i_tup, le1, le2, le3, le4, le5, decide_true, decide_false, true_implies, false_implies, reduceCtorEq, and_true, true_and, Bool.not_true, Bool.not_false, putA, List.length_nil, List.length_cons, List.set_set, reduceIte, Nat.reduceEqDiff, Nat.zero_ne_one, Nat.one_ne_zero, ne_eq, not_true_eq_false, not_false_eq_true, List.append_assoc, List.cons_append, List.nil_append, List.lookup_cons, List.lookup_nil, Nat.reduceBEq, beq_self_eq_true, Bool.and_true, Bool.true_and, Bool.false_and, Bool.and_false]
  have hT : ∀ oj (t : Bk), (S.set b oj ++ [O.lst ((tNames.take n).map .str), O.lst (t.map rowD)])[S.length]? = some (.lst ((tNames.take n).map .str)) := fun oj t => by
    have := at_e0 (S := S.set b oj) (a := O.lst ((tNames.take n).map .str)) (r := [O.lst (t.map rowD)])
    rwa [List.length_set] at this
  have hU : ∀ oj (t : Bk), (S.set b oj ++ [O.lst ((tNames.take n).map .str), O.lst (t.map rowD)])[S.length + 1]? = some (.lst (t.map rowD)) := fun oj t => by
    have := at_e1 (S := S.set b oj) (a := O.lst ((tNames.take n).map .str)) (b := O.lst (t.map rowD)) (r := [])
    rwa [List.length_set] at this
  have hB : ∀ oj (t : Bk), (S.set b oj ++ [O.lst ((tNames.take n).map .str), O.lst (t.map rowD)])[b]? = some oj := fun oj t => by
    rw [List.getElem?_append_left (by simpa using hb), List.getElem?_set_self hb]
  have y0 : lisOf (.ref S.length) (S.set b o1 ++ [O.lst ((tNames.take n).map .str), O.lst []]) = some ((tNames.take n).map .str) := y_ref (hT o1 [])
  rw [y0, optQ_some, show (S.set b o1 ++ [O.lst ((tNames.take n).map .str)]).length = S.length + 1 by simp]
  have tl : (tNames.take n).length = n := by
    rw [List.length_take]; exact Nat.min_eq_left hn
  refine ⟨Nat.zero_le _, wp_forF (fun j ρ T => ∃ t oj x y, t ∈ treesN j ∧ BagOk (k + 1 + j) oj ∧ T = S.set b oj ++ [.lst ((tNames.take n).map .str), .lst (t.map rowD)] ∧ ρ = [some (.ref b), some (.ref S.length), some (.ref (S.length + 1)), x, y]) ⟨[], o1, none, none, List.mem_singleton.mpr rfl, by simpa using ho1, rfl, rfl⟩ ?_ ?_ ?_⟩
  · rintro j ρ T ⟨t, oj, x, y, h1, h2, rfl, rfl⟩
    exact gu_ref (hT oj t)
  · rintro j e ρ T he ⟨t, oj, x, y, h1, h2, rfl, rfl⟩
    rw [enumD_at, Nat.zero_add, List.getElem?_map] at he
    cases hx : (tNames.take n)[j]? with
    | none => rw [hx] at he; cases he
    | some z =>
      rw [hx] at he
      cases he
      have lj : j < n := by have := (List.getElem?_eq_some_iff.mp hx).1; omega
      have ez : tNames.getD j "" = z := by
        rw [List.getElem?_take_of_lt lj] at hx
        rw [List.getD_eq_getElem?_getD, hx]; rfl
      have s1 := sl_pre (j := j) (hT oj t) (by rw [List.length_map, tl]; omega)
      have tk : ((tNames.take n).map D.str).take j = (tNames.take j).map .str := by
        rw [← List.map_take, List.take_take, Nat.min_eq_left (by omega)]
      have tj : (tNames.take j).length = j := by
        rw [List.length_take]; exact Nat.min_eq_left (by have : tNames.length = 4 := rfl; omega)
      have a1 : ∀ T, binD .add (.new (.lst [.str "fault"])) (.new (.lst (((tNames.take n).map D.str).take j))) T = some (.new (.lst ((("fault" : Str) :: tNames.take j).map .str))) := fun T => by
        rw [tk, add_nn (by simp; omega)]; rfl
      simp only [s1, a1, bt_app (hU oj t), we_var, we_non, we_bl, we_int, we_str, ws_nil, ws_cons, we_tup, we_lst, we_bin, we_neg, we_cmp, we_chain, we_and1, we_or1, we_and, we_or, we_not, we_ite, we_idx, wo_none, wo_some, we_slc, we_attr, we_call, we_meth, we_make, we_makek, wmake, we_blt, we_bm, we_isi, we_comp, wf_nil, wf_one, wt_tru, wi_of, wi_zip, wi_range, wi_enum, wg_name, wg_tup, wg_wtp, wg_nil, wg_cons, optQ_some, optQ_if, optQ_map, optQ_bind, tst_bl, tst_non, tst_int, b_add, b_sub, b_mul, b_fdiv, b_mod, b_pow, c_lt, c_le, c_gt, c_ge, c_eqI, c_neI, c_isI, c_notI, c_isN, c_notN, i_ii, i_ib, n_i, d_i, l_min, l_max, x_ref, x_new, x_tup, s_new, s_tup, y_new, at_0, at_1, at_2, mat_int, mat_bl, mat_str, mat_non, mat_ref, mats_nil, mats_cons, mat_tup, Option.isSome_some, List.getElem?_cons_zero, List.getElem?_cons_succ, List.set_cons_zero, List.set_cons_succ, decide_eq_true_eq, decide_eq_false_iff_not, wp_ok, st_ite, st_set, st_expr, st_ret, st_retN, st_pass, st_cont, st_unp, st_par, st_sub, st_for, st_wh, sq_nx, sq_rt, sq_ct, sq_bk, ss_nil, ss_cons, rq_f, rq_n, we_dct, we_revs, we_comp2, we_dcomp, io_str, io_tup, io_new, tst_b, tst_str, tst_tup, len_tup, len_new, all_new, any_new, lis_tup, tup_new, c_eqS, c_neS, c_eqB, c_neB, c_isT, c_notT, c_isS, c_notS, at_3, at_4, at_m1, x_str0, i_non, i_bl, i_str, i_tup, le1, le2, le3, le4, le5, decide_true, decide_false, true_implies, false_implies, reduceCtorEq, and_true, true_and, Bool.not_true, Bool.not_false, putA, List.length_nil, List.length_cons, List.set_set, reduceIte, Nat.reduceEqDiff, Nat.zero_ne_one, Nat.one_ne_zero, ne_eq, not_true_eq_false, not_false_eq_true, List.append_assoc, List.cons_append, List.nil_append, List.lookup_cons, List.lookup_nil, Nat.reduceBEq, beq_self_eq_true, Bool.and_true, Bool.true_and, Bool.false_and, Bool.and_false]
      refine ⟨Nat.le_of_ble_eq_true rfl, ?_⟩
      refine take_ok ht (hB oj t) h2 (by omega) (by omega) (by omega) fun r o2 q0 q1 ho2 => ?_
      obtain ⟨p, hp, ep⟩ := at_map (xs := ("fault" : Str) :: tNames.take j) (e := D.str) q0 (by simp [tj]; omega)
      have es : (S.set b oj ++ [O.lst ((tNames.take n).map .str), O.lst (t.map rowD)]).set b o2 = S.set b o2 ++ [O.lst ((tNames.take n).map .str), O.lst (t.map rowD)] := by
        rw [List.set_append_left _ _ (by simpa using hb), List.set_set]
      rw [List.map_cons] at ep
      rw [es]
      simp only [List.map_cons, ep, we_var, we_non, we_bl, we_int, we_str, ws_nil, ws_cons, we_tup, we_lst, we_bin, we_neg, we_cmp, we_chain, we_and1, we_or1, we_and, we_or, we_not, we_ite, we_idx, wo_none, wo_some, we_slc, we_attr, we_call, we_meth, we_make, we_makek, wmake, we_blt, we_bm, we_isi, we_comp, wf_nil, wf_one, wt_tru, wi_of, wi_zip, wi_range, wi_enum, wg_name, wg_tup, wg_wtp, wg_nil, wg_cons, optQ_some, optQ_if, optQ_map, optQ_bind, tst_bl, tst_non, tst_int, b_add, b_sub, b_mul, b_fdiv, b_mod, b_pow, c_lt, c_le, c_gt, c_ge, c_eqI, c_neI, c_isI, c_notI, c_isN, c_notN, i_ii, i_ib, n_i, d_i, l_min, l_max, x_ref, x_new, x_tup, s_new, s_tup, y_new, at_0, at_1, at_2, mat_int, mat_bl, mat_str, mat_non, mat_ref, mats_nil, mats_cons, mat_tup, Option.isSome_some, List.getElem?_cons_zero, List.getElem?_cons_succ, List.set_cons_zero, List.set_cons_succ, decide_eq_true_eq, decide_eq_false_iff_not, wp_ok, st_ite, st_set, st_expr, st_ret, st_retN, st_pass, st_cont, st_unp, st_par, st_sub, st_for, st_wh, sq_nx, sq_rt, sq_ct, sq_bk, ss_nil, ss_cons, rq_f, rq_n, we_dct, we_revs, we_comp2, we_dcomp, io_str, io_tup, io_new, tst_b, tst_str, tst_tup, len_tup, len_new, all_new, any_new, lis_tup, tup_new, c_eqS, c_neS, c_eqB, c_neB, c_isT, c_notT, c_isS, c_notS, at_3, at_4, at_m1, x_str0, i_non, i_bl, i_str, i_tup, le1, le2, le3, le4, le5, decide_true, decide_false, true_implies, false_implies, reduceCtorEq, and_true, true_and, Bool.not_true, Bool.not_false, putA, List.length_nil, List.length_cons, List.set_set, reduceIte, Nat.reduceEqDiff, Nat.zero_ne_one, Nat.one_ne_zero, ne_eq, not_true_eq_false, not_false_eq_true, List.append_assoc, List.cons_append, List.nil_append, List.lookup_cons, List.lookup_nil, Nat.reduceBEq, beq_self_eq_true, Bool.and_true, Bool.true_and, Bool.false_and, Bool.and_false]
      rw [bm_app (hU o2 t) rfl (by
        have : (100000 : Nat) ≤ sizeLine := by decide
        have : ∀ j (t : Bk), t ∈ treesN j → t.length = j := fun j => by
          induction j with
          | zero => intro t h; rw [List.mem_singleton.mp h]; rfl
          | succ j ih =>
            intro t h
            obtain ⟨u, hu, hv⟩ := List.mem_flatMap.mp h
            obtain ⟨p, _, rfl⟩ := List.mem_map.mp hv
            rw [List.length_append, ih u hu]; rfl
        rw [List.length_map, this j t h1]; omega)]
      refine ⟨len_ok (by decide), wp_turn0 ⟨t ++ [(z, p)], o2, _, _, ?_, ho2.mono (by omega), ?_, rfl⟩⟩
      · refine List.mem_flatMap.mpr ⟨t, h1, List.mem_map.mpr ⟨p, hp, by rw [ez]⟩⟩
      · have := set_e1 (S := S.set b o2) (a := O.lst ((tNames.take n).map .str)) (b := O.lst (t.map rowD)) (r := []) (c := .lst (t.map rowD ++ [.tup [.str z, .str p]]))
        rw [List.length_set] at this
        rw [this, List.map_append]; rfl
  · rintro ρ T ⟨t, oj, x, y, h1, h2, rfl, rfl⟩
    rw [enumD_len, List.length_map, tl] at h1 h2
    simp only [tup_ref (hU oj t), we_var, we_non, we_bl, we_int, we_str, ws_nil, ws_cons, we_tup, we_lst, we_bin, we_neg, we_cmp, we_chain, we_and1, we_or1, we_and, we_or, we_not, we_ite, we_idx, wo_none, wo_some, we_slc, we_attr, we_call, we_meth, we_make, we_makek, wmake, we_blt, we_bm, we_isi, we_comp, wf_nil, wf_one, wt_tru, wi_of, wi_zip, wi_range, wi_enum, wg_name, wg_tup, wg_wtp, wg_nil, wg_cons, optQ_some, optQ_if, optQ_map, optQ_bind, tst_bl, tst_non, tst_int, b_add, b_sub, b_mul, b_fdiv, b_mod, b_pow, c_lt, c_le, c_gt, c_ge, c_eqI, c_neI, c_isI, c_notI, c_isN, c_notN, i_ii, i_ib, n_i, d_i, l_min, l_max, x_ref, x_new, x_tup, s_new, s_tup, y_new, at_0, at_1, at_2, mat_int, mat_bl, mat_str, mat_non, mat_ref, mats_nil, mats_cons, mat_tup, Option.isSome_some, List.getElem?_cons_zero, List.getElem?_cons_succ, List.set_cons_zero, List.set_cons_succ, decide_eq_true_eq, decide_eq_false_iff_not, wp_ok, st_ite, st_set, st_expr, st_ret, st_retN, st_pass, st_cont, st_unp, st_par, st_sub, st_for, st_wh, sq_nx, sq_rt, sq_ct, sq_bk, ss_nil, ss_cons, rq_f, rq_n, we_dct, we_revs, we_comp2, we_dcomp, io_str, io_tup, io_new, tst_b, tst_str, tst_tup, len_tup, len_new, all_new, any_new, lis_tup, tup_new, c_eqS, c_neS, c_eqB, c_neB, c_isT, c_notT, c_isS, c_notS, at_3, at_4, at_m1, x_str0, i_non, i_bl, i_str, i_tup, le1, le2, le3, le4, le5, decide_true, decide_false, true_implies, false_implies, reduceCtorEq, and_true, true_and, Bool.not_true, Bool.not_false, putA, List.length_nil, List.length_cons, List.set_set, reduceIte, Nat.reduceEqDiff, Nat.zero_ne_one, Nat.one_ne_zero, ne_eq, not_true_eq_false, not_false_eq_true, List.append_assoc, List.cons_append, List.nil_append, List.lookup_cons, List.lookup_nil, Nat.reduceBEq, beq_self_eq_true, Bool.and_true, Bool.true_and, Bool.false_and, Bool.and_false]
    refine ret_d (rows_data t) (trunc_set (bag_low h2)) (hQ t oj ?_ (h2.mono (by omega)))
    have : n = 0 ∨ n = 1 ∨ n = 2 ∨ n = 3 ∨ n = 4 := by omega
    unfold trees
    rcases this with rfl | rfl | rfl | rfl | rfl <;> simp only [List.mem_append, h1, true_or, or_true]
theorem a_kind_ok {i it d : Nat} (hf : P.fns[i]? = some (F_law_a_kind it)) (ht : P.fns[it]? = some F_law_take) {rows : Bk} (hl : rows.length ≤ 100) {S : Store} {b : Nat} {o : O} {k : Int} (h : S[b]? = some o) (ho : BagOk k o) (hk : k < 2 ^ 61) {Q : D → Store → Prop} (hQ : ∀ z o', z ∈ rows.map (·.1) ++ [("fault" : Str)] → BagOk (k + 1) o' → Q (.str z) (S.set b o')) : wp ((sm P (d + 2)).call i [.ref b, toB rows] S) Q := by
  refine wp_call hf rfl (Nat.le_of_ble_eq_true rfl) ?_
  have hb : b < S.length := (List.getElem?_eq_some_iff.mp h).1
  simp only [F_law_a_kind, B_law_a_kind, List.map_cons, List.map_nil, List.replicate, List.cons_append, List.nil_append, tB_it, tB_gu, wipeD, we_var, we_non, we_bl, we_int, we_str, ws_nil, ws_cons, we_tup, we_lst, we_bin, we_neg, we_cmp, we_chain, we_and1, we_or1, we_and, we_or, we_not, we_ite, we_idx, wo_none, wo_some, we_slc, we_attr, we_call, we_meth, we_make, we_makek, wmake, we_blt, we_bm, we_isi, we_comp, wf_nil, wf_one, wt_tru, wi_of, wi_zip, wi_range, wi_enum, wg_name, wg_tup, wg_wtp, wg_nil, wg_cons, optQ_some, optQ_if, optQ_map, optQ_bind, tst_bl, tst_non, tst_int, b_add, b_sub, b_mul, b_fdiv, b_mod, b_pow, c_lt, c_le, c_gt, c_ge, c_eqI, c_neI, c_isI, c_notI, c_isN, c_notN, i_ii, i_ib, n_i, d_i, l_min, l_max, x_ref, x_new, x_tup, s_new, s_tup, y_new, at_0, at_1, at_2, mat_int, mat_bl, mat_str, mat_non, mat_ref, mats_nil, mats_cons, mat_tup, Option.isSome_some, List.getElem?_cons_zero, List.getElem?_cons_succ, List.set_cons_zero, List.set_cons_succ, decide_eq_true_eq, decide_eq_false_iff_not, wp_ok, st_ite, st_set, st_expr, st_ret, st_retN, st_pass, st_cont, st_unp, st_par, st_sub, st_for, st_wh, sq_nx, sq_rt, sq_ct, sq_bk, ss_nil, ss_cons, rq_f, rq_n, we_dct, we_revs, we_comp2, we_dcomp, io_str, io_tup, io_new, tst_b, tst_str, tst_tup, len_tup, len_new, all_new, any_new, lis_tup, tup_new, c_eqS, c_neS, c_eqB, c_neB, c_isT, c_notT, c_isS, c_notS, at_3, at_4, at_m1, x_str0, i_non, i_bl, i_str, i_tup, le1, le2, le3, le4, le5, decide_true, decide_false, true_implies, false_implies, reduceCtorEq, and_true, true_and, Bool.not_true, Bool.not_false, putA, List.length_nil, List.length_cons, List.set_set, reduceIte, Nat.reduceEqDiff, Nat.zero_ne_one, Nat.one_ne_zero, ne_eq, not_true_eq_false, not_false_eq_true, List.append_assoc, List.cons_append, List.nil_append, List.lookup_cons, List.lookup_nil, Nat.reduceBEq, beq_self_eq_true, Bool.and_true, Bool.true_and, Bool.false_and, Bool.and_false]
  refine comp_maps rowD (fun r => .str r.1) gu_nil (fun r _ => ?_) ?_
  · simp only [row_mat, row_x0, we_var, we_non, we_bl, we_int, we_str, ws_nil, ws_cons, we_tup, we_lst, we_bin, we_neg, we_cmp, we_chain, we_and1, we_or1, we_and, we_or, we_not, we_ite, we_idx, wo_none, wo_some, we_slc, we_attr, we_call, we_meth, we_make, we_makek, wmake, we_blt, we_bm, we_isi, we_comp, wf_nil, wf_one, wt_tru, wi_of, wi_zip, wi_range, wi_enum, wg_name, wg_tup, wg_wtp, wg_nil, wg_cons, optQ_some, optQ_if, optQ_map, optQ_bind, tst_bl, tst_non, tst_int, b_add, b_sub, b_mul, b_fdiv, b_mod, b_pow, c_lt, c_le, c_gt, c_ge, c_eqI, c_neI, c_isI, c_notI, c_isN, c_notN, i_ii, i_ib, n_i, d_i, l_min, l_max, x_ref, x_new, x_tup, s_new, s_tup, y_new, at_0, at_1, at_2, mat_int, mat_bl, mat_str, mat_non, mat_ref, mats_nil, mats_cons, mat_tup, Option.isSome_some, List.getElem?_cons_zero, List.getElem?_cons_succ, List.set_cons_zero, List.set_cons_succ, decide_eq_true_eq, decide_eq_false_iff_not, wp_ok, st_ite, st_set, st_expr, st_ret, st_retN, st_pass, st_cont, st_unp, st_par, st_sub, st_for, st_wh, sq_nx, sq_rt, sq_ct, sq_bk, ss_nil, ss_cons, rq_f, rq_n, we_dct, we_revs, we_comp2, we_dcomp, io_str, io_tup, io_new, tst_b, tst_str, tst_tup, len_tup, len_new, all_new, any_new, lis_tup, tup_new, c_eqS, c_neS, c_eqB, c_neB, c_isT, c_notT, c_isS, c_notS, at_3, at_4, at_m1, x_str0, i_non, i_bl, i_str, i_tup, le1, le2, le3, le4, le5, decide_true, decide_false, true_implies, false_implies, reduceCtorEq, and_true, true_and, Bool.not_true, Bool.not_false, putA, List.length_nil, List.length_cons, List.set_set, reduceIte, Nat.reduceEqDiff, Nat.zero_ne_one, Nat.one_ne_zero, ne_eq, not_true_eq_false, not_false_eq_true, List.append_assoc, List.cons_append, List.nil_append, List.lookup_cons, List.lookup_nil, Nat.reduceBEq, beq_self_eq_true, Bool.and_true, Bool.true_and, Bool.false_and, Bool.and_false]
  have e0 : rows.map (fun r => D.str r.1) = (rows.map (·.1)).map .str := by rw [List.map_map]; rfl
  have a1 : binD .add (.new (.lst (rows.map fun r => D.str r.1))) (.new (.lst [.str "fault"])) S = some (.new (.lst ((rows.map (·.1) ++ [("fault" : Str)]).map .str))) := by
    rw [add_nn (by simp; omega), e0, List.map_append]; rfl
  have m1 : ∀ T, mat (.new (.lst ((rows.map (·.1) ++ [("fault" : Str)]).map .str))) T = (.ref T.length, T ++ [.lst ((rows.map (·.1) ++ [("fault" : Str)]).map .str)]) := fun T => mat_lstd (strs_data _)
  have l1 : bltD .len [.ref S.length] (S ++ [.lst ((rows.map (·.1) ++ [("fault" : Str)]).map .str)]) = some (.int ((rows.length + 1 : Nat) : Int)) := by
    rw [len_ref at_e0]; simp
  simp only [a1, m1, l1, we_var, we_non, we_bl, we_int, we_str, ws_nil, ws_cons, we_tup, we_lst, we_bin, we_neg, we_cmp, we_chain, we_and1, we_or1, we_and, we_or, we_not, we_ite, we_idx, wo_none, wo_some, we_slc, we_attr, we_call, we_meth, we_make, we_makek, wmake, we_blt, we_bm, we_isi, we_comp, wf_nil, wf_one, wt_tru, wi_of, wi_zip, wi_range, wi_enum, wg_name, wg_tup, wg_wtp, wg_nil, wg_cons, optQ_some, optQ_if, optQ_map, optQ_bind, tst_bl, tst_non, tst_int, b_add, b_sub, b_mul, b_fdiv, b_mod, b_pow, c_lt, c_le, c_gt, c_ge, c_eqI, c_neI, c_isI, c_notI, c_isN, c_notN, i_ii, i_ib, n_i, d_i, l_min, l_max, x_ref, x_new, x_tup, s_new, s_tup, y_new, at_0, at_1, at_2, mat_int, mat_bl, mat_str, mat_non, mat_ref, mats_nil, mats_cons, mat_tup, Option.isSome_some, List.getElem?_cons_zero, List.getElem?_cons_succ, List.set_cons_zero, List.set_cons_succ, decide_eq_true_eq, decide_eq_false_iff_not, wp_ok, st_ite, st_set, st_expr, st_ret, st_retN, st_pass, st_cont, st_unp, st_par, st_sub, st_for, st_wh, sq_nx, sq_rt, sq_ct, sq_bk, ss_nil, ss_cons, rq_f, rq_n, we_dct, we_revs, we_comp2, we_dcomp, io_str, io_tup, io_new, tst_b, tst_str, tst_tup, len_tup, len_new, all_new, any_new, lis_tup, tup_new, c_eqS, c_neS, c_eqB, c_neB, c_isT, c_notT, c_isS, c_notS, at_3, at_4, at_m1, x_str0, i_non, i_bl, i_str, i_tup, le1, le2, le3, le4, le5, decide_true, decide_false, true_implies, false_implies, reduceCtorEq, and_true, true_and, Bool.not_true, Bool.not_false, putA, List.length_nil, List.length_cons, List.set_set, reduceIte, Nat.reduceEqDiff, Nat.zero_ne_one, Nat.one_ne_zero, ne_eq, not_true_eq_false, not_false_eq_true, List.append_assoc, List.cons_append, List.nil_append, List.lookup_cons, List.lookup_nil, Nat.reduceBEq, beq_self_eq_true, Bool.and_true, Bool.true_and, Bool.false_and, Bool.and_false]
  refine ⟨len_ok (by simp; omega), len_ok (by decide), ?_⟩
  refine take_ok ht (by rw [List.getElem?_append_left hb]; exact h) ho (by omega) (by omega) (by omega) fun r o1 r0 r1 ho1 => ?_
  obtain ⟨z, hz, ez⟩ := at_map (xs := rows.map (·.1) ++ [("fault" : Str)]) (e := D.str) r0 (by simp; omega)
  have es : (S ++ [O.lst ((rows.map (·.1) ++ [("fault" : Str)]).map .str)]).set b o1 = S.set b o1 ++ [O.lst ((rows.map (·.1) ++ [("fault" : Str)]).map .str)] := List.set_append_left _ _ hb
  have at0 : (S.set b o1 ++ [O.lst ((rows.map (·.1) ++ [("fault" : Str)]).map .str)])[S.length]? = some (.lst ((rows.map (·.1) ++ [("fault" : Str)]).map .str)) := by
    have := at_e0 (S := S.set b o1) (a := O.lst ((rows.map (·.1) ++ [("fault" : Str)]).map .str)) (r := [])
    rwa [List.length_set] at this
  rw [es, x_ref (by rw [s_lst at0]; rfl), s_lst at0]
  show optQ (L2.atI _ r) _
  rw [ez, optQ_some]
  exact ret_d rfl (trunc_set (bag_low ho1)) (hQ z o1 hz ho1)
end
end Nv
/-! Nv: small faults as the laws draw them. -/
namespace Nv
open PySem PySem.Spec PyProof.Rows L2
/-- the numbers behind cnt -/
def seqI (cnt : Int) : Nat → List Int
  | 0 => []
  | m + 1 => (cnt + 1) :: seqI (cnt + 1) m
theorem seqI_app : ∀ (a b : Nat) (cnt : Int), seqI cnt a ++ seqI (cnt + a) b = seqI cnt (a + b)
  | 0, b, cnt => by rw [Nat.zero_add]; show seqI (cnt + 0) b = _; rw [Int.add_zero]
  | a + 1, b, cnt => by
    have e : a + 1 + b = (a + b) + 1 := by omega
    rw [e]
    show (cnt + 1) :: (seqI (cnt + 1) a ++ seqI (cnt + ((a + 1 : Nat) : Int)) b) = (cnt + 1) :: seqI (cnt + 1) (a + b)
    rw [show cnt + ((a + 1 : Nat) : Int) = (cnt + 1) + a by omega, seqI_app a b (cnt + 1)]
theorem seqI_mem : ∀ (m : Nat) (cnt x : Int), x ∈ seqI cnt m → cnt < x ∧ x ≤ cnt + m
  | 0, _, _, h => by cases h
  | m + 1, cnt, x, h => by
    rcases List.mem_cons.mp h with rfl | h
    · omega
    · have := seqI_mem m (cnt + 1) x h
      omega
theorem seqI_nodup : ∀ (m : Nat) (cnt : Int), (seqI cnt m).Nodup
  | 0, _ => .nil
  | m + 1, cnt => List.nodup_cons.mpr ⟨fun h => by have := seqI_mem m (cnt + 1) _ h; omega, seqI_nodup m (cnt + 1)⟩
theorem seqI_len : ∀ (m : Nat) (cnt : Int), (seqI cnt m).length = m
  | 0, _ => rfl
  | m + 1, cnt => by show (seqI (cnt + 1) m).length + 1 = m + 1; rw [seqI_len m]
def nb : Nat → Nat
  | 0 => 1
  | n + 1 => 4 * nb n + 1
def mb : Nat → Nat
  | 0 => 1
  | n + 1 => 4 * mb n
def db : Nat → Nat
  | 0 => 2
  | n + 1 => 4 * db n + 10
theorem mb_pos : ∀ n, 1 ≤ mb n
  | 0 => Nat.le_refl _
  | n + 1 => by have := mb_pos n; show 1 ≤ 4 * mb n; omega
structure SmF (rows : Bk) (deep : Nat) (cnt : Int) (f : Fa) (m : Nat) : Prop where
  nn : f.notnil = true
  sz : szF f = true
  dp : dpF f ≤ deep + 1
  v : 0 ≤ cnt → cnt + m ≤ 1000000 → vF rows f = true
  nd : ndF f ≤ nb deep
  nums : (onF f).map Fa.num = seqI cnt m
  mm : m ≤ mb deep
structure SmL (rows : Bk) (deep : Nat) (cnt : Int) (ms : Fs) (m len : Nat) : Prop where
  sz : szL ms = true
  dp : dpL ms ≤ deep + 1
  v : 0 ≤ cnt → cnt + m ≤ 1000000 → vL rows ms = true
  nd : ndL ms ≤ len * nb deep
  nums : (onL ms).map Fa.num = seqI cnt m
  mm : m ≤ len * mb deep
  len_ : ms.len = len
theorem vL_app {rows : Bk} : ∀ p q : Fs, vL rows (p.app q) = (vL rows p && vL rows q)
  | .nil, _ => rfl
  | .cons h r, q => by show (h.notnil && (vF rows h && vL rows (r.app q))) = (h.notnil && (vF rows h && vL rows r) && vL rows q); rw [vL_app r q]; simp only [Bool.and_assoc]
theorem SmL.snoc {rows : Bk} {deep : Nat} {cnt : Int} {ms : Fs} {m len : Nat} (h : SmL rows deep cnt ms m len) {f : Fa} {m' : Nat} (k : SmF rows deep (cnt + m) f m') : SmL rows deep cnt (ms.app (.cons f .nil)) (m + m') (len + 1) where
  sz := by
    rw [szL_app, h.sz]
    show (true && (f.notnil && szF f && true)) = true
    rw [k.nn, k.sz]; rfl
  dp := by
    rw [dpL_app]
    have := h.dp; have := k.dp
    show max (dpL ms) (max (dpF f) 0) ≤ _
    omega
  v := fun h0 h1 => by
    rw [vL_app, h.v h0 (by omega)]
    show (true && (f.notnil && (vF rows f && true))) = true
    rw [k.nn, k.v (by omega) (by omega)]; rfl
  nd := by
    rw [ndL_app]
    have := h.nd; have := k.nd
    show ndL ms + (ndF f + 0) ≤ (len + 1) * nb deep
    rw [Nat.add_mul, Nat.one_mul]; omega
  nums := by
    rw [onL_app, List.map_append, h.nums]
    show seqI cnt m ++ (onF f ++ []).map Fa.num = _
    rw [List.append_nil, k.nums, seqI_app]
  mm := by
    have := h.mm; have := k.mm
    rw [Nat.add_mul, Nat.one_mul]; omega
  len_ := by
    rw [len_app, h.len_]; rfl
/-- the bag at b, the count at c -/
def stS (S : Store) (b c : Nat) (o : O) (x : Int) : Store := (S.set b o).set c (.lst [.int x])
section
variable {S : Store} {b c : Nat} (hb : b < S.length) (hc : c < S.length) (hne : b ≠ c)
include hb hc hne
theorem st_b {o : O} {x : Int} : (stS S b c o x)[b]? = some o := by
  unfold stS
  rw [List.getElem?_set_ne (Ne.symm hne), List.getElem?_set_self hb]
theorem st_c {o : O} {x : Int} : (stS S b c o x)[c]? = some (.lst [.int x]) := by
  unfold stS
  rw [List.getElem?_set_self (by simpa using hc)]
theorem st_sb {o o' : O} {x : Int} : (stS S b c o x).set b o' = stS S b c o' x := by
  unfold stS
  rw [List.set_comm _ _ (Ne.symm hne), List.set_set]
theorem st_sc {o : O} {x y : Int} : (stS S b c o x).set c (.lst [.int y]) = stS S b c o y := by
  unfold stS
  rw [List.set_set]
theorem st_len {o : O} {x : Int} : (stS S b c o x).length = S.length := by
  unfold stS; simp
theorem st_st {o o' : O} {x y : Int} : stS (stS S b c o x) b c o' y = stS S b c o' y := by
  show ((stS S b c o x).set b o').set c _ = _
  rw [st_sb hb hc hne, st_sc hb hc hne]
omit hb hc hne in
theorem set_id : ∀ {S : Store} {n : Nat} {o : O}, S[n]? = some o → S.set n o = S
  | a :: r, 0, o, h => by
    have : a = o := Option.some.inj h
    rw [this]; rfl
  | a :: r, n + 1, o, h => by
    have : r[n]? = some o := h
    show a :: r.set n o = _
    rw [set_id this]
omit hb hc hne in
theorem st_id {o : O} {x : Int} (h : S[b]? = some o) (h2 : S[c]? = some (.lst [.int x])) : stS S b c o x = S := by
  unfold stS
  rw [set_id h, set_id h2]
end
theorem get_mem : ∀ {rows : Bk} {z : Str}, z ∈ rows.map (·.1) → (getS rows z).isSome = true
  | r :: rs, z, h => by
    show (if r.1 = z then some r.2 else getS rs z).isSome = true
    by_cases e : r.1 = z
    · rw [if_pos e]; rfl
    · rw [if_neg e]
      rcases List.mem_cons.mp h with h | h
      · exact absurd h.symm e
      · exact get_mem h
theorem kind_mem {rows : Bk} {z : Str} (h : z ∈ rows.map (·.1) ++ [("fault" : Str)]) : kindB1 rows z = true := by
  unfold kindB1
  rcases List.mem_append.mp h with h | h
  · rw [get_mem h, Bool.or_true]
  · rw [List.mem_singleton.mp h]; simp
theorem kind_so {rows : Bk} (hw : weeB rows) {z : Str} (h : z ∈ rows.map (·.1) ++ [("fault" : Str)]) : PyData.strOk z = true := by
  rcases List.mem_append.mp h with h | h
  · obtain ⟨r, hr, rfl⟩ := List.mem_map.mp h
    exact (hw.2 r hr).1.2
  · rw [List.mem_singleton.mp h]; decide +kernel
section
variable {P : Prog}
theorem one_sm {rows : Bk} (hw : weeB rows) {deep : Nat} {cnt t : Int} {z : Str} (hz : z ∈ rows.map (·.1) ++ [("fault" : Str)]) (t0 : 0 ≤ t) (t1 : t < 1000) : SmF rows deep cnt (.one (cnt + 1) z t .nil) 1 where
  nn := rfl
  sz := by show (PyData.strOk z && true) = true; rw [kind_so hw hz]; rfl
  dp := by show 0 + 1 ≤ deep + 1; omega
  v := fun h0 h1 => by
    show (within (cnt + 1) 0 1000000 && (kindB1 rows z && (within t 0 999 && true))) = true
    rw [kind_mem hz]
    unfold within
    rw [decide_eq_true (by omega), decide_eq_true (by omega)]; rfl
  nd := by
    show 0 + 1 ≤ nb deep
    cases deep with
    | zero => exact Nat.le_refl _
    | succ n => show 1 ≤ 4 * nb n + 1; omega
  nums := rfl
  mm := mb_pos deep
theorem one_smC {rows : Bk} (hw : weeB rows) {deep : Nat} {cnt t : Int} {z : Str} (hz : z ∈ rows.map (·.1) ++ [("fault" : Str)]) (t0 : 0 ≤ t) (t1 : t < 1000) {f : Fa} {m : Nat} (h : SmF rows deep (cnt + 1) f m) : SmF rows (deep + 1) cnt (.one (cnt + 1) z t f) (m + 1) where
  nn := rfl
  sz := by show (PyData.strOk z && szF f) = true; rw [kind_so hw hz, h.sz]; rfl
  dp := by have := h.dp; show dpF f + 1 ≤ deep + 1 + 1; omega
  v := fun h0 h1 => by
    show (within (cnt + 1) 0 1000000 && (kindB1 rows z && (within t 0 999 && vF rows f))) = true
    rw [kind_mem hz, h.v (by omega) (by omega)]
    unfold within
    rw [decide_eq_true (by omega), decide_eq_true (by omega)]; rfl
  nd := by
    have := h.nd
    show ndF f + 1 ≤ 4 * nb deep + 1
    omega
  nums := by
    show (cnt + 1) :: (onF f).map Fa.num = (cnt + 1) :: seqI (cnt + 1) m
    rw [h.nums]
  mm := by
    have := h.mm
    have := mb_pos deep
    show m + 1 ≤ 4 * mb deep
    omega
theorem many_sm {rows : Bk} {deep : Nat} {cnt : Int} {ms c : Fs} {m len : Nat} (h : SmL rows deep cnt ms m len) (h1 : 1 ≤ len) (h3 : len ≤ 3) : SmF rows (deep + 1) cnt (.many ms .nil) m where
  nn := rfl
  sz := by show (decide (ms.len ≤ 1000) && szL ms && true) = true; rw [h.sz, decide_eq_true (by rw [h.len_]; omega)]; rfl
  dp := by have := h.dp; show max (dpL ms) 0 + 1 ≤ deep + 1 + 1; omega
  v := fun h0 h4 => by
    show (within ms.len 1 200 && (vL rows ms && true)) = true
    rw [h.v h0 h4]
    unfold within
    rw [h.len_, decide_eq_true (by omega)]; rfl
  nd := by
    have := h.nd
    have : len * nb deep ≤ 3 * nb deep := Nat.mul_le_mul_right _ h3
    show ndL ms + 0 + 1 ≤ 4 * nb deep + 1
    omega
  nums := by
    show (onL ms ++ []).map Fa.num = _
    rw [List.append_nil, h.nums]
  mm := by
    have := h.mm
    have : len * mb deep ≤ 3 * mb deep := Nat.mul_le_mul_right _ h3
    show m ≤ 4 * mb deep
    omega
theorem many_smC {rows : Bk} {deep : Nat} {cnt : Int} {ms : Fs} {m len : Nat} (h : SmL rows deep cnt ms m len) (h1 : 1 ≤ len) (h3 : len ≤ 3) {f : Fa} {m' : Nat} (k : SmF rows deep (cnt + m) f m') : SmF rows (deep + 1) cnt (.many ms f) (m + m') where
  nn := rfl
  sz := by show (decide (ms.len ≤ 1000) && szL ms && szF f) = true; rw [h.sz, k.sz, decide_eq_true (by rw [h.len_]; omega)]; rfl
  dp := by have := h.dp; have := k.dp; show max (dpL ms) (dpF f) + 1 ≤ deep + 1 + 1; omega
  v := fun h0 h4 => by
    show (within ms.len 1 200 && (vL rows ms && vF rows f)) = true
    rw [h.v h0 (by omega), k.v (by omega) (by omega)]
    unfold within
    rw [h.len_, decide_eq_true (by omega)]; rfl
  nd := by
    have := h.nd
    have := k.nd
    have : len * nb deep ≤ 3 * nb deep := Nat.mul_le_mul_right _ h3
    show ndL ms + ndF f + 1 ≤ 4 * nb deep + 1
    omega
  nums := by
    show (onL ms ++ onF f).map Fa.num = _
    rw [List.map_append, h.nums, k.nums, seqI_app]
  mm := by
    have := h.mm
    have := k.mm
    have : len * mb deep ≤ 3 * mb deep := Nat.mul_le_mul_right _ h3
    show m + m' ≤ 4 * mb deep
    omega
theorem db_le : ∀ n, n ≤ 3 → db n ≤ 1000 := by decide
theorem small_ok {i ik it : Nat} (hf : P.fns[i]? = some (F_law_small ik i it)) (hk : P.fns[ik]? = some (F_law_a_kind it)) (ht : P.fns[it]? = some F_law_take) {rows : Bk} (hw : weeB rows) (hl : rows.length ≤ 100) {b c : Nat} (hne : b ≠ c) : ∀ (deep : Nat) {S : Store} {o : O} {k cnt : Int} {d : Nat} {Q : D → Store → Prop}, deep ≤ 3 → S[b]? = some o → BagOk k o → k + db deep < 2 ^ 61 → S[c]? = some (.lst [.int cnt]) → deep + 4 ≤ d → (∀ f m o', SmF rows deep cnt f m → BagOk (k + db deep) o' → Q (toD f) (stS S b c o' (cnt + m))) → wp ((sm P d).call i [.ref b, toB rows, .int deep, .ref c] S) Q := by
  intro deep
  induction deep with
  | zero =>
    intro S o k cnt d Q _ h ho hkk hc hd hQ
    have lb : b < S.length := (List.getElem?_eq_some_iff.mp h).1
    have lc : c < S.length := (List.getElem?_eq_some_iff.mp hc).1
    obtain ⟨d, rfl⟩ : ∃ e, d = e + 4 := ⟨d - 4, by omega⟩
    refine wp_call hf rfl (Nat.le_of_ble_eq_true rfl) ?_
    have e0 : stS S b c o cnt = S := st_id h hc
    have e1 : S = stS S b c o cnt := e0.symm
    rw [e1]
    have sc : ∀ o x, seqOf (.ref c) (stS S b c o x) = some [.int x] := fun o x => s_lst (st_c lb lc hne)
    have ss : ∀ o x y, setSub (.ref c) (.int 0) (.int y) (stS S b c o x) = some (stS S b c o y) := fun o x y => by
      rw [u_sub (st_c lb lc hne)]
      show (L2.ixN 1 0).map _ = _
      rw [show L2.ixN 1 0 = some 0 from rfl]
      show some ((stS S b c o x).set c (.lst [.int y])) = _
      rw [st_sc lb lc hne]
    have z0 : ((0 : Nat) : Int) = 0 := rfl
    simp only [F_law_small, B_law_small, List.map_cons, List.map_nil, List.replicate, List.cons_append, List.nil_append, sc, ss, tB_mat, Int.lt_irrefl, z0, we_var, we_non, we_bl, we_int, we_str, ws_nil, ws_cons, we_tup, we_lst, we_bin, we_neg, we_cmp, we_chain, we_and1, we_or1, we_and, we_or, we_not, we_ite, we_idx, wo_none, wo_some, we_slc, we_attr, we_call, we_meth, we_make, we_makek, wmake, we_blt, we_bm, we_isi, we_comp, wf_nil, wf_one, wt_tru, wi_of, wi_zip, wi_range, wi_enum, wg_name, wg_tup, wg_wtp, wg_nil, wg_cons, optQ_some, optQ_if, optQ_map, optQ_bind, tst_bl, tst_non, tst_int, b_add, b_sub, b_mul, b_fdiv, b_mod, b_pow, c_lt, c_le, c_gt, c_ge, c_eqI, c_neI, c_isI, c_notI, c_isN, c_notN, i_ii, i_ib, n_i, d_i, l_min, l_max, x_ref, x_new, x_tup, s_new, s_tup, y_new, at_0, at_1, at_2, mat_int, mat_bl, mat_str, mat_non, mat_ref, mats_nil, mats_cons, mat_tup, Option.isSome_some, List.getElem?_cons_zero, List.getElem?_cons_succ, List.set_cons_zero, List.set_cons_succ, decide_eq_true_eq, decide_eq_false_iff_not, wp_ok, st_ite, st_set, st_expr, st_ret, st_retN, st_pass, st_cont, st_unp, st_par, st_sub, st_for, st_wh, sq_nx, sq_rt, sq_ct, sq_bk, ss_nil, ss_cons, rq_f, rq_n, we_dct, we_revs, we_comp2, we_dcomp, io_str, io_tup, io_new, tst_b, tst_str, tst_tup, len_tup, len_new, all_new, any_new, lis_tup, tup_new, c_eqS, c_neS, c_eqB, c_neB, c_isT, c_notT, c_isS, c_notS, at_3, at_4, at_m1, x_str0, i_non, i_bl, i_str, i_tup, le1, le2, le3, le4, le5, decide_true, decide_false, true_implies, false_implies, reduceCtorEq, and_true, true_and, Bool.not_true, Bool.not_false, putA, List.length_nil, List.length_cons, List.set_set, reduceIte, Nat.reduceEqDiff, Nat.zero_ne_one, Nat.one_ne_zero, ne_eq, not_true_eq_false, not_false_eq_true, List.append_assoc, List.cons_append, List.nil_append, List.lookup_cons, List.lookup_nil, Nat.reduceBEq, beq_self_eq_true, Bool.and_true, Bool.true_and, Bool.false_and, Bool.and_false]
    refine a_kind_ok (d := d + 1) hk ht hl (st_b lb lc hne) ho (by omega) fun z o1 hz ho1 => ?_
    rw [st_sb lb lc hne]
    refine take_ok (d := d + 2) ht (st_b lb lc hne) ho1 (by omega) (by decide) (by decide) fun t o2 t0 t1 ho2 => ?_
    rw [st_sb lb lc hne]
    refine ⟨len_ok (by decide), ?_⟩
    exact hQ (.one (cnt + 1) z t .nil) 1 o2 (one_sm hw hz t0 t1) (ho2.mono (by show k + 1 + 1 ≤ k + 2; omega))
  | succ deep ih =>
    intro S o k cnt d Q h3 h ho hkk hc hd hQ
    have lb : b < S.length := (List.getElem?_eq_some_iff.mp h).1
    have lc : c < S.length := (List.getElem?_eq_some_iff.mp hc).1
    obtain ⟨d, rfl⟩ : ∃ e, d = e + 5 := ⟨d - 5, by omega⟩
    have hdb : (db (deep + 1) : Int) = 4 * db deep + 10 := by show ((4 * db deep + 10 : Nat) : Int) = _; omega
    have hdl : db deep ≤ 1000 := db_le deep (by omega)
    refine wp_call hf rfl (Nat.le_of_ble_eq_true rfl) ?_
    have e1 : S = stS S b c o cnt := (st_id h hc).symm
    rw [e1]
    have sc : ∀ o x, seqOf (.ref c) (stS S b c o x) = some [.int x] := fun o x => s_lst (st_c lb lc hne)
    have ss : ∀ o x y, setSub (.ref c) (.int 0) (.int y) (stS S b c o x) = some (stS S b c o y) := fun o x y => by
      rw [u_sub (st_c lb lc hne)]
      show (L2.ixN 1 0).map _ = _
      rw [show L2.ixN 1 0 = some 0 from rfl]
      show some ((stS S b c o x).set c (.lst [.int y])) = _
      rw [st_sc lb lc hne]
    have hpos : (0 : Int) < ((deep + 1 : Nat) : Int) := by omega
    have hsub : ((deep + 1 : Nat) : Int) - 1 = (deep : Nat) := by omega
    simp only [F_law_small, B_law_small, List.map_cons, List.map_nil, List.replicate, List.cons_append, List.nil_append, sc, ss, tB_mat, hpos, we_var, we_non, we_bl, we_int, we_str, ws_nil, ws_cons, we_tup, we_lst, we_bin, we_neg, we_cmp, we_chain, we_and1, we_or1, we_and, we_or, we_not, we_ite, we_idx, wo_none, wo_some, we_slc, we_attr, we_call, we_meth, we_make, we_makek, wmake, we_blt, we_bm, we_isi, we_comp, wf_nil, wf_one, wt_tru, wi_of, wi_zip, wi_range, wi_enum, wg_name, wg_tup, wg_wtp, wg_nil, wg_cons, optQ_some, optQ_if, optQ_map, optQ_bind, tst_bl, tst_non, tst_int, b_add, b_sub, b_mul, b_fdiv, b_mod, b_pow, c_lt, c_le, c_gt, c_ge, c_eqI, c_neI, c_isI, c_notI, c_isN, c_notN, i_ii, i_ib, n_i, d_i, l_min, l_max, x_ref, x_new, x_tup, s_new, s_tup, y_new, at_0, at_1, at_2, mat_int, mat_bl, mat_str, mat_non, mat_ref, mats_nil, mats_cons, mat_tup, Option.isSome_some, List.getElem?_cons_zero, List.getElem?_cons_succ, List.set_cons_zero, List.set_cons_succ, decide_eq_true_eq, decide_eq_false_iff_not, wp_ok, st_ite, st_set, st_expr, st_ret, st_retN, st_pass, st_cont, st_unp, st_par, st_sub, st_for, st_wh, sq_nx, sq_rt, sq_ct, sq_bk, ss_nil, ss_cons, rq_f, rq_n, we_dct, we_revs, we_comp2, we_dcomp, io_str, io_tup, io_new, tst_b, tst_str, tst_tup, len_tup, len_new, all_new, any_new, lis_tup, tup_new, c_eqS, c_neS, c_eqB, c_neB, c_isT, c_notT, c_isS, c_notS, at_3, at_4, at_m1, x_str0, i_non, i_bl, i_str, i_tup, le1, le2, le3, le4, le5, decide_true, decide_false, true_implies, false_implies, reduceCtorEq, and_true, true_and, Bool.not_true, Bool.not_false, putA, List.length_nil, List.length_cons, List.set_set, reduceIte, Nat.reduceEqDiff, Nat.zero_ne_one, Nat.one_ne_zero, ne_eq, not_true_eq_false, not_false_eq_true, List.append_assoc, List.cons_append, List.nil_append, List.lookup_cons, List.lookup_nil, Nat.reduceBEq, beq_self_eq_true, Bool.and_true, Bool.true_and, Bool.false_and, Bool.and_false]
    refine take_ok (d := d + 3) ht (st_b lb lc hne) ho (by omega) (by decide) (by decide) fun r o1 r0 r1 ho1 => ?_
    rw [st_sb lb lc hne]
    simp only [sc, ss, tB_mat, hpos, we_var, we_non, we_bl, we_int, we_str, ws_nil, ws_cons, we_tup, we_lst, we_bin, we_neg, we_cmp, we_chain, we_and1, we_or1, we_and, we_or, we_not, we_ite, we_idx, wo_none, wo_some, we_slc, we_attr, we_call, we_meth, we_make, we_makek, wmake, we_blt, we_bm, we_isi, we_comp, wf_nil, wf_one, wt_tru, wi_of, wi_zip, wi_range, wi_enum, wg_name, wg_tup, wg_wtp, wg_nil, wg_cons, optQ_some, optQ_if, optQ_map, optQ_bind, tst_bl, tst_non, tst_int, b_add, b_sub, b_mul, b_fdiv, b_mod, b_pow, c_lt, c_le, c_gt, c_ge, c_eqI, c_neI, c_isI, c_notI, c_isN, c_notN, i_ii, i_ib, n_i, d_i, l_min, l_max, x_ref, x_new, x_tup, s_new, s_tup, y_new, at_0, at_1, at_2, mat_int, mat_bl, mat_str, mat_non, mat_ref, mats_nil, mats_cons, mat_tup, Option.isSome_some, List.getElem?_cons_zero, List.getElem?_cons_succ, List.set_cons_zero, List.set_cons_succ, decide_eq_true_eq, decide_eq_false_iff_not, wp_ok, st_ite, st_set, st_expr, st_ret, st_retN, st_pass, st_cont, st_unp, st_par, st_sub, st_for, st_wh, sq_nx, sq_rt, sq_ct, sq_bk, ss_nil, ss_cons, rq_f, rq_n, we_dct, we_revs, we_comp2, we_dcomp, io_str, io_tup, io_new, tst_b, tst_str, tst_tup, len_tup, len_new, all_new, any_new, lis_tup, tup_new, c_eqS, c_neS, c_eqB, c_neB, c_isT, c_notT, c_isS, c_notS, at_3, at_4, at_m1, x_str0, i_non, i_bl, i_str, i_tup, le1, le2, le3, le4, le5, decide_true, decide_false, true_implies, false_implies, reduceCtorEq, and_true, true_and, Bool.not_true, Bool.not_false, putA, List.length_nil, List.length_cons, List.set_set, reduceIte, Nat.reduceEqDiff, Nat.zero_ne_one, Nat.one_ne_zero, ne_eq, not_true_eq_false, not_false_eq_true, List.append_assoc, List.cons_append, List.nil_append, List.lookup_cons, List.lookup_nil, Nat.reduceBEq, beq_self_eq_true, Bool.and_true, Bool.true_and, Bool.false_and, Bool.and_false]
    refine ⟨fun hr => ?_, fun hr => ?_⟩
    · refine take_ok (d := d + 3) ht (st_b lb lc hne) ho1 (by omega) (by decide) (by decide) fun r2 o2 r20 r21 ho2 => ?_
      rw [st_sb lb lc hne]
      obtain ⟨len, hlen, hl1, hl3⟩ : ∃ len : Nat, 1 + r2 = len ∧ 1 ≤ len ∧ len ≤ 3 := ⟨(1 + r2).toNat, by omega, by omega, by omega⟩
      have rg : rangeD [.int (1 + r2)] = some ((List.range len).map fun i => .int (0 + (i : Nat))) := by
        rw [hlen]
        simp only [rangeD]
        rw [if_pos (by omega), Int.toNat_natCast]
      simp only [rg, wipeD, we_var, we_non, we_bl, we_int, we_str, ws_nil, ws_cons, we_tup, we_lst, we_bin, we_neg, we_cmp, we_chain, we_and1, we_or1, we_and, we_or, we_not, we_ite, we_idx, wo_none, wo_some, we_slc, we_attr, we_call, we_meth, we_make, we_makek, wmake, we_blt, we_bm, we_isi, we_comp, wf_nil, wf_one, wt_tru, wi_of, wi_zip, wi_range, wi_enum, wg_name, wg_tup, wg_wtp, wg_nil, wg_cons, optQ_some, optQ_if, optQ_map, optQ_bind, tst_bl, tst_non, tst_int, b_add, b_sub, b_mul, b_fdiv, b_mod, b_pow, c_lt, c_le, c_gt, c_ge, c_eqI, c_neI, c_isI, c_notI, c_isN, c_notN, i_ii, i_ib, n_i, d_i, l_min, l_max, x_ref, x_new, x_tup, s_new, s_tup, y_new, at_0, at_1, at_2, mat_int, mat_bl, mat_str, mat_non, mat_ref, mats_nil, mats_cons, mat_tup, Option.isSome_some, List.getElem?_cons_zero, List.getElem?_cons_succ, List.set_cons_zero, List.set_cons_succ, decide_eq_true_eq, decide_eq_false_iff_not, wp_ok, st_ite, st_set, st_expr, st_ret, st_retN, st_pass, st_cont, st_unp, st_par, st_sub, st_for, st_wh, sq_nx, sq_rt, sq_ct, sq_bk, ss_nil, ss_cons, rq_f, rq_n, we_dct, we_revs, we_comp2, we_dcomp, io_str, io_tup, io_new, tst_b, tst_str, tst_tup, len_tup, len_new, all_new, any_new, lis_tup, tup_new, c_eqS, c_neS, c_eqB, c_neB, c_isT, c_notT, c_isS, c_notS, at_3, at_4, at_m1, x_str0, i_non, i_bl, i_str, i_tup, le1, le2, le3, le4, le5, decide_true, decide_false, true_implies, false_implies, reduceCtorEq, and_true, true_and, Bool.not_true, Bool.not_false, putA, List.length_nil, List.length_cons, List.set_set, reduceIte, Nat.reduceEqDiff, Nat.zero_ne_one, Nat.one_ne_zero, ne_eq, not_true_eq_false, not_false_eq_true, List.append_assoc, List.cons_append, List.nil_append, List.lookup_cons, List.lookup_nil, Nat.reduceBEq, beq_self_eq_true, Bool.and_true, Bool.true_and, Bool.false_and, Bool.and_false]
      refine wp_compF (fun j ys T => j ≤ len ∧ ∃ ms m oj, ys = toL ms ∧ SmL rows deep cnt ms m j ∧ BagOk (k + 2 + j * db deep) oj ∧ T = stS S b c oj (cnt + m)) ⟨Nat.zero_le _, .nil, 0, o2, rfl, ⟨rfl, Nat.zero_le _, fun _ _ => rfl, Nat.zero_le _, rfl, Nat.zero_le _, rfl⟩, ho2.mono (by omega), by rw [show cnt + ((0 : Nat) : Int) = cnt by omega]⟩ (fun _ _ _ _ => rfl) ?_ ?_
      · rintro j x ys T hx ⟨hj, ms, m, oj, rfl, hms, hoj, rfl⟩
        rw [List.getElem?_map] at hx
        cases hjx : (List.range len)[j]? with
        | none => rw [hjx] at hx; cases hx
        | some q =>
          rw [hjx] at hx
          cases hx
          have lj : j < len := by have := (List.getElem?_eq_some_iff.mp hjx).1; simpa using this
          have jd : (j : Int) * db deep ≤ 3 * db deep := Int.mul_le_mul_of_nonneg_right (by omega) (by omega)
          simp only [tB_mat, hsub, we_var, we_non, we_bl, we_int, we_str, ws_nil, ws_cons, we_tup, we_lst, we_bin, we_neg, we_cmp, we_chain, we_and1, we_or1, we_and, we_or, we_not, we_ite, we_idx, wo_none, wo_some, we_slc, we_attr, we_call, we_meth, we_make, we_makek, wmake, we_blt, we_bm, we_isi, we_comp, wf_nil, wf_one, wt_tru, wi_of, wi_zip, wi_range, wi_enum, wg_name, wg_tup, wg_wtp, wg_nil, wg_cons, optQ_some, optQ_if, optQ_map, optQ_bind, tst_bl, tst_non, tst_int, b_add, b_sub, b_mul, b_fdiv, b_mod, b_pow, c_lt, c_le, c_gt, c_ge, c_eqI, c_neI, c_isI, c_notI, c_isN, c_notN, i_ii, i_ib, n_i, d_i, l_min, l_max, x_ref, x_new, x_tup, s_new, s_tup, y_new, at_0, at_1, at_2, mat_int, mat_bl, mat_str, mat_non, mat_ref, mats_nil, mats_cons, mat_tup, Option.isSome_some, List.getElem?_cons_zero, List.getElem?_cons_succ, List.set_cons_zero, List.set_cons_succ, decide_eq_true_eq, decide_eq_false_iff_not, wp_ok, st_ite, st_set, st_expr, st_ret, st_retN, st_pass, st_cont, st_unp, st_par, st_sub, st_for, st_wh, sq_nx, sq_rt, sq_ct, sq_bk, ss_nil, ss_cons, rq_f, rq_n, we_dct, we_revs, we_comp2, we_dcomp, io_str, io_tup, io_new, tst_b, tst_str, tst_tup, len_tup, len_new, all_new, any_new, lis_tup, tup_new, c_eqS, c_neS, c_eqB, c_neB, c_isT, c_notT, c_isS, c_notS, at_3, at_4, at_m1, x_str0, i_non, i_bl, i_str, i_tup, le1, le2, le3, le4, le5, decide_true, decide_false, true_implies, false_implies, reduceCtorEq, and_true, true_and, Bool.not_true, Bool.not_false, putA, List.length_nil, List.length_cons, List.set_set, reduceIte, Nat.reduceEqDiff, Nat.zero_ne_one, Nat.one_ne_zero, ne_eq, not_true_eq_false, not_false_eq_true, List.append_assoc, List.cons_append, List.nil_append, List.lookup_cons, List.lookup_nil, Nat.reduceBEq, beq_self_eq_true, Bool.and_true, Bool.true_and, Bool.false_and, Bool.and_false]
          refine ih (by omega) (st_b lb lc hne) hoj (by omega) (st_c lb lc hne) (by omega) fun f m' o' hs ho' => ?_
          rw [st_st lb lc hne]
          refine ⟨by omega, ms.app (.cons f .nil), m + m', o', ?_, hms.snoc hs, ho'.mono (by rw [show ((j + 1 : Nat) : Int) = (j : Int) + 1 by omega, Int.add_mul, Int.one_mul]; omega), by rw [show cnt + (m : Int) + m' = cnt + ((m + m' : Nat) : Int) by omega]⟩
          rw [toL_app]; rfl
      · rintro ys T ⟨_, ms, m, oj, rfl, hms, hoj, rfl⟩
        rw [List.length_map, List.length_range] at hms hoj
        have jd : (len : Int) * db deep ≤ 3 * db deep := Int.mul_le_mul_of_nonneg_right (by omega) (by omega)
        have mm : ∀ T, mats (toL ms) T = (toL ms, T) := fun T => matsE (toL_ok ms hms.sz)
        simp only [mm, we_var, we_non, we_bl, we_int, we_str, ws_nil, ws_cons, we_tup, we_lst, we_bin, we_neg, we_cmp, we_chain, we_and1, we_or1, we_and, we_or, we_not, we_ite, we_idx, wo_none, wo_some, we_slc, we_attr, we_call, we_meth, we_make, we_makek, wmake, we_blt, we_bm, we_isi, we_comp, wf_nil, wf_one, wt_tru, wi_of, wi_zip, wi_range, wi_enum, wg_name, wg_tup, wg_wtp, wg_nil, wg_cons, optQ_some, optQ_if, optQ_map, optQ_bind, tst_bl, tst_non, tst_int, b_add, b_sub, b_mul, b_fdiv, b_mod, b_pow, c_lt, c_le, c_gt, c_ge, c_eqI, c_neI, c_isI, c_notI, c_isN, c_notN, i_ii, i_ib, n_i, d_i, l_min, l_max, x_ref, x_new, x_tup, s_new, s_tup, y_new, at_0, at_1, at_2, mat_int, mat_bl, mat_str, mat_non, mat_ref, mats_nil, mats_cons, mat_tup, Option.isSome_some, List.getElem?_cons_zero, List.getElem?_cons_succ, List.set_cons_zero, List.set_cons_succ, decide_eq_true_eq, decide_eq_false_iff_not, wp_ok, st_ite, st_set, st_expr, st_ret, st_retN, st_pass, st_cont, st_unp, st_par, st_sub, st_for, st_wh, sq_nx, sq_rt, sq_ct, sq_bk, ss_nil, ss_cons, rq_f, rq_n, we_dct, we_revs, we_comp2, we_dcomp, io_str, io_tup, io_new, tst_b, tst_str, tst_tup, len_tup, len_new, all_new, any_new, lis_tup, tup_new, c_eqS, c_neS, c_eqB, c_neB, c_isT, c_notT, c_isS, c_notS, at_3, at_4, at_m1, x_str0, i_non, i_bl, i_str, i_tup, le1, le2, le3, le4, le5, decide_true, decide_false, true_implies, false_implies, reduceCtorEq, and_true, true_and, Bool.not_true, Bool.not_false, putA, List.length_nil, List.length_cons, List.set_set, reduceIte, Nat.reduceEqDiff, Nat.zero_ne_one, Nat.one_ne_zero, ne_eq, not_true_eq_false, not_false_eq_true, List.append_assoc, List.cons_append, List.nil_append, List.lookup_cons, List.lookup_nil, Nat.reduceBEq, beq_self_eq_true, Bool.and_true, Bool.true_and, Bool.false_and, Bool.and_false]
        refine ⟨len_ok (by rw [toL_len, hms.len_]; omega), ?_⟩
        refine take_ok (d := d + 3) ht (st_b lb lc hne) hoj (by omega) (by decide) (by decide) fun r3 o3 r30 r31 ho3 => ?_
        rw [st_sb lb lc hne]
        simp only [hsub, tB_mat, we_var, we_non, we_bl, we_int, we_str, ws_nil, ws_cons, we_tup, we_lst, we_bin, we_neg, we_cmp, we_chain, we_and1, we_or1, we_and, we_or, we_not, we_ite, we_idx, wo_none, wo_some, we_slc, we_attr, we_call, we_meth, we_make, we_makek, wmake, we_blt, we_bm, we_isi, we_comp, wf_nil, wf_one, wt_tru, wi_of, wi_zip, wi_range, wi_enum, wg_name, wg_tup, wg_wtp, wg_nil, wg_cons, optQ_some, optQ_if, optQ_map, optQ_bind, tst_bl, tst_non, tst_int, b_add, b_sub, b_mul, b_fdiv, b_mod, b_pow, c_lt, c_le, c_gt, c_ge, c_eqI, c_neI, c_isI, c_notI, c_isN, c_notN, i_ii, i_ib, n_i, d_i, l_min, l_max, x_ref, x_new, x_tup, s_new, s_tup, y_new, at_0, at_1, at_2, mat_int, mat_bl, mat_str, mat_non, mat_ref, mats_nil, mats_cons, mat_tup, Option.isSome_some, List.getElem?_cons_zero, List.getElem?_cons_succ, List.set_cons_zero, List.set_cons_succ, decide_eq_true_eq, decide_eq_false_iff_not, wp_ok, st_ite, st_set, st_expr, st_ret, st_retN, st_pass, st_cont, st_unp, st_par, st_sub, st_for, st_wh, sq_nx, sq_rt, sq_ct, sq_bk, ss_nil, ss_cons, rq_f, rq_n, we_dct, we_revs, we_comp2, we_dcomp, io_str, io_tup, io_new, tst_b, tst_str, tst_tup, len_tup, len_new, all_new, any_new, lis_tup, tup_new, c_eqS, c_neS, c_eqB, c_neB, c_isT, c_notT, c_isS, c_notS, at_3, at_4, at_m1, x_str0, i_non, i_bl, i_str, i_tup, le1, le2, le3, le4, le5, decide_true, decide_false, true_implies, false_implies, reduceCtorEq, and_true, true_and, Bool.not_true, Bool.not_false, putA, List.length_nil, List.length_cons, List.set_set, reduceIte, Nat.reduceEqDiff, Nat.zero_ne_one, Nat.one_ne_zero, ne_eq, not_true_eq_false, not_false_eq_true, List.append_assoc, List.cons_append, List.nil_append, List.lookup_cons, List.lookup_nil, Nat.reduceBEq, beq_self_eq_true, Bool.and_true, Bool.true_and, Bool.false_and, Bool.and_false]
        refine ⟨fun hr3 => ?_, fun hr3 => ?_⟩
        · refine ih (by omega) (st_b lb lc hne) ho3 (by omega) (st_c lb lc hne) (by omega) fun f m' o' hs ho' => ?_
          rw [st_st lb lc hne]
          refine ⟨len_ok (by decide), ?_⟩
          have := hQ (.many ms f) (m + m') o' (many_smC hms hl1 hl3 hs) (ho'.mono (by omega))
          rwa [show cnt + ((m + m' : Nat) : Int) = cnt + (m : Int) + m' by omega] at this
        · refine ⟨len_ok (by decide), ?_⟩
          exact hQ (.many ms .nil) m o3 (many_sm (c := .nil) hms hl1 hl3) (ho3.mono (by omega))
    · refine take_ok (d := d + 3) ht (st_b lb lc hne) ho1 (by omega) (by decide) (by decide) fun r2 o2 r20 r21 ho2 => ?_
      rw [st_sb lb lc hne]
      simp only [hsub, tB_mat, we_var, we_non, we_bl, we_int, we_str, ws_nil, ws_cons, we_tup, we_lst, we_bin, we_neg, we_cmp, we_chain, we_and1, we_or1, we_and, we_or, we_not, we_ite, we_idx, wo_none, wo_some, we_slc, we_attr, we_call, we_meth, we_make, we_makek, wmake, we_blt, we_bm, we_isi, we_comp, wf_nil, wf_one, wt_tru, wi_of, wi_zip, wi_range, wi_enum, wg_name, wg_tup, wg_wtp, wg_nil, wg_cons, optQ_some, optQ_if, optQ_map, optQ_bind, tst_bl, tst_non, tst_int, b_add, b_sub, b_mul, b_fdiv, b_mod, b_pow, c_lt, c_le, c_gt, c_ge, c_eqI, c_neI, c_isI, c_notI, c_isN, c_notN, i_ii, i_ib, n_i, d_i, l_min, l_max, x_ref, x_new, x_tup, s_new, s_tup, y_new, at_0, at_1, at_2, mat_int, mat_bl, mat_str, mat_non, mat_ref, mats_nil, mats_cons, mat_tup, Option.isSome_some, List.getElem?_cons_zero, List.getElem?_cons_succ, List.set_cons_zero, List.set_cons_succ, decide_eq_true_eq, decide_eq_false_iff_not, wp_ok, st_ite, st_set, st_expr, st_ret, st_retN, st_pass, st_cont, st_unp, st_par, st_sub, st_for, st_wh, sq_nx, sq_rt, sq_ct, sq_bk, ss_nil, ss_cons, rq_f, rq_n, we_dct, we_revs, we_comp2, we_dcomp, io_str, io_tup, io_new, tst_b, tst_str, tst_tup, len_tup, len_new, all_new, any_new, lis_tup, tup_new, c_eqS, c_neS, c_eqB, c_neB, c_isT, c_notT, c_isS, c_notS, at_3, at_4, at_m1, x_str0, i_non, i_bl, i_str, i_tup, le1, le2, le3, le4, le5, decide_true, decide_false, true_implies, false_implies, reduceCtorEq, and_true, true_and, Bool.not_true, Bool.not_false, putA, List.length_nil, List.length_cons, List.set_set, reduceIte, Nat.reduceEqDiff, Nat.zero_ne_one, Nat.one_ne_zero, ne_eq, not_true_eq_false, not_false_eq_true, List.append_assoc, List.cons_append, List.nil_append, List.lookup_cons, List.lookup_nil, Nat.reduceBEq, beq_self_eq_true, Bool.and_true, Bool.true_and, Bool.false_and, Bool.and_false]
      refine ⟨fun hr2 => ?_, fun hr2 => ?_⟩
      · refine ih (by omega) (st_b lb lc hne) ho2 (by omega) (st_c lb lc hne) (by omega) fun f m' o' hs ho' => ?_
        rw [st_st lb lc hne]
        rw [matE (toD_ok f hs.sz)]
        refine a_kind_ok (d := d + 2) hk ht hl (st_b lb lc hne) ho' (by omega) fun z o3 hz ho3 => ?_
        rw [st_sb lb lc hne]
        refine take_ok (d := d + 3) ht (st_b lb lc hne) ho3 (by omega) (by decide) (by decide) fun t o4 t0 t1 ho4 => ?_
        rw [st_sb lb lc hne]
        refine ⟨len_ok (by decide), ?_⟩
        have := hQ (.one (cnt + 1) z t f) (m' + 1) o4 (one_smC hw hz t0 t1 hs) (ho4.mono (by omega))
        rwa [show cnt + ((m' + 1 : Nat) : Int) = cnt + 1 + m' by omega] at this
      · refine a_kind_ok (d := d + 2) hk ht hl (st_b lb lc hne) ho2 (by omega) fun z o3 hz ho3 => ?_
        rw [st_sb lb lc hne]
        refine take_ok (d := d + 3) ht (st_b lb lc hne) ho3 (by omega) (by decide) (by decide) fun t o4 t0 t1 ho4 => ?_
        rw [st_sb lb lc hne]
        refine ⟨len_ok (by decide), ?_⟩
        exact hQ (.one (cnt + 1) z t .nil) 1 o4 (one_sm hw hz t0 t1) (ho4.mono (by omega))
end
end Nv
/-! Nv: results as the laws draw them. -/
namespace Nv
open PySem PySem.Spec PyProof.Rows L2
theorem range_nat {n : Nat} (h : n < 1000000) : rangeD [.int (n : Nat)] = some ((List.range n).map fun i => .int (0 + (i : Nat))) := by
  simp only [rangeD]
  rw [if_pos (by omega), Int.toNat_natCast]
section
variable {P : Prog}
/-- some draws put in a list -/
theorem draws_ok {it d : Nat} (ht : P.fns[it]? = some F_law_take) {ρ : AEnv} {j n : Nat} {many : Int} {b : Nat} (hρ : ∀ v, (ρ.set j v)[0]? = some (some (.ref b))) (h0 : 0 < many) (h1 : many < 2 ^ 63) {S : Store} {o : O} {k : Int} (h : S[b]? = some o) (ho : BagOk k o) (hk : k + n < 2 ^ 61) {Q : List D → Store → Prop} (hQ : ∀ xs : List Int, xs.length = n → (∀ x ∈ xs, 0 ≤ x ∧ x < many) → ∀ o', BagOk (k + n) o' → Q (xs.map .int) (S.set b o')) : wp (compF [] (evalG (.name j)) (evalIfs P (sm P (d + 1)) []) (evalE P (sm P (d + 1)) (.call it [.var 0, .int many])) ρ ((List.range n).map fun i => D.int (0 + (i : Nat))) S) Q := by
  have hb : b < S.length := (List.getElem?_eq_some_iff.mp h).1
  refine wp_compF (fun i ys T => i ≤ n ∧ ∃ (xs : List Int) (oi : O), ys = xs.map .int ∧ xs.length = i ∧ (∀ x ∈ xs, 0 ≤ x ∧ x < many) ∧ BagOk (k + i) oi ∧ T = S.set b oi) ⟨Nat.zero_le _, [], o, rfl, rfl, fun x hx => (by cases hx), ho.mono (by omega), (set_id h).symm⟩ (fun _ _ _ _ => rfl) ?_ ?_
  · rintro i x ys T hx ⟨hi, xs, oi, rfl, hl, hxs, hoi, rfl⟩
    rw [List.getElem?_map] at hx
    cases hjx : (List.range n)[i]? with
    | none => rw [hjx] at hx; cases hx
    | some q =>
      rw [hjx] at hx
      cases hx
      have lj : i < n := by have := (List.getElem?_eq_some_iff.mp hjx).1; simpa using this
      simp only [hρ, we_var, we_non, we_bl, we_int, we_str, ws_nil, ws_cons, we_tup, we_lst, we_bin, we_neg, we_cmp, we_chain, we_and1, we_or1, we_and, we_or, we_not, we_ite, we_idx, wo_none, wo_some, we_slc, we_attr, we_call, we_meth, we_make, we_makek, wmake, we_blt, we_bm, we_isi, we_comp, wf_nil, wf_one, wt_tru, wi_of, wi_zip, wi_range, wi_enum, wg_name, wg_tup, wg_wtp, wg_nil, wg_cons, optQ_some, optQ_if, optQ_map, optQ_bind, tst_bl, tst_non, tst_int, b_add, b_sub, b_mul, b_fdiv, b_mod, b_pow, c_lt, c_le, c_gt, c_ge, c_eqI, c_neI, c_isI, c_notI, c_isN, c_notN, i_ii, i_ib, n_i, d_i, l_min, l_max, x_ref, x_new, x_tup, s_new, s_tup, y_new, at_0, at_1, at_2, mat_int, mat_bl, mat_str, mat_non, mat_ref, mats_nil, mats_cons, mat_tup, Option.isSome_some, List.getElem?_cons_zero, List.getElem?_cons_succ, List.set_cons_zero, List.set_cons_succ, decide_eq_true_eq, decide_eq_false_iff_not, wp_ok, st_ite, st_set, st_expr, st_ret, st_retN, st_pass, st_cont, st_unp, st_par, st_sub, st_for, st_wh, sq_nx, sq_rt, sq_ct, sq_bk, ss_nil, ss_cons, rq_f, rq_n, we_dct, we_revs, we_comp2, we_dcomp, io_str, io_tup, io_new, tst_b, tst_str, tst_tup, len_tup, len_new, all_new, any_new, lis_tup, tup_new, c_eqS, c_neS, c_eqB, c_neB, c_isT, c_notT, c_isS, c_notS, at_3, at_4, at_m1, x_str0, i_non, i_bl, i_str, i_tup, le1, le2, le3, le4, le5, decide_true, decide_false, true_implies, false_implies, reduceCtorEq, and_true, true_and, Bool.not_true, Bool.not_false, putA, List.length_nil, List.length_cons, List.set_set, reduceIte, Nat.reduceEqDiff, Nat.zero_ne_one, Nat.one_ne_zero, ne_eq, not_true_eq_false, not_false_eq_true, List.append_assoc, List.cons_append, List.nil_append, List.lookup_cons, List.lookup_nil, Nat.reduceBEq, beq_self_eq_true, Bool.and_true, Bool.true_and, Bool.false_and, Bool.and_false]
      refine take_ok ht (by rw [List.getElem?_set_self hb]) hoi (by omega) h0 h1 fun r o' r0 r1 ho' => ?_
      refine ⟨by omega, xs ++ [r], o', by simp, by simp [hl], fun x hx => ?_, ho'.mono (by omega), by rw [List.set_set]⟩
      rcases List.mem_append.mp hx with hx | hx
      · exact hxs x hx
      · rw [List.mem_singleton.mp hx]; exact ⟨r0, r1⟩
  · rintro ys T ⟨_, xs, oi, rfl, hl, hxs, hoi, rfl⟩
    rw [List.length_map, List.length_range] at hl hoi
    exact hQ xs hl hxs oi hoi
theorem result_ok {i is ik it d : Nat} (hf : P.fns[i]? = some (F_law_result is it)) (hs : P.fns[is]? = some (F_law_small ik is it)) (hk : P.fns[ik]? = some (F_law_a_kind it)) (ht : P.fns[it]? = some F_law_take) {rows : Bk} (hw : weeB rows) (hl : rows.length ≤ 100) {S : Store} {b : Nat} {o : O} {k : Int} (h : S[b]? = some o) (ho : BagOk k o) (hkk : k < 2 ^ 60) {Q : D → Store → Prop} (hQ : ∀ r o', VR rows r → r.ns.length ≤ 3 → 0 ≤ r.cnt → r.cnt ≤ 48 → BagOk (k + 100) o' → Q (toR r) (S.set b o')) : wp ((sm P (d + 8)).call i [.ref b, toB rows] S) Q := by
  refine wp_call hf rfl (Nat.le_of_ble_eq_true rfl) ?_
  have hb : b < S.length := (List.getElem?_eq_some_iff.mp h).1
  simp only [F_law_result, B_law_result, List.map_cons, List.map_nil, List.replicate, List.cons_append, List.nil_append, wipeD, we_var, we_non, we_bl, we_int, we_str, ws_nil, ws_cons, we_tup, we_lst, we_bin, we_neg, we_cmp, we_chain, we_and1, we_or1, we_and, we_or, we_not, we_ite, we_idx, wo_none, wo_some, we_slc, we_attr, we_call, we_meth, we_make, we_makek, wmake, we_blt, we_bm, we_isi, we_comp, wf_nil, wf_one, wt_tru, wi_of, wi_zip, wi_range, wi_enum, wg_name, wg_tup, wg_wtp, wg_nil, wg_cons, optQ_some, optQ_if, optQ_map, optQ_bind, tst_bl, tst_non, tst_int, b_add, b_sub, b_mul, b_fdiv, b_mod, b_pow, c_lt, c_le, c_gt, c_ge, c_eqI, c_neI, c_isI, c_notI, c_isN, c_notN, i_ii, i_ib, n_i, d_i, l_min, l_max, x_ref, x_new, x_tup, s_new, s_tup, y_new, at_0, at_1, at_2, mat_int, mat_bl, mat_str, mat_non, mat_ref, mats_nil, mats_cons, mat_tup, Option.isSome_some, List.getElem?_cons_zero, List.getElem?_cons_succ, List.set_cons_zero, List.set_cons_succ, decide_eq_true_eq, decide_eq_false_iff_not, wp_ok, st_ite, st_set, st_expr, st_ret, st_retN, st_pass, st_cont, st_unp, st_par, st_sub, st_for, st_wh, sq_nx, sq_rt, sq_ct, sq_bk, ss_nil, ss_cons, rq_f, rq_n, we_dct, we_revs, we_comp2, we_dcomp, io_str, io_tup, io_new, tst_b, tst_str, tst_tup, len_tup, len_new, all_new, any_new, lis_tup, tup_new, c_eqS, c_neS, c_eqB, c_neB, c_isT, c_notT, c_isS, c_notS, at_3, at_4, at_m1, x_str0, i_non, i_bl, i_str, i_tup, le1, le2, le3, le4, le5, decide_true, decide_false, true_implies, false_implies, reduceCtorEq, and_true, true_and, Bool.not_true, Bool.not_false, putA, List.length_nil, List.length_cons, List.set_set, reduceIte, Nat.reduceEqDiff, Nat.zero_ne_one, Nat.one_ne_zero, ne_eq, not_true_eq_false, not_false_eq_true, List.append_assoc, List.cons_append, List.nil_append, List.lookup_cons, List.lookup_nil, Nat.reduceBEq, beq_self_eq_true, Bool.and_true, Bool.true_and, Bool.false_and, Bool.and_false]
  refine take_ok (d := d + 6) ht h ho (by omega) (by decide) (by decide) fun r o1 r0 r1 ho1 => ?_
  obtain ⟨n, rfl, hn⟩ : ∃ n : Nat, r = n ∧ n ≤ 3 := ⟨r.toNat, by omega, by omega⟩
  rw [range_nat (by omega), optQ_some]
  refine draws_ok (d := d + 6) ht (fun v => rfl) (by decide) (by decide) (by rw [List.getElem?_set_self hb]) ho1 (by omega) fun xs hx1 hx2 o2 ho2 => ?_
  rw [List.set_set]
  have mi : ∀ T, mats (xs.map D.int) T = (xs.map D.int, T) := fun T => matsE (oks_ints _)
  simp only [mi, we_var, we_non, we_bl, we_int, we_str, ws_nil, ws_cons, we_tup, we_lst, we_bin, we_neg, we_cmp, we_chain, we_and1, we_or1, we_and, we_or, we_not, we_ite, we_idx, wo_none, wo_some, we_slc, we_attr, we_call, we_meth, we_make, we_makek, wmake, we_blt, we_bm, we_isi, we_comp, wf_nil, wf_one, wt_tru, wi_of, wi_zip, wi_range, wi_enum, wg_name, wg_tup, wg_wtp, wg_nil, wg_cons, optQ_some, optQ_if, optQ_map, optQ_bind, tst_bl, tst_non, tst_int, b_add, b_sub, b_mul, b_fdiv, b_mod, b_pow, c_lt, c_le, c_gt, c_ge, c_eqI, c_neI, c_isI, c_notI, c_isN, c_notN, i_ii, i_ib, n_i, d_i, l_min, l_max, x_ref, x_new, x_tup, s_new, s_tup, y_new, at_0, at_1, at_2, mat_int, mat_bl, mat_str, mat_non, mat_ref, mats_nil, mats_cons, mat_tup, Option.isSome_some, List.getElem?_cons_zero, List.getElem?_cons_succ, List.set_cons_zero, List.set_cons_succ, decide_eq_true_eq, decide_eq_false_iff_not, wp_ok, st_ite, st_set, st_expr, st_ret, st_retN, st_pass, st_cont, st_unp, st_par, st_sub, st_for, st_wh, sq_nx, sq_rt, sq_ct, sq_bk, ss_nil, ss_cons, rq_f, rq_n, we_dct, we_revs, we_comp2, we_dcomp, io_str, io_tup, io_new, tst_b, tst_str, tst_tup, len_tup, len_new, all_new, any_new, lis_tup, tup_new, c_eqS, c_neS, c_eqB, c_neB, c_isT, c_notT, c_isS, c_notS, at_3, at_4, at_m1, x_str0, i_non, i_bl, i_str, i_tup, le1, le2, le3, le4, le5, decide_true, decide_false, true_implies, false_implies, reduceCtorEq, and_true, true_and, Bool.not_true, Bool.not_false, putA, List.length_nil, List.length_cons, List.set_set, reduceIte, Nat.reduceEqDiff, Nat.zero_ne_one, Nat.one_ne_zero, ne_eq, not_true_eq_false, not_false_eq_true, List.append_assoc, List.cons_append, List.nil_append, List.lookup_cons, List.lookup_nil, Nat.reduceBEq, beq_self_eq_true, Bool.and_true, Bool.true_and, Bool.false_and, Bool.and_false]
  refine ⟨len_ok (by rw [List.length_map]; omega), ?_⟩
  refine take_ok (d := d + 6) ht (by rw [List.getElem?_set_self hb]) ho2 (by omega) (by decide) (by decide) fun way o3 w0 w1 ho3 => ?_
  rw [List.set_set]
  have hns : ∀ n ∈ xs, within n 0 999 = true := fun n hn => decide_eq_true (by have := hx2 n hn; omega)
  have nb1 : ("done" : Str) ≠ "bad" := by decide +kernel
  have nb2 : ("left" : Str) ≠ "bad" := by decide +kernel
  have okr : ∀ w (x : Int) (f : Fa), PyData.strOk w = true → szF f = true → dpF f ≤ 20 → szR ⟨w, xs, x, f⟩ := fun w x f a b c => ⟨a, by show xs.length ≤ 5000; omega, b, c⟩
  simp only [we_var, we_non, we_bl, we_int, we_str, ws_nil, ws_cons, we_tup, we_lst, we_bin, we_neg, we_cmp, we_chain, we_and1, we_or1, we_and, we_or, we_not, we_ite, we_idx, wo_none, wo_some, we_slc, we_attr, we_call, we_meth, we_make, we_makek, wmake, we_blt, we_bm, we_isi, we_comp, wf_nil, wf_one, wt_tru, wi_of, wi_zip, wi_range, wi_enum, wg_name, wg_tup, wg_wtp, wg_nil, wg_cons, optQ_some, optQ_if, optQ_map, optQ_bind, tst_bl, tst_non, tst_int, b_add, b_sub, b_mul, b_fdiv, b_mod, b_pow, c_lt, c_le, c_gt, c_ge, c_eqI, c_neI, c_isI, c_notI, c_isN, c_notN, i_ii, i_ib, n_i, d_i, l_min, l_max, x_ref, x_new, x_tup, s_new, s_tup, y_new, at_0, at_1, at_2, mat_int, mat_bl, mat_str, mat_non, mat_ref, mats_nil, mats_cons, mat_tup, Option.isSome_some, List.getElem?_cons_zero, List.getElem?_cons_succ, List.set_cons_zero, List.set_cons_succ, decide_eq_true_eq, decide_eq_false_iff_not, wp_ok, st_ite, st_set, st_expr, st_ret, st_retN, st_pass, st_cont, st_unp, st_par, st_sub, st_for, st_wh, sq_nx, sq_rt, sq_ct, sq_bk, ss_nil, ss_cons, rq_f, rq_n, we_dct, we_revs, we_comp2, we_dcomp, io_str, io_tup, io_new, tst_b, tst_str, tst_tup, len_tup, len_new, all_new, any_new, lis_tup, tup_new, c_eqS, c_neS, c_eqB, c_neB, c_isT, c_notT, c_isS, c_notS, at_3, at_4, at_m1, x_str0, i_non, i_bl, i_str, i_tup, le1, le2, le3, le4, le5, decide_true, decide_false, true_implies, false_implies, reduceCtorEq, and_true, true_and, Bool.not_true, Bool.not_false, putA, List.length_nil, List.length_cons, List.set_set, reduceIte, Nat.reduceEqDiff, Nat.zero_ne_one, Nat.one_ne_zero, ne_eq, not_true_eq_false, not_false_eq_true, List.append_assoc, List.cons_append, List.nil_append, List.lookup_cons, List.lookup_nil, Nat.reduceBEq, beq_self_eq_true, Bool.and_true, Bool.true_and, Bool.false_and, Bool.and_false]
  refine ⟨fun hw1 => ?_, fun hw1 => ⟨fun hw2 => ?_, fun hw2 => ?_⟩⟩
  · refine take_ok (d := d + 6) ht (by rw [List.getElem?_set_self hb]) ho3 (by omega) (by decide) (by decide) fun x o4 x0 x1 ho4 => ?_
    rw [List.set_set]
    refine ⟨len_ok (by decide), ?_⟩
    have vr : VR rows ⟨"done", xs, x, .nil⟩ := ⟨.inl rfl, by show xs.length ≤ 400; omega, hns, decide_eq_true (by show 0 ≤ x ∧ x ≤ 1000; omega), fun e => absurd e nb1, fun _ => rfl, rfl⟩
    refine ret_d (d := toR ⟨"done", xs, x, .nil⟩) (okE_data (toR_ok vr.szR)) ?_ (hQ _ o4 vr (by show xs.length ≤ 3; omega) x0 (by show x ≤ 48; omega) (ho4.mono (by omega)))
    have := trunc_set (S := S) (N := []) (b := b) (bag_low ho4)
    rwa [List.append_nil] at this
  · refine take_ok (d := d + 6) ht (by rw [List.getElem?_set_self hb]) ho3 (by omega) (by decide) (by decide) fun x o4 x0 x1 ho4 => ?_
    rw [List.set_set]
    refine ⟨len_ok (by decide), ?_⟩
    have vr : VR rows ⟨"left", xs, x, .nil⟩ := ⟨.inr (.inl rfl), by show xs.length ≤ 400; omega, hns, decide_eq_true (by show 0 ≤ x ∧ x ≤ 1000; omega), fun e => absurd e nb2, fun _ => rfl, rfl⟩
    refine ret_d (d := toR ⟨"left", xs, x, .nil⟩) (okE_data (toR_ok vr.szR)) ?_ (hQ _ o4 vr (by show xs.length ≤ 3; omega) x0 (by show x ≤ 48; omega) (ho4.mono (by omega)))
    have := trunc_set (S := S) (N := []) (b := b) (bag_low ho4)
    rwa [List.append_nil] at this
  · refine take_ok (d := d + 6) ht (by rw [List.getElem?_set_self hb]) ho3 (by omega) (by decide) (by decide) fun x o4 x0 x1 ho4 => ?_
    rw [List.set_set]
    have m0 : ∀ T, mat (.new (.lst [.int 0])) T = (.ref T.length, T ++ [.lst [.int 0]]) := fun T => mat_lstd rfl
    simp only [tB_mat, m0, List.length_set, we_var, we_non, we_bl, we_int, we_str, ws_nil, ws_cons, we_tup, we_lst, we_bin, we_neg, we_cmp, we_chain, we_and1, we_or1, we_and, we_or, we_not, we_ite, we_idx, wo_none, wo_some, we_slc, we_attr, we_call, we_meth, we_make, we_makek, wmake, we_blt, we_bm, we_isi, we_comp, wf_nil, wf_one, wt_tru, wi_of, wi_zip, wi_range, wi_enum, wg_name, wg_tup, wg_wtp, wg_nil, wg_cons, optQ_some, optQ_if, optQ_map, optQ_bind, tst_bl, tst_non, tst_int, b_add, b_sub, b_mul, b_fdiv, b_mod, b_pow, c_lt, c_le, c_gt, c_ge, c_eqI, c_neI, c_isI, c_notI, c_isN, c_notN, i_ii, i_ib, n_i, d_i, l_min, l_max, x_ref, x_new, x_tup, s_new, s_tup, y_new, at_0, at_1, at_2, mat_int, mat_bl, mat_str, mat_non, mat_ref, mats_nil, mats_cons, mat_tup, Option.isSome_some, List.getElem?_cons_zero, List.getElem?_cons_succ, List.set_cons_zero, List.set_cons_succ, decide_eq_true_eq, decide_eq_false_iff_not, wp_ok, st_ite, st_set, st_expr, st_ret, st_retN, st_pass, st_cont, st_unp, st_par, st_sub, st_for, st_wh, sq_nx, sq_rt, sq_ct, sq_bk, ss_nil, ss_cons, rq_f, rq_n, we_dct, we_revs, we_comp2, we_dcomp, io_str, io_tup, io_new, tst_b, tst_str, tst_tup, len_tup, len_new, all_new, any_new, lis_tup, tup_new, c_eqS, c_neS, c_eqB, c_neB, c_isT, c_notT, c_isS, c_notS, at_3, at_4, at_m1, x_str0, i_non, i_bl, i_str, i_tup, le1, le2, le3, le4, le5, decide_true, decide_false, true_implies, false_implies, reduceCtorEq, and_true, true_and, Bool.not_true, Bool.not_false, putA, List.length_nil, List.length_cons, List.set_set, reduceIte, Nat.reduceEqDiff, Nat.zero_ne_one, Nat.one_ne_zero, ne_eq, not_true_eq_false, not_false_eq_true, List.append_assoc, List.cons_append, List.nil_append, List.lookup_cons, List.lookup_nil, Nat.reduceBEq, beq_self_eq_true, Bool.and_true, Bool.true_and, Bool.false_and, Bool.and_false]
    refine ⟨len_ok (by decide), ?_⟩
    have hd2 : db 2 = 82 := rfl
    refine small_ok hs hk ht hw hl (b := b) (c := S.length) (by omega) 2 (cnt := 0) (by omega) (by rw [List.getElem?_append_left (by simpa using hb), List.getElem?_set_self hb]) ho4 (by omega) ?_ (by omega) fun f m o5 hs5 ho5 => ?_
    · have := at_e0 (S := S.set b o4) (a := O.lst [.int 0]) (r := [])
      rwa [List.length_set] at this
    refine ⟨len_ok (by decide), ?_⟩
    have m16 : m ≤ 16 := hs5.mm
    have vr : VR rows ⟨"bad", xs, 40 + x, f⟩ := ⟨.inr (.inr rfl), by show xs.length ≤ 400; omega, hns, decide_eq_true (by show 0 ≤ 40 + x ∧ 40 + x ≤ 1000; omega), fun _ => ⟨hs5.nn, by have := hs5.dp; show dpF f ≤ 5; omega, by have := hs5.nd; have e : nb 2 = 21 := rfl; show ndF f ≤ 50000; omega, hs5.v (by omega) (by omega), by have := congrArg List.length hs5.nums; rw [List.length_map, seqI_len] at this; show (onF f).length ≤ 200; omega, by show ((onF f).map Fa.num).Nodup; rw [hs5.nums]; exact seqI_nodup _ _⟩, fun e => absurd rfl e, hs5.sz⟩
    refine ret_d (d := toR ⟨"bad", xs, 40 + x, f⟩) (okE_data (toR_ok vr.szR)) ?_ (hQ _ o5 vr (by show xs.length ≤ 3; omega) (by show 0 ≤ 40 + x; omega) (by show 40 + x ≤ 48; omega) (ho5.mono (by omega)))
    have e : stS (S.set b o4 ++ [O.lst [.int 0]]) b S.length o5 (0 + m) = S.set b o5 ++ [O.lst [.int (0 + m)]] := by
      unfold stS
      rw [List.set_append_left _ _ (by simpa using hb), List.set_set]
      have := set_e0 (S := S.set b o5) (a := O.lst [.int 0]) (c := .lst [.int (0 + m)]) (r := [])
      rwa [List.length_set] at this
    rw [e]
    exact trunc_set (bag_low ho5)
end
end Nv
namespace Lwk41
open PySem PySem.Spec PyProof.Rows L2 Nv
/-- is_whole: 0 thing -/
def b0 : List Nv.St := [
    .ret (.and [(.isi (.var 0) .int), (.not (.isi (.var 0) .bool))])]
abbrev f0 : Nv.Fn := { name := "is_whole", ps := 1, slots := 1, gc := false, body := b0, pos := true }
/-- is_within: 0 thing, 1 low, 2 high -/
def b1 : List Nv.St := [
    .ret (.and [(.call 0 [(.var 0)]), (.chain .le .le (.var 1) (.var 0) (.var 2))])]
abbrev f1 : Nv.Fn := { name := "is_within", ps := 3, slots := 3, gc := false, body := b1, pos := true }
/-- is_name: 0 thing, 1 sign -/
def b2 : List Nv.St := [
    .ret (.and [(.isi (.var 0) .str), (.chain .le .le (.int 1) (.blt .len [(.var 0)]) (.glb 0)), (.blt .all [(.comp [("sign", 1)] (.name 1) (.of (.var 0)) [] (.cmp .inn (.var 1) (.glb 1)))])])]
abbrev f2 : Nv.Fn := { name := "is_name", ps := 1, slots := 2, gc := false, body := b2, pos := true }
/-- rises: 0 things, 1 one, 2 other -/
def b3 : List Nv.St := [
    .ret (.blt .all [(.comp [("one", 1), ("other", 2)] (.tup [(.name 1), (.name 2)]) (.zip (.var 0) (.slc (.var 0) (some (.int 1)) none)) [] (.cmp .lt (.var 1) (.var 2)))])]
abbrev f3 : Nv.Fn := { name := "rises", ps := 1, slots := 3, gc := false, body := b3, pos := true }
/-- is_pair: 0 thing -/
def b4 : List Nv.St := [
    .ret (.and [(.isi (.var 0) .tuple), (.cmp .eq (.blt .len [(.var 0)]) (.int 2)), (.call 2 [(.idx (.var 0) (.int 0))]), (.call 2 [(.idx (.var 0) (.int 1))]), (.cmp .ne (.idx (.var 0) (.int 0)) (.glb 2))])]
abbrev f4 : Nv.Fn := { name := "is_pair", ps := 1, slots := 1, gc := false, body := b4, pos := true }
/-- chain_in: 0 book, 1 kind, 2 table, 3 found -/
def b5 : List Nv.St := [
    .set 2 (.blt .dict [(.var 0)]),
    .set 3 (.lst [(.var 1)]),
    .wh (.and [(.cmp .inn (.idx (.var 3) (.neg (.int 1))) (.var 2)), (.cmp .le (.blt .len [(.var 3)]) (.blt .len [(.var 2)]))]) [
      .expr (.bm .append (.var 3) [(.idx (.var 2) (.idx (.var 3) (.neg (.int 1))))])],
    .ret (.var 3)]
abbrev f5 : Nv.Fn := { name := "chain_in", ps := 2, slots := 4, gc := true, body := b5, pos := true }
/-- is_book: 0 thing, 1 one -/
def b6 : List Nv.St := [
    .ite (.or [(.not (.isi (.var 0) .tuple)), (.cmp .gt (.blt .len [(.var 0)]) (.glb 3)), (.not (.blt .all [(.comp [("one", 1)] (.name 1) (.of (.var 0)) [] (.call 4 [(.var 1)]))]))]) [
      .ret (.bl false)] [],
    .ret (.and [(.call 3 [(.comp [("one", 1)] (.name 1) (.of (.var 0)) [] (.idx (.var 1) (.int 0)))]), (.blt .all [(.comp [("one", 1)] (.name 1) (.of (.var 0)) [] (.cmp .eq (.idx (.call 5 [(.var 0), (.idx (.var 1) (.int 0))]) (.neg (.int 1))) (.glb 2)))])])]
abbrev f6 : Nv.Fn := { name := "is_book", ps := 1, slots := 2, gc := true, body := b6, pos := true }
/-- look_at_book: 0 book -/
def b7 : List Nv.St := [
    .ite (.not (.call 6 [(.var 0)])) [
      .raise] []]
abbrev f7 : Nv.Fn := { name := "look_at_book", ps := 1, slots := 1, gc := false, body := b7, pos := true }
/-- is_kind: 0 book, 1 thing -/
def b8 : List Nv.St := [
    .ret (.and [(.isi (.var 1) .str), (.or [(.cmp .eq (.var 1) (.glb 2)), (.cmp .inn (.var 1) (.blt .dict [(.var 0)]))])])]
abbrev f8 : Nv.Fn := { name := "is_kind", ps := 2, slots := 2, gc := false, body := b8, pos := true }
/-- cause_of: 0 fault -/
def b9 : List Nv.St := [
    .ret (.idx (.var 0) (.neg (.int 1)))]
abbrev f9 : Nv.Fn := { name := "cause_of", ps := 1, slots := 1, gc := false, body := b9, pos := true }
/-- ones_in: 0 fault, 1 found, 2 left, 3 here, 4 some -/
def b10 : List Nv.St := [
    .set 1 (.lst []),
    .set 2 (.lst [(.var 0)]),
    .wh (.cmp .ne (.var 2) (.lst [])) [
      .set 3 (.bm .popAt (.var 2) [(.int 0)]),
      .ite (.cmp .eq (.idx (.var 3) (.int 0)) (.str "one")) [
        .expr (.bm .append (.var 1) [(.var 3)])] [],
      .set 4 (.ite (.cmp .eq (.idx (.var 3) (.int 0)) (.str "many")) (.blt .list [(.idx (.var 3) (.int 1))]) (.lst [])),
      .ite (.cmp .notN (.call 9 [(.var 3)]) .non) [
        .expr (.bm .append (.var 4) [(.call 9 [(.var 3)])])] [],
      .set 2 (.bin .add (.var 4) (.var 2))],
    .ret (.var 1)]
abbrev f10 : Nv.Fn := { name := "ones_in", ps := 1, slots := 5, gc := true, body := b10, pos := true }
/-- is_formed: 0 book, 1 thing, 2 deep, 3 good, 4 one -/
def b11 : List Nv.St := [
    .ite (.or [(.cmp .eq (.var 2) (.int 0)), (.not (.isi (.var 1) .tuple)), (.cmp .eq (.var 1) (.tup [])), (.not (.isi (.idx (.var 1) (.int 0)) .str))]) [
      .ret (.bl false)] [],
    .ite (.cmp .eq (.idx (.var 1) (.int 0)) (.str "one")) [
      .ite (.or [(.cmp .ne (.blt .len [(.var 1)]) (.int 5)), (.not (.call 1 [(.idx (.var 1) (.int 1)), (.int 0), (.glb 4)])), (.not (.call 8 [(.var 0), (.idx (.var 1) (.int 2))]))]) [
        .ret (.bl false)] [],
      .set 3 (.call 1 [(.idx (.var 1) (.int 3)), (.int 0), (.glb 5)])] [
      .ite (.cmp .eq (.idx (.var 1) (.int 0)) (.str "many")) [
        .ite (.or [(.cmp .ne (.blt .len [(.var 1)]) (.int 3)), (.not (.isi (.idx (.var 1) (.int 1)) .tuple)), (.not (.chain .le .le (.int 1) (.blt .len [(.idx (.var 1) (.int 1))]) (.glb 6)))]) [
          .ret (.bl false)] [],
        .set 3 (.blt .all [(.comp [("one", 4)] (.name 4) (.of (.idx (.var 1) (.int 1))) [] (.call 11 [(.var 0), (.var 4), (.bin .sub (.var 2) (.int 1))]))])] [
        .set 3 (.bl false)]],
    .ret (.and [(.var 3), (.or [(.cmp .isN (.call 9 [(.var 1)]) .non), (.call 11 [(.var 0), (.call 9 [(.var 1)]), (.bin .sub (.var 2) (.int 1))])])])]
abbrev f11 : Nv.Fn := { name := "is_formed", ps := 3, slots := 5, gc := false, body := b11, pos := true }
/-- numbers_agree: 0 fault, 1 table, 2 one -/
def b12 : List Nv.St := [
    .set 1 (.dct []),
    .forr (.name 2) (.of (.call 10 [(.var 0)])) [
      .ite (.cmp .ne (.bm .setdefault (.var 1) [(.idx (.var 2) (.int 1)), (.slc (.var 2) (some (.int 2)) (some (.int 4)))]) (.slc (.var 2) (some (.int 2)) (some (.int 4)))) [
        .ret (.bl false)] []] none,
    .ret (.bl true)]
abbrev f12 : Nv.Fn := { name := "numbers_agree", ps := 1, slots := 3, gc := true, body := b12, pos := true }
/-- is_fault: 0 book, 1 thing -/
def b13 : List Nv.St := [
    .expr (.call 7 [(.var 0)]),
    .ret (.and [(.call 11 [(.var 0), (.var 1), (.glb 7)]), (.cmp .le (.blt .len [(.call 10 [(.var 1)])]) (.glb 8)), (.call 12 [(.var 1)])])]
abbrev f13 : Nv.Fn := { name := "is_fault", ps := 2, slots := 2, gc := false, body := b13, pos := true }
/-- caused: 0 fault, 1 cause -/
def b14 : List Nv.St := [
    .ite (.or [(.cmp .isN (.var 1) .non), (.cmp .eq (.var 0) (.var 1)), (.cmp .notN (.call 9 [(.var 0)]) .non)]) [
      .ret (.var 0)] [],
    .ret (.bin .add (.slc (.var 0) none (some (.neg (.int 1)))) (.tup [(.var 1)]))]
abbrev f14 : Nv.Fn := { name := "caused", ps := 2, slots := 2, gc := false, body := b14, pos := true }
/-- shifted: 0 fault, 1 by, 2 cause, 3 member -/
def b15 : List Nv.St := [
    .ite (.cmp .isN (.var 0) .non) [
      .ret .non] [],
    .set 2 (.call 15 [(.call 9 [(.var 0)]), (.var 1)]),
    .ite (.cmp .eq (.idx (.var 0) (.int 0)) (.str "one")) [
      .ret (.tup [(.str "one"), (.bin .add (.idx (.var 0) (.int 1)) (.var 1)), (.idx (.var 0) (.int 2)), (.idx (.var 0) (.int 3)), (.var 2)])] [],
    .ret (.tup [(.str "many"), (.blt .tuple [(.comp [("member", 3)] (.name 3) (.of (.idx (.var 0) (.int 1))) [] (.call 15 [(.var 3), (.var 1)]))]), (.var 2)])]
abbrev f15 : Nv.Fn := { name := "shifted", ps := 2, slots := 4, gc := false, body := b15, pos := true }
/-- is_result: 0 book, 1 thing, 2 note -/
def b16 : List Nv.St := [
    .expr (.call 7 [(.var 0)]),
    .ite (.or [(.not (.isi (.var 1) .tuple)), (.cmp .ne (.blt .len [(.var 1)]) (.int 4)), (.not (.isi (.idx (.var 1) (.int 0)) .str)), (.cmp .nin (.idx (.var 1) (.int 0)) (.glb 9))]) [
      .ret (.bl false)] [],
    .ite (.or [(.not (.isi (.idx (.var 1) (.int 1)) .tuple)), (.cmp .gt (.blt .len [(.idx (.var 1) (.int 1))]) (.glb 10)), (.not (.call 1 [(.idx (.var 1) (.int 2)), (.int 0), (.glb 11)]))]) [
      .ret (.bl false)] [],
    .ite (.not (.blt .all [(.comp [("note", 2)] (.name 2) (.of (.idx (.var 1) (.int 1))) [] (.call 1 [(.var 2), (.int 0), (.glb 5)]))])) [
      .ret (.bl false)] [],
    .ret (.ite (.cmp .eq (.idx (.var 1) (.int 0)) (.str "bad")) (.call 13 [(.var 0), (.idx (.var 1) (.int 3))]) (.cmp .isN (.idx (.var 1) (.int 3)) .non))]
abbrev f16 : Nv.Fn := { name := "is_result", ps := 2, slots := 3, gc := false, body := b16, pos := true }
/-- then: 0 one, 1 other -/
def b17 : List Nv.St := [
    .ite (.cmp .ne (.idx (.var 0) (.int 0)) (.str "done")) [
      .ret (.var 0)] [],
    .ret (.tup [(.idx (.var 1) (.int 0)), (.bin .add (.idx (.var 0) (.int 1)) (.idx (.var 1) (.int 1))), (.bin .add (.idx (.var 0) (.int 2)) (.idx (.var 1) (.int 2))), (.call 15 [(.idx (.var 1) (.int 3)), (.idx (.var 0) (.int 2))])])]
abbrev f17 : Nv.Fn := { name := "then", ps := 2, slots := 2, gc := false, body := b17, pos := true }
/-- ensured: 0 one, 1 other, 2 notes, 3 count -/
def b18 : List Nv.St := [
    .set 2 (.bin .add (.idx (.var 0) (.int 1)) (.idx (.var 1) (.int 1))),
    .set 3 (.bin .add (.idx (.var 0) (.int 2)) (.idx (.var 1) (.int 2))),
    .ite (.cmp .eq (.idx (.var 1) (.int 0)) (.str "bad")) [
      .ret (.tup [(.str "bad"), (.var 2), (.var 3), (.call 14 [(.call 15 [(.idx (.var 1) (.int 3)), (.idx (.var 0) (.int 2))]), (.idx (.var 0) (.int 3))])])] [],
    .ret (.tup [(.idx (.var 0) (.int 0)), (.var 2), (.var 3), (.idx (.var 0) (.int 3))])]
abbrev f18 : Nv.Fn := { name := "ensured", ps := 2, slots := 4, gc := false, body := b18, pos := true }
/-- chained: 0 book, 1 results, 2 found, 3 one -/
def b19 : List Nv.St := [
    .expr (.call 7 [(.var 0)]),
    .set 2 (.tup [(.str "done"), (.tup []), (.int 0), .non]),
    .forr (.name 3) (.of (.var 1)) [
      .ite (.not (.call 16 [(.var 0), (.var 3)])) [
        .raise] [],
      .set 2 (.call 17 [(.var 2), (.var 3)])] none,
    .ret (.var 2)]
abbrev f19 : Nv.Fn := { name := "chained", ps := 2, slots := 4, gc := true, body := b19, pos := true }
/-- _law_well: 0 cell, 1 turn -/
def b20 : List Nv.St := [
    .ite (.cmp .ge (.var 0) (.bin .pow (.int 10) (.int 18))) [
      .ret (.lst [(.bin .sub (.var 0) (.bin .pow (.int 10) (.int 18))), (.bin .mod (.var 0) (.int 2305843009213693951)), (.var 1)])] [],
    .ret (.lst [(.int 0), (.bin .mod (.var 0) (.int 2305843009213693951)), (.var 1)])]
abbrev f20 : Nv.Fn := { name := "_law_well", ps := 2, slots := 2, gc := false, body := b20, pos := true }
/-- _law_take: 0 bag, 1 many, 2 found, 3 p, 4 n -/
def b21 : List Nv.St := [
    .ite (.cmp .gt (.idx (.var 0) (.int 0)) (.int 0)) [
      .set 2 (.bin .mod (.idx (.var 0) (.int 0)) (.var 1)),
      .sub (.var 0) (.int 0) (.bin .fdiv (.idx (.var 0) (.int 0)) (.var 1)),
      .ret (.var 2)] [],
    .sub (.var 0) (.int 2) (.bin .add (.idx (.var 0) (.int 2)) (.int 1)),
    .set 3 (.int 2305843009213693951),
    .set 4 (.bin .mod (.bin .add (.idx (.var 0) (.int 1)) (.bin .mul (.int 1000003) (.idx (.var 0) (.int 2)))) (.var 3)),
    .set 4 (.bin .mod (.bin .add (.bin .add (.bin .mul (.var 4) (.var 4)) (.bin .mul (.int 7919) (.bin .pow (.idx (.var 0) (.int 2)) (.int 2)))) (.int 5)) (.var 3)),
    .ret (.bin .mod (.bin .fdiv (.bin .mod (.bin .pow (.var 4) (.int 3)) (.var 3)) (.int 13)) (.var 1))]
abbrev f21 : Nv.Fn := { name := "_law_take", ps := 2, slots := 5, gc := false, body := b21, pos := true }
/-- _law_bags: 0 script, 1 most, 2 k, 3 cell -/
def b22 : List Nv.St := [
    .ret (.comp [("k", 2), ("cell", 3)] (.tup [(.name 2), (.name 3)]) (.enum (.bin .add (.slc (.var 0) none (some (.var 1))) (.lst [(.int 0)]))) [] (.call 20 [(.var 3), (.bin .mul (.int 977) (.var 2))]))]
abbrev f22 : Nv.Fn := { name := "_law_bags", ps := 2, slots := 4, gc := false, body := b22, pos := true }
/-- _law_tree: 0 bag, 1 names, 2 rows, 3 k, 4 name -/
def b23 : List Nv.St := [
    .set 1 (.slc (.lst [(.str "disk"), (.str "late"), (.str "net"), (.str "zip")]) none (some (.call 21 [(.var 0), (.int 5)]))),
    .set 2 (.lst []),
    .forr (.tup [(.name 3), (.name 4)]) (.enum (.var 1)) [
      .expr (.bm .append (.var 2) [(.tup [(.var 4), (.idx (.bin .add (.lst [(.str "fault")]) (.slc (.var 1) none (some (.var 3)))) (.call 21 [(.var 0), (.bin .add (.var 3) (.int 1))]))])])] none,
    .ret (.blt .tuple [(.var 2)])]
abbrev f23 : Nv.Fn := { name := "_law_tree", ps := 1, slots := 5, gc := true, body := b23, pos := true }
/-- _law_a_kind: 0 bag, 1 book, 2 names, 3 row -/
def b24 : List Nv.St := [
    .set 2 (.bin .add (.comp [("row", 3)] (.name 3) (.of (.var 1)) [] (.idx (.var 3) (.int 0))) (.lst [(.str "fault")])),
    .ret (.idx (.var 2) (.call 21 [(.var 0), (.blt .len [(.var 2)])]))]
abbrev f24 : Nv.Fn := { name := "_law_a_kind", ps := 2, slots := 4, gc := true, body := b24, pos := true }
/-- _law_result: 0 bag, 1 book, 2 marks, 3 way, 4 turn -/
def b25 : List Nv.St := [
    .set 2 (.blt .tuple [(.comp [("turn", 4)] (.name 4) (.range [(.call 21 [(.var 0), (.int 4)])]) [] (.call 21 [(.var 0), (.int 1000)]))]),
    .set 3 (.call 21 [(.var 0), (.int 5)]),
    .ite (.cmp .lt (.var 3) (.int 3)) [
      .ret (.tup [(.str "done"), (.var 2), (.call 21 [(.var 0), (.int 5)]), .non])] [],
    .ite (.cmp .eq (.var 3) (.int 3)) [
      .ret (.tup [(.str "left"), (.var 2), (.call 21 [(.var 0), (.int 5)]), .non])] [],
    .ret (.tup [(.str "bad"), (.var 2), (.bin .add (.int 40) (.call 21 [(.var 0), (.int 9)])), (.call 26 [(.var 0), (.var 1), (.int 2), (.lst [(.int 0)])])])]
abbrev f25 : Nv.Fn := { name := "_law_result", ps := 2, slots := 5, gc := true, body := b25, pos := true }
/-- _law_small: 0 bag, 1 book, 2 deep, 3 count, 4 rows, 5 number, 6 cause, 7 turn -/
def b26 : List Nv.St := [
    .ite (.and [(.cmp .gt (.var 2) (.int 0)), (.cmp .eq (.call 21 [(.var 0), (.int 3)]) (.int 0))]) [
      .set 4 (.blt .tuple [(.comp [("turn", 7)] (.name 7) (.range [(.bin .add (.int 1) (.call 21 [(.var 0), (.int 3)]))]) [] (.call 26 [(.var 0), (.var 1), (.bin .sub (.var 2) (.int 1)), (.var 3)]))]),
      .ret (.tup [(.str "many"), (.var 4), (.ite (.cmp .eq (.call 21 [(.var 0), (.int 5)]) (.int 0)) (.call 26 [(.var 0), (.var 1), (.bin .sub (.var 2) (.int 1)), (.var 3)]) .non)])] [],
    .sub (.var 3) (.int 0) (.bin .add (.idx (.var 3) (.int 0)) (.int 1)),
    .set 5 (.idx (.var 3) (.int 0)),
    .set 6 (.ite (.and [(.cmp .gt (.var 2) (.int 0)), (.cmp .eq (.call 21 [(.var 0), (.int 3)]) (.int 0))]) (.call 26 [(.var 0), (.var 1), (.bin .sub (.var 2) (.int 1)), (.var 3)]) .non),
    .ret (.tup [(.str "one"), (.var 5), (.call 24 [(.var 0), (.var 1)]), (.call 21 [(.var 0), (.int 1000)]), (.var 6)])]
abbrev f26 : Nv.Fn := { name := "_law_small", ps := 4, slots := 8, gc := false, body := b26, pos := true }
/-- law: 0 script, 1 bag, 2 book, 3 a, 4 b, 5 c, 6 none, 7 whole -/
def b27 : List Nv.St := [
    .forr (.name 1) (.of (.call 22 [(.var 0), (.int 10)])) [
      .set 2 (.call 23 [(.var 1)]),
      .par [3, 4, 5] [(.call 25 [(.var 1), (.var 2)]), (.call 25 [(.var 1), (.var 2)]), (.call 25 [(.var 1), (.var 2)])],
      .set 6 (.tup [(.str "done"), (.tup []), (.int 0), .non]),
      .ite (.or [(.cmp .ne (.call 17 [(.var 3), (.call 17 [(.var 4), (.var 5)])]) (.call 17 [(.call 17 [(.var 3), (.var 4)]), (.var 5)])), (.cmp .ne (.call 17 [(.var 6), (.var 3)]) (.var 3)), (.cmp .ne (.call 17 [(.var 3), (.var 6)]) (.var 3))]) [
        .ret (.bl false)] [],
      .ite (.and [(.cmp .ne (.idx (.var 3) (.int 0)) (.str "done")), (.cmp .ne (.call 17 [(.var 3), (.var 4)]) (.var 3))]) [
        .ret (.bl false)] [],
      .ite (.or [(.cmp .ne (.call 18 [(.var 3), (.var 6)]) (.var 3)), (.cmp .ne (.slc (.call 18 [(.var 6), (.var 4)]) (some (.int 1)) none) (.slc (.var 4) (some (.int 1)) none))]) [
        .ret (.bl false)] [],
      .ite (.and [(.cmp .eq (.idx (.var 4) (.int 0)) (.str "done")), (.cmp .ne (.call 18 [(.call 18 [(.var 3), (.var 4)]), (.var 5)]) (.call 18 [(.var 3), (.call 17 [(.var 4), (.var 5)])]))]) [
        .ret (.bl false)] [],
      .set 7 (.call 18 [(.var 3), (.var 4)]),
      .ite (.or [(.cmp .ne (.idx (.var 7) (.int 1)) (.bin .add (.idx (.var 3) (.int 1)) (.idx (.var 4) (.int 1)))), (.cmp .ne (.idx (.var 7) (.int 2)) (.bin .add (.idx (.var 3) (.int 2)) (.idx (.var 4) (.int 2))))]) [
        .ret (.bl false)] [],
      .ite (.cmp .ne (.cmp .eq (.idx (.var 7) (.int 0)) (.str "bad")) (.or [(.cmp .eq (.idx (.var 3) (.int 0)) (.str "bad")), (.cmp .eq (.idx (.var 4) (.int 0)) (.str "bad"))])) [
        .ret (.bl false)] [],
      .ite (.or [(.cmp .ne (.call 19 [(.var 2), (.lst [(.var 3), (.var 4), (.var 5)])]) (.call 17 [(.var 3), (.call 17 [(.var 4), (.var 5)])])), (.cmp .ne (.call 19 [(.var 2), (.lst [])]) (.var 6))]) [
        .ret (.bl false)] []] (some [1, 2, 3, 4, 5, 6, 7]),
    .ret (.bl true)]
abbrev f27 : Nv.Fn := { name := "law", ps := 1, slots := 8, gc := false, body := b27, pos := true }
def P : Nv.Prog where
  fns := [f0, f1, f2, f3, f4, f5, f6, f7, f8, f9, f10, f11, f12, f13, f14, f15, f16, f17, f18, f19, f20, f21, f22, f23, f24, f25, f26, f27]
  cls := []
  globs := [("MOST_NAME", .int 8), ("LETTERS", .str "abcdefghijklmnopqrstuvwxyz"), ("TOP", .str "fault"), ("MOST_KINDS", .int 12), ("MOST_NUMBER", .int 1000000), ("MOST_NOTE", .int 999), ("MOST_MEMBERS", .int 200), ("MOST_DEEP", .int 160), ("MOST_ONES", .int 200), ("WORDS", .tup [.str "done", .str "left", .str "bad"]), ("MOST_NOTES", .int 400), ("MOST_COUNT", .int 1000)]
  syms := []
  nf := 0
  free := ["isinstance", "int", "bool", "str", "len", "all", "zip", "tuple", "dict", "list", "enumerate", "range"]
  kws := []
/-! ### the text -/
def top (i : Nat) : Stmt := PySem.Challenge.pw_faultward_k41_whole_results_go_together.main.body.getD i (.Pass ⟨0, 0, 0, 0⟩)
def mth (i j : Nat) : Stmt := (Nv.clsB (top i)).getD j (.Pass ⟨0, 0, 0, 0⟩)
def d0 : He.DefD := ⟨("is_whole", none), "is_whole", "is_whole", defArgs (top 11), defBody (top 11), defScope (top 11), [], []⟩
def d1 : He.DefD := ⟨("is_within", none), "is_within", "is_within", defArgs (top 12), defBody (top 12), defScope (top 12), [], []⟩
def d2 : He.DefD := ⟨("is_name", none), "is_name", "is_name", defArgs (top 13), defBody (top 13), defScope (top 13), [], []⟩
def d3 : He.DefD := ⟨("rises", none), "rises", "rises", defArgs (top 14), defBody (top 14), defScope (top 14), [], []⟩
def d4 : He.DefD := ⟨("is_pair", none), "is_pair", "is_pair", defArgs (top 15), defBody (top 15), defScope (top 15), [], []⟩
def d5 : He.DefD := ⟨("chain_in", none), "chain_in", "chain_in", defArgs (top 16), defBody (top 16), defScope (top 16), [], []⟩
def d6 : He.DefD := ⟨("is_book", none), "is_book", "is_book", defArgs (top 17), defBody (top 17), defScope (top 17), [], []⟩
def d7 : He.DefD := ⟨("look_at_book", none), "look_at_book", "look_at_book", defArgs (top 18), defBody (top 18), defScope (top 18), [], []⟩
def d8 : He.DefD := ⟨("is_kind", none), "is_kind", "is_kind", defArgs (top 19), defBody (top 19), defScope (top 19), [], []⟩
def d9 : He.DefD := ⟨("cause_of", none), "cause_of", "cause_of", defArgs (top 26), defBody (top 26), defScope (top 26), [], []⟩
def d10 : He.DefD := ⟨("ones_in", none), "ones_in", "ones_in", defArgs (top 27), defBody (top 27), defScope (top 27), [], []⟩
def d11 : He.DefD := ⟨("is_formed", none), "is_formed", "is_formed", defArgs (top 28), defBody (top 28), defScope (top 28), [], []⟩
def d12 : He.DefD := ⟨("numbers_agree", none), "numbers_agree", "numbers_agree", defArgs (top 29), defBody (top 29), defScope (top 29), [], []⟩
def d13 : He.DefD := ⟨("is_fault", none), "is_fault", "is_fault", defArgs (top 30), defBody (top 30), defScope (top 30), [], []⟩
def d14 : He.DefD := ⟨("caused", none), "caused", "caused", defArgs (top 31), defBody (top 31), defScope (top 31), [], []⟩
def d15 : He.DefD := ⟨("shifted", none), "shifted", "shifted", defArgs (top 32), defBody (top 32), defScope (top 32), [], []⟩
def d16 : He.DefD := ⟨("is_result", none), "is_result", "is_result", defArgs (top 37), defBody (top 37), defScope (top 37), [], []⟩
def d17 : He.DefD := ⟨("then", none), "then", "then", defArgs (top 38), defBody (top 38), defScope (top 38), [], []⟩
def d18 : He.DefD := ⟨("ensured", none), "ensured", "ensured", defArgs (top 39), defBody (top 39), defScope (top 39), [], []⟩
def d19 : He.DefD := ⟨("chained", none), "chained", "chained", defArgs (top 40), defBody (top 40), defScope (top 40), [], []⟩
def d20 : He.DefD := ⟨("_law_well", none), "_law_well", "_law_well", defArgs (top 42), defBody (top 42), defScope (top 42), [], []⟩
def d21 : He.DefD := ⟨("_law_take", none), "_law_take", "_law_take", defArgs (top 43), defBody (top 43), defScope (top 43), [], []⟩
def d22 : He.DefD := ⟨("_law_bags", none), "_law_bags", "_law_bags", defArgs (top 44), defBody (top 44), defScope (top 44), [], []⟩
def d23 : He.DefD := ⟨("_law_tree", none), "_law_tree", "_law_tree", defArgs (top 45), defBody (top 45), defScope (top 45), [], []⟩
def d24 : He.DefD := ⟨("_law_a_kind", none), "_law_a_kind", "_law_a_kind", defArgs (top 46), defBody (top 46), defScope (top 46), [], []⟩
def d25 : He.DefD := ⟨("_law_result", none), "_law_result", "_law_result", defArgs (top 47), defBody (top 47), defScope (top 47), [], []⟩
def d26 : He.DefD := ⟨("_law_small", none), "_law_small", "_law_small", defArgs (top 48), defBody (top 48), defScope (top 48), [], []⟩
def d27 : He.DefD := ⟨("law", none), "law", "law", defArgs (top 49), defBody (top 49), defScope (top 49), [], []⟩
def dn : List He.DefD := [d0, d1, d2, d3, d4, d5, d6, d7, d8, d9, d10, d11, d12, d13, d14, d15, d16, d17, d18, d19, d20, d21, d22, d23, d24, d25, d26, d27]
theorem df0 {K : PySem.W.Frag} (sy : He.SaysD (faOf P) dn K) : ∃ fd ps, DefOk (cxtN P K) P K (faN dn K 0) 0 f0 fd ps := by
  obtain ⟨fd, F⟩ := sy.def_ 0 (d := d0) rfl
  exact ⟨fd, ["thing"], ⟨["thing"], _, _, _, _, _, _, _, F, ⟨rfl, rfl, rfl, by decide +kernel, rfl, by decide +kernel, by decide +kernel⟩, rfl, by kernel_rfl⟩, rfl, F.kp, fun _ => F.bindsN (ps := ["thing"]) fun _ _ _ _ _ _ us hl => match us, hl with | [_], _ => rfl, fun _ h => nomatch h⟩
theorem df1 {K : PySem.W.Frag} (sy : He.SaysD (faOf P) dn K) : ∃ fd ps, DefOk (cxtN P K) P K (faN dn K 1) 1 f1 fd ps := by
  obtain ⟨fd, F⟩ := sy.def_ 1 (d := d1) rfl
  exact ⟨fd, ["thing", "low", "high"], ⟨["thing", "low", "high"], _, _, _, _, _, _, _, F, ⟨rfl, rfl, rfl, by decide +kernel, rfl, by decide +kernel, by decide +kernel⟩, rfl, by kernel_rfl⟩, rfl, F.kp, fun _ => F.bindsN (ps := ["thing", "low", "high"]) fun _ _ _ _ _ _ us hl => match us, hl with | [_, _, _], _ => rfl, fun _ h => nomatch h⟩
theorem df2 {K : PySem.W.Frag} (sy : He.SaysD (faOf P) dn K) : ∃ fd ps, DefOk (cxtN P K) P K (faN dn K 2) 2 f2 fd ps := by
  obtain ⟨fd, F⟩ := sy.def_ 2 (d := d2) rfl
  exact ⟨fd, ["thing"], ⟨["thing", "sign"], _, _, _, _, _, _, _, F, ⟨rfl, rfl, rfl, by decide +kernel, rfl, by decide +kernel, by decide +kernel⟩, rfl, by kernel_rfl⟩, rfl, F.kp, fun _ => F.bindsN (ps := ["thing"]) fun _ _ _ _ _ _ us hl => match us, hl with | [_], _ => rfl, fun _ h => nomatch h⟩
theorem df3 {K : PySem.W.Frag} (sy : He.SaysD (faOf P) dn K) : ∃ fd ps, DefOk (cxtN P K) P K (faN dn K 3) 3 f3 fd ps := by
  obtain ⟨fd, F⟩ := sy.def_ 3 (d := d3) rfl
  exact ⟨fd, ["things"], ⟨["things", "one", "other"], _, _, _, _, _, _, _, F, ⟨rfl, rfl, rfl, by decide +kernel, rfl, by decide +kernel, by decide +kernel⟩, rfl, by kernel_rfl⟩, rfl, F.kp, fun _ => F.bindsN (ps := ["things"]) fun _ _ _ _ _ _ us hl => match us, hl with | [_], _ => rfl, fun _ h => nomatch h⟩
theorem df4 {K : PySem.W.Frag} (sy : He.SaysD (faOf P) dn K) : ∃ fd ps, DefOk (cxtN P K) P K (faN dn K 4) 4 f4 fd ps := by
  obtain ⟨fd, F⟩ := sy.def_ 4 (d := d4) rfl
  exact ⟨fd, ["thing"], ⟨["thing"], _, _, _, _, _, _, _, F, ⟨rfl, rfl, rfl, by decide +kernel, rfl, by decide +kernel, by decide +kernel⟩, rfl, by kernel_rfl⟩, rfl, F.kp, fun _ => F.bindsN (ps := ["thing"]) fun _ _ _ _ _ _ us hl => match us, hl with | [_], _ => rfl, fun _ h => nomatch h⟩
theorem df5 {K : PySem.W.Frag} (sy : He.SaysD (faOf P) dn K) : ∃ fd ps, DefOk (cxtN P K) P K (faN dn K 5) 5 f5 fd ps := by
  obtain ⟨fd, F⟩ := sy.def_ 5 (d := d5) rfl
  exact ⟨fd, ["book", "kind"], ⟨["book", "kind", "table", "found"], _, _, _, _, _, _, _, F, ⟨rfl, rfl, rfl, by decide +kernel, rfl, by decide +kernel, by decide +kernel⟩, rfl, by kernel_rfl⟩, rfl, F.kp, fun _ => F.bindsN (ps := ["book", "kind"]) fun _ _ _ _ _ _ us hl => match us, hl with | [_, _], _ => rfl, fun _ h => nomatch h⟩
theorem df6 {K : PySem.W.Frag} (sy : He.SaysD (faOf P) dn K) : ∃ fd ps, DefOk (cxtN P K) P K (faN dn K 6) 6 f6 fd ps := by
  obtain ⟨fd, F⟩ := sy.def_ 6 (d := d6) rfl
  exact ⟨fd, ["thing"], ⟨["thing", "one"], _, _, _, _, _, _, _, F, ⟨rfl, rfl, rfl, by decide +kernel, rfl, by decide +kernel, by decide +kernel⟩, rfl, by kernel_rfl⟩, rfl, F.kp, fun _ => F.bindsN (ps := ["thing"]) fun _ _ _ _ _ _ us hl => match us, hl with | [_], _ => rfl, fun _ h => nomatch h⟩
theorem df7 {K : PySem.W.Frag} (sy : He.SaysD (faOf P) dn K) : ∃ fd ps, DefOk (cxtN P K) P K (faN dn K 7) 7 f7 fd ps := by
  obtain ⟨fd, F⟩ := sy.def_ 7 (d := d7) rfl
  exact ⟨fd, ["book"], ⟨["book"], _, _, _, _, _, _, _, F, ⟨rfl, rfl, rfl, by decide +kernel, rfl, by decide +kernel, by decide +kernel⟩, rfl, by kernel_rfl⟩, rfl, F.kp, fun _ => F.bindsN (ps := ["book"]) fun _ _ _ _ _ _ us hl => match us, hl with | [_], _ => rfl, fun _ h => nomatch h⟩
theorem df8 {K : PySem.W.Frag} (sy : He.SaysD (faOf P) dn K) : ∃ fd ps, DefOk (cxtN P K) P K (faN dn K 8) 8 f8 fd ps := by
  obtain ⟨fd, F⟩ := sy.def_ 8 (d := d8) rfl
  exact ⟨fd, ["book", "thing"], ⟨["book", "thing"], _, _, _, _, _, _, _, F, ⟨rfl, rfl, rfl, by decide +kernel, rfl, by decide +kernel, by decide +kernel⟩, rfl, by kernel_rfl⟩, rfl, F.kp, fun _ => F.bindsN (ps := ["book", "thing"]) fun _ _ _ _ _ _ us hl => match us, hl with | [_, _], _ => rfl, fun _ h => nomatch h⟩
theorem df9 {K : PySem.W.Frag} (sy : He.SaysD (faOf P) dn K) : ∃ fd ps, DefOk (cxtN P K) P K (faN dn K 9) 9 f9 fd ps := by
  obtain ⟨fd, F⟩ := sy.def_ 9 (d := d9) rfl
  exact ⟨fd, ["fault"], ⟨["fault"], _, _, _, _, _, _, _, F, ⟨rfl, rfl, rfl, by decide +kernel, rfl, by decide +kernel, by decide +kernel⟩, rfl, by kernel_rfl⟩, rfl, F.kp, fun _ => F.bindsN (ps := ["fault"]) fun _ _ _ _ _ _ us hl => match us, hl with | [_], _ => rfl, fun _ h => nomatch h⟩
theorem df10 {K : PySem.W.Frag} (sy : He.SaysD (faOf P) dn K) : ∃ fd ps, DefOk (cxtN P K) P K (faN dn K 10) 10 f10 fd ps := by
  obtain ⟨fd, F⟩ := sy.def_ 10 (d := d10) rfl
  exact ⟨fd, ["fault"], ⟨["fault", "found", "left", "here", "some"], _, _, _, _, _, _, _, F, ⟨rfl, rfl, rfl, by decide +kernel, rfl, by decide +kernel, by decide +kernel⟩, rfl, by kernel_rfl⟩, rfl, F.kp, fun _ => F.bindsN (ps := ["fault"]) fun _ _ _ _ _ _ us hl => match us, hl with | [_], _ => rfl, fun _ h => nomatch h⟩
theorem df11 {K : PySem.W.Frag} (sy : He.SaysD (faOf P) dn K) : ∃ fd ps, DefOk (cxtN P K) P K (faN dn K 11) 11 f11 fd ps := by
  obtain ⟨fd, F⟩ := sy.def_ 11 (d := d11) rfl
  exact ⟨fd, ["book", "thing", "deep"], ⟨["book", "thing", "deep", "good", "one"], _, _, _, _, _, _, _, F, ⟨rfl, rfl, rfl, by decide +kernel, rfl, by decide +kernel, by decide +kernel⟩, rfl, by kernel_rfl⟩, rfl, F.kp, fun _ => F.bindsN (ps := ["book", "thing", "deep"]) fun _ _ _ _ _ _ us hl => match us, hl with | [_, _, _], _ => rfl, fun _ h => nomatch h⟩
theorem df12 {K : PySem.W.Frag} (sy : He.SaysD (faOf P) dn K) : ∃ fd ps, DefOk (cxtN P K) P K (faN dn K 12) 12 f12 fd ps := by
  obtain ⟨fd, F⟩ := sy.def_ 12 (d := d12) rfl
  exact ⟨fd, ["fault"], ⟨["fault", "table", "one"], _, _, _, _, _, _, _, F, ⟨rfl, rfl, rfl, by decide +kernel, rfl, by decide +kernel, by decide +kernel⟩, rfl, by kernel_rfl⟩, rfl, F.kp, fun _ => F.bindsN (ps := ["fault"]) fun _ _ _ _ _ _ us hl => match us, hl with | [_], _ => rfl, fun _ h => nomatch h⟩
theorem df13 {K : PySem.W.Frag} (sy : He.SaysD (faOf P) dn K) : ∃ fd ps, DefOk (cxtN P K) P K (faN dn K 13) 13 f13 fd ps := by
  obtain ⟨fd, F⟩ := sy.def_ 13 (d := d13) rfl
  exact ⟨fd, ["book", "thing"], ⟨["book", "thing"], _, _, _, _, _, _, _, F, ⟨rfl, rfl, rfl, by decide +kernel, rfl, by decide +kernel, by decide +kernel⟩, rfl, by kernel_rfl⟩, rfl, F.kp, fun _ => F.bindsN (ps := ["book", "thing"]) fun _ _ _ _ _ _ us hl => match us, hl with | [_, _], _ => rfl, fun _ h => nomatch h⟩
theorem df14 {K : PySem.W.Frag} (sy : He.SaysD (faOf P) dn K) : ∃ fd ps, DefOk (cxtN P K) P K (faN dn K 14) 14 f14 fd ps := by
  obtain ⟨fd, F⟩ := sy.def_ 14 (d := d14) rfl
  exact ⟨fd, ["fault", "cause"], ⟨["fault", "cause"], _, _, _, _, _, _, _, F, ⟨rfl, rfl, rfl, by decide +kernel, rfl, by decide +kernel, by decide +kernel⟩, rfl, by kernel_rfl⟩, rfl, F.kp, fun _ => F.bindsN (ps := ["fault", "cause"]) fun _ _ _ _ _ _ us hl => match us, hl with | [_, _], _ => rfl, fun _ h => nomatch h⟩
theorem df15 {K : PySem.W.Frag} (sy : He.SaysD (faOf P) dn K) : ∃ fd ps, DefOk (cxtN P K) P K (faN dn K 15) 15 f15 fd ps := by
  obtain ⟨fd, F⟩ := sy.def_ 15 (d := d15) rfl
  exact ⟨fd, ["fault", "by"], ⟨["fault", "by", "cause", "member"], _, _, _, _, _, _, _, F, ⟨rfl, rfl, rfl, by decide +kernel, rfl, by decide +kernel, by decide +kernel⟩, rfl, by kernel_rfl⟩, rfl, F.kp, fun _ => F.bindsN (ps := ["fault", "by"]) fun _ _ _ _ _ _ us hl => match us, hl with | [_, _], _ => rfl, fun _ h => nomatch h⟩
theorem df16 {K : PySem.W.Frag} (sy : He.SaysD (faOf P) dn K) : ∃ fd ps, DefOk (cxtN P K) P K (faN dn K 16) 16 f16 fd ps := by
  obtain ⟨fd, F⟩ := sy.def_ 16 (d := d16) rfl
  exact ⟨fd, ["book", "thing"], ⟨["book", "thing", "note"], _, _, _, _, _, _, _, F, ⟨rfl, rfl, rfl, by decide +kernel, rfl, by decide +kernel, by decide +kernel⟩, rfl, by kernel_rfl⟩, rfl, F.kp, fun _ => F.bindsN (ps := ["book", "thing"]) fun _ _ _ _ _ _ us hl => match us, hl with | [_, _], _ => rfl, fun _ h => nomatch h⟩
theorem df17 {K : PySem.W.Frag} (sy : He.SaysD (faOf P) dn K) : ∃ fd ps, DefOk (cxtN P K) P K (faN dn K 17) 17 f17 fd ps := by
  obtain ⟨fd, F⟩ := sy.def_ 17 (d := d17) rfl
  exact ⟨fd, ["one", "other"], ⟨["one", "other"], _, _, _, _, _, _, _, F, ⟨rfl, rfl, rfl, by decide +kernel, rfl, by decide +kernel, by decide +kernel⟩, rfl, by kernel_rfl⟩, rfl, F.kp, fun _ => F.bindsN (ps := ["one", "other"]) fun _ _ _ _ _ _ us hl => match us, hl with | [_, _], _ => rfl, fun _ h => nomatch h⟩
theorem df18 {K : PySem.W.Frag} (sy : He.SaysD (faOf P) dn K) : ∃ fd ps, DefOk (cxtN P K) P K (faN dn K 18) 18 f18 fd ps := by
  obtain ⟨fd, F⟩ := sy.def_ 18 (d := d18) rfl
  exact ⟨fd, ["one", "other"], ⟨["one", "other", "notes", "count"], _, _, _, _, _, _, _, F, ⟨rfl, rfl, rfl, by decide +kernel, rfl, by decide +kernel, by decide +kernel⟩, rfl, by kernel_rfl⟩, rfl, F.kp, fun _ => F.bindsN (ps := ["one", "other"]) fun _ _ _ _ _ _ us hl => match us, hl with | [_, _], _ => rfl, fun _ h => nomatch h⟩
theorem df19 {K : PySem.W.Frag} (sy : He.SaysD (faOf P) dn K) : ∃ fd ps, DefOk (cxtN P K) P K (faN dn K 19) 19 f19 fd ps := by
  obtain ⟨fd, F⟩ := sy.def_ 19 (d := d19) rfl
  exact ⟨fd, ["book", "results"], ⟨["book", "results", "found", "one"], _, _, _, _, _, _, _, F, ⟨rfl, rfl, rfl, by decide +kernel, rfl, by decide +kernel, by decide +kernel⟩, rfl, by kernel_rfl⟩, rfl, F.kp, fun _ => F.bindsN (ps := ["book", "results"]) fun _ _ _ _ _ _ us hl => match us, hl with | [_, _], _ => rfl, fun _ h => nomatch h⟩
theorem df20 {K : PySem.W.Frag} (sy : He.SaysD (faOf P) dn K) : ∃ fd ps, DefOk (cxtN P K) P K (faN dn K 20) 20 f20 fd ps := by
  obtain ⟨fd, F⟩ := sy.def_ 20 (d := d20) rfl
  exact ⟨fd, ["cell", "turn"], ⟨["cell", "turn"], _, _, _, _, _, _, _, F, ⟨rfl, rfl, rfl, by decide +kernel, rfl, by decide +kernel, by decide +kernel⟩, rfl, by kernel_rfl⟩, rfl, F.kp, fun _ => F.bindsN (ps := ["cell", "turn"]) fun _ _ _ _ _ _ us hl => match us, hl with | [_, _], _ => rfl, fun _ h => nomatch h⟩
theorem df21 {K : PySem.W.Frag} (sy : He.SaysD (faOf P) dn K) : ∃ fd ps, DefOk (cxtN P K) P K (faN dn K 21) 21 f21 fd ps := by
  obtain ⟨fd, F⟩ := sy.def_ 21 (d := d21) rfl
  exact ⟨fd, ["bag", "many"], ⟨["bag", "many", "found", "p", "n"], _, _, _, _, _, _, _, F, ⟨rfl, rfl, rfl, by decide +kernel, rfl, by decide +kernel, by decide +kernel⟩, rfl, by kernel_rfl⟩, rfl, F.kp, fun _ => F.bindsN (ps := ["bag", "many"]) fun _ _ _ _ _ _ us hl => match us, hl with | [_, _], _ => rfl, fun _ h => nomatch h⟩
theorem df22 {K : PySem.W.Frag} (sy : He.SaysD (faOf P) dn K) : ∃ fd ps, DefOk (cxtN P K) P K (faN dn K 22) 22 f22 fd ps := by
  obtain ⟨fd, F⟩ := sy.def_ 22 (d := d22) rfl
  exact ⟨fd, ["script", "most"], ⟨["script", "most", "k", "cell"], _, _, _, _, _, _, _, F, ⟨rfl, rfl, rfl, by decide +kernel, rfl, by decide +kernel, by decide +kernel⟩, rfl, by kernel_rfl⟩, rfl, F.kp, fun _ => F.bindsN (ps := ["script", "most"]) fun _ _ _ _ _ _ us hl => match us, hl with | [_, _], _ => rfl, fun _ h => nomatch h⟩
theorem df23 {K : PySem.W.Frag} (sy : He.SaysD (faOf P) dn K) : ∃ fd ps, DefOk (cxtN P K) P K (faN dn K 23) 23 f23 fd ps := by
  obtain ⟨fd, F⟩ := sy.def_ 23 (d := d23) rfl
  exact ⟨fd, ["bag"], ⟨["bag", "names", "rows", "k", "name"], _, _, _, _, _, _, _, F, ⟨rfl, rfl, rfl, by decide +kernel, rfl, by decide +kernel, by decide +kernel⟩, rfl, by kernel_rfl⟩, rfl, F.kp, fun _ => F.bindsN (ps := ["bag"]) fun _ _ _ _ _ _ us hl => match us, hl with | [_], _ => rfl, fun _ h => nomatch h⟩
theorem df24 {K : PySem.W.Frag} (sy : He.SaysD (faOf P) dn K) : ∃ fd ps, DefOk (cxtN P K) P K (faN dn K 24) 24 f24 fd ps := by
  obtain ⟨fd, F⟩ := sy.def_ 24 (d := d24) rfl
  exact ⟨fd, ["bag", "book"], ⟨["bag", "book", "names", "row"], _, _, _, _, _, _, _, F, ⟨rfl, rfl, rfl, by decide +kernel, rfl, by decide +kernel, by decide +kernel⟩, rfl, by kernel_rfl⟩, rfl, F.kp, fun _ => F.bindsN (ps := ["bag", "book"]) fun _ _ _ _ _ _ us hl => match us, hl with | [_, _], _ => rfl, fun _ h => nomatch h⟩
theorem df25 {K : PySem.W.Frag} (sy : He.SaysD (faOf P) dn K) : ∃ fd ps, DefOk (cxtN P K) P K (faN dn K 25) 25 f25 fd ps := by
  obtain ⟨fd, F⟩ := sy.def_ 25 (d := d25) rfl
  exact ⟨fd, ["bag", "book"], ⟨["bag", "book", "marks", "way", "turn"], _, _, _, _, _, _, _, F, ⟨rfl, rfl, rfl, by decide +kernel, rfl, by decide +kernel, by decide +kernel⟩, rfl, by kernel_rfl⟩, rfl, F.kp, fun _ => F.bindsN (ps := ["bag", "book"]) fun _ _ _ _ _ _ us hl => match us, hl with | [_, _], _ => rfl, fun _ h => nomatch h⟩
theorem df26 {K : PySem.W.Frag} (sy : He.SaysD (faOf P) dn K) : ∃ fd ps, DefOk (cxtN P K) P K (faN dn K 26) 26 f26 fd ps := by
  obtain ⟨fd, F⟩ := sy.def_ 26 (d := d26) rfl
  exact ⟨fd, ["bag", "book", "deep", "count"], ⟨["bag", "book", "deep", "count", "rows", "number", "cause", "turn"], _, _, _, _, _, _, _, F, ⟨rfl, rfl, rfl, by decide +kernel, rfl, by decide +kernel, by decide +kernel⟩, rfl, by kernel_rfl⟩, rfl, F.kp, fun _ => F.bindsN (ps := ["bag", "book", "deep", "count"]) fun _ _ _ _ _ _ us hl => match us, hl with | [_, _, _, _], _ => rfl, fun _ h => nomatch h⟩
theorem df27 {K : PySem.W.Frag} (sy : He.SaysD (faOf P) dn K) : ∃ fd ps, DefOk (cxtN P K) P K (faN dn K 27) 27 f27 fd ps := by
  obtain ⟨fd, F⟩ := sy.def_ 27 (d := d27) rfl
  exact ⟨fd, ["script"], ⟨["script", "bag", "book", "a", "b", "c", "none", "whole"], _, _, _, _, _, _, _, F, ⟨rfl, rfl, rfl, by decide +kernel, rfl, by decide +kernel, by decide +kernel⟩, rfl, by kernel_rfl⟩, rfl, F.kp, fun _ => F.bindsN (ps := ["script"]) fun _ _ _ _ _ _ us hl => match us, hl with | [_], _ => rfl, fun _ h => nomatch h⟩
theorem tab : tabB P dn = true := by kernel_rfl
theorem alld {K : PySem.W.Frag} (sy : He.SaysD (faOf P) dn K) : DefAll (cxtN P K) P K (faN dn K) 0 P.fns := ⟨df0 sy, df1 sy, df2 sy, df3 sy, df4 sy, df5 sy, df6 sy, df7 sy, df8 sy, df9 sy, df10 sy, df11 sy, df12 sy, df13 sy, df14 sy, df15 sy, df16 sy, df17 sy, df18 sy, df19 sy, df20 sy, df21 sy, df22 sy, df23 sy, df24 sy, df25 sy, df26 sy, df27 sy, trivial⟩
abbrev Ro : PySem.W.OpenRow := PySem.W.OpenLaw.row PySem.Challenge.rw_faultward_k41_whole_results_go_together
def ob (s : PySem.W.SharedT) : AlN := obsN 5 P dn (HandSHeadRun.getT s)
theorem ob_eq (s : PySem.W.SharedT) : ob s = (hookN 5 P dn).obs s.abs := obsN_eq (HandSHeadRun.getT_eq s)
def loose : List PySem.Str := ((PySem.Challenge.pw_faultward_k41_whole_results_go_together.main.scope.names.map (·.1)).filter fun x => decide (x ≠ "law") && decide (x ≠ "__name__"))
theorem run (w : World) : HandSHeadRun.RunEq Ro (PySem.W.view Ro.prog [49]) (hookN 5 P dn) ob 3000 loose w := by
  intro os
  kernel_rfl
theorem lawSc : FnScope ["script", "bag", "book", "a", "b", "c", "none", "whole"] ["script"] d27.scope := ⟨rfl, rfl, rfl, by decide +kernel, rfl, by decide +kernel, by decide +kernel⟩
end Lwk41
open PySem PySem.W PySem.Calls PyProof.Rows
theorem Lwk41.holds (main : ∀ ns : List Int, ns.length ≤ 63 → ∃ S, Nv.lawRun Lwk41.P 40 27 ns = .ok (.bl true) S) : PySem.Challenge.rw_faultward_k41_whole_results_go_together.Holds := by
  w_on; o_law
  refine HandSHeadRun.head_any (r := OpenLaw.row PySem.Challenge.rw_faultward_k41_whole_results_go_together) (q := view (OpenLaw.row PySem.Challenge.rw_faultward_k41_whole_results_go_together).prog [49]) (H := Nv.hookN 5 Lwk41.P Lwk41.dn) (ob := Lwk41.ob) (M := 3000) (loose := Lwk41.loose) (d := HandSHeadRun.topDef (OpenLaw.row PySem.Challenge.rw_faultward_k41_whole_results_go_together).prog 49) (kwd := []) Lwk41.ob_eq
    (by kernel_rfl) (fun s => by kernel_rfl) Lwk41.run (by kernel_rfl) (by kernel_rfl) (by kernel_rfl) (by rfl) (by first | assumption | decide +kernel) (by decide +kernel) ⟨rfl, rfl, rfl, rfl, rfl, by decide +kernel⟩ ?hw ?hc
  case hw => w_witness2
  case hc =>
    refine L2.walk_ofE (l := PySem.Challenge.rw_faultward_k41_whole_results_go_together) (n := 63) (k := 41) (x := "script") (CX := L2.CX0) rfl (by decide) (by kernel_rfl) ⟨rfl, by decide, by decide⟩ ?F (fun _ _ _ _ z => z)
    intro w mg fa h Y G hmg0
    obtain ⟨K, KX, sy, ex⟩ := Y
    have PFK := Nv.pf_of (w := w) KX G sy ex Lwk41.tab (Lwk41.alld sy)
    have hn : Nv.noL K = true := (Bool.and_eq_true_iff.mp ex).1
    have hmg : mg ("law" : PySem.Str) = some (.ref fa) := by
      have e : (HandSHeadRun.topDef (OpenLaw.row PySem.Challenge.rw_faultward_k41_whole_results_go_together).prog 49).name = ("law" : PySem.Str) := by kernel_rfl
      rw [← e]
      exact hmg0
    have hfa := (PFK.call_ 27 Lwk41.f27 rfl (by decide)).2
    have hfa : mg ("law" : PySem.Str) = some (.ref (Nv.faN Lwk41.dn K 27)) := hfa
    have e := hmg.symm.trans hfa
    cases e
    obtain ⟨fd, F⟩ := sy.def_ 27 (d := Lwk41.d27) rfl
    have D : Nv.DefOk (Nv.cxtN Lwk41.P K) Lwk41.P K (Nv.faN Lwk41.dn K 27) 27 Lwk41.f27 fd ["script"] := ⟨⟨_, _, _, _, _, _, _, _, F, Lwk41.lawSc, rfl, by kernel_rfl⟩, rfl, F.kp, fun _ => F.bindsN (ps := ["script"]) fun _ _ _ _ _ _ us hl => match us, hl with | [_], _ => rfl, fun _ h => nomatch h⟩
    have b := L2.FunD.bindsA (ps := ["script"]) F fun _ _ _ _ _ _ us hl => match us, hl with | [_], _ => rfl
    exact ⟨K, fd, Nv.spF (Nv.cxtN Lwk41.P K) Nv.R0 1 ((Nv.sm Lwk41.P 40).call 27), KX, fun s v => b s [v] rfl, fun H a ns hl hO hS => Nv.law_sp hn hO hS (main ns hl), fun base _ _ => (Nv.all_sm (prog := (PySem.Challenge.rw_faultward_k41_whole_results_go_together).prog) (base := base) PFK 40).1 27 Lwk41.f27 fd ["script"] rfl D⟩
namespace Lwk41
open PySem PySem.Spec PyProof.Rows L2 Nv
theorem at_ : ReAt P 2 3 4 5 6 7 8 1 0 2 3 0 1 9 10 11 12 13 6 5 4 7 8 16 15 17 18 19 14 9 10 11 where
  name := rfl
  rises := rfl
  pair := rfl
  chain := rfl
  book := rfl
  look := rfl
  kind := rfl
  let_ := rfl
  eight := rfl
  top := rfl
  twelve := rfl
  whole := rfl
  inn := rfl
  cause := rfl
  ones := rfl
  formed := rfl
  agree := rfl
  fault := rfl
  members := rfl
  note := rfl
  number := rfl
  deep := rfl
  many := rfl
  result := rfl
  shift := rfl
  then_ := rfl
  ens := rfl
  chained := rfl
  caused := rfl
  words := rfl
  notes := rfl
  count := rfl
def Fz (ns : List Int) : O := .frz (ns.map .int)
/-! ### the plain law -/
abbrev noR : Re := ⟨"done", [], 0, .nil⟩
theorem nb1 : ("done" : Str) ≠ "bad" := by decide +kernel
theorem th_assoc {a b c : Re} : thR a (thR b c) = thR (thR a b) c := by
  unfold thR
  by_cases ha : a.w = "done"
  · by_cases hb : b.w = "done"
    · simp only [ha, hb, if_pos, sh_sh, List.append_assoc, Int.add_assoc, Int.add_comm b.cnt a.cnt]
    · simp only [ha, hb, if_pos, if_false]
  · simp only [ha, if_false]
theorem th_no {a : Re} : thR noR a = a := by
  show (if ("done" : Str) = "done" then Re.mk a.w ([] ++ a.ns) (0 + a.cnt) (shF 0 a.f) else noR) = a
  rw [if_pos rfl, sh_0, Int.zero_add]; rfl
theorem no_th {rows : Bk} {a : Re} (h : VR rows a) : thR a noR = a := by
  unfold thR
  by_cases ha : a.w = "done"
  · rw [if_pos ha]
    have : a.f = .nil := h.good (by rw [ha]; exact nb1)
    show Re.mk "done" (a.ns ++ []) (a.cnt + 0) .nil = a
    rw [List.append_nil, Int.add_zero, ← ha, ← this]
  · rw [if_neg ha]
theorem th_not {a b : Re} (h : a.w ≠ "done") : thR a b = a := if_neg h
theorem en_no {a : Re} : enR a noR = a := by
  show (if ("done" : Str) = "bad" then _ else Re.mk a.w (a.ns ++ []) (a.cnt + 0) a.f) = a
  rw [if_neg nb1, List.append_nil, Int.add_zero]
theorem ca_nil {f : Fa} : caF f .nil = f := if_pos (.inl rfl)
theorem en_en {a b c : Re} (hb : b.w = "done") : enR (enR a b) c = enR a (thR b c) := by
  have e1 : enR a b = ⟨a.w, a.ns ++ b.ns, a.cnt + b.cnt, a.f⟩ := if_neg (by rw [hb]; exact nb1)
  have e2 : thR b c = ⟨c.w, b.ns ++ c.ns, b.cnt + c.cnt, shF b.cnt c.f⟩ := if_pos hb
  rw [e1, e2]
  unfold enR
  by_cases hc : c.w = "bad"
  · simp only [hc, if_pos, sh_sh, List.append_assoc, Int.add_assoc, Int.add_comm b.cnt a.cnt]
  · simp only [hc, if_false, List.append_assoc, Int.add_assoc]
theorem no_en {rows : Bk} {b : Re} (h : VR rows b) : (enR noR b).ns = b.ns ∧ (enR noR b).cnt = b.cnt ∧ (enR noR b).f = b.f := by
  unfold enR
  by_cases hb : b.w = "bad"
  · rw [if_pos hb]
    exact ⟨rfl, Int.zero_add _, by show caF (shF 0 b.f) .nil = b.f; rw [sh_0, ca_nil]⟩
  · rw [if_neg hb]
    exact ⟨rfl, Int.zero_add _, by rw [h.good hb]⟩
theorem en_w {a b : Re} : decide ((enR a b).w = "bad") = (decide (a.w = "bad") || decide (b.w = "bad")) := by
  unfold enR
  by_cases hb : b.w = "bad"
  · rw [if_pos hb]; simp [hb]
  · rw [if_neg hb]; simp [hb]
theorem en_ns {a b : Re} : (enR a b).ns = a.ns ++ b.ns := by unfold enR; split <;> rfl
theorem en_cnt {a b : Re} : (enR a b).cnt = a.cnt + b.cnt := by unfold enR; split <;> rfl
theorem ca_sz {f c : Fa} (h1 : szF f = true) (h2 : szF c = true) : szF (caF f c) = true := by
  unfold caF
  split
  · exact h1
  · cases f with
    | nil => exact h1
    | one n k t q =>
      have : (PyData.strOk k && szF q) = true := h1
      rw [Bool.and_eq_true] at this
      show (PyData.strOk k && szF c) = true
      rw [this.1, h2]; rfl
    | many ms q =>
      have : (decide (ms.len ≤ 1000) && szL ms && szF q) = true := h1
      rw [Bool.and_eq_true] at this
      show (decide (ms.len ≤ 1000) && szL ms && szF c) = true
      rw [this.1, h2]; rfl
theorem ca_dp {f c : Fa} : dpF (caF f c) ≤ dpF f + dpF c + 1 := by
  unfold caF
  split
  · omega
  · cases f with
    | nil => show 0 ≤ _; omega
    | one n k t q => show dpF c + 1 ≤ dpF q + 1 + dpF c + 1; omega
    | many ms q => show max (dpL ms) (dpF c) + 1 ≤ max (dpL ms) (dpF q) + 1 + dpF c + 1; omega
theorem szR_en {a b : Re} (ha : szR a) (hb : szR b) (h : a.ns.length + b.ns.length ≤ 5000) (hd : dpF a.f + dpF b.f ≤ 19) : szR (enR a b) := by
  unfold enR
  split
  · refine ⟨so_bad, by simpa using h, ca_sz (by rw [(sz_sh _ _).1]; exact hb.2.2.1) ha.2.2.1, ?_⟩
    have := ca_dp (f := shF a.cnt b.f) (c := a.f)
    rw [(sz_sh _ _).2.1] at this
    show dpF (caF (shF a.cnt b.f) a.f) ≤ 20
    omega
  · exact ⟨ha.1, by simpa using h, ha.2.2.1, by show dpF a.f ≤ 20; omega⟩
def bok (b : Re) : Prop := b.w = "bad" → b.f.notnil = true
section
variable {a b : Re} {S : Store} {Q : D → Store → Prop}
theorem matR (h : szR a) : mat (toR a) S = (toR a, S) := matE (toR_ok h)
theorem callT (ha : szR a) (hb : szR b) : wp ((sm P 39).call 17 [toR a, toR b] S) Q = Q (toR (thR a b)) S := wp_eq (then_ok (d := 16) at_.then_ at_.shift at_.cause ha hb)
theorem callE (ha : szR a) (hb : szR b) (hn : bok b) : wp ((sm P 39).call 18 [toR a, toR b] S) Q = Q (toR (enR a b)) S := wp_eq (ensured_ok (d := 16) at_.ens at_.shift at_.cause at_.caused ha hb hn)
theorem neR (ha : szR a) (hb : szR b) : cmpD .ne (toR a) (toR b) S = some (!sameD (toR a) (toR b)) := c_neE (toR_ok ha) (toR_ok hb) (by have := toR_dep ha; omega) (by have := toR_dep hb; omega)
theorem xR0 : idxD (toR a) (.int 0) S = some (.str a.w) := rfl
theorem xR1 : idxD (toR a) (.int 1) S = some (.tup (a.ns.map .int)) := rfl
theorem xR2 : idxD (toR a) (.int 2) S = some (.int a.cnt) := rfl
theorem sR1 : slcD (toR a) (some 1) none S = some (.tup [.tup (a.ns.map .int), .int a.cnt, toD a.f]) := rfl
end
theorem law_ok (ns : List Int) : ∃ S, lawRun P 40 27 ns = .ok (.bl true) S := by
  suffices h : wp ((sm P 40).call 27 [.ref 0] [Fz ns]) (fun d _ => d = .bl true) by
    obtain ⟨d, S, e, hd⟩ := wp_ex h
    exact ⟨S, by subst hd; exact e⟩
  refine wp_call (fn := f27) rfl rfl (by decide) ?_
  show wp (evalSs P (sm P 39) b27 [some (.ref 0), none, none, none, none, none, none, none] [Fz ns]) _
  simp only [b27, we_var, we_non, we_bl, we_int, we_str, ws_nil, ws_cons, we_tup, we_lst, we_bin, we_neg, we_cmp, we_chain, we_and1, we_or1, we_and, we_or, we_not, we_ite, we_idx, wo_none, wo_some, we_slc, we_attr, we_call, we_meth, we_make, we_makek, wmake, we_blt, we_bm, we_isi, we_comp, wf_nil, wf_one, wt_tru, wi_of, wi_zip, wi_range, wi_enum, wg_name, wg_tup, wg_wtp, wg_nil, wg_cons, optQ_some, optQ_if, optQ_map, optQ_bind, tst_bl, tst_non, tst_int, b_add, b_sub, b_mul, b_fdiv, b_mod, b_pow, c_lt, c_le, c_gt, c_ge, c_eqI, c_neI, c_isI, c_notI, c_isN, c_notN, i_ii, i_ib, n_i, d_i, l_min, l_max, x_ref, x_new, x_tup, s_new, s_tup, y_new, at_0, at_1, at_2, mat_int, mat_bl, mat_str, mat_non, mat_ref, mats_nil, mats_cons, mat_tup, Option.isSome_some, List.getElem?_cons_zero, List.getElem?_cons_succ, List.set_cons_zero, List.set_cons_succ, decide_eq_true_eq, decide_eq_false_iff_not, wp_ok, st_ite, st_set, st_expr, st_ret, st_retN, st_pass, st_cont, st_unp, st_par, st_sub, st_for, st_wh, sq_nx, sq_rt, sq_ct, sq_bk, ss_nil, ss_cons, rq_f, rq_n, we_dct, we_revs, we_comp2, we_dcomp, io_str, io_tup, io_new, tst_b, tst_str, tst_tup, len_tup, len_new, all_new, any_new, lis_tup, tup_new, c_eqS, c_neS, c_eqB, c_neB, c_isT, c_notT, c_isS, c_notS, at_3, at_4, at_m1, x_str0, i_non, i_bl, i_str, i_tup, le1, le2, le3, le4, le5, decide_true, decide_false, true_implies, false_implies, reduceCtorEq, and_true, true_and, Bool.not_true, Bool.not_false, putA, List.length_nil, List.length_cons, List.set_set, reduceIte, Nat.reduceEqDiff, Nat.zero_ne_one, Nat.one_ne_zero, ne_eq, not_true_eq_false, not_false_eq_true, List.append_assoc, List.cons_append, List.nil_append, List.lookup_cons, List.lookup_nil, Nat.reduceBEq, beq_self_eq_true, Bool.and_true, Bool.true_and, Bool.false_and, Bool.and_false]
  refine bags_ok (d := 37) (i := 22) (iw := 20) rfl rfl (ns := ns) rfl (most := 10) (by decide) fun os hos => ?_
  rw [io_new, optQ_some]
  refine wp_forF (fun _ ρ S => ρ = [some (.ref 0), none, none, none, none, none, none, none] ∧ S = [Fz ns]) ⟨rfl, rfl⟩ (fun _ _ _ _ => rfl) ?_ ?_
  · rintro i e ρ S hd ⟨rfl, rfl⟩
    rw [List.getElem?_map] at hd
    cases ho : os[i]? with
    | none => rw [ho] at hd; cases hd
    | some o =>
      rw [ho] at hd
      cases hd
      have hb := hos o (List.mem_of_getElem? ho)
      obtain ⟨x, y, z, rfl, hb'⟩ := id hb
      have mt : mat (.new (bag x y z)) [Fz ns] = (.ref 1, [Fz ns, bag x y z]) := rfl
      simp only [mt, we_var, we_non, we_bl, we_int, we_str, ws_nil, ws_cons, we_tup, we_lst, we_bin, we_neg, we_cmp, we_chain, we_and1, we_or1, we_and, we_or, we_not, we_ite, we_idx, wo_none, wo_some, we_slc, we_attr, we_call, we_meth, we_make, we_makek, wmake, we_blt, we_bm, we_isi, we_comp, wf_nil, wf_one, wt_tru, wi_of, wi_zip, wi_range, wi_enum, wg_name, wg_tup, wg_wtp, wg_nil, wg_cons, optQ_some, optQ_if, optQ_map, optQ_bind, tst_bl, tst_non, tst_int, b_add, b_sub, b_mul, b_fdiv, b_mod, b_pow, c_lt, c_le, c_gt, c_ge, c_eqI, c_neI, c_isI, c_notI, c_isN, c_notN, i_ii, i_ib, n_i, d_i, l_min, l_max, x_ref, x_new, x_tup, s_new, s_tup, y_new, at_0, at_1, at_2, mat_int, mat_bl, mat_str, mat_non, mat_ref, mats_nil, mats_cons, mat_tup, Option.isSome_some, List.getElem?_cons_zero, List.getElem?_cons_succ, List.set_cons_zero, List.set_cons_succ, decide_eq_true_eq, decide_eq_false_iff_not, wp_ok, rq_f, rq_n, we_dct, we_revs, we_comp2, we_dcomp, io_str, io_tup, io_new, tst_b, tst_str, tst_tup, len_tup, len_new, all_new, any_new, lis_tup, tup_new, c_eqS, c_neS, c_eqB, c_neB, c_isT, c_notT, c_isS, c_notS, at_3, at_4, at_m1, x_str0, i_non, i_bl, i_str, i_tup, le1, le2, le3, le4, le5, decide_true, decide_false, true_implies, false_implies, reduceCtorEq, and_true, true_and, Bool.not_true, Bool.not_false, putA, List.length_nil, List.length_cons, List.set_set, reduceIte, Nat.reduceEqDiff, Nat.zero_ne_one, Nat.one_ne_zero, ne_eq, not_true_eq_false, not_false_eq_true, List.append_assoc, List.cons_append, List.nil_append, List.lookup_cons, List.lookup_nil, Nat.reduceBEq, beq_self_eq_true, Bool.and_true, Bool.true_and, Bool.false_and, Bool.and_false]
      refine wp_cons (wp_S_set ?_)
      simp only [we_var, we_non, we_bl, we_int, we_str, ws_nil, ws_cons, we_tup, we_lst, we_bin, we_neg, we_cmp, we_chain, we_and1, we_or1, we_and, we_or, we_not, we_ite, we_idx, wo_none, wo_some, we_slc, we_attr, we_call, we_meth, we_make, we_makek, wmake, we_blt, we_bm, we_isi, we_comp, wf_nil, wf_one, wt_tru, wi_of, wi_zip, wi_range, wi_enum, wg_name, wg_tup, wg_wtp, wg_nil, wg_cons, optQ_some, optQ_if, optQ_map, optQ_bind, tst_bl, tst_non, tst_int, b_add, b_sub, b_mul, b_fdiv, b_mod, b_pow, c_lt, c_le, c_gt, c_ge, c_eqI, c_neI, c_isI, c_notI, c_isN, c_notN, i_ii, i_ib, n_i, d_i, l_min, l_max, x_ref, x_new, x_tup, s_new, s_tup, y_new, at_0, at_1, at_2, mat_int, mat_bl, mat_str, mat_non, mat_ref, mats_nil, mats_cons, mat_tup, Option.isSome_some, List.getElem?_cons_zero, List.getElem?_cons_succ, List.set_cons_zero, List.set_cons_succ, decide_eq_true_eq, decide_eq_false_iff_not, wp_ok, rq_f, rq_n, we_dct, we_revs, we_comp2, we_dcomp, io_str, io_tup, io_new, tst_b, tst_str, tst_tup, len_tup, len_new, all_new, any_new, lis_tup, tup_new, c_eqS, c_neS, c_eqB, c_neB, c_isT, c_notT, c_isS, c_notS, at_3, at_4, at_m1, x_str0, i_non, i_bl, i_str, i_tup, le1, le2, le3, le4, le5, decide_true, decide_false, true_implies, false_implies, reduceCtorEq, and_true, true_and, Bool.not_true, Bool.not_false, putA, List.length_nil, List.length_cons, List.set_set, reduceIte, Nat.reduceEqDiff, Nat.zero_ne_one, Nat.one_ne_zero, ne_eq, not_true_eq_false, not_false_eq_true, List.append_assoc, List.cons_append, List.nil_append, List.lookup_cons, List.lookup_nil, Nat.reduceBEq, beq_self_eq_true, Bool.and_true, Bool.true_and, Bool.false_and, Bool.and_false]
      refine tree_ok (d := 37) (i := 23) (it := 21) rfl rfl (S := [Fz ns, bag x y z]) (b := 1) rfl hb (by omega) fun rows o1 hrows ho1 => ?_
      have hw := trees_wee rows hrows
      have hbk := trees_book rows hrows
      have hl : rows.length ≤ 100 := by
        unfold bookB at hbk
        simp only [Bool.and_eq_true] at hbk
        have := of_decide_eq_true hbk.1
        omega
      simp only [tB_mat, List.set_cons_zero, List.set_cons_succ]
      refine wp_cons (wp_S_par ?_)
      simp only [tB_mat, we_var, we_non, we_bl, we_int, we_str, ws_nil, ws_cons, we_tup, we_lst, we_bin, we_neg, we_cmp, we_chain, we_and1, we_or1, we_and, we_or, we_not, we_ite, we_idx, wo_none, wo_some, we_slc, we_attr, we_call, we_meth, we_make, we_makek, wmake, we_blt, we_bm, we_isi, we_comp, wf_nil, wf_one, wt_tru, wi_of, wi_zip, wi_range, wi_enum, wg_name, wg_tup, wg_wtp, wg_nil, wg_cons, optQ_some, optQ_if, optQ_map, optQ_bind, tst_bl, tst_non, tst_int, b_add, b_sub, b_mul, b_fdiv, b_mod, b_pow, c_lt, c_le, c_gt, c_ge, c_eqI, c_neI, c_isI, c_notI, c_isN, c_notN, i_ii, i_ib, n_i, d_i, l_min, l_max, x_ref, x_new, x_tup, s_new, s_tup, y_new, at_0, at_1, at_2, mat_int, mat_bl, mat_str, mat_non, mat_ref, mats_nil, mats_cons, mat_tup, Option.isSome_some, List.getElem?_cons_zero, List.getElem?_cons_succ, List.set_cons_zero, List.set_cons_succ, decide_eq_true_eq, decide_eq_false_iff_not, wp_ok, rq_f, rq_n, we_dct, we_revs, we_comp2, we_dcomp, io_str, io_tup, io_new, tst_b, tst_str, tst_tup, len_tup, len_new, all_new, any_new, lis_tup, tup_new, c_eqS, c_neS, c_eqB, c_neB, c_isT, c_notT, c_isS, c_notS, at_3, at_4, at_m1, x_str0, i_non, i_bl, i_str, i_tup, le1, le2, le3, le4, le5, decide_true, decide_false, true_implies, false_implies, reduceCtorEq, and_true, true_and, Bool.not_true, Bool.not_false, putA, List.length_nil, List.length_cons, List.set_set, reduceIte, Nat.reduceEqDiff, Nat.zero_ne_one, Nat.one_ne_zero, ne_eq, not_true_eq_false, not_false_eq_true, List.append_assoc, List.cons_append, List.nil_append, List.lookup_cons, List.lookup_nil, Nat.reduceBEq, beq_self_eq_true, Bool.and_true, Bool.true_and, Bool.false_and, Bool.and_false]
      refine result_ok (d := 31) (i := 25) (is := 26) (ik := 24) (it := 21) rfl rfl rfl rfl hw hl (S := [Fz ns, o1]) (b := 1) rfl ho1 (by omega) fun a o2 va a1 a2 a3 ho2 => ?_
      simp only [List.set_cons_zero, List.set_cons_succ]
      refine result_ok (d := 31) (i := 25) (is := 26) (ik := 24) (it := 21) rfl rfl rfl rfl hw hl (S := [Fz ns, o2]) (b := 1) rfl ho2 (by omega) fun b o3 vb b1 b2 b3 ho3 => ?_
      simp only [List.set_cons_zero, List.set_cons_succ]
      refine result_ok (d := 31) (i := 25) (is := 26) (ik := 24) (it := 21) rfl rfl rfl rfl hw hl (S := [Fz ns, o3]) (b := 1) rfl ho3 (by omega) fun c o4 vc c1 c2 c3 ho4 => ?_
      have vn : VR rows noR := ⟨.inl rfl, Nat.zero_le _, fun n hn => (by cases hn), rfl, fun e => absurd e nb1, fun _ => rfl, rfl⟩
      have sa := va.szR
      have sb := vb.szR
      have sc := vc.szR
      have sn := vn.szR
      have dpv : ∀ {r : Re}, VR rows r → dpF r.f ≤ 5 := by
        intro r hr
        by_cases e : r.w = "bad"
        · exact (hr.bad e).2.1
        · rw [hr.good e]; exact Nat.zero_le _
      have sbc : szR (thR b c) := szR_th sb sc (by omega)
      have sab : szR (thR a b) := szR_th sa sb (by omega)
      have sabc : szR (thR (thR a b) c) := szR_th sab sc (by have := th_len (a := a) (b := b); omega)
      have eab : szR (enR a b) := szR_en sa sb (by omega) (by have := dpv va; have := dpv vb; omega)
      have en : D.tup [.str "done", .tup [], .int 0, .non] = toR noR := rfl
      have bb : bok b := fun e => (vb.bad e).1
      have bc : bok c := fun e => (vc.bad e).1
      have bn : bok noR := fun e => absurd e nb1
      have bbc : bok (thR b c) := by
        intro e
        unfold thR at e ⊢
        by_cases h : b.w = "done"
        · rw [if_pos h] at e ⊢
          show (shF b.cnt c.f).notnil = true
          rw [(sz_sh _ _).2.2]; exact bc e
        · rw [if_neg h] at e ⊢
          exact bb e
      have ea0 : szR (enR noR b) := szR_en sn sb (by show 0 + _ ≤ _; omega) (by have := dpv vb; show 0 + _ ≤ _; omega)
      have dab : dpF (enR a b).f ≤ 11 := by
        have := dpv va; have := dpv vb
        unfold enR
        split
        · have := ca_dp (f := shF a.cnt b.f) (c := a.f)
          rw [(sz_sh _ _).2.1] at this
          show dpF (caF (shF a.cnt b.f) a.f) ≤ 11
          omega
        · show dpF a.f ≤ 11; omega
      have dbc : dpF (thR b c).f ≤ 5 := by
        have := dpv vb; have := dpv vc
        unfold thR
        split
        · show dpF (shF b.cnt c.f) ≤ 5
          rw [(sz_sh _ _).2.1]; omega
        · omega
      have eabc : szR (enR (enR a b) c) := szR_en eab sc (by rw [en_ns, List.length_append]; omega) (by have := dpv vc; omega)
      have eabc' : szR (enR a (thR b c)) := szR_en sa sbc (by have := th_len (a := b) (b := c); omega) (by have := dpv va; omega)
      simp only [matR, sa, sb, sc, parD, mats_cons, mats_nil, List.set_cons_zero, List.set_cons_succ]
      refine wp_cons (wp_S_set ?_)
      simp only [en, matR, sn, we_var, we_non, we_bl, we_int, we_str, ws_nil, ws_cons, we_tup, we_lst, we_bin, we_neg, we_cmp, we_chain, we_and1, we_or1, we_and, we_or, we_not, we_ite, we_idx, wo_none, wo_some, we_slc, we_attr, we_call, we_meth, we_make, we_makek, wmake, we_blt, we_bm, we_isi, we_comp, wf_nil, wf_one, wt_tru, wi_of, wi_zip, wi_range, wi_enum, wg_name, wg_tup, wg_wtp, wg_nil, wg_cons, optQ_some, optQ_if, optQ_map, optQ_bind, tst_bl, tst_non, tst_int, b_add, b_sub, b_mul, b_fdiv, b_mod, b_pow, c_lt, c_le, c_gt, c_ge, c_eqI, c_neI, c_isI, c_notI, c_isN, c_notN, i_ii, i_ib, n_i, d_i, l_min, l_max, x_ref, x_new, x_tup, s_new, s_tup, y_new, at_0, at_1, at_2, mat_int, mat_bl, mat_str, mat_non, mat_ref, mats_nil, mats_cons, mat_tup, Option.isSome_some, List.getElem?_cons_zero, List.getElem?_cons_succ, List.set_cons_zero, List.set_cons_succ, decide_eq_true_eq, decide_eq_false_iff_not, wp_ok, rq_f, rq_n, we_dct, we_revs, we_comp2, we_dcomp, io_str, io_tup, io_new, tst_b, tst_str, tst_tup, len_tup, len_new, all_new, any_new, lis_tup, tup_new, c_eqS, c_neS, c_eqB, c_neB, c_isT, c_notT, c_isS, c_notS, at_3, at_4, at_m1, x_str0, i_non, i_bl, i_str, i_tup, le1, le2, le3, le4, le5, decide_true, decide_false, true_implies, false_implies, reduceCtorEq, and_true, true_and, Bool.not_true, Bool.not_false, putA, List.length_nil, List.length_cons, List.set_set, reduceIte, Nat.reduceEqDiff, Nat.zero_ne_one, Nat.one_ne_zero, ne_eq, not_true_eq_false, not_false_eq_true, List.append_assoc, List.cons_append, List.nil_append, List.lookup_cons, List.lookup_nil, Nat.reduceBEq, beq_self_eq_true, Bool.and_true, Bool.true_and, Bool.false_and, Bool.and_false]
      refine ⟨Nat.zero_le _, len_ok (by decide), ?_⟩
      refine wp_check (T := [Fz ns, o4]) ?_ ?_
      · simp only [matR, sa, sb, sc, sn, sab, sbc, sabc, callT, th_assoc, th_no, no_th va, neR, sameD_refl, we_var, we_non, we_bl, we_int, we_str, ws_nil, ws_cons, we_tup, we_lst, we_bin, we_neg, we_cmp, we_chain, we_and1, we_or1, we_and, we_or, we_not, we_ite, we_idx, wo_none, wo_some, we_slc, we_attr, we_call, we_meth, we_make, we_makek, wmake, we_blt, we_bm, we_isi, we_comp, wf_nil, wf_one, wt_tru, wi_of, wi_zip, wi_range, wi_enum, wg_name, wg_tup, wg_wtp, wg_nil, wg_cons, optQ_some, optQ_if, optQ_map, optQ_bind, tst_bl, tst_non, tst_int, b_add, b_sub, b_mul, b_fdiv, b_mod, b_pow, c_lt, c_le, c_gt, c_ge, c_eqI, c_neI, c_isI, c_notI, c_isN, c_notN, i_ii, i_ib, n_i, d_i, l_min, l_max, x_ref, x_new, x_tup, s_new, s_tup, y_new, at_0, at_1, at_2, mat_int, mat_bl, mat_str, mat_non, mat_ref, mats_nil, mats_cons, mat_tup, Option.isSome_some, List.getElem?_cons_zero, List.getElem?_cons_succ, List.set_cons_zero, List.set_cons_succ, decide_eq_true_eq, decide_eq_false_iff_not, wp_ok, rq_f, rq_n, we_dct, we_revs, we_comp2, we_dcomp, io_str, io_tup, io_new, tst_b, tst_str, tst_tup, len_tup, len_new, all_new, any_new, lis_tup, tup_new, c_eqS, c_neS, c_eqB, c_neB, c_isT, c_notT, c_isS, c_notS, at_3, at_4, at_m1, x_str0, i_non, i_bl, i_str, i_tup, le1, le2, le3, le4, le5, decide_true, decide_false, true_implies, false_implies, reduceCtorEq, and_true, true_and, Bool.not_true, Bool.not_false, putA, List.length_nil, List.length_cons, List.set_set, reduceIte, Nat.reduceEqDiff, Nat.zero_ne_one, Nat.one_ne_zero, ne_eq, not_true_eq_false, not_false_eq_true, List.append_assoc, List.cons_append, List.nil_append, List.lookup_cons, List.lookup_nil, Nat.reduceBEq, beq_self_eq_true, Bool.and_true, Bool.true_and, Bool.false_and, Bool.and_false]
      refine wp_check (T := [Fz ns, o4]) ?_ ?_
      · simp only [xR0, matR, sa, sb, sc, sn, sab, callT, neR, we_var, we_non, we_bl, we_int, we_str, ws_nil, ws_cons, we_tup, we_lst, we_bin, we_neg, we_cmp, we_chain, we_and1, we_or1, we_and, we_or, we_not, we_ite, we_idx, wo_none, wo_some, we_slc, we_attr, we_call, we_meth, we_make, we_makek, wmake, we_blt, we_bm, we_isi, we_comp, wf_nil, wf_one, wt_tru, wi_of, wi_zip, wi_range, wi_enum, wg_name, wg_tup, wg_wtp, wg_nil, wg_cons, optQ_some, optQ_if, optQ_map, optQ_bind, tst_bl, tst_non, tst_int, b_add, b_sub, b_mul, b_fdiv, b_mod, b_pow, c_lt, c_le, c_gt, c_ge, c_eqI, c_neI, c_isI, c_notI, c_isN, c_notN, i_ii, i_ib, n_i, d_i, l_min, l_max, x_ref, x_new, x_tup, s_new, s_tup, y_new, at_0, at_1, at_2, mat_int, mat_bl, mat_str, mat_non, mat_ref, mats_nil, mats_cons, mat_tup, Option.isSome_some, List.getElem?_cons_zero, List.getElem?_cons_succ, List.set_cons_zero, List.set_cons_succ, decide_eq_true_eq, decide_eq_false_iff_not, wp_ok, rq_f, rq_n, we_dct, we_revs, we_comp2, we_dcomp, io_str, io_tup, io_new, tst_b, tst_str, tst_tup, len_tup, len_new, all_new, any_new, lis_tup, tup_new, c_eqS, c_neS, c_eqB, c_neB, c_isT, c_notT, c_isS, c_notS, at_3, at_4, at_m1, x_str0, i_non, i_bl, i_str, i_tup, le1, le2, le3, le4, le5, decide_true, decide_false, true_implies, false_implies, reduceCtorEq, and_true, true_and, Bool.not_true, Bool.not_false, putA, List.length_nil, List.length_cons, List.set_set, reduceIte, Nat.reduceEqDiff, Nat.zero_ne_one, Nat.one_ne_zero, ne_eq, not_true_eq_false, not_false_eq_true, List.append_assoc, List.cons_append, List.nil_append, List.lookup_cons, List.lookup_nil, Nat.reduceBEq, beq_self_eq_true, Bool.and_true, Bool.true_and, Bool.false_and, Bool.and_false]
        by_cases e : a.w = "done"
        · simp [e]
        · rw [th_not e]
          simp [e, neR sa sa, sameD_refl, optQ_some]
      refine wp_check (T := [Fz ns, o4]) ?_ ?_
      · simp only [xR0, matR, sa, sb, sc, sn, callE, bb, bn, en_no, neR, sameD_refl, sR1, ea0, no_en vb, we_var, we_non, we_bl, we_int, we_str, ws_nil, ws_cons, we_tup, we_lst, we_bin, we_neg, we_cmp, we_chain, we_and1, we_or1, we_and, we_or, we_not, we_ite, we_idx, wo_none, wo_some, we_slc, we_attr, we_call, we_meth, we_make, we_makek, wmake, we_blt, we_bm, we_isi, we_comp, wf_nil, wf_one, wt_tru, wi_of, wi_zip, wi_range, wi_enum, wg_name, wg_tup, wg_wtp, wg_nil, wg_cons, optQ_some, optQ_if, optQ_map, optQ_bind, tst_bl, tst_non, tst_int, b_add, b_sub, b_mul, b_fdiv, b_mod, b_pow, c_lt, c_le, c_gt, c_ge, c_eqI, c_neI, c_isI, c_notI, c_isN, c_notN, i_ii, i_ib, n_i, d_i, l_min, l_max, x_ref, x_new, x_tup, s_new, s_tup, y_new, at_0, at_1, at_2, mat_int, mat_bl, mat_str, mat_non, mat_ref, mats_nil, mats_cons, mat_tup, Option.isSome_some, List.getElem?_cons_zero, List.getElem?_cons_succ, List.set_cons_zero, List.set_cons_succ, decide_eq_true_eq, decide_eq_false_iff_not, wp_ok, rq_f, rq_n, we_dct, we_revs, we_comp2, we_dcomp, io_str, io_tup, io_new, tst_b, tst_str, tst_tup, len_tup, len_new, all_new, any_new, lis_tup, tup_new, c_eqS, c_neS, c_eqB, c_neB, c_isT, c_notT, c_isS, c_notS, at_3, at_4, at_m1, x_str0, i_non, i_bl, i_str, i_tup, le1, le2, le3, le4, le5, decide_true, decide_false, true_implies, false_implies, reduceCtorEq, and_true, true_and, Bool.not_true, Bool.not_false, putA, List.length_nil, List.length_cons, List.set_set, reduceIte, Nat.reduceEqDiff, Nat.zero_ne_one, Nat.one_ne_zero, ne_eq, not_true_eq_false, not_false_eq_true, List.append_assoc, List.cons_append, List.nil_append, List.lookup_cons, List.lookup_nil, Nat.reduceBEq, beq_self_eq_true, Bool.and_true, Bool.true_and, Bool.false_and, Bool.and_false]
        have ok3 : okE (.tup [.tup (b.ns.map .int), .int b.cnt, toD b.f]) = true := by
          show (okEs (b.ns.map D.int) && (true && (okE (toD b.f) && true))) = true
          rw [oks_ints, toD_ok _ sb.2.2.1]; rfl
        have dp3 : depD (.tup [.tup (b.ns.map .int), .int b.cnt, toD b.f]) ≤ 64 := by
          have := toD_dep b.f
          have := dpv vb
          show max (depDs (b.ns.map D.int) + 1) (max 0 (max (depD (toD b.f)) 0)) + 1 ≤ 64
          rw [deps_ints]; omega
        rw [c_neE ok3 ok3 dp3 dp3, sameD_refl]
        exact rfl
      refine wp_check (T := [Fz ns, o4]) ?_ ?_
      · simp only [xR0, matR, sa, sb, sc, sn, callE, callT, bb, bc, bn, bbc, sbc, eab, eabc, eabc', en_no, neR, sameD_refl, sR1, we_var, we_non, we_bl, we_int, we_str, ws_nil, ws_cons, we_tup, we_lst, we_bin, we_neg, we_cmp, we_chain, we_and1, we_or1, we_and, we_or, we_not, we_ite, we_idx, wo_none, wo_some, we_slc, we_attr, we_call, we_meth, we_make, we_makek, wmake, we_blt, we_bm, we_isi, we_comp, wf_nil, wf_one, wt_tru, wi_of, wi_zip, wi_range, wi_enum, wg_name, wg_tup, wg_wtp, wg_nil, wg_cons, optQ_some, optQ_if, optQ_map, optQ_bind, tst_bl, tst_non, tst_int, b_add, b_sub, b_mul, b_fdiv, b_mod, b_pow, c_lt, c_le, c_gt, c_ge, c_eqI, c_neI, c_isI, c_notI, c_isN, c_notN, i_ii, i_ib, n_i, d_i, l_min, l_max, x_ref, x_new, x_tup, s_new, s_tup, y_new, at_0, at_1, at_2, mat_int, mat_bl, mat_str, mat_non, mat_ref, mats_nil, mats_cons, mat_tup, Option.isSome_some, List.getElem?_cons_zero, List.getElem?_cons_succ, List.set_cons_zero, List.set_cons_succ, decide_eq_true_eq, decide_eq_false_iff_not, wp_ok, rq_f, rq_n, we_dct, we_revs, we_comp2, we_dcomp, io_str, io_tup, io_new, tst_b, tst_str, tst_tup, len_tup, len_new, all_new, any_new, lis_tup, tup_new, c_eqS, c_neS, c_eqB, c_neB, c_isT, c_notT, c_isS, c_notS, at_3, at_4, at_m1, x_str0, i_non, i_bl, i_str, i_tup, le1, le2, le3, le4, le5, decide_true, decide_false, true_implies, false_implies, reduceCtorEq, and_true, true_and, Bool.not_true, Bool.not_false, putA, List.length_nil, List.length_cons, List.set_set, reduceIte, Nat.reduceEqDiff, Nat.zero_ne_one, Nat.one_ne_zero, ne_eq, not_true_eq_false, not_false_eq_true, List.append_assoc, List.cons_append, List.nil_append, List.lookup_cons, List.lookup_nil, Nat.reduceBEq, beq_self_eq_true, Bool.and_true, Bool.true_and, Bool.false_and, Bool.and_false]
        refine ⟨fun e => ?_, fun e => e⟩
        rw [en_en e, sameD_refl]; rfl
      refine wp_cons (wp_S_set ?_)
      simp only [matR, sa, sb, callE, bb, eab, we_var, we_non, we_bl, we_int, we_str, ws_nil, ws_cons, we_tup, we_lst, we_bin, we_neg, we_cmp, we_chain, we_and1, we_or1, we_and, we_or, we_not, we_ite, we_idx, wo_none, wo_some, we_slc, we_attr, we_call, we_meth, we_make, we_makek, wmake, we_blt, we_bm, we_isi, we_comp, wf_nil, wf_one, wt_tru, wi_of, wi_zip, wi_range, wi_enum, wg_name, wg_tup, wg_wtp, wg_nil, wg_cons, optQ_some, optQ_if, optQ_map, optQ_bind, tst_bl, tst_non, tst_int, b_add, b_sub, b_mul, b_fdiv, b_mod, b_pow, c_lt, c_le, c_gt, c_ge, c_eqI, c_neI, c_isI, c_notI, c_isN, c_notN, i_ii, i_ib, n_i, d_i, l_min, l_max, x_ref, x_new, x_tup, s_new, s_tup, y_new, at_0, at_1, at_2, mat_int, mat_bl, mat_str, mat_non, mat_ref, mats_nil, mats_cons, mat_tup, Option.isSome_some, List.getElem?_cons_zero, List.getElem?_cons_succ, List.set_cons_zero, List.set_cons_succ, decide_eq_true_eq, decide_eq_false_iff_not, wp_ok, rq_f, rq_n, we_dct, we_revs, we_comp2, we_dcomp, io_str, io_tup, io_new, tst_b, tst_str, tst_tup, len_tup, len_new, all_new, any_new, lis_tup, tup_new, c_eqS, c_neS, c_eqB, c_neB, c_isT, c_notT, c_isS, c_notS, at_3, at_4, at_m1, x_str0, i_non, i_bl, i_str, i_tup, le1, le2, le3, le4, le5, decide_true, decide_false, true_implies, false_implies, reduceCtorEq, and_true, true_and, Bool.not_true, Bool.not_false, putA, List.length_nil, List.length_cons, List.set_set, reduceIte, Nat.reduceEqDiff, Nat.zero_ne_one, Nat.one_ne_zero, ne_eq, not_true_eq_false, not_false_eq_true, List.append_assoc, List.cons_append, List.nil_append, List.lookup_cons, List.lookup_nil, Nat.reduceBEq, beq_self_eq_true, Bool.and_true, Bool.true_and, Bool.false_and, Bool.and_false]
      refine wp_check (T := [Fz ns, o4]) ?_ ?_
      · simp only [xR1, xR2, en_ns, en_cnt, we_var, we_non, we_bl, we_int, we_str, ws_nil, ws_cons, we_tup, we_lst, we_bin, we_neg, we_cmp, we_chain, we_and1, we_or1, we_and, we_or, we_not, we_ite, we_idx, wo_none, wo_some, we_slc, we_attr, we_call, we_meth, we_make, we_makek, wmake, we_blt, we_bm, we_isi, we_comp, wf_nil, wf_one, wt_tru, wi_of, wi_zip, wi_range, wi_enum, wg_name, wg_tup, wg_wtp, wg_nil, wg_cons, optQ_some, optQ_if, optQ_map, optQ_bind, tst_bl, tst_non, tst_int, b_add, b_sub, b_mul, b_fdiv, b_mod, b_pow, c_lt, c_le, c_gt, c_ge, c_eqI, c_neI, c_isI, c_notI, c_isN, c_notN, i_ii, i_ib, n_i, d_i, l_min, l_max, x_ref, x_new, x_tup, s_new, s_tup, y_new, at_0, at_1, at_2, mat_int, mat_bl, mat_str, mat_non, mat_ref, mats_nil, mats_cons, mat_tup, Option.isSome_some, List.getElem?_cons_zero, List.getElem?_cons_succ, List.set_cons_zero, List.set_cons_succ, decide_eq_true_eq, decide_eq_false_iff_not, wp_ok, rq_f, rq_n, we_dct, we_revs, we_comp2, we_dcomp, io_str, io_tup, io_new, tst_b, tst_str, tst_tup, len_tup, len_new, all_new, any_new, lis_tup, tup_new, c_eqS, c_neS, c_eqB, c_neB, c_isT, c_notT, c_isS, c_notS, at_3, at_4, at_m1, x_str0, i_non, i_bl, i_str, i_tup, le1, le2, le3, le4, le5, decide_true, decide_false, true_implies, false_implies, reduceCtorEq, and_true, true_and, Bool.not_true, Bool.not_false, putA, List.length_nil, List.length_cons, List.set_set, reduceIte, Nat.reduceEqDiff, Nat.zero_ne_one, Nat.one_ne_zero, ne_eq, not_true_eq_false, not_false_eq_true, List.append_assoc, List.cons_append, List.nil_append, List.lookup_cons, List.lookup_nil, Nat.reduceBEq, beq_self_eq_true, Bool.and_true, Bool.true_and, Bool.false_and, Bool.and_false]
        have oki : okE (.tup ((a.ns ++ b.ns).map .int)) = true := oks_ints _
        have dpi : depD (.tup ((a.ns ++ b.ns).map .int)) ≤ 64 := by
          show depDs ((a.ns ++ b.ns).map D.int) + 1 ≤ 64
          rw [deps_ints]; omega
        rw [cat_tt, if_pos (len_ok (by simp; omega)), optQ_some, ← List.map_append, c_neE oki oki dpi dpi, sameD_refl]
        exact ⟨fun h => (by cases h), fun _ => trivial⟩
      refine wp_check (T := [Fz ns, o4]) ?_ ?_
      · simp only [xR0, we_var, we_non, we_bl, we_int, we_str, ws_nil, ws_cons, we_tup, we_lst, we_bin, we_neg, we_cmp, we_chain, we_and1, we_or1, we_and, we_or, we_not, we_ite, we_idx, wo_none, wo_some, we_slc, we_attr, we_call, we_meth, we_make, we_makek, wmake, we_blt, we_bm, we_isi, we_comp, wf_nil, wf_one, wt_tru, wi_of, wi_zip, wi_range, wi_enum, wg_name, wg_tup, wg_wtp, wg_nil, wg_cons, optQ_some, optQ_if, optQ_map, optQ_bind, tst_bl, tst_non, tst_int, b_add, b_sub, b_mul, b_fdiv, b_mod, b_pow, c_lt, c_le, c_gt, c_ge, c_eqI, c_neI, c_isI, c_notI, c_isN, c_notN, i_ii, i_ib, n_i, d_i, l_min, l_max, x_ref, x_new, x_tup, s_new, s_tup, y_new, at_0, at_1, at_2, mat_int, mat_bl, mat_str, mat_non, mat_ref, mats_nil, mats_cons, mat_tup, Option.isSome_some, List.getElem?_cons_zero, List.getElem?_cons_succ, List.set_cons_zero, List.set_cons_succ, decide_eq_true_eq, decide_eq_false_iff_not, wp_ok, rq_f, rq_n, we_dct, we_revs, we_comp2, we_dcomp, io_str, io_tup, io_new, tst_b, tst_str, tst_tup, len_tup, len_new, all_new, any_new, lis_tup, tup_new, c_eqS, c_neS, c_eqB, c_neB, c_isT, c_notT, c_isS, c_notS, at_3, at_4, at_m1, x_str0, i_non, i_bl, i_str, i_tup, le1, le2, le3, le4, le5, decide_true, decide_false, true_implies, false_implies, reduceCtorEq, and_true, true_and, Bool.not_true, Bool.not_false, putA, List.length_nil, List.length_cons, List.set_set, reduceIte, Nat.reduceEqDiff, Nat.zero_ne_one, Nat.one_ne_zero, ne_eq, not_true_eq_false, not_false_eq_true, List.append_assoc, List.cons_append, List.nil_append, List.lookup_cons, List.lookup_nil, Nat.reduceBEq, beq_self_eq_true, Bool.and_true, Bool.true_and, Bool.false_and, Bool.and_false]
        have := en_w (a := a) (b := b)
        rw [this]
        by_cases h1 : a.w = "bad" <;> by_cases h2 : b.w = "bad" <;> simp [h1, h2]
      refine wp_check (T := [Fz ns, o4, .lst [toR a, toR b, toR c], .lst []]) ?_ ?_
      · simp only [tB_mat, matR, sa, sb, sc, we_var, we_non, we_bl, we_int, we_str, ws_nil, ws_cons, we_tup, we_lst, we_bin, we_neg, we_cmp, we_chain, we_and1, we_or1, we_and, we_or, we_not, we_ite, we_idx, wo_none, wo_some, we_slc, we_attr, we_call, we_meth, we_make, we_makek, wmake, we_blt, we_bm, we_isi, we_comp, wf_nil, wf_one, wt_tru, wi_of, wi_zip, wi_range, wi_enum, wg_name, wg_tup, wg_wtp, wg_nil, wg_cons, optQ_some, optQ_if, optQ_map, optQ_bind, tst_bl, tst_non, tst_int, b_add, b_sub, b_mul, b_fdiv, b_mod, b_pow, c_lt, c_le, c_gt, c_ge, c_eqI, c_neI, c_isI, c_notI, c_isN, c_notN, i_ii, i_ib, n_i, d_i, l_min, l_max, x_ref, x_new, x_tup, s_new, s_tup, y_new, at_0, at_1, at_2, mat_int, mat_bl, mat_str, mat_non, mat_ref, mats_nil, mats_cons, mat_tup, Option.isSome_some, List.getElem?_cons_zero, List.getElem?_cons_succ, List.set_cons_zero, List.set_cons_succ, decide_eq_true_eq, decide_eq_false_iff_not, wp_ok, rq_f, rq_n, we_dct, we_revs, we_comp2, we_dcomp, io_str, io_tup, io_new, tst_b, tst_str, tst_tup, len_tup, len_new, all_new, any_new, lis_tup, tup_new, c_eqS, c_neS, c_eqB, c_neB, c_isT, c_notT, c_isS, c_notS, at_3, at_4, at_m1, x_str0, i_non, i_bl, i_str, i_tup, le1, le2, le3, le4, le5, decide_true, decide_false, true_implies, false_implies, reduceCtorEq, and_true, true_and, Bool.not_true, Bool.not_false, putA, List.length_nil, List.length_cons, List.set_set, reduceIte, Nat.reduceEqDiff, Nat.zero_ne_one, Nat.one_ne_zero, ne_eq, not_true_eq_false, not_false_eq_true, List.append_assoc, List.cons_append, List.nil_append, List.lookup_cons, List.lookup_nil, Nat.reduceBEq, beq_self_eq_true, Bool.and_true, Bool.true_and, Bool.false_and, Bool.and_false]
        have m3 : mat (.new (.lst [toR a, toR b, toR c])) [Fz ns, o4] = (.ref 2, [Fz ns, o4, .lst [toR a, toR b, toR c]]) := mat_lstd (by
          show (isData (toR a) && (isData (toR b) && (isData (toR c) && true))) = true
          rw [okE_data (toR_ok sa), okE_data (toR_ok sb), okE_data (toR_ok sc)]; rfl)
        have m4 : mat (.new (.lst [])) [Fz ns, o4, .lst [toR a, toR b, toR c]] = (.ref 3, [Fz ns, o4, .lst [toR a, toR b, toR c], .lst []]) := rfl
        have e1 := chained_ok (d := 7) at_ hw hbk (rs := [a, b, c]) (fun r hr => by
          rcases List.mem_cons.mp hr with rfl | hr
          · exact va
          rcases List.mem_cons.mp hr with rfl | hr
          · exact vb
          rw [List.mem_singleton.mp hr]; exact vc) (Nat.le_of_ble_eq_true rfl) (n := 2) (S := [Fz ns, o4, .lst [toR a, toR b, toR c]]) rfl
        have e2 := chained_ok (d := 7) at_ hw hbk (rs := []) (fun r hr => (by cases hr)) (by decide) (n := 3) (S := [Fz ns, o4, .lst [toR a, toR b, toR c], .lst []]) rfl
        have e3 : [a, b, c].foldl thR noR = thR (thR a b) c := by
          show thR (thR (thR noR a) b) c = _
          rw [th_no]
        rw [e3] at e1
        have e4 : ([] : List Re).foldl thR noR = noR := rfl
        rw [e4] at e2
        simp only [m3, m4, wp_eq e1, wp_eq e2, callT, matR, sa, sb, sc, sn, sab, sbc, sabc, th_assoc, neR, sameD_refl, we_var, we_non, we_bl, we_int, we_str, ws_nil, ws_cons, we_tup, we_lst, we_bin, we_neg, we_cmp, we_chain, we_and1, we_or1, we_and, we_or, we_not, we_ite, we_idx, wo_none, wo_some, we_slc, we_attr, we_call, we_meth, we_make, we_makek, wmake, we_blt, we_bm, we_isi, we_comp, wf_nil, wf_one, wt_tru, wi_of, wi_zip, wi_range, wi_enum, wg_name, wg_tup, wg_wtp, wg_nil, wg_cons, optQ_some, optQ_if, optQ_map, optQ_bind, tst_bl, tst_non, tst_int, b_add, b_sub, b_mul, b_fdiv, b_mod, b_pow, c_lt, c_le, c_gt, c_ge, c_eqI, c_neI, c_isI, c_notI, c_isN, c_notN, i_ii, i_ib, n_i, d_i, l_min, l_max, x_ref, x_new, x_tup, s_new, s_tup, y_new, at_0, at_1, at_2, mat_int, mat_bl, mat_str, mat_non, mat_ref, mats_nil, mats_cons, mat_tup, Option.isSome_some, List.getElem?_cons_zero, List.getElem?_cons_succ, List.set_cons_zero, List.set_cons_succ, decide_eq_true_eq, decide_eq_false_iff_not, wp_ok, rq_f, rq_n, we_dct, we_revs, we_comp2, we_dcomp, io_str, io_tup, io_new, tst_b, tst_str, tst_tup, len_tup, len_new, all_new, any_new, lis_tup, tup_new, c_eqS, c_neS, c_eqB, c_neB, c_isT, c_notT, c_isS, c_notS, at_3, at_4, at_m1, x_str0, i_non, i_bl, i_str, i_tup, le1, le2, le3, le4, le5, decide_true, decide_false, true_implies, false_implies, reduceCtorEq, and_true, true_and, Bool.not_true, Bool.not_false, putA, List.length_nil, List.length_cons, List.set_set, reduceIte, Nat.reduceEqDiff, Nat.zero_ne_one, Nat.one_ne_zero, ne_eq, not_true_eq_false, not_false_eq_true, List.append_assoc, List.cons_append, List.nil_append, List.lookup_cons, List.lookup_nil, Nat.reduceBEq, beq_self_eq_true, Bool.and_true, Bool.true_and, Bool.false_and, Bool.and_false]
        exact ⟨len_ok (by decide), Nat.zero_le _⟩
      refine wp_nil ?_
      simp only []
      refine wp_turn1 rfl (T := [Fz ns]) ?_ ?_
      · exact trunc_app (S0 := [Fz ns]) (N := [o4, .lst [toR a, toR b, toR c], .lst []])
      · exact ⟨rfl, rfl⟩
  · rintro ρ S ⟨rfl, rfl⟩
    simp only [we_var, we_non, we_bl, we_int, we_str, ws_nil, ws_cons, we_tup, we_lst, we_bin, we_neg, we_cmp, we_chain, we_and1, we_or1, we_and, we_or, we_not, we_ite, we_idx, wo_none, wo_some, we_slc, we_attr, we_call, we_meth, we_make, we_makek, wmake, we_blt, we_bm, we_isi, we_comp, wf_nil, wf_one, wt_tru, wi_of, wi_zip, wi_range, wi_enum, wg_name, wg_tup, wg_wtp, wg_nil, wg_cons, optQ_some, optQ_if, optQ_map, optQ_bind, tst_bl, tst_non, tst_int, b_add, b_sub, b_mul, b_fdiv, b_mod, b_pow, c_lt, c_le, c_gt, c_ge, c_eqI, c_neI, c_isI, c_notI, c_isN, c_notN, i_ii, i_ib, n_i, d_i, l_min, l_max, x_ref, x_new, x_tup, s_new, s_tup, y_new, at_0, at_1, at_2, mat_int, mat_bl, mat_str, mat_non, mat_ref, mats_nil, mats_cons, mat_tup, Option.isSome_some, List.getElem?_cons_zero, List.getElem?_cons_succ, List.set_cons_zero, List.set_cons_succ, decide_eq_true_eq, decide_eq_false_iff_not, wp_ok, st_ite, st_set, st_expr, st_ret, st_retN, st_pass, st_cont, st_unp, st_par, st_sub, st_for, st_wh, sq_nx, sq_rt, sq_ct, sq_bk, ss_nil, ss_cons, rq_f, rq_n, we_dct, we_revs, we_comp2, we_dcomp, io_str, io_tup, io_new, tst_b, tst_str, tst_tup, len_tup, len_new, all_new, any_new, lis_tup, tup_new, c_eqS, c_neS, c_eqB, c_neB, c_isT, c_notT, c_isS, c_notS, at_3, at_4, at_m1, x_str0, i_non, i_bl, i_str, i_tup, le1, le2, le3, le4, le5, decide_true, decide_false, true_implies, false_implies, reduceCtorEq, and_true, true_and, Bool.not_true, Bool.not_false, putA, List.length_nil, List.length_cons, List.set_set, reduceIte, Nat.reduceEqDiff, Nat.zero_ne_one, Nat.one_ne_zero, ne_eq, not_true_eq_false, not_false_eq_true, List.append_assoc, List.cons_append, List.nil_append, List.lookup_cons, List.lookup_nil, Nat.reduceBEq, beq_self_eq_true, Bool.and_true, Bool.true_and, Bool.false_and, Bool.and_false]
end Lwk41
theorem PySem.Challenge.cw_faultward_k41_whole_results_go_together_holds : PySem.Challenge.rw_faultward_k41_whole_results_go_together.Holds :=
  Lwk41.holds fun ns _ => Lwk41.law_ok ns
