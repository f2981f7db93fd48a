import PyProof.Rows.All
import Wide.All
import OpenK.AllK
import Wide.FinOn
import HandS.ForMost
import HandS.ForExc
import HandS.IsInst
import HandS.Lambda
import KE.KeyNested
import HandS.Wide
import HandS.TupAny
import HandS.TupMul
import HandS.Style
import HandS.Deep
import HandS.ExcInit
import HandS.Defaults
import HandS.Zip
import KE.GoesNew
import KE.GoesEnumKw
import HandS.Conv
import HandS.SetFor
import HandS.Strs
import HandS.More
import HandS.DictComp
import HandS.Small
import HandS.TupSets
import KE.SortData
import HandS.ExcIs
import HandS.ExcField
import HandS.TryMany
import HandS.CallLocal
import HandS.EndTab
import HandS.WordsExc
import HandS.HeadHook1
import HandS.HeadHook2
import HandS.HeadHook3
import HandS.HeadHook4
import HandS.HeadWalk
import HandS.Head0
import HandS.Head1
import HandS.Head2
import HandS.HeadEnd
import HandS.Gcd
import HandS.Comp
import HandS.SortKw
import KE.SortKeyHeap
import KE.DataMinKey
import KE.KRevSl
import HandS.NoneIn
import KE.DataMinMax
import HandS.Text
import PyProof.TupleOfSeq
import HandS.FStr
import HandS.RaiseMore
import PySem.Challenge.RW_askedtown_k40_move_tables
set_option Elab.async false
set_option linter.all false
set_option maxRecDepth 100000
set_option maxHeartbeats 4000000
/-! Ax0: data trees, values, a store of cells; what they stand for in the abstract heap; results; judgements by plain functions -/
namespace Ax
open PySem PySem.Spec PyProof.Rows L2

/-- a piece of data that nothing changes any more -/
inductive D where
  | non | bl (b : Bool) | int (i : Int) | str (x : Str)
  | tup (xs : List D) | ptp (xs : List D) | lst (xs : List D) | scr (xs : List D)
  | dct (ps : List (D × D)) | ins (c : Str) (fs : List (Str × D))
  | fn (c : Str) | ty (n : String)
instance : Inhabited D := ⟨.non⟩
/-- a value: data, or a reference to a cell -/
inductive Vl where
  | v (d : D) | r (n : Nat)
/-- what stands in a cell -/
inductive Cel where
  | lst (xs : List Vl) | dct (ps : List (D × Vl)) | ins (c : Str) (fs : List (Str × Vl)) | dead
  /-- a dict whose keys are tuples of ints and of such tuples -/
  | dcn (ps : List (D × Vl))
abbrev Store := List Cel
abbrev Sl := List (Option Vl)

/-- results -/
inductive Out (α : Type) where
  | ok (a : α) (S : Store) | exc (c : Str) (fs : List (Str × D)) (S : Store) | stuck
inductive Flw where
  | nx (e : Sl) | rt (x : Vl) | bk (e : Sl) | ct (e : Sl)
inductive OutS where
  | go (f : Flw) (S : Store) | exc (c : Str) (fs : List (Str × D)) (e : Sl) (S : Store) | stuck
/-- the result of a def that touches no cell of others -/
inductive R where
  | ok (d : D) | exc (c : Str) (fs : List (Str × D)) | stuck

def Out.bind {α β : Type} (o : Out α) (f : α → Store → Out β) : Out β := match o with
  | .ok a S => f a S
  | .exc c fs S => .exc c fs S
  | .stuck => .stuck

/-! ### keys -/
def keyD : Key → D
  | .inl i => .int i
  | .inr x => .str x

/-! ### what data stands for -/
structure G where
  K : PySem.W.Frag
  mg : Str → Option Value
  T : List (Addr × Str)

/-- a tuple whose object has no dict of its own -/
def SqTA (K : PySem.W.Frag) (H : Hp) (a : Addr) (vs : List V) : Prop := (∃ o, H a = some (.frz o (.tup vs)) ∧ o.dict = none) ∨
  ∃ (o : Obj) (its : Array Value) (n : Nat), K.lookup a = some o ∧ o.cls = .type "tuple" ∧ o.dict = none ∧ o.data = .seq its n ∧ its.size ≤ sizeLine ∧ Vals vs its.toList
theorem SqTA.sq {K : PySem.W.Frag} {H : Hp} {a : Addr} {vs : List V} (h : SqTA K H a vs) : SqT K H a vs := by
  rcases h with ⟨o, h, _⟩ | ⟨o, its, n, h1, h2, _, h3⟩
  · exact .inl (.inr ⟨o, h⟩)
  · exact .inr ⟨o, its, n, h1, h2, h3⟩
mutual
inductive Rep (g : G) (F : Hp) : V → D → Prop
  | non : Rep g F .non .non
  | bl (b : Bool) : Rep g F (.bl b) (.bl b)
  | int (i : Int) : Rep g F (.int i) (.int i)
  | str (x : Str) : Rep g F (.str x) (.str x)
  | ty (n : String) : Rep g F (.ty n) (.ty n)
  | fn {a : Addr} {c : Str} : g.mg c = some (.ref a) → Rep g F (.ref a) (.fn c)
  | tup {a : Addr} {vs : List V} {ds : List D} : SqTA g.K F a vs → RepAll g F vs ds → Rep g F (.ref a) (.tup ds)
  | ptp {a : Addr} {vs : List V} {ds : List D} : SqT g.K F a vs → RepAll g F vs ds → Rep g F (.ref a) (.ptp ds)
  | lst {a : Addr} {vs : List V} {ds : List D} : F a = some (.lst vs) → RepAll g F vs ds → Rep g F (.ref a) (.lst ds)
  | scr {a : Addr} {vs : List V} {ds : List D} : SqL g.K F a vs → RepAll g F vs ds → Rep g F (.ref a) (.scr ds)
  | dK {a : Addr} {kvs : List (Key × V)} {ps : List (D × D)} : Rd F a (.dK kvs) → RepK g F kvs ps → Rep g F (.ref a) (.dct ps)
  | ins {a C dx : Addr} {c : Str} {vs : List (Str × V)} {fs : List (Str × D)} : g.mg c = some (.ref C) → F a = some (.ins C dx vs) → RepF g F vs fs → Rep g F (.ref a) (.ins c fs)
inductive RepAll (g : G) (F : Hp) : List V → List D → Prop
  | nil : RepAll g F [] []
  | cons {v : V} {vs : List V} {d : D} {ds : List D} : Rep g F v d → RepAll g F vs ds → RepAll g F (v :: vs) (d :: ds)
inductive RepK (g : G) (F : Hp) : List (Key × V) → List (D × D) → Prop
  | nil : RepK g F [] []
  | cons {k : Key} {v : V} {kvs : List (Key × V)} {d : D} {ps : List (D × D)} : Rep g F v d → RepK g F kvs ps → RepK g F ((k, v) :: kvs) ((keyD k, d) :: ps)
inductive RepF (g : G) (F : Hp) : List (Str × V) → List (Str × D) → Prop
  | nil : RepF g F [] []
  | cons {k : Str} {v : V} {kvs : List (Str × V)} {d : D} {ps : List (Str × D)} : Rep g F v d → RepF g F kvs ps → RepF g F ((k, v) :: kvs) ((k, d) :: ps)
end

/-! ### worlds -/
/-- the cells' addresses, the frozen part of the heap -/
structure Wd where
  p : List Addr
  F : Hp

def plainHO : HO → Prop
  | .frz _ _ => False
  | _ => True
def fixHO : HO → Prop
  | .frz _ _ => True
  | .dK _ => False
  | .dT _ => False
  | _ => True
def noTbl : HO → Prop
  | .tbl _ => False
  | _ => True

/-- the frozen part grows (a dict may be under a lock for a while) -/
structure HLe (F F' : Hp) : Prop where
  rd : ∀ a u, plainHO u → Rd F a u → Rd F' a u
  st : ∀ a o, fixHO o → F a = some o → F' a = some o
theorem HLe.refl (F : Hp) : HLe F F := ⟨fun _ _ _ h => h, fun _ _ _ h => h⟩
theorem HLe.trans {F F1 F2 : Hp} (a : HLe F F1) (b : HLe F1 F2) : HLe F F2 := ⟨fun x u p h => b.rd x u p (a.rd x u p h), fun x o p h => b.st x o p (a.st x o p h)⟩
theorem HLe.of {F F' : Hp} (h : ∀ a o, F a = some o → F' a = some o) : HLe F F' := ⟨fun a u _ r => by
  rcases r with r | ⟨o, r⟩
  · exact .inl (h _ _ r)
  · exact .inr ⟨o, h _ _ r⟩, fun a o _ e => h a o e⟩

theorem sqT_le {K : PySem.W.Frag} {F F' : Hp} (l : HLe F F') {a : Addr} {vs : List V} (h : SqT K F a vs) : SqT K F' a vs := by
  rcases h with h | h
  · exact .inl (l.rd _ _ trivial h)
  · exact .inr h
theorem sqTA_le {K : PySem.W.Frag} {F F' : Hp} (l : HLe F F') {a : Addr} {vs : List V} (h : SqTA K F a vs) : SqTA K F' a vs := by
  rcases h with ⟨o, h, d⟩ | h
  · exact .inl ⟨o, l.st _ _ trivial h, d⟩
  · exact .inr h
theorem sqL_le {K : PySem.W.Frag} {F F' : Hp} (l : HLe F F') {a : Addr} {vs : List V} (h : SqL K F a vs) : SqL K F' a vs := by
  rcases h with h | h
  · exact .inl (l.rd _ _ trivial h)
  · exact .inr h

mutual
theorem Rep.le {g : G} {F F' : Hp} (l : HLe F F') : ∀ {v : V} {d : D}, Rep g F v d → Rep g F' v d
  | _, _, .non => .non
  | _, _, .bl b => .bl b
  | _, _, .int i => .int i
  | _, _, .str x => .str x
  | _, _, .ty n => .ty n
  | _, _, .fn h => .fn h
  | _, _, .tup h r => .tup (sqTA_le l h) (RepAll.le l r)
  | _, _, .ptp h r => .ptp (sqT_le l h) (RepAll.le l r)
  | _, _, .lst h r => .lst (l.st _ _ trivial h) (RepAll.le l r)
  | _, _, .scr h r => .scr (sqL_le l h) (RepAll.le l r)
  | _, _, .dK h r => .dK (l.rd _ _ trivial h) (RepK.le l r)
  | _, _, .ins m h r => .ins m (l.st _ _ trivial h) (RepF.le l r)
theorem RepAll.le {g : G} {F F' : Hp} (l : HLe F F') : ∀ {vs : List V} {ds : List D}, RepAll g F vs ds → RepAll g F' vs ds
  | _, _, .nil => .nil
  | _, _, .cons h r => .cons (Rep.le l h) (RepAll.le l r)
theorem RepK.le {g : G} {F F' : Hp} (l : HLe F F') : ∀ {vs : List (Key × V)} {ds : List (D × D)}, RepK g F vs ds → RepK g F' vs ds
  | _, _, .nil => .nil
  | _, _, .cons h r => .cons (Rep.le l h) (RepK.le l r)
theorem RepF.le {g : G} {F F' : Hp} (l : HLe F F') : ∀ {vs : List (Str × V)} {ds : List (Str × D)}, RepF g F vs ds → RepF g F' vs ds
  | _, _, .nil => .nil
  | _, _, .cons h r => .cons (Rep.le l h) (RepF.le l r)
end

/-- a value in a world -/
inductive RepV (g : G) (w : Wd) : V → Vl → Prop
  | v {x : V} {d : D} : Rep g w.F x d → RepV g w x (.v d)
  | r {n : Nat} {a : Addr} : w.p[n]? = some a → RepV g w (.ref a) (.r n)
inductive RepVs (g : G) (w : Wd) : List V → List Vl → Prop
  | nil : RepVs g w [] []
  | cons {v : V} {vs : List V} {d : Vl} {ds : List Vl} : RepV g w v d → RepVs g w vs ds → RepVs g w (v :: vs) (d :: ds)
inductive RepKV (g : G) (w : Wd) : List (Key × V) → List (D × Vl) → Prop
  | nil : RepKV g w [] []
  | cons {k : Key} {v : V} {kvs : List (Key × V)} {d : Vl} {ps : List (D × Vl)} : RepV g w v d → RepKV g w kvs ps → RepKV g w ((k, v) :: kvs) ((keyD k, d) :: ps)
inductive RepFV (g : G) (w : Wd) : List (Str × V) → List (Str × Vl) → Prop
  | nil : RepFV g w [] []
  | cons {k : Str} {v : V} {kvs : List (Str × V)} {d : Vl} {ps : List (Str × Vl)} : RepV g w v d → RepFV g w kvs ps → RepFV g w ((k, v) :: kvs) ((k, d) :: ps)

/-- the world grows from the heap H to the heap H' -/
structure Ext (w : Wd) (H : Hp) (w' : Wd) (H' : Hp) : Prop where
  pre : ∃ more, w'.p = w.p ++ more
  fle : HLe w.F w'.F
  frame : ∀ a o, H a = some o → a ∉ w.p → noTbl o → H' a = some o
  fresh : ∀ a, a ∈ w'.p → a ∈ w.p ∨ H a = none
  src : ∀ a o, w'.F a = some o → (∃ o', w.F a = some o') ∨ a ∈ w.p ∨ H a = none
  trk : ∀ a o, H a = some o → ∃ o', H' a = some o' ∧ (noTbl o → noTbl o')
theorem Ext.refl (w : Wd) (H : Hp) : Ext w H w H :=
  ⟨⟨[], by simp⟩, HLe.refl _, fun _ _ h _ _ => h, fun _ h => .inl h, fun _ o h => .inl ⟨o, h⟩, fun _ o h => ⟨o, h, id⟩⟩
theorem Ext.trans {w w1 w2 : Wd} {H H1 H2 : Hp} (a : Ext w H w1 H1) (b : Ext w1 H1 w2 H2) : Ext w H w2 H2 := by
  have back : ∀ x, H1 x = none → H x = none := fun x h => by
    cases e : H x with
    | none => rfl
    | some o =>
      obtain ⟨o', q, _⟩ := a.trk x o e
      rw [h] at q; cases q
  refine ⟨?_, a.fle.trans b.fle, fun x o h n t => ?_, fun x h => ?_, fun x o h => ?_, fun x o h => ?_⟩
  · obtain ⟨m1, e1⟩ := a.pre
    obtain ⟨m2, e2⟩ := b.pre
    exact ⟨m1 ++ m2, by rw [e2, e1, List.append_assoc]⟩
  · refine b.frame x o (a.frame x o h n t) (fun z => ?_) t
    rcases a.fresh x z with z | z
    · exact n z
    · rw [h] at z; cases z
  · rcases b.fresh x h with z | z
    · exact a.fresh x z
    · exact .inr (back x z)
  · rcases b.src x o h with ⟨o', z⟩ | z | z
    · exact a.src x o' z
    · rcases a.fresh x z with z | z
      · exact .inr (.inl z)
      · exact .inr (.inr z)
    · exact .inr (.inr (back x z))
  · obtain ⟨o1, e1, n1⟩ := a.trk x o h
    obtain ⟨o2, e2, n2⟩ := b.trk x o1 e1
    exact ⟨o2, e2, fun z => n2 (n1 z)⟩

/-- the part of Ext that values need -/
structure WLe (w w' : Wd) : Prop where
  pre : ∃ more, w'.p = w.p ++ more
  fle : HLe w.F w'.F
theorem Ext.wle {w w' : Wd} {H H' : Hp} (e : Ext w H w' H') : WLe w w' := ⟨e.pre, e.fle⟩
theorem WLe.at {w w' : Wd} (l : WLe w w') {n : Nat} {a : Addr} (h : w.p[n]? = some a) : w'.p[n]? = some a := by
  obtain ⟨m, e⟩ := l.pre
  rw [e, List.getElem?_append_left (List.getElem?_eq_some_iff.mp h).1]; exact h
theorem RepV.le {g : G} {w w' : Wd} (l : WLe w w') {v : V} {x : Vl} (h : RepV g w v x) : RepV g w' v x := by
  cases h with
  | v h => exact .v (h.le l.fle)
  | r h => exact .r (l.at h)
theorem RepVs.le {g : G} {w w' : Wd} (l : WLe w w') : ∀ {vs : List V} {xs : List Vl}, RepVs g w vs xs → RepVs g w' vs xs
  | _, _, .nil => .nil
  | _, _, .cons h r => .cons (h.le l) (RepVs.le l r)
theorem RepKV.le {g : G} {w w' : Wd} (l : WLe w w') : ∀ {vs : List (Key × V)} {xs : List (D × Vl)}, RepKV g w vs xs → RepKV g w' vs xs
  | _, _, .nil => .nil
  | _, _, .cons h r => .cons (h.le l) (RepKV.le l r)
theorem RepFV.le {g : G} {w w' : Wd} (l : WLe w w') : ∀ {vs : List (Str × V)} {xs : List (Str × Vl)}, RepFV g w vs xs → RepFV g w' vs xs
  | _, _, .nil => .nil
  | _, _, .cons h r => .cons (h.le l) (RepFV.le l r)

/-! dicts by tuples -/
mutual
/-- the hash of a key without texts -/
def hashN : NestedKey → Int
  | .none => reduceHash 0xFCA86420
  | .num i => hashInt i
  | .text _ => 0
  | .tup ks => reduceHash (Builtin.Tuple.tupleHashOf (hashNs ks))
def hashNs : List NestedKey → List Int
  | [] => []
  | k :: ks => hashN k :: hashNs ks
end
mutual
/-- a key of ints, as the kit counts it -/
def keyN : D → NestedKey
  | .int i => .num i
  | .tup xs => .tup (keyNs xs)
  | _ => .text ""
def keyNs : List D → List NestedKey
  | [] => []
  | x :: xs => keyN x :: keyNs xs
end
mutual
/-- a key made of ints and tuples -/
def okK : NestedKey → Bool
  | .num _ => true
  | .tup ks => okKs ks
  | _ => false
def okKs : List NestedKey → Bool
  | [] => true
  | k :: ks => okK k && okKs ks
end
def okN (k : NestedKey) : Bool := okK k && decide (k.depth ≤ 8)
def entN : List NestedKey → List (Addr × V) → List Value → List DictEntry
  | k :: nk, q :: ks, v :: vs => ⟨hashN k, .ref q.1, v⟩ :: entN nk ks vs
  | _, _, _ => []
/-- what is true of its object -/
def dnP (a : Addr) (nk : List NestedKey) (ks : List (Addr × V)) : Heap → Prop := fun h => (a == sysModules) = false ∧ ks.length ≤ sizeLine ∧ nk.Nodup ∧ nk.all okN = true ∧ ∃ vs : List Value, Vals (ks.map (·.2)) vs ∧
  ∃ o es ep, h.get? a = some o ∧ o.ExactDict ∧ o.data = .dict es ep ∧ es.toList = entN nk ks vs
/-- a cell -/
def CelRep (g : G) (w : Wd) (H : Hp) (a : Addr) : Cel → Prop
  | .lst xs => ∃ vs, H a = some (.lst vs) ∧ RepVs g w vs xs
  | .dct ps => ∃ kvs, H a = some (.dK kvs) ∧ RepKV g w kvs ps
  | .ins c fs => ∃ C dx vs, g.mg c = some (.ref C) ∧ H a = some (.ins C dx vs) ∧ RepFV g w vs fs
  | .dead => True
  | .dcn ps => ∃ ks : List (Addr × V), H a = some (.ext (dnP a (ps.map fun p => keyN p.1) ks)) ∧ RepVs g w (ks.map fun k => V.ref k.1) (ps.map fun p => .v p.1) ∧ RepVs g w (ks.map (·.2)) (ps.map (·.2))

structure RepSt (g : G) (w : Wd) (H : Hp) (S : Store) : Prop where
  len : w.p.length = S.length
  nd : w.p.Nodup
  le : ∀ a o, w.F a = some o → H a = some o
  out : ∀ (n : Nat) (a : Addr) (c : Cel), w.p[n]? = some a → S[n]? = some c → c ≠ .dead → w.F a = none
  cel : ∀ (n : Nat) (a : Addr) (c : Cel), w.p[n]? = some a → S[n]? = some c → CelRep g w H a c
  tabs : LamX.Tabs g.T H
  tr : ∀ a ∈ w.p, ∃ o, H a = some o ∧ noTbl o
  nt : ∀ a o, w.F a = some o → noTbl o

structure RepSl (g : G) (w : Wd) (s : L2.St) (e : Sl) : Prop where
  len : s.length = e.length
  at_ : ∀ (i : Nat) (x : Vl), e[i]? = some (some x) → ∃ v, s[i]? = some (some v) ∧ RepV g w v x
theorem RepSl.le {g : G} {w w' : Wd} (l : WLe w w') {s : L2.St} {e : Sl} (h : RepSl g w s e) : RepSl g w' s e :=
  ⟨h.len, fun i x q => let ⟨v, a, b⟩ := h.at_ i x q; ⟨v, a, b.le l⟩⟩
theorem RepSl.set {g : G} {w : Wd} {s : L2.St} {e : Sl} (h : RepSl g w s e) {i : Nat} {v : V} {x : Vl} (r : RepV g w v x) : RepSl g w (s.set i (some v)) (e.set i (some x)) := by
  refine ⟨by simpa using h.len, fun j y q => ?_⟩
  by_cases hj : j = i
  · subst hj
    by_cases hl : j < e.length
    · rw [List.getElem?_set_self hl] at q
      cases q
      exact ⟨v, List.getElem?_set_self (by rw [h.len]; exact hl), r⟩
    · rw [List.getElem?_eq_none (by simpa using hl)] at q; cases q
  · rw [List.getElem?_set_ne (Ne.symm hj)] at q ⊢
    exact h.at_ j y q

/-! ### readings by plain functions -/
section
variable (g : G) (W : WX) (s : L2.St) (w : Wd) (H : Hp)
/-- what is wanted of an exception -/
def SatX (c : Str) (fs : List (Str × D)) (S : Store) : Prop :=
  ∀ w' H' C dx vs, Ext w H w' H' → RepSt g w' H' S → g.mg c = some (.ref C) → H' dx = some (.xd vs) → RepF g w'.F vs fs → W (.ref C) (some dx) s H'
/-- over any kind of result, rel tells what it stands for -/
def SatG {α β : Type} (rel : Wd → β → α → Prop) (o : Out α) (Q : β → Hp → Prop) : Prop := match o with
  | .ok x S => ∀ w' H' v, Ext w H w' H' → RepSt g w' H' S → rel w' v x → Q v H'
  | .exc c fs S => SatX g W s w H c fs S
  | .stuck => False
end
abbrev relB : Wd → Bool → Bool → Prop := fun _ v x => v = x
abbrev relO : Wd → Option Int → Option Int → Prop := fun _ v x => v = x
abbrev EM := Sl → Store → Out Vl
abbrev TM := Sl → Store → Out Bool
abbrev AM := Sl → Store → Out (List Vl)
abbrev OM := Sl → Store → Out (Option Int)
abbrev SM := Sl → Store → OutS
def rdG {α β : Type} (g : G) (W : WX) (rel : Wd → β → α → Prop) (m : Sl → Store → Out α) : L2.St → Hp → (β → Hp → Prop) → Prop := fun s H Q =>
  ∃ w e S, RepSt g w H S ∧ RepSl g w s e ∧ SatG g W s w H rel (m e S) Q
abbrev rd (g : G) (W : WX) (m : EM) : TE := rdG g W (RepV g) m
abbrev rdT (g : G) (W : WX) (m : TM) : TT := rdG g W relB m
abbrev rdA (g : G) (W : WX) (m : AM) : TA := rdG g W (RepVs g) m
abbrev rdO (g : G) (W : WX) (m : OM) : TO := rdG g W relO m

section
variable {g : G} {W : WX} {s : L2.St} {w w' : Wd} {H H' : Hp} {α β γ δ : Type} {rel : Wd → β → α → Prop} {rel2 : Wd → δ → γ → Prop}
theorem SatX.ext {c : Str} {fs : List (Str × D)} {S : Store} (h : SatX g W s w H c fs S) (e : Ext w H w' H') : SatX g W s w' H' c fs S :=
  fun w2 H2 C dx vs e2 a b cc d => h w2 H2 C dx vs (e.trans e2) a b cc d
theorem SatG.ext {o : Out α} {Q : β → Hp → Prop} (h : SatG g W s w H rel o Q) (e : Ext w H w' H') : SatG g W s w' H' rel o Q := by
  cases o with
  | ok x S => exact fun w2 H2 v e2 a b => h w2 H2 v (e.trans e2) a b
  | exc c fs S => exact SatX.ext h e
  | stuck => exact h
theorem SatG.bind {o : Out α} {f : α → Store → Out γ} {Q : δ → Hp → Prop} (h : SatG g W s w H rel2 (o.bind f) Q) :
    SatG g W s w H rel o fun v H1 => ∃ w1 S1 x, RepSt g w1 H1 S1 ∧ rel w1 v x ∧ Ext w H w1 H1 ∧ SatG g W s w1 H1 rel2 (f x S1) Q := by
  cases o with
  | ok x S => exact fun w1 H1 v e a b => ⟨w1, S, x, a, b, e, SatG.ext (o := f x S) h e⟩
  | exc c fs S => exact h
  | stuck => exact h
theorem SatG.imp {o : Out α} {Q Q' : β → Hp → Prop} (h : SatG g W s w H rel o Q) (q : ∀ v H', Q v H' → Q' v H') : SatG g W s w H rel o Q' := by
  cases o with
  | ok x S => exact fun w1 H1 v e a b => q _ _ (h w1 H1 v e a b)
  | exc c fs S => exact h
  | stuck => exact h
/-- the whole step: m, then f of its result -/
theorem rd_bind {m : Sl → Store → Out α} {f : α → Sl → Store → Out γ} {Q : δ → Hp → Prop} {Q' : β → Hp → Prop} (h : rdG g W rel2 (fun e S => (m e S).bind fun x S1 => f x e S1) s H Q)
    (q : ∀ w1 H1 S1 e v x, RepSt g w1 H1 S1 → RepSl g w1 s e → rel w1 v x → SatG g W s w1 H1 rel2 (f x e S1) Q → Q' v H1) : rdG g W rel m s H Q' := by
  obtain ⟨w, e, S, hS, hE, h⟩ := h
  exact ⟨w, e, S, hS, hE, h.bind.imp fun v H1 ⟨w1, S1, x, a, b, c, d⟩ => q w1 H1 S1 e v x a (hE.le c.wle) b d⟩
end

/-! ### weakening -/
theorem PE_imp {X : Cx} {e : Expr} {t t' : TE} (h : PE X e t) (i : ∀ s H Q, t' s H Q → t s H Q) : PE X e t' := ⟨fun pins s σ H Q I hw => h.run pins s σ H Q I (i _ _ _ hw)⟩
theorem PT_imp {X : Cx} {e : Expr} {t t' : TT} (h : PT X e t) (i : ∀ s H Q, t' s H Q → t s H Q) : PT X e t' := ⟨fun pins s σ H Q I hw => h.run pins s σ H Q I (i _ _ _ hw)⟩
theorem PW_imp {X : Cx} {e : Expr} {t t' : TT} (h : PW X e t) (i : ∀ s H Q, t' s H Q → t s H Q) : PW X e t' := ⟨fun wh pins s σ H Q I hw => h.run wh pins s σ H Q I (i _ _ _ hw)⟩
theorem PA_imp {X : Cx} {e : List Expr} {t t' : TA} (h : PA X e t) (i : ∀ s H Q, t' s H Q → t s H Q) : PA X e t' := ⟨fun pos pins s σ H Q I hw => h.run pos pins s σ H Q I (i _ _ _ hw)⟩
theorem PO_imp {X : Cx} {e : Option Expr} {t t' : TO} (h : PO X e t) (i : ∀ s H Q, t' s H Q → t s H Q) : PO X e t' := ⟨fun pins s σ H Q I hw => h.run pins s σ H Q I (i _ _ _ hw)⟩
theorem PS_imp {X : Cx} {e : Stmt} {t t' : TS} (h : PS X e t) (i : ∀ E s H, t' E s H → t E s H) : PS X e t' := ⟨fun pins s σ H Q I hw => h.run pins s σ H Q I (i _ _ _ hw)⟩
theorem PSs_imp {X : Cx} {e : List Stmt} {t t' : TS} (h : PSs X e t) (i : ∀ E s H, t' E s H → t E s H) : PSs X e t' := ⟨fun pins s σ H Q I hw => h.run pins s σ H Q I (i _ _ _ hw)⟩
abbrev gX (X : Cx) (T : List (Addr × Str)) : G := ⟨X.K, X.mg, T⟩
end Ax
/-! Ax1: looks at data: items, equality, truth, size -/
namespace Ax
open PySem PySem.Spec PyProof.Rows L2

/-! ### equality of data -/
mutual
def deq : D → D → Bool
  | .non, .non => true
  | .bl a, .bl b => a == b
  | .bl a, .int j => (if a then 1 else 0) == j
  | .int i, .bl b => i == (if b then 1 else 0)
  | .int i, .int j => i == j
  | .str x, .str y => x == y
  | .tup xs, .tup ys => deqs xs ys
  | .lst xs, .lst ys => deqs xs ys
  | .lst xs, .scr ys => deqs xs ys
  | .scr xs, .lst ys => deqs xs ys
  | .scr xs, .scr ys => deqs xs ys
  | _, _ => false
def deqs : List D → List D → Bool
  | [], [] => true
  | x :: xs, y :: ys => deq x y && deqs xs ys
  | _, _ => false
end
/-- plain data of at most this depth -/
def okd : Nat → D → Bool
  | _, .non => true
  | _, .bl _ => true
  | _, .int _ => true
  | _, .str x => PyData.strOk x
  | k + 1, .tup xs => xs.all (okd k)
  | k + 1, .lst xs => xs.all (okd k)
  | k + 1, .scr xs => xs.all (okd k)
  | _, _ => false
mutual
def toP : D → PyData
  | .non => .none
  | .bl b => .bool b
  | .int i => .int i
  | .str x => .str x
  | .tup xs => .tuple (toPs xs)
  | .lst xs => .list (toPs xs)
  | .scr xs => .list (toPs xs)
  | _ => .none
def toPs : List D → List PyData
  | [] => []
  | x :: xs => toP x :: toPs xs
end
theorem okd_lay : ∀ (k : Nat) (d : D), okd k d = true → (toP d).canLay0 = true ∧ (toP d).depth ≤ k
  | _, .non, _ => ⟨rfl, by simp [toP, PyData.depth]⟩
  | _, .bl _, _ => ⟨rfl, by simp [toP, PyData.depth]⟩
  | _, .int _, _ => ⟨rfl, by simp [toP, PyData.depth]⟩
  | _, .str x, h => ⟨by simpa [okd, toP, PyData.canLay0] using h, by simp [toP, PyData.depth]⟩
  | k + 1, .tup xs, h => by
    have q := okds k xs (by simpa [okd] using h)
    simp only [toP, PyData.canLay0, PyData.depth]; exact ⟨q.1, by omega⟩
  | k + 1, .lst xs, h => by
    have q := okds k xs (by simpa [okd] using h)
    simp only [toP, PyData.canLay0, PyData.depth]; exact ⟨q.1, by omega⟩
  | k + 1, .scr xs, h => by
    have q := okds k xs (by simpa [okd] using h)
    simp only [toP, PyData.canLay0, PyData.depth]; exact ⟨q.1, by omega⟩
  | 0, .tup _, h => by simp [okd] at h
  | 0, .lst _, h => by simp [okd] at h
  | 0, .scr _, h => by simp [okd] at h
  | _, .dct _, h => by simp [okd] at h
  | _, .ptp _, h => by simp [okd] at h
  | _, .ins _ _, h => by simp [okd] at h
  | _, .fn _, h => by simp [okd] at h
  | _, .ty _, h => by simp [okd] at h
where
  okds (k : Nat) : ∀ xs : List D, (∀ x ∈ xs, okd k x = true) → PyData.canLayAll0 (toPs xs) = true ∧ PyData.depthAll (toPs xs) ≤ k
  | [], _ => ⟨by simp [toPs, PyData.canLayAll0], by simp [toPs, PyData.depthAll]⟩
  | x :: xs, h => by
    have h1 := okd_lay k x (h x (by simp))
    have h2 := okds k xs fun y hy => h y (by simp [hy])
    simp only [toPs, PyData.canLayAll0, PyData.depthAll, h1.1, h2.1, Bool.and_self, true_and]
    exact Nat.max_le.mpr ⟨h1.2, h2.2⟩
theorem okd_shaped {d : D} (h : okd 60 d = true) : SeqAt.shaped (toP d) = true := by
  obtain ⟨a, b⟩ := okd_lay 60 d h
  unfold SeqAt.shaped
  rw [a, Bool.true_and]
  exact decide_eq_true (by omega)
mutual
theorem deq_eqv : ∀ (k : Nat) (a b : D), okd k a = true → okd k b = true → PyData.eqv (toP a) (toP b) = deq a b
  | _, .non, b, _, hb => by cases b <;> first | (simp [okd] at hb; done) | (simp [toP, PyData.eqv, deq]; done)
  | _, .bl x, b, _, hb => by cases b <;> first | (simp [okd] at hb; done) | (simp [toP, PyData.eqv, deq]; done)
  | _, .int x, b, _, hb => by cases b <;> first | (simp [okd] at hb; done) | (simp [toP, PyData.eqv, deq]; done)
  | _, .str x, b, _, hb => by cases b <;> first | (simp [okd] at hb; done) | (simp [toP, PyData.eqv, deq]; done)
  | k + 1, .tup xs, b, ha, hb => by
    cases b <;> first | (simp [okd] at hb; done) | (simp [toP, PyData.eqv, deq]; done) | skip
    simp only [toP, PyData.eqv, deq]
    exact deqs_eqv k _ _ (by simpa [okd] using ha) (by simpa [okd] using hb)
  | k + 1, .lst xs, b, ha, hb => by
    cases b <;> first | (simp [okd] at hb; done) | (simp [toP, PyData.eqv, deq]; done) | skip
    all_goals
      simp only [toP, PyData.eqv, deq]
      exact deqs_eqv k _ _ (by simpa [okd] using ha) (by simpa [okd] using hb)
  | k + 1, .scr xs, b, ha, hb => by
    cases b <;> first | (simp [okd] at hb; done) | (simp [toP, PyData.eqv, deq]; done) | skip
    all_goals
      simp only [toP, PyData.eqv, deq]
      exact deqs_eqv k _ _ (by simpa [okd] using ha) (by simpa [okd] using hb)
  | 0, .tup _, _, h, _ => by simp [okd] at h
  | 0, .lst _, _, h, _ => by simp [okd] at h
  | 0, .scr _, _, h, _ => by simp [okd] at h
  | _, .dct _, _, h, _ => by simp [okd] at h
  | _, .ptp _, _, h, _ => by simp [okd] at h
  | _, .ins _ _, _, h, _ => by simp [okd] at h
  | _, .fn _, _, h, _ => by simp [okd] at h
  | _, .ty _, _, h, _ => by simp [okd] at h
theorem deqs_eqv : ∀ (k : Nat) (a b : List D), (∀ x ∈ a, okd k x = true) → (∀ x ∈ b, okd k x = true) → PyData.eqvAll (toPs a) (toPs b) = deqs a b
  | _, [], [], _, _ => by simp [toPs, PyData.eqvAll, deqs]
  | _, [], _ :: _, _, _ => by simp [toPs, PyData.eqvAll, deqs]
  | _, _ :: _, [], _, _ => by simp [toPs, PyData.eqvAll, deqs]
  | k, x :: xs, y :: ys, ha, hb => by
    simp only [toPs, PyData.eqvAll, deqs]
    rw [deq_eqv k x y (ha x (by simp)) (hb y (by simp)), deqs_eqv k xs ys (fun z hz => ha z (by simp [hz])) (fun z hz => hb z (by simp [hz]))]
end
mutual
theorem Rep.dp {g : G} {F : Hp} : ∀ (k : Nat) {v : V} {d : D}, Rep g F v d → okd k d = true → Dp g.K F v (toP d)
  | _, _, _, .non, _ => .non
  | _, _, _, .bl b, _ => .bl b
  | _, _, _, .int i, _ => .int i
  | _, _, _, .str x, _ => .str x
  | k + 1, _, _, .tup h r, ok => .tup h.sq (RepAll.dp k r (by simpa [okd] using ok))
  | k + 1, _, _, .lst h r, ok => .lst (SqL.of h) (RepAll.dp k r (by simpa [okd] using ok))
  | k + 1, _, _, .scr h r, ok => .lst h (RepAll.dp k r (by simpa [okd] using ok))
  | 0, _, _, .tup _ _, h => by simp [okd] at h
  | _, _, _, .ptp _ _, h => by simp [okd] at h
  | 0, _, _, .lst _ _, h => by simp [okd] at h
  | 0, _, _, .scr _ _, h => by simp [okd] at h
  | _, _, _, .dK _ _, h => by simp [okd] at h
  | _, _, _, .ins _ _ _, h => by simp [okd] at h
  | _, _, _, .fn _, h => by simp [okd] at h
  | _, _, _, .ty _, h => by simp [okd] at h
theorem RepAll.dp {g : G} {F : Hp} : ∀ (k : Nat) {vs : List V} {ds : List D}, RepAll g F vs ds → (∀ d ∈ ds, okd k d = true) → DpAll g.K F vs (toPs ds)
  | _, _, _, .nil, _ => .nil
  | k, _, _, .cons h r, ok => .cons (Rep.dp k h (ok _ (by simp))) (RepAll.dp k r fun d hd => ok d (by simp [hd]))
end

/-! ### lists of represented things -/
section
variable {g : G} {w : Wd} {F : Hp}
theorem RepAll.len : ∀ {vs : List V} {ds : List D}, RepAll g F vs ds → vs.length = ds.length
  | _, _, .nil => rfl
  | _, _, .cons _ r => by simp [RepAll.len r]
theorem RepVs.len : ∀ {vs : List V} {ds : List Vl}, RepVs g w vs ds → vs.length = ds.length
  | _, _, .nil => rfl
  | _, _, .cons _ r => by simp [RepVs.len r]
theorem RepAll.vs : ∀ {vs : List V} {ds : List D}, RepAll g w.F vs ds → RepVs g w vs (ds.map .v)
  | _, _, .nil => .nil
  | _, _, .cons h r => .cons (.v h) (RepAll.vs r)
theorem RepVs.get : ∀ {vs : List V} {xs : List Vl} {i : Nat} {v : V} {x : Vl}, RepVs g w vs xs → vs[i]? = some v → xs[i]? = some x → RepV g w v x
  | _, _, 0, _, _, .cons h _, e1, e2 => by simp at e1 e2; subst e1; subst e2; exact h
  | _, _, i + 1, _, _, .cons _ r, e1, e2 => RepVs.get (i := i) r (by simpa using e1) (by simpa using e2)
theorem RepVs.at {vs : List V} {xs : List Vl} {i : Nat} {x : Vl} (h : RepVs g w vs xs) (e : xs[i]? = some x) : ∃ v, vs[i]? = some v ∧ RepV g w v x := by
  have hl := h.len
  have hi : i < vs.length := by rw [hl]; exact (List.getElem?_eq_some_iff.mp e).1
  exact ⟨vs[i], List.getElem?_eq_getElem hi, h.get (List.getElem?_eq_getElem hi) e⟩
theorem RepAll.at {vs : List V} {xs : List D} {i : Nat} {x : D} (h : RepAll g F vs xs) (e : xs[i]? = some x) : ∃ v, vs[i]? = some v ∧ Rep g F v x := by
  induction h using RepAll.rec (motive_1 := fun _ _ _ => True) (motive_3 := fun _ _ _ => True) (motive_4 := fun _ _ _ => True) generalizing i with
  | nil => simp at e
  | cons h r _ ih =>
    cases i with
    | zero => simp at e; subst e; exact ⟨_, rfl, h⟩
    | succ i => obtain ⟨v, a, b⟩ := ih (by simpa using e); exact ⟨v, by simpa using a, b⟩
  | _ => trivial
theorem RepVs.append : ∀ {vs ws : List V} {xs ys : List Vl}, RepVs g w vs xs → RepVs g w ws ys → RepVs g w (vs ++ ws) (xs ++ ys)
  | _, _, _, _, .nil, s => s
  | _, _, _, _, .cons h r, s => .cons h (RepVs.append r s)
theorem RepAll.append : ∀ {vs ws : List V} {xs ys : List D}, RepAll g F vs xs → RepAll g F ws ys → RepAll g F (vs ++ ws) (xs ++ ys)
  | _, _, _, _, .nil, s => s
  | _, _, _, _, .cons h r, s => .cons h (RepAll.append r s)
theorem RepVs.take : ∀ {vs : List V} {xs : List Vl} (n : Nat), RepVs g w vs xs → RepVs g w (vs.take n) (xs.take n)
  | _, _, 0, _ => .nil
  | _, _, _ + 1, .nil => .nil
  | _, _, n + 1, .cons h r => .cons h (RepVs.take n r)
theorem RepVs.drop : ∀ {vs : List V} {xs : List Vl} (n : Nat), RepVs g w vs xs → RepVs g w (vs.drop n) (xs.drop n)
  | _, _, 0, r => r
  | _, _, _ + 1, .nil => .nil
  | _, _, n + 1, .cons _ r => RepVs.drop n r
theorem RepAll.take : ∀ {vs : List V} {xs : List D} (n : Nat), RepAll g F vs xs → RepAll g F (vs.take n) (xs.take n)
  | _, _, 0, _ => .nil
  | _, _, _ + 1, .nil => .nil
  | _, _, n + 1, .cons h r => .cons h (RepAll.take n r)
theorem RepAll.drop : ∀ {vs : List V} {xs : List D} (n : Nat), RepAll g F vs xs → RepAll g F (vs.drop n) (xs.drop n)
  | _, _, 0, r => r
  | _, _, _ + 1, .nil => .nil
  | _, _, n + 1, .cons _ r => RepAll.drop n r
theorem RepAll.reverse {vs : List V} {xs : List D} (h : RepAll g F vs xs) : RepAll g F vs.reverse xs.reverse := by
  induction h using RepAll.rec (motive_1 := fun _ _ _ => True) (motive_3 := fun _ _ _ => True) (motive_4 := fun _ _ _ => True) with
  | nil => exact .nil
  | cons h r _ ih => rw [List.reverse_cons, List.reverse_cons]; exact ih.append (.cons h .nil)
  | _ => trivial
theorem RepVs.set {v : V} {x : Vl} (h : RepV g w v x) : ∀ {vs : List V} {xs : List Vl} (n : Nat), RepVs g w vs xs → RepVs g w (vs.set n v) (xs.set n x)
  | _, _, _, .nil => .nil
  | _, _, 0, .cons _ r => .cons h r
  | _, _, n + 1, .cons q r => .cons q (RepVs.set h n r)
theorem RepAll.ints : ∀ {vs : List V} {ns : List Int}, RepAll g F vs (ns.map D.int) → vs = ns.map V.int
  | _, [], .nil => rfl
  | _, n :: ns, .cons h r => by cases h; rw [RepAll.ints (ns := ns) r]; rfl
theorem RepAll.bls : ∀ {vs : List V} {ns : List Bool}, RepAll g F vs (ns.map D.bl) → vs = ns.map V.bl
  | _, [], .nil => rfl
  | _, n :: ns, .cons h r => by cases h; rw [RepAll.bls (ns := ns) r]; rfl
theorem RepAll.strs : ∀ {vs : List V} {ns : List Str}, RepAll g F vs (ns.map D.str) → vs = ns.map V.str
  | _, [], .nil => rfl
  | _, n :: ns, .cons h r => by cases h; rw [RepAll.strs (ns := ns) r]; rfl
end

/-! ### views -/
/-- all of them are data -/
def unv : List Vl → Option (List D)
  | [] => some []
  | .v d :: r => (unv r).map (d :: ·)
  | .r _ :: _ => none
theorem unv_map : ∀ ds : List D, unv (ds.map .v) = some ds
  | [] => rfl
  | d :: ds => by simp [unv, unv_map ds]
theorem unv_eq : ∀ {xs : List Vl} {ds : List D}, unv xs = some ds → xs = ds.map .v
  | [], ds, h => by simp [unv] at h; subst h; rfl
  | .v d :: r, ds, h => by
    simp only [unv, Option.map_eq_some_iff] at h
    obtain ⟨e, h1, h2⟩ := h
    subst h2
    rw [unv_eq h1]; rfl
  | .r _ :: _, ds, h => by simp [unv] at h
def unvP : List (D × Vl) → Option (List (D × D))
  | [] => some []
  | (k, .v d) :: r => (unvP r).map ((k, d) :: ·)
  | (_, .r _) :: _ => none
theorem unvP_map : ∀ ds : List (D × D), unvP (ds.map fun p => (p.1, .v p.2)) = some ds
  | [] => rfl
  | (k, d) :: ds => by simp [unvP, unvP_map ds]
def unvF : List (Str × Vl) → Option (List (Str × D))
  | [] => some []
  | (k, .v d) :: r => (unvF r).map ((k, d) :: ·)
  | (_, .r _) :: _ => none
theorem unvF_map : ∀ ds : List (Str × D), unvF (ds.map fun p => (p.1, .v p.2)) = some ds
  | [] => rfl
  | (k, d) :: ds => by simp [unvF, unvF_map ds]
section
variable {g : G} {w : Wd} {F H : Hp} {S : Store}
theorem RepVs.un : ∀ {vs : List V} {xs : List Vl} {ds : List D}, RepVs g w vs xs → unv xs = some ds → RepAll g w.F vs ds
  | _, _, _, .nil, h => by simp [unv] at h; subst h; exact .nil
  | _, _, _, .cons (.v h) r, e => by
    simp only [unv, Option.map_eq_some_iff] at e
    obtain ⟨z, h1, h2⟩ := e
    subst h2
    exact .cons h (RepVs.un r h1)
  | _, _, _, .cons (.r _) _, e => by simp [unv] at e
theorem RepKV.un : ∀ {vs : List (Key × V)} {xs : List (D × Vl)} {ds : List (D × D)}, RepKV g w vs xs → unvP xs = some ds → RepK g w.F vs ds
  | _, _, _, .nil, h => by simp [unvP] at h; subst h; exact .nil
  | _, _, _, .cons (.v h) r, e => by
    simp only [unvP, Option.map_eq_some_iff] at e
    obtain ⟨z, h1, h2⟩ := e
    subst h2
    exact .cons h (RepKV.un r h1)
  | _, _, _, .cons (.r _) _, e => by simp [unvP] at e
theorem RepFV.un : ∀ {vs : List (Str × V)} {xs : List (Str × Vl)} {ds : List (Str × D)}, RepFV g w vs xs → unvF xs = some ds → RepF g w.F vs ds
  | _, _, _, .nil, h => by simp [unvF] at h; subst h; exact .nil
  | _, _, _, .cons (.v h) r, e => by
    simp only [unvF, Option.map_eq_some_iff] at e
    obtain ⟨z, h1, h2⟩ := e
    subst h2
    exact .cons h (RepFV.un r h1)
  | _, _, _, .cons (.r _) _, e => by simp [unvF] at e
theorem RepK.kv : ∀ {vs : List (Key × V)} {ds : List (D × D)}, RepK g w.F vs ds → RepKV g w vs (ds.map fun p => (p.1, .v p.2))
  | _, _, .nil => .nil
  | _, _, .cons h r => .cons (.v h) (RepK.kv r)
theorem RepF.fv : ∀ {vs : List (Str × V)} {ds : List (Str × D)}, RepF g w.F vs ds → RepFV g w vs (ds.map fun p => (p.1, .v p.2))
  | _, _, .nil => .nil
  | _, _, .cons h r => .cons (.v h) (RepF.fv r)
end

/-- the items of a list -/
def lview (S : Store) : Vl → Option (List Vl)
  | .v (.lst ds) => some (ds.map .v)
  | .r n => match S[n]? with
    | some (.lst xs) => some xs
    | _ => none
  | _ => none
/-- the items of a list or tuple -/
def qview (S : Store) : Vl → Option (List Vl)
  | .v (.lst ds) => some (ds.map .v)
  | .v (.scr ds) => some (ds.map .v)
  | .v (.tup ds) => some (ds.map .v)
  | .r n => match S[n]? with
    | some (.lst xs) => some xs
    | _ => none
  | _ => none
/-- a look at a value as data (a cell as it stands) -/
def peek (S : Store) : Vl → Option D
  | .v d => some d
  | .r n => match S[n]? with
    | some (.lst xs) => (unv xs).map .lst
    | some (.dct ps) => (unvP ps).map .dct
    | some (.ins c fs) => (unvF fs).map (.ins c)
    | _ => none

section
variable {g : G} {w : Wd} {H : Hp} {S : Store} {v : V} {x : Vl}
theorem RepSt.hle (h : RepSt g w H S) : HLe w.F H := HLe.of h.le
theorem lview_rep (h : RepSt g w H S) (r : RepV g w v x) {xs : List Vl} (e : lview S x = some xs) : ∃ a vs, v = .ref a ∧ H a = some (.lst vs) ∧ RepVs g w vs xs := by
  cases r with
  | v r =>
    cases r with
    | lst q z => simp only [lview, Option.some.injEq] at e; subst e; exact ⟨_, _, rfl, h.le _ _ q, z.vs⟩
    | _ => simp [lview] at e
  | @r n a r =>
    simp only [lview] at e
    split at e
    · rename_i c hc
      cases e
      obtain ⟨vs, q, z⟩ := h.cel _ _ _ r hc
      exact ⟨_, vs, rfl, q, z⟩
    · cases e
theorem qview_rep (h : RepSt g w H S) (r : RepV g w v x) {xs : List Vl} (e : qview S x = some xs) : ∃ a vs, v = .ref a ∧ (SqL g.K H a vs ∨ SqT g.K H a vs) ∧ RepVs g w vs xs := by
  cases r with
  | v r =>
    cases r with
    | lst q z => simp only [qview, Option.some.injEq] at e; subst e; exact ⟨_, _, rfl, .inl (SqL.of (h.le _ _ q)), z.vs⟩
    | scr q z => simp only [qview, Option.some.injEq] at e; subst e; exact ⟨_, _, rfl, .inl (sqL_le h.hle q), z.vs⟩
    | tup q z => simp only [qview, Option.some.injEq] at e; subst e; exact ⟨_, _, rfl, .inr (sqT_le h.hle q.sq), z.vs⟩
    | _ => simp [qview] at e
  | @r n a r =>
    simp only [qview] at e
    split at e
    · rename_i c hc
      cases e
      obtain ⟨vs, q, z⟩ := h.cel _ _ _ r hc
      exact ⟨_, vs, rfl, .inl (SqL.of q), z⟩
    · cases e
theorem peek_rep (h : RepSt g w H S) (r : RepV g w v x) {d : D} (e : peek S x = some d) : Rep g H v d := by
  cases r with
  | v r => simp only [peek, Option.some.injEq] at e; subst e; exact r.le h.hle
  | @r n a r =>
    simp only [peek] at e
    split at e
    · rename_i c hc
      obtain ⟨vs, q, z⟩ := h.cel _ _ _ r hc
      simp only [Option.map_eq_some_iff] at e
      obtain ⟨ds, e1, e2⟩ := e
      subst e2
      exact .lst q ((z.un e1).le h.hle)
    · rename_i c hc
      simp only [Option.map_eq_some_iff] at e
      obtain ⟨ds, e1, e2⟩ := e
      subst e2
      obtain ⟨kvs, q, z⟩ := h.cel _ _ _ r hc
      exact .dK (.inl q) ((z.un e1).le h.hle)
    · rename_i c hc
      simp only [Option.map_eq_some_iff] at e
      obtain ⟨ds, e1, e2⟩ := e
      subst e2
      obtain ⟨C, dx, vs, m, q, z⟩ := h.cel _ _ _ r hc
      exact .ins m q ((z.un e1).le h.hle)
    · cases e
end

/-! ### new things -/
section
variable {g : G} {w : Wd} {H : Hp} {S : Store}
theorem tabs_upd {T : List (Addr × Str)} {p : Addr} {o o' : HO} (h : LamX.Tabs T H) (hp : H p = none ∨ (H p = some o' ∧ noTbl o' ∧ ∀ q c, o' ≠ LamX.CodeO c q)) : LamX.Tabs T (upd H p o) := fun q hq => by
  obtain ⟨ps, h1, h2, h3⟩ := h q hq
  have ne : ∀ b u, H b = some u → (∃ ps, u = .tbl ps) ∨ (∃ c q, u = LamX.CodeO c q) → b ≠ p := fun b u e k z => by
    subst z
    rcases hp with hp | ⟨hp, n1, n2⟩
    · rw [hp] at e; cases e
    · rw [hp] at e; cases e
      rcases k with ⟨ps, k⟩ | ⟨c, q, k⟩
      · rw [k] at n1; exact n1
      · exact n2 q c k
  refine ⟨ps, by rw [upd_ne (ne _ _ h1 (.inl ⟨_, rfl⟩))]; exact h1, h2, fun pos cv hc => ?_⟩
  obtain ⟨c, e1, e2⟩ := h3 pos cv hc
  exact ⟨c, e1, by rw [upd_ne (ne _ _ e2 (.inr ⟨_, _, rfl⟩))]; exact e2⟩
/-- a new thing that nobody will change -/
theorem new_froz (h : RepSt g w H S) {p : Addr} (hp : H p = none) (o : HO) (ho : noTbl o := by trivial) : RepSt g ⟨w.p, upd w.F p o⟩ (upd H p o) S ∧ Ext w H ⟨w.p, upd w.F p o⟩ (upd H p o) := by
  have fp : w.F p = none := by
    cases e : w.F p with
    | none => rfl
    | some u => rw [h.le _ _ e] at hp; cases hp
  have pn : ∀ b u, H b = some u → b ≠ p := fun b u e z => by rw [z, hp] at e; cases e
  have fn : ∀ b u, w.F b = some u → b ≠ p := fun b u e => pn b u (h.le _ _ e)
  have hle : HLe w.F (upd w.F p o) := HLe.of fun b u e => by rw [upd_ne (fn b u e)]; exact e
  have live : ∀ (n : Nat) (a : Addr) (c : Cel), w.p[n]? = some a → S[n]? = some c → c ≠ .dead → a ≠ p := fun n a c e1 e2 nd z => by
    have q := h.cel n a c e1 e2
    subst z
    cases c with
    | lst xs => obtain ⟨vs, q, _⟩ := q; rw [hp] at q; cases q
    | dct ps => obtain ⟨vs, q, _⟩ := q; rw [hp] at q; cases q
    | dcn ps => obtain ⟨vs, q, _, _⟩ := q; rw [hp] at q; cases q
    | ins c fs => obtain ⟨_, _, _, _, q, _⟩ := q; rw [hp] at q; cases q
    | dead => exact nd rfl
  refine ⟨⟨h.len, h.nd, fun a u e => ?_, fun n a c e1 e2 nd => ?_, fun n a c e1 e2 => ?_, tabs_upd (o' := .tbl #[]) h.tabs (.inl hp), fun a ha => let ⟨u, e, n⟩ := h.tr a ha; ⟨u, by rw [upd_ne (pn a u e)]; exact e, n⟩, fun a u e => by
    have e : upd w.F p o a = some u := e
    by_cases z : a = p
    · subst z; rw [upd_same] at e; cases e; exact ho
    · rw [upd_ne z] at e; exact h.nt _ _ e⟩, ⟨⟨[], by simp⟩, hle, fun a u e _ _ => by rw [upd_ne (pn a u e)]; exact e, fun a e => .inl e, fun a u e => ?_, fun a u e => ⟨u, by rw [upd_ne (pn a u e)]; exact e, id⟩⟩⟩
  · have e : upd w.F p o a = some u := e
    by_cases z : a = p
    · subst z
      rw [upd_same] at e ⊢; exact e
    · rw [upd_ne z] at e ⊢; exact h.le _ _ e
  · show upd w.F p o a = none
    rw [upd_ne (live n a c e1 e2 nd)]
    exact h.out n a c e1 e2 nd
  · have q := h.cel n a c e1 e2
    have wle : WLe w ⟨w.p, upd w.F p o⟩ := ⟨⟨[], by simp⟩, hle⟩
    cases c with
    | lst xs => obtain ⟨vs, q1, q2⟩ := q; exact ⟨vs, by rw [upd_ne (pn _ _ q1)]; exact q1, q2.le wle⟩
    | dct ps => obtain ⟨vs, q1, q2⟩ := q; exact ⟨vs, by rw [upd_ne (pn _ _ q1)]; exact q1, q2.le wle⟩
    | dcn ps => obtain ⟨vs, q1, q2, q3⟩ := q; exact ⟨vs, by rw [upd_ne (pn _ _ q1)]; exact q1, q2.le wle, q3.le wle⟩
    | ins c fs => obtain ⟨C, dx, vs, m, q1, q2⟩ := q; exact ⟨C, dx, vs, m, by rw [upd_ne (pn _ _ q1)]; exact q1, q2.le wle⟩
    | dead => trivial
  · by_cases z : a = p
    · subst z; exact .inr (.inr hp)
    · have e' : upd w.F p o a = some u := e
      rw [upd_ne z] at e'; exact .inl ⟨u, e'⟩
/-- a new cell -/
theorem new_cel (h : RepSt g w H S) {p : Addr} (hp : H p = none) (o : HO) {c : Cel} (hc : CelRep g w (upd H p o) p c) (ho : noTbl o := by trivial) : RepSt g ⟨w.p ++ [p], w.F⟩ (upd H p o) (S ++ [c]) ∧ Ext w H ⟨w.p ++ [p], w.F⟩ (upd H p o) := by
  have pn : ∀ b u, H b = some u → b ≠ p := fun b u e z => by rw [z, hp] at e; cases e
  have wle : WLe w ⟨w.p ++ [p], w.F⟩ := ⟨⟨[p], rfl⟩, HLe.refl _⟩
  have pf : p ∉ w.p := fun z => by
    obtain ⟨u, e, _⟩ := h.tr p z
    rw [hp] at e; cases e
  have at_ : ∀ {n : Nat} {a : Addr} {c' : Cel}, (w.p ++ [p])[n]? = some a → (S ++ [c])[n]? = some c' → (w.p[n]? = some a ∧ S[n]? = some c') ∨ (a = p ∧ c' = c) := fun {n a c'} e1 e2 => by
    by_cases hn : n < w.p.length
    · rw [List.getElem?_append_left hn] at e1
      rw [List.getElem?_append_left (by rw [← h.len]; exact hn)] at e2
      exact .inl ⟨e1, e2⟩
    · have hl := (List.getElem?_eq_some_iff.mp e1).1
      simp only [List.length_append, List.length_cons, List.length_nil] at hl
      have e : n = w.p.length := by omega
      subst e
      rw [List.getElem?_append_right (Nat.le_refl _)] at e1
      rw [h.len, List.getElem?_append_right (Nat.le_refl _)] at e2
      simp at e1 e2
      exact .inr ⟨e1.symm, e2.symm⟩
  refine ⟨⟨by simp [h.len], ?_, fun a u e => ?_, fun n a c' e1 e2 nd => ?_, fun n a c' e1 e2 => ?_, tabs_upd (o' := .tbl #[]) h.tabs (.inl hp), fun a ha => ?_, fun a u e => h.nt a u e⟩, ⟨⟨[p], rfl⟩, HLe.refl _, fun a u e _ _ => by rw [upd_ne (pn a u e)]; exact e, fun a e => ?_, fun a u e => .inl ⟨u, e⟩, fun a u e => ⟨u, by rw [upd_ne (pn a u e)]; exact e, id⟩⟩⟩
  · show (w.p ++ [p]).Nodup
    rw [List.nodup_append]
    exact ⟨h.nd, by simp, fun a ha b hb => by simp at hb; subst hb; exact fun z => pf (z ▸ ha)⟩
  · have e' := h.le _ _ e
    rw [upd_ne (pn _ _ e')]; exact e'
  · rcases at_ e1 e2 with ⟨a1, a2⟩ | ⟨rfl, rfl⟩
    · exact h.out n a c' a1 a2 nd
    · cases q : w.F a with
      | none => rfl
      | some u => rw [h.le _ _ q] at hp; cases hp
  · rcases at_ e1 e2 with ⟨a1, a2⟩ | ⟨rfl, rfl⟩
    · have q := h.cel n a c' a1 a2
      cases c' with
      | lst xs => obtain ⟨vs, q1, q2⟩ := q; exact ⟨vs, by rw [upd_ne (pn _ _ q1)]; exact q1, q2.le wle⟩
      | dct ps => obtain ⟨vs, q1, q2⟩ := q; exact ⟨vs, by rw [upd_ne (pn _ _ q1)]; exact q1, q2.le wle⟩
      | dcn ps => obtain ⟨vs, q1, q2, q3⟩ := q; exact ⟨vs, by rw [upd_ne (pn _ _ q1)]; exact q1, q2.le wle, q3.le wle⟩
      | ins c fs => obtain ⟨C, dx, vs, m, q1, q2⟩ := q; exact ⟨C, dx, vs, m, by rw [upd_ne (pn _ _ q1)]; exact q1, q2.le wle⟩
      | dead => trivial
    · cases c' with
      | lst xs => obtain ⟨vs, q1, q2⟩ := hc; exact ⟨vs, q1, q2.le wle⟩
      | dct ps => obtain ⟨vs, q1, q2⟩ := hc; exact ⟨vs, q1, q2.le wle⟩
      | dcn ps => obtain ⟨vs, q1, q2, q3⟩ := hc; exact ⟨vs, q1, q2.le wle, q3.le wle⟩
      | ins c fs => obtain ⟨C, dx, vs, m, q1, q2⟩ := hc; exact ⟨C, dx, vs, m, q1, q2.le wle⟩
      | dead => trivial
  · rcases List.mem_append.mp ha with ha | ha
    · obtain ⟨u, e, n⟩ := h.tr a ha
      exact ⟨u, by rw [upd_ne (pn a u e)]; exact e, n⟩
    · simp at ha; subst ha; exact ⟨o, upd_same, ho⟩
  · rcases List.mem_append.mp e with e | e
    · exact .inl e
    · simp at e; subst e; exact .inr hp
def mutHO : HO → Prop
  | .lst _ => True
  | .dK _ => True
  | .dT _ => True
  | .ins _ _ _ => True
  | _ => False
/-- a cell is written -/
theorem set_celX (h : RepSt g w H S) {n : Nat} {p : Addr} {c0 c : Cel} {o0 : HO} (e1 : w.p[n]? = some p) (e2 : S[n]? = some c0) (nd : c0 ≠ .dead) (o : HO) (m : H p = some o0) (mu : noTbl o0 ∧ ∀ q c, o0 ≠ LamX.CodeO c q) (hc : CelRep g w (upd H p o) p c) (hno : noTbl o := by trivial) :
    RepSt g w (upd H p o) (S.set n c) ∧ Ext w H w (upd H p o) := by
  have hf : w.F p = none := h.out n p c0 e1 e2 nd
  have hm : p ∈ w.p := List.mem_of_getElem? e1
  refine ⟨⟨by simp [h.len], h.nd, fun a u e => ?_, fun k a c' a1 a2 nd' => ?_, fun k a c' a1 a2 => ?_, tabs_upd h.tabs (.inr ⟨m, ?_, ?_⟩), fun a ha => let ⟨u, e, n⟩ := h.tr a ha; if z : a = p then ⟨o, by rw [z]; exact upd_same, hno⟩ else ⟨u, by rw [upd_ne z]; exact e, n⟩, h.nt⟩, ⟨⟨[], by simp⟩, HLe.refl _, fun a u e na _ => by rw [upd_ne (fun z : a = p => na (by rw [z]; exact hm))]; exact e, fun a e => .inl e, fun a u e => .inl ⟨u, e⟩, fun a u e => ?_⟩⟩
  · have ne : a ≠ p := fun z => by rw [z, hf] at e; cases e
    rw [upd_ne ne]; exact h.le _ _ e
  · by_cases hk : k = n
    · subst hk
      rw [e1] at a1; cases a1
      exact hf
    · rw [List.getElem?_set_ne (Ne.symm hk)] at a2
      exact h.out k a c' a1 a2 nd'
  · by_cases hk : k = n
    · subst hk
      rw [e1] at a1; cases a1
      rw [List.getElem?_set_self (List.getElem?_eq_some_iff.mp e2).1] at a2
      cases a2
      exact hc
    · rw [List.getElem?_set_ne (Ne.symm hk)] at a2
      have ne : a ≠ p := fun z => hk (by
        subst z
        exact ((List.getElem?_inj (List.getElem?_eq_some_iff.mp a1).1 h.nd).mp (a1.trans e1.symm)))
      have q := h.cel k a c' a1 a2
      cases c' with
      | lst xs => obtain ⟨vs, q1, q2⟩ := q; exact ⟨vs, by rw [upd_ne ne]; exact q1, q2⟩
      | dct ps => obtain ⟨vs, q1, q2⟩ := q; exact ⟨vs, by rw [upd_ne ne]; exact q1, q2⟩
      | dcn ps => obtain ⟨vs, q1, q2, q3⟩ := q; exact ⟨vs, by rw [upd_ne ne]; exact q1, q2, q3⟩
      | ins c fs => obtain ⟨C, dx, vs, m', q1, q2⟩ := q; exact ⟨C, dx, vs, m', by rw [upd_ne ne]; exact q1, q2⟩
      | dead => trivial
  · exact mu.1
  · exact mu.2
  · by_cases z : a = p
    · subst z; exact ⟨o, upd_same, fun _ => hno⟩
    · exact ⟨u, by rw [upd_ne z]; exact e, id⟩
theorem set_cel (h : RepSt g w H S) {n : Nat} {p : Addr} {c0 c : Cel} {o0 : HO} (e1 : w.p[n]? = some p) (e2 : S[n]? = some c0) (nd : c0 ≠ .dead) (o : HO) (m : H p = some o0) (mu : mutHO o0) (hc : CelRep g w (upd H p o) p c) (hno : noTbl o := by trivial) :
    RepSt g w (upd H p o) (S.set n c) ∧ Ext w H w (upd H p o) := by
  refine set_celX h e1 e2 nd o m ⟨?_, ?_⟩ hc hno
  · cases o0 <;> first | trivial | exact mu.elim
  · intro q c z
    subst z
    exact mu.elim
theorem dnP_ne {a : Addr} {nk : List NestedKey} {ks : List (Addr × V)} {c : Addr} {q : Str} : HO.ext (dnP a nk ks) ≠ LamX.CodeO c q := by
  intro z
  unfold LamX.CodeO at z
  injection z with z
  have t0 : ∃ t : Tok, True := ⟨default, trivial⟩
  obtain ⟨t, _⟩ := t0
  have g : ∀ b o, ({ objs := Array.replicate (c + 1) { cls := .none, data := .fields #[.none, .str q t] } } : Heap).get? b = some o → o = { cls := .none, data := .fields #[.none, .str q t] } := by
    intro b o h
    unfold Heap.get? at h
    by_cases hb : b < c + 1
    · simp [Array.getElem?_replicate, hb] at h
      exact h.symm
    · simp [Array.getElem?_replicate, hb] at h
  have y : dnP a nk ks { objs := Array.replicate (c + 1) { cls := .none, data := .fields #[.none, .str q t] } } := by
    rw [z]
    refine ⟨{ cls := .none, data := .fields #[.none, .str q t] }, _, t, ?_, rfl, rfl⟩
    unfold Heap.get?
    simp [Array.getElem?_replicate]
  obtain ⟨_, _, _, _, _, _, o, es, ep, h, _, hd, _⟩ := y
  rw [g _ _ h] at hd
  cases hd
end
end Ax
/-! Ax2: expressions and tests -/
namespace Ax
open PySem PySem.Spec PyProof.Rows L2

/-! ### new tuples, by their objects -/
abbrev NewT (H : Hp) (vs : List V) (Q : VK) : Prop := ∀ (p : Addr) (o : Obj), H p = none → o.dict = none → Q (.ref p) (upd H p (.frz o (.tup vs)))
section
variable {X : Cx} {pins : List (Addr × Obj)} {σ : L2.St} {H : Hp} {s : Shared} {Q : VK}
/-- a tuple is laid -/
theorem new_tup (I : Inv X pins σ H s) {vs : List V} {its : List Value} (r : Vals vs its) (z : vs.length ≤ sizeLine) (q : NewT H vs Q) : EP X pins σ Q (.ref s.heap.objs.size) { s with heap := s.heap.push { cls := .type "tuple", data := .seq its.toArray } } :=
  ⟨.ref s.heap.objs.size, _, I.laid (t' := s.toks) (o := .frz { cls := .type "tuple", data := .seq its.toArray } (.tup vs)) (fun b ob q => Heap.get?_push_of_some _ q) (Nat.le_refl _) ⟨Heap.get?_push_size _ rfl, z, its, r, IsTup.new _ _⟩, rfl, q _ _ (I.hok.fresh (Nat.le_refl _)) rfl⟩
def tTupF (t : TA) : TE := fun σ H Q => t σ H fun xs H1 => xs.length ≤ sizeLine ∧ NewT H1 xs Q
theorem pe_tupF {es : List Expr} {x1} {pos : Pos} {t : TA} (h : PA X es t) : PE X (.Tuple es x1 pos) (tTupF t) := by
  refine ⟨fun pins s σ H Q I hq => ?_⟩
  refine wpAny_Tuple_spliced (thn (h.run pos pins s σ H _ I hq) fun us s1 ⟨xs, H1, I1, r, z, q⟩ => ⟨by rw [← r.length]; exact z, ?_⟩)
  exact new_tup I1 r z q
def rCatF (K : PySem.W.Frag) : R2 := fun x y H Q => ∃ a b xs ys, x = .ref a ∧ y = .ref b ∧ SqT K H a xs ∧ SqT K H b ys ∧ xs.length + ys.length ≤ sizeLine ∧
  (xs = [] → Q (.ref b) H) ∧ (xs ≠ [] → ys = [] → Q (.ref a) H) ∧ (xs ≠ [] → ys ≠ [] → NewT H (xs ++ ys) Q)
theorem op_catF : OpR X (binaryOp .Add) (rCatF X.K) := by
  intro pins s σ H x y v u Q I rx ry h
  obtain ⟨a, b, xs, ys, rfl, rfl, ha, hb, hz, q0, q1, q2⟩ := h
  cases rx
  cases ry
  obtain ⟨its, r1, p1, _⟩ := I.tuple ha
  obtain ⟨its2, r2, p2, _⟩ := I.tuple hb
  by_cases hx : xs = []
  · subst hx
    cases r1
    exact cat_tup0 p1 p2 ⟨.ref b, H, I, rfl, q0 rfl⟩
  · refine HT.cat_tup p1 p2 (fun z => hx (r1.nil_iff.mp z)) (fun z => ⟨.ref a, H, I, rfl, q1 hx (r2.nil_iff.mp z)⟩) (fun z => ?_) (by rw [← r1.length, ← r2.length]; exact hz)
    exact new_tup I (r1.append r2) (by rw [List.length_append]; exact hz) (q2 hx fun w => z (r2.nil_iff.mpr w))
def rRepF (K : PySem.W.Frag) : R2 := fun x y H Q => ∃ l k xs, x = .ref l ∧ y = .int k ∧ SqT K H l xs ∧ xs ≠ [] ∧ 2 ≤ k ∧ k ≤ 1000 ∧ xs.length ≤ 1000 ∧ NewT H (List.replicate k.toNat xs).flatten Q
theorem op_repF : OpR X (binaryOp .Mult) (rRepF X.K) := by
  intro pins s σ H x y v u Q I rx ry h
  obtain ⟨l, k, xs, rfl, rfl, hT, hne, hk0, hk, hz, q⟩ := h
  cases rx
  obtain ⟨t, rfl⟩ := ry
  obtain ⟨its, r, ⟨⟨cls, dd, data, sl⟩, ho, hc, n, hd⟩, hs⟩ := I.tuple hT
  simp only at hc hd
  subst hc hd
  have hle : its.length = xs.length := r.length.symm
  have hn : its ≠ [] := fun e => hne (by
    rw [e] at hle
    exact List.eq_nil_of_length_eq_zero hle.symm)
  have hi : its.toArray.isEmpty = false := by
    cases its with
    | nil => exact absurd rfl hn
    | cons a b => rfl
  have hsz0 : its.toArray.size = xs.length := by rw [List.size_toArray, hle]
  have hm : ((its.toArray.size : Nat) : Int) * k ≤ 1000000 := by
    rw [hsz0]
    have a1 : ((xs.length : Nat) : Int) * k ≤ 1000 * k := Int.mul_le_mul_of_nonneg_right (by omega) (by omega)
    omega
  have flen : (List.replicate k.toNat its).flatten.length ≤ sizeLine := by
    rw [PyProof.Rows.lm_len_rep_flat, hle, sizeLine_eq]
    have a1 : k.toNat * xs.length ≤ 1000 * 1000 := Nat.mul_le_mul (by omega) hz
    omega
  have c0 : (decide (k < -(2 ^ 63)) || decide (k ≥ 2 ^ 63)) = false := by
    rw [decide_eq_false (by omega), decide_eq_false (by omega)] <;> rfl
  have c1 : (its.toArray.isEmpty || k == 1) = false := by
    rw [hi, Bool.false_or]
    exact beq_eq_false_iff_ne.mpr (by omega)
  have c2 : (decide (k ≤ 0) || its.toArray.isEmpty) = false := by
    rw [hi, Bool.or_false]
    exact decide_eq_false (by omega)
  have c4 : Builtin.Tuple.tupleTooMany (((its.toArray.size : Nat) : Int) * k) = false := by
    unfold Builtin.Tuple.tupleTooMany
    rw [sizeLine_eq]
    exact decide_eq_false (by omega)
  refine wpAny_binaryOp_repeat_ref (T := "tuple") (U := "int") (by decide) ⟨_, ho, rfl⟩ (fun s' => typeIs_int s' k t) noFill_tuple_mul PySem.F.fills_int_mul PySem.F.slot_int_rmul repeat_tuple PySem.F.slot_int_index.lookup
    (call_meets PySem.F.slot_int_rmul (typeIs_int s k t) PySem.F.entry_int_rmul (PySem.F.args_int_rmul_2 _ _) (int_rmul_tuple k t l its.toArray n dd sl)
      ⟨ho, rfl, ⟨_, ho, rfl⟩, call_meets PySem.F.slot_tuple_mul ⟨_, ho, rfl⟩ PySem.F.entry_tuple_mul (PySem.F.args_tuple_mul_2 _ _) (tuple_mulW l its.toArray n dd sl k t c0 c1 c2 (by omega) c4 (by rw [size_rep, List.size_toArray]; exact flen)) ⟨ho, ?_⟩⟩)
  rw [size_rep]
  exact new_tup I (r.rep k.toNat) (by rw [PyProof.Rows.lm_len_rep_flat, sizeLine_eq]; have a1 : k.toNat * xs.length ≤ 1000 * 1000 := Nat.mul_le_mul (by omega) hz; omega) q
def rSlF (K : PySem.W.Frag) : V → Option Int → Option Int → Hp → VK → Prop := fun x lo hi H Q => ∃ a xs, x = .ref a ∧ SqT K H a xs ∧
  (HT.sIx xs.length 0 lo = 0 ∧ HT.sIx xs.length xs.length hi = xs.length → Q (.ref a) H) ∧ (¬ (HT.sIx xs.length 0 lo = 0 ∧ HT.sIx xs.length xs.length hi = xs.length) → NewT H (cutV xs lo hi) Q)
theorem sl_tupF : SlR X (rSlF X.K) := by
  intro pins s σ H x v vl vu lo hi sl Q I rx hs pl pu h
  obtain ⟨a, xs, rfl, hx, q1, q2⟩ := h
  cases rx
  obtain ⟨its, r, ht, hz⟩ := I.tuple hx
  have hlen : its.toArray.size = xs.length := by rw [List.size_toArray]; exact r.length.symm
  refine ⟨"tuple", _, PyProof.Rows.slot_tuple_getitem.lookup, ht.typeIs, ?_⟩
  by_cases hw : HT.sIx xs.length 0 lo = 0 ∧ HT.sIx xs.length xs.length hi = xs.length
  · exact getItem_tuple_whole ht hs pl pu (by rw [hlen]; exact hw) ⟨.ref a, H, I, rfl, q1 hw⟩
  · refine HT.getItem_tuple_cut ht hs pl pu (by rw [hlen]; exact hw) ?_ (by rw [hlen]; exact hz)
    rw [hlen]
    exact new_tup I ((r.drop (HT.sIx xs.length 0 lo)).take (HT.sIx xs.length xs.length hi - HT.sIx xs.length 0 lo)) (Nat.le_trans (cutV_length xs lo hi) hz) (q2 hw)
theorem call_tupleF : CallR X (.type "tuple") (fun xs H Q => ∃ p ys, xs = [.ref p] ∧ ((SqL X.K H p ys ∧ NewT H ys Q) ∨ (SqT X.K H p ys ∧ Q (.ref p) H))) := by
  intro pins s σ H xs us Q I r h
  obtain ⟨p, ys, rfl, h⟩ := h
  obtain ⟨u, rfl, rx⟩ := vals1 r
  cases rx
  rcases h with ⟨hq, q⟩ | ⟨hq, q⟩
  · obtain ⟨its, r', pl, hz⟩ := I.list hq
    have hlen := r'.length
    refine call_tuple_list pl.isList (fun h' kp => ?_) (by simp only [List.size_toArray] <;> omega)
    have I1 : Inv X pins σ H { s with heap := h' } := I.kept (t' := s.toks) kp
    exact new_tup I1 r' hz q
  · obtain ⟨its, r', pl, hz⟩ := I.tuple hq
    exact call_tuple_same pl ⟨.ref p, H, I, rfl, q⟩
end

section
variable {X : Cx} {T : List (Addr × Str)} {W : WX} {g : G}

/-! ### names, constants -/
def eVar (i : Nat) : EM := fun e S => match e[i]? with
  | some (some x) => .ok x S
  | _ => .stuck
theorem e_var {i : Nat} {x : Str} {pos : Pos} (hN : X.N[i]? = some x := by rfl) (hv : Vis X.env.scope x := by first | exact Or.inl rfl | exact Or.inr (Or.inl rfl) | exact Or.inr (Or.inr rfl)) (hd : (x == ("__debug__" : Str)) = false := by decide)
    (hcd : (x == ("__classdict__" : Str)) = false := by decide) : PE X (.Name x pos) (rd (gX X T) W (eVar i)) :=
  PE_imp (pe_var hN hv hd hcd) fun s H Q ⟨w, e, S, hS, hE, h⟩ => by
    unfold eVar at h
    split at h
    · rename_i y hy
      obtain ⟨v, a, b⟩ := hE.at_ _ _ hy
      exact ⟨v, a, h w H v (Ext.refl _ _) hS b⟩
    · exact h.elim
def eC (d : D) : EM := fun _ S => .ok (.v d) S
theorem tC_rd {v : V} {d : D} (r : ∀ F, Rep g F v d) : ∀ s H Q, rd g W (eC d) s H Q → tC v s H Q := fun s H Q ⟨w, e, S, hS, hE, h⟩ => h w H v (Ext.refl _ _) hS (.v (r _))
theorem e_int {i j pos} : PE X (.Constant (.int i) j pos) (rd (gX X T) W (eC (.int i))) := PE_imp pe_int (tC_rd fun _ => .int i)
theorem e_bl {i j pos} : PE X (.Constant (.bool i) j pos) (rd (gX X T) W (eC (.bl i))) := PE_imp pe_bl (tC_rd fun _ => .bl i)
theorem e_non {j pos} : PE X (.Constant .none j pos) (rd (gX X T) W (eC .non)) := PE_imp pe_non (tC_rd fun _ => .non)
theorem e_str {x j pos} : PE X (.Constant (.str x) j pos) (rd (gX X T) W (eC (.str x))) := PE_imp pe_str (tC_rd fun _ => .str x)
/-- a def, a class of the module as a value -/
theorem e_fn {x : Str} {a : Addr} {pos : Pos} (hm : X.mg x = some (.ref a)) (hg : Gl X x := by rfl) (hd : (x == ("__debug__" : Str)) = false := by decide) : PE X (.Name x pos) (rd (gX X T) W (eC (.fn x))) :=
  PE_imp (pe_glob (v := .ref a) hg hm rfl hd) (tC_rd fun _ => .fn hm)
/-- an int of the module -/
theorem e_gint {x : Str} {i : Int} {t : Tok} {pos : Pos} (hm : X.mg x = some (.int i t)) (hg : Gl X x := by rfl) (hd : (x == ("__debug__" : Str)) = false := by decide) : PE X (.Name x pos) (rd (gX X T) W (eC (.int i))) :=
  PE_imp (pe_glob (v := .int i) hg hm ⟨_, rfl⟩ hd) (tC_rd fun _ => .int i)
/-- a built-in type as a value -/
theorem e_ty {x : Str} {n : String} {pos : Pos} (hm : X.mg x = none) (hv : bootBuiltins x = some (.type n)) (hg : Gl X x := by rfl) (hn : x ≠ "__name__" := by decide) (hd : (x == ("__debug__" : Str)) = false := by decide) : PE X (.Name x pos) (rd (gX X T) W (eC (.ty n))) :=
  PE_imp (pe_bltn (v := .ty n) hg hm hv rfl hn hd) (tC_rd fun _ => .ty n)

/-! ### two operands -/
def eBin (f : Vl → Vl → Store → Out Vl) (ma mb : EM) : EM := fun e S => (ma e S).bind fun x S1 => (mb e S1).bind fun y S2 => f x y S2
def OpD (g : G) (W : WX) (f : Vl → Vl → Store → Out Vl) (r : R2) : Prop := ∀ s w H S v u x y Q, RepSt g w H S → RepV g w v x → RepV g w u y → SatG g W s w H (RepV g) (f x y S) Q → r v u H Q
theorem bin_rd {f : Vl → Vl → Store → Out Vl} {r : R2} (hf : OpD g W f r) {ma mb : EM} : ∀ s H Q, rd g W (eBin f ma mb) s H Q → tOp r (rd g W ma) (rd g W mb) s H Q := fun s H Q h => by
  refine rd_bind (f := fun x e S => (mb e S).bind fun y S2 => f x y S2) h fun w1 H1 S1 e v x hS hE hx h1 => ?_
  refine ⟨w1, e, S1, hS, hE, h1.bind.imp fun u H2 ⟨w2, S2, y, hS2, hy, ex, h2⟩ => ?_⟩
  exact hf s w2 H2 S2 v u x y Q hS2 (hx.le ex.wle) hy h2
theorem e_bin {op : Operator} {f : Vl → Vl → Store → Out Vl} {r : R2} {a b : Expr} {pos : Pos} {ma mb : EM} (ho : OpR X (binaryOp op) r) (hf : OpD (gX X T) W f r) (ha : PE X a (rd (gX X T) W ma)) (hb : PE X b (rd (gX X T) W mb)) :
    PE X (.BinOp a op b pos) (rd (gX X T) W (eBin f ma mb)) := PE_imp (pe_op ho ha hb) (bin_rd hf)
theorem e_cmp {op : CmpOp} {f : Vl → Vl → Store → Out Vl} {r : R2} {a b : Expr} {pos : Pos} {ma mb : EM} (ho : OpR X (compareOp op) r) (hf : OpD (gX X T) W f r) (ha : PE X a (rd (gX X T) W ma)) (hb : PE X b (rd (gX X T) W mb)) (hm : behindInMarks op b = false := by first | exact nomark _ | rfl) :
    PE X (.Compare a [op] [b] pos) (rd (gX X T) W (eBin f ma mb)) := PE_imp (pe_cmpR ho ha hb hm) (bin_rd hf)

/-! ### ints -/
def fInt (g : Int → Int → D) (ok : Int → Int → Bool) (x y : Vl) (S : Store) : Out Vl := match x, y with
  | .v (.int i), .v (.int j) => if ok i j then .ok (.v (g i j)) S else .stuck
  | _, _ => .stuck
theorem fInt_of {fd : Int → Int → D} {gv : Int → Int → V} {ok : Int → Int → Bool} {C : Int → Int → Prop} (hC : ∀ i j, ok i j = true → C i j) (hr : ∀ i j F, Rep g F (gv i j) (fd i j)) : OpD g W (fInt fd ok) (rI C gv) := by
  intro s w H S v u x y Q hS hx hy h
  unfold fInt at h
  split at h
  · rename_i i j
    cases hx with
    | v hx =>
      cases hx
      cases hy with
      | v hy =>
        cases hy
        split at h
        · rename_i hok
          exact ⟨i, j, rfl, rfl, hC i j hok, h w H _ (Ext.refl _ _) hS (.v (hr i j _))⟩
        · exact h.elim
  · exact h.elim
def fInt0 (g : Int → Int → D) (x y : Vl) (S : Store) : Out Vl := match x, y with
  | .v (.int i), .v (.int j) => .ok (.v (g i j)) S
  | _, _ => .stuck
theorem fInt0_of {fd : Int → Int → D} {gv : Int → Int → V} (hr : ∀ i j F, Rep g F (gv i j) (fd i j)) : OpD g W (fInt0 fd) (rI0 gv) := by
  intro s w H S v u x y Q hS hx hy h
  unfold fInt0 at h
  split at h
  · rename_i i j
    cases hx with
    | v hx =>
      cases hx
      cases hy with
      | v hy =>
        cases hy
        exact ⟨i, j, rfl, rfl, h w H _ (Ext.refl _ _) hS (.v (hr i j _))⟩
  · exact h.elim
abbrev fSub := fInt0 fun i j => .int (i - j)
theorem e_sub {a b : Expr} {pos : Pos} {ma mb : EM} (ha : PE X a (rd (gX X T) W ma)) (hb : PE X b (rd (gX X T) W mb)) : PE X (.BinOp a .Sub b pos) (rd (gX X T) W (eBin fSub ma mb)) := e_bin op_sub (fInt0_of fun _ _ _ => .int _) ha hb
abbrev fDiv := fInt (fun i j => .int (i / j)) fun i j => decide (0 < j) && decide (j.natAbs.log2 < 9000)
theorem e_div {a b : Expr} {pos : Pos} {ma mb : EM} (ha : PE X a (rd (gX X T) W ma)) (hb : PE X b (rd (gX X T) W mb)) : PE X (.BinOp a .FloorDiv b pos) (rd (gX X T) W (eBin fDiv ma mb)) :=
  e_bin op_fdivW (fInt_of (fun _ _ h => by simpa [CDivW] using h) fun _ _ _ => .int _) ha hb
abbrev fMod := fInt (fun i j => .int (i % j)) fun _ j => decide (0 < j)
theorem e_mod {a b : Expr} {pos : Pos} {ma mb : EM} (ha : PE X a (rd (gX X T) W ma)) (hb : PE X b (rd (gX X T) W mb)) : PE X (.BinOp a .Mod b pos) (rd (gX X T) W (eBin fMod ma mb)) :=
  e_bin op_mod (fInt_of (fun _ _ h => by simpa using h) fun _ _ _ => .int _) ha hb
abbrev fPow := fInt (fun i j => .int (i ^ j.toNat)) fun i j => decide (0 ≤ j) && decide (j ≤ 1000000) && decide (i.natAbs < 2 ^ 64)
theorem e_pow {a b : Expr} {pos : Pos} {ma mb : EM} (ha : PE X a (rd (gX X T) W ma)) (hb : PE X b (rd (gX X T) W mb)) : PE X (.BinOp a .Pow b pos) (rd (gX X T) W (eBin fPow ma mb)) :=
  e_bin op_pow (fInt_of (fun _ _ h => by simpa [CPow, and_assoc] using h) fun _ _ _ => .int _) ha hb
abbrev fLt := fInt0 fun i j => .bl (decide (i < j))
abbrev fLe := fInt0 fun i j => .bl (decide (i ≤ j))
abbrev fGt := fInt0 fun i j => .bl (decide (j < i))
abbrev fGe := fInt0 fun i j => .bl (decide (j ≤ i))

/-! ### sums of things -/
def fAdd (x y : Vl) (S : Store) : Out Vl := match x, y with
  | .v (.int i), .v (.int j) => .ok (.v (.int (i + j))) S
  | .v (.str a), .v (.str b) => if a.length + b.length ≤ 16777216 then .ok (.v (.str (a ++ b))) S else .stuck
  | .v (.tup a), .v (.tup b) => if a.length + b.length ≤ 16777216 then .ok (.v (.tup (a ++ b))) S else .stuck
  | x, y => match lview S x, lview S y with
    | some a, some b => if a.length + b.length ≤ 16777216 then (match unv (a ++ b) with | some ds => .ok (.v (.lst ds)) S | none => .stuck) else .stuck
    | _, _ => .stuck
def rAddX (K : PySem.W.Frag) : R2 := fun x y H Q => (rI0 (fun i j => .int (i + j)) x y H Q ∨ (∃ i j, x = .str i ∧ y = .str j ∧ i.length + j.length ≤ sizeLine ∧ Q (.str (i ++ j)) H)) ∨ (rCatF K x y H Q ∨ rCat x y H Q)
theorem op_addX : OpR X (binaryOp .Add) (rAddX X.K) := (op_add.or op_add_str).or (op_catF.or op_cat)
theorem line_of {n : Nat} (h : n ≤ 16777216) : n ≤ sizeLine := by rw [sizeLine_eq]; exact h
/-- a new list, tuple -/
theorem sat_newT {s : L2.St} {w : Wd} {H : Hp} {S : Store} {Q : VK} {ds : List D} {vs : List V} (hS : RepSt g w H S) (r : RepAll g w.F vs ds) (h : SatG g W s w H (RepV g) (.ok (.v (.tup ds)) S) Q) : NewT H vs Q := fun p o hp hd => by
  obtain ⟨a, b⟩ := new_froz hS hp (.frz o (.tup vs))
  exact h _ _ _ b a (.v (.tup (.inl ⟨o, upd_same, hd⟩) (r.le b.fle)))
theorem sat_newL {s : L2.St} {w : Wd} {H : Hp} {S : Store} {Q : VK} {ds : List D} {vs : List V} (hS : RepSt g w H S) (r : RepAll g w.F vs ds) (h : SatG g W s w H (RepV g) (.ok (.v (.lst ds)) S) Q) : ∀ p, H p = none → Q (.ref p) (upd H p (.lst vs)) := fun p hp => by
  obtain ⟨a, b⟩ := new_froz hS hp (.lst vs)
  exact h _ _ _ b a (.v (.lst upd_same (r.le b.fle)))
theorem fAdd_of : OpD g W fAdd (rAddX g.K) := by
  intro s w H S v u x y Q hS hx hy h
  unfold fAdd at h
  split at h
  · cases hx with
    | v hx =>
      cases hx
      cases hy with
      | v hy =>
        cases hy
        exact .inl (.inl ⟨_, _, rfl, rfl, h w H _ (Ext.refl _ _) hS (.v (.int _))⟩)
  · cases hx with
    | v hx =>
      cases hx
      cases hy with
      | v hy =>
        cases hy
        split at h
        · rename_i hl
          exact .inl (.inr ⟨_, _, rfl, rfl, line_of hl, h w H _ (Ext.refl _ _) hS (.v (.str _))⟩)
        · exact h.elim
  · cases hx with
    | v hx =>
      cases hx with
      | tup qx rx =>
        cases hy with
        | v hy =>
          cases hy with
          | tup qy ry =>
            split at h
            · rename_i hl
              refine .inr (.inl ⟨_, _, _, _, rfl, rfl, sqT_le hS.hle qx.sq, sqT_le hS.hle qy.sq, by rw [rx.len, ry.len]; exact line_of hl, fun e => ?_, fun e1 e2 => ?_, fun _ _ => sat_newT hS (rx.append ry) h⟩)
              · subst e
                cases rx
                exact h w H _ (Ext.refl _ _) hS (.v (.tup qy ry))
              · subst e2
                cases ry
                refine h w H _ (Ext.refl _ _) hS (.v ?_)
                rw [List.append_nil]
                exact .tup qx rx
            · exact h.elim
  · split at h
    · rename_i xs ys ex ey
      obtain ⟨a, vs, rfl, qa, ra⟩ := lview_rep hS hx ex
      obtain ⟨b, us, rfl, qb, rb⟩ := lview_rep hS hy ey
      split at h
      · rename_i hl
        split at h
        · rename_i ds hd
          exact .inr (.inr ⟨a, b, vs, us, rfl, rfl, qa, qb, by rw [ra.len, rb.len]; exact line_of hl, sat_newL hS ((ra.append rb).un hd) h⟩)
        · exact h.elim
      · exact h.elim
    · exact h.elim
theorem e_add {a b : Expr} {pos : Pos} {ma mb : EM} (ha : PE X a (rd (gX X T) W ma)) (hb : PE X b (rd (gX X T) W mb)) : PE X (.BinOp a .Add b pos) (rd (gX X T) W (eBin fAdd ma mb)) := e_bin op_addX fAdd_of ha hb

/-! ### products -/
def repD {α : Type} (k : Int) (xs : List α) : List α := (List.replicate k.toNat xs).flatten
theorem RepAll.rep {F : Hp} {vs : List V} {ds : List D} (r : RepAll g F vs ds) (k : Nat) : RepAll g F (List.replicate k vs).flatten (List.replicate k ds).flatten := by
  induction k with
  | zero => exact .nil
  | succ k ih => rw [List.replicate_succ, List.replicate_succ, List.flatten_cons, List.flatten_cons]; exact r.append ih
def fMul (x y : Vl) (S : Store) : Out Vl := match x, y with
  | .v (.int i), .v (.int j) => if i.natAbs.log2 + j.natAbs.log2 < 1000000 then .ok (.v (.int (i * j))) S else .stuck
  | .v (.lst a), .v (.int k) => if -1000000 ≤ k ∧ k ≤ 1000000 ∧ a.length * k.toNat ≤ 16777216 then .ok (.v (.lst (repD k a))) S else .stuck
  | .v (.tup a), .v (.int k) => if a ≠ [] ∧ 2 ≤ k ∧ k ≤ 1000 ∧ a.length ≤ 1000 then .ok (.v (.tup (repD k a))) S else .stuck
  | _, _ => .stuck
def rMulX (K : PySem.W.Frag) : R2 := fun x y H Q => rI CMulW (fun i j => .int (i * j)) x y H Q ∨ (rRep x y H Q ∨ rRepF K x y H Q)
theorem op_mulX : OpR X (binaryOp .Mult) (rMulX X.K) := op_mulW.or (op_rep.or op_repF)
theorem RepAll.nil_iff {F : Hp} {vs : List V} {ds : List D} (r : RepAll g F vs ds) : vs = [] ↔ ds = [] := by
  cases r <;> simp
theorem fMul_of : OpD g W fMul (rMulX g.K) := by
  intro s w H S v u x y Q hS hx hy h
  unfold fMul at h
  split at h
  · cases hx with
    | v hx =>
      cases hx
      cases hy with
      | v hy =>
        cases hy
        split at h
        · rename_i hl
          exact .inl ⟨_, _, rfl, rfl, hl, h w H _ (Ext.refl _ _) hS (.v (.int _))⟩
        · exact h.elim
  · cases hx with
    | v hx =>
      cases hx with
      | lst qx rx =>
        cases hy with
        | v hy =>
          cases hy
          split at h
          · rename_i hl
            obtain ⟨h1, h2, h3⟩ := hl
            refine .inr (.inl ⟨_, _, _, rfl, rfl, hS.le _ _ qx, by omega, by omega, by rw [rx.len]; exact line_of h3, ?_⟩)
            exact sat_newL hS (rx.rep _) h
          · exact h.elim
  · cases hx with
    | v hx =>
      cases hx with
      | tup qx rx =>
        cases hy with
        | v hy =>
          cases hy
          split at h
          · rename_i hl
            obtain ⟨h1, h2, h3, h4⟩ := hl
            refine .inr (.inr ⟨_, _, _, rfl, rfl, sqT_le hS.hle qx.sq, fun z => h1 (rx.nil_iff.mp z), h2, h3, by rw [rx.len]; exact h4, ?_⟩)
            exact sat_newT hS (rx.rep _) h
          · exact h.elim
  · exact h.elim
theorem e_mul {a b : Expr} {pos : Pos} {ma mb : EM} (ha : PE X a (rd (gX X T) W ma)) (hb : PE X b (rd (gX X T) W mb)) : PE X (.BinOp a .Mult b pos) (rd (gX X T) W (eBin fMul ma mb)) := e_bin op_mulX fMul_of ha hb

/-! ### equality -/
def fEqB (neg : Bool) (x y : Vl) (S : Store) : Out Vl := match peek S x, peek S y with
  | some a, some b => if okd 60 a && okd 60 b then .ok (.v (.bl (if neg then !deq a b else deq a b))) S else .stuck
  | _, _ => .stuck
abbrev fEq := fEqB false
abbrev fNe := fEqB true
theorem fEq_dat {s : L2.St} {w : Wd} {H : Hp} {S : Store} {v u : V} {x y : Vl} {Q : VK} {neg : Bool} (hS : RepSt g w H S) (hx : RepV g w v x) (hy : RepV g w u y) (h : SatG g W s w H (RepV g) (fEqB neg x y S) Q) :
    ∃ d e, Dp g.K H v d ∧ Dp g.K H u e ∧ SeqAt.shaped d = true ∧ SeqAt.shaped e = true ∧ Q (.bl (if neg then !PyData.eqv d e else PyData.eqv d e)) H := by
  unfold fEqB at h
  split at h
  · rename_i a b ea eb
    split at h
    · rename_i hok
      rw [Bool.and_eq_true] at hok
      have ra := peek_rep hS hx ea
      have rb := peek_rep hS hy eb
      refine ⟨toP a, toP b, ra.dp 60 hok.1, rb.dp 60 hok.2, okd_shaped hok.1, okd_shaped hok.2, ?_⟩
      rw [deq_eqv 60 a b hok.1 hok.2]
      exact h w H _ (Ext.refl _ _) hS (.v (.bl _))
    · exact h.elim
  · exact h.elim
theorem fEq_of : OpD g W fEq (rEqD g.K) := fun s w H S v u x y Q hS hx hy h => fEq_dat (neg := false) hS hx hy h
theorem fNe_of : OpD g W fNe (rNeD g.K) := fun s w H S v u x y Q hS hx hy h => fEq_dat (neg := true) hS hx hy h
/-- is None -/
def fIsN (neg : Bool) (x _ : Vl) (S : Store) : Out Vl := match x with
  | .v .non => .ok (.v (.bl (!neg))) S
  | _ => .ok (.v (.bl neg)) S
theorem fIsN_ok {s : L2.St} {w : Wd} {H : Hp} {S : Store} {v : V} {x y : Vl} {Q : VK} {neg : Bool} (hS : RepSt g w H S) (hx : RepV g w v x) (h : SatG g W s w H (RepV g) (fIsN neg x y S) Q) : Q (.bl (if neg then !decide (v = .non) else decide (v = .non))) H := by
  unfold fIsN at h
  split at h
  · cases hx with
    | v hx =>
      cases hx
      have q := h w H (.bl (!neg)) (Ext.refl _ _) hS (.v (.bl _))
      cases neg <;> simpa using q
  · rename_i hne
    have q := h w H (.bl neg) (Ext.refl _ _) hS (.v (.bl _))
    have e : decide (v = .non) = false := decide_eq_false fun z => by
      subst z
      cases hx with
      | v hx => cases hx; exact hne rfl
    rw [e]
    cases neg <;> simpa using q
theorem fIs_of : OpD g W (fIsN false) (fun x y H Q => ∃ b : Bool, b = decide (x = .non) ∧ Q (.bl b) H) := fun s w H S v u x y Q hS hx hy h => ⟨_, rfl, by simpa using fIsN_ok (neg := false) hS hx h⟩
theorem e_isN {a : Expr} {j : Nat} {p pos : Pos} {ma : EM} (ha : PE X a (rd (gX X T) W ma)) : PE X (.Compare a [.Is] [.Constant .none j p] pos) (rd (gX X T) W (eBin (fIsN false) ma (eC .non))) := by
  refine PE_imp (pe_cmp (pc_isN ha)) fun s H Q h => ?_
  refine rd_bind (f := fun x e S => (eC .non e S).bind fun y S2 => fIsN false x y S2) h fun w1 H1 S1 e v x hS hE hx h1 => ?_
  simpa using fIsN_ok (neg := false) hS hx (show SatG _ _ _ _ _ _ (fIsN false x (.v .non) S1) Q from h1)
theorem e_notN {a : Expr} {j : Nat} {p pos : Pos} {ma : EM} (ha : PE X a (rd (gX X T) W ma)) : PE X (.Compare a [.IsNot] [.Constant .none j p] pos) (rd (gX X T) W (eBin (fIsN true) ma (eC .non))) := by
  refine PE_imp (pe_cmp (pc_notN ha)) fun s H Q h => ?_
  refine rd_bind (f := fun x e S => (eC .non e S).bind fun y S2 => fIsN true x y S2) h fun w1 H1 S1 e v x hS hE hx h1 => ?_
  simpa using fIsN_ok (neg := true) hS hx (show SatG _ _ _ _ _ _ (fIsN true x (.v .non) S1) Q from h1)

/-! ### one operand -/
def eUn (f : Vl → Store → Out Vl) (ma : EM) : EM := fun e S => (ma e S).bind f
def fNeg (x : Vl) (S : Store) : Out Vl := match x with
  | .v (.int i) => .ok (.v (.int (-i))) S
  | _ => .stuck
theorem e_neg {a : Expr} {pos : Pos} {ma : EM} (ha : PE X a (rd (gX X T) W ma)) : PE X (.UnaryOp .USub a pos) (rd (gX X T) W (eUn fNeg ma)) :=
  PE_imp (pe_un un_neg ha) fun s H Q h => rd_bind (f := fun x _ S => fNeg x S) h fun w1 H1 S1 e v x hS hE hx h1 => by
    unfold fNeg at h1
    split at h1
    · cases hx with
      | v hx =>
        cases hx
        exact ⟨_, rfl, h1 w1 H1 _ (Ext.refl _ _) hS (.v (.int _))⟩
    · exact h1.elim

/-! ### a < b < c -/
def eChain (f f' : Vl → Vl → Store → Out Vl) (ma mb mc : EM) : EM := fun e S => (ma e S).bind fun x S1 => (mb e S1).bind fun y S2 => (f x y S2).bind fun z S3 => match z with
  | .v (.bl true) => (mc e S3).bind fun u S4 => f' y u S4
  | .v (.bl false) => .ok (.v (.bl false)) S3
  | _ => .stuck
def OpDB (g : G) (W : WX) (f : Vl → Vl → Store → Out Vl) (r : R2) : Prop := OpD g W f r
theorem chain_rd {f f' : Vl → Vl → Store → Out Vl} {r r' : R2} (hf : OpD g W f r) (hf' : OpD g W f' r') {ma mb mc : EM} :
    ∀ s H Q, rd g W (eChain f f' ma mb mc) s H Q → tChain r r' (rd g W ma) (rd g W mb) (rd g W mc) s H Q := fun s H Q h => by
  refine rd_bind (f := fun x e S => (mb e S).bind fun y S2 => (f x y S2).bind fun z S3 => match z with
    | .v (.bl true) => (mc e S3).bind fun u S4 => f' y u S4
    | .v (.bl false) => .ok (.v (.bl false)) S3
    | _ => .stuck) h fun w1 H1 S1 e v x hS hE hx h1 => ?_
  refine ⟨w1, e, S1, hS, hE, h1.bind.imp fun u H2 ⟨w2, S2, y, hS2, hy, ex, h2⟩ => ?_⟩
  refine hf s w2 H2 S2 v u x y _ hS2 (hx.le ex.wle) hy (h2.bind.imp fun c H3 ⟨w3, S3, z, hS3, hz, ex3, h3⟩ => ?_)
  split at h3
  · cases hz with
    | v hz =>
      cases hz
      refine ⟨true, rfl, ?_⟩
      rw [if_pos rfl]
      refine ⟨w3, e, S3, hS3, (hE.le ex.wle).le ex3.wle, h3.bind.imp fun t H4 ⟨w4, S4, k, hS4, hk, ex4, h4⟩ => ?_⟩
      exact hf' s w4 H4 S4 u t y k Q hS4 ((hy.le ex3.wle).le ex4.wle) hk h4
  · cases hz with
    | v hz =>
      cases hz
      refine ⟨false, rfl, ?_⟩
      rw [if_neg Bool.false_ne_true]
      exact h3 w3 H3 _ (Ext.refl _ _) hS3 (.v (.bl _))
  · exact h3.elim
theorem e_chain {op op' : CmpOp} {f f' : Vl → Vl → Store → Out Vl} {r r' : R2} {a b c : Expr} {pos : Pos} {ma mb mc : EM} (ho : OpR X (compareOp op) r) (ho' : OpR X (compareOp op') r') (hf : OpD (gX X T) W f r) (hf' : OpD (gX X T) W f' r')
    (ha : PE X a (rd (gX X T) W ma)) (hb : PE X b (rd (gX X T) W mb)) (hc : PE X c (rd (gX X T) W mc)) (hm : lastMarks [op, op'] [b, c] = false := by rfl) : PE X (.Compare a [op, op'] [b, c] pos) (rd (gX X T) W (eChain f f' ma mb mc)) := by
  exact PE_imp (pe_chain ho ho' ha hb hc hm) (chain_rd hf hf')

/-! ### truth -/
def tru (S : Store) (x : Vl) : Option Bool := match x with
  | .v .non => some false
  | .v (.bl b) => some b
  | .v (.int i) => some (i != 0)
  | .v (.str y) => if y.length ≤ 16777216 then some ((y.length : Int) != 0) else none
  | x => match qview S x with
    | some xs => some (!xs.isEmpty)
    | none => none
theorem isEmpty_rep {w : Wd} {vs : List V} {xs : List Vl} (r : RepVs g w vs xs) : vs.isEmpty = xs.isEmpty := by cases r <;> rfl
theorem tru_rep {w : Wd} {H : Hp} {S : Store} {v : V} {x : Vl} {b : Bool} (hS : RepSt g w H S) (hx : RepV g w v x) (e : tru S x = some b) : TruV g.K v H b := by
  unfold tru at e
  split at e
  · cases hx with
    | v hx => cases hx; cases e; exact rfl
  · cases hx with
    | v hx => cases hx; cases e; exact rfl
  · cases hx with
    | v hx => cases hx; cases e; exact rfl
  · cases hx with
    | v hx =>
      cases hx
      split at e
      · rename_i hl; cases e; exact ⟨line_of hl, rfl⟩
      · cases e
  · split at e
    · rename_i xs hq
      cases e
      obtain ⟨a, vs, rfl, q, r⟩ := qview_rep hS hx hq
      rw [← isEmpty_rep r]
      rcases q with q | q
      · exact .inl ⟨vs, q, rfl⟩
      · exact .inr (.inl ⟨vs, q, rfl⟩)
    · cases e
def tTru (m : EM) : TM := fun e S => (m e S).bind fun x S1 => match tru S1 x with
  | some b => .ok b S1
  | none => .stuck
theorem t_truth {a : Expr} {ma : EM} (ha : PE X a (rd (gX X T) W ma)) (he : ∀ whole, isTrue a X.env whole = (do let v ← whole; standAt a.pos; holding [v] (truthy v)) := by intro _; rfl) : PT X a (rdT (gX X T) W (tTru ma)) :=
  PT_imp (pt_truth ha he) fun s H Q h => rd_bind (f := fun x _ S1 => match tru S1 x with
    | some b => .ok b S1
    | none => .stuck) h fun w1 H1 S1 e v x hS hE hx h1 => by
    split at h1
    · rename_i b hb
      exact ⟨b, tru_rep hS hx hb, h1 w1 H1 b (Ext.refl _ _) hS rfl⟩
    · exact h1.elim
/-- a value that is a bool, as a test -/
def tBl (m : EM) : TM := fun e S => (m e S).bind fun x S1 => match x with
  | .v (.bl b) => .ok b S1
  | _ => .stuck
theorem bl_rd {m : EM} {t : TE} (i : ∀ s H Q, rd g W m s H Q → t s H Q) : ∀ s H Q, rdT g W (tBl m) s H Q → t s H fun x H' => ∃ k, x = .bl k ∧ Q k H' := fun s H Q ⟨w, e, S, hS, hE, h⟩ => by
  refine i s H _ ⟨w, e, S, hS, hE, ?_⟩
  refine (SatG.bind (o := m e S) (f := fun x S1 => match x with | .v (.bl b) => .ok b S1 | _ => .stuck) h).imp fun v H1 ⟨w1, S1, x, hS1, hx, ex, h1⟩ => ?_
  split at h1
  · cases hx with
    | v hx =>
      cases hx
      exact ⟨_, rfl, h1 w1 H1 _ (Ext.refl _ _) hS1 rfl⟩
  · exact h1.elim
theorem t_cmp {op : CmpOp} {f : Vl → Vl → Store → Out Vl} {r : R2} {a b : Expr} {pos : Pos} {ma mb : EM} (ho : OpR X (compareOp op) r) (hf : OpD (gX X T) W f r) (ha : PE X a (rd (gX X T) W ma)) (hb : PE X b (rd (gX X T) W mb)) (hm : behindInMarks op b = false := by first | exact nomark _ | rfl) :
    PT X (.Compare a [op] [b] pos) (rdT (gX X T) W (tBl (eBin f ma mb))) := PT_imp (pt_cmpR ho ha hb hm) (bl_rd (bin_rd hf))
theorem t_chain {op op' : CmpOp} {f f' : Vl → Vl → Store → Out Vl} {r r' : R2} {a b c : Expr} {pos : Pos} {ma mb mc : EM} (ho : OpR X (compareOp op) r) (ho' : OpR X (compareOp op') r') (hf : OpD (gX X T) W f r) (hf' : OpD (gX X T) W f' r')
    (ha : PE X a (rd (gX X T) W ma)) (hb : PE X b (rd (gX X T) W mb)) (hc : PE X c (rd (gX X T) W mc)) (hm : lastMarks [op, op'] [b, c] = false := by rfl) :
    PT X (.Compare a [op, op'] [b, c] pos) (rdT (gX X T) W (tBl (eChain f f' ma mb mc))) := PT_imp (pt_chain ho ho' ha hb hc hm) (bl_rd (chain_rd hf hf'))
theorem t_val {e : Expr} {m : EM} (h : PE X e (rd (gX X T) W m)) (he : ∀ whole, isTrue e X.env whole = (do let v ← whole; standAt e.pos; holding [v] (truthy v)) := by intro _; rfl) : PT X e (rdT (gX X T) W (tBl m)) := PT_imp (pt_val h he) (bl_rd fun _ _ _ q => q)

/-! ### and, or, not -/
def tmAnd (a b : TM) : TM := fun e S => (a e S).bind fun c S1 => if c then b e S1 else .ok false S1
def tmOr (a b : TM) : TM := fun e S => (a e S).bind fun c S1 => if c then .ok true S1 else b e S1
def tmNot (a : TM) : TM := fun e S => (a e S).bind fun c S1 => .ok (!c) S1
section
variable {a b : Expr} {rest : List Expr} {pos : Pos} {ma mb : TM}
theorem and_rd : ∀ s H Q, rdT g W (tmAnd ma mb) s H Q → tAnd (rdT g W ma) (rdT g W mb) s H Q := fun s H Q h =>
  rd_bind (f := fun c e S1 => if c then mb e S1 else .ok false S1) h fun w1 H1 S1 e v x hS hE hx h1 => by
    subst hx
    cases v with
    | true => exact ⟨w1, e, S1, hS, hE, h1⟩
    | false => exact h1 w1 H1 _ (Ext.refl _ _) hS rfl
theorem or_rd : ∀ s H Q, rdT g W (tmOr ma mb) s H Q → tOr (rdT g W ma) (rdT g W mb) s H Q := fun s H Q h =>
  rd_bind (f := fun c e S1 => if c then .ok true S1 else mb e S1) h fun w1 H1 S1 e v x hS hE hx h1 => by
    subst hx
    cases v with
    | false => exact ⟨w1, e, S1, hS, hE, h1⟩
    | true => exact h1 w1 H1 _ (Ext.refl _ _) hS rfl
theorem not_rd : ∀ s H Q, rdT g W (tmNot ma) s H Q → tNot (rdT g W ma) s H Q := fun s H Q h =>
  rd_bind (f := fun c e S1 => .ok (!c) S1) h fun w1 H1 S1 e v x hS hE hx h1 => by
    subst hx
    exact h1 w1 H1 _ (Ext.refl _ _) hS rfl
theorem w_and1 (ha : PT X a (rdT (gX X T) W ma)) : PW X (.BoolOp .And [a] pos) (rdT (gX X T) W ma) := pw_and1 ha
theorem w_or1 (ha : PT X a (rdT (gX X T) W ma)) : PW X (.BoolOp .Or [a] pos) (rdT (gX X T) W ma) := pw_or1 ha
theorem w_and (ha : PT X a (rdT (gX X T) W ma)) (hb : PW X (.BoolOp .And (b :: rest) pos) (rdT (gX X T) W mb)) : PW X (.BoolOp .And (a :: b :: rest) pos) (rdT (gX X T) W (tmAnd ma mb)) := PW_imp (pw_and ha hb) and_rd
theorem w_or (ha : PT X a (rdT (gX X T) W ma)) (hb : PW X (.BoolOp .Or (b :: rest) pos) (rdT (gX X T) W mb)) : PW X (.BoolOp .Or (a :: b :: rest) pos) (rdT (gX X T) W (tmOr ma mb)) := PW_imp (pw_or ha hb) or_rd
theorem t_not (ha : PT X a (rdT (gX X T) W ma)) : PT X (.UnaryOp .Not a pos) (rdT (gX X T) W (tmNot ma)) := PT_imp (pt_not ha) not_rd
theorem t_w {e : Expr} {t : TT} (h : PW X e t) : PT X e t := h.pt
end
/-- as values -/
def eAnd (a b : EM) : EM := fun e S => (a e S).bind fun c S1 => match c with
  | .v (.bl true) => b e S1
  | .v (.bl false) => .ok (.v (.bl false)) S1
  | _ => .stuck
def eOr (a b : EM) : EM := fun e S => (a e S).bind fun c S1 => match c with
  | .v (.bl false) => b e S1
  | .v (.bl true) => .ok (.v (.bl true)) S1
  | _ => .stuck
def fNot (c : Vl) (S : Store) : Out Vl := match c with
  | .v (.bl b) => .ok (.v (.bl (!b))) S
  | _ => .stuck
def eNot (a : EM) : EM := eUn fNot a
section
variable {a b : Expr} {rest : List Expr} {op : BoolOp} {pos : Pos} {ma mb : EM}
theorem e_one (ha : PE X a (rd (gX X T) W ma)) : PE X (.BoolOp op [a] pos) (rd (gX X T) W ma) := pe_one ha
theorem e_and (ha : PE X a (rd (gX X T) W ma)) (hb : PE X (.BoolOp .And (b :: rest) pos) (rd (gX X T) W mb)) : PE X (.BoolOp .And (a :: b :: rest) pos) (rd (gX X T) W (eAnd ma mb)) :=
  PE_imp (pe_and ha hb) fun s H Q h => rd_bind (f := fun c e S1 => match c with
  | .v (.bl true) => mb e S1
  | .v (.bl false) => .ok (.v (.bl false)) S1
  | _ => .stuck) h fun w1 H1 S1 e v x hS hE hx h1 => by
    split at h1
    · cases hx with
      | v hx => cases hx; exact ⟨true, rfl, by rw [if_pos rfl]; exact ⟨w1, e, S1, hS, hE, h1⟩⟩
    · cases hx with
      | v hx => cases hx; exact ⟨false, rfl, by rw [if_neg Bool.false_ne_true]; exact h1 w1 H1 _ (Ext.refl _ _) hS (.v (.bl _))⟩
    · exact h1.elim
theorem e_or (ha : PE X a (rd (gX X T) W ma)) (hb : PE X (.BoolOp .Or (b :: rest) pos) (rd (gX X T) W mb)) : PE X (.BoolOp .Or (a :: b :: rest) pos) (rd (gX X T) W (eOr ma mb)) :=
  PE_imp (pe_or ha hb) fun s H Q h => rd_bind (f := fun c e S1 => match c with
  | .v (.bl false) => mb e S1
  | .v (.bl true) => .ok (.v (.bl true)) S1
  | _ => .stuck) h fun w1 H1 S1 e v x hS hE hx h1 => by
    split at h1
    · cases hx with
      | v hx => cases hx; exact ⟨false, rfl, by rw [if_neg Bool.false_ne_true]; exact ⟨w1, e, S1, hS, hE, h1⟩⟩
    · cases hx with
      | v hx => cases hx; exact ⟨true, rfl, by rw [if_pos rfl]; exact h1 w1 H1 _ (Ext.refl _ _) hS (.v (.bl _))⟩
    · exact h1.elim
theorem e_not (ha : PE X a (rd (gX X T) W ma)) : PE X (.UnaryOp .Not a pos) (rd (gX X T) W (eNot ma)) :=
  PE_imp (pe_not ha) fun s H Q h => rd_bind (f := fun c _ S1 => fNot c S1) h fun w1 H1 S1 e v x hS hE hx h1 => by
    unfold fNot at h1
    split at h1
    · cases hx with
      | v hx => cases hx; exact ⟨_, rfl, h1 w1 H1 _ (Ext.refl _ _) hS (.v (.bl _))⟩
    · exact h1.elim
end
/-- a if c else b -/
def eIf (c : TM) (a b : EM) : EM := fun e S => (c e S).bind fun k S1 => if k then a e S1 else b e S1
theorem e_if {c a b : Expr} {pos : Pos} {mc : TM} {ma mb : EM} (hc : PT X c (rdT (gX X T) W mc)) (ha : PE X a (rd (gX X T) W ma)) (hb : PE X b (rd (gX X T) W mb)) : PE X (.IfExp c a b pos) (rd (gX X T) W (eIf mc ma mb)) :=
  PE_imp (pe_ifExp hc ha hb) fun s H Q h => rd_bind (f := fun k e S1 => if k then ma e S1 else mb e S1) h fun w1 H1 S1 e v x hS hE hx h1 => by
    subst hx
    cases v with
    | true => rw [if_pos rfl] at h1 ⊢; exact ⟨w1, e, S1, hS, hE, h1⟩
    | false => rw [if_neg Bool.false_ne_true] at h1 ⊢; exact ⟨w1, e, S1, hS, hE, h1⟩

/-! ### argument lists, tuples, lists -/
def aNil : AM := fun _ S => .ok [] S
def aCons (m : EM) (r : AM) : AM := fun e S => (m e S).bind fun x S1 => (r e S1).bind fun xs S2 => .ok (x :: xs) S2
theorem a_nil : PA X [] (rdA (gX X T) W aNil) := PA_imp pa_nil fun s H Q ⟨w, e, S, hS, hE, h⟩ => h w H [] (Ext.refl _ _) hS .nil
theorem a_cons {e : Expr} {es : List Expr} {m : EM} {r : AM} (ha : PE X e (rd (gX X T) W m)) (hr : PA X es (rdA (gX X T) W r)) (hs : starEach (e :: es) X.env = (false, eval e X.env) :: starEach es X.env := by rfl) : PA X (e :: es) (rdA (gX X T) W (aCons m r)) :=
  PA_imp (pa_cons ha hr hs) fun s H Q h => rd_bind (f := fun x e S1 => (r e S1).bind fun xs S2 => .ok (x :: xs) S2) h fun w1 H1 S1 e v x hS hE hx h1 => by
    refine ⟨w1, e, S1, hS, hE, h1.bind.imp fun vs H2 ⟨w2, S2, xs, hS2, hxs, ex, h2⟩ => ?_⟩
    exact h2 w2 H2 _ (Ext.refl _ _) hS2 (.cons (hx.le ex.wle) hxs)
def kTup (xs : List Vl) (S : Store) : Out Vl := match unv xs with
  | some ds => if ds.length ≤ 16777216 then .ok (.v (.tup ds)) S else .stuck
  | none => .stuck
def eTup (m : AM) : EM := fun e S => (m e S).bind kTup
def kLst (xs : List Vl) (S : Store) : Out Vl := match unv xs with
  | some ds => if ds.length ≤ 16777216 then .ok (.v (.lst ds)) S else .stuck
  | none => .stuck
def eLst (m : AM) : EM := fun e S => (m e S).bind kLst
/-- a new list that will be changed -/
def kLstC (xs : List Vl) (S : Store) : Out Vl := if xs.length ≤ 16777216 then .ok (.r S.length) (S ++ [.lst xs]) else .stuck
def eLstC (m : AM) : EM := fun e S => (m e S).bind kLstC
theorem e_tup {es : List Expr} {k : Nat} {pos : Pos} {m : AM} (h : PA X es (rdA (gX X T) W m)) : PE X (.Tuple es k pos) (rd (gX X T) W (eTup m)) :=
  PE_imp (pe_tupF h) fun s H Q h => rd_bind (f := fun xs _ S1 => kTup xs S1) h fun w1 H1 S1 e v x hS hE hx h1 => by
    unfold kTup at h1
    split at h1
    · rename_i ds hd
      split at h1
      · rename_i hl
        have r := hx.un hd
        exact ⟨by rw [r.len]; exact line_of hl, sat_newT hS r h1⟩
      · exact h1.elim
    · exact h1.elim
theorem e_lst {es : List Expr} {pos : Pos} {m : AM} (h : PA X es (rdA (gX X T) W m)) : PE X (.List es pos) (rd (gX X T) W (eLst m)) :=
  PE_imp (pe_lst h) fun s H Q h => rd_bind (f := fun xs _ S1 => kLst xs S1) h fun w1 H1 S1 e v x hS hE hx h1 => by
    unfold kLst at h1
    split at h1
    · rename_i ds hd
      split at h1
      · rename_i hl
        have r := hx.un hd
        exact ⟨by rw [r.len]; exact line_of hl, sat_newL hS r h1⟩
      · exact h1.elim
    · exact h1.elim
theorem at_end {α : Type} {l : List α} {x : α} {n : Nat} (h : l.length = n) : (l ++ [x])[n]? = some x := by subst h; simp
theorem sat_newC {s : L2.St} {w : Wd} {H : Hp} {S : Store} {Q : VK} {xs : List Vl} {vs : List V} (hS : RepSt g w H S) (r : RepVs g w vs xs) (h : SatG g W s w H (RepV g) (.ok (.r S.length) (S ++ [.lst xs])) Q) : ∀ p, H p = none → Q (.ref p) (upd H p (.lst vs)) := fun p hp => by
  obtain ⟨a, b⟩ := new_cel hS hp (.lst vs) (c := .lst xs) ⟨vs, upd_same, r⟩
  exact h _ _ _ b a (.r (at_end hS.len))
theorem e_lstC {es : List Expr} {pos : Pos} {m : AM} (h : PA X es (rdA (gX X T) W m)) : PE X (.List es pos) (rd (gX X T) W (eLstC m)) :=
  PE_imp (pe_lst h) fun s H Q h => rd_bind (f := fun xs _ S1 => kLstC xs S1) h fun w1 H1 S1 e v x hS hE hx h1 => by
    unfold kLstC at h1
    split at h1
    · rename_i hl
      exact ⟨by rw [hx.len]; exact line_of hl, sat_newC hS hx h1⟩
    · exact h1.elim
end
end Ax
/-! Ax3: statements, targets, loops, comprehensions -/
namespace Ax
open PySem PySem.Spec PyProof.Rows L2

/-! ### what is wanted of a statement's result -/
def SatSx (g : G) (W : WX) (w : Wd) (H : Hp) (c : Str) (fs : List (Str × D)) (e : Sl) (S : Store) : Prop :=
  ∀ s' w' H' C dx vs, Ext w H w' H' → RepSt g w' H' S → RepSl g w' s' e → g.mg c = some (.ref C) → H' dx = some (.xd vs) → RepF g w'.F vs fs → W (.ref C) (some dx) s' H'
def SatS (g : G) (W : WX) (w : Wd) (H : Hp) (o : OutS) (E : Ends) : Prop := match o with
  | .go (.nx e) S => ∀ w' H' s', Ext w H w' H' → RepSt g w' H' S → RepSl g w' s' e → E.nx s' H'
  | .go (.bk e) S => ∀ w' H' s', Ext w H w' H' → RepSt g w' H' S → RepSl g w' s' e → E.bk s' H'
  | .go (.ct e) S => ∀ w' H' s', Ext w H w' H' → RepSt g w' H' S → RepSl g w' s' e → E.ct s' H'
  | .go (.rt x) S => ∀ w' H' v, Ext w H w' H' → RepSt g w' H' S → RepV g w' v x → E.rt v H'
  | .exc c fs e S => SatSx g W w H c fs e S
  | .stuck => False
def rdS (g : G) (W : WX) (m : SM) : TS := fun E s H => ∃ w e S, RepSt g w H S ∧ RepSl g w s e ∧ SatS g W w H (m e S) E
def Out.toS {α : Type} (o : Out α) (e : Sl) (f : α → Store → OutS) : OutS := match o with
  | .ok a S => f a S
  | .exc c fs S => .exc c fs e S
  | .stuck => .stuck
/-- some slots forgotten -/
def fgt (is : List Nat) (e : Sl) : Sl := is.foldl (fun e i => e.set i none) e
section
variable {g : G} {W : WX} {s : L2.St} {w w' : Wd} {H H' : Hp} {E E' : Ends}
theorem fgt_length (is : List Nat) : ∀ e : Sl, (fgt is e).length = e.length := by
  induction is with
  | nil => intro e; rfl
  | cons i is ih => intro e; show (fgt is (e.set i none)).length = _; rw [ih]; simp
theorem fgt_some (is : List Nat) : ∀ {e : Sl} {j : Nat} {x : Vl}, (fgt is e)[j]? = some (some x) → e[j]? = some (some x) ∧ j ∉ is := by
  induction is with
  | nil => intro e j x h; exact ⟨h, by simp⟩
  | cons i is ih =>
    intro e j x h
    obtain ⟨q, nq⟩ := ih (e := e.set i none) h
    by_cases hj : i = j
    · subst hj
      by_cases hl : i < e.length
      · rw [List.getElem?_set_self hl] at q; cases q
      · rw [List.getElem?_eq_none (by simpa using hl)] at q; cases q
    · rw [List.getElem?_set_ne hj] at q
      exact ⟨q, by simp only [List.mem_cons, not_or]; exact ⟨fun z => hj z.symm, nq⟩⟩
theorem RepSl.fgt {e : Sl} (h : RepSl g w s e) (is : List Nat) : RepSl g w s (fgt is e) := ⟨by rw [fgt_length]; exact h.len, fun i x q => h.at_ i x (fgt_some is q).1⟩
theorem wipe_at {σ : L2.St} {i : Nat} : ∀ {vs : List Nat}, i ∉ vs → (wipe σ vs)[i]? = σ[i]?
  | [], _ => rfl
  | v :: vs, h => by
    simp only [List.mem_cons, not_or] at h
    unfold wipe
    rw [List.getElem?_set_ne (Ne.symm h.1)]
    exact wipe_at h.2
/-- at a comprehension's start -/
theorem RepSl.wipe {e : Sl} (h : RepSl g w s e) (is : List Nat) : RepSl g w (wipe s is) (Ax.fgt is e) := ⟨by rw [fgt_length, wipe_length]; exact h.len, fun i x q => by
  obtain ⟨a, b⟩ := fgt_some is q
  rw [wipe_at b]
  exact h.at_ i x a⟩
theorem SatSx.ext {c : Str} {fs : List (Str × D)} {e : Sl} {S : Store} (h : SatSx g W w H c fs e S) (x : Ext w H w' H') : SatSx g W w' H' c fs e S :=
  fun s2 w2 H2 C dx vs e2 a b cc d f => h s2 w2 H2 C dx vs (x.trans e2) a b cc d f
theorem SatSx.toX {c : Str} {fs : List (Str × D)} {e : Sl} {S : Store} (h : SatSx g W w H c fs e S) (r : RepSl g w s e) : SatX g W s w H c fs S :=
  fun w2 H2 C dx vs e2 a cc d f => h s w2 H2 C dx vs e2 a (r.le e2.wle) cc d f
theorem SatS.ext {o : OutS} (h : SatS g W w H o E) (x : Ext w H w' H') : SatS g W w' H' o E := by
  cases o with
  | go f S =>
    cases f with
    | nx e => exact fun w2 H2 s2 e2 a b => h w2 H2 s2 (x.trans e2) a b
    | bk e => exact fun w2 H2 s2 e2 a b => h w2 H2 s2 (x.trans e2) a b
    | ct e => exact fun w2 H2 s2 e2 a b => h w2 H2 s2 (x.trans e2) a b
    | rt v => exact fun w2 H2 s2 e2 a b => h w2 H2 s2 (x.trans e2) a b
  | exc c fs e S => exact SatSx.ext h x
  | stuck => exact h
theorem SatS.ofE {α β : Type} {rel : Wd → β → α → Prop} {o : Out α} {e : Sl} {f : α → Store → OutS} (h : SatS g W w H (o.toS e f) E) (r : RepSl g w s e) :
    SatG g W s w H rel o fun v H1 => ∃ w1 S1 x, RepSt g w1 H1 S1 ∧ rel w1 v x ∧ Ext w H w1 H1 ∧ SatS g W w1 H1 (f x S1) E := by
  cases o with
  | ok x S => exact fun w1 H1 v e a b => ⟨w1, S, x, a, b, e, SatS.ext (o := f x S) h e⟩
  | exc c fs S => exact SatSx.toX h r
  | stuck => exact h
/-- a statement's first expression -/
theorem rdS_ofE {α β : Type} {rel : Wd → β → α → Prop} {m : Sl → Store → Out α} {f : α → Sl → Store → OutS} {Q' : β → Hp → Prop} (h : rdS g W (fun e S => (m e S).toS e fun x S1 => f x e S1) E s H)
    (q : ∀ w1 H1 S1 e v x, RepSt g w1 H1 S1 → RepSl g w1 s e → rel w1 v x → SatS g W w1 H1 (f x e S1) E → Q' v H1) : rdG g W rel m s H Q' := by
  obtain ⟨w, e, S, hS, hE, h⟩ := h
  exact ⟨w, e, S, hS, hE, (h.ofE hE).imp fun v H1 ⟨w1, S1, x, a, b, c, d⟩ => q w1 H1 S1 e v x a (hE.le c.wle) b d⟩
end

/-! ### blocks, simple statements -/
def sNil : SM := fun e S => .go (.nx e) S
def OutS.seq (o : OutS) (f : SM) : OutS := match o with
  | .go (.nx e) S => f e S
  | o => o
def sSeq (a b : SM) : SM := fun e S => (a e S).seq b
def sExpr (m : EM) : SM := fun e S => (m e S).toS e fun _ S1 => .go (.nx e) S1
def sRet (m : EM) : SM := fun e S => (m e S).toS e fun x S1 => .go (.rt x) S1
def sRetN : SM := fun _ S => .go (.rt (.v .non)) S
def sBreak : SM := fun e S => .go (.bk e) S
def sCont : SM := fun e S => .go (.ct e) S
def sIf (c : TM) (a b : SM) : SM := fun e S => (c e S).toS e fun k S1 => if k then a e S1 else b e S1
/-- slots forgotten ahead of a statement -/
def sFg (is : List Nat) (a : SM) : SM := fun e S => a (fgt is e) S
section
variable {X : Cx} {T : List (Addr × Str)} {W : WX} {g : G} {st : Stmt} {rest : List Stmt} {pos : Pos} {m : EM} {a b : SM}
theorem ss_nil : PSs X [] (rdS (gX X T) W sNil) := PSs_imp pss_nil fun E s H ⟨w, e, S, hS, hE, h⟩ => h w H s (Ext.refl _ _) hS hE
theorem ss_cons (ha : PS X st (rdS (gX X T) W a)) (hb : PSs X rest (rdS (gX X T) W b)) : PSs X (st :: rest) (rdS (gX X T) W (sSeq a b)) :=
  PSs_imp (pss_cons ha hb) fun E s H ⟨w, e, S, hS, hE, h⟩ => by
    refine ⟨w, e, S, hS, hE, ?_⟩
    unfold sSeq at h
    generalize a e S = o at h
    cases o with
    | go f S1 =>
      cases f with
      | nx e1 => exact fun w1 H1 s1 ex r1 r2 => ⟨w1, e1, S1, r1, r2, SatS.ext (o := b e1 S1) h ex⟩
      | _ => exact h
    | exc c fs e1 S1 => exact h
    | stuck => exact h
theorem ss_one (ha : PS X st (rdS (gX X T) W a)) : PSs X [st] (rdS (gX X T) W a) := pss_one ha
theorem s_expr {ex : Expr} (hm : PE X ex (rd (gX X T) W m)) (hs : swapsWith ex none pos.line X.env = pure false := by rfl) : PS X (.Expr ex pos) (rdS (gX X T) W (sExpr m)) :=
  PS_imp (ps_expr hm hs) fun E s H h => rdS_ofE (f := fun _ e S1 => .go (.nx e) S1) h fun w1 H1 S1 e v x hS hE hx h1 => h1 w1 H1 s (Ext.refl _ _) hS hE
theorem s_ret {ex : Expr} (hm : PE X ex (rd (gX X T) W m)) : PS X (.Return (some ex) pos) (rdS (gX X T) W (sRet m)) :=
  PS_imp (ps_ret hm) fun E s H h => rdS_ofE (f := fun x _ S1 => .go (.rt x) S1) h fun w1 H1 S1 e v x hS hE hx h1 => h1 w1 H1 v (Ext.refl _ _) hS hx
theorem s_retN : PS X (.Return none pos) (rdS (gX X T) W sRetN) := PS_imp ps_retN fun E s H ⟨w, e, S, hS, hE, h⟩ => h w H .non (Ext.refl _ _) hS (.v .non)
theorem s_pass : PS X (.Pass pos) (rdS (gX X T) W sNil) := PS_imp ps_pass fun E s H ⟨w, e, S, hS, hE, h⟩ => h w H s (Ext.refl _ _) hS hE
theorem s_break : PS X (.Break pos) (rdS (gX X T) W sBreak) := PS_imp ps_break fun E s H ⟨w, e, S, hS, hE, h⟩ => h w H s (Ext.refl _ _) hS hE
theorem s_cont : PS X (.Continue pos) (rdS (gX X T) W sCont) := PS_imp ps_continue fun E s H ⟨w, e, S, hS, hE, h⟩ => h w H s (Ext.refl _ _) hS hE
theorem s_if {c : Expr} {as bs : List Stmt} {mc : TM} (hc : PT X c (rdT (gX X T) W mc)) (ha : PSs X as (rdS (gX X T) W a)) (hb : PSs X bs (rdS (gX X T) W b)) : PS X (.If c as bs pos) (rdS (gX X T) W (sIf mc a b)) :=
  PS_imp (ps_if hc ha hb) fun E s H h => rdS_ofE (rel := relB) (f := fun (k : Bool) e S1 => if k then a e S1 else b e S1) h fun w1 H1 S1 e v x hS hE hx h1 => by
    subst hx
    cases v with
    | true => rw [if_pos rfl] at h1 ⊢; exact ⟨w1, e, S1, hS, hE, h1⟩
    | false => rw [if_neg Bool.false_ne_true] at h1 ⊢; exact ⟨w1, e, S1, hS, hE, h1⟩
theorem s_fg {is : List Nat} (ha : PS X st (rdS (gX X T) W a)) : PS X st (rdS (gX X T) W (sFg is a)) := PS_imp ha fun E s H ⟨w, e, S, hS, hE, h⟩ => ⟨w, fgt is e, S, hS, hE.fgt is, h⟩
end

/-! ### targets -/
abbrev TgM := Vl → Sl → Option Sl
abbrev TgsM := List Vl → Sl → Option Sl
/-- all slots but these as they were -/
structure SameBut (is : List Nat) (s s' : L2.St) : Prop where
  len : s'.length = s.length
  at_ : ∀ j, j ∉ is → s'[j]? = s[j]?
theorem SameBut.refl (is : List Nat) (s : L2.St) : SameBut is s s := ⟨rfl, fun _ _ => rfl⟩
theorem SameBut.trans {is : List Nat} {s s1 s2 : L2.St} (a : SameBut is s s1) (b : SameBut is s1 s2) : SameBut is s s2 := ⟨b.len.trans a.len, fun j h => (b.at_ j h).trans (a.at_ j h)⟩
theorem SameBut.mono {is js : List Nat} {s s1 : L2.St} (a : SameBut is s s1) (h : ∀ i ∈ is, i ∈ js) : SameBut js s s1 := ⟨a.len, fun j hj => a.at_ j fun z => hj (h j z)⟩
theorem wipe_none {s : L2.St} {j : Nat} : ∀ {vs : List Nat}, j ∈ vs → j < s.length → (wipe s vs)[j]? = some none
  | v :: vs, h, hl => by
    unfold wipe
    by_cases e : v = j
    · subst e
      rw [List.getElem?_set_self (by rw [wipe_length]; exact hl)]
    · rw [List.getElem?_set_ne e]
      exact wipe_none ((List.mem_cons.mp h).resolve_left fun z => e z.symm) hl
theorem SameBut.wipe {vs : List Nat} {s s' : L2.St} (h : SameBut vs s s') : wipe s' vs = L2.wipe s vs := by
  apply List.ext_getElem?
  intro j
  by_cases hj : j ∈ vs
  · by_cases hl : j < s.length
    · rw [wipe_none hj hl, wipe_none hj (by rw [h.len]; exact hl)]
    · rw [List.getElem?_eq_none (by rw [wipe_length, h.len]; omega), List.getElem?_eq_none (by rw [wipe_length]; omega)]
  · rw [wipe_at hj, wipe_at hj, h.at_ j hj]
theorem wipe_wipe {s : L2.St} (vs : List Nat) : wipe (wipe s vs) vs = wipe s vs := by
  apply List.ext_getElem?
  intro j
  by_cases hj : j ∈ vs
  · by_cases hl : j < s.length
    · rw [wipe_none hj (by rw [wipe_length]; exact hl), wipe_none hj hl]
    · rw [List.getElem?_eq_none (by rw [wipe_length, wipe_length]; omega), List.getElem?_eq_none (by rw [wipe_length]; omega)]
  · rw [wipe_at hj]
def rdTg (g : G) (t : TgM) (is : List Nat) : TG := fun v s H Q => ∃ w e S x, RepSt g w H S ∧ RepSl g w s e ∧ RepV g w v x ∧ match t x e with
  | some e' => ∀ w' H' s', Ext w H w' H' → RepSt g w' H' S → RepSl g w' s' e' → SameBut is s s' → Q s' H'
  | none => False
def rdTgs (g : G) (t : TgsM) (is : List Nat) : TGs := fun v s H Q => ∃ w e S x, RepSt g w H S ∧ RepSl g w s e ∧ RepVs g w v x ∧ match t x e with
  | some e' => ∀ w' H' s', Ext w H w' H' → RepSt g w' H' S → RepSl g w' s' e' → SameBut is s s' → Q s' H'
  | none => False
theorem PG_imp {X : Cx} {e : Expr} {t t' : TG} (h : PG X e t) (i : ∀ v s H Q, t' v s H Q → t v s H Q) : PG X e t' := ⟨fun pins s σ H v u Q I r hw => h.run pins s σ H v u Q I r (i _ _ _ _ hw)⟩
theorem PGs_imp {X : Cx} {e : List Expr} {t t' : TGs} (h : PGs X e t) (i : ∀ v s H Q, t' v s H Q → t v s H Q) : PGs X e t' := ⟨fun pins s σ H v u Q I r hw => h.run pins s σ H v u Q I r (i _ _ _ _ hw)⟩
def gNm (i : Nat) : TgM := fun x e => some (e.set i (some x))
def gsNil : TgsM := fun xs e => match xs with
  | [] => some e
  | _ => none
def gsCons (t : TgM) (u : TgsM) : TgsM := fun xs e => match xs with
  | x :: r => (t x e).bind (u r)
  | [] => none
def gTp (n : Nat) (t : TgsM) : TgM := fun x e => match x with
  | .v (.tup ds) => if ds.length = n then t (ds.map .v) e else none
  | .v (.ptp ds) => if ds.length = n then t (ds.map .v) e else none
  | _ => none
section
variable {X : Cx} {T : List (Addr × Str)} {g : G} {pos : Pos}
theorem g_nm {i : Nat} {x : Str} (hN : X.N.Nodup) (hi : X.N[i]? = some x := by rfl) (hx : Loc X.env.scope x := by first | exact Or.inl rfl | exact Or.inr rfl) (hf : X.fn x = true ∨ X.env.scope.names.lookup x = some .local := by first | exact .inl rfl | exact .inr rfl | assumption) : PG X (.Name x pos) (rdTg (gX X T) (gNm i) [i]) :=
  PG_imp (pg_name hN hi hx hf) fun v s H Q ⟨w, e, S, x, hS, hE, hx, h⟩ => h w H _ (Ext.refl _ _) hS (hE.set hx) ⟨by simp, fun j hj => by rw [List.getElem?_set_ne]; exact fun z => hj (by simp [z])⟩
theorem gs_nil {is : List Nat} : PGs X [] (rdTgs (gX X T) gsNil is) := PGs_imp pgs_nil fun v s H Q ⟨w, e, S, x, hS, hE, hx, h⟩ => by
  cases hx with
  | nil => exact ⟨rfl, h w H s (Ext.refl _ _) hS hE (.refl _ _)⟩
  | cons _ _ => exact h.elim
theorem gs_cons {e : Expr} {es : List Expr} {t : TgM} {u : TgsM} {is js : List Nat} (h1 : PG X e (rdTg (gX X T) t is)) (h2 : PGs X es (rdTgs (gX X T) u js)) (hs : (assignEach (e :: es) X.env).map (·.2) = assign e X.env :: (assignEach es X.env).map (·.2) := by rfl) :
    PGs X (e :: es) (rdTgs (gX X T) (gsCons t u) (is ++ js)) := PGs_imp (pgs_cons h1 h2 hs) fun v s H Q ⟨w, e, S, x, hS, hE, hx, h⟩ => by
  cases hx with
  | nil => exact h.elim
  | @cons v vs x xs rx rxs =>
    refine ⟨v, vs, rfl, w, e, S, x, hS, hE, rx, ?_⟩
    unfold gsCons at h
    simp only at h
    cases ht : t x e with
    | none => rw [ht] at h; exact h.elim
    | some e1 =>
      rw [ht] at h
      simp only [Option.bind_some] at h
      intro w1 H1 s1 ex1 hS1 hE1 sb1
      refine ⟨w1, e1, S, xs, hS1, hE1, rxs.le ex1.wle, ?_⟩
      cases hu : u xs e1 with
      | none => rw [hu] at h; exact h.elim
      | some e2 =>
        rw [hu] at h
        exact fun w2 H2 s2 ex2 hS2 hE2 sb2 => h w2 H2 s2 (ex1.trans ex2) hS2 hE2 ((sb1.mono fun i hi => List.mem_append_left _ hi).trans (sb2.mono fun i hi => List.mem_append_right _ hi))
theorem g_tp {es : List Expr} {k : Nat} {t : TgsM} {n : Nat} {is : List Nat} (hc : X.calm = true) (h : PGs X es (rdTgs (gX X T) t is)) (hn : (assignEach es X.env).length = n := by rfl) (hst : (assignEach es X.env).findIdx? (·.1) = none := by rfl) :
    PG X (.Tuple es k pos) (rdTg (gX X T) (gTp n t) is) := PG_imp (pg_tup hc h hn hst) fun v s H Q ⟨w, e, S, x, hS, hE, hx, h⟩ => by
  unfold gTp at h
  split at h
  · rename_i e' he
    have fin : ∀ {a : Addr} {vs : List V} {ds : List D}, SqT X.K w.F a vs → RepAll (gX X T) w.F vs ds → (if ds.length = n then t (ds.map .v) e else none) = some e' → ∃ (b : Addr) (us : List V), V.ref a = .ref b ∧ SqT X.K H b us ∧ us.length = n ∧ rdTgs (gX X T) t is us s H Q := fun {a vs ds} q r he => by
      split at he
      · rename_i hl
        refine ⟨_, _, rfl, sqT_le hS.hle q, by rw [r.len]; exact hl, w, e, S, _, hS, hE, r.vs, ?_⟩
        rw [he]
        exact h
      · cases he
    split at he
    · cases hx with
      | v hx => cases hx with
        | tup q r => exact fin q.sq r he
    · cases hx with
      | v hx => cases hx with
        | ptp q r => exact fin q r he
    · cases he
  · exact h.elim
end

/-! ### target = value -/
def sAsg (t : TgM) (m : EM) : SM := fun e S => (m e S).toS e fun x S1 => match t x e with
  | some e1 => .go (.nx e1) S1
  | none => .stuck
section
variable {X : Cx} {T : List (Addr × Str)} {W : WX} {g : G} {pos : Pos} {m : EM} {t : TgM} {is : List Nat}
theorem asg_rd {tg : TG} (ht : tg = rdTg g t is) : ∀ E s H, rdS g W (sAsg t m) E s H → tAsg (rd g W m) tg E s H := fun E s H h => by
  subst ht
  refine rdS_ofE (f := fun x e S1 => match t x e with | some e1 => .go (.nx e1) S1 | none => .stuck) h fun w1 H1 S1 e v x hS hE hx h1 => ?_
  refine ⟨w1, e, S1, x, hS, hE, hx, ?_⟩
  cases hq : t x e with
  | none => rw [hq] at h1; exact h1.elim
  | some e1 => rw [hq] at h1; exact fun w2 H2 s2 ex hS2 hE2 _ => h1 w2 H2 s2 ex hS2 hE2
theorem s_asg {tg ex : Expr} (hm : PE X ex (rd (gX X T) W m)) (hg : PG X tg (rdTg (gX X T) t is)) (hs : swapsWithSole [tg] ex pos.line X.env = pure false := by rfl) (hw : swappedStores [tg] ex X.env = pure none := by rfl)
    (h1 : (assignEach [tg] X.env).map (·.2) = [assign tg X.env] := by rfl) : PS X (.Assign [tg] ex pos) (rdS (gX X T) W (sAsg t m)) := PS_imp (ps_asg hm hg hs hw h1) (asg_rd rfl)
theorem s_set {i : Nat} {x : Str} {ex : Expr} {pos' : Pos} (hm : PE X ex (rd (gX X T) W m)) (hN : X.N.Nodup) (hi : X.N[i]? = some x := by rfl) (hx : Loc X.env.scope x := by first | exact Or.inl rfl | exact Or.inr rfl) (hs : swapsWith ex (some (.Name x pos')) pos.line X.env = pure false := by rfl)
    (hf : X.fn x = true ∨ X.env.scope.names.lookup x = some .local := by first | exact .inl rfl | exact .inr rfl | assumption) : PS X (.Assign [.Name x pos'] ex pos) (rdS (gX X T) W (sAsg (gNm i) m)) :=
  PS_imp (ps_set hN hi hx hm hs hf) fun E s H h => by
    refine rdS_ofE (f := fun x e S1 => match gNm i x e with | some e1 => .go (.nx e1) S1 | none => .stuck) h fun w1 H1 S1 e v x hS hE hx h1 => ?_
    exact h1 w1 H1 _ (Ext.refl _ _) hS (hE.set hx)
/-- a, b = x, y -/
def sPar (i j : Nat) (m : AM) : SM := fun e S => (m e S).toS e fun xs S1 => match xs with
  | [x, y] => .go (.nx ((e.set i (some x)).set j (some y))) S1
  | _ => .stuck
theorem s_par {i j : Nat} {x y : Str} {a b : Expr} {px py pt : Pos} {kt k2 pt2} {ma : AM} (ha : PA X [a, b] (rdA (gX X T) W ma)) (hc : X.calm = true) (hN : X.N.Nodup) (hi : X.N[i]? = some x := by rfl) (hj : X.N[j]? = some y := by rfl) (hij : i ≠ j := by decide)
    (hx : X.env.scope.names.lookup x = some .local := by rfl) (hy : X.env.scope.names.lookup y = some .local := by rfl)
    (hw : swappedStores [.Tuple [.Name x px, .Name y py] kt pt] (.Tuple [a, b] k2 pt2) X.env = pure (some [x, y]) := by rfl)
    (hs : swapsWithSole [.Tuple [.Name x px, .Name y py] kt pt] (.Tuple [a, b] k2 pt2) pos.line X.env = pure false := by rfl) :
    PS X (.Assign [.Tuple [.Name x px, .Name y py] kt pt] (.Tuple [a, b] k2 pt2) pos) (rdS (gX X T) W (sPar i j ma)) :=
  PS_imp (ps_par hc hN hi hj hij hx hy ha hw hs) fun E s H h => by
    refine rdS_ofE (rel := RepVs (gX X T)) (f := fun xs e S1 => match xs with | [x, y] => .go (.nx ((e.set i (some x)).set j (some y))) S1 | _ => .stuck) h fun w1 H1 S1 e v x hS hE hx h1 => ?_
    split at h1
    · cases hx with
      | cons r1 hx =>
        cases hx with
        | cons r2 hx =>
          cases hx
          exact ⟨_, _, rfl, h1 w1 H1 _ (Ext.refl _ _) hS ((hE.set r1).set r2)⟩
    · exact h1.elim
end

/-! ### what is walked -/
/-- the iterator gives these things, whatever is done meanwhile -/
def ItOk (g : G) (w : Wd) (J : It) (xs : List Vl) : Prop := ∀ w1 H1 S1, WLe w w1 → RepSt g w1 H1 S1 → ∀ i,
  (∀ x, xs[i]? = some x → J.go i H1 ∧ ∀ v H2, J.yld i H1 v H2 → ∃ w2, Ext w1 H1 w2 H2 ∧ RepSt g w2 H2 S1 ∧ RepV g w2 v x) ∧ (i = xs.length → J.stop i H1)
theorem ItOk.le {g : G} {w w' : Wd} {J : It} {xs : List Vl} (h : ItOk g w J xs) (l : WLe w w') : ItOk g w' J xs := fun w1 H1 S1 l1 => h w1 H1 S1 (by
  obtain ⟨m1, e1⟩ := l.pre
  obtain ⟨m2, e2⟩ := l1.pre
  exact ⟨⟨m1 ++ m2, by rw [e2, e1, List.append_assoc]⟩, l.fle.trans l1.fle⟩)
abbrev IM := Sl → Store → Out (List Vl)
abbrev rdI (g : G) (W : WX) (m : IM) : TI := rdG g W (ItOk g) m
theorem PI_imp {X : Cx} {tg e : Expr} {t t' : TI} (h : PI X tg e t) (i : ∀ s H Q, t' s H Q → t s H Q) : PI X tg e t' := ⟨fun pins s σ H Q I hw => h.run pins s σ H Q I (i _ _ _ hw)⟩

/-! ### for -/
def forGo (t : TgM) (b : SM) (fg : List Nat) : List Vl → Sl → Store → OutS
  | [], e, S => .go (.nx e) S
  | x :: xs, e, S => match t x e with
    | none => .stuck
    | some e1 => match b e1 S with
      | .go (.nx e2) S2 => forGo t b fg xs (fgt fg e2) S2
      | .go (.ct e2) S2 => forGo t b fg xs (fgt fg e2) S2
      | .go (.bk e2) S2 => .go (.nx (fgt fg e2)) S2
      | .go (.rt v) S2 => .go (.rt v) S2
      | .exc c fs e2 S2 => .exc c fs e2 S2
      | .stuck => .stuck
def sFor (it : IM) (t : TgM) (b : SM) (fg : List Nat) : SM := fun e S => (it e S).toS e fun xs S1 => forGo t b fg xs (fgt fg e) S1
section
variable {X : Cx} {T : List (Addr × Str)} {W : WX} {g : G} {pos : Pos} {it : IM} {t : TgM} {b : SM} {fg is : List Nat}
theorem for_rd : ∀ E s H, rdS g W (sFor it t b fg) E s H → tFor (rdI g W it) (rdTg g t is) (rdS g W b) E s H := fun E s H h => by
  refine rdS_ofE (rel := ItOk g) (f := fun xs e S1 => forGo t b fg xs (fgt fg e) S1) h fun w0 H0 S0 e0 J xs hS0 hE0 hJ h0 => ?_
  refine ⟨fun i m s H => ∃ w1 e1 S1, m = xs.length - i ∧ i ≤ xs.length ∧ WLe w0 w1 ∧ RepSt g w1 H S1 ∧ RepSl g w1 s e1 ∧ SatS g W w1 H (forGo t b fg (xs.drop i) e1 S1) E,
    ⟨xs.length, w0, fgt fg e0, S0, by simp, Nat.zero_le _, (Ext.refl w0 H0).wle, hS0, hE0.fgt fg, h0⟩, ?_⟩
  rintro i m s H ⟨w1, e1, S1, rfl, hi, le1, hS1, hE1, h1⟩
  by_cases hlt : i < xs.length
  · rw [List.drop_eq_getElem_cons hlt] at h1
    obtain ⟨go, yl⟩ := (hJ w1 H S1 le1 hS1 i).1 xs[i] (List.getElem?_eq_getElem hlt)
    refine .inr ⟨go, fun s' H' => ∃ w2 e2 S2, WLe w0 w2 ∧ RepSt g w2 H' S2 ∧ RepSl g w2 s' e2 ∧ SatS g W w2 H' (forGo t b fg (xs.drop (i + 1)) e2 S2) E,
      fun s' H' ⟨w2, e2, S2, a, b, c, d⟩ => ⟨xs.length - (i + 1), by omega, w2, e2, S2, rfl, hlt, a, b, c, d⟩, fun v H2 y => ?_⟩
    obtain ⟨w2, ex2, hS2, hx⟩ := yl v H2 y
    refine ⟨w2, e1, S1, xs[i], hS2, hE1.le ex2.wle, hx, ?_⟩
    unfold forGo at h1
    cases hq : t xs[i] e1 with
    | none => rw [hq] at h1; exact h1.elim
    | some e2 =>
      rw [hq] at h1
      simp only at h1 ⊢
      intro w3 H3 s3 ex3 hS3 hE3 _
      refine ⟨w3, e2, S1, hS3, hE3, ?_⟩
      have le3 : WLe w0 w3 := by
        obtain ⟨m1, z1⟩ := le1.pre
        obtain ⟨m2, z2⟩ := (ex2.trans ex3).pre
        exact ⟨⟨m1 ++ m2, by rw [z2, z1, List.append_assoc]⟩, le1.fle.trans (ex2.trans ex3).fle⟩
      have again : ∀ {e4 : Sl} {S4 : Store}, SatS g W w1 H (forGo t b fg (xs.drop (i + 1)) (fgt fg e4) S4) E → ∀ w4 H4 s4, Ext w3 H3 w4 H4 → RepSt g w4 H4 S4 → RepSl g w4 s4 e4 →
          ∃ w5 e5 S5, WLe w0 w5 ∧ RepSt g w5 H4 S5 ∧ RepSl g w5 s4 e5 ∧ SatS g W w5 H4 (forGo t b fg (xs.drop (i + 1)) e5 S5) E := fun {e4 S4} q w4 H4 s4 ex4 hS4 hE4 => by
        refine ⟨w4, fgt fg e4, S4, ?_, hS4, hE4.fgt fg, q.ext ((ex2.trans ex3).trans ex4)⟩
        obtain ⟨m1, z1⟩ := le3.pre
        obtain ⟨m2, z2⟩ := ex4.pre
        exact ⟨⟨m1 ++ m2, by rw [z2, z1, List.append_assoc]⟩, le3.fle.trans ex4.fle⟩
      generalize b e2 S1 = o at h1
      cases o with
      | go f S4 =>
        cases f with
        | nx e4 => exact again h1
        | ct e4 => exact again h1
        | bk e4 => exact fun w4 H4 s4 ex4 hS4 hE4 => (h1.ext (ex2.trans ex3)) w4 H4 s4 ex4 hS4 (hE4.fgt fg)
        | rt z => exact h1.ext (ex2.trans ex3)
      | exc c fs e4 S4 => exact SatSx.ext h1 (ex2.trans ex3)
      | stuck => exact h1
  · have e : i = xs.length := by omega
    subst e
    rw [List.drop_length] at h1
    exact .inl ⟨(hJ w1 H S1 le1 hS1 _).2 rfl, h1 w1 H s (Ext.refl _ _) hS1 hE1⟩
theorem s_for {tg iter : Expr} {body : List Stmt} (hp : PassesOwn (model X.prog X.w) X.A X.env X.xe) (hc : X.calm = true) (hi : PI X tg iter (rdI (gX X T) W it)) (hg : PG X tg (rdTg (gX X T) t is)) (hb : PSs X body (rdS (gX X T) W b)) (fg : List Nat)
    (hs : ∀ x, foldedSetIterable iter X.env x = pure x := by intro _; rfl) : PS X (.For tg iter body [] pos) (rdS (gX X T) W (sFor it t b fg)) := PS_imp (ps_for hp hc hi hg hb hs) for_rd
end

/-! ### while -/
def whGo (t : TM) (b : SM) (fg : List Nat) : Nat → Sl → Store → OutS
  | 0, _, _ => .stuck
  | n + 1, e, S => (t e S).toS e fun c S1 => if c then match b e S1 with
      | .go (.nx e2) S2 => whGo t b fg n (fgt fg e2) S2
      | .go (.ct e2) S2 => whGo t b fg n (fgt fg e2) S2
      | .go (.bk e2) S2 => .go (.nx e2) S2
      | .go (.rt v) S2 => .go (.rt v) S2
      | .exc c fs e2 S2 => .exc c fs e2 S2
      | .stuck => .stuck
    else .go (.nx e) S1
def sWhile (n : Nat) (t : TM) (b : SM) (fg : List Nat) : SM := fun e S => whGo t b fg n (fgt fg e) S
section
variable {X : Cx} {T : List (Addr × Str)} {W : WX} {g : G} {pos : Pos} {t : TM} {b : SM} {fg : List Nat} {n : Nat}
theorem while_rd : ∀ E s H, rdS g W (sWhile n t b fg) E s H → tWhile (rdT g W t) (rdS g W b) E s H := fun E s H ⟨w, e, S, hS, hE, h⟩ => by
  refine ⟨fun m s H => ∃ w e S, RepSt g w H S ∧ RepSl g w s e ∧ SatS g W w H (whGo t b fg m e S) E, ⟨n, w, fgt fg e, S, hS, hE.fgt fg, h⟩, ?_⟩
  rintro m s H ⟨w1, e1, S1, hS1, hE1, h1⟩
  cases m with
  | zero => exact h1.elim
  | succ m =>
    refine ⟨w1, e1, S1, hS1, hE1, ?_⟩
    unfold whGo at h1
    refine (h1.ofE (rel := relB) hE1).imp fun c H2 ⟨w2, S2, x, hS2, hx, ex2, h2⟩ => ?_
    subst hx
    cases c with
    | false => rw [if_neg Bool.false_ne_true] at h2 ⊢; exact h2 w2 H2 s (Ext.refl _ _) hS2 (hE1.le ex2.wle)
    | true =>
      rw [if_pos rfl] at h2 ⊢
      refine ⟨fun s' H' => ∃ w e S, RepSt g w H' S ∧ RepSl g w s' e ∧ SatS g W w H' (whGo t b fg m e S) E, fun s' H' q => ⟨m, Nat.lt_succ_self _, q⟩, w2, e1, S2, hS2, hE1.le ex2.wle, ?_⟩
      generalize b e1 S2 = o at h2
      cases o with
      | go f S4 =>
        cases f with
        | nx e4 => exact fun w4 H4 s4 ex4 hS4 hE4 => ⟨w4, _, S4, hS4, hE4.fgt fg, SatS.ext h2 ex4⟩
        | ct e4 => exact fun w4 H4 s4 ex4 hS4 hE4 => ⟨w4, _, S4, hS4, hE4.fgt fg, SatS.ext h2 ex4⟩
        | bk e4 => exact h2
        | rt z => exact h2
      | exc c fs e4 S4 => exact h2
      | stuck => exact h2
theorem s_while {c : Expr} {body : List Stmt} (hp : PassesOwn (model X.prog X.w) X.A X.env X.xe) (hc : PT X c (rdT (gX X T) W t)) (hb : PSs X body (rdS (gX X T) W b)) (n : Nat) (fg : List Nat) : PS X (.While c body [] pos) (rdS (gX X T) W (sWhile n t b fg)) :=
  PS_imp (ps_while hp hc hb) while_rd
end
end Ax
/-! Ax4: defs and their calls -/
namespace Ax
open PySem PySem.Spec PyProof.Rows L2

/-! ### what a def hands back, freed of its cells -/
def optL (f : Vl → Option D) : List Vl → Option (List D)
  | [] => some []
  | x :: xs => (f x).bind fun d => (optL f xs).map (d :: ·)
def optP {κ : Type} (f : Vl → Option D) : List (κ × Vl) → Option (List (κ × D))
  | [] => some []
  | x :: xs => (f x.2).bind fun d => (optP f xs).map ((x.1, d) :: ·)
def rsl (S : Store) : Nat → Vl → Option D
  | _, .v d => some d
  | 0, .r _ => none
  | k + 1, .r n => match S[n]? with
    | some (.lst xs) => (optL (rsl S k) xs).map .lst
    | some (.dct ps) => (optP (rsl S k) ps).map .dct
    | some (.ins c fs) => (optP (rsl S k) fs).map (.ins c)
    | _ => none
def rsls (S : Store) (k : Nat) (xs : List Vl) : Option (List D) := optL (rsl S k) xs
def rslP (S : Store) (k : Nat) (xs : List (D × Vl)) : Option (List (D × D)) := optP (rsl S k) xs
def rslF (S : Store) (k : Nat) (xs : List (Str × Vl)) : Option (List (Str × D)) := optP (rsl S k) xs
/-- all cells frozen -/
def froz (w : Wd) (H : Hp) : Hp := fun a => match w.F a with
  | some o => some o
  | none => if a ∈ w.p then H a else none
section
variable {g : G} {w : Wd} {H : Hp} {S : Store}
theorem froz_F {a : Addr} {o : HO} (h : w.F a = some o) : froz w H a = some o := by unfold froz; rw [h]
theorem froz_le (hS : RepSt g w H S) {a : Addr} {o : HO} (h : froz w H a = some o) : H a = some o := by
  unfold froz at h
  split at h
  · rename_i u e; cases h; exact hS.le _ _ e
  · split at h
    · exact h
    · cases h
theorem froz_at (hS : RepSt g w H S) {a : Addr} {o : HO} (hm : a ∈ w.p) (h : H a = some o) : froz w H a = some o := by
  unfold froz
  split
  · rename_i u e; rw [hS.le _ _ e] at h; exact h
  · rw [if_pos hm]; exact h
theorem froz_hle : HLe w.F (froz w H) := HLe.of fun _ _ h => froz_F h
mutual
theorem rsl_rep (hS : RepSt g w H S) : ∀ (k : Nat) {v : V} {x : Vl} {d : D}, RepV g w v x → rsl S k x = some d → Rep g (froz w H) v d
  | _, _, .v _, _, .v h, e => by unfold rsl at e; cases e; exact h.le froz_hle
  | 0, _, .r _, _, .r _, e => by unfold rsl at e; cases e
  | k + 1, _, .r n, d, .r (a := a) h, e => by
    unfold rsl at e
    have hm : a ∈ w.p := List.mem_of_getElem? h
    split at e
    · rename_i xs hc
      obtain ⟨vs, q, r⟩ := hS.cel _ _ _ h hc
      obtain ⟨ds, e1, e2⟩ := Option.map_eq_some_iff.mp e
      subst e2
      exact .lst (froz_at hS hm q) (rsls_rep hS k r e1)
    · rename_i ps hc
      obtain ⟨ds, e1, e2⟩ := Option.map_eq_some_iff.mp e
      subst e2
      obtain ⟨kvs, q, r⟩ := hS.cel _ _ _ h hc
      exact .dK (.inl (froz_at hS hm q)) (rslK_rep hS k r e1)
    · rename_i c fs hc
      obtain ⟨C, dx, vs, m, q, r⟩ := hS.cel _ _ _ h hc
      obtain ⟨ds, e1, e2⟩ := Option.map_eq_some_iff.mp e
      subst e2
      exact .ins m (froz_at hS hm q) (rslF_rep hS k r e1)
    · cases e
theorem rsls_rep (hS : RepSt g w H S) : ∀ (k : Nat) {vs : List V} {xs : List Vl} {ds : List D}, RepVs g w vs xs → rsls S k xs = some ds → RepAll g (froz w H) vs ds
  | k, _, [], _, .nil, e => by unfold rsls optL at e; cases e; exact .nil
  | k, _, x :: xs, _, .cons h r, e => by
    unfold rsls optL at e
    obtain ⟨d, e1, e2⟩ := Option.bind_eq_some_iff.mp e
    obtain ⟨ds, e3, e4⟩ := Option.map_eq_some_iff.mp e2
    subst e4
    exact .cons (rsl_rep hS k h e1) (rsls_rep hS k r e3)
theorem rslK_rep (hS : RepSt g w H S) : ∀ (k : Nat) {vs : List (Key × V)} {xs : List (D × Vl)} {ds : List (D × D)}, RepKV g w vs xs → rslP S k xs = some ds → RepK g (froz w H) vs ds
  | k, _, _, _, .nil, e => by unfold rslP optP at e; cases e; exact .nil
  | k, _, _, _, .cons h r, e => by
    unfold rslP optP at e
    obtain ⟨d, e1, e2⟩ := Option.bind_eq_some_iff.mp e
    obtain ⟨ds, e3, e4⟩ := Option.map_eq_some_iff.mp e2
    subst e4
    exact .cons (rsl_rep hS k h e1) (rslK_rep hS k r e3)
theorem rslF_rep (hS : RepSt g w H S) : ∀ (k : Nat) {vs : List (Str × V)} {xs : List (Str × Vl)} {ds : List (Str × D)}, RepFV g w vs xs → rslF S k xs = some ds → RepF g (froz w H) vs ds
  | k, _, [], _, .nil, e => by unfold rslF optP at e; cases e; exact .nil
  | k, _, x :: xs, _, .cons h r, e => by
    unfold rslF optP at e
    obtain ⟨d, e1, e2⟩ := Option.bind_eq_some_iff.mp e
    obtain ⟨ds, e3, e4⟩ := Option.map_eq_some_iff.mp e2
    subst e4
    exact .cons (rsl_rep hS k h e1) (rslF_rep hS k r e3)
end
/-- at the end of a def that saw no cell of others -/
theorem leave_P {F : Hp} {H0 : Hp} (hS : RepSt g w H S) (e : Ext ⟨[], F⟩ H0 w H) : Ext ⟨[], F⟩ H0 ⟨[], froz w H⟩ H ∧ RepSt g ⟨[], froz w H⟩ H [] :=
  ⟨⟨⟨[], rfl⟩, e.fle.trans froz_hle, e.frame, fun _ h => by simp at h, (fun a o h => by
      have h : froz w H a = some o := h
      unfold froz at h
      split at h
      · rename_i u q; exact e.src a u q
      · split at h
        · rename_i hm; exact .inr (e.fresh a hm)
        · cases h), e.trk⟩,
    ⟨rfl, List.nodup_nil, fun a o h => froz_le hS h, fun n a c h => by simp at h, fun n a c h => by simp at h, hS.tabs, fun a h => by simp at h, fun a o h => by
      have h : froz w H a = some o := h
      unfold froz at h
      split at h
      · rename_i u q; cases h; exact hS.nt _ _ q
      · split at h
        · rename_i hm
          obtain ⟨u, q, n⟩ := hS.tr a hm
          rw [q] at h; cases h; exact n
        · cases h⟩⟩
/-- behind a call of such a def -/
theorem back_P {F' H' : Hp} (hS : RepSt g w H S) (e : Ext ⟨[], w.F⟩ H ⟨[], F'⟩ H') (h' : RepSt g ⟨[], F'⟩ H' []) : Ext w H ⟨w.p, F'⟩ H' ∧ RepSt g ⟨w.p, F'⟩ H' S := by
  have wle : WLe w ⟨w.p, F'⟩ := ⟨⟨[], by simp⟩, e.fle⟩
  have fr : ∀ a o, H a = some o → noTbl o → H' a = some o := fun a o h n => e.frame a o h (by simp) n
  refine ⟨⟨⟨[], by simp⟩, e.fle, fun a o h _ n => fr a o h n, fun a h => .inl h, fun a o h => ?_, e.trk⟩, ⟨hS.len, hS.nd, h'.le, fun n a c h1 h2 nd => ?_, fun n a c h1 h2 => ?_, h'.tabs, fun a ha => ?_, h'.nt⟩⟩
  · rcases e.src a o h with z | z | z
    · exact .inl z
    · simp at z
    · exact .inr (.inr z)
  · cases q : F' a with
    | none => exact q
    | some o =>
      rcases e.src a o q with ⟨o', z⟩ | z | z
      · have z : w.F a = some o' := z
        rw [hS.out n a c h1 h2 nd] at z; cases z
      · simp at z
      · obtain ⟨u, hu, _⟩ := hS.tr a (List.mem_of_getElem? h1)
        rw [hu] at z; cases z
  · have q := hS.cel n a c h1 h2
    cases c with
    | lst xs => obtain ⟨vs, q1, q2⟩ := q; exact ⟨vs, fr _ _ q1 trivial, q2.le wle⟩
    | dct ps => obtain ⟨vs, q1, q2⟩ := q; exact ⟨vs, fr _ _ q1 trivial, q2.le wle⟩
    | dcn ps => obtain ⟨vs, q1, q2, q3⟩ := q; exact ⟨vs, fr _ _ q1 trivial, q2.le wle, q3.le wle⟩
    | ins c fs => obtain ⟨C, dx, vs, m, q1, q2⟩ := q; exact ⟨C, dx, vs, m, fr _ _ q1 trivial, q2.le wle⟩
    | dead => trivial
  · obtain ⟨u, hu, n⟩ := hS.tr a ha
    obtain ⟨u', hu', n'⟩ := e.trk a u hu
    exact ⟨u', hu', n' n⟩
theorem RepSt.noCel (hS : RepSt g w H S) : RepSt g ⟨[], w.F⟩ H [] := ⟨rfl, List.nodup_nil, hS.le, fun n a c h => by simp at h, fun n a c h => by simp at h, hS.tabs, fun a h => by simp at h, hS.nt⟩
end

/-! ### promises -/
def SatP (g : G) (F H : Hp) (o : R) (Q : VK) (E : XK) : Prop := match o with
  | .ok d => ∀ F' H' v, Ext ⟨[], F⟩ H ⟨[], F'⟩ H' → RepSt g ⟨[], F'⟩ H' [] → Rep g F' v d → Q v H'
  | .exc c fs => ∀ F' H' C dx vs, Ext ⟨[], F⟩ H ⟨[], F'⟩ H' → RepSt g ⟨[], F'⟩ H' [] → g.mg c = some (.ref C) → H' dx = some (.xd vs) → RepF g F' vs fs → E (.ref C) (some dx) H'
  | .stuck => False
/-- a def that changes nothing of others: m of the arguments' data -/
def spP (g : G) (m : List D → R) : Sp := fun vs H Q E => ∃ F ds, RepSt g ⟨[], F⟩ H [] ∧ RepAll g F vs ds ∧ SatP g F H (m ds) Q E
def SatK (g : G) (w : Wd) (H : Hp) (o : Out Vl) (Q : VK) (E : XK) : Prop := match o with
  | .ok x S => ∀ w' H' v, Ext w H w' H' → RepSt g w' H' S → RepV g w' v x → Q v H'
  | .exc c fs S => ∀ w' H' C dx vs, Ext w H w' H' → RepSt g w' H' S → g.mg c = some (.ref C) → H' dx = some (.xd vs) → RepF g w'.F vs fs → E (.ref C) (some dx) H'
  | .stuck => False
/-- a def over the cells of its caller -/
def spK (g : G) (m : List Vl → Store → Out Vl) : Sp := fun vs H Q E => ∃ w S xs, RepSt g w H S ∧ RepVs g w vs xs ∧ SatK g w H (m xs S) Q E

def slots (N : Nat) (xs : List Vl) : Sl := xs.map some ++ List.replicate (N - xs.length) none
def runP (N np : Nat) (mb : SM) (ds : List D) : R := if ds.length = np then match mb (slots N (ds.map .v)) [] with
    | .go (.rt x) S => match rsl S 4 x with
      | some d => .ok d
      | none => .stuck
    | .go (.nx _) _ => .ok .non
    | .exc c fs _ _ => .exc c fs
    | _ => .stuck
  else .stuck
def runK (N np : Nat) (mb : SM) (xs : List Vl) (S : Store) : Out Vl := if xs.length = np then match mb (slots N xs) S with
    | .go (.rt x) S => .ok x S
    | .go (.nx _) S => .ok (.v .non) S
    | .exc c fs _ S => .exc c fs S
    | _ => .stuck
  else .stuck
theorem slots_rep {g : G} {w : Wd} {vs : List V} {xs : List Vl} (r : RepVs g w vs xs) (N : List Str) : RepSl g w (L2.start N vs) (slots N.length xs) := by
  have hl := r.len
  refine ⟨by unfold L2.start slots; simp [hl], fun i x h => ?_⟩
  unfold slots at h
  unfold L2.start
  by_cases hi : i < xs.length
  · rw [List.getElem?_append_left (by simpa using hi), List.getElem?_map] at h
    obtain ⟨y, hy, e⟩ := Option.map_eq_some_iff.mp h
    cases e
    obtain ⟨v, hv, rv⟩ := r.at hy
    exact ⟨v, by rw [List.getElem?_append_left (by rw [List.length_map, hl]; exact hi), List.getElem?_map, hv]; rfl, rv⟩
  · rw [List.getElem?_append_right (by simpa using hi), List.getElem?_replicate] at h
    split at h <;> cases h
section
variable {P : Program} {wd : World} {K : PySem.W.Frag} {mg : Str → Option Value} {base : Heap} {x qual : Str} {st : Stmt} {f : Addr} {fd : FuncData} {N ps : List Str} {k : Nat} {T : List (Addr × Str)}
abbrev Wdef (E : XK) : WX := fun cls d _ H => E cls d H
/-- what a def's body must be shown to be -/
abbrev BodyIs (P : Program) (wd : World) (K : PySem.W.Frag) (mg : Str → Option Value) (base : Heap) (T : List (Addr × Str)) (N : List Str) (qual : Str) (sc : Scope) (body : List Stmt) (f : Addr) (k : Nat) (mb : SM) : Prop :=
  ∀ (cdv : Value) (A : Around) (outer : List Env) (s : Shared) (H : Hp) (E : XK), Room k (A.deeper (envOfC qual sc s.heap.objs.size f cdv)) →
    PSs (cxOf (L2.CX P wd) P wd K mg base N qual sc f cdv A outer s H E) body (rdS ⟨K, mg, T⟩ (Wdef E) mb)
theorem body_P {mb : SM} {vs : List V} {H : Hp} {Q : VK} {E : XK} {g : G} (h : spP g (runP N.length ps.length mb) vs H Q E) : rdS g (Wdef E) mb { nx := fun _ H' => Q .non H', rt := Q } (L2.start N vs) H := by
  obtain ⟨F, ds, hS, hr, h⟩ := h
  refine ⟨⟨[], F⟩, slots N.length (ds.map .v), [], hS, slots_rep (w := ⟨[], F⟩) hr.vs N, ?_⟩
  unfold runP at h
  split at h
  · split at h
    · rename_i y S heq
      rw [heq]
      intro w' H' v e hS' rv
      split at h
      · rename_i d hd
        obtain ⟨a, b⟩ := leave_P hS' e
        exact h _ H' v a b (rsl_rep hS' 4 rv hd)
      · exact h.elim
    · rename_i e1 S heq
      rw [heq]
      intro w' H' s' e hS' _
      obtain ⟨a, b⟩ := leave_P hS' e
      exact h _ H' .non a b .non
    · rename_i c fs e1 S heq
      rw [heq]
      intro s' w' H' C dx vs e hS' _ m hd rf
      obtain ⟨a, b⟩ := leave_P hS' e
      exact h _ H' C dx vs a b m hd (rf.le froz_hle)
    · exact h.elim
  · exact h.elim
theorem fnP (Fn : Fun K x qual st f fd) (Sc : FnScope N ps (defScope st)) {mb : SM} (hbody : BodyIs P wd K mg base T N qual (defScope st) (defBody st) f k mb) : FnOk P wd K mg base (L2.CX P wd) (k + 1) f fd ps (spP ⟨K, mg, T⟩ (runP N.length ps.length mb)) := by
  refine Fn.okX Sc (fun vs H Q E h => ?_) fun cdv A outer s H vs Q E hr h => ⟨_, hbody cdv A outer s H E hr, body_P h⟩
  obtain ⟨F, ds, hS, hr, h⟩ := h
  unfold runP at h
  split at h
  · rename_i hl; rw [hr.len]; exact hl
  · exact h.elim
theorem body_K {mb : SM} {vs : List V} {H : Hp} {Q : VK} {E : XK} {g : G} (h : spK g (runK N.length ps.length mb) vs H Q E) : rdS g (Wdef E) mb { nx := fun _ H' => Q .non H', rt := Q } (L2.start N vs) H := by
  obtain ⟨w, S, xs, hS, hr, h⟩ := h
  refine ⟨w, slots N.length xs, S, hS, slots_rep hr N, ?_⟩
  unfold runK at h
  split at h
  · split at h
    · rename_i y S heq
      rw [heq]
      exact h
    · rename_i e1 S heq
      rw [heq]
      intro w' H' s' e hS' _
      exact h w' H' .non e hS' (.v .non)
    · rename_i c fs e1 S heq
      rw [heq]
      intro s' w' H' C dx vs e hS' _ m hd rf
      exact h w' H' C dx vs e hS' m hd rf
    · exact h.elim
  · exact h.elim
theorem fnK (Fn : Fun K x qual st f fd) (Sc : FnScope N ps (defScope st)) {mb : SM} (hbody : BodyIs P wd K mg base T N qual (defScope st) (defBody st) f k mb) : FnOk P wd K mg base (L2.CX P wd) (k + 1) f fd ps (spK ⟨K, mg, T⟩ (runK N.length ps.length mb)) := by
  refine Fn.okX Sc (fun vs H Q E h => ?_) fun cdv A outer s H vs Q E hr h => ⟨_, hbody cdv A outer s H E hr, body_K h⟩
  obtain ⟨w, S, xs, hS, hr, h⟩ := h
  unfold runK at h
  split at h
  · rename_i hl; rw [hr.len]; exact hl
  · exact h.elim
end

/-! ### calls -/
def kP (m : List D → R) (xs : List Vl) (S : Store) : Out Vl := match unv xs with
  | none => .stuck
  | some ds => match m ds with
    | .ok d => .ok (.v d) S
    | .exc c fs => .exc c fs S
    | .stuck => .stuck
def eCallP (m : List D → R) (ma : AM) : EM := fun e S => (ma e S).bind (kP m)
def eCallK (m : List Vl → Store → Out Vl) (ma : AM) : EM := fun e S => (ma e S).bind m
section
variable {X : Cx} {T : List (Addr × Str)} {W : WX} {g : G} {s : L2.St} {w : Wd} {H : Hp} {S : Store}
theorem kP_sp {m : List D → R} {vs : List V} {xs : List Vl} {Q : VK} (hS : RepSt g w H S) (hx : RepVs g w vs xs) (h : SatG g W s w H (RepV g) (kP m xs S) Q) : spP g m vs H Q (WE W s) := by
  unfold kP at h
  split at h
  · exact h.elim
  · rename_i ds hd
    refine ⟨w.F, ds, hS.noCel, hx.un hd, ?_⟩
    split at h
    · rename_i d hm
      rw [hm]
      intro F' H' v e h' r
      obtain ⟨a, b⟩ := back_P hS e h'
      exact h _ H' v a b (.v r)
    · rename_i c fs hm
      rw [hm]
      intro F' H' C dx us e h' m' hd' r
      obtain ⟨a, b⟩ := back_P hS e h'
      exact h _ H' C dx us a b m' hd' r
    · exact h.elim
theorem kK_sp {m : List Vl → Store → Out Vl} {vs : List V} {xs : List Vl} {Q : VK} (hS : RepSt g w H S) (hx : RepVs g w vs xs) (h : SatG g W s w H (RepV g) (m xs S) Q) : spK g m vs H Q (WE W s) := by
  refine ⟨w, S, xs, hS, hx, ?_⟩
  generalize m xs S = o at h
  cases o with
  | ok x S => exact h
  | exc c fs S => exact h
  | stuck => exact h
variable {k : Nat} {f : Addr} {fd : FuncData} {ps : List Str} {x : Str} {p pos : Pos} {e : Expr} {es : List Expr} {ma : AM}
theorem callP_rd {m : List D → R} : ∀ s H Q, rd g W (eCallP m ma) s H Q → tCallS (spP g m) (WE W) (rdA g W ma) s H Q := fun s H Q h =>
  rd_bind (f := fun xs _ S1 => kP m xs S1) h fun w1 H1 S1 e v x hS hE hx h1 => kP_sp hS hx h1
theorem callK_rd {m : List Vl → Store → Out Vl} : ∀ s H Q, rd g W (eCallK m ma) s H Q → tCallS (spK g m) (WE W) (rdA g W ma) s H Q := fun s H Q h =>
  rd_bind (f := fun xs _ S1 => m xs S1) h fun w1 H1 S1 e v x hS hE hx h1 => kK_sp hS hx h1
theorem e_callP {m : List D → R} (F : FnOk X.prog X.w X.K X.mg X.base (L2.CX X.prog X.w) k f fd ps (spP (gX X T) m)) (hr : Room k X.A) (tk : Takes X W) (hm : X.mg x = some (.ref f)) (hk : PySem.W.keepIn X.K (.ref f) = true) (hb : Binds X.K fd ps [])
    (ha : PA X (e :: es) (rdA (gX X T) W ma)) (hg : Gl X x := by rfl) (hdb : (x == ("__debug__" : Str)) = false := by decide) (he : starEach (e :: es) X.env = (false, eval e X.env) :: starEach es X.env := by rfl) (hpl : (backTo pos (starEach es X.env)).any (·.1) = false := by rfl) :
    PE X (.Call (.Name x p) (e :: es) [] pos) (rd (gX X T) W (eCallP m ma)) := PE_imp (pe_callS F hr hg hm hk hb (fun σ => passAt tk σ) ha hdb he hpl) callP_rd
theorem e_callK {m : List Vl → Store → Out Vl} (F : FnOk X.prog X.w X.K X.mg X.base (L2.CX X.prog X.w) k f fd ps (spK (gX X T) m)) (hr : Room k X.A) (tk : Takes X W) (hm : X.mg x = some (.ref f)) (hk : PySem.W.keepIn X.K (.ref f) = true) (hb : Binds X.K fd ps [])
    (ha : PA X (e :: es) (rdA (gX X T) W ma)) (hg : Gl X x := by rfl) (hdb : (x == ("__debug__" : Str)) = false := by decide) (he : starEach (e :: es) X.env = (false, eval e X.env) :: starEach es X.env := by rfl) (hpl : (backTo pos (starEach es X.env)).any (·.1) = false := by rfl) :
    PE X (.Call (.Name x p) (e :: es) [] pos) (rd (gX X T) W (eCallK m ma)) := PE_imp (pe_callS F hr hg hm hk hb (fun σ => passAt tk σ) ha hdb he hpl) callK_rd
/-- a built-in's call by values -/
def eB (f : List Vl → Store → Out Vl) (ma : AM) : EM := fun e S => (ma e S).bind f
def CalD (g : G) (W : WX) (f : List Vl → Store → Out Vl) (r : List V → Hp → VK → Prop) : Prop := ∀ s w H S vs xs Q, RepSt g w H S → RepVs g w vs xs → SatG g W s w H (RepV g) (f xs S) Q → r vs H Q
theorem e_b {fb : List Vl → Store → Out Vl} {r : List V → Hp → VK → Prop} {id : String} (hc : CallR X (.builtin id) r) (hf : CalD (gX X T) W fb r) (hm : X.mg x = none) (hv : bootBuiltins x = some (.builtin id)) (ha : PA X (e :: es) (rdA (gX X T) W ma)) (hg : Gl X x := by rfl)
    (hn : x ≠ "__name__" := by decide) (hdb : (x == ("__debug__" : Str)) = false := by decide) (he : starEach (e :: es) X.env = (false, eval e X.env) :: starEach es X.env := by rfl) (hpl : (backTo pos (starEach es X.env)).any (·.1) = false := by rfl) :
    PE X (.Call (.Name x p) (e :: es) [] pos) (rd (gX X T) W (eB fb ma)) := PE_imp (pe_callB hc hg hm hv ha hn hdb he hpl) fun s H Q h =>
  rd_bind (f := fun xs _ S1 => fb xs S1) h fun w1 H1 S1 e v x hS hE hx h1 => hf s w1 H1 S1 v x Q hS hx h1
theorem e_bT {fb : List Vl → Store → Out Vl} {r : List V → Hp → VK → Prop} {id : String} (hc : CallR X (.type id) r) (hf : CalD (gX X T) W fb r) (hm : X.mg x = none) (hv : bootBuiltins x = some (.type id)) (ha : PA X (e :: es) (rdA (gX X T) W ma)) (hg : Gl X x := by rfl)
    (hn : x ≠ "__name__" := by decide) (hdb : (x == ("__debug__" : Str)) = false := by decide) (he : starEach (e :: es) X.env = (false, eval e X.env) :: starEach es X.env := by rfl) (hpl : (backTo pos (starEach es X.env)).any (·.1) = false := by rfl) :
    PE X (.Call (.Name x p) (e :: es) [] pos) (rd (gX X T) W (eB fb ma)) := PE_imp (pe_callTy hc hg hm hv ha hn hdb he hpl) fun s H Q h =>
  rd_bind (f := fun xs _ S1 => fb xs S1) h fun w1 H1 S1 e v x hS hE hx h1 => hf s w1 H1 S1 v x Q hS hx h1
end
end Ax
/-! Ax5: raise; list comprehensions; what is walked -/
namespace Ax
open PySem PySem.Spec PyProof.Rows L2

/-! ### errors of the program's own -/
/-- self.f = y, the one line of an __init__ -/
def spI1 (K : PySem.W.Frag) (f : Str) : Sp := fun vs H Q _ => ∃ (a C : Addr) (y : V), vs = [.ref a, y] ∧ OexC K C ∧ PySem.W.findIn K (.ref C) f = some none ∧ H a = some (exo a C none) ∧
  ∀ dx, H dx = none → dx ≠ a → Q .non (upd (upd H dx (exd dx [(f, y)])) a (exo a C (some dx)))
structure ErrC (K : PySem.W.Frag) (mg : Str → Option Value) (f : Str) (c : Str) (C fI : Addr) : Prop where
  m : mg c = some (.ref C)
  oex : OexC K C
  iC : PySem.W.findIn K (.ref C) "__init__" = some (some (.ref fI))
  tI : PySem.W.typeIn K (.ref fI) = some (.type "function")
  no : PySem.W.findIn K (.ref C) f = some none
/-- a thing that is tracked and nobody knows of -/
theorem new_hid {g : G} {w : Wd} {H : Hp} {S : Store} (h : RepSt g w H S) {p : Addr} (hp : H p = none) (o : HO) : RepSt g w (upd H p o) S ∧ Ext w H w (upd H p o) := by
  have pn : ∀ b u, H b = some u → b ≠ p := fun b u e z => by rw [z, hp] at e; cases e
  refine ⟨⟨h.len, h.nd, fun a u e => ?_, h.out, fun n a c e1 e2 => ?_, tabs_upd (o' := .tbl #[]) h.tabs (.inl hp), fun a ha => let ⟨u, e, n⟩ := h.tr a ha; ⟨u, by rw [upd_ne (pn a u e)]; exact e, n⟩, h.nt⟩,
    ⟨⟨[], by simp⟩, HLe.refl _, fun a u e _ _ => by rw [upd_ne (pn a u e)]; exact e, fun a e => .inl e, fun a u e => .inl ⟨u, e⟩, fun a u e => ⟨u, by rw [upd_ne (pn a u e)]; exact e, id⟩⟩⟩
  · have q := h.le a u e
    rw [upd_ne (pn _ _ q)]; exact q
  · have q := h.cel n a c e1 e2
    cases c with
    | lst xs => obtain ⟨vs, q1, q2⟩ := q; exact ⟨vs, by rw [upd_ne (pn _ _ q1)]; exact q1, q2⟩
    | dct ps => obtain ⟨vs, q1, q2⟩ := q; exact ⟨vs, by rw [upd_ne (pn _ _ q1)]; exact q1, q2⟩
    | dcn ps => obtain ⟨vs, q1, q2, q3⟩ := q; exact ⟨vs, by rw [upd_ne (pn _ _ q1)]; exact q1, q2, q3⟩
    | ins c fs => obtain ⟨C, dx, vs, m, q1, q2⟩ := q; exact ⟨C, dx, vs, m, by rw [upd_ne (pn _ _ q1)]; exact q1, q2⟩
    | dead => trivial
def sRaise1 (c f : Str) (ma : AM) : SM := fun e S => (ma e S).toS e fun xs S1 => match xs with
  | [.v d] => .exc c [(f, d)] e S1
  | _ => .stuck
section
variable {X : Cx} {T : List (Addr × Str)} {W : WX} {c f : Str} {C fI : Addr} {k : Nat} {fd : FuncData} {ps : List Str} {p pos pos2 : Pos} {e : Expr} {ma : AM}
theorem s_raise1 (Er : ErrC X.K X.mg f c C fI) (FI : FnOk X.prog X.w X.K X.mg X.base (L2.CX X.prog X.w) k fI fd ps (spI1 X.K f)) (hr : Room (k + 1) X.A) (hb : Binds X.K fd ps []) (tk : Takes X W) (hc : X.calm = true) (ha : PA X [e] (rdA (gX X T) W ma)) (hg : Gl X c := by rfl)
    (hdb : (c == ("__debug__" : Str)) = false := by decide) (he : starEach (e :: []) X.env = (false, eval e X.env) :: starEach [] X.env := by rfl) (hpl : (backTo pos (starEach [] X.env)).any (·.1) = false := by rfl) :
    PS X (.Raise (some (.Call (.Name c p) [e] [] pos)) none pos2) (rdS (gX X T) W (sRaise1 c f ma)) := by
  refine PS_imp (ps_raise hc tk (pmk_oex Er.oex Er.iC Er.tI FI hr hb .nil passL hg Er.m ha hdb he hpl)) fun E s H h => ?_
  refine rdS_ofE (rel := RepVs (gX X T)) (f := fun xs e S1 => match xs with | [.v d] => .exc c [(f, d)] e S1 | _ => .stuck) h fun w1 H1 S1 e1 vs xs hS hE hx h1 => ?_
  split at h1
  · rename_i d
    cases hx with
    | cons r1 hx =>
      cases hx
      rename_i y
      cases r1 with
      | v r1 =>
        refine ⟨by simp, fun a ha0 => ?_⟩
        refine ⟨a, C, y, rfl, Er.oex, Er.no, upd_same, fun dx hd hne => ⟨rfl, dx, [(f, y)], upd_same, by rw [upd_ne hne, upd_same], by rwa [upd_ne hne] at hd, ?_⟩⟩
        have hd1 : H1 dx = none := by rwa [upd_ne hne] at hd
        have e2 : upd (del (upd (upd (upd H1 a (exo a C none)) dx (exd dx [(f, y)])) a (exo a C (some dx))) a) dx (.xd [(f, y)]) = upd H1 dx (.xd [(f, y)]) := by
          funext b
          by_cases hb : b = dx
          · subst hb; rw [upd_same, upd_same]
          · rw [upd_ne hb, upd_ne hb]
            by_cases hba : b = a
            · subst hba; rw [del_same, ha0]
            · rw [del_ne hba, upd_ne hba, upd_ne hb, upd_ne hba]
        rw [e2]
        obtain ⟨a1, a2⟩ := new_hid hS hd1 (.xd [(f, y)])
        exact h1 s w1 _ C dx _ a2 a1 hE Er.m upd_same (.cons r1 .nil)
  · exact h1.elim
end
/-- the def __init__(self, value=None): self.value = value -/
theorem init1_ok {P : Program} {wd : World} {K : PySem.W.Frag} {mg : Str → Option Value} {base : Heap} {x qual v : Str} {params : Arguments} {scope : Scope} {dvs : List V} {f : Addr} {fd : FuncData} {p1 p2 p3 p4 : Pos} (F : FunD K x qual params [.Assign [.Attribute (.Name "self" p1) v p2] (.Name v p3) p4] scope dvs [] f fd)
    (S : FnScope ["self", v] ["self", v] scope) (h1 : scope.names.lookup ("self" : Str) = some NameKind.local) (h2 : scope.names.lookup v = some NameKind.local) (d1 : (v == ("__debug__" : Str)) = false) (d2 : (v == ("__classdict__" : Str)) = false) : FnOk P wd K mg base (L2.CX P wd) 1 f fd ["self", v] (spI1 K v) := by
  refine F.ok S (fun vs H Q E h => ?_) fun cdv A outer s H vs Q E hr h => ⟨_, pss_one (ps_ost (pv 0 rfl (.inl h1)) (pv 1 rfl (.inl h2) d1 d2)), ?_⟩
  · obtain ⟨a, C, y, rfl, _⟩ := h; rfl
  · obtain ⟨a, C, y, rfl, ho, hn, ha, q⟩ := h
    exact ⟨y, rfl, .ref a, rfl, a, C, rfl, ho, hn, .inl ⟨ha, fun dx n ne => q dx n ne⟩⟩

/-! ### comprehensions -/
/-- the heap without what stands at a -/
def hid (H : Hp) (a : Addr) : Hp := fun b => if b = a then none else H b
theorem hid_ne {H : Hp} {a b : Addr} (h : b ≠ a) : hid H a b = H b := if_neg h
theorem hid_same {H : Hp} {a : Addr} : hid H a a = none := if_pos rfl
theorem upd_hid {H : Hp} {a : Addr} {o : HO} (h : H a = some o) : upd (hid H a) a o = H := by
  funext b
  by_cases hb : b = a
  · subst hb; rw [upd_same, h]
  · rw [upd_ne hb, hid_ne hb]
theorem hid_upd {H : Hp} {a : Addr} {o : HO} : hid (upd H a o) a = hid H a := by
  funext b
  by_cases hb : b = a
  · subst hb; rw [hid_same, hid_same]
  · rw [hid_ne hb, hid_ne hb, upd_ne hb]
section
variable {g : G} {w w1 w2 : Wd} {H H1 H2 : Hp} {S S2 : Store} {p : Addr} {o : HO}
/-- while something was hidden at p -/
theorem unhide (hp : H1 p = none) (ho : noTbl o ∧ ∀ q c, o ≠ LamX.CodeO c q) (hS1 : RepSt g w1 H1 S) (e : Ext w1 (upd H1 p o) w2 H2) (h2 : RepSt g w2 H2 S2) : RepSt g w2 (hid H2 p) S2 ∧ Ext w1 H1 w2 (hid H2 p) ∧ H2 p = some o := by
  have np1 : p ∉ w1.p := fun z => by
    obtain ⟨u, q, _⟩ := hS1.tr p z
    rw [hp] at q; cases q
  have at2 : H2 p = some o := e.frame p o upd_same np1 ho.1
  have up : ∀ {a : Addr} {u : HO}, H1 a = some u → a ≠ p := fun {a u} q z => by rw [z, hp] at q; cases q
  have np2 : p ∉ w2.p := fun z => by
    rcases e.fresh p z with q | q
    · exact np1 q
    · rw [upd_same] at q; cases q
  have nF : w2.F p = none := by
    cases q : w2.F p with
    | none => rfl
    | some u =>
      rcases e.src p u q with ⟨o', z⟩ | z | z
      · have := hS1.le _ _ z
        rw [hp] at this; cases this
      · exact absurd z np1
      · rw [upd_same] at z; cases z
  refine ⟨⟨h2.len, h2.nd, fun a u q => ?_, h2.out, fun n a c e1 e2 => ?_, fun q hq => ?_, fun a ha => ?_, h2.nt⟩, ⟨e.pre, e.fle, fun a u q n t => ?_, fun a ha => ?_, fun a u q => ?_, fun a u q => ?_⟩, at2⟩
  · have ne : a ≠ p := fun z => by rw [z, nF] at q; cases q
    rw [hid_ne ne]; exact h2.le a u q
  · have ne : a ≠ p := fun z => np2 (by rw [← z]; exact List.mem_of_getElem? e1)
    have q := h2.cel n a c e1 e2
    cases c with
    | lst xs => obtain ⟨vs, q1, q2⟩ := q; exact ⟨vs, by rw [hid_ne ne]; exact q1, q2⟩
    | dct ps => obtain ⟨vs, q1, q2⟩ := q; exact ⟨vs, by rw [hid_ne ne]; exact q1, q2⟩
    | dcn ps => obtain ⟨vs, q1, q2, q3⟩ := q; exact ⟨vs, by rw [hid_ne ne]; exact q1, q2, q3⟩
    | ins c fs => obtain ⟨C, dx, vs, m, q1, q2⟩ := q; exact ⟨C, dx, vs, m, by rw [hid_ne ne]; exact q1, q2⟩
    | dead => trivial
  · obtain ⟨ps, h1, h3, h4⟩ := h2.tabs q hq
    have ne : ∀ b u, H2 b = some u → (∃ ps, u = .tbl ps) ∨ (∃ c q, u = LamX.CodeO c q) → b ≠ p := fun b u e' k z => by
      subst z
      rw [at2] at e'; cases e'
      rcases k with ⟨ps, k⟩ | ⟨c, q, k⟩
      · have n := ho.1
        rw [k] at n; exact n
      · exact ho.2 q c k
    refine ⟨ps, by rw [hid_ne (ne _ _ h1 (.inl ⟨_, rfl⟩))]; exact h1, h3, fun pos cv hc => ?_⟩
    obtain ⟨c, e1, e2⟩ := h4 pos cv hc
    exact ⟨c, e1, by rw [hid_ne (ne _ _ e2 (.inr ⟨_, _, rfl⟩))]; exact e2⟩
  · obtain ⟨u, q, n⟩ := h2.tr a ha
    exact ⟨u, by rw [hid_ne (fun z => np2 (by rw [← z]; exact ha))]; exact q, n⟩
  · rw [hid_ne (up q)]
    exact e.frame a u (by rw [upd_ne (up q)]; exact q) n t
  · rcases e.fresh a ha with z | z
    · exact .inl z
    · by_cases q : a = p
      · subst q; rw [upd_same] at z; cases z
      · rw [upd_ne q] at z; exact .inr z
  · rcases e.src a u q with z | z | z
    · exact .inl z
    · exact .inr (.inl z)
    · by_cases q : a = p
      · subst q; rw [upd_same] at z; cases z
      · rw [upd_ne q] at z; exact .inr (.inr z)
  · obtain ⟨u', q', n'⟩ := e.trk a u (by rw [upd_ne (up q)]; exact q)
    exact ⟨u', by rw [hid_ne (up q)]; exact q', n'⟩
end
abbrev W0 : WX := fun _ _ _ _ => False
def lcGo (t : TgM) (ts : TM) (el : EM) : List Vl → Sl → Store → List Vl → Out (List Vl)
  | [], _, S, acc => .ok acc S
  | x :: xs, e, S, acc => match t x e with
    | none => .stuck
    | some e1 => match ts e1 S with
      | .ok true S1 => match el e1 S1 with
        | .ok y S2 => if acc.length < 16777216 then lcGo t ts el xs e S2 (acc ++ [y]) else .stuck
        | _ => .stuck
      | .ok false S1 => lcGo t ts el xs e S1 acc
      | _ => .stuck
def eLcX (k : List Vl → Store → Out Vl) (it : IM) (t : TgM) (ts : TM) (el : EM) (own : List Nat) : EM := fun e S => (it e S).bind fun xs S1 => (lcGo t ts el xs (fgt own e) S1 []).bind k
/-- frozen, or a cell -/
abbrev eLc := eLcX kLst
abbrev eLcC := eLcX kLstC
def tmYes : TM := fun _ S => .ok true S
section
variable {X : Cx} {T : List (Addr × Str)} {W : WX} {g : G}
theorem ts_nil : PTs X [] (rdT (gX X T) W tmYes) := ⟨fun pins s σ H Q I ⟨w, e, S, hS, hE, h⟩ => pts_nil.run pins s σ H Q I (h w H true (Ext.refl _ _) hS rfl)⟩
theorem ts_one {c : Expr} {t : TM} (h : PT X c (rdT (gX X T) W t)) : PTs X [c] (rdT (gX X T) W t) := pts_one h
theorem line_lt {n : Nat} (h : n < 16777216) : n < sizeLine := by rw [sizeLine_eq]; exact h
theorem kLst_new {s : L2.St} {w : Wd} {H : Hp} {S : Store} {Q : VK} {xs : List Vl} {vs : List V} (hS : RepSt g w H S) (r : RepVs g w vs xs) (h : SatG g W s w H (RepV g) (kLst xs S) Q) : ∀ p, H p = none → Q (.ref p) (upd H p (.lst vs)) := by
  unfold kLst at h
  split at h
  · rename_i ds hd
    split at h
    · exact sat_newL hS (r.un hd) h
    · exact h.elim
  · exact h.elim
theorem kLstC_new {s : L2.St} {w : Wd} {H : Hp} {S : Store} {Q : VK} {xs : List Vl} {vs : List V} (hS : RepSt g w H S) (r : RepVs g w vs xs) (h : SatG g W s w H (RepV g) (kLstC xs S) Q) : ∀ p, H p = none → Q (.ref p) (upd H p (.lst vs)) := by
  unfold kLstC at h
  split at h
  · exact sat_newC hS r h
  · exact h.elim
/-- how a fresh list is taken -/
def TakesList (g : G) (W : WX) (k : List Vl → Store → Out Vl) : Prop := ∀ {s : L2.St} {w : Wd} {H : Hp} {S : Store} {Q : VK} {xs : List Vl} {vs : List V}, RepSt g w H S → RepVs g w vs xs → SatG g W s w H (RepV g) (k xs S) Q → ∀ p, H p = none → Q (.ref p) (upd H p (.lst vs))
theorem lc_rd {k : List Vl → Store → Out Vl} (hk : TakesList g W k) {it : IM} {t : TgM} {ts : TM} {el : EM} {own is : List Nat} (hio : ∀ i ∈ is, i ∈ own) : ∀ s H Q, rd g W (eLcX k it t ts el own) s H Q → tLc (rdI g W it) (rdTg g t is) (rdT g W0 ts) (rd g W0 el) own s H Q := fun s H Q h => by
  refine rd_bind (rel := ItOk g) (f := fun xs e S1 => (lcGo t ts el xs (fgt own e) S1 []).bind k) h fun w0 H0 S0 e0 J xs hS0 hE0 hJ h0 => ?_
  intro D hD
  refine ⟨fun i m H => ∃ w1 S1 acc vs, m = xs.length - i ∧ i ≤ xs.length ∧ H D = some (.lst vs) ∧ RepVs g w1 vs acc ∧ RepSt g w1 (hid H D) S1 ∧ Ext w0 H0 w1 (hid H D) ∧ SatG g W s w1 (hid H D) (RepV g) ((lcGo t ts el (xs.drop i) (fgt own e0) S1 acc).bind k) Q,
    ⟨xs.length, w0, S0, [], [], by simp, Nat.zero_le _, upd_same, .nil, ?_⟩, ?_⟩
  · have e : hid (upd H0 D (.lst [])) D = H0 := by
      rw [hid_upd]
      funext b
      by_cases hb : b = D
      · subst hb; rw [hid_same, hD]
      · rw [hid_ne hb]
    rw [e]
    exact ⟨hS0, Ext.refl _ _, h0⟩
  rintro i m H ⟨w1, S1, acc, vs, rfl, hi, hHD, rvs, hS1, ex1, h1⟩
  have hDn : hid H D D = none := hid_same
  have hH : upd (hid H D) D (.lst vs) = H := upd_hid hHD
  have lstOk : noTbl (.lst vs) ∧ ∀ q c, HO.lst vs ≠ LamX.CodeO c q := ⟨trivial, fun q c z => by unfold LamX.CodeO at z; cases z⟩
  by_cases hlt : i < xs.length
  · rw [List.drop_eq_getElem_cons hlt] at h1
    obtain ⟨hS1', ex1'⟩ := new_hid hS1 hDn (.lst vs)
    rw [hH] at hS1' ex1'
    obtain ⟨go, yl⟩ := (hJ w1 H S1 ex1.wle hS1' i).1 xs[i] (List.getElem?_eq_getElem hlt)
    refine .inr ⟨go, fun H' => ∃ w2 S2 acc vs, H' D = some (.lst vs) ∧ RepVs g w2 vs acc ∧ RepSt g w2 (hid H' D) S2 ∧ Ext w0 H0 w2 (hid H' D) ∧ SatG g W s w2 (hid H' D) (RepV g) ((lcGo t ts el (xs.drop (i + 1)) (fgt own e0) S2 acc).bind k) Q,
      fun H' ⟨w2, S2, acc, vs, q⟩ => ⟨xs.length - (i + 1), by omega, w2, S2, acc, vs, rfl, hlt, q⟩, fun v H2 y => ?_⟩
    obtain ⟨w2, ex2, hS2, hx⟩ := yl v H2 y
    refine ⟨w2, fgt own e0, S1, xs[i], hS2, (hE0.wipe own).le (WLe.mk ?_ ?_), hx, ?_⟩
    · obtain ⟨m1, z1⟩ := ex1.pre
      obtain ⟨m2, z2⟩ := ex2.pre
      exact ⟨m1 ++ m2, by rw [z2, z1, List.append_assoc]⟩
    · exact ex1.fle.trans ex2.fle
    · unfold lcGo at h1
      cases hq : t xs[i] (fgt own e0) with
      | none => rw [hq] at h1; exact h1.elim
      | some e1 =>
        rw [hq] at h1
        simp only at h1 ⊢
        intro w3 H3 s3 ex3 hS3 hE3 sb3
        refine ⟨by rw [(sb3.mono hio).wipe, wipe_wipe], w3, e1, S1, hS3, hE3, ?_⟩
        have ex13 : Ext w1 (upd (hid H D) D (.lst vs)) w3 H3 := by rw [hH]; exact ex2.trans ex3
        cases hts : ts e1 S1 with
        | stuck => rw [hts] at h1; exact h1.elim
        | exc c fs S' => rw [hts] at h1; exact h1.elim
        | ok b S2 =>
          rw [hts] at h1
          intro w4 H4 b' ex4 hS4 hb
          subst hb
          have ex14 := ex13.trans ex4
          cases b' with
          | false =>
            rw [if_neg Bool.false_ne_true]
            obtain ⟨a1, a2, a3⟩ := unhide hDn lstOk hS1 ex14 hS4
            exact ⟨w4, S2, acc, vs, a3, rvs.le a2.wle, a1, ex1.trans a2, SatG.ext h1 a2⟩
          | true =>
            rw [if_pos rfl]
            simp only at h1
            refine ⟨w4, e1, S2, hS4, hE3.le ex4.wle, ?_⟩
            cases hel : el e1 S2 with
            | stuck => rw [hel] at h1; exact h1.elim
            | exc c fs S' => rw [hel] at h1; exact h1.elim
            | ok y S3 =>
              rw [hel] at h1
              intro w5 H5 u ex5 hS5 hu
              have ex15 := ex14.trans ex5
              obtain ⟨a1, a2, a3⟩ := unhide hDn lstOk hS1 ex15 hS5
              simp only at h1
              split at h1
              · rename_i hl
                refine ⟨vs, a3, by rw [rvs.len]; exact line_lt hl, w5, S3, acc ++ [y], vs ++ [u], upd_same, (rvs.le a2.wle).append (.cons hu .nil), ?_⟩
                rw [hid_upd]
                exact ⟨a1, ex1.trans a2, SatG.ext h1 a2⟩
              · exact h1.elim
  · have e : i = xs.length := by omega
    subst e
    rw [List.drop_length] at h1
    obtain ⟨hS1', ex1'⟩ := new_hid hS1 hDn (.lst vs)
    rw [hH] at hS1' ex1'
    refine .inl ⟨(hJ w1 H S1 ex1.wle hS1' _).2 rfl, ?_⟩
    have q := hk hS1 rvs (show SatG g W s w1 (hid H D) (RepV g) (k acc S1) Q from h1) D hDn
    rw [hH] at q
    exact q
variable {elt tg iter : Expr} {ifs : List Expr} {scope : Scope} {own : List (Str × Nat)} {pos : Pos} {it : IM} {t : TgM} {is : List Nat} {ts : TM} {el : EM} {k : List Vl → Store → Out Vl}
theorem e_lcX (hk : TakesList (gX X T) W k) (hc : X.calm = true) (hN : X.N.Nodup) (hi : PI X tg iter (rdI (gX X T) W it)) (ok : BlkOk X.N X.env.scope scope own)
    (hg : ∀ (s : Shared) (H : Hp) (C : Addr) (cl : List (Str × Addr)) (fp : List Addr), PG (X.blk s H scope (compEnvC scope cl C X.env) fp) tg (rdTg (gX X T) t is)) (ht : ∀ (s : Shared) (H : Hp) (C : Addr) (cl : List (Str × Addr)) (fp : List Addr), PTs (X.blk s H scope (compEnvC scope cl C X.env) fp) ifs (rdT (gX X T) W0 ts))
    (he : ∀ (s : Shared) (H : Hp) (C : Addr) (cl : List (Str × Addr)) (fp : List Addr), PE (X.blk s H scope (compEnvC scope cl C X.env) fp) elt (rd (gX X T) W0 el)) (hio : ∀ i ∈ is, i ∈ own.map (·.2) := by decide) (hs : ∀ x, foldedSetIterable iter X.env x = pure x := by intro _; rfl) :
    PE X (.ListComp elt [⟨tg, iter, ifs, 0⟩] scope pos) (rd (gX X T) W (eLcX k it t ts el (own.map (·.2)))) := PE_imp (pe_lc hc hN hi ok hg ht he hs) (lc_rd hk hio)
theorem s_setLcX {i : Nat} {y : Str} {py spos : Pos} (hk : TakesList (gX X T) W k) (hc : X.calm = true) (hN : X.N.Nodup) (hi : PI X tg iter (rdI (gX X T) W it)) (ok : BlkOk X.N X.env.scope scope own)
    (hg : ∀ (s : Shared) (H : Hp) (C : Addr) (cl : List (Str × Addr)) (fp : List Addr), PG (X.blk s H scope (compEnvC scope cl C X.env) fp) tg (rdTg (gX X T) t is)) (ht : ∀ (s : Shared) (H : Hp) (C : Addr) (cl : List (Str × Addr)) (fp : List Addr), PTs (X.blk s H scope (compEnvC scope cl C X.env) fp) ifs (rdT (gX X T) W0 ts))
    (he : ∀ (s : Shared) (H : Hp) (C : Addr) (cl : List (Str × Addr)) (fp : List Addr), PE (X.blk s H scope (compEnvC scope cl C X.env) fp) elt (rd (gX X T) W0 el))
    (hsw : swapsWith (.ListComp elt [⟨tg, iter, ifs, 0⟩] scope pos) (some (.Name y py)) spos.line X.env = pure true) (hy : X.N[i]? = some y := by rfl) (hyl : X.env.scope.names.lookup y = some .local := by rfl) (hio : ∀ i ∈ is, i ∈ own.map (·.2) := by decide) (hs : ∀ x, foldedSetIterable iter X.env x = pure x := by intro _; rfl) :
    PS X (.Assign [.Name y py] (.ListComp elt [⟨tg, iter, ifs, 0⟩] scope pos) spos) (rdS (gX X T) W (sAsg (gNm i) (eLcX k it t ts el (own.map (·.2))))) := by
  refine PS_imp (ps_setLc hc hN hy hyl hsw hi ok hg ht he hs) fun E s H h => ?_
  refine lc_rd (g := gX X T) (W := W) hk hio s H _ ?_
  refine rdS_ofE (f := fun x e S1 => match gNm i x e with | some e1 => .go (.nx e1) S1 | none => .stuck) h fun w1 H1 S1 e v x hS hE hx h1 => ?_
  exact h1 w1 H1 _ (Ext.refl _ _) hS (hE.set hx)
end
end Ax
/-! Ax6: what is walked: rows, ranges, enumerate, zip -/
namespace Ax
open PySem PySem.Spec PyProof.Rows L2

/-- a list, or a tuple (t) -/
def Sq (t : Bool) (K : PySem.W.Frag) (H : Hp) (a : Addr) (vs : List V) : Prop := match t with
  | true => SqT K H a vs
  | false => SqL K H a vs
def ItAt (t : Bool) (h : Heap) (it a : Addr) (i : Nat) : Prop := match t with
  | true => h.IsTupleIter it a i
  | false => h.IsListIter it a i
def IsSq (t : Bool) (h : Heap) (a : Addr) (its : Array Value) : Prop := match t with
  | true => h.IsTuple a its
  | false => h.IsList a its
theorem drawsSq {prog : Program} {w : World} {A : Around} (t : Bool) (hh : A.handled = none) (it l : Addr) (hne : l ≠ it) (its : Array Value) : Draws prog w A it [it, l] its.size (fun i v => its[i]? = some v) (fun i h => ItAt t h it l i ∧ IsSq t h l its) := by
  cases t
  · exact Draws.list hh it l hne its
  · exact Draws.tuple hh it l hne its
def itObj (t : Bool) (a : Addr) : Obj := match t with
  | true => { cls := .type "tuple_iterator", data := .fields #[.ref a, .int 0 0] }
  | false => { cls := .type "list_iterator", data := .fields #[.ref a, .int 0 0] }
theorem begins_sq (t : Bool) (a : Addr) (its : Array Value) : Begins (.ref a) (itObj t a) fun h => IsSq t h a its := by
  cases t
  · exact begins_list a its
  · exact begins_tuple a its
theorem itAt0 {t : Bool} {h : Heap} {it a : Addr} (e : h.get? it = some (itObj t a)) : ItAt t h it a 0 := by
  cases t
  · exact ⟨_, e, rfl, rfl⟩
  · exact ⟨_, e, rfl, rfl⟩
theorem ItAt.obj {t : Bool} {h : Heap} {it a : Addr} {i : Nat} (e : ItAt t h it a i) : ∃ o, h.get? it = some o ∧ ∀ v, o.data ≠ .cell v := by
  cases t
  · obtain ⟨o, e, c, d⟩ := e
    exact ⟨o, e, fun v z => by rw [d] at z; cases z⟩
  · obtain ⟨o, e, c, d⟩ := e
    exact ⟨o, e, fun v z => by rw [d] at z; cases z⟩
theorem ItAt.at {t : Bool} {h h' : Heap} {it a : Addr} {i : Nat} (e : ItAt t h it a i) (k : ∀ o, h.get? it = some o → h'.get? it = some o) : ItAt t h' it a i := by
  cases t
  · exact Heap.IsListIter.at e k
  · exact Heap.IsTupleIter.at e k
section
variable {X : Cx} {pins : List (Addr × Obj)} {σ : L2.St} {H : Hp} {s : Shared}
theorem Inv.sq (I : Inv X pins σ H s) {t : Bool} {a : Addr} {vs : List V} (q : Sq t X.K H a vs) : ∃ its : List Value, Vals vs its ∧ IsSq t s.heap a its.toArray ∧ a < s.heap.objs.size := by
  cases t
  · obtain ⟨its, rv, p, _⟩ := I.list q
    exact ⟨its, rv, p.isList, p.lt⟩
  · obtain ⟨its, rv, p, _⟩ := I.tuple q
    have p : s.heap.IsTuple a its.toArray := p
    obtain ⟨o, ho, _⟩ := id p
    exact ⟨its, rv, p, Heap.lt_size ho⟩
theorem Inv.sq_inj (I : Inv X pins σ H s) {t : Bool} {a : Addr} {vs us : List V} (q : Sq t X.K H a vs) (r : Sq t X.K H a us) : vs = us := by
  cases t
  · exact I.list_inj q r
  · exact I.tuple_inj q r
end

/-! ### enumerate -/
def ItE (t : Bool) (k0 : Int) (K : PySem.W.Frag) (a : Addr) : It :=
  ⟨fun i H => ∃ (vs : List V) (x : V), Sq t K H a vs ∧ vs[i]? = some x, fun i H v H' => ∃ T x, v = .ref T ∧ H T = none ∧ H' = upd H T (.tup [.int (k0 + (i : Nat)), x]) ∧ ∀ vs, Sq t K H a vs → vs[i]? = some x, fun i H => ∃ vs : List V, Sq t K H a vs ∧ vs.length = i⟩
theorem turn_enumQ {P : Program} {w : World} {K : PySem.W.Frag} {elts : List Expr} {kk : Nat} {tpos : Pos} (t : Bool) (k0 : Int) (a e it : Addr) :
    Turn P w K (.Tuple elts kk tpos) (ItE t k0 K a) [e, it] e (fun i h => (∃ old, IsEnum h e it (k0 + (i : Nat)) old) ∧ ItAt t h it a i ∧ e ≠ it ∧ a ≠ it ∧ a ≠ e) where
  mem := by simp
  obj := fun i h st b hb => by
    obtain ⟨⟨old, he⟩, hi, _⟩ := st
    have e' : b = e ∨ b = it := by simpa using hb
    rcases e' with z | z
    · rw [z]; exact ⟨_, he, fun v q => nomatch q⟩
    · rw [z]; exact hi.obj
  keep := fun i h h' st k => let ⟨⟨old, he⟩, hi, r⟩ := st; ⟨⟨old, k e (by simp) _ he⟩, hi.at fun o q => k it (by simp) o q, r⟩
  item := by
    intro X hP hw hK hc i pins s σ H E I hf st hg
    subst hP hw hK
    obtain ⟨⟨old, he⟩, hit, hne, ha1, ha2⟩ := st
    obtain ⟨vs, x, hq, hx⟩ := hg
    obtain ⟨its, rv, p, hz⟩ := Inv.sq I hq
    have hl := rv.length
    have hi : i < its.toArray.size := by
      have := (List.getElem?_eq_some_iff.mp hx).1
      simp; omega
    have G := GoesN.enumFrom (prog := X.prog) (w := X.w) (A := X.A) (elts := elts) (x1 := kk) (pos := tpos) k0 (drawsSq t (A := X.A.in1) (I.ok.hd hc) it a ha1 its.toArray) e hne (by simp; exact ⟨hne, fun z => ha2 z.symm⟩) (by simp)
    refine G.goes i s _ E hi ⟨⟨old, he⟩, hit, p⟩ fun v h' tk ⟨T, tt, u, ev, hnew, hu, hT⟩ st' kept htk => ?_
    obtain ⟨⟨old', he'⟩, hit', _⟩ := st'
    have ru : RelV x u := by
      obtain ⟨u', hu', r⟩ := rv.get hx
      have : some u = some u' := by rw [← hu', ← hu]; simp
      cases this; exact r
    have new : ObjOk X.prog X.w (upd H T (.tup [.int (k0 + (i : Nat)), x])) h' T (.tup [.int (k0 + (i : Nat)), x]) := ⟨by show 2 ≤ sizeLine; decide, [.int (k0 + (i : Nat)) tt, u], .cons ⟨_, rfl⟩ (.cons ru .nil), hT⟩
    have I1 : Inv X pins σ (upd H T (.tup [.int (k0 + (i : Nat)), x])) { s with heap := h', toks := tk } := I.turnedNew (ch := [e, it]) (fun b ob hb q => kept b ob hb q) hf hnew new
    subst ev
    refine ⟨.ref T, _, I1, rfl, ⟨T, x, rfl, I.hok.fresh hnew, rfl, fun us hus => by rw [Inv.sq_inj I hus hq]; exact hx⟩, ⟨⟨old', he'⟩, hit', hne, ha1, ha2⟩, fun b hb => ?_⟩
    have hb' : b < s.heap.objs.size := by
      have e' : b = e ∨ b = it := by simpa using hb
      rcases e' with z | z
      · rw [z]; exact Heap.lt_size he
      · rw [z]; obtain ⟨o, q, _⟩ := hit.obj; exact Heap.lt_size q
    rw [upd_ne (Nat.ne_of_lt (Nat.lt_of_lt_of_le hb' hnew))]
    exact (hf b hb).1
  done := by
    intro X hP hw hK hc i pins s σ H E I hf st hg
    subst hP hw hK
    obtain ⟨⟨old, he⟩, hit, hne, ha1, ha2⟩ := st
    obtain ⟨vs, hq, hx⟩ := hg
    obtain ⟨its, rv, p, hz⟩ := Inv.sq I hq
    have hl := rv.length
    have G := GoesN.enumFrom (prog := X.prog) (w := X.w) (A := X.A) (elts := elts) (x1 := kk) (pos := tpos) k0 (drawsSq t (A := X.A.in1) (I.ok.hd hc) it a ha1 its.toArray) e hne (by simp; exact ⟨hne, fun z => ha2 z.symm⟩) (by simp)
    have en : its.toArray.size = i := by simp; omega
    rw [en] at G
    exact G.stops s _ E ⟨⟨old, he⟩, hit, p⟩ fun h' tk kept _ => I.turnedL (t' := tk) (ch := [e, it]) kept hf
  self := fun A i s Q E st h => let ⟨⟨_, he⟩, _⟩ := st; wpAny_pyIter_enum he h
set_option maxHeartbeats 4000000 in
open AutoSeq1 (wpAny_loadPart') in
theorem meets_enum1 {v : Value} {o : Obj} {H : Heap → Prop} (B : Begins v o H) :
    Meets (Builtin.«enumerate.__new__» ⟨[.type "enumerate", v], []⟩) (fun _ R s => H s.heap ∧
      R (.ok (.ret (.ref (s.heap.push o).objs.size))) { s with heap := (s.heap.push o).push { cls := .type "enumerate", data := .fields #[.none, .bool false, .ref s.heap.objs.size, rawInt 0, .none, .none] } }) :=
  .of_wp fun prog w A R s h => by
    obtain ⟨hp, g, d, tk, os⟩ := s; obtain ⟨h1, h⟩ := h
    have hsub := sub_enumerate
    have q1 : ∀ {A' : Around} {E : Value → Shared → Prop} {Q : Value → Shared → Prop}, Q (.ref hp.objs.size) ⟨hp.push o, g, d, tk, os⟩ → wpAny (model prog w) A' (pyIter v) Q E ⟨hp, g, d, tk, os⟩ :=
      fun q => B.iter prog w _ _ ⟨hp, g, d, tk, os⟩ _ h1 q
    wp_walk using q1
    refine wpAny_stack_any fun st => wpAny_pure ?_
    split
    · rename_i c _ _ _ _ _
      cases (c == Value.type "enumerate")
      · wp_walk using q1
        exact ⟨_, rfl, h⟩
      · wp_walk using q1
        exact ⟨_, rfl, h⟩
    · wp_walk using q1
      exact ⟨_, rfl, h⟩
theorem enum_begins1 {prog : Program} {w : World} {A : Around} {E : Value → Shared → Prop} {s : Shared} {v : Value} {o : Obj} {H : Heap → Prop} {Q : Value → Shared → Prop} (B : Begins v o H) (h1 : H s.heap)
    (h : ∀ h', IsEnum h' (s.heap.objs.size + 1) s.heap.objs.size 0 .none → h'.get? s.heap.objs.size = some o → h'.objs.size = s.heap.objs.size + 2 →
      (∀ b o, s.heap.get? b = some o → h'.get? b = some o) → Q (.ref (s.heap.objs.size + 1)) { s with heap := h' }) :
    wpAny (model prog w) A (call (.type "enumerate") [v]) Q E s := by
  refine callType_new F.called_enumerate (by decide) (F.typeCall_enumerate_1 _) (F.newCall_enumerate_1 _) (fun obj => F.args_object_init_2 obj _) F.entry_enumerate_new
    (meets_enum1 B) ⟨h1, ?_⟩
  have hz : (s.heap.push o).objs.size = s.heap.objs.size + 1 := Heap.size_push ..
  show _ ∧ _
  rw [hz]
  have he : IsEnum ((s.heap.push o).push { cls := .type "enumerate", data := .fields #[.none, .bool false, .ref s.heap.objs.size, rawInt 0, .none, .none] }) (s.heap.objs.size + 1) s.heap.objs.size 0 .none := by
    have := Heap.get?_push_size (s.heap.push o) (o := { cls := .type "enumerate", data := .fields #[.none, .bool false, .ref s.heap.objs.size, rawInt 0, .none, .none] }) rfl
    rw [hz] at this; exact this
  refine ⟨⟨_, he, rfl⟩, h _ he (Heap.get?_push_of_some _ (Heap.get?_push_size _ B.free)) (by rw [Heap.size_push, hz]) fun b o x => Heap.get?_push_of_some _ (Heap.get?_push_of_some _ x)⟩
/-- walked: enumerate(row), enumerate(row, start=k) -/
def iEnumQ (k0 : Int) (K : PySem.W.Frag) (ta : TA) : TI := fun σ H R => ta σ H fun vs H1 => ∃ t a xs, vs = [.ref a] ∧ Sq t K H1 a xs ∧ R (ItE t k0 K a) H1
theorem enumQ_begin {X : Cx} {pins : List (Addr × Obj)} {σ : L2.St} {H1 : Hp} {s1 : Shared} {R : It → Hp → Prop} {elts : List Expr} {kk : Nat} {tpos : Pos} {t : Bool} {k0 : Int} {a : Addr} (I1 : Inv X pins σ H1 s1) (la : a < s1.heap.objs.size) (q : R (ItE t k0 X.K a) H1) {h' : Heap}
    (he : IsEnum h' (s1.heap.objs.size + 1) s1.heap.objs.size k0 .none) (ho : h'.get? s1.heap.objs.size = some (itObj t a)) (hk : ∀ b o, s1.heap.get? b = some o → h'.get? b = some o) {E : Value → Shared → Prop} :
    wpAny (model X.prog X.w) X.A (pyIter (.ref (s1.heap.objs.size + 1))) (PIE X pins σ (.Tuple elts kk tpos) R) E { s1 with heap := h' } := by
  refine wpAny_pyIter_enum he ?_
  have I2 : Inv X pins σ H1 { s1 with heap := h' } := I1.kept (t' := s1.toks) hk
  refine ⟨s1.heap.objs.size + 1, [s1.heap.objs.size + 1, s1.heap.objs.size], _, _, H1, rfl, I2, turn_enumQ t k0 a (s1.heap.objs.size + 1) s1.heap.objs.size, ⟨⟨.none, ?_⟩, itAt0 ho, Nat.succ_ne_self _, Nat.ne_of_lt la, Nat.ne_of_lt (Nat.lt_succ_of_lt la)⟩, fun b hb => ?_, q⟩
  · have e1 : k0 + ((0 : Nat) : Int) = k0 := by simp
    rw [e1]; exact he
  · have e' : b = s1.heap.objs.size + 1 ∨ b = s1.heap.objs.size := by simpa using hb
    have hle : s1.heap.objs.size ≤ b := by
      rcases e' with z | z
      · rw [z]; exact Nat.le_add_right _ _
      · rw [z]; exact Nat.le_refl _
    exact I1.fpOk hle (I1.hok.fresh hle)
theorem pi_enumQ {X : Cx} {e : Expr} {ta : TA} {p pos tpos : Pos} {elts : List Expr} {kk : Nat} (hg : Gl X "enumerate") (hm : X.mg "enumerate" = none) (ha : PA X [e] ta) (hs : starEach [e] X.env = [(false, eval e X.env)] := by rfl) :
    PI X (.Tuple elts kk tpos) (.Call (.Name "enumerate" p) [e] [] pos) (iEnumQ 0 X.K ta) := by
  refine ⟨fun pins s σ H R I h => ?_⟩
  refine Call_ (ld_blt I hg hm boot_enumerate (PyProof.Rows.callWith_type1 (thn (ha.run pos pins s σ H _ I h) fun us s1 ⟨vs, H1, I1, r1, q1⟩ => ?_) hs rfl))
  obtain ⟨t, a, xs, ex, hq, q⟩ := q1
  subst ex
  cases r1 with
  | cons r rr =>
    cases rr
    cases r
    obtain ⟨its, rv, p', hz⟩ := Inv.sq I1 hq
    exact enum_begins1 (begins_sq t a its.toArray) p' fun h' he ho hsz hk => enumQ_begin I1 hz q he ho hk

/-! ### zip -/
def ItZ (t u : Bool) (K : PySem.W.Frag) (a b : Addr) : It :=
  ⟨fun i H => ∃ (xs ys : List V) (x y : V), Sq t K H a xs ∧ Sq u K H b ys ∧ xs[i]? = some x ∧ ys[i]? = some y,
    fun i H v H' => ∃ T x y, v = .ref T ∧ H T = none ∧ H' = upd H T (.tup [x, y]) ∧ (∀ xs, Sq t K H a xs → xs[i]? = some x) ∧ ∀ ys, Sq u K H b ys → ys[i]? = some y,
    fun i H => ∃ xs ys : List V, Sq t K H a xs ∧ Sq u K H b ys ∧ min xs.length ys.length = i⟩
structure ZApart (z TI TO i1 i2 a b : Addr) : Prop where
  sep : ZipSep2 z TI TO i1 i2 [i1, a] [i2, b]
  a1 : a ≠ i1
  b2 : b ≠ i2
theorem turn_zipQ {P : Program} {w : World} {K : PySem.W.Frag} {elts : List Expr} {kk : Nat} {tpos : Pos} (t u : Bool) (a b z TI TO i1 i2 : Addr) :
    Turn P w K (.Tuple elts kk tpos) (ItZ t u K a b) [z, TI, TO, i1, i2] z (fun i h => IsZip h z TI TO .none ∧ IsTupOf2 h TI (.ref i1) (.ref i2) ∧ (∃ x y, IsTupOf2 h TO x y) ∧ ItAt t h i1 a i ∧ ItAt u h i2 b i ∧ ZApart z TI TO i1 i2 a b) where
  mem := by simp
  obj := fun i h st c hc => by
    obtain ⟨hz, hTI, ⟨x, y, hTO⟩, h1, h2, _⟩ := st
    have e' : c = z ∨ c = TI ∨ c = TO ∨ c = i1 ∨ c = i2 := by simpa using hc
    rcases e' with q | q | q | q | q
    · rw [q]; exact ⟨_, hz, fun v q => nomatch q⟩
    · rw [q]; exact ⟨_, hTI, fun v q => nomatch q⟩
    · rw [q]; exact ⟨_, hTO, fun v q => nomatch q⟩
    · rw [q]; exact h1.obj
    · rw [q]; exact h2.obj
  keep := fun i h h' st k => by
    obtain ⟨hz, hTI, ⟨x, y, hTO⟩, h1, h2, r⟩ := st
    exact ⟨k z (by simp) _ hz, k TI (by simp) _ hTI, ⟨x, y, k TO (by simp) _ hTO⟩, h1.at fun o q => k i1 (by simp) o q, h2.at fun o q => k i2 (by simp) o q, r⟩
  item := by
    intro X hP hw hK hc i pins s σ H E I hf st hg
    subst hP hw hK
    obtain ⟨hz, hTI, ⟨x0, y0, hTO⟩, h1, h2, ap⟩ := st
    obtain ⟨xs, ys, x, y, hqx, hqy, hx, hy⟩ := hg
    obtain ⟨its, rv, p, _⟩ := Inv.sq I hqx
    obtain ⟨its2, rv2, p2, _⟩ := Inv.sq I hqy
    have l1 := rv.length
    have l2 := rv2.length
    have hi : i < min its.toArray.size its2.toArray.size := by
      have e1 := (List.getElem?_eq_some_iff.mp hx).1
      have e2 := (List.getElem?_eq_some_iff.mp hy).1
      simp; omega
    have G := GoesN.zip2 (prog := X.prog) (w := X.w) (A := X.A) (elts := elts) (x1 := kk) (pos := tpos) ap.sep (drawsSq t (A := X.A.in1) (I.ok.hd hc) i1 a ap.a1 its.toArray) (drawsSq u (A := X.A.in1) (I.ok.hd hc) i2 b ap.b2 its2.toArray)
    refine G.goes i s _ E hi ⟨hz, hTI, ⟨x0, y0, hTO⟩, ⟨h1, p⟩, ⟨h2, p2⟩⟩ fun v h' tk ⟨T, u1, u2, ev, hnew, hu1, hu2, hT⟩ st' kept htk => ?_
    obtain ⟨z', TI', TO', ⟨h1', _⟩, ⟨h2', _⟩⟩ := st'
    have ru : RelV x u1 := by
      obtain ⟨u', hu', r⟩ := rv.get hx
      have : some u1 = some u' := by rw [← hu', ← hu1]; simp
      cases this; exact r
    have ru2 : RelV y u2 := by
      obtain ⟨u', hu', r⟩ := rv2.get hy
      have : some u2 = some u' := by rw [← hu', ← hu2]; simp
      cases this; exact r
    have new : ObjOk X.prog X.w (upd H T (.tup [x, y])) h' T (.tup [x, y]) := ⟨by show 2 ≤ sizeLine; decide, [u1, u2], .cons ru (.cons ru2 .nil), hT⟩
    have I1 : Inv X pins σ (upd H T (.tup [x, y])) { s with heap := h', toks := tk } := I.turnedNew (ch := [z, TI, TO, i1, i2]) (fun c ob hb q => kept c ob (fun hm => hb (by
      have e' : c = z ∨ c = TO ∨ c = i1 ∨ c = i2 := by simpa using hm
      rcases e' with q | q | q | q <;> (rw [q]; simp))) q) hf hnew new
    subst ev
    refine ⟨.ref T, _, I1, rfl, ⟨T, x, y, rfl, I.hok.fresh hnew, rfl, fun us hus => by rw [Inv.sq_inj I hus hqx]; exact hx, fun us hus => by rw [Inv.sq_inj I hus hqy]; exact hy⟩, ⟨z', TI', TO', h1', h2', ap⟩, fun c hcm => ?_⟩
    have hlt : c < s.heap.objs.size := by
      have e' : c = z ∨ c = TI ∨ c = TO ∨ c = i1 ∨ c = i2 := by simpa using hcm
      rcases e' with q | q | q | q | q
      · rw [q]; exact Heap.lt_size hz
      · rw [q]; exact Heap.lt_size hTI
      · rw [q]; exact Heap.lt_size hTO
      · rw [q]; obtain ⟨o, q, _⟩ := h1.obj; exact Heap.lt_size q
      · rw [q]; obtain ⟨o, q, _⟩ := h2.obj; exact Heap.lt_size q
    rw [upd_ne (Nat.ne_of_lt (Nat.lt_of_lt_of_le hlt hnew))]
    exact (hf c hcm).1
  done := by
    intro X hP hw hK hc i pins s σ H E I hf st hg
    subst hP hw hK
    obtain ⟨hz, hTI, ⟨x0, y0, hTO⟩, h1, h2, ap⟩ := st
    obtain ⟨xs, ys, hqx, hqy, hend⟩ := hg
    obtain ⟨its, rv, p, _⟩ := Inv.sq I hqx
    obtain ⟨its2, rv2, p2, _⟩ := Inv.sq I hqy
    have l1 := rv.length
    have l2 := rv2.length
    have G := GoesN.zip2 (prog := X.prog) (w := X.w) (A := X.A) (elts := elts) (x1 := kk) (pos := tpos) ap.sep (drawsSq t (A := X.A.in1) (I.ok.hd hc) i1 a ap.a1 its.toArray) (drawsSq u (A := X.A.in1) (I.ok.hd hc) i2 b ap.b2 its2.toArray)
    have en : min its.toArray.size its2.toArray.size = i := by simp; omega
    rw [en] at G
    exact G.stops s _ E ⟨hz, hTI, ⟨x0, y0, hTO⟩, ⟨h1, p⟩, ⟨h2, p2⟩⟩ fun h' tk kept _ => I.turnedL (t' := tk) (ch := [z, TI, TO, i1, i2]) (fun c ob hb q => kept c ob (fun hm => hb (by
      have e' : c = z ∨ c = TO ∨ c = i1 ∨ c = i2 := by simpa using hm
      rcases e' with q | q | q | q <;> (rw [q]; simp))) q) hf
  self := fun A i s Q E st h => wpAny_pyIter_zip st.1 h
def iZipQ (K : PySem.W.Frag) (ta : TA) : TI := fun σ H R => ta σ H fun vs H1 => ∃ t u a b xs ys, vs = [.ref a, .ref b] ∧ Sq t K H1 a xs ∧ Sq u K H1 b ys ∧ R (ItZ t u K a b) H1
theorem pi_zipQ {X : Cx} {e e2 : Expr} {ta : TA} {p pos tpos : Pos} {elts : List Expr} {kk : Nat} (hg : Gl X "zip") (hm : X.mg "zip" = none) (ha : PA X [e, e2] ta)
    (hs : starEach [e, e2] X.env = (false, eval e X.env) :: starEach [e2] X.env := by rfl) (hpl : (backTo pos (starEach [e2] X.env)).any (·.1) = false := by rfl) :
    PI X (.Tuple elts kk tpos) (.Call (.Name "zip" p) [e, e2] [] pos) (iZipQ X.K ta) := by
  refine ⟨fun pins s σ H R I h => ?_⟩
  refine Call_ (ld_blt I hg hm PyProof.Rows.boot_zip (PyProof.Rows.callWith_type1 (thn (ha.run pos pins s σ H _ I h) fun us s1 ⟨vs, H1, I1, r1, q1⟩ => ?_) hs hpl))
  obtain ⟨t, u, a, b, xs, ys, ex, hqx, hqy, q⟩ := q1
  subst ex
  cases r1 with
  | cons r rr =>
    cases rr with
    | cons r' rr =>
      cases rr
      cases r
      cases r'
      obtain ⟨its, rv, p1, la⟩ := Inv.sq I1 hqx
      obtain ⟨its2, rv2, p2, lb⟩ := Inv.sq I1 hqy
      refine zip_begins2 (begins_sq t a its.toArray) (begins_sq u b its2.toArray) p1 p2 fun h' hz hTI hTO h1 h2 hsz hk => wpAny_pyIter_zip hz ?_
      have I2 : Inv X pins σ H1 { s1 with heap := h' } := I1.kept (t' := s1.toks) hk
      refine ⟨s1.heap.objs.size + 4, [s1.heap.objs.size + 4, s1.heap.objs.size + 2, s1.heap.objs.size + 3, s1.heap.objs.size, s1.heap.objs.size + 1], _, _, H1, rfl, I2, turn_zipQ t u a b _ _ _ _ _,
        ⟨hz, hTI, ⟨_, _, hTO⟩, itAt0 h1, itAt0 h2, ⟨zip_sep2 (N := s1.heap.objs.size) (fp1 := [a]) (fp2 := [b]) (by simpa using la) (by simpa using lb), Nat.ne_of_lt la, Nat.ne_of_lt (Nat.lt_succ_of_lt lb)⟩⟩, fun c hcm => ?_, q⟩
      have e' : c = s1.heap.objs.size + 4 ∨ c = s1.heap.objs.size + 2 ∨ c = s1.heap.objs.size + 3 ∨ c = s1.heap.objs.size ∨ c = s1.heap.objs.size + 1 := by simpa using hcm
      have hle : s1.heap.objs.size ≤ c := by
        rcases e' with z | z | z | z | z
        · rw [z]; exact Nat.le_add_right _ _
        · rw [z]; exact Nat.le_add_right _ _
        · rw [z]; exact Nat.le_add_right _ _
        · rw [z]; exact Nat.le_refl _
        · rw [z]; exact Nat.le_add_right _ _
      exact I1.fpOk hle (I1.hok.fresh hle)

/-! ### rows -/
def Itq (t : Bool) (K : PySem.W.Frag) (a : Addr) : It := match t with
  | true => Itt K a
  | false => Itl K a
def iSq (K : PySem.W.Frag) (tl : TE) : TI := fun σ H R => tl σ H fun x H1 => ∃ t a, x = .ref a ∧ (∃ xs, Sq t K H1 a xs) ∧ R (Itq t K a) H1
theorem pi_sq {X : Cx} {tg l : Expr} {tl : TE} (hl : PE X l tl) : PI X tg l (iSq X.K tl) := by
  refine ⟨fun pins s σ H R I h => ?_⟩
  refine thn (hl.run pins s σ H _ I h) fun v s1 ⟨x, H1, I1, r1, q1⟩ => ?_
  obtain ⟨t, a, e, ⟨xs, hq⟩, q⟩ := q1
  subst e
  cases r1
  cases t
  · obtain ⟨its, rv, p, hz⟩ := I1.list hq
    refine wpAny_pyIter_list p.isList ?_
    refine ⟨s1.heap.objs.size, [s1.heap.objs.size], _, _, H1, rfl, I1.kept (t' := s1.toks) fun b o e => Heap.get?_push_of_some _ e, turn_list a _, ⟨_, Heap.get?_push_size _ rfl, rfl, rfl⟩, fun b hb => ?_, q⟩
    have e : b = s1.heap.objs.size := by simpa using hb
    subst e
    exact I1.fpOk (Nat.le_refl _) (I1.hok.fresh (Nat.le_refl _))
  · obtain ⟨its, rv, p, hz⟩ := I1.tuple hq
    refine wpAny_pyIter_tuple (show s1.heap.IsTuple a its.toArray from p) ?_
    refine ⟨s1.heap.objs.size, [s1.heap.objs.size], _, _, H1, rfl, I1.kept (t' := s1.toks) fun b o e => Heap.get?_push_of_some _ e, turn_tuple a _, ⟨_, Heap.get?_push_size _ rfl, rfl, rfl⟩, fun b hb => ?_, q⟩
    have e : b = s1.heap.objs.size := by simpa using hb
    subst e
    exact I1.fpOk (Nat.le_refl _) (I1.hok.fresh (Nat.le_refl _))

/-! ### by plain functions -/
def sview : Vl → Option (List D)
  | .v (.lst ds) => some ds
  | .v (.scr ds) => some ds
  | .v (.tup ds) => some ds
  | _ => none
section
variable {g : G} {w : Wd} {H : Hp} {S : Store}
theorem sq_le {t : Bool} {K : PySem.W.Frag} {F F' : Hp} (l : HLe F F') {a : Addr} {vs : List V} (h : Sq t K F a vs) : Sq t K F' a vs := by
  cases t
  · exact sqL_le l h
  · exact sqT_le l h
theorem sview_rep {v : V} {x : Vl} {ds : List D} (r : RepV g w v x) (e : sview x = some ds) : ∃ a t vs, v = .ref a ∧ Sq t g.K w.F a vs ∧ RepAll g w.F vs ds := by
  cases r with
  | v r =>
    cases r with
    | lst q z => simp only [sview, Option.some.injEq] at e; subst e; exact ⟨_, false, _, rfl, SqL.of q, z⟩
    | scr q z => simp only [sview, Option.some.injEq] at e; subst e; exact ⟨_, false, _, rfl, q, z⟩
    | tup q z => simp only [sview, Option.some.injEq] at e; subst e; exact ⟨_, true, _, rfl, q.sq, z⟩
    | _ => simp [sview] at e
  | r r => simp [sview] at e
theorem itOk_sq {t : Bool} {a : Addr} {vs : List V} {ds : List D} (q : Sq t g.K w.F a vs) (r : RepAll g w.F vs ds) : ItOk g w (Itq t g.K a) (ds.map .v) := by
  intro w1 H1 S1 le hS i
  have q1 : Sq t g.K H1 a vs := sq_le hS.hle (sq_le le.fle q)
  have hl := r.len
  refine ⟨fun x hx => ?_, fun hi => ?_⟩
  · obtain ⟨d, hd, ex⟩ : ∃ d, ds[i]? = some d ∧ x = .v d := by
      rw [List.getElem?_map] at hx
      obtain ⟨d, h1, h2⟩ := Option.map_eq_some_iff.mp hx
      exact ⟨d, h1, h2.symm⟩
    subst ex
    obtain ⟨v, hv, rv⟩ := r.at hd
    have fin : ∀ {v' : V}, vs[i]? = some v' → RepV g w1 v' (.v d) := fun {v'} e => by
      rw [hv] at e; cases e
      exact .v (rv.le le.fle)
    cases t
    · exact ⟨⟨vs, v, q1, hv⟩, fun v' H2 ⟨e1, e2⟩ => ⟨w1, by rw [e1]; exact Ext.refl _ _, by rw [e1]; exact hS, fin (e2 vs q1)⟩⟩
    · exact ⟨⟨vs, v, q1, hv⟩, fun v' H2 ⟨e1, e2⟩ => ⟨w1, by rw [e1]; exact Ext.refl _ _, by rw [e1]; exact hS, fin (e2 vs q1)⟩⟩
  · rw [List.length_map, ← hl] at hi
    cases t
    · exact ⟨vs, q1, by omega⟩
    · exact ⟨vs, q1, by omega⟩
def enumD (k0 : Int) (ds : List D) : List D := (ds.zipIdx).map fun p => .ptp [.int (k0 + (p.2 : Nat)), p.1]
theorem itOk_enum {t : Bool} {k0 : Int} {a : Addr} {vs : List V} {ds : List D} (q : Sq t g.K w.F a vs) (r : RepAll g w.F vs ds) : ItOk g w (ItE t k0 g.K a) ((enumD k0 ds).map .v) := by
  intro w1 H1 S1 le hS i
  have q1 : Sq t g.K H1 a vs := sq_le hS.hle (sq_le le.fle q)
  have hl := r.len
  refine ⟨fun x hx => ?_, fun hi => ?_⟩
  · obtain ⟨d, hd, ex⟩ : ∃ d, ds[i]? = some d ∧ x = .v (.ptp [.int (k0 + (i : Nat)), d]) := by
      rw [List.getElem?_map] at hx
      obtain ⟨d, h1, h2⟩ := Option.map_eq_some_iff.mp hx
      unfold enumD at h1
      rw [List.getElem?_map, List.getElem?_zipIdx] at h1
      obtain ⟨p, h3, h4⟩ := Option.map_eq_some_iff.mp h1
      obtain ⟨d', h5, h6⟩ := Option.map_eq_some_iff.mp h3
      subst h6; subst h4; subst h2
      exact ⟨d', h5, by simp⟩
    subst ex
    obtain ⟨v, hv, rv⟩ := r.at hd
    refine ⟨⟨vs, v, q1, hv⟩, fun v' H2 ⟨T, y, e1, hT, e2, e3⟩ => ?_⟩
    have ey := e3 vs q1
    rw [hv] at ey; cases ey
    subst e1; subst e2
    obtain ⟨a1, a2⟩ := new_froz hS hT (.tup [.int (k0 + (i : Nat)), v])
    exact ⟨_, a2, a1, .v (.ptp (SqT.of upd_same) (.cons (.int _) (.cons ((rv.le le.fle).le a2.fle) .nil)))⟩
  · rw [List.length_map] at hi
    unfold enumD at hi
    rw [List.length_map, List.length_zipIdx, ← hl] at hi
    exact ⟨vs, q1, hi.symm⟩
def zipD (xs ys : List D) : List D := (xs.zip ys).map fun p => .ptp [p.1, p.2]
theorem itOk_zip {t u : Bool} {a b : Addr} {vs us : List V} {ds es : List D} (q : Sq t g.K w.F a vs) (r : RepAll g w.F vs ds) (q2 : Sq u g.K w.F b us) (r2 : RepAll g w.F us es) : ItOk g w (ItZ t u g.K a b) ((zipD ds es).map .v) := by
  intro w1 H1 S1 le hS i
  have q1 : Sq t g.K H1 a vs := sq_le hS.hle (sq_le le.fle q)
  have q21 : Sq u g.K H1 b us := sq_le hS.hle (sq_le le.fle q2)
  have hl := r.len
  have hl2 := r2.len
  refine ⟨fun x hx => ?_, fun hi => ?_⟩
  · obtain ⟨d, e, hd, he, ex⟩ : ∃ d e, ds[i]? = some d ∧ es[i]? = some e ∧ x = .v (.ptp [d, e]) := by
      rw [List.getElem?_map] at hx
      obtain ⟨d, h1, h2⟩ := Option.map_eq_some_iff.mp hx
      unfold zipD at h1
      rw [List.getElem?_map] at h1
      obtain ⟨p, h3, h4⟩ := Option.map_eq_some_iff.mp h1
      obtain ⟨h5, h6⟩ := List.getElem?_zip_eq_some.mp h3
      subst h4; subst h2
      exact ⟨_, _, h5, h6, rfl⟩
    subst ex
    obtain ⟨v, hv, rv⟩ := r.at hd
    obtain ⟨v2, hv2, rv2⟩ := r2.at he
    refine ⟨⟨vs, us, v, v2, q1, q21, hv, hv2⟩, fun v' H2 ⟨T, y, y2, e1, hT, e2, e3, e4⟩ => ?_⟩
    have ey := e3 vs q1
    have ey2 := e4 us q21
    rw [hv] at ey; cases ey
    rw [hv2] at ey2; cases ey2
    subst e1; subst e2
    obtain ⟨a1, a2⟩ := new_froz hS hT (.tup [v, v2])
    exact ⟨_, a2, a1, .v (.ptp (SqT.of upd_same) (.cons ((rv.le le.fle).le a2.fle) (.cons ((rv2.le le.fle).le a2.fle) .nil)))⟩
  · rw [List.length_map] at hi
    unfold zipD at hi
    rw [List.length_map, List.length_zip, ← hl, ← hl2] at hi
    exact ⟨vs, us, q1, q21, hi.symm⟩
def rngD (lo c : Int) (n : Nat) : List D := (List.range n).map fun (i : Nat) => .int (lo + (i : Int) * c)
theorem itOk_rng {lo : Int} {n : Nat} : ItOk g w (Itr lo n) ((rngD lo 1 n).map .v) := by
  intro w1 H1 S1 le hS i
  refine ⟨fun x hx => ?_, fun hi => ?_⟩
  · have hi := (List.getElem?_eq_some_iff.mp hx).1
    simp [rngD] at hi
    have ex : x = .v (.int (lo + (i : Int))) := by
      simp [rngD, hi] at hx
      exact hx.symm
    subst ex
    exact ⟨hi, fun v' H2 ⟨e1, e2⟩ => ⟨w1, by rw [e1]; exact Ext.refl _ _, by rw [e1]; exact hS, by rw [e2]; exact .v (.int _)⟩⟩
  · have : i = n := by simpa [rngD] using hi
    exact Nat.le_of_eq this.symm
theorem itOk_rngC {lo c : Int} {n : Nat} : ItOk g w (Itc lo c n) ((rngD lo c n).map .v) := by
  intro w1 H1 S1 le hS i
  refine ⟨fun x hx => ?_, fun hi => ?_⟩
  · have hi := (List.getElem?_eq_some_iff.mp hx).1
    simp [rngD] at hi
    have ex : x = .v (.int (lo + (i : Int) * c)) := by
      simp [rngD, hi] at hx
      exact hx.symm
    subst ex
    exact ⟨hi, fun v' H2 ⟨e1, e2⟩ => ⟨w1, by rw [e1]; exact Ext.refl _ _, by rw [e1]; exact hS, by rw [e2]; exact .v (.int _)⟩⟩
  · have : i = n := by simpa [rngD] using hi
    exact Nat.le_of_eq this.symm
end
def kSq (x : Vl) (S : Store) : Out (List Vl) := match sview x with
  | some ds => .ok (ds.map .v) S
  | none => .stuck
def iSeq (m : EM) : IM := fun e S => (m e S).bind kSq
def kEnum (k0 : Int) (xs : List Vl) (S : Store) : Out (List Vl) := match xs with
  | [x] => match sview x with
    | some ds => .ok ((enumD k0 ds).map .v) S
    | none => .stuck
  | _ => .stuck
def iEnm (k0 : Int) (m : AM) : IM := fun e S => (m e S).bind (kEnum k0)
def kZip (xs : List Vl) (S : Store) : Out (List Vl) := match xs with
  | [x, y] => match sview x, sview y with
    | some ds, some es => .ok ((zipD ds es).map .v) S
    | _, _ => .stuck
  | _ => .stuck
def iZp (m : AM) : IM := fun e S => (m e S).bind kZip
def smallI (i : Int) : Bool := match i with
  | .ofNat n => Nat.ble n 4611686018427387903
  | .negSucc n => Nat.ble n 4611686018427387903
theorem smallI_iff {i : Int} : smallI i = true ↔ -4611686018427387904 ≤ i ∧ i < 4611686018427387904 := by
  unfold smallI
  split
  · rename_i n
    rw [Nat.ble_eq]
    show _ ↔ _ ≤ (n : Int) ∧ (n : Int) < _
    constructor
    · intro h; exact ⟨by omega, by omega⟩
    · intro h; have := h.2; omega
  · rename_i n
    rw [Nat.ble_eq]
    rw [Int.negSucc_eq]
    constructor
    · intro h; exact ⟨by omega, by omega⟩
    · intro h; have := h.1; omega
theorem smallI_of {i : Int} (h : smallI i = true) : -(2 ^ 62) ≤ i ∧ i < 2 ^ 62 := by
  have := smallI_iff.mp h
  exact ⟨by omega, by omega⟩
theorem smallI_nat {n : Nat} (h : n ≤ 16777216) : smallI (n : Int) = true := smallI_iff.mpr ⟨by omega, by omega⟩
def kRng1 (xs : List Vl) (S : Store) : Out (List Vl) := match xs with
  | [.v (.int j)] => if smallI j then .ok ((rngD 0 1 j.toNat).map .v) S else .stuck
  | _ => .stuck
def kRng2 (xs : List Vl) (S : Store) : Out (List Vl) := match xs with
  | [.v (.int i), .v (.int j)] => if smallI i && smallI j then .ok ((rngD i 1 (j - i).toNat).map .v) S else .stuck
  | _ => .stuck
/-- a range downward -/
def kRng3 (xs : List Vl) (S : Store) : Out (List Vl) := match xs with
  | [.v (.int i), .v (.int j), .v (.int k)] => if k = -1 ∧ (smallI i && smallI j) then .ok ((rngD i (-1) (i - j).toNat).map .v) S else .stuck
  | _ => .stuck
def iRn1 (m : AM) : IM := fun e S => (m e S).bind kRng1
def iRn2 (m : AM) : IM := fun e S => (m e S).bind kRng2
def iRn3 (m : AM) : IM := fun e S => (m e S).bind kRng3
section
variable {X : Cx} {T : List (Addr × Str)} {W : WX} {tg : Expr} {m : EM} {ma : AM} {p pos tpos : Pos} {elts : List Expr} {kk : Nat}
theorem i_seq {e : Expr} (h : PE X e (rd (gX X T) W m)) : PI X tg e (rdI (gX X T) W (iSeq m)) :=
  PI_imp (pi_sq h) fun s H Q h => rd_bind (rel := RepV (gX X T)) (f := fun x _ S1 => kSq x S1) h fun w1 H1 S1 e v x hS hE hx h1 => by
    unfold kSq at h1
    split at h1
    · rename_i ds hd
      obtain ⟨a, t, vs, rfl, q, r⟩ := sview_rep hx hd
      exact ⟨t, a, rfl, ⟨vs, sq_le hS.hle q⟩, h1 w1 H1 _ (Ext.refl _ _) hS (itOk_sq q r)⟩
    · exact h1.elim
theorem i_enm {e : Expr} (ha : PA X [e] (rdA (gX X T) W ma)) (hm : X.mg "enumerate" = none) (hg : Gl X "enumerate" := by rfl) (hs : starEach [e] X.env = [(false, eval e X.env)] := by rfl) : PI X (.Tuple elts kk tpos) (.Call (.Name "enumerate" p) [e] [] pos) (rdI (gX X T) W (iEnm 0 ma)) :=
  PI_imp (pi_enumQ hg hm ha hs) fun s H Q h => rd_bind (rel := RepVs (gX X T)) (f := fun x _ S1 => kEnum 0 x S1) h fun w1 H1 S1 e v x hS hE hx h1 => by
    unfold kEnum at h1
    split at h1
    · cases hx with
      | cons hx r =>
        cases r
        split at h1
        · rename_i ds hd
          obtain ⟨a, t, vs, rfl, q, r⟩ := sview_rep hx hd
          exact ⟨t, a, vs, rfl, sq_le hS.hle q, h1 w1 H1 _ (Ext.refl _ _) hS (itOk_enum q r)⟩
        · exact h1.elim
    · exact h1.elim
theorem i_zp {e e2 : Expr} (ha : PA X [e, e2] (rdA (gX X T) W ma)) (hm : X.mg "zip" = none) (hg : Gl X "zip" := by rfl)
    (hs : starEach [e, e2] X.env = (false, eval e X.env) :: starEach [e2] X.env := by rfl) (hpl : (backTo pos (starEach [e2] X.env)).any (·.1) = false := by rfl) : PI X (.Tuple elts kk tpos) (.Call (.Name "zip" p) [e, e2] [] pos) (rdI (gX X T) W (iZp ma)) :=
  PI_imp (pi_zipQ hg hm ha hs hpl) fun s H Q h => rd_bind (rel := RepVs (gX X T)) (f := fun x _ S1 => kZip x S1) h fun w1 H1 S1 e v x hS hE hx h1 => by
    unfold kZip at h1
    split at h1
    · cases hx with
      | cons hx r =>
        cases r with
        | cons hy r =>
          cases r
          split at h1
          · rename_i ds es hd he
            obtain ⟨a, t, vs, rfl, q, r⟩ := sview_rep hx hd
            obtain ⟨b, u, us, rfl, q2, r2⟩ := sview_rep hy he
            exact ⟨t, u, a, b, vs, us, rfl, sq_le hS.hle q, sq_le hS.hle q2, h1 w1 H1 _ (Ext.refl _ _) hS (itOk_zip q r q2 r2)⟩
          · exact h1.elim
    · exact h1.elim
theorem i_rn1 {a : Expr} (ha : PA X [a] (rdA (gX X T) W ma)) (hm : X.mg "range" = none) (hg : Gl X "range" := by rfl) (hs : starEach [a] X.env = [(false, eval a X.env)] := by rfl) : PI X tg (.Call (.Name "range" p) [a] [] pos) (rdI (gX X T) W (iRn1 ma)) :=
  PI_imp (pi_range1 hg hm ha hs) fun s H Q h => rd_bind (rel := RepVs (gX X T)) (f := fun x _ S1 => kRng1 x S1) h fun w1 H1 S1 e v x hS hE hx h1 => by
    unfold kRng1 at h1
    split at h1
    · rename_i j
      cases hx with
      | cons hx r =>
        cases r
        cases hx with
        | v hx =>
          cases hx
          split at h1
          · rename_i hj
            obtain ⟨a1, a2⟩ := smallI_of hj
            exact ⟨j, rfl, a1, a2, h1 w1 H1 _ (Ext.refl _ _) hS itOk_rng⟩
          · exact h1.elim
    · exact h1.elim
theorem i_rn2 {a b : Expr} (ha : PA X [a, b] (rdA (gX X T) W ma)) (hm : X.mg "range" = none) (hg : Gl X "range" := by rfl) (hs : starEach [a, b] X.env = [(false, eval a X.env), (false, eval b X.env)] := by rfl) (hs2 : starEach [b] X.env = [(false, eval b X.env)] := by rfl) : PI X tg (.Call (.Name "range" p) [a, b] [] pos) (rdI (gX X T) W (iRn2 ma)) :=
  PI_imp (pi_range2 hg hm ha hs hs2) fun s H Q h => rd_bind (rel := RepVs (gX X T)) (f := fun x _ S1 => kRng2 x S1) h fun w1 H1 S1 e v x hS hE hx h1 => by
    unfold kRng2 at h1
    split at h1
    · rename_i i j
      cases hx with
      | cons hx r =>
        cases r with
        | cons hy r =>
          cases r
          cases hx with
          | v hx =>
            cases hx
            cases hy with
            | v hy =>
              cases hy
              split at h1
              · rename_i hj
                rw [Bool.and_eq_true] at hj
                obtain ⟨a1, a2⟩ := smallI_of hj.1
                obtain ⟨a3, a4⟩ := smallI_of hj.2
                exact ⟨i, j, rfl, ⟨a1, a2, a3, a4⟩, h1 w1 H1 _ (Ext.refl _ _) hS itOk_rng⟩
              · exact h1.elim
    · exact h1.elim
theorem i_rn3 {a b c : Expr} (ha : PA X [a, b, c] (rdA (gX X T) W ma)) (hm : X.mg "range" = none) (hg : Gl X "range" := by rfl)
    (hs : starEach [a, b, c] X.env = (false, eval a X.env) :: starEach [b, c] X.env := by rfl) (hpl : (backTo pos (starEach [b, c] X.env)).any (·.1) = false := by rfl) : PI X tg (.Call (.Name "range" p) [a, b, c] [] pos) (rdI (gX X T) W (iRn3 ma)) :=
  PI_imp (pi_range3 hg hm ha hs hpl) fun s H Q h => rd_bind (rel := RepVs (gX X T)) (f := fun x _ S1 => kRng3 x S1) h fun w1 H1 S1 e v x hS hE hx h1 => by
    unfold kRng3 at h1
    split at h1
    · rename_i i j k
      cases hx with
      | cons hx r =>
        cases r with
        | cons hy r =>
          cases r with
          | cons hz r =>
            cases r
            cases hx with
            | v hx =>
              cases hx
              cases hy with
              | v hy =>
                cases hy
                cases hz with
                | v hz =>
                  cases hz
                  split at h1
                  · rename_i hj
                    obtain ⟨hk, hj⟩ := hj
                    rw [Bool.and_eq_true] at hj
                    obtain ⟨a1, a2⟩ := smallI_of hj.1
                    obtain ⟨a3, a4⟩ := smallI_of hj.2
                    subst hk
                    exact ⟨i, j, -1, _, rfl, RgC.neg a1 a2 a3 a4, h1 w1 H1 _ (Ext.refl _ _) hS itOk_rngC⟩
                  · exact h1.elim
    · exact h1.elim
end
end Ax
/-! Ax7: subscripts, slices, built-ins, methods -/
namespace Ax
open PySem PySem.Spec PyProof.Rows L2

/-! ### dicts -/
def dview (S : Store) : Vl → Option (List (D × Vl))
  | .v (.dct ps) => some (ps.map fun p => (p.1, .v p.2))
  | .r n => match S[n]? with
    | some (.dct ps) => some ps
    | _ => none
  | _ => none
def keyOf : D → Option Key
  | .int i => some (.inl i)
  | .str x => some (.inr x)
  | _ => none
def kEq : D → D → Bool
  | .int i, .int j => i == j
  | .str a, .str b => a == b
  | _, _ => false
def dget {α : Type} (k : D) : List (D × α) → Option α
  | [] => none
  | p :: r => if kEq p.1 k then some p.2 else dget k r
def dhas {α : Type} (k : D) (ps : List (D × α)) : Bool := (dget k ps).isSome
def dput {α : Type} (k : D) (y : α) (ps : List (D × α)) : List (D × α) := if dhas k ps then ps.map fun p => if kEq p.1 k then (p.1, y) else p else ps ++ [(k, y)]
theorem keyOf_eq {d : D} {k : Key} (h : keyOf d = some k) : d = keyD k := by
  cases d <;> simp [keyOf] at h <;> (subst h; rfl)
theorem kEq_key (a b : Key) : kEq (keyD a) (keyD b) = decide (a = b) := by
  cases a <;> cases b <;> simp [keyD, kEq]
  · rename_i x y
    by_cases h : x = y
    · simp [h]
    · simp [h]
  · rename_i x y
    by_cases h : x = y
    · simp [h]
    · simp [h]
section
variable {g : G} {w : Wd} {H : Hp} {S : Store}
theorem dview_rep (h : RepSt g w H S) {v : V} {x : Vl} (r : RepV g w v x) {ps : List (D × Vl)} (e : dview S x = some ps) : ∃ a kvs, v = .ref a ∧ Rd H a (.dK kvs) ∧ RepKV g w kvs ps := by
  cases r with
  | v r =>
    cases r with
    | dK q z => simp only [dview, Option.some.injEq] at e; subst e; exact ⟨_, _, rfl, h.hle.rd _ _ trivial q, z.kv⟩
    | _ => simp [dview] at e
  | @r n a r =>
    simp only [dview] at e
    split at e
    · rename_i c hc
      cases e
      obtain ⟨vs, q, z⟩ := h.cel _ _ _ r hc
      exact ⟨_, vs, rfl, .inl q, z⟩
    · cases e
theorem RepKV.len : ∀ {kvs : List (Key × V)} {ps : List (D × Vl)}, RepKV g w kvs ps → kvs.length = ps.length
  | _, _, .nil => rfl
  | _, _, .cons _ r => by simp [RepKV.len r]
theorem RepKV.get : ∀ {kvs : List (Key × V)} {ps : List (D × Vl)} {k : Key}, RepKV g w kvs ps → (∀ x, dget (keyD k) ps = some x → ∃ v, valV kvs k = some v ∧ RepV g w v x) ∧ (dget (keyD k) ps = none → valV kvs k = none)
  | _, _, k, .nil => ⟨fun x h => by simp [dget] at h, fun _ => rfl⟩
  | _, _, k, .cons (k := k0) h r => by
    obtain ⟨a, b⟩ := RepKV.get (k := k) r
    simp only [dget, kEq_key]
    by_cases e : k0 = k
    · simp only [e, decide_true, if_true]
      exact ⟨fun x q => by cases q; exact ⟨_, valV_pos rfl, h⟩, fun q => by cases q⟩
    · simp only [e, decide_false, Bool.false_eq_true, if_false]
      exact ⟨fun x q => let ⟨v, q1, q2⟩ := a x q; ⟨v, by rw [valV_neg e]; exact q1, q2⟩, fun q => by rw [valV_neg e]; exact b q⟩
theorem RepKV.has {kvs : List (Key × V)} {ps : List (D × Vl)} {k : Key} (r : RepKV g w kvs ps) : (valV kvs k).isSome = dhas (keyD k) ps := by
  obtain ⟨a, b⟩ := r.get (k := k)
  unfold dhas
  cases e : dget (keyD k) ps with
  | none => rw [b e]; rfl
  | some x => obtain ⟨v, q, _⟩ := a x e; rw [q]; rfl
theorem RepKV.snoc : ∀ {kvs : List (Key × V)} {ps : List (D × Vl)} {k : Key} {v : V} {x : Vl}, RepKV g w kvs ps → RepV g w v x → RepKV g w (kvs ++ [(k, v)]) (ps ++ [(keyD k, x)])
  | _, _, _, _, _, .nil, h => .cons h .nil
  | _, _, _, _, _, .cons q r, h => .cons q (RepKV.snoc r h)
theorem RepKV.repl : ∀ {kvs : List (Key × V)} {ps : List (D × Vl)} {k : Key} {v : V} {x : Vl}, RepKV g w kvs ps → RepV g w v x → RepKV g w (kvs.map fun kv => if kv.1 = k then (kv.1, v) else kv) (ps.map fun p => if kEq p.1 (keyD k) then (p.1, x) else p)
  | _, _, _, _, _, .nil, h => .nil
  | _, _, k, _, _, .cons (k := k0) q r, h => by
    simp only [List.map_cons, kEq_key]
    by_cases e : k0 = k
    · simp only [e, decide_true, if_true]
      exact .cons h (RepKV.repl r h)
    · simp only [e, decide_false, Bool.false_eq_true, if_false]
      exact .cons q (RepKV.repl r h)
theorem RepKV.put {kvs : List (Key × V)} {ps : List (D × Vl)} {k : Key} {v : V} {x : Vl} (r : RepKV g w kvs ps) (h : RepV g w v x) : RepKV g w (putK kvs k v) (dput (keyD k) x ps) := by
  unfold putK dput
  rw [valV_any, r.has]
  cases dhas (keyD k) ps with
  | true => exact r.repl h
  | false => exact r.snoc h
end

/-! ### a[b] -/
theorem atI_len {α β : Type} {xs : List α} {ys : List β} (h : xs.length = ys.length) {i : Int} {y : β} (e : atI ys i = some y) : ∃ j : Nat, ys[j]? = some y ∧ ∀ x, xs[j]? = some x → atI xs i = some x := by
  unfold atI at e ⊢
  rw [h]
  cases q : ixN ys.length i with
  | none => rw [q] at e; cases e
  | some j => rw [q] at e; exact ⟨j, e, fun x hx => hx⟩
def fIx (x y : Vl) (S : Store) : Out Vl := match y with
  | .v d => match dview S x with
    | some ps => match keyOf d with
      | some _ => match dget d ps with
        | some z => .ok z S
        | none => .stuck
      | none => .stuck
    | none => match d with
      | .int i => match x with
        | .v (.str z) => if z.length ≤ 16777216 then (match atI z.cps.toList i with
          | some c => .ok (.v (.str ⟨#[c]⟩)) S
          | none => .stuck) else .stuck
        | x => match qview S x with
          | some xs => match atI xs i with
            | some z => .ok z S
            | none => .stuck
          | none => .stuck
      | _ => .stuck
  | _ => .stuck
def rIxK : R2 := fun x y H Q => ∃ a v, x = .ref a ∧ DGet H a y (some v) ∧ Q v H
theorem ix_dK {X : Cx} (hu : X.A.units + 1 < cLine) : IxR X rIxK := by
  intro value slice pins s σ H x y v u Q I rx ry h hs
  obtain ⟨a, v0, rfl, g, q⟩ := h
  cases rx
  exact tail_any (dict_typeIs I g) PySem.F.slot_dict_getitem.lookup (d_getItem hu I g ry fun w' s3 I3 rw' => ⟨v0, H, I3, rw', q⟩) hs
theorem pget_dK {X : Cx} (hu : X.A.units + 1 < cLine) : PGet X rIxK := by
  intro pins s σ H x y v u Q I rx ry h
  obtain ⟨a, v0, rfl, g, q⟩ := h
  cases rx
  exact d_getItem hu I g ry fun w' s3 I3 rw' => ⟨v0, H, I3, rw', q⟩
theorem pget_list {X : Cx} : PGet X (rIxL X.K) := by
  intro pins s σ H x y v u Q I rx ry h
  obtain ⟨p, xs, i, z, rfl, rfl, hq, he, q⟩ := h
  cases rx
  obtain ⟨t, rfl⟩ := ry
  obtain ⟨its, r, pl, hz⟩ := I.list hq
  obtain ⟨j, h1, h2, h3, h4, h5⟩ := atI_get he
  obtain ⟨w, ew, rw'⟩ := r.get h2
  have hl := r.length
  have hn := line63
  have fin : EP X pins σ Q w s := ⟨z, H, I, rw', q⟩
  by_cases h0 : 0 ≤ i
  · have hj : i.toNat = j := by
      rw [seqIndex_of h0 h5] at h1
      exact Option.some.inj h1
    exact wpAny_getItem_list pl.isList h0 (by omega) (by rw [hj]; simpa using ew) fin
  · have hj : (i + (its.toArray.size : Int)).toNat = j := by
      rw [seqIndex_neg (by omega) h4] at h1
      rw [List.size_toArray, ← hl]
      exact Option.some.inj h1
    exact wpAny_getItem_list_neg pl.isList (by omega) (by rw [List.size_toArray] <;> omega) (by omega) (by rw [hj]; simpa using ew) fin
def rIxA (K : PySem.W.Frag) : R2 := fun x y H Q => rIx K x y H Q ∨ rIxK x y H Q
theorem ix_all {X : Cx} (hu : X.A.units + 1 < cLine) : IxR X (rIxA X.K) := ix_seq.or (ix_dK hu)
section
variable {g : G} {W : WX}
theorem fIx_of : OpD g W fIx (rIxA g.K) := by
  intro s w H S v u x y Q hS hx hy h
  unfold fIx at h
  split at h
  · rename_i d
    cases hy with
    | v hy =>
      split at h
      · rename_i ps hp
        obtain ⟨a, kvs, rfl, q, r⟩ := dview_rep hS hx hp
        split at h
        · rename_i k hk
          have ed := keyOf_eq hk
          subst ed
          split at h
          · rename_i z hz
            obtain ⟨v0, e1, e2⟩ := (r.get (k := k)).1 z hz
            refine .inr ⟨a, v0, rfl, .inl ⟨kvs, k, q, ?_, e1.symm⟩, h w H _ (Ext.refl _ _) hS e2⟩
            cases k with
            | inl i => cases hy; rfl
            | inr i => cases hy; rfl
          · exact h.elim
        · exact h.elim
      · split at h
        · rename_i i
          cases hy
          split at h
          · rename_i z _
            cases hx with
            | v hx =>
              cases hx
              split at h
              · rename_i hl
                split at h
                · rename_i c hc
                  exact .inl (.inr (.inr ⟨z, i, c, rfl, rfl, line_of hl, hc, h w H _ (Ext.refl _ _) hS (.v (.str _))⟩))
                · exact h.elim
              · exact h.elim
          · split at h
            · rename_i xs hxs
              obtain ⟨a, vs, rfl, q, r⟩ := qview_rep hS hx hxs
              split at h
              · rename_i z hz
                obtain ⟨j, e1, e2⟩ := atI_len r.len hz
                obtain ⟨v0, e3, e4⟩ := r.at e1
                have fin := h w H _ (Ext.refl _ _) hS e4
                rcases q with q | q
                · exact .inl (.inl ⟨a, vs, i, v0, rfl, rfl, q, e2 _ e3, fin⟩)
                · exact .inl (.inr (.inl ⟨a, vs, i, v0, rfl, rfl, q, e2 _ e3, fin⟩))
              · exact h.elim
            · exact h.elim
        · exact h.elim
  · exact h.elim
end
section
variable {X : Cx} {T : List (Addr × Str)} {W : WX} {a b : Expr} {pos : Pos} {ma mb : EM}
theorem e_ix (hu : X.A.units + 1 < cLine) (ha : PE X a (rd (gX X T) W ma)) (hb : PE X b (rd (gX X T) W mb)) (hs : PlainIx b := by intro _ _; rfl) : PE X (.Subscript a b pos) (rd (gX X T) W (eBin fIx ma mb)) :=
  PE_imp (pe_ix (ix_all hu) ha hb hs) (bin_rd fIx_of)
end

/-! ### a[lo:hi] -/
def cutG {α : Type} (xs : List α) (lo hi : Option Int) : List α := (xs.drop (HT.sIx xs.length 0 lo)).take (HT.sIx xs.length xs.length hi - HT.sIx xs.length 0 lo)
theorem RepVs.cut {g : G} {w : Wd} {vs : List V} {xs : List Vl} (r : RepVs g w vs xs) (lo hi : Option Int) : RepVs g w (cutV vs lo hi) (cutG xs lo hi) := by
  unfold cutV cutG
  rw [r.len]
  exact (r.drop _).take _
theorem RepAll.cut {g : G} {F : Hp} {vs : List V} {xs : List D} (r : RepAll g F vs xs) (lo hi : Option Int) : RepAll g F (cutV vs lo hi) (cutG xs lo hi) := by
  unfold cutV cutG
  rw [r.len]
  exact (r.drop _).take _
theorem cut_whole {α : Type} (xs : List α) {lo hi : Option Int} (h : HT.sIx xs.length 0 lo = 0 ∧ HT.sIx xs.length xs.length hi = xs.length) : cutG xs lo hi = xs := by
  unfold cutG
  rw [h.1, h.2]; simp
def oNone : OM := fun _ S => .ok none S
def oSome (m : EM) : OM := fun e S => (m e S).bind fun x S1 => match x with
  | .v (.int i) => .ok (some i) S1
  | _ => .stuck
def llview (S : Store) : Vl → Option (List Vl)
  | .v (.lst ds) => some (ds.map .v)
  | .v (.scr ds) => some (ds.map .v)
  | .r n => match S[n]? with
    | some (.lst xs) => some xs
    | _ => none
  | _ => none
theorem llview_rep {g : G} {w : Wd} {H : Hp} {S : Store} {v : V} {x : Vl} (h : RepSt g w H S) (r : RepV g w v x) {xs : List Vl} (e : llview S x = some xs) : ∃ a vs, v = .ref a ∧ SqL g.K H a vs ∧ RepVs g w vs xs := by
  cases r with
  | v r =>
    cases r with
    | lst q z => simp only [llview, Option.some.injEq] at e; subst e; exact ⟨_, _, rfl, SqL.of (h.le _ _ q), z.vs⟩
    | scr q z => simp only [llview, Option.some.injEq] at e; subst e; exact ⟨_, _, rfl, sqL_le h.hle q, z.vs⟩
    | _ => simp [llview] at e
  | @r n a r =>
    simp only [llview] at e
    split at e
    · rename_i c hc
      cases e
      obtain ⟨vs, q, z⟩ := h.cel _ _ _ r hc
      exact ⟨_, vs, rfl, SqL.of q, z⟩
    · cases e
abbrev KL := List Vl → Store → Out Vl
def fSl (k : KL) (x : Vl) (lo hi : Option Int) (S : Store) : Out Vl := match x with
  | .v (.tup ds) => .ok (.v (.tup (cutG ds lo hi))) S
  | .v (.str z) => if z.length ≤ 16777216 then .ok (.v (.str (cutS z lo hi))) S else .stuck
  | x => match llview S x with
    | some xs => k (cutG xs lo hi) S
    | none => .stuck
def rSlAll (K : PySem.W.Frag) : V → Option Int → Option Int → Hp → VK → Prop := fun x lo hi H Q => (rSlL K x lo hi H Q ∨ rSlF K x lo hi H Q) ∨ rSlS x lo hi H Q
theorem sl_all {X : Cx} : SlR X (rSlAll X.K) := (sl_list.or sl_tupF).or sl_str
def eSl (k : KL) (m : EM) (lo hi : OM) : EM := fun e S => (m e S).bind fun x S1 => (lo e S1).bind fun l S2 => (hi e S2).bind fun h S3 => fSl k x l h S3
section
variable {X : Cx} {T : List (Addr × Str)} {W : WX} {g : G} {a b : Expr} {pos p2 : Pos} {ma mb : EM} {k : KL} {lo hi : Option Expr} {ml mh : OM}
theorem o_none : PO X none (rdO (gX X T) W oNone) := PO_imp po_none fun s H Q ⟨w, e, S, hS, hE, h⟩ => h w H none (Ext.refl _ _) hS rfl
theorem o_some (h : PE X a (rd (gX X T) W ma)) : PO X (some a) (rdO (gX X T) W (oSome ma)) := PO_imp (po_some h) fun s H Q h => rd_bind (f := fun x _ S1 => match x with
  | .v (.int i) => .ok (some i) S1
  | _ => .stuck) h fun w1 H1 S1 e v x hS hE hx h1 => by
    split at h1
    · cases hx with
      | v hx => cases hx; exact ⟨_, rfl, h1 w1 H1 _ (Ext.refl _ _) hS rfl⟩
    · exact h1.elim
theorem e_sl (hk : TakesList (gX X T) W k) (ha : PE X a (rd (gX X T) W ma)) (hl : PO X lo (rdO (gX X T) W ml)) (hh : PO X hi (rdO (gX X T) W mh)) : PE X (.Subscript a (.Slice lo hi none p2) pos) (rd (gX X T) W (eSl k ma ml mh)) :=
  PE_imp (pe_slice sl_all ha hl hh) fun s H Q h => rd_bind (f := fun x e S1 => (ml e S1).bind fun l S2 => (mh e S2).bind fun h S3 => fSl k x l h S3) h fun w1 H1 S1 e v x hS hE hx h1 => by
    refine ⟨w1, e, S1, hS, hE, h1.bind.imp fun l H2 ⟨w2, S2, l', hS2, el, ex2, h2⟩ => ?_⟩
    have el : l = l' := el
    subst el
    refine ⟨w2, e, S2, hS2, hE.le ex2.wle, h2.bind.imp fun u H3 ⟨w3, S3, u', hS3, eu, ex3, h3⟩ => ?_⟩
    have eu : u = u' := eu
    subst eu
    have hx3 := (hx.le ex2.wle).le ex3.wle
    unfold fSl at h3
    split at h3
    · cases hx3 with
      | v hx =>
        cases hx with
        | tup q r =>
          refine .inl (.inr ⟨_, _, rfl, sqT_le hS3.hle q.sq, fun wh => ?_, fun wh => sat_newT hS3 (r.cut _ _) h3⟩)
          rw [r.len] at wh
          rw [cut_whole _ wh] at h3
          exact h3 w3 H3 _ (Ext.refl _ _) hS3 (.v (.tup q r))
    · cases hx3 with
      | v hx =>
        cases hx
        split at h3
        · rename_i hz
          exact .inr ⟨_, rfl, line_of hz, h3 w3 H3 _ (Ext.refl _ _) hS3 (.v (.str _))⟩
        · exact h3.elim
    · split at h3
      · rename_i xs hxs
        obtain ⟨p, vs, rfl, q, r⟩ := llview_rep hS3 hx3 hxs
        exact .inl (.inl ⟨p, vs, rfl, q, hk hS3 (r.cut _ _) h3⟩)
      · exact h3.elim
end

/-! ### built-ins -/
def rLenA (K : PySem.W.Frag) : List V → Hp → VK → Prop := fun xs H Q => (∃ p ys, xs = [.ref p] ∧ (SqL K H p ys ∨ SqT K H p ys) ∧ Q (.int ys.length) H) ∨ ((∃ z, xs = [.str z] ∧ z.length ≤ sizeLine ∧ Q (.int z.length) H) ∨ ∃ a kvs, xs = [.ref a] ∧ Rd H a (.dK kvs) ∧ Q (.int kvs.length) H)
theorem call_lenDk {X : Cx} : CallR X (.builtin "len") (fun xs H Q => ∃ a kvs, xs = [.ref a] ∧ Rd H a (.dK kvs) ∧ Q (.int kvs.length) H) := by
  intro pins s σ H xs us Q I r h
  obtain ⟨a, kvs, rfl, e, q⟩ := h
  obtain ⟨u, rfl, rx⟩ := vals1 r
  cases rx
  exact d_len I e fun t s' I' => ⟨.int kvs.length, H, I', ⟨_, rfl⟩, q⟩
theorem call_lenA {X : Cx} : CallR X (.builtin "len") (rLenA X.K) := call_len_seq.or (call_len_str.or call_lenDk)
def fLen (xs : List Vl) (S : Store) : Out Vl := match xs with
  | [.v (.str z)] => if z.length ≤ 16777216 then .ok (.v (.int z.length)) S else .stuck
  | [x] => match qview S x with
    | some ys => .ok (.v (.int ys.length)) S
    | none => match dview S x with
      | some ps => .ok (.v (.int ps.length)) S
      | none => .stuck
  | _ => .stuck
def rListA (K : PySem.W.Frag) : List V → Hp → VK → Prop := fun xs H Q => (∃ p ys, xs = [.ref p] ∧ (SqL K H p ys ∨ SqT K H p ys) ∧ ∀ l, H l = none → Q (.ref l) (upd H l (.lst ys))) ∨
  ∃ (a : Addr) (kvs : List (Key × V)), xs = [.ref a] ∧ Rd H a (.dK kvs) ∧ ∀ p, H p = none → Q (.ref p) (upd H p (.lst (kvs.map fun kv => kV kv.1)))
theorem call_listA {X : Cx} (hc : X.calm = true) : CallR X (.type "list") (rListA X.K) := call_list_of.or (call_listD hc)
def fList (k : KL) (xs : List Vl) (S : Store) : Out Vl := match xs with
  | [x] => match qview S x with
    | some ys => k ys S
    | none => match dview S x with
      | some ps => k (ps.map fun p => .v p.1) S
      | none => .stuck
  | _ => .stuck
def fTuple (xs : List Vl) (S : Store) : Out Vl := match xs with
  | [.v (.tup ds)] => .ok (.v (.tup ds)) S
  | [x] => match llview S x with
    | some ys => match unv ys with
      | some ds => .ok (.v (.tup ds)) S
      | none => .stuck
    | none => .stuck
  | _ => .stuck
def vInts : List Vl → Option (List Int)
  | [] => some []
  | .v (.int i) :: r => (vInts r).map (i :: ·)
  | _ => none
def vBls : List Vl → Option (List Bool)
  | [] => some []
  | .v (.bl i) :: r => (vBls r).map (i :: ·)
  | _ => none
theorem ints_map : ∀ ns : List Int, vInts (ns.map fun i => .v (.int i)) = some ns
  | [] => rfl
  | n :: ns => by simp [vInts, ints_map ns]
theorem bls_map : ∀ ns : List Bool, vBls (ns.map fun i => .v (.bl i)) = some ns
  | [] => rfl
  | n :: ns => by simp [vBls, bls_map ns]
theorem ints_rep {g : G} {w : Wd} : ∀ {vs : List V} {xs : List Vl} {ns : List Int}, RepVs g w vs xs → vInts xs = some ns → vs = ns.map V.int
  | _, [], ns, .nil, e => by simp [vInts] at e; subst e; rfl
  | _, x :: xs, ns, .cons h r, e => by
    cases x with
    | r n => simp [vInts] at e
    | v d =>
      cases d <;> simp [vInts] at e
      obtain ⟨ms, e1, e2⟩ := e
      subst e2
      cases h with
      | v h => cases h; rw [ints_rep r e1]; rfl
theorem bls_rep {g : G} {w : Wd} : ∀ {vs : List V} {xs : List Vl} {ns : List Bool}, RepVs g w vs xs → vBls xs = some ns → vs = ns.map V.bl
  | _, [], ns, .nil, e => by simp [vBls] at e; subst e; rfl
  | _, x :: xs, ns, .cons h r, e => by
    cases x with
    | r n => simp [vBls] at e
    | v d =>
      cases d <;> simp [vBls] at e
      obtain ⟨ms, e1, e2⟩ := e
      subst e2
      cases h with
      | v h => cases h; rw [bls_rep r e1]; rfl
def fAll (xs : List Vl) (S : Store) : Out Vl := match xs with
  | [x] => match (llview S x).bind vBls with
    | some bs => .ok (.v (.bl (bs.all id))) S
    | none => .stuck
  | _ => .stuck
def fAny (xs : List Vl) (S : Store) : Out Vl := match xs with
  | [x] => match (llview S x).bind vBls with
    | some bs => .ok (.v (.bl (bs.any id))) S
    | none => .stuck
  | _ => .stuck
def fSum (xs : List Vl) (S : Store) : Out Vl := match xs with
  | [x] => match (llview S x).bind vInts with
    | some ns => .ok (.v (.int ns.sum)) S
    | none => .stuck
  | _ => .stuck
def maxL : List Int → Int
  | [] => 0
  | [x] => x
  | x :: r => max x (maxL r)
def minL : List Int → Int
  | [] => 0
  | [x] => x
  | x :: r => min x (minL r)
theorem maxL_ge : ∀ (ns : List Int) (y : Int), y ∈ ns → y ≤ maxL ns
  | [x], y, h => by simp at h; subst h; exact Int.le_refl _
  | x :: a :: r, y, h => by
    rcases List.mem_cons.mp h with h | h
    · subst h; exact Int.le_max_left _ _
    · exact Int.le_trans (maxL_ge (a :: r) y h) (Int.le_max_right _ _)
theorem minL_le : ∀ (ns : List Int) (y : Int), y ∈ ns → minL ns ≤ y
  | [x], y, h => by simp at h; subst h; exact Int.le_refl _
  | x :: a :: r, y, h => by
    rcases List.mem_cons.mp h with h | h
    · subst h; exact Int.min_le_left _ _
    · exact Int.le_trans (Int.min_le_right _ _) (minL_le (a :: r) y h)
theorem maxL_mem : ∀ (ns : List Int), ns ≠ [] → maxL ns ∈ ns
  | [x], _ => by simp [maxL]
  | x :: a :: r, _ => by
    have ih := maxL_mem (a :: r) (by simp)
    show max x (maxL (a :: r)) ∈ _
    rcases Int.le_total x (maxL (a :: r)) with h | h
    · rw [Int.max_eq_right h]; exact List.mem_cons_of_mem _ ih
    · rw [Int.max_eq_left h]; simp
theorem minL_mem : ∀ (ns : List Int), ns ≠ [] → minL ns ∈ ns
  | [x], _ => by simp [minL]
  | x :: a :: r, _ => by
    have ih := minL_mem (a :: r) (by simp)
    show min x (minL (a :: r)) ∈ _
    rcases Int.le_total x (minL (a :: r)) with h | h
    · rw [Int.min_eq_left h]; simp
    · rw [Int.min_eq_right h]; exact List.mem_cons_of_mem _ ih
def fMax (xs : List Vl) (S : Store) : Out Vl := match xs with
  | [x] => match (llview S x).bind vInts with
    | some ns => if ns = [] then .stuck else .ok (.v (.int (maxL ns))) S
    | none => .stuck
  | _ => .stuck
def fMin (xs : List Vl) (S : Store) : Out Vl := match xs with
  | [x] => match (llview S x).bind vInts with
    | some ns => if ns = [] then .stuck else .ok (.v (.int (minL ns))) S
    | none => .stuck
  | _ => .stuck
def fMax2 (xs : List Vl) (S : Store) : Out Vl := match xs with
  | [.v (.int i), .v (.int j)] => .ok (.v (.int (max i j))) S
  | _ => .stuck
def fMin2 (xs : List Vl) (S : Store) : Out Vl := match xs with
  | [.v (.int i), .v (.int j)] => .ok (.v (.int (min i j))) S
  | _ => .stuck
def fInt1 (xs : List Vl) (S : Store) : Out Vl := match xs with
  | [.v (.int i)] => .ok (.v (.int i)) S
  | [.v (.bl k)] => .ok (.v (.int (if k then 1 else 0))) S
  | _ => .stuck
section
variable {g : G} {W : WX}
theorem fLen_of : CalD g W fLen (rLenA g.K) := by
  intro s w H S vs xs Q hS hx h
  unfold fLen at h
  split at h
  · cases hx with
    | cons h1 hx =>
      cases hx
      cases h1 with
      | v h1 =>
        cases h1
        split at h
        · rename_i hl
          exact .inr (.inl ⟨_, rfl, line_of hl, h w H _ (Ext.refl _ _) hS (.v (.int _))⟩)
        · exact h.elim
  · cases hx with
    | cons h1 hx =>
      cases hx
      split at h
      · rename_i ys hy
        obtain ⟨a, us, rfl, q, r⟩ := qview_rep hS h1 hy
        exact .inl ⟨a, us, rfl, q, h w H _ (Ext.refl _ _) hS (.v (by rw [r.len]; exact .int _))⟩
      · split at h
        · rename_i ps hp
          obtain ⟨a, kvs, rfl, q, r⟩ := dview_rep hS h1 hp
          exact .inr (.inr ⟨a, kvs, rfl, q, h w H _ (Ext.refl _ _) hS (.v (by rw [r.len]; exact .int _))⟩)
        · exact h.elim
  · exact h.elim
theorem RepKV.keys {w : Wd} : ∀ {kvs : List (Key × V)} {ps : List (D × Vl)}, RepKV g w kvs ps → RepVs g w (kvs.map fun kv => kV kv.1) (ps.map fun p => .v p.1)
  | _, _, .nil => .nil
  | _, _, .cons (k := k) _ r => .cons (.v (by cases k; exact .int _; exact .str _)) (RepKV.keys r)
theorem fList_of {k : KL} (hk : TakesList g W k) : CalD g W (fList k) (rListA g.K) := by
  intro s w H S vs xs Q hS hx h
  unfold fList at h
  split at h
  · cases hx with
    | cons h1 hx =>
      cases hx
      split at h
      · rename_i ys hy
        obtain ⟨a, us, rfl, q, r⟩ := qview_rep hS h1 hy
        exact .inl ⟨a, us, rfl, q, hk hS r h⟩
      · split at h
        · rename_i ps hp
          obtain ⟨a, kvs, rfl, q, r⟩ := dview_rep hS h1 hp
          exact .inr ⟨a, kvs, rfl, q, hk hS r.keys h⟩
        · exact h.elim
  · exact h.elim
theorem fTuple_of : CalD g W fTuple (fun xs H Q => ∃ p ys, xs = [.ref p] ∧ ((SqL g.K H p ys ∧ NewT H ys Q) ∨ (SqT g.K H p ys ∧ Q (.ref p) H))) := by
  intro s w H S vs xs Q hS hx h
  unfold fTuple at h
  split at h
  · cases hx with
    | cons h1 hx =>
      cases hx
      cases h1 with
      | v h1 =>
        cases h1 with
        | tup q r => exact ⟨_, _, rfl, .inr ⟨sqT_le hS.hle q.sq, h w H _ (Ext.refl _ _) hS (.v (.tup q r))⟩⟩
  · cases hx with
    | cons h1 hx =>
      cases hx
      split at h
      · rename_i ys hy
        obtain ⟨a, us, rfl, q, r⟩ := llview_rep hS h1 hy
        split at h
        · rename_i ds hd
          exact ⟨a, us, rfl, .inl ⟨q, sat_newT hS (r.un hd) h⟩⟩
        · exact h.elim
      · exact h.elim
  · exact h.elim
theorem bls_of {w : Wd} {H : Hp} {S : Store} {v : V} {x : Vl} {bs : List Bool} (hS : RepSt g w H S) (hx : RepV g w v x) (e : (llview S x).bind vBls = some bs) : ∃ a, v = .ref a ∧ SqL g.K H a (bs.map V.bl) := by
  obtain ⟨ys, e1, e2⟩ := Option.bind_eq_some_iff.mp e
  obtain ⟨a, us, rfl, q, r⟩ := llview_rep hS hx e1
  rw [bls_rep r e2] at q
  exact ⟨a, rfl, q⟩
theorem ints_of {w : Wd} {H : Hp} {S : Store} {v : V} {x : Vl} {bs : List Int} (hS : RepSt g w H S) (hx : RepV g w v x) (e : (llview S x).bind vInts = some bs) : ∃ a, v = .ref a ∧ SqL g.K H a (bs.map V.int) := by
  obtain ⟨ys, e1, e2⟩ := Option.bind_eq_some_iff.mp e
  obtain ⟨a, us, rfl, q, r⟩ := llview_rep hS hx e1
  rw [ints_rep r e2] at q
  exact ⟨a, rfl, q⟩
theorem fAll_of : CalD g W fAll (rAll g.K) := by
  intro s w H S vs xs Q hS hx h
  unfold fAll at h
  split at h
  · cases hx with
    | cons h1 hx =>
      cases hx
      split at h
      · rename_i bs hb
        obtain ⟨a, rfl, q⟩ := bls_of hS h1 hb
        exact ⟨a, bs, rfl, q, h w H _ (Ext.refl _ _) hS (.v (.bl _))⟩
      · exact h.elim
  · exact h.elim
theorem fAny_of : CalD g W fAny (rAny g.K) := by
  intro s w H S vs xs Q hS hx h
  unfold fAny at h
  split at h
  · cases hx with
    | cons h1 hx =>
      cases hx
      split at h
      · rename_i bs hb
        obtain ⟨a, rfl, q⟩ := bls_of hS h1 hb
        exact ⟨a, bs, rfl, q, h w H _ (Ext.refl _ _) hS (.v (.bl _))⟩
      · exact h.elim
  · exact h.elim
theorem fSum_of : CalD g W fSum (rSum g.K) := by
  intro s w H S vs xs Q hS hx h
  unfold fSum at h
  split at h
  · cases hx with
    | cons h1 hx =>
      cases hx
      split at h
      · rename_i bs hb
        obtain ⟨a, rfl, q⟩ := ints_of hS h1 hb
        exact ⟨a, bs, rfl, q, h w H _ (Ext.refl _ _) hS (.v (.int _))⟩
      · exact h.elim
  · exact h.elim
theorem fMax_of : CalD g W fMax (rMax g.K) := by
  intro s w H S vs xs Q hS hx h
  unfold fMax at h
  split at h
  · cases hx with
    | cons h1 hx =>
      cases hx
      split at h
      · rename_i bs hb
        obtain ⟨a, rfl, q⟩ := ints_of hS h1 hb
        split at h
        · exact h.elim
        · rename_i ne
          refine ⟨a, bs, rfl, q, List.length_pos_iff.mpr ne, fun m hm hg => ?_⟩
          rw [show m = maxL bs from Int.le_antisymm (maxL_ge _ _ hm) (hg _ (maxL_mem _ ne))]
          exact h w H _ (Ext.refl _ _) hS (.v (.int _))
      · exact h.elim
  · exact h.elim
theorem fMin_of : CalD g W fMin (rMin g.K) := by
  intro s w H S vs xs Q hS hx h
  unfold fMin at h
  split at h
  · cases hx with
    | cons h1 hx =>
      cases hx
      split at h
      · rename_i bs hb
        obtain ⟨a, rfl, q⟩ := ints_of hS h1 hb
        split at h
        · exact h.elim
        · rename_i ne
          refine ⟨a, bs, rfl, q, List.length_pos_iff.mpr ne, fun m hm hg => ?_⟩
          rw [show m = minL bs from Int.le_antisymm (hg _ (minL_mem _ ne)) (minL_le _ _ hm)]
          exact h w H _ (Ext.refl _ _) hS (.v (.int _))
      · exact h.elim
  · exact h.elim
theorem two_ints {w : Wd} {vs : List V} {i j : Int} (h : RepVs g w vs [.v (.int i), .v (.int j)]) : vs = [.int i, .int j] := by
  cases h with
  | cons h1 h =>
    cases h with
    | cons h2 h =>
      cases h
      cases h1 with
      | v h1 => cases h1; cases h2 with
        | v h2 => cases h2; rfl
theorem fMax2_of : CalD g W fMax2 (fun xs H Q => ∃ i j, xs = [.int i, .int j] ∧ Q (.int (if j > i then j else i)) H) := by
  intro s w H S vs xs Q hS hx h
  unfold fMax2 at h
  split at h
  · rename_i i j
    refine ⟨i, j, two_ints hx, h w H _ (Ext.refl _ _) hS (.v ?_)⟩
    have : max i j = if j > i then j else i := by
      split
      · exact Int.max_eq_right (by omega)
      · exact Int.max_eq_left (by omega)
    rw [this]; exact .int _
  · exact h.elim
theorem fMin2_of : CalD g W fMin2 (fun xs H Q => ∃ i j, xs = [.int i, .int j] ∧ Q (.int (if j < i then j else i)) H) := by
  intro s w H S vs xs Q hS hx h
  unfold fMin2 at h
  split at h
  · rename_i i j
    refine ⟨i, j, two_ints hx, h w H _ (Ext.refl _ _) hS (.v ?_)⟩
    have : min i j = if j < i then j else i := by
      split
      · exact Int.min_eq_right (by omega)
      · exact Int.min_eq_left (by omega)
    rw [this]; exact .int _
  · exact h.elim
theorem fInt1_of : CalD g W fInt1 (fun xs H Q => (∃ i, xs = [.int i] ∧ Q (.int i) H) ∨ ∃ k, xs = [.bl k] ∧ Q (.int (if k then 1 else 0)) H) := by
  intro s w H S vs xs Q hS hx h
  unfold fInt1 at h
  split at h
  · cases hx with
    | cons h1 hx =>
      cases hx
      cases h1 with
      | v h1 => cases h1; exact .inl ⟨_, rfl, h w H _ (Ext.refl _ _) hS (.v (.int _))⟩
  · cases hx with
    | cons h1 hx =>
      cases hx
      cases h1 with
      | v h1 => cases h1; exact .inr ⟨_, rfl, h w H _ (Ext.refl _ _) hS (.v (.int _))⟩
  · exact h.elim
end

/-! ### list(range(..)) -/
def eLstRg (k : KL) (it : IM) : EM := fun e S => (it e S).bind fun xs S1 => if xs.length ≤ 16777216 then k xs S1 else .stuck
theorem rgV_rep {g : G} {w : Wd} (a b : Int) : RepVs g w (rgV a b) ((rngD a 1 (b - a).toNat).map .v) := by
  unfold rgV rngD
  generalize List.range (b - a).toNat = l
  induction l with
  | nil => exact .nil
  | cons i l ih => exact .cons (.v (by
    have e : (a + (i : Int) * 1) = a + (i : Int) := by omega
    show Rep g w.F (.int (a + (i : Int))) (.int (a + (i : Int) * 1))
    rw [e]; exact .int _)) ih
section
variable {X : Cx} {T : List (Addr × Str)} {W : WX} {a b : Expr} {p p2 pos pos2 : Pos} {ma mb : EM} {k : KL}
theorem e_lrg1 (hk : TakesList (gX X T) W k) (hc : X.calm = true) (hm : X.mg "list" = none) (hm2 : X.mg "range" = none) (ha : PE X a (rd (gX X T) W ma)) (hg : Gl X "list" := by rfl) (hg2 : Gl X "range" := by rfl)
    (na : starEach [.Call (.Name "range" p2) [a] [] pos2] X.env = (false, eval (.Call (.Name "range" p2) [a] [] pos2) X.env) :: starEach [] X.env := by rfl) (na2 : starEach [a] X.env = (false, eval a X.env) :: starEach [] X.env := by rfl) :
    PE X (.Call (.Name "list" p) [.Call (.Name "range" p2) [a] [] pos2] [] pos) (rd (gX X T) W (eLstRg k (iRn1 (aCons ma aNil)))) :=
  PE_imp (pe_listRg hc hg hm (prg_1 hg2 hm2 ha na2) na) fun s H Q ⟨w, e, S, hS, hE, h⟩ => ⟨w, e, S, hS, hE, by
    unfold eLstRg iRn1 aCons aNil at h
    generalize ma e S = o at h
    cases o with
    | stuck => exact h.elim
    | exc c fs S1 => exact h
    | ok x S1 =>
      simp only [Out.bind] at h
      intro w1 H1 v ex hS1 hx
      unfold kRng1 at h
      split at h
      · rename_i heq
        split at heq
        · rename_i j he
          cases he
          cases hx with
          | v hx =>
            cases hx
            split at heq
            · rename_i hj
              cases heq
              obtain ⟨a1, a2⟩ := smallI_of hj
              split at h
              · rename_i hl
                refine ⟨j, rfl, ⟨by omega, by omega, a1, a2, by simp [rngD] at hl; omega⟩, ?_⟩
                have r := rgV_rep (g := gX X T) (w := w1) 0 j
                rw [Int.sub_zero] at r
                exact hk hS1 r (SatG.ext h ex)
              · exact h.elim
            · cases heq
        · cases heq
      · rename_i heq
        split at heq
        · split at heq <;> cases heq
        · cases heq
      · exact h.elim⟩
end
end Ax
/-! Ax8: isinstance, in, methods, stores, dict comprehensions -/
namespace Ax
open PySem PySem.Spec PyProof.Rows L2

/-! ### isinstance -/
def tyN (S : Store) : Vl → Option String
  | .v .non => some "NoneType"
  | .v (.bl _) => some "bool"
  | .v (.int _) => some "int"
  | .v (.str _) => some "str"
  | .v (.tup _) => some "tuple"
  | .v (.lst _) => some "list"
  | .v (.scr _) => some "list"
  | .v (.dct _) => some "dict"
  | .r n => match S[n]? with
    | some (.lst _) => some "list"
    | some (.dct _) => some "dict"
    | _ => none
  | _ => none
theorem tyN_rep {g : G} {w : Wd} {H : Hp} {S : Store} {v : V} {x : Vl} (hS : RepSt g w H S) (hx : RepV g w v x) {n : String} (e : tyN S x = some n) : TyX g.K H v (.type n) := by
  cases hx with
  | v hx =>
    cases hx with
    | non => cases e; exact .base .non
    | bl b => cases e; exact .base (.bl b)
    | int b => cases e; exact .base (.int b)
    | str b => cases e; exact .base (.str b)
    | ty n => cases e
    | fn h => cases e
    | ptp h r => cases e
    | ins h h2 r => cases e
    | tup q r =>
      cases e
      rcases q with ⟨o, q, _⟩ | ⟨o, its, k, q1, q2, _⟩
      · exact .fTuple (hS.le _ _ q)
      · exact .kTuple q1 q2
    | lst q r => cases e; exact .base (.lst (hS.le _ _ q))
    | scr q r =>
      cases e
      rcases sqL_le hS.hle q with (q | ⟨o, q⟩) | ⟨o, its, k, q1, q2, _⟩
      · exact .base (.lst q)
      · exact .base (.frz q)
      · exact .kList q1 q2
    | dK q r =>
      cases e
      rcases hS.hle.rd _ (.dK _) trivial q with q | ⟨o, q⟩
      · exact .base (.dK q)
      · exact .fDict q
  | @r m a r =>
    simp only [tyN] at e
    split at e
    · rename_i c hc
      cases e
      obtain ⟨vs, q, z⟩ := hS.cel _ _ _ r hc
      exact .base (.lst q)
    · rename_i c hc
      cases e
      obtain ⟨vs, q, z⟩ := hS.cel _ _ _ r hc
      exact .base (.dK q)
    · cases e
def tyAs : List String := ["NoneType", "bool", "int", "str", "tuple", "list", "dict"]
def tyBs : List String := ["bool", "int", "str", "tuple", "list", "dict"]
def isSub (a b : String) : Bool := a == b || (a == "bool" && b == "int")
theorem isSub_ok : ∀ a ∈ tyAs, ∀ b ∈ tyBs, kitB a b = some (isSub a b) := by decide +kernel
theorem tyN_mem {S : Store} {x : Vl} {n : String} (e : tyN S x = some n) : n ∈ tyAs := by
  unfold tyN at e
  split at e
  case h_9 => split at e <;> cases e <;> decide
  all_goals first | (cases e; decide) | cases e
def isSubs (a : String) (bs : List D) : Option Bool := match bs with
  | [] => some false
  | .ty b :: r => if tyBs.contains b then (isSubs a r).map (isSub a b || ·) else none
  | _ => none
def fIsi (xs : List Vl) (S : Store) : Out Vl := match xs with
  | [x, .v (.ty b)] => match tyN S x with
    | some a => if tyBs.contains b then .ok (.v (.bl (isSub a b))) S else .stuck
    | none => .stuck
  | [x, .v (.tup bs)] => match tyN S x with
    | some a => match isSubs a bs with
      | some r => .ok (.v (.bl r)) S
      | none => .stuck
    | none => .stuck
  | _ => .stuck
/-- isinstance(x, (c1, ..)), any tuple -/
def rIsiF (K : PySem.W.Frag) : List V → Hp → VK → Prop := fun xs H Q => ∃ (x : V) (tp : Addr) (cs : List V) (t : Value) (us : List Value) (b : Bool), xs = [x, .ref tp] ∧ SqT K H tp cs ∧ Paired ClsV cs us ∧ TyX K H x t ∧ PySem.W.kitAny K t us = some b ∧ Q (.bl b) H
theorem call_isiF {X : Cx} : CallR X (.builtin "isinstance") (rIsiF X.K) := by
  intro pins s σ H xs us Q I r h
  obtain ⟨x, tp, cs, t, ws, b, rfl, hT, k, ty, e, q⟩ := h
  obtain ⟨u1, u2, rfl, r1, r2⟩ := vals2 r
  cases (show u2 = Value.ref tp from r2)
  obtain ⟨P, Z, p, hx⟩ := kit_of I r1 ty
  obtain ⟨its, rv, pl, _⟩ := I.tuple hT
  obtain ⟨o, h1, h2, n, h3⟩ := pl
  have e3 := ClsV.all k rv
  subst e3
  obtain ⟨oc, od, dt, sl⟩ := o
  simp only at h2 h3
  subst h2 h3
  exact PySem.W.kia_tup Z I.kIn p h1 e hx fun tk => ⟨.bl b, H, I.tok tk, rfl, q⟩
def rIsiA (K : PySem.W.Frag) : List V → Hp → VK → Prop := fun xs H Q => rIsi K xs H Q ∨ rIsiF K xs H Q
theorem call_isiA {X : Cx} : CallR X (.builtin "isinstance") (rIsiA X.K) := call_isi.or call_isiF
theorem isSubs_ok {K : PySem.W.Frag} {g : G} {F : Hp} {a : String} (ha : a ∈ tyAs) : ∀ {cs : List V} {bs : List D} {r : Bool}, RepAll g F cs bs → isSubs a bs = some r → ∃ us, Paired ClsV cs us ∧ PySem.W.kitAny K (.type a) us = some r
  | _, [], r, .nil, e => by cases e; exact ⟨[], .nil, kitAny_nil⟩
  | _, b :: bs, r, .cons h hr, e => by
    cases h with
    | ty n =>
      simp only [isSubs] at e
      split at e
      · rename_i hb
        have k := kit_ty (K := K) (isSub_ok a ha n (List.contains_iff_mem.mp hb))
        obtain ⟨q, e1, e2⟩ := Option.map_eq_some_iff.mp e
        obtain ⟨us, p, hq⟩ := isSubs_ok ha hr e1
        subst e2
        refine ⟨_, .cons (.ty n) p, kitAny_cons k (fun z => by rw [z, Bool.false_or]; exact hq) fun z => by rw [z, Bool.true_or]⟩
      · cases e
    | _ => simp [isSubs] at e
theorem fIsi_of {g : G} {W : WX} : CalD g W fIsi (rIsiA g.K) := by
  intro s w H S vs xs Q hS hx h
  unfold fIsi at h
  split at h
  · rename_i b
    cases hx with
    | cons h1 hx =>
      cases hx with
      | cons h2 hx =>
        cases hx
        cases h2 with
        | v h2 =>
          cases h2
          split at h
          · rename_i a ha
            split at h
            · rename_i hb
              exact .inl ⟨_, _, _, _, _, rfl, .ty b, tyN_rep hS h1 ha, kit_ty (isSub_ok a (tyN_mem ha) b (List.contains_iff_mem.mp hb)), h w H _ (Ext.refl _ _) hS (.v (.bl _))⟩
            · exact h.elim
          · exact h.elim
  · cases hx with
    | cons h1 hx =>
      cases hx with
      | cons h2 hx =>
        cases hx
        cases h2 with
        | v h2 =>
          cases h2 with
          | tup q r =>
            split at h
            · rename_i a ha
              split at h
              · rename_i b hb
                obtain ⟨us, p, k⟩ := isSubs_ok (K := g.K) (tyN_mem ha) r hb
                exact .inr ⟨_, _, _, _, us, _, rfl, sqT_le hS.hle q.sq, p, tyN_rep hS h1 ha, k, h w H _ (Ext.refl _ _) hS (.v (.bl _))⟩
              · exact h.elim
            · exact h.elim
  · exact h.elim

/-! ### items against one thing -/
theorem okd_up : ∀ (k : Nat) (d : D), okd k d = true → okd (k + 1) d = true
  | _, .non, _ => rfl
  | _, .bl _, _ => rfl
  | _, .int _, _ => rfl
  | _, .str x, h => by unfold okd at h ⊢; exact h
  | k + 1, .tup xs, h => by
    unfold okd at h ⊢
    exact List.all_eq_true.mpr fun x hx => okd_up k x (List.all_eq_true.mp h x hx)
  | k + 1, .lst xs, h => by
    unfold okd at h ⊢
    exact List.all_eq_true.mpr fun x hx => okd_up k x (List.all_eq_true.mp h x hx)
  | k + 1, .scr xs, h => by
    unfold okd at h ⊢
    exact List.all_eq_true.mpr fun x hx => okd_up k x (List.all_eq_true.mp h x hx)
  | 0, .tup _, h => by simp [okd] at h
  | 0, .lst _, h => by simp [okd] at h
  | 0, .scr _, h => by simp [okd] at h
  | _, .dct _, h => by simp [okd] at h
  | _, .ptp _, h => by simp [okd] at h
  | _, .ins _ _, h => by simp [okd] at h
  | _, .fn _, h => by simp [okd] at h
  | _, .ty _, h => by simp [okd] at h
theorem seq_eq {X : Cx} {T : List (Addr × Str)} {pins : List (Addr × Obj)} {σ : L2.St} {H : Hp} {s : Shared} (hu : X.A.units + 65 < cLine) (I : Inv X pins σ H s) {vs : List V} {its : List Value} (rv : Vals vs its) {ds : List D} {d : D} (ha : RepAll ⟨X.K, X.mg, T⟩ H vs ds) {y : V} {u : Value} (hd : Rep ⟨X.K, X.mg, T⟩ H y d) (ry : RelV y u)
    (ok1 : ds.all (okd 59) = true) (ok2 : okd 60 d = true) : ∃ e : Value → Bool, (∀ z, z ∈ its.toArray → SeqAt.EqAt X.A.in1 s z u (e z)) ∧ its.map e = ds.map fun z => deq z d := by
  have okl : okd 60 (.lst ds) = true := by unfold okd; exact ok1
  have sd := okd_shaped ok2
  have sl : SeqAt.shaped (.list (toPs ds)) = true := by have := okd_shaped okl; simpa [toP] using this
  obtain ⟨bs, r1⟩ := Dp.reads I _ y u (Rep.dp 60 hd ok2) ry
  have hxs : PyData.canLayAll0 (toPs ds) = true := SeqAt.canLay_of_shaped sl
  have hroom : X.A.units + 1 + min (PyData.depthAll (toPs ds)) (toP d).depth < cLine := room_in_shaped sd hu
  have dall : ∀ z ∈ ds, okd 59 z = true := by simpa using ok1
  obtain ⟨as, h4⟩ := Dp.readsAll I _ _ its (RepAll.dp 59 ha dall) rv
  have hmap : its.map (SeqAt.readOf s.heap) = toPs ds := SeqAt.readsAll_map _ its as hxs h4
  refine ⟨fun z => PyData.eqv (SeqAt.readOf s.heap z) (toP d), SeqAt.items_eqAt (vs := its.toArray) (show ReadsAll s.heap its.toArray.toList (toPs ds) as from h4) r1 hxs (SeqAt.canLay_of_shaped sd) hroom, ?_⟩
  have e1 : its.map (fun z => PyData.eqv (SeqAt.readOf s.heap z) (toP d)) = (toPs ds).map fun z => PyData.eqv z (toP d) := by rw [← hmap, List.map_map]; rfl
  rw [e1]
  have up : ∀ x, okd 59 x = true → okd 60 x = true := okd_up 59
  clear e1 hmap h4 hroom hxs sl okl ha rv ok1
  induction ds with
  | nil => rfl
  | cons x ds ih =>
    simp only [toPs, List.map_cons]
    rw [deq_eqv 60 x d (up x (dall x (by simp))) ok2, ih fun z hz => dall z (by simp [hz])]

/-! ### in, not in -/
/-- the items of any row and the thing, as data -/
def itemsD (S : Store) (y x : Vl) : Option (List D × D) := ((qview S y).bind unv).bind fun ds => (peek S x).bind fun d => if ds.all (okd 59) && okd 60 d then some (ds, d) else none
theorem itemsD_rep {g : G} {w : Wd} {H : Hp} {S : Store} {v u : V} {x y : Vl} (hS : RepSt g w H S) (hy : RepV g w v y) (hx : RepV g w u x) {ds : List D} {d : D} (e : itemsD S y x = some (ds, d)) :
    ∃ a vs, v = .ref a ∧ (SqL g.K H a vs ∨ SqT g.K H a vs) ∧ RepAll g H vs ds ∧ Rep g H u d ∧ ds.all (okd 59) = true ∧ okd 60 d = true := by
  unfold itemsD at e
  obtain ⟨es, e1, e2⟩ := Option.bind_eq_some_iff.mp e
  obtain ⟨xs, e3, e4⟩ := Option.bind_eq_some_iff.mp e1
  obtain ⟨d', e5, e6⟩ := Option.bind_eq_some_iff.mp e2
  split at e6
  · rename_i ok
    cases e6
    rw [Bool.and_eq_true] at ok
    obtain ⟨a, vs, rfl, q, r⟩ := qview_rep hS hy e3
    exact ⟨a, vs, rfl, q, (r.un e4).le hS.hle, peek_rep hS hx e5, ok.1, ok.2⟩
  · cases e6
def rInDk (neg : Bool) : R2 := fun x y H Q => ∃ a o, y = .ref a ∧ DGet H a x o ∧ Q (.bl (if neg then !o.isSome else o.isSome)) H
theorem op_inDk {X : Cx} (hu : X.A.units + 1 < cLine) : OpR X (compareOp .In) (rInDk false) := by
  intro pins s σ H x y v u Q I rx ry h
  obtain ⟨a, o, rfl, g, q⟩ := h
  cases ry
  exact d_in hu I g rx fun s3 I3 => ⟨.bl o.isSome, H, I3, rfl, q⟩
theorem op_notInDk {X : Cx} (hu : X.A.units + 1 < cLine) : OpR X (compareOp .NotIn) (rInDk true) := by
  intro pins s σ H x y v u Q I rx ry h
  obtain ⟨a, o, rfl, g, q⟩ := h
  cases ry
  exact d_notIn hu I g rx fun s3 I3 => ⟨.bl (!o.isSome), H, I3, rfl, q⟩
def rInSq (X : Cx) (T : List (Addr × Str)) (neg : Bool) : R2 := fun x y H Q => ∃ a vs ds d, y = .ref a ∧ (SqL X.K H a vs ∨ SqT X.K H a vs) ∧ RepAll (gX X T) H vs ds ∧ Rep (gX X T) H x d ∧ ds.all (okd 59) = true ∧ okd 60 d = true ∧ Q (.bl (if neg then !(ds.any fun z => deq z d) else ds.any fun z => deq z d)) H
theorem any_map {its : List Value} {ds : List D} {d : D} {e : Value → Bool} (h : its.map e = ds.map fun z => deq z d) : its.toArray.any e = ds.any fun z => deq z d := by
  have h1 : its.any e = (its.map e).any id := by rw [List.any_map]; rfl
  have h2 : (ds.any fun z => deq z d) = (ds.map fun z => deq z d).any id := by rw [List.any_map]; rfl
  rw [h2, ← h, ← h1]; simp
theorem op_inSq {X : Cx} {T : List (Addr × Str)} (hu : X.A.units + 65 < cLine) : OpR X (compareOp .In) (rInSq X T false) := by
  intro pins s σ H x y v u Q I rx ry h
  obtain ⟨a, vs, ds, d, rfl, hq, r, rd, o1, o2, q⟩ := h
  cases ry
  rcases hq with hq | hq
  · obtain ⟨its, rv, p, _⟩ := I.list hq
    obtain ⟨e, h1, h2⟩ := seq_eq (T := T) hu I rv r rd rx o1 o2
    exact SeqAt.in_listAt e p.isList h1 ⟨.bl _, H, I, by rw [any_map h2]; rfl, q⟩
  · obtain ⟨its, rv, p, _⟩ := I.tuple hq
    obtain ⟨e, h1, h2⟩ := seq_eq (T := T) hu I rv r rd rx o1 o2
    exact SeqAt.in_tupleAt e (show s.heap.IsTuple a its.toArray from p) h1 ⟨.bl _, H, I, by rw [any_map h2]; rfl, q⟩
theorem op_notInSq {X : Cx} {T : List (Addr × Str)} (hu : X.A.units + 65 < cLine) : OpR X (compareOp .NotIn) (rInSq X T true) := by
  intro pins s σ H x y v u Q I rx ry h
  obtain ⟨a, vs, ds, d, rfl, hq, r, rd, o1, o2, q⟩ := h
  cases ry
  rcases hq with hq | hq
  · obtain ⟨its, rv, p, _⟩ := I.list hq
    obtain ⟨e, h1, h2⟩ := seq_eq (T := T) hu I rv r rd rx o1 o2
    exact SeqAt.notIn_listAt e p.isList h1 ⟨.bl _, H, I, by rw [any_map h2]; rfl, q⟩
  · obtain ⟨its, rv, p, _⟩ := I.tuple hq
    obtain ⟨e, h1, h2⟩ := seq_eq (T := T) hu I rv r rd rx o1 o2
    exact SeqAt.notIn_tupleAt e (show s.heap.IsTuple a its.toArray from p) h1 ⟨.bl _, H, I, by rw [any_map h2]; rfl, q⟩
def fInB (neg : Bool) (x y : Vl) (S : Store) : Out Vl := match dview S y with
  | some ps => match x with
    | .v d => match keyOf d with
      | some _ => .ok (.v (.bl (if neg then !dhas d ps else dhas d ps))) S
      | none => .stuck
    | _ => .stuck
  | none => match itemsD S y x with
    | some (ds, d) => .ok (.v (.bl (if neg then !(ds.any fun z => deq z d) else ds.any fun z => deq z d))) S
    | none => .stuck
abbrev fIn := fInB false
abbrev fNotIn := fInB true
def rInA (X : Cx) (T : List (Addr × Str)) (neg : Bool) : R2 := fun x y H Q => rInDk neg x y H Q ∨ rInSq X T neg x y H Q
theorem fInB_of {X : Cx} {T : List (Addr × Str)} {W : WX} {neg : Bool} : OpD (gX X T) W (fInB neg) (rInA X T neg) := by
  intro s w H S v u x y Q hS hx hy h
  unfold fInB at h
  split at h
  · rename_i ps hp
    obtain ⟨a, kvs, rfl, q, r⟩ := dview_rep hS hy hp
    split at h
    · rename_i d
      split at h
      · rename_i k hk
        have ed := keyOf_eq hk
        subst ed
        cases hx with
        | v hx =>
          refine .inl ⟨a, valV kvs k, rfl, .inl ⟨kvs, k, q, ?_, rfl⟩, ?_⟩
          · cases k with
            | inl i => cases hx; rfl
            | inr i => cases hx; rfl
          · rw [r.has]; exact h w H _ (Ext.refl _ _) hS (.v (.bl _))
      · exact h.elim
    · exact h.elim
  · split at h
    · rename_i ds d he
      obtain ⟨a, vs, rfl, q, r, rd, o1, o2⟩ := itemsD_rep hS hy hx he
      exact .inr ⟨a, vs, ds, d, rfl, q, r, rd, o1, o2, h w H _ (Ext.refl _ _) hS (.v (.bl _))⟩
    · exact h.elim
theorem op_in {X : Cx} {T : List (Addr × Str)} (hu : X.A.units + 65 < cLine) : OpR X (compareOp .In) (rInA X T false) := (op_inDk (by omega)).or (op_inSq hu)
theorem op_notIn {X : Cx} {T : List (Addr × Str)} (hu : X.A.units + 65 < cLine) : OpR X (compareOp .NotIn) (rInA X T true) := (op_notInDk (by omega)).or (op_notInSq hu)

/-! ### methods -/
/-- a method of a list that changes the store -/
def eMth (chk : Store → Vl → Bool) (f : Vl → List Vl → Store → Out Vl) (mo : EM) (ma : AM) : EM := fun e S => (mo e S).bind fun x S1 => if chk S1 x then (ma e S1).bind fun xs S2 => f x xs S2 else .stuck
def MtD (g : G) (W : WX) (f : Vl → List Vl → Store → Out Vl) (r : V → List V → Hp → VK → Prop) : Prop := ∀ s w H S v vs x xs Q, RepSt g w H S → RepV g w v x → RepVs g w vs xs → SatG g W s w H (RepV g) (f x xs S) Q → r v vs H Q
def isL (S : Store) (x : Vl) : Bool := (llview S x).isSome
def isT (S : Store) (x : Vl) : Bool := match x with
  | .v (.tup _) => true
  | _ => false
section
variable {X : Cx} {T : List (Addr × Str)} {W : WX} {g : G} {o e : Expr} {es : List Expr} {name : Str} {apos cpos : Pos} {id : String} {r : V → List V → Hp → VK → Prop} {f : Vl → List Vl → Store → Out Vl} {mo : EM} {ma : AM}
theorem e_mL (slot : Slot "list" name id) (hty : typeOf (.builtin id) = pure (.type "method_descriptor")) (hm : MtR X id r) (hf : MtD (gX X T) W f r) (ho : PE X o (rd (gX X T) W mo)) (ha : PA X (e :: es) (rdA (gX X T) W ma))
    (hbase : attributeBase o name X.env (eval o X.env) = eval o X.env := by rfl)
    (hfew : ((backTo cpos (starEach (e :: es) X.env)).all (fun x => !x.1) && (backToKw cpos (keywordEach [] X.env)).all (fun x => x.1.isSome)
      && decide ((e :: es).length + ([] : List Keyword).length + (if ([] : List Keyword).isEmpty then 0 else 1) < 30)) = true := by rfl)
    (hline : (apos.endLine == cpos.line) = true := by rfl) (hs : starEach (e :: es) X.env = (false, eval e X.env) :: starEach es X.env := by rfl) (hplain : (backTo cpos (starEach es X.env)).any (·.1) = false := by rfl) :
    PE X (.Call (.Attribute o name apos) (e :: es) [] cpos) (rd (gX X T) W (eMth isL f mo ma)) :=
  PE_imp (pe_bm PySem.F.plainAttrs_list slot hty hm ho ha hbase hfew hline hs hplain) fun s H Q h => rd_bind (f := fun x e S1 => if isL S1 x then (ma e S1).bind fun xs S2 => f x xs S2 else .stuck) h fun w1 H1 S1 e v x hS hE hx h1 => by
    split at h1
    · rename_i hc
      obtain ⟨xs, hxs⟩ := Option.isSome_iff_exists.mp hc
      obtain ⟨a, vs, rfl, q, _⟩ := llview_rep hS hx hxs
      refine ⟨.inl ⟨rfl, vs, q⟩, w1, e, S1, hS, hE, h1.bind.imp fun us H2 ⟨w2, S2, ys, hS2, hys, ex, h2⟩ => ?_⟩
      exact hf s w2 H2 S2 _ us x ys Q hS2 (hx.le ex.wle) hys h2
    · exact h1.elim
/-- a method of a tuple -/
def tBMT (K : PySem.W.Frag) (r : V → List V → Hp → VK → Prop) (to : TE) (t : TA) : TE := fun σ H Q => to σ H fun x H1 => (∃ p ys, x = .ref p ∧ SqTA K H1 p ys) ∧ t σ H1 fun xs H2 => r x xs H2 Q
theorem pe_bmT {to : TE} {t : TA} (slot : Slot "tuple" name id) (hty : typeOf (.builtin id) = pure (.type "method_descriptor")) (hm : MtR X id r) (ho : PE X o to) (ha : PA X (e :: es) t)
    (hbase : attributeBase o name X.env (eval o X.env) = eval o X.env := by rfl)
    (hfew : ((backTo cpos (starEach (e :: es) X.env)).all (fun x => !x.1) && (backToKw cpos (keywordEach [] X.env)).all (fun x => x.1.isSome)
      && decide ((e :: es).length + ([] : List Keyword).length + (if ([] : List Keyword).isEmpty then 0 else 1) < 30)) = true := by rfl)
    (hline : (apos.endLine == cpos.line) = true := by rfl) (hs : starEach (e :: es) X.env = (false, eval e X.env) :: starEach es X.env := by rfl) (hplain : (backTo cpos (starEach es X.env)).any (·.1) = false := by rfl) :
    PE X (.Call (.Attribute o name apos) (e :: es) [] cpos) (tBMT X.K r to t) := by
  refine ⟨fun pins s σ H Q I h => ?_⟩
  refine wpAny_Call_method_late hbase hfew hline rfl (thn (ho.run pins s σ H _ I h) fun v s1 ⟨x, H1, I1, r1, ⟨p, ys, ex, ty⟩, q1⟩ => ?_)
  subst ex
  cases r1
  have tt : s1.TypeIs (.ref p) "tuple" ∧ ∀ a, Value.ref p = .ref a → ∃ ob, s1.heap.get? a = some ob ∧ ob.dict = none := by
    rcases ty with ⟨ob, hp, hd⟩ | ⟨ob, its, n, hk, hc, hd, _⟩
    · obtain ⟨e1, _, its, rv, o', e2, hc, _⟩ := I1.hok _ _ hp
      rw [e1] at e2; cases e2
      exact ⟨⟨_, e1, hc⟩, fun a ea => by cases ea; exact ⟨_, e1, hd⟩⟩
    · exact ⟨⟨_, I1.kIn _ _ hk, hc⟩, fun a ea => by cases ea; exact ⟨_, I1.kIn _ _ hk, hd⟩⟩
  refine ⟨"tuple", id, PySem.F.plainAttrs_tuple, slot, hty, tt.1, tt.2, ?_⟩
  have hA := ha.run cpos pins s1 σ H1 _ I1 q1
  rw [hs] at hA ⊢
  refine Calls.callWith_builtin (by show (false || (backTo cpos (starEach es X.env)).any (·.1)) = false; rw [hplain] <;> rfl) (Calls.evalArgs_plain ?_)
  exact thn hA fun us s2 ⟨vs, H2, I2, r2, q2⟩ => hm pins s2 σ H2 (.ref p) vs (.ref p) us Q I2 rfl r2 q2
theorem e_mT (slot : Slot "tuple" name id) (hty : typeOf (.builtin id) = pure (.type "method_descriptor")) (hm : MtR X id r) (hf : MtD (gX X T) W f r) (ho : PE X o (rd (gX X T) W mo)) (ha : PA X (e :: es) (rdA (gX X T) W ma))
    (hbase : attributeBase o name X.env (eval o X.env) = eval o X.env := by rfl)
    (hfew : ((backTo cpos (starEach (e :: es) X.env)).all (fun x => !x.1) && (backToKw cpos (keywordEach [] X.env)).all (fun x => x.1.isSome)
      && decide ((e :: es).length + ([] : List Keyword).length + (if ([] : List Keyword).isEmpty then 0 else 1) < 30)) = true := by rfl)
    (hline : (apos.endLine == cpos.line) = true := by rfl) (hs : starEach (e :: es) X.env = (false, eval e X.env) :: starEach es X.env := by rfl) (hplain : (backTo cpos (starEach es X.env)).any (·.1) = false := by rfl) :
    PE X (.Call (.Attribute o name apos) (e :: es) [] cpos) (rd (gX X T) W (eMth isT f mo ma)) :=
  PE_imp (pe_bmT slot hty hm ho ha hbase hfew hline hs hplain) fun s H Q h => rd_bind (f := fun x e S1 => if isT S1 x then (ma e S1).bind fun xs S2 => f x xs S2 else .stuck) h fun w1 H1 S1 e v x hS hE hx h1 => by
    split at h1
    · rename_i hc
      unfold isT at hc
      split at hc
      · cases hx with
        | v hx' =>
          cases hx' with
          | tup q rr =>
            refine ⟨⟨_, _, rfl, sqTA_le hS.hle q⟩, w1, e, S1, hS, hE, h1.bind.imp fun us H2 ⟨w2, S2, ys, hS2, hys, ex, h2⟩ => ?_⟩
            exact hf s w2 H2 S2 _ us _ ys Q hS2 ((RepV.v (.tup q rr)).le ex.wle) hys h2
      · cases hc
    · exact h1.elim
end
/-! the methods -/
def fApp (x : Vl) (xs : List Vl) (S : Store) : Out Vl := match x, xs with
  | .r n, [y] => match S[n]? with
    | some (.lst zs) => if zs.length < 16777216 then .ok (.v .non) (S.set n (.lst (zs ++ [y]))) else .stuck
    | _ => .stuck
  | _, _ => .stuck
theorem fApp_of {g : G} {W : WX} : MtD g W fApp rAppend := by
  intro s w H S v vs x xs Q hS hx hxs h
  unfold fApp at h
  split at h
  · rename_i n y
    cases hxs with
    | cons hy hxs =>
      cases hxs
      cases hx with
      | r hx =>
        split at h
        · rename_i zs hz
          split at h
          · rename_i hl
            obtain ⟨us, q, r⟩ := hS.cel _ _ _ hx hz
            refine ⟨_, us, _, rfl, rfl, q, by rw [r.len]; exact line_lt hl, ?_⟩
            obtain ⟨a1, a2⟩ := set_cel hS hx hz (by intro z; cases z) (.lst (us ++ [_])) q trivial (c := .lst (zs ++ [y])) ⟨_, upd_same, r.append (.cons hy .nil)⟩
            exact h w _ _ a2 a1 (.v .non)
          · exact h.elim
        · exact h.elim
  · exact h.elim
def rCntD (X : Cx) (T : List (Addr × Str)) : V → List V → Hp → VK → Prop := fun x xs H Q => ∃ a y vs ds d, x = .ref a ∧ xs = [y] ∧ SqL X.K H a vs ∧ RepAll (gX X T) H vs ds ∧ Rep (gX X T) H y d ∧ ds.all (okd 59) = true ∧ okd 60 d = true ∧ Q (.int ((ds.countP fun z => deq z d : Nat) : Int)) H
theorem mt_cntD {X : Cx} {T : List (Addr × Str)} (hu : X.A.units + 65 < cLine) : MtR X "list.count" (rCntD X T) := by
  intro pins s σ H x xs v us Q I rx rxs h
  obtain ⟨a, y, vs, ds, d, rfl, rfl, hq, r, rd, o1, o2, q⟩ := h
  cases rx
  obtain ⟨u, rfl, ru⟩ := rxs.one
  obtain ⟨its, rv, ⟨⟨cls, dd, data, sl⟩, n, ho, hc, hdn, hd⟩, hlen⟩ := I.list hq
  simp only at hc hd
  subst hc hd
  obtain ⟨e, h1, h2⟩ := seq_eq (T := T) hu I rv r rd ru o1 o2
  refine call_meets PySem.F.slot_list_count ⟨_, ho, rfl⟩ PySem.F.entry_list_count (PySem.F.args_list_count_2 _ _) (SeqAt.list_countAt a its.toArray n dd sl u e) ⟨ho, h1, ?_⟩
  have ec : its.toArray.toList.countP e = ds.countP fun z => deq z d := by
    have e1 : its.countP e = (its.map e).countP id := by rw [List.countP_map]; rfl
    have e2 : (ds.countP fun z => deq z d) = (ds.map fun z => deq z d).countP id := by rw [List.countP_map]; rfl
    rw [e2, ← h2, ← e1]
  refine ⟨.int _, H, I.tok _, ⟨s.toks, ?_⟩, q⟩
  rw [ec]
def fCnt (x : Vl) (xs : List Vl) (S : Store) : Out Vl := match xs with
  | [y] => if isL S x then (match itemsD S x y with
    | some (ds, d) => .ok (.v (.int ((ds.countP fun z => deq z d : Nat) : Int))) S
    | none => .stuck) else .stuck
  | _ => .stuck
theorem sqL_of_isL {g : G} {w : Wd} {H : Hp} {S : Store} {v : V} {x : Vl} (hS : RepSt g w H S) (hx : RepV g w v x) (e : isL S x = true) {xs : List Vl} (hq : qview S x = some xs) : ∃ a vs, v = .ref a ∧ SqL g.K H a vs ∧ RepVs g w vs xs := by
  obtain ⟨ys, hy⟩ := Option.isSome_iff_exists.mp e
  have : ys = xs := by
    unfold llview at hy
    unfold qview at hq
    cases x with
    | v d => cases d <;> simp at hy hq <;> (subst hy; exact hq)
    | r n =>
      simp only at hy hq
      split at hy
      · rename_i c hc
        rw [hc] at hq
        cases hy; cases hq; rfl
      · cases hy
  subst this
  exact llview_rep hS hx hy
theorem fCnt_of {X : Cx} {T : List (Addr × Str)} {W : WX} : MtD (gX X T) W fCnt (rCntD X T) := by
  intro s w H S v vs x xs Q hS hx hxs h
  unfold fCnt at h
  split at h
  · cases hxs with
    | cons hy hxs =>
      cases hxs
      split at h
      · rename_i hl
        split at h
        · rename_i ds d he
          unfold itemsD at he
          obtain ⟨es, e1, e2⟩ := Option.bind_eq_some_iff.mp he
          obtain ⟨ys, e3, e4⟩ := Option.bind_eq_some_iff.mp e1
          obtain ⟨d', e5, e6⟩ := Option.bind_eq_some_iff.mp e2
          split at e6
          · rename_i ok
            cases e6
            rw [Bool.and_eq_true] at ok
            obtain ⟨a, us, rfl, q, r⟩ := sqL_of_isL hS hx hl e3
            exact ⟨a, _, us, ds, d, rfl, rfl, q, (r.un e4).le hS.hle, peek_rep hS hy e5, ok.1, ok.2, h w H _ (Ext.refl _ _) hS (.v (.int _))⟩
          · cases e6
        · exact h.elim
      · exact h.elim
  · exact h.elim
/-- the first place -/
def rIdxT (X : Cx) (T : List (Addr × Str)) : V → List V → Hp → VK → Prop := fun x xs H Q => ∃ a y vs ds d j, x = .ref a ∧ xs = [y] ∧ SqT X.K H a vs ∧ RepAll (gX X T) H vs ds ∧ Rep (gX X T) H y d ∧ ds.all (okd 59) = true ∧ okd 60 d = true ∧ ds.findIdx? (fun z => deq z d) = some j ∧ Q (.int (j : Nat)) H
theorem mt_idxT {X : Cx} {T : List (Addr × Str)} (hu : X.A.units + 65 < cLine) : MtR X "tuple.index" (rIdxT X T) := by
  intro pins s σ H x xs v us Q I rx rxs h
  obtain ⟨a, y, vs, ds, d, j, rfl, rfl, hq, r, rd, o1, o2, hj, q⟩ := h
  cases rx
  obtain ⟨u, rfl, ru⟩ := rxs.one
  obtain ⟨its, rv, pl, hz⟩ := I.tuple hq
  obtain ⟨⟨cls, dd, dt, sl⟩, ho, hc, n, hd⟩ := pl
  simp only at hc hd
  subst hc
  subst hd
  obtain ⟨e, h1, h2⟩ := seq_eq (T := T) hu I rv r rd ru o1 o2
  have hl : its.length = ds.length := by have := congrArg List.length h2; simpa using this
  obtain ⟨hj1, hj2, hj3⟩ := List.findIdx?_eq_some_iff_getElem.mp hj
  have at_ : ∀ (m : Nat) (hm : m < its.length) (hm2 : m < ds.length), e its[m] = deq ds[m] d := fun m hm hm2 => by
    have := congrArg (·[m]?) h2
    simp [hm, hm2] at this
    exact this
  refine call_meets PySem.F.slot_tuple_index ⟨_, ho, rfl⟩ PySem.F.entry_tuple_index (PySem.F.args_tuple_index_2 _ _) (TI.tuple_indexAt a its.toArray n dd sl u e j (by simpa [hl] using hj1) ?_ ?_) ⟨ho, h1, ⟨.int (j : Nat), H, I.tok _, ⟨_, rfl⟩, q⟩⟩
  · show e its[j] = true
    rw [at_ j (by omega) hj1]; exact hj2
  · intro m hm hmj
    have hm : m < its.length := by simpa using hm
    show e its[m] = false
    rw [at_ m hm (by omega)]
    have := hj3 m hmj
    simpa using this
def fIdxT (x : Vl) (xs : List Vl) (S : Store) : Out Vl := match x, xs with
  | .v (.tup ds), [.v d] => if ds.all (okd 59) && okd 60 d then (match ds.findIdx? (fun z => deq z d) with
    | some j => .ok (.v (.int (j : Nat))) S
    | none => .stuck) else .stuck
  | _, _ => .stuck
theorem fIdxT_of {X : Cx} {T : List (Addr × Str)} {W : WX} : MtD (gX X T) W fIdxT (rIdxT X T) := by
  intro s w H S v vs x xs Q hS hx hxs h
  unfold fIdxT at h
  split at h
  · cases hxs with
    | cons hy hxs =>
      cases hxs
      cases hx with
      | v hx =>
        cases hx with
        | tup q r =>
          cases hy with
          | v hy =>
            split at h
            · rename_i ok
              rw [Bool.and_eq_true] at ok
              split at h
              · rename_i j hj
                exact ⟨_, _, _, _, _, j, rfl, rfl, sqT_le hS.hle q.sq, r.le hS.hle, hy.le hS.hle, ok.1, ok.2, hj, h w H _ (Ext.refl _ _) hS (.v (.int _))⟩
              · exact h.elim
            · exact h.elim
  · exact h.elim
end Ax
/-! Ax9: stores at a place, dict comprehensions, sums and products as cells, sorted rows -/
namespace Ax
open PySem PySem.Spec PyProof.Rows L2

/-! ### o[i] = v, o[i] op= v -/
def fSetI (o i v : Vl) (S : Store) : Option Store := match o with
  | .r n => match S[n]? with
    | some (.lst xs) => match i with
      | .v (.int k) => (ixN xs.length k).map fun j => S.set n (.lst (xs.set j v))
      | _ => none
    | some (.dct ps) => match i with
      | .v d => match keyOf d with
        | some _ => if ps.length < 16777216 then some (S.set n (.dct (dput d v ps))) else none
        | none => none
      | _ => none
    | _ => none
  | _ => none
def rSetA : TSet := fun o i v H Q => rSetL o i v H Q ∨ rSetD o i v H Q
theorem set_all {X : Cx} (hu : X.A.units + 1 < cLine) : PSet X rSetA := by
  intro pins s σ H o i v ov iv u Q I ro ri rv h
  rcases h with h | h
  · exact set_list pins s σ H o i v ov iv u Q I ro ri rv h
  · exact set_dict hu pins s σ H o i v ov iv u Q I ro ri rv h
theorem fSetI_of {g : G} {w : Wd} {H : Hp} {S S' : Store} {vo vi vv : V} {o i v : Vl} {Q : Hp → Prop} (hS : RepSt g w H S) (ho : RepV g w vo o) (hi : RepV g w vi i) (hv : RepV g w vv v) (e : fSetI o i v S = some S')
    (h : ∀ w' H', Ext w H w' H' → RepSt g w' H' S' → Q H') : rSetA vo vi vv H Q := by
  unfold fSetI at e
  split at e
  · rename_i n
    cases ho with
    | r hn =>
      split at e
      · rename_i xs hx
        split at e
        · rename_i k
          cases hi with
          | v hi =>
            cases hi
            obtain ⟨j, e1, e2⟩ := Option.map_eq_some_iff.mp e
            subst e2
            obtain ⟨us, q, r⟩ := hS.cel _ _ _ hn hx
            obtain ⟨a1, a2⟩ := set_cel hS hn hx (by intro z; cases z) (.lst (us.set j vv)) q trivial (c := .lst (xs.set j v)) ⟨_, upd_same, RepVs.set hv j r⟩
            exact .inl ⟨_, us, k, j, rfl, rfl, q, by rw [r.len]; exact e1, h w _ a2 a1⟩
        · cases e
      · rename_i ps hx
        split at e
        · rename_i d
          split at e
          · rename_i kk hk
            have ed := keyOf_eq hk
            subst ed
            split at e
            · rename_i hl
              cases e
              obtain ⟨us, q, r⟩ := hS.cel _ _ _ hn hx
              obtain ⟨a1, a2⟩ := set_cel hS hn hx (by intro z; cases z) (.dK (putK us kk vv)) q trivial (c := .dct (dput (keyD kk) v ps)) ⟨_, upd_same, r.put hv⟩
              refine .inr ⟨_, _, rfl, .inl ⟨us, kk, q, ?_, by rw [r.len]; exact line_lt hl, rfl⟩, h w _ a2 a1⟩
              cases hi with
              | v hi =>
                cases kk with
                | inl i => cases hi; rfl
                | inr i => cases hi; rfl
            · cases e
          · cases e
        · cases e
      · cases e
  · cases e
/-- what stands at a place of a cell -/
def fIxM (o i : Vl) (S : Store) : Out Vl := match o with
  | .r n => match S[n]? with
    | some (.lst xs) => match i with
      | .v (.int k) => match atI xs k with
        | some z => .ok z S
        | none => .stuck
      | _ => .stuck
    | some (.dct ps) => match i with
      | .v d => match keyOf d with
        | some _ => match dget d ps with
          | some z => .ok z S
          | none => .stuck
        | none => .stuck
      | _ => .stuck
    | _ => .stuck
  | _ => .stuck
def rIxM (K : PySem.W.Frag) : R2 := fun x y H Q => rIxL K x y H Q ∨ rIxK x y H Q
theorem fIxM_of {g : G} {W : WX} : OpD g W fIxM (rIxM g.K) := by
  intro s w H S vo vi o i Q hS ho hi h
  unfold fIxM at h
  split at h
  · rename_i n
    cases ho with
    | r hn =>
      split at h
      · rename_i xs hx
        split at h
        · rename_i k
          cases hi with
          | v hi =>
            cases hi
            split at h
            · rename_i z hz
              obtain ⟨us, q, r⟩ := hS.cel _ _ _ hn hx
              obtain ⟨j, e1, e2⟩ := atI_len r.len hz
              obtain ⟨v0, e3, e4⟩ := r.at e1
              exact .inl ⟨_, us, k, v0, rfl, rfl, SqL.of q, e2 _ e3, h w H _ (Ext.refl _ _) hS e4⟩
            · exact h.elim
        · exact h.elim
      · rename_i ps hx
        split at h
        · rename_i d
          split at h
          · rename_i kk hk
            have ed := keyOf_eq hk
            subst ed
            split at h
            · rename_i z hz
              obtain ⟨us, q, r⟩ := hS.cel _ _ _ hn hx
              obtain ⟨v0, e1, e2⟩ := (r.get (k := kk)).1 z hz
              refine .inr ⟨_, v0, rfl, .inl ⟨us, kk, .inl q, ?_, e1.symm⟩, h w H _ (Ext.refl _ _) hS e2⟩
              cases hi with
              | v hi =>
                cases kk with
                | inl i => cases hi; rfl
                | inr i => cases hi; rfl
            · exact h.elim
          · exact h.elim
        · exact h.elim
      · exact h.elim
  · exact h.elim
def sSetIx (mo mi mv : EM) : SM := fun e S => (mv e S).toS e fun v S1 => (mo e S1).toS e fun o S2 => (mi e S2).toS e fun i S3 => match fSetI o i v S3 with
  | some S4 => .go (.nx e) S4
  | none => .stuck
def sAugIx (f : Vl → Vl → Store → Out Vl) (mo mi me : EM) : SM := fun e S => (mo e S).toS e fun o S1 => (mi e S1).toS e fun i S2 => (fIxM o i S2).toS e fun x S3 => (me e S3).toS e fun y S4 => (f x y S4).toS e fun z S5 => match fSetI o i z S5 with
  | some S6 => .go (.nx e) S6
  | none => .stuck
def sAugN (i : Nat) (f : Vl → Vl → Store → Out Vl) (me : EM) : SM := fun e S => match e[i]? with
  | some (some x) => (me e S).toS e fun y S1 => (f x y S1).toS e fun z S2 => .go (.nx (e.set i (some z))) S2
  | _ => .stuck
abbrev fPlus := fInt0 fun i j => .int (i + j)
section
variable {X : Cx} {T : List (Addr × Str)} {W : WX} {o i e : Expr} {pos tpos : Pos} {mo mi me : EM} {op : Operator} {tip : TIp} {f : Vl → Vl → Store → Out Vl}
theorem s_setIx (hu : X.A.units + 1 < cLine) (hv : PE X e (rd (gX X T) W me)) (ho : PE X o (rd (gX X T) W mo)) (hi : PE X i (rd (gX X T) W mi))
    (ha : ∀ v, assign (.Subscript o i tpos) X.env v = (do
      let ov ← holding [v] (eval o X.env)
      let iv ← holding [v, ov] (eval i X.env)
      standAt tpos
      holding [v, ov, iv] (setItem ov iv v)
      release [v, ov, iv] []) := by intro _; rfl)
    (hs : swapsWithSole [.Subscript o i tpos] e pos.line X.env = pure false := by rfl) (hw : swappedStores [.Subscript o i tpos] e X.env = pure none := by rfl) (h1 : (assignEach [.Subscript o i tpos] X.env).map (·.2) = [assign (.Subscript o i tpos) X.env] := by rfl) :
    PS X (.Assign [.Subscript o i tpos] e pos) (rdS (gX X T) W (sSetIx mo mi me)) :=
  PS_imp (ps_asg hv (pg_sub ho hi (set_all hu) ha) hs hw h1) fun E s H h =>
    rdS_ofE (f := fun v e S1 => (mo e S1).toS e fun o S2 => (mi e S2).toS e fun i S3 => match fSetI o i v S3 with
      | some S4 => .go (.nx e) S4
      | none => .stuck) h fun w1 H1 S1 e v x hS hE hx h1 => by
    refine ⟨w1, e, S1, hS, hE, (h1.ofE hE).imp fun o H2 ⟨w2, S2, o', hS2, ho', ex2, h2⟩ => ?_⟩
    refine ⟨w2, e, S2, hS2, hE.le ex2.wle, (h2.ofE (hE.le ex2.wle)).imp fun i H3 ⟨w3, S3, i', hS3, hi', ex3, h3⟩ => ?_⟩
    split at h3
    · rename_i S4 h4
      exact fSetI_of hS3 (ho'.le ex3.wle) hi' ((hx.le ex2.wle).le ex3.wle) h4 fun w4 H4 ex4 hS4 => h3 w4 H4 s ex4 hS4 (((hE.le ex2.wle).le ex3.wle).le ex4.wle)
    · exact h3.elim
theorem s_augIx (hu : X.A.units + 1 < cLine) (hp : PIp X op tip) (hf : OpD (gX X T) W f tip) (ho : PE X o (rd (gX X T) W mo)) (hi : PE X i (rd (gX X T) W mi)) (he : PE X e (rd (gX X T) W me))
    (ha : ∀ ov iv new, augStore i ov iv new = (do holding [new, ov, iv] (setItem ov iv new); release [new, ov, iv] []; pure .next) := by intros; rfl) : PS X (.AugAssign (.Subscript o i tpos) op e pos) (rdS (gX X T) W (sAugIx f mo mi me)) := by
  have hg : PGet X (rIxM X.K) := by
    intro pins s σ H x y v u Q I rx ry h
    rcases h with h | h
    · exact pget_list pins s σ H x y v u Q I rx ry h
    · exact pget_dK hu pins s σ H x y v u Q I rx ry h
  refine PS_imp (ps_augS ho hi hg he hp (set_all hu) ha) fun E s H h =>
    rdS_ofE (f := fun o e S1 => (mi e S1).toS e fun i S2 => (fIxM o i S2).toS e fun x S3 => (me e S3).toS e fun y S4 => (f x y S4).toS e fun z S5 => match fSetI o i z S5 with
      | some S6 => .go (.nx e) S6
      | none => .stuck) h fun w1 H1 S1 e vo o' hS hE ho' h1 => ?_
  refine ⟨w1, e, S1, hS, hE, (h1.ofE hE).imp fun vi H2 ⟨w2, S2, i', hS2, hi', ex2, h2⟩ => ?_⟩
  have hE2 := hE.le ex2.wle
  refine fIxM_of (g := gX X T) (W := W) s w2 H2 S2 vo vi o' i' _ hS2 (ho'.le ex2.wle) hi' ((h2.ofE hE2).imp fun x H3 ⟨w3, S3, x', hS3, hx', ex3, h3⟩ => ?_)
  have hE3 := hE2.le ex3.wle
  refine ⟨w3, e, S3, hS3, hE3, (h3.ofE hE3).imp fun y H4 ⟨w4, S4, y', hS4, hy', ex4, h4⟩ => ?_⟩
  have hE4 := hE3.le ex4.wle
  refine hf s w4 H4 S4 x y x' y' _ hS4 (hx'.le ex4.wle) hy' ((h4.ofE hE4).imp fun z H5 ⟨w5, S5, z', hS5, hz', ex5, h5⟩ => ?_)
  split at h5
  · rename_i S6 h6
    exact fSetI_of hS5 ((((ho'.le ex2.wle).le ex3.wle).le ex4.wle).le ex5.wle) (((hi'.le ex3.wle).le ex4.wle).le ex5.wle) hz' h6 fun w6 H6 ex6 hS6 => h5 w6 H6 s ex6 hS6 ((hE4.le ex5.wle).le ex6.wle)
  · exact h5.elim
theorem s_augN {x : Str} {k : Nat} {pos' : Pos} (hp : PIp X op tip) (hf : OpD (gX X T) W f tip) (he : PE X e (rd (gX X T) W me)) (hN : X.N.Nodup) (hi : X.N[k]? = some x := by rfl) (hx : Loc X.env.scope x := by first | exact Or.inl rfl | exact Or.inr rfl)
    (hff : X.fn x = true ∨ X.env.scope.names.lookup x = some .local := by first | exact .inl rfl | exact .inr rfl | assumption) : PS X (.AugAssign (.Name x pos') op e pos) (rdS (gX X T) W (sAugN k f me)) :=
  PS_imp (ps_aug hN hi hx he hp hff) fun E s H ⟨w, e, S, hS, hE, h⟩ => by
    unfold sAugN at h
    split at h
    · rename_i x' hx'
      obtain ⟨v, a, b⟩ := hE.at_ _ _ hx'
      refine ⟨v, a, w, e, S, hS, hE, (h.ofE hE).imp fun y H1 ⟨w1, S1, y', hS1, hy', ex1, h1⟩ => ?_⟩
      have hE1 := hE.le ex1.wle
      refine hf s w1 H1 S1 v y x' y' _ hS1 (b.le ex1.wle) hy' ((h1.ofE hE1).imp fun z H2 ⟨w2, S2, z', hS2, hz', ex2, h2⟩ => ?_)
      exact h2 w2 H2 _ (Ext.refl _ _) hS2 ((hE1.le ex2.wle).set hz')
    · exact h.elim
end

/-! ### dict comprehensions -/
def kDct (ps : List (D × Vl)) (S : Store) : Out Vl := match unvP ps with
  | some ds => .ok (.v (.dct ds)) S
  | none => .stuck
def kDctC (ps : List (D × Vl)) (S : Store) : Out Vl := .ok (.r S.length) (S ++ [.dct ps])
abbrev KD := List (D × Vl) → Store → Out Vl
def TakesDict (g : G) (W : WX) (k : KD) : Prop := ∀ {s : L2.St} {w : Wd} {H : Hp} {S : Store} {Q : VK} {ps : List (D × Vl)} {kvs : List (Key × V)}, RepSt g w H S → RepKV g w kvs ps → SatG g W s w H (RepV g) (k ps S) Q → ∀ p, H p = none → Q (.ref p) (upd H p (.dK kvs))
section
variable {g : G} {W : WX}
theorem kDct_new : TakesDict g W kDct := by
  intro s w H S Q ps kvs hS r h p hp
  unfold kDct at h
  split at h
  · rename_i ds hd
    obtain ⟨a, b⟩ := new_froz hS hp (.dK kvs)
    exact h _ _ _ b a (.v (.dK (.inl upd_same) ((r.un hd).le b.fle)))
  · exact h.elim
theorem kDctC_new : TakesDict g W kDctC := by
  intro s w H S Q ps kvs hS r h p hp
  obtain ⟨a, b⟩ := new_cel hS hp (.dK kvs) (c := .dct ps) ⟨kvs, upd_same, r⟩
  exact h _ _ _ b a (.r (at_end hS.len))
end
def dcGo (t : TgM) (ts : TM) (ek ev : EM) : List Vl → Sl → Store → List (D × Vl) → Out (List (D × Vl))
  | [], _, S, acc => .ok acc S
  | x :: xs, e, S, acc => match t x e with
    | none => .stuck
    | some e1 => match ts e1 S with
      | .ok true S1 => match ek e1 S1 with
        | .ok (.v d) S2 => match keyOf d with
          | some _ => match ev e1 S2 with
            | .ok y S3 => if acc.length < 16777216 then dcGo t ts ek ev xs e S3 (dput d y acc) else .stuck
            | _ => .stuck
          | none => .stuck
        | _ => .stuck
      | .ok false S1 => dcGo t ts ek ev xs e S1 acc
      | _ => .stuck
def eDc (k : KD) (it : IM) (t : TgM) (ts : TM) (ek ev : EM) (own : List Nat) : EM := fun e S => (it e S).bind fun xs S1 => (dcGo t ts ek ev xs (fgt own e) S1 []).bind k
section
variable {X : Cx} {T : List (Addr × Str)} {W : WX} {g : G}
theorem dc_rd {k : KD} (hk : TakesDict g W k) {it : IM} {t : TgM} {ts : TM} {ek ev : EM} {own is : List Nat} (hio : ∀ i ∈ is, i ∈ own) : ∀ s H Q, rd g W (eDc k it t ts ek ev own) s H Q → tDc (rdI g W it) (rdTg g t is) (rdT g W0 ts) (rd g W0 ek) (rd g W0 ev) own s H Q := fun s H Q h => by
  refine rd_bind (rel := ItOk g) (f := fun xs e S1 => (dcGo t ts ek ev xs (fgt own e) S1 []).bind k) h fun w0 H0 S0 e0 J xs hS0 hE0 hJ h0 => ?_
  intro D hD
  refine ⟨fun i m H => ∃ w1 S1 acc vs, m = xs.length - i ∧ i ≤ xs.length ∧ H D = some (.dK vs) ∧ RepKV g w1 vs acc ∧ RepSt g w1 (hid H D) S1 ∧ Ext w0 H0 w1 (hid H D) ∧ SatG g W s w1 (hid H D) (RepV g) ((dcGo t ts ek ev (xs.drop i) (fgt own e0) S1 acc).bind k) Q,
    ⟨xs.length, w0, S0, [], [], by simp, Nat.zero_le _, upd_same, .nil, ?_⟩, ?_⟩
  · have e : hid (upd H0 D (.dK [])) D = H0 := by
      rw [hid_upd]
      funext b
      by_cases hb : b = D
      · subst hb; rw [hid_same, hD]
      · rw [hid_ne hb]
    rw [e]
    exact ⟨hS0, Ext.refl _ _, h0⟩
  rintro i m H ⟨w1, S1, acc, vs, rfl, hi, hHD, rvs, hS1, ex1, h1⟩
  have hDn : hid H D D = none := hid_same
  have hH : upd (hid H D) D (.dK vs) = H := upd_hid hHD
  have lstOk : noTbl (.dK vs) ∧ ∀ q c, HO.dK vs ≠ LamX.CodeO c q := ⟨trivial, fun q c z => by unfold LamX.CodeO at z; cases z⟩
  by_cases hlt : i < xs.length
  · rw [List.drop_eq_getElem_cons hlt] at h1
    obtain ⟨hS1', ex1'⟩ := new_hid hS1 hDn (.dK vs)
    rw [hH] at hS1' ex1'
    obtain ⟨go, yl⟩ := (hJ w1 H S1 ex1.wle hS1' i).1 xs[i] (List.getElem?_eq_getElem hlt)
    refine .inr ⟨go, fun H' => ∃ w2 S2 acc vs, H' D = some (.dK vs) ∧ RepKV g w2 vs acc ∧ RepSt g w2 (hid H' D) S2 ∧ Ext w0 H0 w2 (hid H' D) ∧ SatG g W s w2 (hid H' D) (RepV g) ((dcGo t ts ek ev (xs.drop (i + 1)) (fgt own e0) S2 acc).bind k) Q,
      fun H' ⟨w2, S2, acc, vs, q⟩ => ⟨xs.length - (i + 1), by omega, w2, S2, acc, vs, rfl, hlt, q⟩, fun v H2 y => ?_⟩
    obtain ⟨w2, ex2, hS2, hx⟩ := yl v H2 y
    refine ⟨w2, fgt own e0, S1, xs[i], hS2, (hE0.wipe own).le (WLe.mk ?_ ?_), hx, ?_⟩
    · obtain ⟨m1, z1⟩ := ex1.pre
      obtain ⟨m2, z2⟩ := ex2.pre
      exact ⟨m1 ++ m2, by rw [z2, z1, List.append_assoc]⟩
    · exact ex1.fle.trans ex2.fle
    · unfold dcGo at h1
      cases hq : t xs[i] (fgt own e0) with
      | none => rw [hq] at h1; exact h1.elim
      | some e1 =>
        rw [hq] at h1
        simp only at h1 ⊢
        intro w3 H3 s3 ex3 hS3 hE3 sb3
        refine ⟨by rw [(sb3.mono hio).wipe, wipe_wipe], w3, e1, S1, hS3, hE3, ?_⟩
        have ex13 : Ext w1 (upd (hid H D) D (.dK vs)) w3 H3 := by rw [hH]; exact ex2.trans ex3
        cases hts : ts e1 S1 with
        | stuck => rw [hts] at h1; exact h1.elim
        | exc c fs S' => rw [hts] at h1; exact h1.elim
        | ok b S2 =>
          rw [hts] at h1
          intro w4 H4 b' ex4 hS4 hb
          subst hb
          have ex14 := ex13.trans ex4
          cases b' with
          | false =>
            rw [if_neg Bool.false_ne_true]
            obtain ⟨a1, a2, a3⟩ := unhide hDn lstOk hS1 ex14 hS4
            exact ⟨w4, S2, acc, vs, a3, rvs.le a2.wle, a1, ex1.trans a2, SatG.ext h1 a2⟩
          | true =>
            rw [if_pos rfl]
            simp only at h1
            refine ⟨w4, e1, S2, hS4, hE3.le ex4.wle, ?_⟩
            cases hek : ek e1 S2 with
            | stuck => rw [hek] at h1; exact h1.elim
            | exc c fs S' => rw [hek] at h1; exact h1.elim
            | ok yk S3 =>
              rw [hek] at h1
              intro w5 H5 uk ex5 hS5 huk
              cases yk with
              | r n => exact h1.elim
              | v d =>
                simp only at h1
                cases hkd : keyOf d with
                | none => rw [hkd] at h1; exact h1.elim
                | some kk =>
                  rw [hkd] at h1
                  simp only at h1
                  refine ⟨w5, e1, S3, hS5, (hE3.le ex4.wle).le ex5.wle, ?_⟩
                  cases hel : ev e1 S3 with
                  | stuck => rw [hel] at h1; exact h1.elim
                  | exc c fs S' => rw [hel] at h1; exact h1.elim
                  | ok yv S4 =>
                    rw [hel] at h1
                    intro w6 H6 uv ex6 hS6 huv
                    have ex16 := (ex14.trans ex5).trans ex6
                    obtain ⟨a1, a2, a3⟩ := unhide hDn lstOk hS1 ex16 hS6
                    simp only at h1
                    split at h1
                    · rename_i hl
                      have ed := keyOf_eq hkd
                      subst ed
                      have euk : uk = kV kk := by
                        cases huk with
                        | v huk =>
                          cases kk with
                          | inl i => cases huk; rfl
                          | inr i => cases huk; rfl
                      refine ⟨vs, kk, euk, a3, by rw [rvs.len]; exact line_lt hl, w6, S4, dput (keyD kk) yv acc, putK vs kk uv, upd_same, (rvs.le a2.wle).put huv, ?_⟩
                      rw [hid_upd]
                      exact ⟨a1, ex1.trans a2, SatG.ext h1 a2⟩
                    · exact h1.elim
  · have e : i = xs.length := by omega
    subst e
    rw [List.drop_length] at h1
    obtain ⟨hS1', ex1'⟩ := new_hid hS1 hDn (.dK vs)
    rw [hH] at hS1' ex1'
    refine .inl ⟨(hJ w1 H S1 ex1.wle hS1' _).2 rfl, ?_⟩
    have q := hk hS1 rvs (show SatG g W s w1 (hid H D) (RepV g) (k acc S1) Q from h1) D hDn
    rw [hH] at q
    exact q
variable {kx vx tg iter : Expr} {ifs : List Expr} {scope : Scope} {own : List (Str × Nat)} {pos : Pos} {it : IM} {t : TgM} {is : List Nat} {ts : TM} {ek ev : EM} {k : KD}
theorem e_dc (hk : TakesDict (gX X T) W k) (hc : X.calm = true) (hN : X.N.Nodup) (hi : PI X tg iter (rdI (gX X T) W it)) (ok : BlkOk X.N X.env.scope scope own)
    (hg : ∀ (s : Shared) (H : Hp) (C : Addr) (cl : List (Str × Addr)) (fp : List Addr), PG (X.blk s H scope (compEnvC scope cl C X.env) fp) tg (rdTg (gX X T) t is)) (ht : ∀ (s : Shared) (H : Hp) (C : Addr) (cl : List (Str × Addr)) (fp : List Addr), PTs (X.blk s H scope (compEnvC scope cl C X.env) fp) ifs (rdT (gX X T) W0 ts))
    (hkx : ∀ (s : Shared) (H : Hp) (C : Addr) (cl : List (Str × Addr)) (fp : List Addr), PE (X.blk s H scope (compEnvC scope cl C X.env) fp) kx (rd (gX X T) W0 ek)) (hvx : ∀ (s : Shared) (H : Hp) (C : Addr) (cl : List (Str × Addr)) (fp : List Addr), PE (X.blk s H scope (compEnvC scope cl C X.env) fp) vx (rd (gX X T) W0 ev))
    (hio : ∀ i ∈ is, i ∈ own.map (·.2) := by decide) (hs : ∀ x, foldedSetIterable iter X.env x = pure x := by intro _; rfl) :
    PE X (.DictComp kx vx [⟨tg, iter, ifs, 0⟩] scope pos) (rd (gX X T) W (eDc k it t ts ek ev (own.map (·.2)))) := PE_imp (pe_dc hc hN hi ok hg ht hkx hvx hs) (dc_rd hk hio)
/-- name = {..} on one line -/
theorem ps_setDc {i : Nat} {y : Str} {py spos : Pos} {wi : TI} {g : TG} {tt : TT} {tk tv : TE} (hc : X.calm = true) (hN : X.N.Nodup) (hy : X.N[i]? = some y) (hyl : X.env.scope.names.lookup y = some .local)
    (hsw : swapsWith (.DictComp kx vx [⟨tg, iter, ifs, 0⟩] scope pos) (some (.Name y py)) spos.line X.env = pure true) (hi : PI X tg iter wi) (ok : BlkOk X.N X.env.scope scope own)
    (hg : ∀ (s : Shared) (H : Hp) (C : Addr) (cl : List (Str × Addr)) (fp : List Addr), PG (X.blk s H scope (compEnvC scope cl C X.env) fp) tg g) (ht : ∀ (s : Shared) (H : Hp) (C : Addr) (cl : List (Str × Addr)) (fp : List Addr), PTs (X.blk s H scope (compEnvC scope cl C X.env) fp) ifs tt)
    (hkx : ∀ (s : Shared) (H : Hp) (C : Addr) (cl : List (Str × Addr)) (fp : List Addr), PE (X.blk s H scope (compEnvC scope cl C X.env) fp) kx tk) (hvx : ∀ (s : Shared) (H : Hp) (C : Addr) (cl : List (Str × Addr)) (fp : List Addr), PE (X.blk s H scope (compEnvC scope cl C X.env) fp) vx tv) (hs : ∀ x, foldedSetIterable iter X.env x = pure x := by intro _; rfl) :
    PS X (.Assign [.Name y py] (.DictComp kx vx [⟨tg, iter, ifs, 0⟩] scope pos) spos) (tAsg (tDc wi g tt tk tv (own.map (·.2))) (gName i)) := by
  refine ⟨fun pins s σ H D I h => ?_⟩
  rw [exec_Assign_Name_used _ _ _ _ hsw]
  refine wpAny_bind (wpAny_standAt (wpAny_bind ?_))
  show wpAny _ X.A (do let _ ← comprehension (.DictComp kx vx [⟨tg, iter, ifs, 0⟩] scope pos) scope X.env (firstIterPos [⟨tg, iter, ifs, 0⟩] pos) newDict false (eval iter X.env) (some (assign (.Name y py) X.env))) _ _ s
  have h : tDc wi g tt tk tv (own.map (·.2)) σ H (fun x H1 => gName i x σ H1 D.nx) := h
  refine wpAny_bind (thn (dc_core (Qf := fun _ s' => SP X pins D .next s') hc hN I hi ok hg ht hkx hvx hs h fun L C s' m H' I' q hn f => ?_) fun _ s' hq => wpAny_pure (wpAny_pure hq))
  show wpAny _ _ (assign (.Name y py) X.env (.ref L)) _ _ _
  refine wpAny_assign_Name (store_ok2 (v := V.ref L) I' hN hy (.inl hyl) rfl (fun s2 I2 ⟨a, sb, ha⟩ => ?_) (.inr hyl))
  obtain ⟨f0, f1, f2, f3, f4, f5⟩ := f
  have haC : C ≠ a := by
    rcases ha with z | z
    · rw [z]; exact f1
    · exact fun e => f4 y a z e.symm
  refine ⟨m, hn.sameBut sb haC, fun h3 sb3 => ?_⟩
  exact ⟨_, H', I2.turned (t' := s2.toks) (fun b o hb e => (sb3.2 b hb).trans e) f0 f1 f3 f4 f5, q⟩
theorem s_setDc {i : Nat} {y : Str} {py spos : Pos} (hk : TakesDict (gX X T) W k) (hc : X.calm = true) (hN : X.N.Nodup) (hi : PI X tg iter (rdI (gX X T) W it)) (ok : BlkOk X.N X.env.scope scope own)
    (hg : ∀ (s : Shared) (H : Hp) (C : Addr) (cl : List (Str × Addr)) (fp : List Addr), PG (X.blk s H scope (compEnvC scope cl C X.env) fp) tg (rdTg (gX X T) t is)) (ht : ∀ (s : Shared) (H : Hp) (C : Addr) (cl : List (Str × Addr)) (fp : List Addr), PTs (X.blk s H scope (compEnvC scope cl C X.env) fp) ifs (rdT (gX X T) W0 ts))
    (hkx : ∀ (s : Shared) (H : Hp) (C : Addr) (cl : List (Str × Addr)) (fp : List Addr), PE (X.blk s H scope (compEnvC scope cl C X.env) fp) kx (rd (gX X T) W0 ek)) (hvx : ∀ (s : Shared) (H : Hp) (C : Addr) (cl : List (Str × Addr)) (fp : List Addr), PE (X.blk s H scope (compEnvC scope cl C X.env) fp) vx (rd (gX X T) W0 ev))
    (hsw : swapsWith (.DictComp kx vx [⟨tg, iter, ifs, 0⟩] scope pos) (some (.Name y py)) spos.line X.env = pure true) (hy : X.N[i]? = some y := by rfl) (hyl : X.env.scope.names.lookup y = some .local := by rfl) (hio : ∀ i ∈ is, i ∈ own.map (·.2) := by decide) (hs : ∀ x, foldedSetIterable iter X.env x = pure x := by intro _; rfl) :
    PS X (.Assign [.Name y py] (.DictComp kx vx [⟨tg, iter, ifs, 0⟩] scope pos) spos) (rdS (gX X T) W (sAsg (gNm i) (eDc k it t ts ek ev (own.map (·.2))))) := by
  refine PS_imp (ps_setDc hc hN hy hyl hsw hi ok hg ht hkx hvx hs) fun E s H h => ?_
  refine dc_rd (g := gX X T) (W := W) hk hio s H _ ?_
  refine rdS_ofE (f := fun x e S1 => match gNm i x e with | some e1 => .go (.nx e1) S1 | none => .stuck) h fun w1 H1 S1 e v x hS hE hx h1 => ?_
  exact h1 w1 H1 _ (Ext.refl _ _) hS (hE.set hx)
/-- the empty dict -/
def eDct0 (k : KD) : EM := fun _ S => k [] S
theorem e_dct0 (hk : TakesDict (gX X T) W k) : PE X (.Dict [] [] pos) (rd (gX X T) W (eDct0 k)) := PE_imp pe_dnewK fun s H Q ⟨w, e, S, hS, hE, h⟩ => hk hS .nil h
end

/-! ### a product, a sum of lists as one likes -/
def fMulL (k : KL) (x y : Vl) (S : Store) : Out Vl := match lview S x, y with
  | some xs, .v (.int n) => if -1000000 ≤ n ∧ n ≤ 1000000 ∧ xs.length * n.toNat ≤ 16777216 then k (repD n xs) S else .stuck
  | _, _ => .stuck
theorem RepVs.rep {g : G} {w : Wd} {vs : List V} {ds : List Vl} (r : RepVs g w vs ds) (k : Nat) : RepVs g w (List.replicate k vs).flatten (List.replicate k ds).flatten := by
  induction k with
  | zero => exact .nil
  | succ k ih => rw [List.replicate_succ, List.replicate_succ, List.flatten_cons, List.flatten_cons]; exact r.append ih
theorem fMulL_of {g : G} {W : WX} {k : KL} (hk : TakesList g W k) : OpD g W (fMulL k) rRep := by
  intro s w H S v u x y Q hS hx hy h
  unfold fMulL at h
  split at h
  · rename_i xs n e
    obtain ⟨a, vs, rfl, q, r⟩ := lview_rep hS hx e
    cases hy with
    | v hy =>
      cases hy
      split at h
      · rename_i hl
        obtain ⟨h1, h2, h3⟩ := hl
        exact ⟨a, n, vs, rfl, rfl, q, by omega, by omega, by rw [r.len]; exact line_of h3, hk hS (r.rep _) h⟩
      · exact h.elim
  · exact h.elim
def fAddL (k : KL) (x y : Vl) (S : Store) : Out Vl := match lview S x, lview S y with
  | some a, some b => if a.length + b.length ≤ 16777216 then k (a ++ b) S else .stuck
  | _, _ => .stuck
theorem fAddL_of {g : G} {W : WX} {k : KL} (hk : TakesList g W k) : OpD g W (fAddL k) rCat := by
  intro s w H S v u x y Q hS hx hy h
  unfold fAddL at h
  split at h
  · rename_i xs ys ex ey
    obtain ⟨a, vs, rfl, qa, ra⟩ := lview_rep hS hx ex
    obtain ⟨b, us, rfl, qb, rb⟩ := lview_rep hS hy ey
    split at h
    · rename_i hl
      exact ⟨a, b, vs, us, rfl, rfl, qa, qb, by rw [ra.len, rb.len]; exact line_of hl, hk hS (ra.append rb) h⟩
    · exact h.elim
  · exact h.elim
end Ax
/-! Ax10: sorted, len(set(..)), written rows -/
namespace Ax
open PySem PySem.Spec PyProof.Rows L2

/-! ### sorted -/
def insD {α : Type} (le : α → α → Bool) (a : α) : List α → List α
  | [] => [a]
  | b :: r => if le a b then a :: b :: r else b :: insD le a r
def isortD {α : Type} (le : α → α → Bool) : List α → List α
  | [] => []
  | a :: r => insD le a (isortD le r)
theorem insD_app {α : Type} {le : α → α → Bool} {a : α} : ∀ {l m : List α}, (∀ b ∈ l, le a b = false) → (∀ b ∈ m, le a b = true) → insD le a (l ++ m) = l ++ a :: m
  | [], [], _, _ => rfl
  | [], b :: m, _, h => by
    show (if le a b then a :: b :: m else b :: insD le a m) = a :: b :: m
    rw [h b (by simp)]; rfl
  | b :: l, m, h1, h2 => by
    show (if le a b then a :: b :: (l ++ m) else b :: insD le a (l ++ m)) = b :: (l ++ a :: m)
    rw [h1 b (by simp), insD_app (fun c hc => h1 c (by simp [hc])) h2]; rfl
theorem isortD_eq {α : Type} {le : α → α → Bool} (h : PySem.W.TotalLe le) : ∀ l : List α, l.mergeSort le = isortD le l
  | [] => by simp [isortD]
  | a :: l => by
    have tot : ∀ a b, (le a b || le b a) = true := fun a b => by
      rcases h.total a b with z | z <;> simp [z]
    obtain ⟨l1, l2, e1, e2, e3⟩ := List.mergeSort_cons (le := le) h.trans tot a l
    have sp := List.pairwise_mergeSort (le := le) h.trans tot (a :: l)
    rw [e1] at sp
    show _ = insD le a (isortD le l)
    rw [← isortD_eq h l, e1, e2]
    refine (insD_app (fun b hb => ?_) fun b hb => ?_).symm
    · have z := e3 b hb
      simpa using z
    · exact (List.pairwise_cons.mp (List.pairwise_append.mp sp).2.1).1 b hb
def srtD (ds : List D) : List D := isortD (PySem.W.dataLe false toP) ds
theorem srtD_eq (ds : List D) : srtD ds = ds.mergeSort (PySem.W.dataLe false toP) := (isortD_eq (PySem.W.sortLe_total _ _ _) ds).symm
def tup0 : D → Bool
  | .tup (_ :: _) => true
  | _ => false
def ntup : D → Bool
  | .int _ => true
  | .str _ => true
  | .bl _ => true
  | .lst _ => true
  | _ => false
/-- what may be sorted -/
def srtOk (ds : List D) : Bool := ds.all (okd 59) && (ds.all fun a => ds.all fun b => PySem.W.alike (toP a) (toP b)) && (ds.all tup0 || ds.all ntup)
def rSrt (X : Cx) (T : List (Addr × Str)) : List V → Hp → VK → Prop := fun vs H Q => ∃ (a : Addr) (xs : List V) (ds : List D), vs = [V.ref a] ∧ SqL X.K H a xs ∧ RepAll (gX X T) H xs ds ∧ srtOk ds = true ∧
  ∀ (ys : List V) (p : Addr), H p = none → (∀ F, RepAll (gX X T) F xs ds → RepAll (gX X T) F ys (srtD ds)) → Q (.ref p) (upd H p (.lst ys))
theorem RepAll.zipM {g : G} {F : Hp} : ∀ {xs : List V} {ds : List D}, RepAll g F xs ds → ∀ p ∈ xs.zip ds, Rep g F p.1 p.2
  | _, _, .nil, p, h => by simp at h
  | _, _, .cons h r, p, hp => by
    rw [List.zip_cons_cons] at hp
    rcases List.mem_cons.mp hp with e | hp
    · rw [e]; exact h
    · exact RepAll.zipM r p hp
theorem repAll_of {g : G} {F : Hp} : ∀ {zs : List (V × D)}, (∀ p ∈ zs, Rep g F p.1 p.2) → RepAll g F (zs.map Prod.fst) (zs.map Prod.snd)
  | [], _ => .nil
  | z :: zs, h => .cons (h z (List.mem_cons_self ..)) (repAll_of fun p hp => h p (List.mem_cons_of_mem _ hp))
theorem each_zip {R : V → Value → Prop} : ∀ {xs : List V} {us : List Value} {ds : List D}, Paired R xs us → xs.length = ds.length → PySem.W.EachIs (fun u p => R p.1 u) us (xs.zip ds)
  | _, _, [], .nil, _ => .nil
  | _, _, d :: ds, .cons r t, h => .cons r (each_zip t (by simpa using h))
theorem each_vals : ∀ {us : List Value} {zs : List (V × D)}, PySem.W.EachIs (fun u p => RelV p.1 u) us zs → Vals (zs.map Prod.fst) us
  | _, _, .nil => .nil
  | _, _, .cons r t => .cons r (each_vals t)
theorem each_reads {X : Cx} {T : List (Addr × Str)} {pins : List (Addr × Obj)} {σ : L2.St} {H : Hp} {s : Shared} (I : Inv X pins σ H s) : ∀ {xs : List V} {us : List Value} {ds : List D}, Vals xs us → RepAll (gX X T) H xs ds → (∀ d ∈ ds, okd 59 d = true) →
    PySem.W.EachIs (fun u p => ∃ as, Reads s.heap u (toP p.2) as) us (xs.zip ds)
  | _, _, _, .nil, .nil, _ => .nil
  | _, _, _, .cons r t, .cons h hr, ok => .cons (Dp.reads I _ _ _ (Rep.dp 59 h (ok _ (by simp))) r) (each_reads I t hr fun d hd => ok d (by simp [hd]))
theorem cr_srt {X : Cx} {T : List (Addr × Str)} (hu : X.A.units + 66 < cLine) : CallR X (.builtin "sorted") (rSrt X T) := by
  intro pins s σ H vs us Q I r h
  obtain ⟨a, xs, ds, rfl, hs, hr, ok, q⟩ := h
  obtain ⟨its, rv, hl, hz⟩ := I.list hs
  rw [Vals.ref1 r]
  unfold srtOk at ok
  rw [Bool.and_eq_true, Bool.and_eq_true] at ok
  obtain ⟨⟨o1, o2⟩, o3⟩ := ok
  have o1 : ∀ d ∈ ds, okd 59 d = true := List.all_eq_true.mp o1
  have o2 : ∀ d ∈ ds, ∀ e ∈ ds, PySem.W.alike (toP d) (toP e) = true := fun d hd e he => List.all_eq_true.mp (List.all_eq_true.mp o2 d hd) e he
  have hlen := hr.len
  have snd : (xs.zip ds).map Prod.snd = ds := List.map_snd_zip (by omega)
  have fst : (xs.zip ds).map Prod.fst = xs := List.map_fst_zip (by omega)
  have mem : ∀ p ∈ xs.zip ds, p.2 ∈ ds := fun p hp => by rw [← snd]; exact List.mem_map.mpr ⟨p, hp, rfl⟩
  refine PySem.W.sorted_data (β := V × D) (bs := xs.zip ds) (enc := fun p => toP p.2) (R := fun u p => RelV p.1 u) hl.isList (each_zip rv (by omega)) (each_reads (T := T) I rv hr o1) (fun d hd e he => ?_) ?_ (by rw [List.length_zip]; omega) (fun p hp => ?_) fun out h1 h2 => ?_
  · obtain ⟨p, hp, rfl⟩ := List.mem_map.mp hd
    obtain ⟨p', hp', rfl⟩ := List.mem_map.mp he
    exact o2 _ (mem p hp) _ (mem p' hp')
  · rcases Bool.or_eq_true _ _ |>.mp o3 with o3 | o3
    · refine .inl fun d hd => ?_
      obtain ⟨p, hp, rfl⟩ := List.mem_map.mp hd
      have := List.all_eq_true.mp o3 _ (mem p hp)
      unfold tup0 at this
      split at this
      · rename_i x r e
        rw [e]
        exact ⟨toP x, toPs r, by simp [toP, toPs]⟩
      · cases this
    · refine .inr fun d hd => ?_
      obtain ⟨p, hp, rfl⟩ := List.mem_map.mp hd
      have := List.all_eq_true.mp o3 _ (mem p hp)
      unfold ntup at this
      split at this <;> first | (cases this; done) | (rename_i e; rw [e]; simp [toP]; done)
  · have := (okd_lay 59 _ (o1 _ (mem p hp))).2
    omega
  · obtain ⟨ep, he'⟩ := PyProof.Rows.sortedAll_at s.heap its out.toArray
    have hv : Vals (((xs.zip ds).mergeSort (PySem.W.dataLe false fun p => toP p.2)).map Prod.fst) out := each_vals h2
    have hl2 : (((xs.zip ds).mergeSort (PySem.W.dataLe false fun p => toP p.2)).map Prod.fst).length ≤ sizeLine := by
      rw [List.length_map, List.length_mergeSort, List.length_zip]; omega
    refine ⟨.ref _, upd H (s.heap.objs.size + 1) (.lst (((xs.zip ds).mergeSort (PySem.W.dataLe false fun p => toP p.2)).map Prod.fst)), I.laid (t' := s.toks) (fun _ _ => PyProof.Rows.sortedAll_old) (Nat.le_succ _) ⟨hl2, out, ep, hv, he'⟩, rfl, q _ _ (I.hok.fresh (Nat.le_succ _)) fun F hF => ?_⟩
    have e : srtD ds = ((xs.zip ds).mergeSort (PySem.W.dataLe false fun p => toP p.2)).map Prod.snd := by
      rw [srtD_eq, List.map_mergeSort (f := Prod.snd) (s := PySem.W.dataLe false toP) (r := PySem.W.dataLe false fun p : V × D => toP p.2) (fun a _ b _ => rfl), snd]
    rw [e]
    exact repAll_of fun p hp => hF.zipM p ((List.mergeSort_perm _ _).mem_iff.mp hp)
def fSrt (k : KL) (xs : List Vl) (S : Store) : Out Vl := match xs with
  | [x] => match (llview S x).bind unv with
    | some ds => if srtOk ds then k ((srtD ds).map .v) S else .stuck
    | none => .stuck
  | _ => .stuck
theorem fSrt_of {X : Cx} {T : List (Addr × Str)} {W : WX} {k : KL} (hk : TakesList (gX X T) W k) : CalD (gX X T) W (fSrt k) (rSrt X T) := by
  intro s w H S vs xs Q hS hx h
  unfold fSrt at h
  split at h
  · cases hx with
    | cons h1 hx =>
      cases hx
      split at h
      · rename_i ds hd
        obtain ⟨ys, e1, e2⟩ := Option.bind_eq_some_iff.mp hd
        obtain ⟨a, us, rfl, q, r⟩ := llview_rep hS h1 e1
        split at h
        · rename_i ok
          exact ⟨a, us, ds, rfl, q, (r.un e2).le hS.hle, ok, fun zs p hp hF => hk hS (hF _ (r.un e2)).vs h p hp⟩
        · exact h.elim
      · exact h.elim
  · exact h.elim

/-! ### len(set(t)), t a tuple of ints -/
def dist : List Int → List Int
  | [] => []
  | x :: r => if x ∈ r then dist r else x :: dist r
theorem dist_mem : ∀ (l : List Int) (k : Int), k ∈ dist l ↔ k ∈ l
  | [], k => by simp [dist]
  | x :: r, k => by
    unfold dist
    split
    · rename_i h
      rw [dist_mem r k]
      constructor
      · exact fun q => List.mem_cons_of_mem _ q
      · intro q
        rcases List.mem_cons.mp q with q | q
        · rw [q]; exact h
        · exact q
    · rw [List.mem_cons, List.mem_cons, dist_mem r k]
theorem dist_nodup : ∀ l : List Int, (dist l).Nodup
  | [] => List.nodup_nil
  | x :: r => by
    unfold dist
    split
    · exact dist_nodup r
    · rename_i h
      exact List.nodup_cons.mpr ⟨fun q => h ((dist_mem r x).mp q), dist_nodup r⟩
def tLenSetT (K : PySem.W.Frag) (ta : TE) : TE := fun σ H Q => ta σ H fun x H1 => ∃ (l : Addr) (ns : List Int), x = .ref l ∧ SqT K H1 l (ns.map V.int) ∧ ns.length ≤ 1000 ∧ Q (.int ((dist ns).length : Nat)) H1
theorem pe_lenSetT {X : Cx} {a : Expr} {ta : TE} {p p2 q pos : Pos} (hc : X.calm = true) (hg : Gl X "len") (hm : X.mg "len" = none) (hg2 : Gl X "set") (hm2 : X.mg "set" = none) (ha : PE X a ta)
    (na : starEach [a] X.env = (false, eval a X.env) :: starEach [] X.env := by rfl) : PE X (.Call (.Name "len" p) [.Call (.Name "set" p2) [a] [] q] [] pos) (tLenSetT X.K ta) := by
  refine ⟨fun pins s σ H Q I h => ?_⟩
  refine Call_ (ld_blt I hg hm boot_len ?_)
  refine PyProof.Rows.callWith_builtin1 (PyProof.Rows.args_cons ?_ rfl) rfl rfl
  refine Call_ (ld_blt I hg2 hm2 boot_set ?_)
  refine PyProof.Rows.callWith_type1 (PyProof.Rows.args_cons (thn (ha.run pins s σ H _ I h) fun v s1 ⟨x, H1, I1, r1, q1⟩ => PyProof.Rows.args_nil ?_) na) na rfl
  obtain ⟨l, ns, rfl, hq, hl, q1⟩ := q1
  cases r1
  obtain ⟨its, rv, pt, hz⟩ := I1.tuple hq
  have hi : IntsAre its.toArray.toList ns := ints_of_vals rv
  refine call_set_tupI ns (I1.ok.hd hc) (show s1.heap.IsTuple l its.toArray from pt) hi (by unfold scanBound; omega) fun h' tk c R1 hcn k => ?_
  refine PyProof.Rows.args_nil ?_
  obtain ⟨o, es, ep, t, ho, hex, hdt, g, nd, hm2', hb, hf, hn, hr, hl2⟩ := R1
  have I2 : Inv X pins σ H1 { s1 with heap := h', toks := tk } := I1.kept k
  have en : es.size = (dist ns).length := by
    have e1 : (es.toList.map L2.keyOf).Perm (dist ns) := (List.perm_ext_iff_of_nodup nd (dist_nodup ns)).mpr fun z => by
      rw [← hm2' z, decide_eq_true_eq, dist_mem]
    have := e1.length_eq
    simpa using this
  exact call_len_set ho hex hdt hf (by unfold scanBound at hb; omega) ⟨.int ((dist ns).length : Nat), H1, I2.tok _, ⟨_, by rw [en]⟩, q1⟩
def kLenSet (x : Vl) (S1 : Store) : Out Vl := match x with
  | .v (.tup ds) => match vInts (ds.map Vl.v) with
    | some ns => if ns.length ≤ 1000 then .ok (.v (.int ((dist ns).length : Nat))) S1 else .stuck
    | none => .stuck
  | _ => .stuck
def eLenSet (m : EM) : EM := fun e S => (m e S).bind kLenSet
theorem e_lenSet {X : Cx} {T : List (Addr × Str)} {W : WX} {a : Expr} {ma : EM} {p p2 q pos : Pos} (hc : X.calm = true) (hm : X.mg "len" = none) (hm2 : X.mg "set" = none) (ha : PE X a (rd (gX X T) W ma)) (hg : Gl X "len" := by rfl) (hg2 : Gl X "set" := by rfl)
    (na : starEach [a] X.env = (false, eval a X.env) :: starEach [] X.env := by rfl) : PE X (.Call (.Name "len" p) [.Call (.Name "set" p2) [a] [] q] [] pos) (rd (gX X T) W (eLenSet ma)) :=
  PE_imp (pe_lenSetT hc hg hm hg2 hm2 ha na) fun s H Q h => rd_bind (f := fun x _ S1 => kLenSet x S1) h fun w1 H1 S1 e v x hS hE hx h1 => by
    unfold kLenSet at h1
    split at h1
    · cases hx with
      | v hx =>
        cases hx with
        | tup q r =>
          split at h1
          · rename_i ns hn
            split at h1
            · rename_i hl
              have ev := ints_rep r.vs hn
              rw [ev] at q
              exact ⟨_, ns, rfl, sqT_le hS.hle q.sq, hl, h1 w1 H1 _ (Ext.refl _ _) hS (.v (.int _))⟩
            · exact h1.elim
          · exact h1.elim
    · exact h1.elim
end Ax
/-! Ax11: errors that are caught; lambdas -/
namespace Ax
open PySem PySem.Spec PyProof.Rows L2
section
open PySem.W PySem.Calls
variable {prog : Program} {w : World} {A : Around} {E : Value → Shared → Prop} {s : Shared} {K : Frag} {x D : Addr} {ox : Obj} {od : Option Obj}
theorem findObj_dataA {C : Addr} {name : Str} {a g : Value} {o : Obj} (hc : (clsIn K C).isSome = true) (ha : findIn K (.ref C) name = some (some a)) (hg : specialIn K a "__get__" = some (some g)) (ht : takesIn K a = some true) : findObj K C (some o) name = some (.bind g a) := by
  obtain ⟨cd, hc⟩ := Option.isSome_iff_exists.mp hc
  unfold findObj
  rw [hc, Option.bind_some, ha, Option.bind_some]
  simp [hg, ht]
theorem kin_classD {o : Obj} {Q : Option Value → Shared → Prop} (hga : findIn K (.ref D) "__getattribute__" = some (some (.builtin "BaseException.__getattribute__"))) (hgt : findIn K (.ref D) "__getattr__" = some none) (hsub : subIn K (.ref D) (.type "BaseException") = some true)
    (hdct : hasDictIn K D = true) (ha : findIn K (.ref D) "__class__" = some (some (.builtin "object.__class__")))
    (hn : specialIn K (.builtin "object.__class__") "__get__" = some (some (.builtin "getset_descriptor.__get__"))) (htk : takesIn K (.builtin "object.__class__") = some true) (hm : mroIn K D (.type "object") = some true)
    (X : K.In s.heap) (I : InstAt s.heap x ox D (some o)) (h : Q (some (.ref D)) { s with toks := s.toks + 1 }) : wpAny (model prog w) A (getAttr? (.ref x) "__class__") Q E s := by
  have hf : findObj K D (some o) "__class__" = some (.bind (.builtin "getset_descriptor.__get__") (.builtin "object.__class__")) := findObj_dataA (by obtain ⟨cd, hc, _⟩ := any_some hdct; rw [hc]; rfl) ha hn htk
  obtain ⟨hp, g, d, t, os⟩ := s
  have L0 := I.type (M := model prog w)
  have L1 := looks_findIn (M := model prog w) X hga
  have L2 := looks_findIn (M := model prog w) X hgt
  have L3 := looks_find (M := model prog w) X I hf
  have sub : Looks (model prog w) hp (isInstance (.ref x) (.type "BaseException")) true := L0.andThen (looks_subIn X hsub)
  have hx0 : (false && onTheHeap (Value.builtin "BaseException.__getattribute__")) = false := rfl
  have hx2 : (Value.builtin "BaseException.__getattribute__" == Value.builtin "object.__getattribute__") = false := by decide +kernel
  have hx1 : (onTheHeap (Value.ref D) && Value.builtin "BaseException.__getattribute__" == Value.builtin "object.__getattribute__") = false := by rw [hx2]; rfl
  unfold getAttr? getAttrBy? getAttrBy
  refine wpAny_bind (wpAny_mkText (wpAny_bind (wpAny_attempt (wpAny_holding (wpAny_bind (L0.at (wpAny_bind (L1.at ?_))))))))
  show wpAny _ _ (if (onTheHeap (Value.ref D) && Value.builtin "BaseException.__getattribute__" == Value.builtin "object.__getattribute__") = true then _ else _) _ _ _
  rw [hx1, if_neg Bool.false_ne_true]
  unfold getAttrByItsOwn hookBefore
  refine wpAny_bind ?_
  rw [if_pos (show onTheHeap (Value.ref D) = true from rfl)]
  refine L2.at ?_
  refine wpAny_bind (wpAny_attempt (wpAny_holding ?_))
  unfold callGetattribute
  rw [hx0, if_neg Bool.false_ne_true]
  unfold boundAndCalled
  rw [PySem.F.excAttr_ValueError.ga.bind (.ref x)]
  refine wpAny_bind (wpAny_pure ?_)
  show wpAny _ _ (call (.builtin "BaseException.__getattribute__") [.ref x, .str "__class__" t]) _ _ _
  refine wpAny_call (codeAny_call_builtin PySem.F.excAttr_ValueError.ga.plain PySem.F.entry_bexc_ga ?_)
  refine @check_slot (model prog w) _ _ ⟨hp, g, d, t + 1, os⟩ "BaseException.__getattribute__" "BaseException" "__getattribute__" (.ref x) [.str "__class__" t] [] _ (by decide +kernel) (by decide +kernel) sub (PySem.F.args_bexc_ga (.ref x) (.str "__class__" t)) ?_
  unfold Builtin.«object.__getattribute__»
  refine wpAny_bind (wpAny_of_eq (a := ((Value.ref x : Value), [Value.str "__class__" t])) (by first | rfl | (simp only [slotArgs]; rfl)) ?_)
  refine wpAny_bind (wpAny_pure (wpAny_bind (L0.at (wpAny_bind (L3.at ?_)))))
  show wpAny _ _ (holding [Value.builtin "object.__class__"] (call (.builtin "getset_descriptor.__get__") [.builtin "object.__class__", .ref x, .ref D]) >>= ret) _ _ _
  refine wpAny_bind (wpAny_holding (wpAny_call (class_get (s := ⟨hp, g, d, t + 1, os⟩) (ox := ox) (od := some o) X I hm ?_)))
  refine wpAny_pure ?_
  show wpAny _ _ (handedOut (.ref D)) _ _ _
  rw [handedOut_of (v := .ref D) rfl]
  first
    | exact wpAny_pure (wpAny_pure h)
    | exact wpAny_pure h
    | exact wpAny_pure (wpAny_bind (wpAny_pure (wpAny_pure h)))
theorem kitx_excD {o : Obj} (hga : findIn K (.ref D) "__getattribute__" = some (some (.builtin "BaseException.__getattribute__"))) (hgt : findIn K (.ref D) "__getattr__" = some none) (hsub : subIn K (.ref D) (.type "BaseException") = some true) (hdct : hasDictIn K D = true) (ha : findIn K (.ref D) "__class__" = some (some (.builtin "object.__class__")))
    (hn : specialIn K (.builtin "object.__class__") "__get__" = some (some (.builtin "getset_descriptor.__get__"))) (htk : takesIn K (.builtin "object.__class__") = some true) (hm : mroIn K D (.type "object") = some true) :
    KitX K (.ref x) (.ref D) (fun h => InstAt h x ox D (some o)) where
  ty := fun _ _ _ I => I.type
  it := fun _ _ X _ => by
    obtain ⟨cdD, hcD, _⟩ := any_some hdct
    unfold clsIn at hcD
    split at hcD
    · rename_i c' d' cd' sl' ho
      intro A' Q' E' s' k q
      unfold isType loadHead
      exact wpAny_bind (wpAny_loadPart (k _ _ (X _ _ ho)) (wpAny_pure q))
    · cases hcD
  ne := fun h tp dd its n sl X htp => by
    obtain ⟨cdD, hcD, _⟩ := any_some hdct
    refine Bool.eq_false_iff.mpr fun q => ?_
    have e : D = tp := Value.ref.inj (beq_iff_eq.mp q)
    subst e
    unfold clsIn at hcD
    split at hcD
    · rename_i c' d' cd' sl' ho
      have z := (X _ _ ho).symm.trans htp
      cases z
    · cases hcD
  ca := fun X I k => kin_classD hga hgt hsub hdct ha hn htk hm X I k
end
/-- isinstance(e, c), e the error that the suite holds, with a dict of its own -/
def rIsED (K : PySem.W.Frag) (D a dd : Addr) : List V → Hp → VK → Prop := fun xs H Q => ∃ (c : V) (cv : Value) (b : Bool) (fs : List (Str × V)), xs = [.ref a, c] ∧ (∀ u, RelV c u → u = cv) ∧ PySem.W.kitOne K (.ref D) cv = some b ∧ H dd = some (.xd fs) ∧ Q (.bl b) H
theorem call_isED {X : Cx} {a D dd : Addr} {oe : Obj} {pn : List (Addr × Obj)} (C : ExcC X.K D) (hz : Zc (.ref D) (some dd) oe) (hf : ∃ vs, oe.data = .fields vs) : CallR (X.suite a ((a, oe) :: pn)) (.builtin "isinstance") (rIsED X.K D a dd) := by
  intro pins s σ H xs us Q I r h
  obtain ⟨c, cv, b, fs, rfl, hcv, e, hdd, q⟩ := h
  cases r with
  | cons rx rr =>
    cases rr with
    | cons rt rr =>
      cases rr
      cases rx
      have ec := hcv _ rt
      subst ec
      obtain ⟨hget, _⟩ := I.pin (a, oe) (List.mem_append.mpr (.inl List.mem_cons_self))
      obtain ⟨vs, hv⟩ := hf
      have hx : ObjOk X.prog X.w H s.heap dd (.xd fs) := I.hok dd _ hdd
      obtain ⟨mA, hns, hr⟩ := hx
      obtain ⟨od, ho, hl⟩ := lookIn_ns hns
      have J : PySem.W.InstAt s.heap a oe D (some od) := ⟨hget, hz.1, by unfold PySem.W.notCls; rw [hv] <;> rfl, by rw [hz.2]; exact ho⟩
      exact PySem.W.kia_one (kitx_excD C.hg C.hk C.hs C.hd C.ha C.hn C.ht C.hm) I.kIn J e (fun z => nomatch z) fun tk => ⟨.bl b, H, I.kept (t' := tk) fun _ _ z => z, rfl, q⟩

/-! ### the heap with a code object more -/
structure ExtT (H H' : Hp) : Prop where
  kp : ∀ b o, H b = some o → (∀ ps, o ≠ .tbl ps) → H' b = some o
  tk : ∀ b o, H b = some o → ∃ o', H' b = some o' ∧ (noTbl o → noTbl o')
theorem noTbl_of {o : HO} (h : noTbl o) : ∀ ps, o ≠ .tbl ps := fun ps z => by subst z; exact h
theorem RepSt.extT {g : G} {w : Wd} {H H1 : Hp} {S : Store} (h : RepSt g w H S) (e : ExtT H H1) (t : LamX.Tabs g.T H1) : RepSt g w H1 S ∧ Ext w H w H1 := by
  refine ⟨⟨h.len, h.nd, fun a o q => e.kp a o (h.le a o q) (noTbl_of (h.nt a o q)), h.out, fun n a c e1 e2 => ?_, t, fun a ha => ?_, h.nt⟩, ⟨⟨[], by simp⟩, HLe.refl _, fun a o q _ n => e.kp a o q (noTbl_of n), fun a q => .inl q, fun a o q => .inl ⟨o, q⟩, e.tk⟩⟩
  · have q := h.cel n a c e1 e2
    cases c with
    | lst xs => obtain ⟨vs, q1, q2⟩ := q; exact ⟨vs, e.kp _ _ q1 (noTbl_of trivial), q2⟩
    | dct ps => obtain ⟨vs, q1, q2⟩ := q; exact ⟨vs, e.kp _ _ q1 (noTbl_of trivial), q2⟩
    | dcn ps => obtain ⟨vs, q1, q2, q3⟩ := q; exact ⟨vs, e.kp _ _ q1 (noTbl_of trivial), q2, q3⟩
    | ins c fs => obtain ⟨C, dx, vs, m, q1, q2⟩ := q; exact ⟨C, dx, vs, m, e.kp _ _ q1 (noTbl_of trivial), q2⟩
    | dead => trivial
  · obtain ⟨o, q, n⟩ := h.tr a ha
    exact ⟨o, e.kp _ _ q (noTbl_of n), n⟩
section
open LamX
variable {X : Cx} {pins : List (Addr × Obj)} {σ : L2.St} {H : Hp} {s : Shared}
theorem lam_make3 {T : List (Addr × Str)} {c P : Addr} {params : Arguments} {body : Expr} {scope : Scope} {pos : Pos} {E : Value → Shared → Prop} {Q : Value → Shared → Prop} (I : Inv X pins σ H s) (TB : TabB X.base X.mg c P) (hcode : X.env.code = .ref c)
    (hm : (P, X.env.qual ++ "<lambda>") ∈ T) (hu : ∀ p ∈ T, p.1 = P → p.2 = X.env.qual ++ "<lambda>") (hT : Tabs T H) (hdef : defaultsOf params X.env = ([], [])) (hfree : ∀ y ∈ scope.names, y.2 = .free → ∃ c, X.env.cells.lookup y.1 = some c)
    (h : ∀ (f c' : Addr) (pm ctv : Value) (H1 : Hp) (s' : Shared), Inv X pins σ H1 s' → ExtT H H1 → Tabs T H1 →
      s'.heap.get? f = some (PySem.W.kla_obj "<lambda>" (X.env.qual ++ "<lambda>") params body scope (cloFrom X.env.cells scope.names []) pm c' ctv) → H1 f = none → f ∉ frs X.stack → H1 c' = some (CodeO c' (X.env.qual ++ "<lambda>")) → Q (.ref f) s') :
    wpAny (model X.prog X.w) X.A (eval (.Lambda params body scope pos) X.env) Q E s := by
  obtain ⟨ps, hP, ht, ha⟩ := hT _ hm
  refine PySem.W.kla_eval hdef ?_
  have bP : s.heap.BuiltinsAt X.mg P := TB.bm.keeps I.bk
  have hP' : s.heap.get? P = some { cls := .none, data := .fields ps } := I.hok P _ hP
  have nofr : ∀ f, s.heap.objs.size ≤ f → f ∉ frs X.stack := fun f hf z => by
    rcases List.mem_cons.mp (I.stkSub _ z) with e | e
    · have h1 := I.lt
      rw [← e] at h1
      exact Nat.lt_irrefl _ (Nat.lt_of_lt_of_le h1 hf)
    · exact I.nofs hf e
  cases hc : codeAmong pos ps.toList with
  | none =>
    refine PySem.W.kla_makeFunction (mg := X.mg) (c := c) (P := P) (ps := ps) (closure_ok hfree) I.ok.glob (I.mod.glob.keeps I.bk) hcode (TB.code.keeps I.bk) hP' ht hc TB.gP bP fun c' ctv h' tk hx hge hlt hrec htb => ?_
    obtain ⟨c2, oc, vs, t, e2, hoc, hd, hv⟩ := hrec
    cases e2
    have hsz : s.heap.objs.size ≤ h'.objs.size := Nat.le_trans hge (Nat.le_of_lt hlt)
    have nC : H c' = none := I.hok.fresh hge
    have I1 := inv_table (t' := tk) (more := #[rawInt pos.line, rawInt pos.col, .ref c']) (h' := h'.push (PySem.W.kla_obj "<lambda>" (X.env.qual ++ "<lambda>") params body scope (cloFrom X.env.cells scope.names []) ((X.mg "__name__").getD .none) c' ctv)) I hP
      (fun b o hb e => Heap.get?_push_of_some _ (hx b o hb e)) (Heap.get?_push_of_some _ htb) hge ⟨oc, vs, t, Heap.get?_push_of_some _ hoc, hd, hv⟩
    have hE : ∀ b o, H b = some o → (∀ ps, o ≠ .tbl ps) → (upd (upd H P (.tbl (ps ++ #[rawInt pos.line, rawInt pos.col, .ref c']))) c' (CodeO c' (X.env.qual ++ "<lambda>"))) b = some o := fun b o e n => by
      rw [upd_ne (ne_of_none e nC), upd_ne (fun z => n ps (Option.some.inj (e.symm.trans (by rw [z]; exact hP))))]
      exact e
    have hE2 : ∀ b o, H b = some o → ∃ o', (upd (upd H P (.tbl (ps ++ #[rawInt pos.line, rawInt pos.col, .ref c']))) c' (CodeO c' (X.env.qual ++ "<lambda>"))) b = some o' ∧ (noTbl o → noTbl o') := fun b o e => by
      by_cases hb : b = P
      · subst hb
        rw [hP] at e; cases e
        exact ⟨_, by rw [upd_ne (ne_of_none hP nC), upd_same], fun z => z.elim⟩
      · exact ⟨o, by rw [upd_ne (ne_of_none e nC), upd_ne hb]; exact e, id⟩
    have eL : (ps ++ #[rawInt pos.line, rawInt pos.col, .ref c']).toList = ps.toList ++ [rawInt pos.line, rawInt pos.col, .ref c'] := by simp
    refine h h'.objs.size c' ((X.mg "__name__").getD .none) ctv _ _ I1 ⟨hE, hE2⟩ (fun p hp => ?_) (Heap.get?_push_size _ rfl) ?_ (nofr _ hsz) upd_same
    · by_cases hb : p.1 = P
      · rw [hu p hp hb, hb]
        refine ⟨_, by rw [upd_ne (ne_of_none hP nC), upd_same], by rw [eL]; exact PySem.TriplesOk_snoc _ _ _ _ ht, fun p' cv hcv => ?_⟩
        rw [eL] at hcv
        rcases among_app _ ht hcv with z | z
        · obtain ⟨c0, e1, e2⟩ := ha p' cv z
          exact ⟨c0, e1, hE _ _ e2 codeO_ne⟩
        · exact ⟨c', z, upd_same⟩
      · obtain ⟨ps', a1, a2, a3⟩ := hT p hp
        refine ⟨ps', by rw [upd_ne (ne_of_none a1 nC), upd_ne hb]; exact a1, a2, fun p' cv hcv => ?_⟩
        obtain ⟨c0, e1, e2⟩ := a3 p' cv hcv
        exact ⟨c0, e1, hE _ _ e2 codeO_ne⟩
    · have n1 : h'.objs.size ≠ c' := Nat.ne_of_gt hlt
      have n2 : h'.objs.size ≠ P := Nat.ne_of_gt (Nat.lt_of_lt_of_le (Heap.lt_size hP') hsz)
      rw [upd_ne n1, upd_ne n2]
      exact I.hok.fresh hsz
  | some cv =>
    obtain ⟨c', e, hco⟩ := ha pos cv hc
    subst e
    refine PySem.W.kla_makeFunctionHit (mg := X.mg) (c := c) (P := P) (ps := ps) (closure_ok hfree) I.ok.glob (I.mod.glob.keeps I.bk) hcode (TB.code.keeps I.bk) hP' ht hc bP fun ctv h' tk hx hsz => ?_
    have I1 : Inv X pins σ H { s with heap := h'.push (PySem.W.kla_obj "<lambda>" (X.env.qual ++ "<lambda>") params body scope (cloFrom X.env.cells scope.names []) ((X.mg "__name__").getD .none) c' ctv), toks := tk } := I.kept fun b o e => Heap.get?_push_of_some _ (hx b o e)
    exact h h'.objs.size c' ((X.mg "__name__").getD .none) ctv H _ I1 ⟨fun _ _ q _ => q, fun _ o q => ⟨o, q, id⟩⟩ hT (Heap.get?_push_size _ rfl) (I.hok.fresh hsz) (nofr _ hsz) hco
def tLamT (T : List (Addr × Str)) (TT : (XK → Hp → VK → Prop) → Hp → VK → Prop) (t : XK → TE) : TE := fun σ H Q => Tabs T H ∧ ∀ H1, ExtT H H1 → Tabs T H1 → TT (fun E H' Q' => t E σ H' Q') H1 Q
theorem pe_lamcall3 {T : List (Addr × Str)} {TT : (XK → Hp → VK → Prop) → Hp → VK → Prop} {x a : Str} {g c P : Addr} {k : Nat} {pg : Arguments} {bg : List Stmt} {sg : Scope} {dV kV doc pm cdv ct oc : Value} {an od : Option Addr} {osl : Array (Option Value)} {Ng : List Str}
    {params : Arguments} {body : Expr} {scope : Scope} {t : XK → TE} {p lpos pos : Pos} (hg : Gl X x) (hm : X.mg x = some (.ref g)) (hk : PySem.W.keepIn X.K (.ref g) = true)
    (lk : X.K.lookup g = some ⟨oc, od, .func (PySem.W.fnOf x x pg bg sg dV kV doc pm an cdv ct), osl⟩) (hcg : PySem.W.codeIn X.K cdv x = true) (hb : L2.Binds X.K (PySem.W.fnOf x x pg bg sg dV kV doc pm an cdv ct) [a] []) (Sg : FnScope Ng [a] sg) (hNg : Ng[0]? = some a) (hva : Vis sg a)
    (hG : GivesTo X Ng x sg g cdv bg a (X.env.qual ++ "<lambda>") TT)
    (TB : TabB X.base X.mg c P) (hcode : X.env.code = .ref c) (hmT : (P, X.env.qual ++ "<lambda>") ∈ T) (hu : ∀ p ∈ T, p.1 = P → p.2 = X.env.qual ++ "<lambda>") (hr : Room (k + 2) X.A) (L : LamS X.env.scope scope) (hdef : defaultsOf params X.env = ([], []))
    (hbind : ∀ (q : Str) (cl : List (Str × Addr)) (pm cv ctv : Value), bindArgs (PySem.W.kla_fn "<lambda>" q params body scope cl pm cv ctv) ⟨[], []⟩ = pure [])
    (hbody : ∀ (A : Around) (outer : List Env) (s : Shared) (H : Hp) (E : XK) (f c' : Addr), Room k (A.deeper (lamEnv X scope s.heap.objs.size f c')) → PE (lamCx X A outer s H E scope f c') body (t E))
    (hdb : (x == ("__debug__" : Str)) = false := by decide) (hd : (a == ("__debug__" : Str)) = false := by decide) (hcd : (a == ("__classdict__" : Str)) = false := by decide) :
    PE X (.Call (.Name x p) [.Lambda params body scope lpos] [] pos) (tLamT T TT t) := by
  refine ⟨fun pins s σ H Q I h => ?_⟩
  obtain ⟨hT, h⟩ := h
  refine wpAny_Call_Name_kw (ld_glob I hg hm ?_ hdb)
  refine PySem.W.callWith_K (h₀ := X.base) I.ok.mod.kin hk ?_ (by rfl) (by rfl)
  show wpAny _ _ (spliced ((false, eval (.Lambda params body scope lpos) X.env) :: backTo pos (starEach [] X.env))) _ _ s
  refine Calls.spliced_cons (lam_make3 I TB hcode hmT hu hT hdef (L.has I.ok) fun f c' pm' ctv H1 s' I1 eN T1 hf hfn hfr hco => ?_)
  refine Calls.spliced_nil ⟨I1.kIn, ?_⟩
  have rc : codeAny (model X.prog X.w) X.A (.call (.ref g) ⟨[.ref f], []⟩) (CR C8.CX0 X.stack X.prog X.w H1 s' Q C8.E0) s' := by
    refine run_ofS (N := Ng) (ps := [a]) (us := [.ref f]) (vs := [.ref f]) lk hcg Sg hr I1.env0 (hb s' [.ref f] I1.kIn rfl) (.cons rfl .nil) rfl fun hr' => ?_
    obtain ⟨t', ht', hq'⟩ := hG f c' s' H1 Q (fun E H' Q' => t E σ H' Q') (fun W pn xe E p1 p2 tk hW => pe_act (i := 0) I1 L hf hfn hfr (hbind _ _ _ _ _) tk hW hr' (fun A outer s H hr2 => hbody A outer s H E f c' hr2) hNg hva hd hcd) hco (h H1 eN T1)
    exact ⟨t', ht'.nox, hq'⟩
  refine wpAny_call (codeAny_mono rc fun r s2 hq => ?_)
  cases r with
  | error e => exact (show False from hq).elim
  | ok fl =>
    cases fl with
    | ret u => exact I1.after hq
    | next => exact False.elim hq
    | brk => exact False.elim hq
    | cont => exact False.elim hq
end
end Ax
/-! Ax12: several except clauses with names; what a law hears -/
namespace Ax
open PySem PySem.Spec PyProof.Rows L2
abbrev HdT := Value × Option Nat × (Addr → Value → Option Addr → TS)
def endsN (D : Ends) (i : Nat) : Ends := { nx := fun σ' H' => D.nx (σ'.set i none) H', rt := D.rt, bk := fun σ' H' => D.bk (σ'.set i none) H', ct := fun σ' H' => D.ct (σ'.set i none) H' }
/-- what the clauses wish of an exception of the body, one after the other -/
def wManyA (K : PySem.W.Frag) (Wout : WX) (D : Ends) : List HdT → WX
  | [] => Wout
  | (c, none, ts) :: r => fun cls d σ H => ∃ b, PySem.W.exmOne K cls c = some b ∧ (b = true → ∀ a, H a = none → ts a cls d D σ H) ∧ (b = false → wManyA K Wout D r cls d σ H)
  | (c, some i, ts) :: r => fun cls d σ H => ∃ b, PySem.W.exmOne K cls c = some b ∧ (b = true → ∀ a, H a = none → ts a cls d (endsN D i) (σ.set i (some (.ref a))) H) ∧ (b = false → wManyA K Wout D r cls d σ H)
inductive HdsA (X : Cx) : List ExceptHandler → List HdT → Prop
  | nil : HdsA X [] []
  | cons {x : Str} {c : Value} {ts : Addr → Value → Option Addr → TS} {b₀ : Stmt} {suite : List Stmt} {np pos' : Pos} {hds : List ExceptHandler} {l : List HdT} (hc : Names X x c)
      (hsu : ∀ (a : Addr) (oe : Obj) (cls : Value) (d : Option Addr) (pn : List (Addr × Obj)), Zc cls d oe → (∃ vs, oe.data = .fields vs) → PSs (X.suite a ((a, oe) :: pn)) (b₀ :: suite) (ts a cls d)) (r : HdsA X hds l) :
      HdsA X (.ExceptHandler (some (.Name x np)) none (b₀ :: suite) pos' :: hds) ((c, none, ts) :: l)
  | consA {x n : Str} {i : Nat} {c : Value} {ts : Addr → Value → Option Addr → TS} {b₀ : Stmt} {suite : List Stmt} {np pos' : Pos} {hds : List ExceptHandler} {l : List HdT} (hi : X.N[i]? = some n) (hln : X.env.kindOf n = some .local) (hc : Names X x c)
      (hsu : ∀ (a : Addr) (oe : Obj) (cls : Value) (d : Option Addr) (pn : List (Addr × Obj)), Zc cls d oe → (∃ vs, oe.data = .fields vs) → PSs (X.suite a ((a, oe) :: pn)) (b₀ :: suite) (ts a cls d)) (r : HdsA X hds l) :
      HdsA X (.ExceptHandler (some (.Name x np)) (some n) (b₀ :: suite) pos' :: hds) ((c, some i, ts) :: l)
section
variable {X : Cx} {body : List Stmt} {h₀ : ExceptHandler} {hds : List ExceptHandler} {l : List HdT} {pos : Pos} {tb : WX → TS} {Wout : WX}
theorem ps_try_manyA (hs : X.stack = X.env :: X.outer) (hf : X.env.frame = some X.env.locals) (hN : X.N.Nodup) (tk : Takes X Wout)
    (hb : ∀ (W : WX) (pn : List (Addr × Obj)) (xe : Value → Shared → Prop), Takes (X.tr pn xe) W → PassesOwn (model X.prog X.w) X.A X.env xe → PSs (X.tr pn xe) body (tb W))
    (hh : HdsA X (h₀ :: hds) l) : PS X (.Try body (h₀ :: hds) [] [] pos) (fun D σ H => tb (wManyA X.K Wout D l) D σ H) := by
  refine ⟨fun pins s σ H D I h => ?_⟩
  have ok := I.ok
  have hfr : X.A.frames = some (X.env :: X.outer) := by rw [ok.frames, hs]
  refine wpAny_Try_except ?_
  refine wpAny_mono ((hb (wManyA X.K Wout D l) (X.pn ++ pins) (fun e s₁ => wpAny (model X.prog X.w) X.A (noteFrame e X.env) (fun _ s₂ => wpAny (model X.prog X.w) X.A (setFlight e none) (fun _ s₃ =>
    wpAny (model X.prog X.w) X.A (handleBy e X.env (h₀ :: hds)) (SP X pins D) X.xe s₃) X.xe s₂) X.xe s₁) (fun u s' xx => ?_) PassesOwn.looking).run [] s σ H D (I.toTry _) h) (fun f s1 hsp => ?_) (fun e s1 he => he)
  · -- the catch
    obtain ⟨a, B, sI, pins', σ', H', cls, d, rfl, J', nb, up, sky, na, os, ag, w⟩ := xx
    have J : Inv X pins σ' H' sI := J'.ofTry ok
    have sky' : Sky B (X.env :: X.outer) a (Zc cls d) X.env.locals s'.heap := by rw [← hs]; exact sky
    show wpAny (model X.prog X.w) X.A (noteFrame (.ref a) X.env) _ _ _
    refine Sky.land Zc.steady hfr hf sky' fun h3 fl3 up3 => ?_
    have J3 : Inv X pins σ' H' { s' with heap := h3 } := J.landed nb fl3.1 (up.trans up3) os ag
    obtain ⟨oe3, vs3, he3, hz3, hd3⟩ := fl3.there
    have notFr : ∀ {h : Heap} {o : Obj} {vs : Array Value}, h.FunFrames B (X.env :: X.outer) → h.get? a = some o → o.data = .fields vs → a ∉ frs (X.env :: X.outer) := fun {h o vs} ff e dd hm => by
      obtain ⟨_, o', e', hnf⟩ := ff.mem hm
      rw [e] at e'; cases e'
      exact hnf _ dd
    have nfr := notFr fl3.2.2.1 he3 hd3
    have nL : a ≠ X.env.locals := fun z => nfr (List.mem_filterMap.mpr ⟨X.env, List.mem_cons_self, by rw [hf, z]⟩)
    have nF : a ∉ X.fs := fun hm => by
      obtain ⟨e, he, q⟩ := List.mem_filterMap.mp hm
      exact nfr (List.mem_filterMap.mpr ⟨e, List.mem_cons_of_mem _ he, q⟩)
    have S3 := J3.suite he3 hd3 na nL nF
    have LT : PySem.W.Looks (model X.prog X.w) h3 (typeOf (.ref a)) cls := fun A Q E s k q => wpAny_typeOf_ref (k _ _ he3) (by rw [hz3.1]; exact q)
    have test : ∀ {x : Str} {c : Value} {np : Pos} (hc : Names X x c) {Q : Value → Shared → Prop} {E : Value → Shared → Prop}, Q c { s' with heap := h3 } → wpAny (model X.prog X.w) (X.A.mark (some (.ref a))) (eval (.Name x np) X.env) Q E { s' with heap := h3 } := fun {x c np} hc {Q E} q => by
      obtain ⟨hg, hdbg, hm | ⟨hm, hv, hnn⟩⟩ := hc
      · exact ld_glob (X := X.suite a ((a, oe3) :: (X.pn ++ pins))) S3 hg hm q hdbg
      · exact ld_blt (X := X.suite a ((a, oe3) :: (X.pn ++ pins))) S3 hg hm hv q hnn hdbg
    have go : ∀ {hds' : List ExceptHandler} {l' : List HdT}, HdsA X hds' l' → wManyA X.K Wout D l' cls d σ' H' →
        wpAny (model X.prog X.w) X.A (handleBy (.ref a) X.env hds') (SP X pins D) X.xe { s' with heap := h3 } := by
      intro hds' l' hk
      induction hk with
      | nil =>
        intro w
        refine wpAny_handleBy_nil ?_
        obtain ⟨k1, k2, k3, oe, vs, T, oT, ts', he, hz, hd, h1, hr⟩ := id fl3
        unfold PySem.passOn
        refine wpAny_bind (wpAny_field he hd h1 ?_)
        rw [if_neg (show ¬ ((Value.ref T == Value.none) = true) from by simp)]
        have fin : wpAny (model X.prog X.w) X.A (setFlight (.ref a) X.env.frame) (fun _ s4 => wpAny (model X.prog X.w) X.A (throw (.ref a) : Sem Flow) (SP X pins D) X.xe s4) X.xe { s' with heap := h3 } := by
          rw [hf]
          refine HandSPX.setFlight_upZ fl3 fun h4 hh4 up4 => wpAny_throw (tk _ _ ?_)
          exact ⟨a, B, sI, pins, σ', H', cls, d, rfl, J, nb, (up.trans up3).trans up4, .inr (.inr (by rw [hs]; exact hh4)), na, os, ag, w⟩
        first
          | exact wpAny_bind (wpAny_pure (wpAny_bind fin))
          | exact wpAny_bind fin
      | @cons x c ts b₀ suite np pos' hds2 l2 hc hsu r ih =>
        intro w
        obtain ⟨b, hb1, hyes, hno⟩ := w
        refine wpAny_handleBy_cons (codeAny_handlers_test ?_) (by intro q; cases q)
        have LM := PySem.W.exm_one (M := model X.prog X.w) (J3.kIn) LT hb1
        refine test hc (LM.here ?_)
        cases b with
        | true =>
          refine codeAny_handlers_suite ?_
          refine HandSPX.lands_againZ fl3 fun h4 fl4 up4 => ?_
          have J4 : Inv X pins σ' H' { s' with heap := h4 } := J.landed nb fl4.1 ((up.trans up3).trans up4) os ag
          obtain ⟨oe4, vs4, he4, hz4, hd4⟩ := fl4.there
          have S4 := J4.suite he4 hd4 na nL nF
          refine wpAny_mono ((hsu a oe4 cls d (X.pn ++ pins) hz4 ⟨_, hd4⟩).run [] _ _ H' _ S4 (hyes rfl a na)) (fun f s6 hsp => ?_) (fun _ _ z => False.elim z)
          cases f with
          | next =>
            obtain ⟨σ6, H6, S6, q6⟩ := hsp
            exact ⟨_, _, S6.unsuite ok, q6⟩
          | brk =>
            obtain ⟨σ6, H6, S6, q6⟩ := hsp
            exact ⟨_, _, S6.unsuite ok, q6⟩
          | cont =>
            obtain ⟨σ6, H6, S6, q6⟩ := hsp
            exact ⟨_, _, S6.unsuite ok, q6⟩
          | ret u =>
            obtain ⟨v6, σ6, H6, S6, r6, q6⟩ := hsp
            exact ⟨_, _, _, S6.unsuite ok, r6, q6⟩
        | false =>
          show wpAny _ X.A (handleBy (.ref a) X.env hds2) _ _ _
          exact ih (hno rfl)
      | @consA x n i c ts b₀ suite np pos' hds2 l2 hi hln hc hsu r ih =>
        intro w
        obtain ⟨b, hb1, hyes, hno⟩ := w
        have hloc : Loc X.env.scope n := .inl hln
        refine wpAny_handleBy_cons (codeAny_handlers_test ?_) (by intro q; cases q)
        have LM := PySem.W.exm_one (M := model X.prog X.w) (J3.kIn) LT hb1
        refine test hc (LM.here ?_)
        cases b with
        | true =>
          refine codeAny_handlers_suite_as ?_
          refine HandSPX.lands_againZ fl3 fun h4 fl4 up4 => ?_
          have J4 : Inv X pins σ' H' { s' with heap := h4 } := J.landed nb fl4.1 ((up.trans up3).trans up4) os ag
          obtain ⟨oe4, vs4, he4, hz4, hd4⟩ := fl4.there
          have S4 := J4.suite he4 hd4 na nL nF
          refine store_ok (X := X.suite a ((a, oe4) :: (X.pn ++ pins))) (v := .ref a) S4 hN hi hloc rfl (fun s5 S5 => ?_) (.inr hln)
          refine wpAny_mono ((hsu a oe4 cls d (X.pn ++ pins) hz4 ⟨_, hd4⟩).run [] s5 _ H' _ S5 (hyes rfl a na)) (fun f s6 hsp => ?_) (fun _ _ z => False.elim z)
          have end_ : ∀ {σ6 : L2.St} {H6 : Hp} {Q : Shared → Prop}, Inv (X.suite a ((a, oe4) :: (X.pn ++ pins))) [] σ6 H6 s6 → (∀ s7, Inv X pins (σ6.set i none) H6 s7 → Q s7) →
              wpAny (model X.prog X.w) X.A (do bindName X.env n .none; unbindBehindTheSuite X.env n pos') (fun _ s7 => Q s7) X.xe s6 := fun {σ6 H6 Q} S6 hq => gone_ok (S6.unsuite ok) hN hi hln hq
          cases f with
          | next =>
            obtain ⟨σ6, H6, S6, q6⟩ := hsp
            exact end_ S6 fun s7 J7 => ⟨_, _, J7, q6⟩
          | brk =>
            obtain ⟨σ6, H6, S6, q6⟩ := hsp
            exact end_ S6 fun s7 J7 => ⟨_, _, J7, q6⟩
          | cont =>
            obtain ⟨σ6, H6, S6, q6⟩ := hsp
            exact end_ S6 fun s7 J7 => ⟨_, _, J7, q6⟩
          | ret u =>
            obtain ⟨v6, σ6, H6, S6, r6, q6⟩ := hsp
            exact end_ S6 fun s7 J7 => ⟨_, _, _, J7, r6, q6⟩
        | false =>
          show wpAny _ X.A (handleBy (.ref a) X.env hds2) _ _ _
          exact ih (hno rfl)
    exact go hh w
  · cases f with
    | next =>
      obtain ⟨σ', H', J', q⟩ := hsp
      exact wpAny_execs_nil ⟨σ', H', J'.ofTry ok, q⟩
    | brk =>
      obtain ⟨σ', H', J', q⟩ := hsp
      exact ⟨σ', H', J'.ofTry ok, q⟩
    | cont =>
      obtain ⟨σ', H', J', q⟩ := hsp
      exact ⟨σ', H', J'.ofTry ok, q⟩
    | ret u =>
      obtain ⟨v, σ', H', J', r, q⟩ := hsp
      exact ⟨v, σ', H', J'.ofTry ok, r, q⟩
end

/-! ### what a law hears: a def that calls what it got and tells the error -/
structure ErrK (K : PySem.W.Frag) (mg : Str → Option Value) (PE C : Addr) : Prop where
  xf : XfC K C
  ex : ExcC K C
  no : PySem.W.findIn K (.ref C) "value" = some none
  is : PySem.W.kitOne K (.ref C) (.ref PE) = some true
/-- return (tag, e.value, isinstance(e, PollError)) -/
def tsH (C : Addr) (tag : Str) (i : Nat) : Addr → Value → Option Addr → TS := fun a cls d => fun D σ H => ∃ dd v, cls = .ref C ∧ d = some dd ∧ (i < σ.length → σ[i]? = some (some (.ref a))) ∧ H dd = some (.xd [(("value" : Str), v)]) ∧ NewT H [.str tag, v, .bl true] D.rt
theorem hsu_tell {X : Cx} {PEr C a : Addr} {oe : Obj} {cls : Value} {d : Option Addr} {pn : List (Addr × Obj)} {tag n : Str} {i j k : Nat} {p1 p2 p3 p4 p5 p6 p7 p8 p9 : Pos} (hz : Zc cls d oe) (hf : ∃ vs, oe.data = .fields vs) (E : ErrK X.K X.mg PEr C) (hP : X.mg "PollError" = some (.ref PEr)) (hm : X.mg "isinstance" = none)
    (hN : X.N[i]? = some n) (hv : Vis X.env.scope n) (hg : Gl X "isinstance") (hg2 : Gl X "PollError") (hd : (n == ("__debug__" : Str)) = false := by decide) (hcd : (n == ("__classdict__" : Str)) = false := by decide)
    (hb : attributeBase (.Name n p2) "value" X.env (eval (.Name n p2) X.env) = eval (.Name n p2) X.env := by rfl) :
    PSs (X.suite a ((a, oe) :: pn)) [.Return (some (.Tuple [.Constant (.str tag) j p1, .Attribute (.Name n p2) "value" p3, .Call (.Name "isinstance" p4) [.Name n p5, .Name "PollError" p6] [] p7] k p8)) p9] (tsH C tag i a cls d) := by
  refine ⟨fun pins s σ H D I h => ?_⟩
  obtain ⟨dd, v, rfl, rfl, hs, hdd, q⟩ := h
  have hi : i < σ.length := by
    have e : σ.length = X.N.length := I.len
    rw [e]; exact (List.getElem?_eq_some_iff.mp hN).1
  have hsi := hs hi
  have pv : ∀ {p : Pos}, PE (X.suite a ((a, oe) :: pn)) (.Name n p) (tVar i) := fun {p} => pe_var (X := X.suite a ((a, oe) :: pn)) hN hv hd hcd
  have pP : PE (X.suite a ((a, oe) :: pn)) (.Name "PollError" p6) (tC (.ref PEr)) := pe_glob (X := X.suite a ((a, oe) :: pn)) (v := .ref PEr) hg2 hP rfl (by decide)
  refine (pss_one (ps_ret (pe_tupF (pa_cons pe_str (pa_cons (pe_xf E.xf E.no hz hf pv hb) (pa_cons (pe_callB (call_isED E.ex hz hf) hg hm (by rfl) (pa_cons pv (pa_cons pP pa_nil))) pa_nil)))))).run pins s σ H D I ?_
  refine ⟨_, hsi, rfl, rfl, dd, _, v, rfl, hdd, rfl, ⟨_, hsi, .ref PEr, .ref PEr, true, _, rfl, fun u r => r, E.is, hdd, ?_, q⟩⟩
  show 3 ≤ sizeLine
  decide
/-- the clauses: names, tags, classes -/
abbrev HlT := List (Str × Str × Addr)
def hdsOf (hl : HlT) (i : Nat) : List HdT := hl.map fun t => (.ref t.2.2, some i, tsH t.2.2 t.2.1 i)
theorem wish_of {K : PySem.W.Frag} {W : WX} {D : Ends} {d : Option Addr} {σ : L2.St} {H : Hp} {i : Nat} {c tag : Str} {C dd : Addr} {v : V} (hd : d = some dd) (hdd : H dd = some (.xd [(("value" : Str), v)])) (q : NewT H [.str tag, v, .bl true] D.rt) :
    ∀ {hl : HlT}, (∀ t ∈ hl, PySem.W.exmOne K (.ref C) (.ref t.2.2) = some (decide (t.1 = c))) → hl.find? (fun t => decide (t.1 = c)) = some (c, tag, C) → wManyA K W D (hdsOf hl i) (.ref C) d σ H
  | [], _, h => by simp at h
  | t :: hl, ex, h => by
    show wManyA K W D ((.ref t.2.2, some i, tsH t.2.2 t.2.1 i) :: hdsOf hl i) (.ref C) d σ H
    refine ⟨_, ex t (List.mem_cons_self ..), fun e a ha => ?_, fun e => ?_⟩
    · rw [List.find?_cons, e] at h
      cases h
      exact ⟨dd, v, rfl, hd, fun hl => List.getElem?_set_self (by simpa using hl), hdd, q⟩
    · rw [List.find?_cons, e] at h
      exact wish_of hd hdd q (fun t ht => ex t (List.mem_cons_of_mem _ ht)) h
def TTh (hl : HlT) : (XK → Hp → VK → Prop) → Hp → VK → Prop := fun tl H Q =>
  tl (fun cls d H' => ∃ c tag C dd v, hl.find? (fun t => decide (t.1 = c)) = some (c, tag, C) ∧ cls = .ref C ∧ d = some dd ∧ H' dd = some (.xd [(("value" : Str), v)]) ∧ NewT H' [.str tag, v, .bl true] Q) H fun _ H' => NewT H' [] Q
theorem heard_gives {X : Cx} {Ng : List Str} {x a q : Str} {sg : Scope} {g : Addr} {cdg : Value} {hl : HlT} {i : Nat} {h₀ : ExceptHandler} {hds : List ExceptHandler} {p1 p2 p3 p8 p9 p10 : Pos} {kk : Nat} (hN : Ng.Nodup) (h0 : ∀ f : Addr, (L2.start Ng [V.ref f])[0]? = some (some (V.ref f)))
    (hex : ∀ t ∈ hl, ∀ u ∈ hl, PySem.W.exmOne X.K (.ref t.2.2) (.ref u.2.2) = some (decide (u.1 = t.1)))
    (hh : ∀ (s : Shared) (H : Hp), HdsA (cxOf C8.CX0 X.prog X.w X.K X.mg X.base Ng x sg g cdg X.A X.stack s H C8.E0).nox (h₀ :: hds) (hdsOf hl i)) :
    LamX.GivesTo X Ng x sg g cdg [.Try [.Expr (.Call (.Name a p1) [] [] p2) p3] (h₀ :: hds) [] [] p8, .Return (some (.Tuple [] kk p10)) p9] a q (TTh hl) := by
  intro f c' s H Q tl act hc h
  refine ⟨_, pss_cons (ps_try_manyA (X := (cxOf C8.CX0 X.prog X.w X.K X.mg X.base Ng x sg g cdg X.A X.stack s H C8.E0).nox) (l := hdsOf hl i)
      (tb := fun W D σ H => ∃ Ech : XK, (∀ cls d σ' H', Ech cls d H' → W cls d σ' H') ∧ σ[0]? = some (some (.ref f)) ∧ H c' = some (LamX.CodeO c' q) ∧ tl Ech H fun _ H' => D.nx σ H')
      rfl rfl hN takes0 (fun W pn xe tk _ => ?_) (hh s H)) (pss_one (ps_ret (pe_tupF pa_nil))), ?_⟩
  · refine ⟨fun pins s' σ H' D I h' => ?_⟩
    obtain ⟨Ech, hW, h1, h2, h3⟩ := h'
    have hp := act W pn xe Ech p1 p2 tk hW
    exact (pss_one (ps_expr (pos := p3) hp)).run pins s' σ H' D I ⟨h1, h2, h3⟩
  · refine ⟨fun cls d H' => ∃ c tag C dd v, hl.find? (fun t => decide (t.1 = c)) = some (c, tag, C) ∧ cls = .ref C ∧ d = some dd ∧ H' dd = some (.xd [(("value" : Str), v)]) ∧ NewT H' [.str tag, v, .bl true] Q, fun cls d σ' H' hx => ?_, h0 f, hc, ?_⟩
    · obtain ⟨c, tag, C, dd, v, hf, e1, e2, e3, e4⟩ := hx
      subst e1
      refine wish_of e2 e3 e4 (fun t ht => ?_) hf
      have hm := List.mem_of_find?_eq_some hf
      exact hex _ hm t ht
    · have z : (0 : Nat) ≤ sizeLine := Nat.zero_le _
      have e : (fun (_ : V) H' => ([] : List V).length ≤ sizeLine ∧ NewT H' [] Q) = fun (_ : V) H' => NewT H' [] Q := by
        funext v H'
        exact propext ⟨fun q => q.2, fun q => ⟨z, q⟩⟩
      show tl _ H fun (_ : V) H' => ([] : List V).length ≤ sizeLine ∧ NewT H' [] Q
      rw [e]
      exact h
/-- the def over plain functions -/
def eHeard (hs : List (Str × Str)) (mb : EM) : EM := fun e S => match mb e S with
  | .ok _ S1 => .ok (.v (.tup [])) S1
  | .exc c fs S1 => match hs.find? (fun t => decide (t.1 = c)) with
    | some t => match fs with
      | [(f, d)] => if f = "value" then .ok (.v (.tup [.str t.2, d, .bl true])) S1 else .stuck
      | _ => .stuck
    | none => .stuck
  | .stuck => .stuck
theorem heard_rd {X : Cx} {T : List (Addr × Str)} {W : WX} {hl : HlT} {hs : List (Str × Str)} {mb : EM} (hm : ∀ t ∈ hl, X.mg t.1 = some (.ref t.2.2)) (hhs : hs = hl.map fun t => (t.1, t.2.1)) :
    ∀ s H Q, rd (gX X T) W (eHeard hs mb) s H Q → tLamT T (TTh hl) (fun E => rd (gX X T) (Wdef E) mb) s H Q := fun s H Q ⟨w, e, S, hS, hE, h⟩ => by
  refine ⟨hS.tabs, fun H1 ex t1 => ?_⟩
  obtain ⟨hS1, ex1⟩ := hS.extT ex t1
  refine ⟨w, e, S, hS1, hE, ?_⟩
  unfold eHeard at h
  generalize mb e S = o at h
  cases o with
  | ok x S1 =>
    intro w2 H2 v ex2 hS2 _
    exact sat_newT hS2 .nil (SatG.ext (o := .ok (Vl.v (.tup [])) S1) h (ex1.trans ex2))
  | exc c fs S1 =>
    intro w2 H2 C dx vs ex2 hS2 hC hdx hr
    simp only at h
    split at h
    · rename_i t ht
      split at h
      · rename_i f d
        split at h
        · rename_i hf
          subst hf
          cases hr with
          | cons r1 hr =>
            cases hr
            rename_i v0
            have hfind : hl.find? (fun t => decide (t.1 = c)) = some (c, t.2, C) := by
              subst hhs
              rw [List.find?_map] at ht
              obtain ⟨u, hu1, hu2⟩ := Option.map_eq_some_iff.mp ht
              have hu1' : hl.find? (fun t => decide (t.1 = c)) = some u := hu1
              have hmem := List.mem_of_find?_eq_some hu1'
              have huc : u.1 = c := by simpa using List.find?_some hu1'
              have hmu := hm u hmem
              rw [huc] at hmu
              have hC' : X.mg c = some (.ref C) := hC
              rw [hC'] at hmu
              cases hmu
              subst hu2
              rw [hu1']
              obtain ⟨u1, u2, u3⟩ := u
              simp only at huc
              subst huc
              rfl
            refine ⟨c, t.2, C, dx, v0, hfind, rfl, rfl, hdx, ?_⟩
            exact sat_newT hS2 (.cons (.str _) (.cons r1 (.cons (.bl _) .nil))) (SatG.ext (o := .ok (Vl.v (.tup [.str t.2, d, .bl true])) S1) h (ex1.trans ex2))
        · exact h.elim
      · exact h.elim
    · exact h.elim
  | stuck => exact h.elim
end Ax
/-! Ax13: calls of what a slot holds, by keywords, with cells that are only looked at; what the module has written -/
namespace Ax
open PySem PySem.Spec PyProof.Rows L2

/-! ### calls -/
section
variable {X : Cx} {T : List (Addr × Str)} {W : WX} {g : G} {k i : Nat} {x : Str} {p pos : Pos} {e : Expr} {es : List Expr} {ma : AM}
abbrev FTab := Str → Option (List D → R)
/-- defs by their names -/
def FnTabP (P : Program) (wd : World) (K : PySem.W.Frag) (mg : Str → Option Value) (base : Heap) (T : List (Addr × Str)) (k : Nat) (tb : FTab) : Prop := ∀ c m, tb c = some m → ∀ a, mg c = some (.ref a) → ∃ (fd : FuncData) (ps : List Str), FnOk P wd K mg base (L2.CX P wd) k a fd ps (spP ⟨K, mg, T⟩ m) ∧ PySem.W.keepIn K (.ref a) = true ∧ L2.Binds K fd ps []
abbrev FnTab (X : Cx) (T : List (Addr × Str)) (k : Nat) (tb : FTab) : Prop := FnTabP X.prog X.w X.K X.mg X.base T k tb
def eCallV (tb : FTab) (i : Nat) (ma : AM) : EM := fun e S => match e[i]? with
  | some (some (.v (.fn c))) => match tb c with
    | some m => (ma e S).bind (kP m)
    | none => .stuck
  | _ => .stuck
theorem pe_callLS {f : Addr} {fd : FuncData} {ps : List Str} {sp : Sp} {E : L2.St → XK} {t : TA} (F : FnOk X.prog X.w X.K X.mg X.base (L2.CX X.prog X.w) k f fd ps sp) (hr : Room k X.A) (hN : X.N[i]? = some x) (hv : Vis X.env.scope x) (hk : PySem.W.keepIn X.K (.ref f) = true) (hb : L2.Binds X.K fd ps []) (hx : ∀ σ, PassesAt (L2.CX X.prog X.w) X σ (E σ)) (ha : PA X (e :: es) t)
    (hdb : (x == ("__debug__" : Str)) = false := by decide) (hcd : (x == ("__classdict__" : Str)) = false := by decide)
    (he : starEach (e :: es) X.env = (false, eval e X.env) :: starEach es X.env := by rfl) (hpl : (backTo pos (starEach es X.env)).any (·.1) = false := by rfl) : PE X (.Call (.Name x p) (e :: es) [] pos) (fun σ H Q => σ[i]? = some (some (.ref f)) ∧ t σ H fun vs H1 => sp vs H1 Q (E σ)) := by
  refine ⟨fun pins s σ H Q I h => ?_⟩
  obtain ⟨hs, ht⟩ := h
  refine wpAny_Call_Name_kw (thn ((pe_var (pos := p) hN hv hdb hcd).run pins s σ H (fun v H1 => v = .ref f ∧ H1 = H) I ⟨.ref f, hs, rfl, rfl⟩) fun u s1 ⟨v, H1, I1, r1, q1⟩ => ?_)
  obtain ⟨rfl, rfl⟩ := q1
  cases r1
  refine PySem.W.callWith_K (h₀ := X.base) I.ok.mod.kin hk (thn (ha.run pos pins s1 σ _ _ I1 ht) fun us s2 ⟨vs, H2, I2, r, q⟩ => ⟨I2.kIn, ?_⟩) he hpl
  exact run_fnS F hr hb (hx σ) I2 r q
theorem e_callV {tb : FTab} (F : FnTab X T k tb) (hr : Room k X.A) (tk : Takes X W) (ha : PA X (e :: es) (rdA (gX X T) W ma)) (hN : X.N[i]? = some x := by rfl) (hv : Vis X.env.scope x := by first | exact Or.inl rfl | exact Or.inr (Or.inl rfl) | exact Or.inr (Or.inr rfl))
    (hdb : (x == ("__debug__" : Str)) = false := by decide) (hcd : (x == ("__classdict__" : Str)) = false := by decide) (he : starEach (e :: es) X.env = (false, eval e X.env) :: starEach es X.env := by rfl) (hpl : (backTo pos (starEach es X.env)).any (·.1) = false := by rfl) :
    PE X (.Call (.Name x p) (e :: es) [] pos) (rd (gX X T) W (eCallV tb i ma)) := by
  refine ⟨fun pins s σ H Q I ⟨w, e', S, hS, hE, h⟩ => ?_⟩
  unfold eCallV at h
  split at h
  · rename_i c hc
    obtain ⟨v, hv1, hv2⟩ := hE.at_ _ _ hc
    cases hv2 with
    | v hv2 =>
      cases hv2 with
      | fn hm =>
        rename_i a
        split at h
        · rename_i m hm2
          obtain ⟨fd, ps, F1, hk, hb⟩ := F c m hm2 a hm
          refine (pe_callLS (i := i) (f := a) (E := WE W) F1 hr hN hv hk hb (fun σ => passAt tk σ) ha hdb hcd he hpl).run pins s σ H Q I ⟨hv1, w, e', S, hS, hE, h.bind.imp fun us H2 ⟨w2, S2, ys, hS2, hys, ex, h2⟩ => ?_⟩
          exact kP_sp hS2 hys h2
        · exact h.elim
  · exact h.elim

/-! by keywords alone, in the parameters' order -/
def KwB (K : PySem.W.Frag) (fd : FuncData) (ps : List Str) : Prop := ∀ (s : Shared) (ws : List Value), K.In s.heap → ws.length = ps.length → BindsTo s fd ⟨[], ps.zip ws⟩ (ps.zip ws)
def aKw (r : AM) : AM := r
theorem k_nil : PK X [] (rdA (gX X T) W aNil) := ⟨fun pos pins s σ H Q I ⟨w, e, S, hS, hE, h⟩ => pk_nil.run pos pins s σ H Q I (h w H [] (Ext.refl _ _) hS .nil)⟩
theorem k_cons {nm : Option Str} {kpos : Pos} {kws : List Keyword} {m : EM} {r : AM} (ha : PE X e (rd (gX X T) W m)) (hr : PK X kws (rdA (gX X T) W r)) : PK X (⟨nm, e, kpos⟩ :: kws) (rdA (gX X T) W (aCons m r)) :=
  ⟨fun pos pins s σ H Q I h => (pk_cons ha hr).run pos pins s σ H Q I (rd_bind (f := fun x e S1 => (r e S1).bind fun xs S2 => .ok (x :: xs) S2) h fun w1 H1 S1 e v x hS hE hx h1 =>
    ⟨w1, e, S1, hS, hE, h1.bind.imp fun vs H2 ⟨w2, S2, xs, hS2, hxs, ex, h2⟩ => h2 w2 H2 _ (Ext.refl _ _) hS2 (.cons (hx.le ex.wle) hxs)⟩)⟩
theorem e_callPk {f : Addr} {fd : FuncData} {ps : List Str} {kws : List Keyword} {m : List D → R} (F : FnOk X.prog X.w X.K X.mg X.base (L2.CX X.prog X.w) k f fd ps (spP (gX X T) m)) (hr : Room k X.A) (tk : Takes X W) (hm : X.mg x = some (.ref f)) (hk : PySem.W.keepIn X.K (.ref f) = true) (hb : KwB X.K fd ps)
    (ha : PK X kws (rdA (gX X T) W ma)) (hg : Gl X x := by rfl) (hall : (backToKw pos (keywordEach kws X.env)).all (·.1.isSome) = true := by rfl) (hks : (backToKw pos (keywordEach kws X.env)).filterMap (·.1) = ps := by rfl)
    (hdb : (x == ("__debug__" : Str)) = false := by decide) (hpl : ((backTo pos (starEach [] X.env)).any (·.1) || (backToKw pos (keywordEach kws X.env)).any (·.1.isNone)) = false := by rfl) :
    PE X (.Call (.Name x p) [] kws pos) (rd (gX X T) W (eCallP m ma)) := by
  refine PE_imp (t := tCallS (spP (gX X T) m) (WE W) (rdA (gX X T) W ma)) ⟨fun pins s σ H Q I h => ?_⟩ callP_rd
  refine wpAny_Call_Name_kw (ld_glob I hg hm ?_ hdb)
  refine PySem.W.callWith_KW0 (h₀ := X.base) I.ok.mod.kin hk hall (thn (ha.run pos pins s σ H _ I h) fun ws s1 ⟨zs, H1, I1, rz, q⟩ => ⟨I1.kIn, ?_⟩) hpl
  rw [hks]
  have hl : ws.length = ps.length := by rw [← rz.length]; exact F.len _ _ _ _ q
  refine wpAny_call (codeAny_mono (F.run X.A X.stack s1 H1 ⟨[], ps.zip ws⟩ ws zs Q (WE W σ) hr I1.env0 (hb s1 ws I1.kIn hl) rz q) fun r s' hq => ?_)
  cases r with
  | error e => exact passAt tk σ pins H1 s1 e s' I1 hq
  | ok fl =>
    cases fl with
    | ret u => exact I1.after hq
    | next => exact False.elim hq
    | brk => exact False.elim hq
    | cont => exact False.elim hq
end

/-! ### what the module has written -/
def kRd (K : PySem.W.Frag) : Nat → Value → Option D
  | _, .none => some .non
  | _, .bool b => some (.bl b)
  | _, .int i _ => some (.int i)
  | _, .str x _ => some (.str x)
  | k + 1, .ref a => match K.lookup a with
    | some ⟨.type n, none, .seq its _, _⟩ => if its.size ≤ 16777216 then (if n = "tuple" then ((its.toList.mapM (kRd K k)).map .tup) else if n = "list" then ((its.toList.mapM (kRd K k)).map .scr) else none) else none
    | _ => none
  | _, _ => none
theorem kRd_rep {g : G} : ∀ (k : Nat) {v : Value} {d : D}, kRd g.K k v = some d → ∃ x, RelV x v ∧ ∀ F, Rep g F x d := by
  intro k
  induction k with
  | zero =>
    intro v d h
    cases v <;> simp [kRd] at h <;> subst h
    · exact ⟨.non, rfl, fun _ => .non⟩
    · exact ⟨.bl _, rfl, fun _ => .bl _⟩
    · exact ⟨.int _, ⟨_, rfl⟩, fun _ => .int _⟩
    · exact ⟨.str _, ⟨_, rfl⟩, fun _ => .str _⟩
  | succ k ih =>
    intro v d h
    cases v with
    | none => simp [kRd] at h; subst h; exact ⟨.non, rfl, fun _ => .non⟩
    | bool b => simp [kRd] at h; subst h; exact ⟨.bl _, rfl, fun _ => .bl _⟩
    | int i t => simp [kRd] at h; subst h; exact ⟨.int _, ⟨_, rfl⟩, fun _ => .int _⟩
    | str x t => simp [kRd] at h; subst h; exact ⟨.str _, ⟨_, rfl⟩, fun _ => .str _⟩
    | ref a =>
      simp only [kRd] at h
      have all : ∀ (l : List Value) (ds : List D), l.mapM (kRd g.K k) = some ds → ∃ vs : List V, Vals vs l ∧ ∀ F, RepAll g F vs ds := by
        intro l
        induction l with
        | nil => intro ds e; simp at e; subst e; exact ⟨[], .nil, fun _ => .nil⟩
        | cons u l ihl =>
          intro ds e
          rw [List.mapM_cons] at e
          simp only [Option.bind_eq_bind, Option.bind_eq_some_iff, Option.pure_def, Option.some.injEq] at e
          obtain ⟨d1, e1, es, e2, e3⟩ := e
          subst e3
          obtain ⟨x, r1, r2⟩ := ih e1
          obtain ⟨vs, r3, r4⟩ := ihl es e2
          exact ⟨x :: vs, .cons r1 r3, fun F => .cons (r2 F) (r4 F)⟩
      split at h
      · rename_i n its c sl hl
        split at h
        · rename_i hz
          split at h
          · rename_i hn
            obtain ⟨ds, e1, e2⟩ := Option.map_eq_some_iff.mp h
            subst e2; subst hn
            obtain ⟨vs, r1, r2⟩ := all _ _ e1
            exact ⟨.ref a, rfl, fun F => .tup (.inr ⟨_, its, c, hl, rfl, rfl, rfl, line_of hz, r1⟩) (r2 F)⟩
          · split at h
            · rename_i hn
              obtain ⟨ds, e1, e2⟩ := Option.map_eq_some_iff.mp h
              subst e2; subst hn
              obtain ⟨vs, r1, r2⟩ := all _ _ e1
              exact ⟨.ref a, rfl, fun F => .scr (.inr ⟨_, its, c, hl, rfl, rfl, rfl, line_of hz, r1⟩) (r2 F)⟩
            · cases h
        · cases h
      · cases h
    | _ => simp [kRd] at h
/-- a dict with int keys that the module has written -/
def kTab (K : PySem.W.Frag) (es : List DictEntry) : Option (List (Int × D)) := es.mapM fun e => match e.key with
  | .int i _ => if e.hash = hashInt i then (kRd K 6 e.val).map (i, ·) else none
  | _ => none
structure KDicI (K : PySem.W.Frag) (d : Addr) (tb : List (Int × D)) : Prop where
  at_ : ∃ es n, K.lookup d = some ⟨.type "dict", none, .dict es n, #[]⟩ ∧ kTab K es.toList = some tb
def lkI (i : Int) : List (Int × D) → Option D
  | [] => none
  | p :: r => if p.1 = i then some p.2 else lkI i r
theorem kTab_keys {K : PySem.W.Frag} : ∀ {es : List DictEntry} {tb : List (Int × D)}, kTab K es = some tb → ∀ e ∈ es, ∃ k t, e.key = .int k t ∧ e.hash = hashInt k
  | [], _, _, e, he => by simp at he
  | e0 :: es, tb, h, e, he => by
    unfold kTab at h
    rw [List.mapM_cons] at h
    simp only [Option.bind_eq_bind, Option.bind_eq_some_iff, Option.pure_def, Option.some.injEq] at h
    obtain ⟨d1, e1, ts, e2, e3⟩ := h
    rcases List.mem_cons.mp he with z | z
    · subst z
      split at e1
      · rename_i i t hk
        split at e1
        · rename_i hh
          exact ⟨i, t, hk, hh⟩
        · cases e1
      · cases e1
    · exact kTab_keys (K := K) (es := es) (tb := ts) e2 e z
theorem kTab_find {g : G} {i : Int} : ∀ {es : List DictEntry} {tb : List (Int × D)} {d : D}, kTab g.K es = some tb → lkI i tb = some d → ∃ v x, (es.find? fun e => Value.isInt i e.key).map (·.val) = some v ∧ RelV x v ∧ ∀ F, Rep g F x d
  | [], tb, d, h, hl => by simp [kTab] at h; subst h; simp [lkI] at hl
  | e0 :: es, tb, d, h, hl => by
    unfold kTab at h
    rw [List.mapM_cons] at h
    simp only [Option.bind_eq_bind, Option.bind_eq_some_iff, Option.pure_def, Option.some.injEq] at h
    obtain ⟨d1, e1, ts, e2, e3⟩ := h
    subst e3
    split at e1
    · rename_i j t hk
      split at e1
      · obtain ⟨d2, e4, e5⟩ := Option.map_eq_some_iff.mp e1
        subst e5
        simp only [lkI] at hl
        rw [List.find?_cons, hk]
        by_cases hj : j = i
        · rw [if_pos hj] at hl
          cases hl
          subst hj
          obtain ⟨x, r1, r2⟩ := kRd_rep 6 e4
          exact ⟨e0.val, x, by simp [Value.isInt], r1, r2⟩
        · rw [if_neg hj] at hl
          have : Value.isInt i (.int j t) = false := by simp [Value.isInt, hj]
          rw [this]
          exact kTab_find (g := g) (es := es) (tb := ts) e2 hl
      · cases e1
    · cases e1
def fIxKI (tb : List (Int × D)) (y : Vl) (S : Store) : Out Vl := match y with
  | .v (.int i) => match lkI i tb with
    | some d => .ok (.v d) S
    | none => .stuck
  | _ => .stuck
def eKD (tb : List (Int × D)) (m : EM) : EM := fun e S => (m e S).bind (fIxKI tb)
section
variable {X : Cx} {T : List (Addr × Str)} {W : WX} {d : Addr} {tb : List (Int × D)} {b : Expr} {mb : EM} {x : Str} {p pos : Pos}
def rIxKI (X : Cx) (T : List (Addr × Str)) (d : Addr) (tb : List (Int × D)) : R2 := fun u y H Q => ∃ i dd, u = .ref d ∧ y = .int i ∧ lkI i tb = some dd ∧ ∀ v, (∀ F, Rep (gX X T) F v dd) → Q v H
theorem ix_kd (D0 : KDicI X.K d tb) : IxR X (rIxKI X T d tb) := by
  intro value slice pins s σ H x y v u Q I rx ry h hs
  obtain ⟨i, dd, rfl, rfl, hl, q⟩ := h
  obtain rfl : v = Value.ref d := rx
  obtain ⟨t, rfl⟩ := ry
  obtain ⟨es, n, hk, ht⟩ := D0.at_
  obtain ⟨v0, x0, e1, r1, r2⟩ := kTab_find (g := gX X T) ht hl
  have hm : s.heap.MapOf (intKind X.prog X.w) d (fun k => findBy (intKind X.prog X.w).is es k) :=
    ⟨_, es, n, I.kIn _ _ hk, ⟨rfl, rfl, rfl⟩, rfl, fun e he => by
      obtain ⟨k, t, h1, h2⟩ := kTab_keys ht e (Array.mem_toList_iff.mpr he)
      exact ⟨k, by rw [h1]; exact intKind_is X.prog X.w k t, h2⟩, fun _ => rfl⟩
  have hf : findBy (intKind X.prog X.w).is es i = some v0 := by
    unfold findBy
    obtain ⟨l⟩ := es
    rw [List.find?_toArray]
    exact e1
  exact tail_any hm.typeIs slot_dict_getitem.lookup (wpAny_getItem_of (intKind_is X.prog X.w i t) hm hf ⟨x0, H, I.tok _, r1, q x0 r2⟩) hs
theorem e_kd (D0 : KDicI X.K d tb) (hm : X.mg x = some (.ref d)) (hb : PE X b (rd (gX X T) W mb)) (hg : Gl X x := by rfl) (hd : (x == ("__debug__" : Str)) = false := by decide) (hs : PlainIx b := by intro _ _; rfl) :
    PE X (.Subscript (.Name x p) b pos) (rd (gX X T) W (eKD tb mb)) :=
  PE_imp (pe_ix (ix_kd (T := T) D0) (pe_glob (v := .ref d) hg hm rfl hd) hb hs) fun s H Q h => rd_bind (f := fun y _ S1 => fIxKI tb y S1) h fun w1 H1 S1 e v y hS hE hy h1 => by
    unfold fIxKI at h1
    split at h1
    · split at h1
      · rename_i dd hl
        cases hy with
        | v hy =>
          cases hy
          exact ⟨_, dd, rfl, rfl, hl, fun v hv => h1 w1 H1 v (Ext.refl _ _) hS (.v (hv _))⟩
      · exact h1.elim
    · exact h1.elim
end

/-! ### arguments that are only looked at -/
def atom : D → Bool
  | .non => true
  | .bl _ => true
  | .int _ => true
  | .str _ => true
  | _ => false
/-- the cells as they stand are shown to the def; what comes back leans on none -/
def kPa (m : List D → R) (xs : List Vl) (S : Store) : Out Vl := match rsls S 4 xs with
  | none => .stuck
  | some ds => match m ds with
    | .ok d => if atom d then .ok (.v d) S else .stuck
    | _ => .stuck
theorem atom_rep {g : G} {F F' : Hp} {v : V} {d : D} (h : Rep g F v d) (a : atom d = true) : Rep g F' v d := by
  cases h with
  | non => exact .non
  | bl b => exact .bl b
  | int b => exact .int b
  | str b => exact .str b
  | _ => simp [atom] at a
def ePeek (m : List D → R) (ma : AM) : EM := fun e S => (ma e S).bind (kPa m)
/-- while the cells were shown as if nobody changed them -/
theorem unfroz {g : G} {w : Wd} {H H' : Hp} {F' : Hp} {S : Store} (hS : RepSt g w H S) (e : Ext ⟨[], froz w H⟩ H ⟨[], F'⟩ H') (h' : RepSt g ⟨[], F'⟩ H' []) : ∃ F2, Ext w H ⟨w.p, F2⟩ H' ∧ RepSt g ⟨w.p, F2⟩ H' S := by
  have fr : ∀ a o, H a = some o → noTbl o → H' a = some o := fun a o h n => e.frame a o h (by simp) n
  have wle : WLe w ⟨w.p, w.F⟩ := ⟨⟨[], by simp⟩, HLe.refl _⟩
  refine ⟨w.F, ⟨⟨[], by simp⟩, HLe.refl _, fun a o h _ n => fr a o h n, fun a h => .inl h, fun a o h => .inl ⟨o, h⟩, e.trk⟩, ⟨hS.len, hS.nd, fun a o h => fr a o (hS.le _ _ h) (hS.nt _ _ h), hS.out, fun n a c h1 h2 => ?_, h'.tabs, fun a ha => ?_, hS.nt⟩⟩
  · have q := hS.cel n a c h1 h2
    cases c with
    | lst xs => obtain ⟨vs, q1, q2⟩ := q; exact ⟨vs, fr _ _ q1 trivial, q2⟩
    | dct ps => obtain ⟨vs, q1, q2⟩ := q; exact ⟨vs, fr _ _ q1 trivial, q2⟩
    | dcn ps => obtain ⟨vs, q1, q2, q3⟩ := q; exact ⟨vs, fr _ _ q1 trivial, q2, q3⟩
    | ins c fs => obtain ⟨C, dx, vs, m, q1, q2⟩ := q; exact ⟨C, dx, vs, m, fr _ _ q1 trivial, q2⟩
    | dead => trivial
  · obtain ⟨u, hu, n⟩ := hS.tr a ha
    exact ⟨u, fr _ _ hu n, n⟩
theorem frozNo {g : G} {w : Wd} {H : Hp} {S : Store} (hS : RepSt g w H S) : RepSt g ⟨[], froz w H⟩ H [] :=
  ⟨rfl, List.nodup_nil, fun a o h => froz_le hS h, fun n a c h => by simp at h, fun n a c h => by simp at h, hS.tabs, fun a h => by simp at h, fun a o h => by
      have h : froz w H a = some o := h
      unfold froz at h
      split at h
      · rename_i u q; cases h; exact hS.nt _ _ q
      · split at h
        · rename_i hm
          obtain ⟨u, q, n⟩ := hS.tr a hm
          rw [q] at h; cases h; exact n
        · cases h⟩
section
variable {X : Cx} {T : List (Addr × Str)} {W : WX} {g : G} {k : Nat} {f : Addr} {fd : FuncData} {ps : List Str} {x : Str} {p pos : Pos} {e : Expr} {es : List Expr} {ma : AM} {m : List D → R}
theorem kPa_sp {s : L2.St} {w : Wd} {H : Hp} {S : Store} {vs : List V} {xs : List Vl} {Q : VK} (hS : RepSt g w H S) (hx : RepVs g w vs xs) (h : SatG g W s w H (RepV g) (kPa m xs S) Q) : spP g m vs H Q (WE W s) := by
  unfold kPa at h
  split at h
  · exact h.elim
  · rename_i ds hd
    refine ⟨froz w H, ds, frozNo hS, rsls_rep hS 4 hx hd, ?_⟩
    split at h
    · rename_i d hm
      rw [hm]
      split at h
      · rename_i ha
        intro F' H' v e h' r
        obtain ⟨F2, a, b⟩ := unfroz hS e h'
        exact h _ H' v a b (.v (atom_rep r ha))
      · exact h.elim
    · exact h.elim
theorem e_peek (F : FnOk X.prog X.w X.K X.mg X.base (L2.CX X.prog X.w) k f fd ps (spP (gX X T) m)) (hr : Room k X.A) (tk : Takes X W) (hm : X.mg x = some (.ref f)) (hk : PySem.W.keepIn X.K (.ref f) = true) (hb : L2.Binds X.K fd ps [])
    (ha : PA X (e :: es) (rdA (gX X T) W ma)) (hg : Gl X x := by rfl) (hdb : (x == ("__debug__" : Str)) = false := by decide) (he : starEach (e :: es) X.env = (false, eval e X.env) :: starEach es X.env := by rfl) (hpl : (backTo pos (starEach es X.env)).any (·.1) = false := by rfl) :
    PE X (.Call (.Name x p) (e :: es) [] pos) (rd (gX X T) W (ePeek m ma)) := PE_imp (pe_callS F hr hg hm hk hb (fun σ => passAt tk σ) ha hdb he hpl) fun s H Q h =>
  rd_bind (f := fun xs _ S1 => kPa m xs S1) h fun w1 H1 S1 e v x hS hE hx h1 => kPa_sp hS hx h1
end

/-! ### a, b, c = x, y, z -/
def sPar3 (i j l : Nat) (m : AM) : SM := fun e S => (m e S).toS e fun xs S1 => match xs with
  | [x, y, z] => .go (.nx (((e.set i (some x)).set j (some y)).set l (some z))) S1
  | _ => .stuck
theorem s_par3 {X : Cx} {T : List (Addr × Str)} {W : WX} {i j l : Nat} {x y z : Str} {a b c : Expr} {px py pz pt pos : Pos} {kt k2 pt2} {ma : AM} (ha : PA X [a, b, c] (rdA (gX X T) W ma)) (hc : X.calm = true) (hN : X.N.Nodup) (hi : X.N[i]? = some x := by rfl) (hj : X.N[j]? = some y := by rfl) (hl : X.N[l]? = some z := by rfl) (hij : i ≠ j := by decide) (hil : i ≠ l := by decide) (hjl : j ≠ l := by decide)
    (hx : X.env.scope.names.lookup x = some .local := by rfl) (hy : X.env.scope.names.lookup y = some .local := by rfl) (hz : X.env.scope.names.lookup z = some .local := by rfl)
    (hw : swappedStores [.Tuple [.Name x px, .Name y py, .Name z pz] kt pt] (.Tuple [a, b, c] k2 pt2) X.env = pure (some [x, y, z]) := by rfl)
    (hs : swapsWithSole [.Tuple [.Name x px, .Name y py, .Name z pz] kt pt] (.Tuple [a, b, c] k2 pt2) pos.line X.env = pure false := by rfl) :
    PS X (.Assign [.Tuple [.Name x px, .Name y py, .Name z pz] kt pt] (.Tuple [a, b, c] k2 pt2) pos) (rdS (gX X T) W (sPar3 i j l ma)) :=
  PS_imp (ps_par3 hc hN hi hj hl hij hil hjl hx hy hz ha hw hs) fun E s H h => by
    refine rdS_ofE (rel := RepVs (gX X T)) (f := fun xs e S1 => match xs with | [x, y, z] => .go (.nx (((e.set i (some x)).set j (some y)).set l (some z))) S1 | _ => .stuck) h fun w1 H1 S1 e v x hS hE hx h1 => ?_
    split at h1
    · cases hx with
      | cons r1 hx =>
        cases hx with
        | cons r2 hx =>
          cases hx with
          | cons r3 hx =>
            cases hx
            exact ⟨_, _, _, rfl, h1 w1 H1 _ (Ext.refl _ _) hS (((hE.set r1).set r2).set r3)⟩
    · exact h1.elim
/-! a, b = x, y by a passing tuple (names that a comprehension sees) -/
def sUnp (n : Nat) (t : TgsM) (m : AM) : SM := fun e S => (m e S).toS e fun xs S1 => if xs.length = n then match t xs e with
  | some e1 => .go (.nx e1) S1
  | none => .stuck
  else .stuck
theorem s_unp {X : Cx} {T : List (Addr × Str)} {W : WX} {es as : List Expr} {pt p2 pos : Pos} {kt k2 : Nat} {n : Nat} {t : TgsM} {is : List Nat} {ma : AM} (ha : PA X as (rdA (gX X T) W ma)) (h : PGs X es (rdTgs (gX X T) t is)) (hc : X.calm = true) (hnl : n ≤ 1000 := by decide)
    (hn : (assignEach es X.env).length = n := by rfl) (hst : (assignEach es X.env).findIdx? (·.1) = none := by rfl)
    (hs : swapsWithSole [.Tuple es kt pt] (.Tuple as k2 p2) pos.line X.env = pure false := by rfl) (hw : swappedStores [.Tuple es kt pt] (.Tuple as k2 p2) X.env = pure none := by rfl)
    (h1 : (assignEach [.Tuple es kt pt] X.env).map (·.2) = [assign (.Tuple es kt pt) X.env] := by rfl) :
    PS X (.Assign [.Tuple es kt pt] (.Tuple as k2 p2) pos) (rdS (gX X T) W (sUnp n t ma)) :=
  PS_imp (ps_asg (pe_tupF ha) (pg_tup hc h hn hst) hs hw h1) fun E s H hh => by
    refine rdS_ofE (rel := RepVs (gX X T)) (f := fun xs e S1 => if xs.length = n then match t xs e with | some e1 => .go (.nx e1) S1 | none => .stuck else .stuck) hh fun w1 H1 S1 e vs xs hS hE hx h1 => ?_
    split at h1
    · rename_i hl
      have hvl : vs.length = n := by rw [hx.len]; exact hl
      refine ⟨by rw [hvl]; exact Nat.le_trans hnl (by decide), fun p o hp ho => ?_⟩
      obtain ⟨hS2, ex2⟩ := new_hid hS hp (.frz o (.tup vs))
      refine ⟨p, vs, rfl, .inl (.inr ⟨o, upd_same⟩), hvl, w1, e, S1, xs, hS2, hE, hx, ?_⟩
      cases hq : t xs e with
      | none => rw [hq] at h1; exact h1.elim
      | some e1 => rw [hq] at h1; exact fun w2 H2 s2 ex hS3 hE3 _ => h1 w2 H2 s2 (ex2.trans ex) hS3 hE3
    · exact h1.elim
end Ax
/-! Ax14: what the printed walks lean on -/
namespace Ax
open PySem PySem.Spec PyProof.Rows L2
theorem hu1 {k : Nat} {A : Around} (h : Room k A) : A.units + 1 < cLine := by have := h.un; omega
theorem hu65 {k : Nat} {A : Around} (h : Room k A) : A.units + 65 < cLine := by have := h.un; omega
theorem hu66 {k : Nat} {A : Around} (h : Room k A) : A.units + 66 < cLine := by have := h.un; omega
section
variable {X : Cx} {T : List (Addr × Str)} {W : WX} {g : G}
theorem isN_rd {ma : EM} : ∀ s H Q, rd (gX X T) W (eBin (fIsN false) ma (eC .non)) s H Q → tIsN (rd (gX X T) W ma) s H Q := fun s H Q h => by
  refine rd_bind (f := fun x e S => (eC .non e S).bind fun y S2 => fIsN false x y S2) h fun w1 H1 S1 e v x hS hE hx h1 => ?_
  simpa using fIsN_ok (neg := false) hS hx (show SatG _ _ _ _ _ _ (fIsN false x (.v .non) S1) Q from h1)
theorem notN_rd {ma : EM} : ∀ s H Q, rd (gX X T) W (eBin (fIsN true) ma (eC .non)) s H Q → tNotN (rd (gX X T) W ma) s H Q := fun s H Q h => by
  refine rd_bind (f := fun x e S => (eC .non e S).bind fun y S2 => fIsN true x y S2) h fun w1 H1 S1 e v x hS hE hx h1 => ?_
  simpa using fIsN_ok (neg := true) hS hx (show SatG _ _ _ _ _ _ (fIsN true x (.v .non) S1) Q from h1)
theorem t_isN {a : Expr} {j : Nat} {p pos : Pos} {ma : EM} (ha : PE X a (rd (gX X T) W ma)) : PT X (.Compare a [.Is] [.Constant .none j p] pos) (rdT (gX X T) W (tBl (eBin (fIsN false) ma (eC .non)))) := PT_imp (pt_cmp (pc_isN ha)) (bl_rd isN_rd)
theorem t_notN {a : Expr} {j : Nat} {p pos : Pos} {ma : EM} (ha : PE X a (rd (gX X T) W ma)) : PT X (.Compare a [.IsNot] [.Constant .none j p] pos) (rdT (gX X T) W (tBl (eBin (fIsN true) ma (eC .non)))) := PT_imp (pt_cmp (pc_notN ha)) (bl_rd notN_rd)
end
/-- a comprehension's names, by one look -/
def blkB (N : List Str) (sc scope : Scope) (own : List (Str × Nat)) : Bool :=
  decide (scope.kind = .function) && scope.names.all (fun y => decide (scope.names.lookup y.1 = some y.2)) && own.all (fun p => decide (N[p.2]? = some p.1)) &&
  scope.names.all (fun y => !decide (y.2 = .free) || decide (sc.names.lookup y.1 = some .cell) || decide (sc.names.lookup y.1 = some .free)) &&
  scope.names.all (fun y => !(decide (y.2 = .local) || decide (y.2 = .cell)) || decide (y.1 ∈ own.map (·.1)) || decide (y.1 ∉ N))
theorem blk_of {N : List Str} {sc scope : Scope} {own : List (Str × Nat)} (h : blkB N sc scope own = true) : BlkOk N sc scope own := by
  unfold blkB at h
  simp only [Bool.and_eq_true, decide_eq_true_eq, List.all_eq_true, Bool.or_eq_true, Bool.not_eq_true', decide_eq_false_iff_not, Bool.or_eq_false_iff] at h
  obtain ⟨⟨⟨⟨h1, h2⟩, h3⟩, h4⟩, h5⟩ := h
  refine ⟨h1, h2, h3, fun y hy e => ?_, fun y hy e => ?_⟩
  · rcases h4 y hy with (z | z) | z
    · exact absurd e z
    · exact .inl z
    · exact .inr z
  · rcases h5 y hy with (z | z) | z
    · rcases e with e | e
      · exact absurd e z.1
      · exact absurd e z.2
    · exact .inl z
    · exact .inr z
theorem sw_trueD {kx vx : Expr} {gs : List Comprehension} {scope : Scope} {pos py : Pos} {y : Str} {l : Nat} {env : Env} (hk : env.scope.kind = .function) (hy : env.scope.names.lookup y = some .local) (hl : (py.line == pos.line) = true)
    (ha : (scope.names.any fun (n, k) => n == y && (k == .local || k == .cell)) = false) : swapsWith (.DictComp kx vx gs scope pos) (some (.Name y py)) l env = pure true := by
  have ky : env.kindOf y = some .local := hy
  have hb : env.blockKind = .function := by unfold Env.blockKind; rw [hk]; rfl
  unfold swapsWith
  simp only [hb, ky, ha, Expr.pos, hl]
  rfl
section
variable {P : Program} {wd : World} {K : PySem.W.Frag} {mg : Str → Option Value} {base : Heap} {x qual : Str} {st : Stmt} {f c : Addr} {fd : FuncData} {N ps : List Str} {k : Nat} {T : List (Addr × Str)}
theorem fnStuck {CX : CXT} {ps : List Str} {g : G} : FnOk P wd K mg base CX k f fd ps (spP g fun _ => .stuck) :=
  ⟨fun vs H Q E ⟨_, _, _, _, z⟩ => z.elim, fun A outer s H args us vs Q E _ _ _ _ ⟨_, _, _, _, z⟩ => z.elim⟩
theorem fnStuckK {CX : CXT} {ps : List Str} {g : G} : FnOk P wd K mg base CX k f fd ps (spK g fun _ _ => .stuck) :=
  ⟨fun vs H Q E ⟨_, _, _, _, _, z⟩ => z.elim, fun A outer s H args us vs Q E _ _ _ _ ⟨_, _, _, _, _, z⟩ => z.elim⟩
/-- a def whose code object is known -/
structure FunC (K : PySem.W.Frag) (x qual : Str) (st : Stmt) (f : Addr) (fd : FuncData) (c : Addr) : Prop where
  ex : ∃ (oc : Value) (od : Option Addr) (kV doc pm : Value) (an : Option Addr) (ct : Value) (osl : Array (Option Value)),
    fd = PySem.W.fnOf x qual (defArgs st) (defBody st) (defScope st) .none kV doc pm an (.ref c) ct ∧ K.lookup f = some ⟨oc, od, .func fd, osl⟩ ∧ PySem.W.codeIn K (.ref c) qual = true
abbrev BodyIsC (P : Program) (wd : World) (K : PySem.W.Frag) (mg : Str → Option Value) (base : Heap) (T : List (Addr × Str)) (N : List Str) (qual : Str) (sc : Scope) (body : List Stmt) (f c : Addr) (k : Nat) (mb : SM) : Prop :=
  ∀ (A : Around) (outer : List Env) (s : Shared) (H : Hp) (E : XK), Room k (A.deeper (envOfC qual sc s.heap.objs.size f (.ref c))) →
    PSs (cxOf (L2.CX P wd) P wd K mg base N qual sc f (.ref c) A outer s H E) body (rdS ⟨K, mg, T⟩ (Wdef E) mb)
theorem fnPC (Fn : FunC K x qual st f fd c) (Sc : FnScope N ps (defScope st)) {mb : SM} (hbody : BodyIsC P wd K mg base T N qual (defScope st) (defBody st) f c k mb) : FnOk P wd K mg base (L2.CX P wd) (k + 1) f fd ps (spP ⟨K, mg, T⟩ (runP N.length ps.length mb)) := by
  obtain ⟨oc, od, kV, doc, pm, an, ct, osl, rfl, lk, hcd⟩ := Fn.ex
  refine fn_of lk hcd Sc (fun vs H Q E h => ?_) fun A outer s H vs Q E hr h => ⟨_, hbody A outer s H E hr, body_P h⟩
  obtain ⟨F, ds, hS, hr, h⟩ := h
  unfold runP at h
  split at h
  · rename_i hl; rw [hr.len]; exact hl
  · exact h.elim
theorem fnKC (Fn : FunC K x qual st f fd c) (Sc : FnScope N ps (defScope st)) {mb : SM} (hbody : BodyIsC P wd K mg base T N qual (defScope st) (defBody st) f c k mb) : FnOk P wd K mg base (L2.CX P wd) (k + 1) f fd ps (spK ⟨K, mg, T⟩ (runK N.length ps.length mb)) := by
  obtain ⟨oc, od, kV, doc, pm, an, ct, osl, rfl, lk, hcd⟩ := Fn.ex
  refine fn_of lk hcd Sc (fun vs H Q E h => ?_) fun A outer s H vs Q E hr h => ⟨_, hbody A outer s H E hr, body_K h⟩
  obtain ⟨w, S, xs, hS, hr, h⟩ := h
  unfold runK at h
  split at h
  · rename_i hl; rw [hr.len]; exact hl
  · exact h.elim
end
/-! heard(lambda: body) -/
section
open LamX
variable {X : Cx} {T : List (Addr × Str)} {W : WX}
structure HeardOk (X : Cx) (x a : Str) (g : Addr) (hl : HlT) (Ng : List Str) : Prop where
  ex : ∃ (pg : Arguments) (bg : List Stmt) (sg : Scope) (dV kV doc pm cdv ct oc : Value) (an od : Option Addr) (osl : Array (Option Value)),
    X.K.lookup g = some ⟨oc, od, .func (PySem.W.fnOf x x pg bg sg dV kV doc pm an cdv ct), osl⟩ ∧ PySem.W.codeIn X.K cdv x = true ∧ L2.Binds X.K (PySem.W.fnOf x x pg bg sg dV kV doc pm an cdv ct) [a] [] ∧ FnScope Ng [a] sg ∧ Ng[0]? = some a ∧ Vis sg a ∧
    ∀ q, GivesTo X Ng x sg g cdv bg a q (TTh hl)
  m : ∀ t ∈ hl, X.mg t.1 = some (.ref t.2.2)
theorem e_heard {x a : Str} {g c Pt : Addr} {k : Nat} {hl : HlT} {hs : List (Str × Str)} {Ng : List Str} {params : Arguments} {body : Expr} {scope : Scope} {mb : EM} {p lpos pos : Pos} (Hd : HeardOk X x a g hl Ng) (hhs : hs = hl.map fun t => (t.1, t.2.1)) (hr : Room (k + 2) X.A) (hm : X.mg x = some (.ref g)) (hk : PySem.W.keepIn X.K (.ref g) = true)
    (TB : TabB X.base X.mg c Pt) (hT : T = [(Pt, X.env.qual ++ "<lambda>")]) (hcode : X.env.code = .ref c) (L : LamS X.env.scope scope) (hdef : defaultsOf params X.env = ([], []))
    (hbind : ∀ (q : Str) (cl : List (Str × Addr)) (pm cv ctv : Value), bindArgs (PySem.W.kla_fn "<lambda>" q params body scope cl pm cv ctv) ⟨[], []⟩ = pure [])
    (hbody : ∀ (A : Around) (outer : List Env) (s : Shared) (H : Hp) (E : XK) (f c' : Addr), Room k (A.deeper (lamEnv X scope s.heap.objs.size f c')) → PE (lamCx X A outer s H E scope f c') body (rd (gX X T) (Wdef E) mb)) (hg : Gl X x := by rfl)
    (hdb : (x == ("__debug__" : Str)) = false := by decide) (hd : (a == ("__debug__" : Str)) = false := by decide) (hcd : (a == ("__classdict__" : Str)) = false := by decide) :
    PE X (.Call (.Name x p) [.Lambda params body scope lpos] [] pos) (rd (gX X T) W (eHeard hs mb)) := by
  obtain ⟨pg, bg, sg, dV, kV, doc, pm, cdv, ct, oc, an, od, osl, lk, hcg, hb, Sg, hNg, hva, hG⟩ := Hd.ex
  subst hT
  exact PE_imp (pe_lamcall3 (t := fun E => rd (gX X [(Pt, X.env.qual ++ "<lambda>")]) (Wdef E) mb) hg hm hk lk hcg hb Sg hNg hva (hG _) TB hcode (by simp) (fun p hp _ => by simp at hp; rw [hp]) hr L hdef hbind hbody hdb hd hcd) (heard_rd Hd.m hhs)
end
end Ax
/-! Ax17: a call with data alone, whose result stands in new cells: computed from no cells, moved behind the caller's -/
namespace Ax
open PySem PySem.Spec PyProof.Rows L2
def shV (k : Nat) : Vl → Vl
  | .v d => .v d
  | .r n => .r (k + n)
def shC (k : Nat) : Cel → Cel
  | .lst xs => .lst (xs.map (shV k))
  | .dct ps => .dct (ps.map fun p => (p.1, shV k p.2))
  | .ins c fs => .ins c (fs.map fun p => (p.1, shV k p.2))
  | .dead => .dead
  | .dcn ps => .dcn (ps.map fun p => (p.1, shV k p.2))
def kKE (m : List Vl → Store → Out Vl) (xs : List Vl) (S : Store) : Out Vl := match unv xs with
  | none => .stuck
  | some ds => match m (ds.map .v) [] with
    | .ok x S2 => .ok (shV S.length x) (S ++ S2.map (shC S.length))
    | .exc c fs S2 => .exc c fs (S ++ S2.map (shC S.length))
    | .stuck => .stuck
def eCallKE (m : List Vl → Store → Out Vl) (ma : AM) : EM := fun e S => (ma e S).bind (kKE m)
section
variable {g : G} {w w' : Wd} {k : Nat}
abbrev wApp (w w' : Wd) : Wd := ⟨w.p ++ w'.p, w'.F⟩
theorem RepV.sh {v : V} {x : Vl} (h : RepV g w' v x) : RepV g (wApp w w') v (shV w.p.length x) := by
  cases h with
  | v h => exact .v h
  | r h =>
    refine .r ?_
    show (w.p ++ w'.p)[_]? = _
    rw [List.getElem?_append_right (by omega)]
    simpa using h
theorem RepVs.sh : ∀ {vs : List V} {xs : List Vl}, RepVs g w' vs xs → RepVs g (wApp w w') vs (xs.map (shV w.p.length))
  | _, _, .nil => .nil
  | _, _, .cons h r => .cons h.sh (RepVs.sh r)
theorem RepKV.sh : ∀ {vs : List (Key × V)} {xs : List (D × Vl)}, RepKV g w' vs xs → RepKV g (wApp w w') vs (xs.map fun p => (p.1, shV w.p.length p.2))
  | _, _, .nil => .nil
  | _, _, .cons h r => .cons h.sh (RepKV.sh r)
theorem RepFV.sh : ∀ {vs : List (Str × V)} {xs : List (Str × Vl)}, RepFV g w' vs xs → RepFV g (wApp w w') vs (xs.map fun p => (p.1, shV w.p.length p.2))
  | _, _, .nil => .nil
  | _, _, .cons h r => .cons h.sh (RepFV.sh r)
theorem back_K {H H' : Hp} {S S2 : Store} (hS : RepSt g w H S) (e : Ext ⟨[], w.F⟩ H w' H') (h' : RepSt g w' H' S2) : Ext w H (wApp w w') H' ∧ RepSt g (wApp w w') H' (S ++ S2.map (shC S.length)) := by
  have wle : WLe w (wApp w w') := ⟨⟨w'.p, rfl⟩, e.fle⟩
  have fr : ∀ a o, H a = some o → noTbl o → H' a = some o := fun a o h n => e.frame a o h (by simp) n
  have hl := hS.len
  have new : ∀ a ∈ w'.p, H a = none := fun a ha => (e.fresh a ha).resolve_left (by simp)
  refine ⟨⟨⟨w'.p, rfl⟩, e.fle, fun a o h _ n => fr a o h n, fun a h => ?_, fun a o h => ?_, e.trk⟩, ⟨?_, ?_, h'.le, fun n a c h1 h2 nd => ?_, fun n a c h1 h2 => ?_, h'.tabs, fun a ha => ?_, h'.nt⟩⟩
  · rcases List.mem_append.mp h with z | z
    · exact .inl z
    · exact .inr (new a z)
  · rcases e.src a o h with z | z | z
    · exact .inl z
    · simp at z
    · exact .inr (.inr z)
  · simp [hl, h'.len]
  · refine List.nodup_append.mpr ⟨hS.nd, h'.nd, fun a ha b hb z => ?_⟩
    subst z
    obtain ⟨u, hu, _⟩ := hS.tr a ha
    rw [new a hb] at hu; cases hu
  · by_cases hn : n < S.length
    · have h1 : w.p[n]? = some a := by
        have h1 : (w.p ++ w'.p)[n]? = some a := h1
        rwa [List.getElem?_append_left (by omega)] at h1
      rw [List.getElem?_append_left hn] at h2
      show w'.F a = none
      cases q : w'.F a with
      | none => rfl
      | some o =>
        rcases e.src a o q with ⟨o', z⟩ | z | z
        · have z : w.F a = some o' := z
          rw [hS.out n a c h1 h2 nd] at z; cases z
        · simp at z
        · obtain ⟨u, hu, _⟩ := hS.tr a (List.mem_of_getElem? h1)
          rw [hu] at z; cases z
    · have h1 : w'.p[n - S.length]? = some a := by
        have h1 : (w.p ++ w'.p)[n]? = some a := h1
        rwa [List.getElem?_append_right (by omega), hl] at h1
      rw [List.getElem?_append_right (by omega), List.getElem?_map] at h2
      obtain ⟨c', hc', rfl⟩ := Option.map_eq_some_iff.mp h2
      exact h'.out _ a c' h1 hc' fun z => nd (by rw [z]; rfl)
  · by_cases hn : n < S.length
    · have h1 : w.p[n]? = some a := by
        have h1 : (w.p ++ w'.p)[n]? = some a := h1
        rwa [List.getElem?_append_left (by omega)] at h1
      rw [List.getElem?_append_left hn] at h2
      have q := hS.cel n a c h1 h2
      cases c with
      | lst xs => obtain ⟨vs, q1, q2⟩ := q; exact ⟨vs, fr _ _ q1 trivial, q2.le wle⟩
      | dct ps => obtain ⟨vs, q1, q2⟩ := q; exact ⟨vs, fr _ _ q1 trivial, q2.le wle⟩
      | dcn ps => obtain ⟨vs, q1, q2, q3⟩ := q; exact ⟨vs, fr _ _ q1 trivial, q2.le wle, q3.le wle⟩
      | ins c fs => obtain ⟨C, dx, vs, m, q1, q2⟩ := q; exact ⟨C, dx, vs, m, fr _ _ q1 trivial, q2.le wle⟩
      | dead => trivial
    · have h1 : w'.p[n - S.length]? = some a := by
        have h1 : (w.p ++ w'.p)[n]? = some a := h1
        rwa [List.getElem?_append_right (by omega), hl] at h1
      rw [List.getElem?_append_right (by omega), List.getElem?_map] at h2
      obtain ⟨c', hc', rfl⟩ := Option.map_eq_some_iff.mp h2
      have q := h'.cel _ a c' h1 hc'
      rw [← hl]
      cases c' with
      | lst xs => obtain ⟨vs, q1, q2⟩ := q; exact ⟨vs, q1, q2.sh⟩
      | dct ps => obtain ⟨vs, q1, q2⟩ := q; exact ⟨vs, q1, q2.sh⟩
      | dcn ps =>
        obtain ⟨vs, q1, q2, q3⟩ := q
        have e1 : (ps.map fun p => (p.1, shV w.p.length p.2)).map (fun p => keyN p.1) = ps.map fun p => keyN p.1 := by rw [List.map_map]; rfl
        have e2 : (ps.map fun p => (p.1, shV w.p.length p.2)).map (fun p => Vl.v p.1) = (ps.map fun p => Vl.v p.1).map (shV w.p.length) := by rw [List.map_map, List.map_map]; rfl
        have e3 : (ps.map fun p => (p.1, shV w.p.length p.2)).map (·.2) = (ps.map (·.2)).map (shV w.p.length) := by rw [List.map_map, List.map_map]; rfl
        refine ⟨vs, ?_, ?_, ?_⟩
        · rw [e1]; exact q1
        · rw [e2]; exact q2.sh
        · rw [e3]; exact q3.sh
      | ins c fs => obtain ⟨C, dx, vs, m, q1, q2⟩ := q; exact ⟨C, dx, vs, m, q1, q2.sh⟩
      | dead => trivial
  · rcases List.mem_append.mp ha with z | z
    · obtain ⟨u, hu, n⟩ := hS.tr a z
      obtain ⟨u', hu', n'⟩ := e.trk a u hu
      exact ⟨u', hu', n' n⟩
    · exact h'.tr a z
end
section
variable {X : Cx} {T : List (Addr × Str)} {W : WX} {g : G} {s : L2.St} {w : Wd} {H : Hp} {S : Store}
theorem kKE_sp {m : List Vl → Store → Out Vl} {vs : List V} {xs : List Vl} {Q : VK} (hS : RepSt g w H S) (hx : RepVs g w vs xs) (h : SatG g W s w H (RepV g) (kKE m xs S) Q) : spK g m vs H Q (WE W s) := by
  unfold kKE at h
  split at h
  · exact h.elim
  · rename_i ds hd
    refine ⟨⟨[], w.F⟩, [], ds.map .v, hS.noCel, RepAll.vs (w := ⟨[], w.F⟩) (hx.un hd), ?_⟩
    split at h
    · rename_i x S2 hm
      rw [hm]
      intro w' H' v e h' r
      obtain ⟨a, b⟩ := back_K hS e h'
      refine h _ H' v a b ?_
      rw [← hS.len]; exact r.sh
    · rename_i c fs S2 hm
      rw [hm]
      intro w' H' C dx us e h' m' hd' r
      obtain ⟨a, b⟩ := back_K hS e h'
      exact h _ H' C dx us a b m' hd' r
    · exact h.elim
variable {k : Nat} {f : Addr} {fd : FuncData} {ps : List Str} {x : Str} {p pos : Pos} {e : Expr} {es : List Expr} {ma : AM}
theorem e_callKE {m : List Vl → Store → Out Vl} (F : FnOk X.prog X.w X.K X.mg X.base (L2.CX X.prog X.w) k f fd ps (spK (gX X T) m)) (hr : Room k X.A) (tk : Takes X W) (hm : X.mg x = some (.ref f)) (hk : PySem.W.keepIn X.K (.ref f) = true) (hb : Binds X.K fd ps [])
    (ha : PA X (e :: es) (rdA (gX X T) W ma)) (hg : Gl X x := by rfl) (hdb : (x == ("__debug__" : Str)) = false := by decide) (he : starEach (e :: es) X.env = (false, eval e X.env) :: starEach es X.env := by rfl) (hpl : (backTo pos (starEach es X.env)).any (·.1) = false := by rfl) :
    PE X (.Call (.Name x p) (e :: es) [] pos) (rd (gX X T) W (eCallKE m ma)) := PE_imp (pe_callS F hr hg hm hk hb (fun σ => passAt tk σ) ha hdb he hpl) fun s H Q h =>
  rd_bind (f := fun xs _ S1 => kKE m xs S1) h fun w1 H1 S1 e v x hS hE hx h1 => kKE_sp hS hx h1
end
end Ax
/-! Ax15: from what the head tells to what the walks take; the law's promise -/
namespace Ax
open PySem PySem.Spec PyProof.Rows L2

def clsBody : Stmt → List Stmt
  | .ClassDef (body := b) .. => b
  | _ => []
/-! ### Bools over what the head shows -/
def oexB (K : PySem.W.Frag) (C : Addr) : Bool := (match K.lookup C with
  | some ⟨.type c, _, .cls cd, sl⟩ => decide (c = "type") && (match cd.mro, sl.toList with
    | .ref C' :: bm, [_, _, _, _, some (.builtin n), _] => decide (C' = C) && (decide (n = "ValueError.__new__") && (cd.hasDict && (!cd.hasDel && PySem.HandSPX.refsVE bm)))
    | _, _ => false)
  | _ => false) && (decide (PySem.W.findIn K (.ref C) "__setattr__" = some (some (.builtin "object.__setattr__"))) && (decide (PySem.W.subIn K (.ref C) (.type "BaseException") = some true) && (decide (PySem.W.typeIn K (.ref C) = some (.type "type")) && PySem.W.keepIn K (.ref C))))
theorem oexB_ok {K : PySem.W.Frag} {C : Addr} (h : oexB K C = true) : OexC K C := by
  obtain ⟨h1, h⟩ := He.ba h
  obtain ⟨h2, h⟩ := He.ba h
  obtain ⟨h3, h⟩ := He.ba h
  obtain ⟨h4, h5⟩ := He.ba h
  refine ⟨?_, of_decide_eq_true h2, of_decide_eq_true h3, of_decide_eq_true h4, h5⟩
  split at h1
  · rename_i c dd cd sl ho
    obtain ⟨e1, h6⟩ := He.ba h1
    have e1 : c = "type" := of_decide_eq_true e1
    subst e1
    clear h1
    split at h6
    · rename_i C' bm k0 k1 k2 k3 n k5 hm hs
      obtain ⟨q1, h7⟩ := He.ba h6
      obtain ⟨q2, h8⟩ := He.ba h7
      obtain ⟨hd, h9⟩ := He.ba h8
      obtain ⟨hdel, hr⟩ := He.ba h9
      have q1 : C' = C := of_decide_eq_true q1
      have q2 : n = "ValueError.__new__" := of_decide_eq_true q2
      have hdl : cd.hasDel = false := by
        cases q : cd.hasDel with
        | false => rfl
        | true => rw [q] at hdel; cases hdel
      clear hdel
      subst q1 q2
      obtain ⟨nm, bs, mro, ns, qn, hd', sn, sub, ab, col, del⟩ := cd
      dsimp only at hm hdl hd
      subst hm hdl hd
      have hsl : sl = #[k0, k1, k2, k3, some (.builtin "ValueError.__new__"), k5] := by
        obtain ⟨l⟩ := sl
        simp only at hs
        rw [hs]
      subst hsl
      exact ⟨_, _, _, _, _, _, _, _, _, _, _, _, _, _, _, ho, hr⟩
    · cases h6
  · cases h1
def excB (K : PySem.W.Frag) (C : Addr) : Bool := decide (PySem.W.findIn K (.ref C) "__getattribute__" = some (some (.builtin "BaseException.__getattribute__"))) && (decide (PySem.W.findIn K (.ref C) "__getattr__" = some none) && (decide (PySem.W.subIn K (.ref C) (.type "BaseException") = some true) &&
  (PySem.W.hasDictIn K C && (decide (PySem.W.findIn K (.ref C) "__class__" = some (some (.builtin "object.__class__"))) && (decide (PySem.W.specialIn K (.builtin "object.__class__") "__get__" = some (some (.builtin "getset_descriptor.__get__"))) &&
  (decide (PySem.W.takesIn K (.builtin "object.__class__") = some true) && decide (PySem.W.mroIn K C (.type "object") = some true)))))))
theorem excB_ok {K : PySem.W.Frag} {C : Addr} (h : excB K C = true) : ExcC K C := by
  obtain ⟨h1, h⟩ := He.ba h
  obtain ⟨h2, h⟩ := He.ba h
  obtain ⟨h3, h⟩ := He.ba h
  obtain ⟨h4, h⟩ := He.ba h
  obtain ⟨h5, h⟩ := He.ba h
  obtain ⟨h6, h⟩ := He.ba h
  obtain ⟨h7, h8⟩ := He.ba h
  exact ⟨of_decide_eq_true h1, of_decide_eq_true h2, of_decide_eq_true h3, h4, of_decide_eq_true h5, of_decide_eq_true h6, of_decide_eq_true h7, of_decide_eq_true h8⟩
/-- an own error class whose __init__ is at fI and sets f -/
def errCB (K : PySem.W.Frag) (f : Str) (C fI : Addr) : Bool := oexB K C && (decide (PySem.W.findIn K (.ref C) "__init__" = some (some (.ref fI))) && (decide (PySem.W.typeIn K (.ref fI) = some (.type "function")) && decide (PySem.W.findIn K (.ref C) f = some none)))
theorem errCB_ok {K : PySem.W.Frag} {mg : Str → Option Value} {f c : Str} {C fI : Addr} (m : mg c = some (.ref C)) (h : errCB K f C fI = true) : ErrC K mg f c C fI := by
  obtain ⟨h1, h⟩ := He.ba h
  obtain ⟨h2, h⟩ := He.ba h
  obtain ⟨h3, h4⟩ := He.ba h
  exact ⟨m, oexB_ok h1, of_decide_eq_true h2, of_decide_eq_true h3, of_decide_eq_true h4⟩
def errKB (K : PySem.W.Frag) (PE C : Addr) : Bool := xfB K C && (excB K C && (decide (PySem.W.findIn K (.ref C) "value" = some none) && decide (PySem.W.kitOne K (.ref C) (.ref PE) = some true)))
theorem errKB_ok {K : PySem.W.Frag} {mg : Str → Option Value} {PE C : Addr} (h : errKB K PE C = true) : ErrK K mg PE C := by
  obtain ⟨h1, h⟩ := He.ba h
  obtain ⟨h2, h⟩ := He.ba h
  obtain ⟨h3, h4⟩ := He.ba h
  exact ⟨xfB_ok h1, excB_ok h2, of_decide_eq_true h3, of_decide_eq_true h4⟩
def exmB (K : PySem.W.Frag) (hl : HlT) : Bool := hl.all fun t => hl.all fun u => decide (PySem.W.exmOne K (.ref t.2.2) (.ref u.2.2) = some (decide (u.1 = t.1)))
theorem exmB_ok {K : PySem.W.Frag} {hl : HlT} (h : exmB K hl = true) : ∀ t ∈ hl, ∀ u ∈ hl, PySem.W.exmOne K (.ref t.2.2) (.ref u.2.2) = some (decide (u.1 = t.1)) :=
  fun t ht u hu => of_decide_eq_true (List.all_eq_true.mp (List.all_eq_true.mp h t ht) u hu)
/-! written data -/
mutual
def same : D → D → Bool
  | .non, .non => true
  | .int i, .int j => decide (i = j)
  | .str x, .str y => decide (x = y)
  | .bl a, .bl b => decide (a = b)
  | .tup xs, .tup ys => sameL xs ys
  | .scr xs, .scr ys => sameL xs ys
  | .lst xs, .lst ys => sameL xs ys
  | _, _ => false
def sameL : List D → List D → Bool
  | [], [] => true
  | x :: xs, y :: ys => same x y && sameL xs ys
  | _, _ => false
end
mutual
theorem same_eq : ∀ {x y : D}, same x y = true → x = y
  | .non, y, h => by cases y <;> first | rfl | cases h
  | .int i, y, h => by cases y <;> first | exact congrArg D.int (of_decide_eq_true h) | cases h
  | .str i, y, h => by cases y <;> first | exact congrArg D.str (of_decide_eq_true h) | cases h
  | .bl i, y, h => by cases y <;> first | exact congrArg D.bl (of_decide_eq_true h) | cases h
  | .tup xs, y, h => by cases y <;> first | exact congrArg D.tup (sameL_eq h) | cases h
  | .scr xs, y, h => by cases y <;> first | exact congrArg D.scr (sameL_eq h) | cases h
  | .lst xs, y, h => by cases y <;> first | exact congrArg D.lst (sameL_eq h) | cases h
  | .ptp _, y, h => by cases h
  | .dct _, y, h => by cases h
  | .ins _ _, y, h => by cases h
  | .fn _, y, h => by cases h
  | .ty _, y, h => by cases h
theorem sameL_eq : ∀ {xs ys : List D}, sameL xs ys = true → xs = ys
  | [], [], _ => rfl
  | [], _ :: _, h => by cases h
  | _ :: _, [], h => by cases h
  | x :: xs, y :: ys, h => by
    obtain ⟨h1, h2⟩ := He.ba (show (same x y && sameL xs ys) = true from h)
    rw [same_eq h1, sameL_eq h2]
end
def sameT : List (Int × D) → List (Int × D) → Bool
  | [], [] => true
  | x :: xs, y :: ys => decide (x.1 = y.1) && (same x.2 y.2 && sameT xs ys)
  | _, _ => false
theorem sameT_eq : ∀ {xs ys : List (Int × D)}, sameT xs ys = true → xs = ys
  | [], [], _ => rfl
  | [], _ :: _, h => by cases h
  | _ :: _, [], h => by cases h
  | (i, x) :: xs, (j, y) :: ys, h => by
    obtain ⟨h0, h⟩ := He.ba (show (decide (i = j) && (same x y && sameT xs ys)) = true from h)
    obtain ⟨h1, h2⟩ := He.ba h
    rw [of_decide_eq_true h0, same_eq h1, sameT_eq h2]
def kdB (K : PySem.W.Frag) (d : Addr) (tb : List (Int × D)) : Bool := match K.lookup d with
  | some ⟨.type c, none, .dict es _, sl⟩ => decide (c = "dict") && (sl.isEmpty && (match kTab K es.toList with
    | some l => sameT l tb
    | none => false))
  | _ => false
theorem kdB_ok {K : PySem.W.Frag} {d : Addr} {tb : List (Int × D)} (h : kdB K d tb = true) : KDicI K d tb := by
  unfold kdB at h
  split at h
  · rename_i c es n sl ho
    obtain ⟨h1, h⟩ := He.ba h
    obtain ⟨h2, h⟩ := He.ba h
    have e := of_decide_eq_true h1
    subst e
    have e2 : sl = #[] := Array.isEmpty_iff.mp h2
    subst e2
    split at h
    · rename_i l hl
      exact ⟨_, _, ho, by rw [hl, sameT_eq h]⟩
    · cases h
  · cases h
/-! ### defs -/
def fdOf (K : PySem.W.Frag) (p : Str × Option Str) : FuncData := match K.lookup (He.fAd K p) with
  | some ⟨_, _, .func fd, _⟩ => fd
  | _ => default
section
variable {P : Program} {w : World} {K : PySem.W.Frag} {mg : Str → Option Value} {base : Heap} {x qual : Str} {params : Arguments} {body : List Stmt} {scope : Scope} {dvs : List V} {kws : List (Str × V)} {p : Str × Option Str} {fd : FuncData} {st : Stmt} {ps : List Str}
theorem fdOf_eq (F : FunD K x qual params body scope dvs kws (He.fAd K p) fd) : fdOf K p = fd := by
  obtain ⟨oc, od, dV, kV, doc, pm, an, cdv, ct, osl, rfl, lk, _⟩ := F.ex
  unfold fdOf
  rw [lk]
theorem funD_at {fa : List He.Fa} {fn : List He.DefD} (c : He.SaysD fa fn K) (i : Nat) {d : He.DefD} (h : fn[i]? = some d := by rfl) : FunD K d.name d.qual d.params d.body d.scope (d.dvs K) (d.kws K) (He.fAd K d.at_) (fdOf K d.at_) := by
  obtain ⟨fd, F⟩ := c.def_ i h
  rw [fdOf_eq F]; exact F
theorem fun_of {f : Addr} (F : FunD K x qual (defArgs st) (defBody st) (defScope st) [] [] f fd) : Fun K x qual st f fd := by
  obtain ⟨oc, od, dV, kV, doc, pm, an, cdv, ct, osl, rfl, lk, hc, hD, _⟩ := F.ex
  rcases hD with ⟨_, rfl⟩ | ⟨z, _⟩
  · exact ⟨⟨oc, od, kV, doc, pm, an, cdv, ct, osl, rfl, lk, hc⟩, F.kp⟩
  · exact absurd rfl z
theorem funC_of (F : FunD K x qual (defArgs st) (defBody st) (defScope st) [] [] (He.fAd K p) fd) : FunC K x qual st (He.fAd K p) fd (He.codeOf K p) := by
  obtain ⟨oc, od, dV, kV, doc, pm, an, cdv, ct, osl, rfl, lk, hc, hD, _⟩ := F.ex
  obtain ⟨c, rfl⟩ := He.codeIn_ref hc
  rw [He.codeOf_eq lk rfl]
  rcases hD with ⟨_, rfl⟩ | ⟨z, _⟩
  · exact ⟨oc, od, kV, doc, pm, an, ct, osl, rfl, lk, hc⟩
  · exact absurd rfl z
theorem kwB_of {f : Addr} (F : FunD K x qual params body scope [] kws f fd)
    (h : ∀ (kV doc pm : Value) (an : Option Addr) (cdv ct : Value) (ws : List Value), ws.length = ps.length → bindArgs (PySem.W.fnOf x qual params body scope .none kV doc pm an cdv ct) ⟨[], ps.zip ws⟩ = pure (ps.zip ws)) : KwB K fd ps := by
  obtain ⟨oc, od, dV, kV, doc, pm, an, cdv, ct, osl, rfl, lk, hcd, hD, hK⟩ := F.ex
  rcases hD with ⟨_, rfl⟩ | ⟨e, _⟩
  · exact fun s ws X hl => .of_eq (h kV doc pm an cdv ct ws hl)
  · exact absurd rfl e
end
/-! ### the law's promise -/
theorem repAll_ints {g : G} {F : Hp} : ∀ ns : List Int, RepAll g F (ns.map V.int) (ns.map D.int)
  | [] => .nil
  | n :: ns => .cons (.int n) (repAll_ints ns)
theorem law_sp {K : PySem.W.Frag} {mg : Str → Option Value} {T : List (Addr × Str)} {law : List D → R} {H : Hp} {a : Addr} {ns : List Int} (hlaw : law [.scr (ns.map D.int)] = .ok (.bl true)) (hT : ∀ p ∈ T, H p.1 = some (.tbl #[])) (hS : SqL K H a (ns.map V.int)) :
    spP ⟨K, mg, T⟩ law [.ref a] H (fun v _ => v = .bl true) fun _ _ _ => False := by
  have tabs : LamX.Tabs T H := fun p hp => ⟨#[], hT p hp, trivial, fun pos cv z => by cases z⟩
  have fin : ∀ F, SatP ⟨K, mg, T⟩ F H (law [.scr (ns.map D.int)]) (fun v _ => v = .bl true) fun _ _ _ => False := fun F => by
    rw [hlaw]
    intro F' H' v _ _ r
    cases r; rfl
  rcases hS with h | h
  · refine ⟨fun b => if b = a then H a else none, _, ⟨rfl, List.nodup_nil, fun b o e => ?_, fun n a c h => by simp at h, fun n a c h => by simp at h, tabs, fun a h => by simp at h, fun b o e => ?_⟩, .cons (.scr (.inl ?_) (repAll_ints ns)) .nil, fin _⟩
    · by_cases hb : b = a
      · subst hb; exact (if_pos rfl).symm.trans e
      · have e : (none : Option HO) = some o := (if_neg hb).symm.trans e
        cases e
    · by_cases hb : b = a
      · subst hb
        have e : H b = some o := (if_pos rfl).symm.trans e
        rcases h with h | ⟨u, h⟩ <;> rw [h] at e <;> cases e <;> trivial
      · have e : (none : Option HO) = some o := (if_neg hb).symm.trans e
        cases e
    · rcases h with h | ⟨u, h⟩
      · exact .inl ((if_pos rfl).trans h)
      · exact .inr ⟨u, (if_pos rfl).trans h⟩
  · have hr : RepSt ⟨K, mg, T⟩ ⟨[], fun _ => none⟩ H [] := ⟨rfl, List.nodup_nil, fun b o e => (by cases e), fun n a c h => by simp at h, fun n a c h => by simp at h, tabs, fun a h => by simp at h, fun b o e => by cases e⟩
    exact ⟨fun _ => none, _, hr, .cons (.scr (.inr h) (repAll_ints ns)) .nil, fin _⟩
theorem cx_false (P : Program) (w : World) (H : Hp) (s : Shared) (e : Value) (s' : Shared) (h : L2.CX P w [] H s (fun _ _ _ => False) e s') : False := by
  obtain ⟨_, _, _, _, _, _, _, _, _, _, _, _, z⟩ := h
  exact z
end Ax
/-! Ax16: plain lemmas about what the readings compute -/
namespace Ax
open PySem PySem.Spec PyProof.Rows L2

theorem unv_cons (d : D) (xs : List Vl) : unv (.v d :: xs) = (unv xs).map (d :: ·) := rfl
/-! comprehensions -/
section
variable {t : TgM} {ts : TM} {el : EM} {e : Sl} {S : Store} {α : Type}
/-- a comprehension that changes no cell -/
theorem lc_pure (g : α → Vl) (p : α → Bool) (f : α → Vl) : ∀ (xs : List α) (acc : List Vl), (∀ x ∈ xs, ∃ e1, t (g x) e = some e1 ∧ ts e1 S = .ok (p x) S ∧ (p x = true → el e1 S = .ok (f x) S)) → acc.length + xs.length ≤ 16777216 →
    lcGo t ts el (xs.map g) e S acc = .ok (acc ++ (xs.filter p).map f) S
  | [], acc, _, _ => by simp [lcGo]
  | x :: xs, acc, h, hl => by
    obtain ⟨e1, h1, h2, h3⟩ := h x (by simp)
    have ih := fun acc hl => lc_pure g p f xs acc (fun y hy => h y (by simp [hy])) hl
    simp only [List.map_cons, lcGo, h1, h2]
    cases hp : p x with
    | false =>
      simp only [List.filter_cons, hp]
      exact ih acc (by simp at hl; omega)
    | true =>
      have hlt : acc.length < 16777216 := by simp at hl; omega
      simp only [h3 hp, if_pos hlt, List.filter_cons, hp, if_true, List.map_cons]
      rw [ih (acc ++ [f x]) (by simp at hl ⊢; omega)]
      simp
/-- the same, all taken -/
theorem lc_map (g : α → Vl) (f : α → Vl) (xs : List α) (h : ∀ x ∈ xs, ∃ e1, t (g x) e = some e1 ∧ ts e1 S = .ok true S ∧ el e1 S = .ok (f x) S) (hl : xs.length ≤ 16777216) :
    lcGo t ts el (xs.map g) e S [] = .ok (xs.map f) S := by
  rw [lc_pure g (fun _ => true) f xs [] (fun x hx => let ⟨e1, a, b, c⟩ := h x hx; ⟨e1, a, b, fun _ => c⟩) (by simpa using hl), List.filter_eq_self.mpr (by simp)]
  rfl
/-- one that changes cells: what stays true -/
theorem lc_inv (I : Store → Prop) (Pr : Vl → Prop) : ∀ (xs : List Vl) (S : Store) (acc : List Vl), (∀ x ∈ xs, ∀ S, I S → ∃ e1 S1 y S2, t x e = some e1 ∧ ts e1 S = .ok true S1 ∧ el e1 S1 = .ok y S2 ∧ I S2 ∧ Pr y) → acc.length + xs.length ≤ 16777216 → I S → (∀ y ∈ acc, Pr y) →
    ∃ ys S', lcGo t ts el xs e S acc = .ok ys S' ∧ I S' ∧ (∀ y ∈ ys, Pr y) ∧ ys.length = acc.length + xs.length
  | [], S, acc, _, _, hI, ha => ⟨acc, S, rfl, hI, ha, by simp⟩
  | x :: xs, S, acc, h, hl, hI, ha => by
    obtain ⟨e1, S1, y, S2, h1, h2, h3, hI2, hy⟩ := h x (by simp) S hI
    have hlt : acc.length < 16777216 := by simp at hl; omega
    obtain ⟨ys, S', q1, q2, q3, q4⟩ := lc_inv I Pr xs S2 (acc ++ [y]) (fun x hx => h x (by simp [hx])) (by simp at hl ⊢; omega) hI2 (by
      intro z hz
      rcases List.mem_append.mp hz with q | q
      · exact ha z q
      · simp at q; rw [q]; exact hy)
    refine ⟨ys, S', ?_, q2, q3, by simp at q4 ⊢; omega⟩
    simp only [lcGo, h1, h2, h3, if_pos hlt]
    exact q1
end
/-! loops -/
section
variable {t : TgM} {b : SM} {fg : List Nat} {α β : Type}
/-- a loop that always goes on -/
theorem for_rel (st : β → Sl × Store) (g : α → Vl) (step : β → α → β) (ok : β → Prop) : ∀ (xs : List α) (a : β), ok a → (∀ x ∈ xs, ∀ a, ok a → ok (step a x) ∧ ∃ e1 e2, t (g x) (st a).1 = some e1 ∧ b e1 (st a).2 = .go (.nx e2) (st (step a x)).2 ∧ fgt fg e2 = (st (step a x)).1) →
    forGo t b fg (xs.map g) (st a).1 (st a).2 = .go (.nx (st (xs.foldl step a)).1) (st (xs.foldl step a)).2
  | [], a, _, _ => rfl
  | x :: xs, a, h0, h => by
    obtain ⟨h1, e1, e2, q1, q2, q3⟩ := h x (by simp) a h0
    simp only [List.map_cons, forGo, q1, q2, q3, List.foldl_cons]
    exact for_rel st g step ok xs _ h1 fun y hy => h y (by simp [hy])
/-- a loop that changes nothing: all go on -/
theorem for_id (g : α → Vl) {e : Sl} {S : Store} (xs : List α) (h : ∀ x ∈ xs, ∃ e1 e2, t (g x) e = some e1 ∧ b e1 S = .go (.nx e2) S ∧ fgt fg e2 = e) : forGo t b fg (xs.map g) e S = .go (.nx e) S := by
  induction xs with
  | nil => rfl
  | cons x xs ih =>
    obtain ⟨e1, e2, q1, q2, q3⟩ := h x (by simp)
    simp only [List.map_cons, forGo, q1, q2, q3]
    exact ih fun y hy => h y (by simp [hy])
/-- .. until one ends it -/
theorem for_app {e : Sl} {S : Store} {e' : Sl} {S' : Store} (xs ys : List Vl) (h : forGo t b fg xs e S = .go (.nx e') S') (hne : ∀ (x : Vl) (e1 : Sl) (S1 : Store) (e2 : Sl) (S2 : Store), b e1 S1 ≠ .go (.bk e2) S2) :
    forGo t b fg (xs ++ ys) e S = forGo t b fg ys e' S' := by
  induction xs generalizing e S with
  | nil => simp only [forGo, OutS.go.injEq, Flw.nx.injEq] at h; obtain ⟨rfl, rfl⟩ := h; rfl
  | cons x xs ih =>
    simp only [List.cons_append, forGo] at h ⊢
    cases q : t x e with
    | none => rw [q] at h; cases h
    | some e1 =>
      rw [q] at h
      simp only at h ⊢
      cases q2 : b e1 S with
      | go f S2 =>
        rw [q2] at h
        cases f with
        | nx e2 => exact ih h
        | ct e2 => exact ih h
        | bk e2 => exact absurd q2 (hne x _ _ _ _)
        | rt v => cases h
      | exc c fs e2 S2 => rw [q2] at h; cases h
      | stuck => rw [q2] at h; cases h
end
theorem enumD_map {k0 : Int} {ds : List D} : (enumD k0 ds).map Vl.v = ds.zipIdx.map fun p => Vl.v (.ptp [.int (k0 + (p.2 : Nat)), p.1]) := by simp [enumD]
theorem zipD_map {xs ys : List D} : (zipD xs ys).map Vl.v = (xs.zip ys).map fun p => Vl.v (.ptp [p.1, p.2]) := by simp [zipD]
theorem rngD_map {lo c : Int} {n : Nat} : (rngD lo c n).map Vl.v = (List.range n).map fun (i : Nat) => Vl.v (.int (lo + (i : Int) * c)) := by simp [rngD]
theorem vInts_map (ns : List Int) : vInts (ns.map fun n => Vl.v (.int n)) = some ns := by
  induction ns with
  | nil => rfl
  | cons n ns ih => simp [vInts, ih]
theorem vBls_map (ns : List Bool) : vBls (ns.map fun n => Vl.v (.bl n)) = some ns := by
  induction ns with
  | nil => rfl
  | cons n ns ih => simp [vBls, ih]
/-! step by step -/
section
variable {a b : SM} {c : TM} {m : EM} {t : TgM} {e e1 e2 : Sl} {S S1 S2 : Store} {x : Vl} {o : OutS} {d : D} {N np : Nat} {ds : List D} {xs : List Vl} {cn : Str} {fs : List (Str × D)}
theorem p_nx (h : a e S = .go (.nx e1) S1) (h2 : b e1 S1 = o) : sSeq a b e S = o := by unfold sSeq; rw [h]; exact h2
theorem p_rt (h : a e S = .go (.rt x) S1) : sSeq a b e S = .go (.rt x) S1 := by unfold sSeq; rw [h]; rfl
theorem p_exc (h : a e S = .exc cn fs e1 S1) : sSeq a b e S = .exc cn fs e1 S1 := by unfold sSeq; rw [h]; rfl
theorem p_ifT (h : c e S = .ok true S1) (h2 : a e S1 = o) : sIf c a b e S = o := by unfold sIf; rw [h]; exact h2
theorem p_ifF (h : c e S = .ok false S1) (h2 : b e S1 = o) : sIf c a b e S = o := by unfold sIf; rw [h]; exact h2
theorem p_nil : sNil e S = .go (.nx e) S := rfl
theorem p_asg (h : m e S = .ok x S1) (h2 : t x e = some e1) : sAsg t m e S = .go (.nx e1) S1 := by unfold sAsg; rw [h]; simp only [Out.toS, h2]
theorem p_exp (h : m e S = .ok x S1) : sExpr m e S = .go (.nx e) S1 := by unfold sExpr; rw [h]; rfl
theorem p_ret (h : m e S = .ok x S1) : sRet m e S = .go (.rt x) S1 := by unfold sRet; rw [h]; rfl
theorem p_expX (h : m e S = .exc cn fs S1) : sExpr m e S = .exc cn fs e S1 := by unfold sExpr; rw [h]; rfl
theorem p_retX (h : m e S = .exc cn fs S1) : sRet m e S = .exc cn fs e S1 := by unfold sRet; rw [h]; rfl
theorem p_asgX (h : m e S = .exc cn fs S1) : sAsg t m e S = .exc cn fs e S1 := by unfold sAsg; rw [h]; rfl
theorem runP_rt {mb : SM} (h : mb (slots N (ds.map .v)) [] = .go (.rt (.v d)) S) (hl : ds.length = np := by rfl) : runP N np mb ds = .ok d := by
  unfold runP; rw [if_pos hl, h]
  simp only
  unfold rsl; rfl
theorem runP_cell {mb : SM} (h : mb (slots N (ds.map .v)) [] = .go (.rt x) S) (h2 : rsl S 4 x = some d) (hl : ds.length = np := by rfl) : runP N np mb ds = .ok d := by
  unfold runP; rw [if_pos hl, h]
  simp only [h2]
theorem runP_nx {mb : SM} (h : mb (slots N (ds.map .v)) [] = .go (.nx e) S) (hl : ds.length = np := by rfl) : runP N np mb ds = .ok .non := by
  unfold runP; rw [if_pos hl, h]
theorem runP_exc {mb : SM} (h : mb (slots N (ds.map .v)) [] = .exc cn fs e S) (hl : ds.length = np := by rfl) : runP N np mb ds = .exc cn fs := by
  unfold runP; rw [if_pos hl, h]
theorem runK_rt {mb : SM} (h : mb (slots N xs) S = .go (.rt x) S1) (hl : xs.length = np := by rfl) : runK N np mb xs S = .ok x S1 := by
  unfold runK; rw [if_pos hl, h]
theorem runK_exc {mb : SM} (h : mb (slots N xs) S = .exc cn fs e S1) (hl : xs.length = np := by rfl) : runK N np mb xs S = .exc cn fs S1 := by
  unfold runK; rw [if_pos hl, h]
theorem rsl_v {k : Nat} : rsl S k (.v d) = some d := by unfold rsl; rfl
theorem optL_v {k : Nat} {es : List D} : optL (rsl S k) (es.map .v) = some es := by
  induction es with
  | nil => rfl
  | cons d es ih => simp [optL, rsl_v, ih]
end
/-! results compared -/
def sameFs : List (Str × D) → List (Str × D) → Bool
  | [], [] => true
  | x :: xs, y :: ys => decide (x.1 = y.1) && (same x.2 y.2 && sameFs xs ys)
  | _, _ => false
theorem sameFs_eq : ∀ {xs ys : List (Str × D)}, sameFs xs ys = true → xs = ys
  | [], [], _ => rfl
  | [], _ :: _, h => by cases h
  | _ :: _, [], h => by cases h
  | (i, x) :: xs, (j, y) :: ys, h => by
    obtain ⟨h0, h⟩ := He.ba (show (decide (i = j) && (same x y && sameFs xs ys)) = true from h)
    obtain ⟨h1, h2⟩ := He.ba h
    rw [of_decide_eq_true h0, same_eq h1, sameFs_eq h2]
def sameR : R → R → Bool
  | .ok a, .ok b => same a b
  | .exc c fs, .exc d gs => decide (c = d) && sameFs fs gs
  | _, _ => false
theorem sameR_eq : ∀ {a b : R}, sameR a b = true → a = b
  | .ok _, .ok _, h => congrArg R.ok (same_eq h)
  | .exc _ _, .exc _ _, h => by
    obtain ⟨h1, h2⟩ := He.ba h
    rw [of_decide_eq_true h1, sameFs_eq h2]
  | .ok _, .exc _ _, h => by cases h
  | .ok _, .stuck, h => by cases h
  | .exc _ _, .ok _, h => by cases h
  | .exc _ _, .stuck, h => by cases h
  | .stuck, .ok _, h => by cases h
  | .stuck, .exc _ _, h => by cases h
  | .stuck, .stuck, h => by cases h
theorem all_of {α : Type} {p : α → Bool} {l : List α} (h : l.all p = true) : ∀ x ∈ l, p x = true := List.all_eq_true.mp h
theorem allR {α : Type} {f g : α → R} {l : List α} (h : l.all (fun x => sameR (f x) (g x)) = true) : ∀ x ∈ l, f x = g x := fun x hx => sameR_eq (all_of h x hx)
/-- data of small width and depth -/
def rgl : Nat → D → Bool
  | _, .non => true
  | _, .bl _ => true
  | _, .int _ => true
  | _, .str x => PyData.strOk x
  | k + 1, .tup xs => decide (xs.length ≤ 1000000) && xs.all (rgl k)
  | k + 1, .lst xs => decide (xs.length ≤ 1000000) && xs.all (rgl k)
  | k + 1, .scr xs => decide (xs.length ≤ 1000000) && xs.all (rgl k)
  | _, _ => false
theorem deqs_refl : ∀ {xs : List D}, (∀ x ∈ xs, deq x x = true) → deqs xs xs = true
  | [], _ => rfl
  | x :: xs, h => by simp only [deqs, h x (by simp), deqs_refl (xs := xs) fun y hy => h y (by simp [hy]), Bool.and_self]
theorem deq_refl : ∀ (k : Nat) (d : D), rgl k d = true → deq d d = true ∧ okd k d = true
  | k, .non, _ => ⟨rfl, by cases k <;> rfl⟩
  | k, .bl b, _ => ⟨by simp [deq], by cases k <;> rfl⟩
  | k, .int i, _ => ⟨by simp [deq], by cases k <;> rfl⟩
  | k, .str x, h => ⟨by simp [deq], by cases k <;> exact h⟩
  | k + 1, .tup xs, h => by
    have q := fun x hx => deq_refl k x (all_of (He.ba h).2 x hx)
    exact ⟨deqs_refl fun x hx => (q x hx).1, List.all_eq_true.mpr fun x hx => (q x hx).2⟩
  | k + 1, .lst xs, h => by
    have q := fun x hx => deq_refl k x (all_of (He.ba h).2 x hx)
    exact ⟨deqs_refl fun x hx => (q x hx).1, List.all_eq_true.mpr fun x hx => (q x hx).2⟩
  | k + 1, .scr xs, h => by
    have q := fun x hx => deq_refl k x (all_of (He.ba h).2 x hx)
    exact ⟨deqs_refl fun x hx => (q x hx).1, List.all_eq_true.mpr fun x hx => (q x hx).2⟩
  | 0, .tup _, h => by cases h
  | 0, .lst _, h => by cases h
  | 0, .scr _, h => by cases h
  | k, .ptp _, h => by cases k <;> cases h
  | k, .dct _, h => by cases k <;> cases h
  | k, .ins _ _, h => by cases k <;> cases h
  | k, .fn _, h => by cases k <;> cases h
  | k, .ty _, h => by cases k <;> cases h
theorem okd_le : ∀ {k n : Nat} {d : D}, okd k d = true → k ≤ n → okd n d = true
  | k, n, .non, _, _ => by cases n <;> rfl
  | k, n, .bl _, _, _ => by cases n <;> rfl
  | k, n, .int _, _, _ => by cases n <;> rfl
  | k, n, .str x, h, _ => by cases k <;> cases n <;> exact h
  | k + 1, n + 1, .tup xs, h, hl => List.all_eq_true.mpr fun x hx => okd_le (all_of (p := okd k) h x hx) (by omega)
  | k + 1, n + 1, .lst xs, h, hl => List.all_eq_true.mpr fun x hx => okd_le (all_of (p := okd k) h x hx) (by omega)
  | k + 1, n + 1, .scr xs, h, hl => List.all_eq_true.mpr fun x hx => okd_le (all_of (p := okd k) h x hx) (by omega)
  | k + 1, 0, .tup xs, h, hl => by omega
  | k + 1, 0, .lst xs, h, hl => by omega
  | k + 1, 0, .scr xs, h, hl => by omega
  | 0, _, .tup _, h, _ => by cases h
  | 0, _, .lst _, h, _ => by cases h
  | 0, _, .scr _, h, _ => by cases h
  | k, _, .ptp _, h, _ => by cases k <;> cases h
  | k, _, .dct _, h, _ => by cases k <;> cases h
  | k, _, .ins _ _, h, _ => by cases k <;> cases h
  | k, _, .fn _, h, _ => by cases k <;> cases h
  | k, _, .ty _, h, _ => by cases k <;> cases h
/-! dicts of whole numbers -/
def dI (os : List Int) (f : Int → Int) : List (D × Vl) := os.map fun o => (.int o, .v (.int (f o)))
theorem dget_dI {f : Int → Int} {x : Int} : ∀ {os : List Int}, x ∈ os → dget (.int x) (dI os f) = some (.v (.int (f x)))
  | o :: os, h => by
    by_cases e : o = x
    · subst e; simp [dI, dget, kEq]
    · have h2 : x ∈ os := (List.mem_cons.mp h).resolve_left fun z => e z.symm
      have ih := dget_dI (f := f) h2
      simp only [dI] at ih
      simp [dI, dget, kEq, e, ih]
theorem dhas_dI {f : Int → Int} {x : Int} {os : List Int} (h : x ∈ os) : dhas (.int x) (dI os f) = true := by
  unfold dhas; rw [dget_dI h]; rfl
theorem dput_dI {f : Int → Int} {x y : Int} {os : List Int} (h : x ∈ os) : dput (.int x) (.v (.int y)) (dI os f) = dI os fun o => if o = x then y else f o := by
  unfold dput
  rw [dhas_dI h, if_pos rfl]
  simp only [dI, List.map_map]
  apply List.map_congr_left
  intro o _
  by_cases e : o = x <;> simp [kEq, e]
/-! counting by kinds -/
theorem sum_one {α : Type} [BEq α] [LawfulBEq α] {p : α → Bool} {x : α} : ∀ {os : List α}, os.Nodup → x ∈ os → (os.map fun r => if p r then (if x == r then (1 : Int) else 0) else 0).sum = if p x then 1 else 0
  | o :: os, hn, h => by
    obtain ⟨h1, h2⟩ := List.nodup_cons.mp hn
    by_cases e : x = o
    · subst e
      have z : (os.map fun r => if p r then (if x == r then (1 : Int) else 0) else 0).sum = 0 := by
        have : (os.map fun r => if p r then (if x == r then (1 : Int) else 0) else 0) = os.map fun _ => (0 : Int) := by
          apply List.map_congr_left
          intro r hr
          have : x ≠ r := fun z => h1 (z ▸ hr)
          simp [this]
        rw [this]
        clear this h1 h2 hn h
        induction os with
        | nil => rfl
        | cons o os ih => simp [ih]
      simp [z]
    · have ih := sum_one (p := p) h2 ((List.mem_cons.mp h).resolve_left e)
      rw [List.map_cons, List.sum_cons, ih]
      simp [e]
theorem sum_add {α : Type} {f g : α → Int} : ∀ {os : List α}, (os.map fun r => f r + g r).sum = (os.map f).sum + (os.map g).sum
  | [] => rfl
  | o :: os => by simp only [List.map_cons, List.sum_cons, sum_add (os := os)]; omega
theorem sum_count {α : Type} [BEq α] [LawfulBEq α] {p : α → Bool} {os : List α} (hn : os.Nodup) : ∀ {rs : List α}, (∀ r ∈ rs, r ∈ os) → (os.map fun r => if p r then ((rs.count r : Nat) : Int) else 0).sum = ((rs.countP p : Nat) : Int)
  | [], _ => by
    clear hn
    induction os with
    | nil => rfl
    | cons o os ih => simp at ih ⊢; exact ih
  | x :: rs, h => by
    have ih := sum_count (p := p) hn (rs := rs) fun r hr => h r (by simp [hr])
    have e : (os.map fun r => if p r then (((x :: rs).count r : Nat) : Int) else 0) = os.map fun r => (if p r then ((rs.count r : Nat) : Int) else 0) + (if p r then (if x == r then (1 : Int) else 0) else 0) := by
      apply List.map_congr_left
      intro r _
      by_cases hp : p r <;> by_cases hx : x = r <;> simp [hp, hx, List.count_cons]
    rw [e, sum_add, ih, sum_one hn (h x (by simp)), List.countP_cons]
    by_cases hp : p x <;> simp [hp]
end Ax
/-! Ax18: the readings, step by step: rules to be applied -/
namespace Ax
open PySem PySem.Spec PyProof.Rows L2
section
variable {e e1 e2 : Sl} {S S1 S2 S3 : Store} {x y z u : Vl} {d d2 : D} {b c k : Bool} {o : Out Vl} {oS : OutS} {xs ys : List Vl} {ds es : List D} {ma mb mc : EM} {ra rb : AM} {ta tb tc : TM} {la lb : OM} {l h : Option Int}
variable {f f' : Vl → Vl → Store → Out Vl} {g : Vl → Store → Out Vl} {fl : List Vl → Store → Out Vl} {fm : Vl → List Vl → Store → Out Vl} {chk : Store → Vl → Bool} {F : List D → R} {FK : List Vl → Store → Out Vl} {i j : Int} {n : Nat}
theorem ev_var (h : e[n]? = some (some x)) : eVar n e S = .ok x S := by unfold eVar; rw [h]
theorem ev_c : eC d e S = .ok (.v d) S := rfl
theorem ev_bin (h1 : ma e S = .ok x S1) (h2 : mb e S1 = .ok y S2) (h3 : f x y S2 = o) : eBin f ma mb e S = o := by unfold eBin; rw [h1]; simp only [Out.bind]; rw [h2]; exact h3
theorem ev_un (h1 : ma e S = .ok x S1) (h2 : g x S1 = o) : eUn g ma e S = o := by unfold eUn; rw [h1]; exact h2
theorem ev_chain (h1 : ma e S = .ok x S) (h2 : mb e S = .ok y S) (h3 : f x y S = .ok (.v (.bl b)) S) (h4 : mc e S = .ok u S) (h5 : f' y u S = .ok (.v (.bl c)) S) : eChain f f' ma mb mc e S = .ok (.v (.bl (b && c))) S := by
  unfold eChain
  rw [h1]; simp only [Out.bind]; rw [h2]; simp only [Out.bind]; rw [h3]
  cases b
  · rfl
  · simp only [Out.bind, h4, h5, Bool.true_and]
theorem ev_and (h1 : ma e S = .ok (.v (.bl b)) S) (h2 : b = true → mb e S = .ok (.v (.bl c)) S) : eAnd ma mb e S = .ok (.v (.bl (b && c))) S := by
  unfold eAnd; rw [h1]
  cases b
  · rfl
  · simp only [Out.bind, h2 rfl, Bool.true_and]
theorem ev_or (h1 : ma e S = .ok (.v (.bl b)) S) (h2 : b = false → mb e S = .ok (.v (.bl c)) S) : eOr ma mb e S = .ok (.v (.bl (b || c))) S := by
  unfold eOr; rw [h1]
  cases b
  · simp only [Out.bind, h2 rfl, Bool.false_or]
  · rfl
theorem ev_not (h1 : ma e S = .ok (.v (.bl b)) S1) : eNot ma e S = .ok (.v (.bl (!b))) S1 := ev_un h1 rfl
theorem ev_if (h1 : ta e S = .ok b S1) (h2 : b = true → ma e S1 = o) (h3 : b = false → mb e S1 = o) : eIf ta ma mb e S = o := by
  unfold eIf; rw [h1]
  cases b
  · exact h3 rfl
  · exact h2 rfl
theorem ev_nil : aNil e S = .ok [] S := rfl
theorem ev_cons (h1 : ma e S = .ok x S1) (h2 : ra e S1 = .ok xs S2) : aCons ma ra e S = .ok (x :: xs) S2 := by unfold aCons; rw [h1]; simp only [Out.bind, h2]
theorem ev_tup (h1 : ra e S = .ok xs S1) (h2 : kTup xs S1 = o) : eTup ra e S = o := by unfold eTup; rw [h1]; exact h2
theorem ev_lst (h1 : ra e S = .ok xs S1) (h2 : kLst xs S1 = o) : eLst ra e S = o := by unfold eLst; rw [h1]; exact h2
theorem ev_lstC (h1 : ra e S = .ok xs S1) (h2 : kLstC xs S1 = o) : eLstC ra e S = o := by unfold eLstC; rw [h1]; exact h2
theorem ev_b (h1 : ra e S = .ok xs S1) (h2 : fl xs S1 = o) : eB fl ra e S = o := by unfold eB; rw [h1]; exact h2
theorem ev_mth (h1 : ma e S = .ok x S1) (h2 : chk S1 x = true) (h3 : ra e S1 = .ok xs S2) (h4 : fm x xs S2 = o) : eMth chk fm ma ra e S = o := by
  unfold eMth; rw [h1]; simp only [Out.bind]; rw [h2]; simp only [if_true, h3]; exact h4
theorem ev_P (h1 : ra e S = .ok xs S1) (h2 : unv xs = some ds) (h3 : F ds = .ok d) : eCallP F ra e S = .ok (.v d) S1 := by unfold eCallP; rw [h1]; simp only [Out.bind, kP, h2, h3]
theorem ev_PX {cn : Str} {fs : List (Str × D)} (h1 : ra e S = .ok xs S1) (h2 : unv xs = some ds) (h3 : F ds = .exc cn fs) : eCallP F ra e S = .exc cn fs S1 := by unfold eCallP; rw [h1]; simp only [Out.bind, kP, h2, h3]
theorem ev_K (h1 : ra e S = .ok xs S1) (h2 : FK xs S1 = o) : eCallK FK ra e S = o := by unfold eCallK; rw [h1]; exact h2
theorem ev_KE (h1 : ra e S = .ok xs S1) (h2 : kKE FK xs S1 = o) : eCallKE FK ra e S = o := by unfold eCallKE; rw [h1]; exact h2
theorem ev_peek (h1 : ra e S = .ok xs S1) (h2 : rsls S1 4 xs = some ds) (h3 : F ds = .ok d) (h4 : atom d = true) : ePeek F ra e S = .ok (.v d) S1 := by unfold ePeek; rw [h1]; simp only [Out.bind, kPa, h2, h3, h4, if_true]
theorem ev_sl {kk : KL} (h1 : ma e S = .ok x S1) (h2 : la e S1 = .ok l S2) (h3 : lb e S2 = .ok h S3) (h4 : fSl kk x l h S3 = o) : eSl kk ma la lb e S = o := by
  unfold eSl; rw [h1]; simp only [Out.bind]; rw [h2]; simp only [Out.bind]; rw [h3]; exact h4
theorem ev_oN : oNone e S = .ok none S := rfl
theorem ev_oS (h1 : ma e S = .ok (.v (.int i)) S1) : oSome ma e S = .ok (some i) S1 := by unfold oSome; rw [h1]; rfl
theorem ev_kd {tb : List (Int × D)} (h1 : ma e S = .ok (.v (.int i)) S1) (h2 : lkI i tb = some d) : eKD tb ma e S = .ok (.v d) S1 := by unfold eKD; rw [h1]; simp only [Out.bind, fIxKI, h2]
theorem ev_lrg {kk : KL} {it : IM} (h1 : it e S = .ok xs S1) (h2 : xs.length ≤ 16777216) (h3 : kk xs S1 = o) : eLstRg kk it e S = o := by unfold eLstRg; rw [h1]; simp only [Out.bind]; rw [if_pos h2]; exact h3
theorem ev_lenSet (h1 : ma e S = .ok x S1) (h2 : kLenSet x S1 = o) : eLenSet ma e S = o := by unfold eLenSet; rw [h1]; exact h2
/-! tests -/
theorem ev_tbl (h1 : ma e S = .ok (.v (.bl b)) S1) : tBl ma e S = .ok b S1 := by unfold tBl; rw [h1]; rfl
theorem ev_ttru (h1 : ma e S = .ok x S1) (h2 : tru S1 x = some b) : tTru ma e S = .ok b S1 := by unfold tTru; rw [h1]; simp only [Out.bind, h2]
theorem ev_tnot (h1 : ta e S = .ok b S1) : tmNot ta e S = .ok (!b) S1 := by unfold tmNot; rw [h1]; rfl
theorem ev_tand (h1 : ta e S = .ok b S) (h2 : b = true → tb e S = .ok c S) : tmAnd ta tb e S = .ok (b && c) S := by
  unfold tmAnd; rw [h1]
  cases b
  · rfl
  · simp only [Out.bind, h2 rfl, if_true, Bool.true_and]
theorem ev_tor (h1 : ta e S = .ok b S) (h2 : b = false → tb e S = .ok c S) : tmOr ta tb e S = .ok (b || c) S := by
  unfold tmOr; rw [h1]
  cases b
  · simp only [Out.bind, h2 rfl, Bool.false_or]; rfl
  · rfl
theorem ev_yes : tmYes e S = .ok true S := rfl
/-! what is walked -/
theorem ev_iseq (h1 : ma e S = .ok x S1) (h2 : sview x = some ds) : iSeq ma e S = .ok (ds.map .v) S1 := by unfold iSeq; rw [h1]; simp only [Out.bind, kSq, h2]
theorem ev_irn1 (h1 : ra e S = .ok [.v (.int j)] S1) (h2 : smallI j = true) : iRn1 ra e S = .ok ((rngD 0 1 j.toNat).map .v) S1 := by unfold iRn1; rw [h1]; simp only [Out.bind, kRng1, h2, if_true]
theorem ev_irn2 (h1 : ra e S = .ok [.v (.int i), .v (.int j)] S1) (h2 : smallI i = true) (h3 : smallI j = true) : iRn2 ra e S = .ok ((rngD i 1 (j - i).toNat).map .v) S1 := by unfold iRn2; rw [h1]; simp only [Out.bind, kRng2, h2, h3, if_true, Bool.and_self]
theorem ev_ienm {k0 : Int} (h1 : ra e S = .ok [x] S1) (h2 : sview x = some ds) : iEnm k0 ra e S = .ok ((enumD k0 ds).map .v) S1 := by unfold iEnm; rw [h1]; simp only [Out.bind, kEnum, h2]
theorem ev_izp (h1 : ra e S = .ok [x, y] S1) (h2 : sview x = some ds) (h3 : sview y = some es) : iZp ra e S = .ok ((zipD ds es).map .v) S1 := by unfold iZp; rw [h1]; simp only [Out.bind, kZip, h2, h3]
theorem ev_lc {kk : KL} {it : IM} {t : TgM} {own : List Nat} (h1 : it e S = .ok xs S1) (h2 : lcGo t ta ma xs (fgt own e) S1 [] = .ok ys S2) (h3 : kk ys S2 = o) : eLcX kk it t ta ma own e S = o := by unfold eLcX; rw [h1]; simp only [Out.bind]; rw [h2]; exact h3
/-! operations -/
theorem op_iadd : fAdd (.v (.int i)) (.v (.int j)) S = .ok (.v (.int (i + j))) S := rfl
theorem op_isub : fSub (.v (.int i)) (.v (.int j)) S = .ok (.v (.int (i - j))) S := rfl
theorem op_iplus : fPlus (.v (.int i)) (.v (.int j)) S = .ok (.v (.int (i + j))) S := rfl
theorem op_ilt : fLt (.v (.int i)) (.v (.int j)) S = .ok (.v (.bl (decide (i < j)))) S := rfl
theorem op_ile : fLe (.v (.int i)) (.v (.int j)) S = .ok (.v (.bl (decide (i ≤ j)))) S := rfl
theorem op_igt : fGt (.v (.int i)) (.v (.int j)) S = .ok (.v (.bl (decide (j < i)))) S := rfl
theorem op_ige : fGe (.v (.int i)) (.v (.int j)) S = .ok (.v (.bl (decide (j ≤ i)))) S := rfl
theorem op_ieq : fEq (.v (.int i)) (.v (.int j)) S = .ok (.v (.bl (i == j))) S := rfl
theorem op_ine : fNe (.v (.int i)) (.v (.int j)) S = .ok (.v (.bl (!(i == j)))) S := rfl
theorem op_imod (h : 0 < j) : fMod (.v (.int i)) (.v (.int j)) S = .ok (.v (.int (i % j))) S := by simp [fInt, h]
theorem op_idiv (h : 0 < j) (h2 : j < 4611686018427387904) : fDiv (.v (.int i)) (.v (.int j)) S = .ok (.v (.int (i / j))) S := by
  have q : j.natAbs.log2 < 9000 := by
    have : j.natAbs < 2 ^ 62 := by omega
    have h0 : j.natAbs ≠ 0 := by omega
    exact Nat.lt_of_lt_of_le ((Nat.log2_lt h0).mpr this) (by decide)
  simp [fInt, h, q]
theorem op_eqD (h1 : okd 60 d = true) (h2 : okd 60 d2 = true) : fEq (.v d) (.v d2) S = .ok (.v (.bl (deq d d2))) S := by simp [fEqB, peek, h1, h2]
theorem op_neD (h1 : okd 60 d = true) (h2 : okd 60 d2 = true) : fNe (.v d) (.v d2) S = .ok (.v (.bl (!deq d d2))) S := by simp [fEqB, peek, h1, h2]
theorem op_tup (h1 : unv xs = some ds) (h2 : ds.length ≤ 16777216) : kTup xs S = .ok (.v (.tup ds)) S := by unfold kTup; rw [h1]; simp only [h2, if_true]
theorem op_lst (h1 : unv xs = some ds) (h2 : ds.length ≤ 16777216) : kLst xs S = .ok (.v (.lst ds)) S := by unfold kLst; rw [h1]; simp only [h2, if_true]
theorem op_lstv (h2 : ds.length ≤ 16777216) : kLst (ds.map .v) S = .ok (.v (.lst ds)) S := op_lst (unv_map ds) h2
theorem op_lstC (h : xs.length ≤ 16777216) : kLstC xs S = .ok (.r S.length) (S ++ [.lst xs]) := if_pos h
theorem op_len (h : qview S x = some xs) (hs : ∀ s, x ≠ .v (.str s)) : fLen [x] S = .ok (.v (.int xs.length)) S := by
  unfold fLen
  split
  · rename_i z h2; simp only [List.cons.injEq, and_true] at h2; exact absurd h2 (hs _)
  · rename_i y _ h2
    simp only [List.cons.injEq, and_true] at h2
    subst h2
    rw [h]
  · rename_i h1 h2; exact absurd rfl (h2 x)
theorem op_len_lst : fLen [.v (.lst ds)] S = .ok (.v (.int ds.length)) S := by simp [fLen, qview]
theorem op_len_tup : fLen [.v (.tup ds)] S = .ok (.v (.int ds.length)) S := by simp [fLen, qview]
theorem atI_nat {α : Type} {xs : List α} {a : α} (h : xs[n]? = some a) : atI xs (n : Int) = some a := by
  obtain ⟨h1, h2⟩ := List.getElem?_eq_some_iff.mp h
  simp [atI, ixN, h1, h2]
theorem op_ix_lst (h : ds[n]? = some d) : fIx (.v (.lst ds)) (.v (.int (n : Int))) S = .ok (.v d) S := by
  simp only [fIx, dview, qview]
  rw [atI_nat (a := Vl.v d) (by simp [h])]
theorem op_ix_tup (h : ds[n]? = some d) : fIx (.v (.tup ds)) (.v (.int (n : Int))) S = .ok (.v d) S := by
  simp only [fIx, dview, qview]
  rw [atI_nat (a := Vl.v d) (by simp [h])]
theorem op_sl_tup {kk : KL} : fSl kk (.v (.tup ds)) l h S = .ok (.v (.tup (cutG ds l h))) S := rfl
/-! statements with a choice -/
variable {s1 s2 s3 : SM}
theorem p_if (h1 : ta e S = .ok b S1) (h2 : b = true → s1 e S1 = oS) (h3 : b = false → s2 e S1 = oS) : sIf ta s1 s2 e S = oS := by
  unfold sIf; rw [h1]
  cases b
  · exact h3 rfl
  · exact h2 rfl
theorem p_ifT' (h1 : ta e S = .ok b S1) (h : b = true) (h2 : s1 e S1 = oS) : sIf ta s1 s2 e S = oS := p_ifT (h ▸ h1) h2
theorem p_ifF' (h1 : ta e S = .ok b S1) (h : b = false) (h2 : s2 e S1 = oS) : sIf ta s1 s2 e S = oS := p_ifF (h ▸ h1) h2
/-- an `if` that only goes on -/
theorem p_go (h1 : ta e S = .ok false S1) (h2 : s3 e S1 = oS) : sSeq (sIf ta s1 sNil) s3 e S = oS := p_nx (p_ifF h1 p_nil) h2
theorem p_go' (h1 : ta e S = .ok b S1) (h : b = false) (h2 : s3 e S1 = oS) : sSeq (sIf ta s1 sNil) s3 e S = oS := p_go (h ▸ h1) h2
theorem p_let {i : Nat} (h1 : ma e S = .ok x S1) (h2 : s3 (e.set i (some x)) S1 = oS) : sSeq (sAsg (gNm i) ma) s3 e S = oS := p_nx (p_asg h1 rfl) h2
theorem p_do (h1 : ma e S = .ok x S1) (h2 : s3 e S1 = oS) : sSeq (sExpr ma) s3 e S = oS := p_nx (p_exp h1) h2
theorem p_par {i j : Nat} (h1 : ma e S = .ok x S1) (h2 : mb e S1 = .ok y S2) (h3 : s3 ((e.set i (some x)).set j (some y)) S2 = oS) : sSeq (sPar i j (aCons ma (aCons mb aNil))) s3 e S = oS := by
  refine p_nx ?_ h3
  unfold sPar
  rw [ev_cons h1 (ev_cons h2 ev_nil)]
  rfl
end
end Ax
/-! Ax19: gcd, turned lists and tuples -/
namespace Ax
open PySem PySem.Spec PyProof.Rows L2
section
variable {X : Cx} {T : List (Addr × Str)} {W : WX} {g : G} {x : Str} {p pos : Pos} {e : Expr} {es : List Expr} {ma : AM} {m : EM}
theorem e_bf {fb : List Vl → Store → Out Vl} {r : List V → Hp → VK → Prop} {id : String} (hc : CallR X (.builtin id) r) (hf : CalD (gX X T) W fb r) (hm : X.mg x = some (.builtin id)) (ha : PA X (e :: es) (rdA (gX X T) W ma)) (hg : Gl X x := by rfl)
    (hdb : (x == ("__debug__" : Str)) = false := by decide) (he : starEach (e :: es) X.env = (false, eval e X.env) :: starEach es X.env := by rfl) (hpl : (backTo pos (starEach es X.env)).any (·.1) = false := by rfl) :
    PE X (.Call (.Name x p) (e :: es) [] pos) (rd (gX X T) W (eB fb ma)) := PE_imp (pe_callBfun hc hg hm ha hdb he hpl) fun s H Q h =>
  rd_bind (f := fun xs _ S1 => fb xs S1) h fun w1 H1 S1 e v x hS hE hx h1 => hf s w1 H1 S1 v x Q hS hx h1
def fGcd (xs : List Vl) (S : Store) : Out Vl := match xs with
  | [.v (.int i), .v (.int j)] => .ok (.v (.int ((Nat.gcd i.natAbs j.natAbs : Nat) : Int))) S
  | _ => .stuck
theorem fGcd_of : CalD g W fGcd rGcd := by
  intro s w H S vs xs Q hS hx h
  unfold fGcd at h
  split at h
  · rename_i i j
    exact ⟨i, j, two_ints hx, h w H _ (Ext.refl _ _) hS (.v (.int _))⟩
  · exact h.elim
end
/-- a global that holds a function of a module -/
def bltB (K : PySem.W.Frag) (x : Str) (id : String) : Bool := decide (PySem.W.nsIn K mainGlobals x = some (some (.builtin id)))
theorem bltB_ok {K : PySem.W.Frag} {h : Heap} {mg : Str → Option Value} {x : Str} {id : String} (X : K.In h) (G : h.Ns mainGlobals mg) (c : bltB K x id = true) : mg x = some (.builtin id) := PySem.W.mg_of X G (of_decide_eq_true c)
end Ax
/-! Ax20: a call whose new cells are frozen behind it -/
namespace Ax
open PySem PySem.Spec PyProof.Rows L2
def lowV (n : Nat) : Vl → Bool
  | .v _ => true
  | .r k => decide (k < n)
def lowC (n : Nat) : Cel → Bool
  | .lst xs => xs.all (lowV n)
  | .dct ps => ps.all fun p => lowV n p.2
  | .ins _ fs => fs.all fun p => lowV n p.2
  | .dead => true
  | .dcn ps => ps.all fun p => lowV n p.2
def kill (n : Nat) (S : Store) : Store := List.replicate n .dead ++ S.drop n
def frzO (n : Nat) : Out Vl → Out Vl
  | .ok x S2 => if (S2.take n).all (lowC n) then (match rsl (kill n S2) 4 x with
    | some d => .ok (.v d) (S2.take n)
    | none => .stuck) else .stuck
  | o => o
def kKF (m : List Vl → Store → Out Vl) (xs : List Vl) (S : Store) : Out Vl := frzO S.length (m xs S)
def eCallKF (m : List Vl → Store → Out Vl) (ma : AM) : EM := fun e S => (ma e S).bind (kKF m)
section
variable {g : G} {w : Wd} {H F' : Hp} {S : Store}
structure FrzAt (w : Wd) (H F' : Hp) (S : Store) : Prop where
  le : HLe w.F F'
  at_ : ∀ (i : Nat) (a : Addr) (c : Cel), w.p[i]? = some a → S[i]? = some c → c ≠ .dead → ∀ o, H a = some o → F' a = some o
mutual
theorem rsl_repF (hS : RepSt g w H S) (hF : FrzAt w H F' S) : ∀ (k : Nat) {v : V} {x : Vl} {d : D}, RepV g w v x → rsl S k x = some d → Rep g F' v d
  | _, _, .v _, _, .v h, e => by unfold rsl at e; cases e; exact h.le hF.le
  | 0, _, .r _, _, .r _, e => by unfold rsl at e; cases e
  | k + 1, _, .r n, d, .r (a := a) h, e => by
    unfold rsl at e
    split at e
    · rename_i xs hc
      obtain ⟨vs, q, r⟩ := hS.cel _ _ _ h hc
      obtain ⟨ds, e1, e2⟩ := Option.map_eq_some_iff.mp e
      subst e2
      exact .lst (hF.at_ _ _ _ h hc (by simp) _ q) (rsls_repF hS hF k r e1)
    · rename_i ps hc
      obtain ⟨ds, e1, e2⟩ := Option.map_eq_some_iff.mp e
      subst e2
      obtain ⟨kvs, q, r⟩ := hS.cel _ _ _ h hc
      exact .dK (.inl (hF.at_ _ _ _ h hc (by simp) _ q)) (rslK_repF hS hF k r e1)
    · rename_i c fs hc
      obtain ⟨C, dx, vs, m, q, r⟩ := hS.cel _ _ _ h hc
      obtain ⟨ds, e1, e2⟩ := Option.map_eq_some_iff.mp e
      subst e2
      exact .ins m (hF.at_ _ _ _ h hc (by simp) _ q) (rslF_repF hS hF k r e1)
    · cases e
theorem rsls_repF (hS : RepSt g w H S) (hF : FrzAt w H F' S) : ∀ (k : Nat) {vs : List V} {xs : List Vl} {ds : List D}, RepVs g w vs xs → rsls S k xs = some ds → RepAll g F' vs ds
  | k, _, [], _, .nil, e => by unfold rsls optL at e; cases e; exact .nil
  | k, _, x :: xs, _, .cons h r, e => by
    unfold rsls optL at e
    obtain ⟨d, e1, e2⟩ := Option.bind_eq_some_iff.mp e
    obtain ⟨ds, e3, e4⟩ := Option.map_eq_some_iff.mp e2
    subst e4
    exact .cons (rsl_repF hS hF k h e1) (rsls_repF hS hF k r e3)
theorem rslK_repF (hS : RepSt g w H S) (hF : FrzAt w H F' S) : ∀ (k : Nat) {vs : List (Key × V)} {xs : List (D × Vl)} {ds : List (D × D)}, RepKV g w vs xs → rslP S k xs = some ds → RepK g F' vs ds
  | k, _, _, _, .nil, e => by unfold rslP optP at e; cases e; exact .nil
  | k, _, _, _, .cons h r, e => by
    unfold rslP optP at e
    obtain ⟨d, e1, e2⟩ := Option.bind_eq_some_iff.mp e
    obtain ⟨ds, e3, e4⟩ := Option.map_eq_some_iff.mp e2
    subst e4
    exact .cons (rsl_repF hS hF k h e1) (rslK_repF hS hF k r e3)
theorem rslF_repF (hS : RepSt g w H S) (hF : FrzAt w H F' S) : ∀ (k : Nat) {vs : List (Str × V)} {xs : List (Str × Vl)} {ds : List (Str × D)}, RepFV g w vs xs → rslF S k xs = some ds → RepF g F' vs ds
  | k, _, [], _, .nil, e => by unfold rslF optP at e; cases e; exact .nil
  | k, _, x :: xs, _, .cons h r, e => by
    unfold rslF optP at e
    obtain ⟨d, e1, e2⟩ := Option.bind_eq_some_iff.mp e
    obtain ⟨ds, e3, e4⟩ := Option.map_eq_some_iff.mp e2
    subst e4
    exact .cons (rsl_repF hS hF k h e1) (rslF_repF hS hF k r e3)
end
theorem kill_at {n i : Nat} {c : Cel} (hl : n ≤ S.length) (h : (kill n S)[i]? = some c) (nd : c ≠ .dead) : n ≤ i ∧ S[i]? = some c := by
  unfold kill at h
  by_cases hi : i < n
  · rw [List.getElem?_append_left (by simpa using hi), List.getElem?_replicate, if_pos hi] at h
    cases h
    exact absurd rfl nd
  · rw [List.getElem?_append_right (by simp; omega), List.length_replicate, List.getElem?_drop] at h
    refine ⟨by omega, ?_⟩
    rw [← h]; congr 1; omega
theorem RepSt.kill (hS : RepSt g w H S) {n : Nat} (hl : n ≤ S.length) : RepSt g w H (kill n S) := by
  refine ⟨by simp [Ax.kill, hS.len]; omega, hS.nd, hS.le, fun i a c h1 h2 nd => hS.out i a c h1 (kill_at hl h2 nd).2 nd, fun i a c h1 h2 => ?_, hS.tabs, hS.tr, hS.nt⟩
  by_cases nd : c = .dead
  · subst nd; trivial
  · exact hS.cel i a c h1 (kill_at hl h2 nd).2
/-- the cells behind the first n are frozen -/
def frzF (n : Nat) (w : Wd) (H : Hp) : Hp := fun a => match w.F a with
  | some o => some o
  | none => if a ∈ w.p.drop n then H a else none
def wFrz (n : Nat) (w : Wd) (H : Hp) : Wd := ⟨w.p.take n, frzF n w H⟩
theorem frzF_of {n : Nat} {a : Addr} {o : HO} (h : w.F a = some o) : frzF n w H a = some o := by unfold frzF; rw [h]
theorem frzF_inv {n : Nat} {a : Addr} {o : HO} (h : frzF n w H a = some o) : w.F a = some o ∨ (a ∈ w.p.drop n ∧ H a = some o) := by
  unfold frzF at h
  split at h
  · rename_i u e; cases h; exact .inl e
  · split at h
    · rename_i hm; exact .inr ⟨hm, h⟩
    · cases h
theorem frzF_hle {n : Nat} : HLe w.F (frzF n w H) := HLe.of fun _ _ h => frzF_of h
theorem frzAt (hS : RepSt g w H S) {n : Nat} (hl : n ≤ S.length) : FrzAt w H (frzF n w H) (kill n S) := by
  refine ⟨frzF_hle, fun i a c h1 h2 nd o ho => ?_⟩
  obtain ⟨hi, h3⟩ := kill_at hl h2 nd
  have hn := hS.out i a c h1 h3 nd
  unfold frzF
  rw [hn]
  have : a ∈ w.p.drop n := List.mem_of_getElem? (i := i - n) (by rw [List.getElem?_drop, show n + (i - n) = i by omega]; exact h1)
  simp only [this, if_true]
  exact ho
theorem lowV_rep {n : Nat} {v : V} {x : Vl} (h : RepV g w v x) (hl : lowV n x = true) : RepV g (wFrz n w H) v x := by
  cases h with
  | v h => exact .v (h.le frzF_hle)
  | @r k a h =>
    refine .r ?_
    have hk : k < n := of_decide_eq_true hl
    show (w.p.take n)[k]? = _
    rw [List.getElem?_take_of_lt hk]; exact h
theorem lowVs_rep {n : Nat} : ∀ {vs : List V} {xs : List Vl}, RepVs g w vs xs → xs.all (lowV n) = true → RepVs g (wFrz n w H) vs xs
  | _, _, .nil, _ => .nil
  | _, _, .cons h r, hl => by
    rw [List.all_cons, Bool.and_eq_true] at hl
    exact .cons (lowV_rep h hl.1) (lowVs_rep r hl.2)
theorem lowKV_rep {n : Nat} : ∀ {vs : List (Key × V)} {xs : List (D × Vl)}, RepKV g w vs xs → (xs.all fun p => lowV n p.2) = true → RepKV g (wFrz n w H) vs xs
  | _, _, .nil, _ => .nil
  | _, _, .cons h r, hl => by
    rw [List.all_cons, Bool.and_eq_true] at hl
    exact .cons (lowV_rep h hl.1) (lowKV_rep r hl.2)
theorem lowFV_rep {n : Nat} : ∀ {vs : List (Str × V)} {xs : List (Str × Vl)}, RepFV g w vs xs → (xs.all fun p => lowV n p.2) = true → RepFV g (wFrz n w H) vs xs
  | _, _, .nil, _ => .nil
  | _, _, .cons h r, hl => by
    rw [List.all_cons, Bool.and_eq_true] at hl
    exact .cons (lowV_rep h hl.1) (lowFV_rep r hl.2)
theorem frz_st (hS : RepSt g w H S) {n : Nat} (hl : n ≤ S.length) (hlow : (S.take n).all (lowC n) = true) : RepSt g (wFrz n w H) H (S.take n) := by
  have idx : ∀ (i : Nat) (a : Addr), (w.p.take n)[i]? = some a → i < n ∧ w.p[i]? = some a := fun i a h => by
    have hi : i < n := by
      have := (List.getElem?_eq_some_iff.mp h).1
      simp at this; omega
    rw [List.getElem?_take_of_lt hi] at h
    exact ⟨hi, h⟩
  have sidx : ∀ (i : Nat) (c : Cel), i < n → (S.take n)[i]? = some c → S[i]? = some c := fun i c hi h => by rw [List.getElem?_take_of_lt hi] at h; exact h
  refine ⟨?_, hS.nd.sublist (List.take_sublist _ _), fun a o h => ?_, fun i a c h1 h2 nd => ?_, fun i a c h1 h2 => ?_, hS.tabs, fun a ha => hS.tr a (List.mem_of_mem_take ha), fun a o h => ?_⟩
  · show (w.p.take n).length = _
    rw [List.length_take, List.length_take, hS.len]
  · rcases frzF_inv h with h | ⟨_, h⟩
    · exact hS.le _ _ h
    · exact h
  · obtain ⟨hi, h1⟩ := idx i a h1
    have h2 := sidx i c hi h2
    cases q : frzF n w H a with
    | none => exact q
    | some o =>
      rcases frzF_inv q with z | ⟨z, _⟩
      · rw [hS.out i a c h1 h2 nd] at z; cases z
      · obtain ⟨j, hj⟩ := List.mem_iff_getElem?.mp z
        rw [List.getElem?_drop] at hj
        have := (List.getElem?_inj (List.getElem?_eq_some_iff.mp h1).1 hS.nd).mp (h1.trans hj.symm)
        omega
  · obtain ⟨hi, h1⟩ := idx i a h1
    have h2' := sidx i c hi h2
    have q := hS.cel i a c h1 h2'
    have hc : lowC n c = true := List.all_eq_true.mp hlow c (List.mem_of_getElem? h2)
    cases c with
    | lst xs => obtain ⟨vs, q1, q2⟩ := q; exact ⟨vs, q1, lowVs_rep q2 hc⟩
    | dct ps => obtain ⟨vs, q1, q2⟩ := q; exact ⟨vs, q1, lowKV_rep q2 hc⟩
    | dcn ps => obtain ⟨vs, q1, q2, q3⟩ := q; exact ⟨vs, q1, lowVs_rep q2 (List.all_eq_true.mpr fun x hx => by obtain ⟨p, _, rfl⟩ := List.mem_map.mp hx; rfl), lowVs_rep q3 (by rw [List.all_map]; exact hc)⟩
    | ins c fs => obtain ⟨C, dx, vs, m, q1, q2⟩ := q; exact ⟨C, dx, vs, m, q1, lowFV_rep q2 hc⟩
    | dead => trivial
  · rcases frzF_inv h with h | ⟨z, h⟩
    · exact hS.nt _ _ h
    · obtain ⟨u, q, nn⟩ := hS.tr a (List.mem_of_mem_drop z)
      rw [q] at h; cases h; exact nn
theorem frz_ext {w' : Wd} {H' : Hp} (e : Ext w H w' H') : Ext w H (wFrz w.p.length w' H') H' := by
  obtain ⟨more, hm⟩ := e.pre
  refine ⟨⟨[], ?_⟩, e.fle.trans frzF_hle, e.frame, fun a h => ?_, fun a o h => ?_, e.trk⟩
  · show w'.p.take _ = _
    rw [hm]; simp
  · have h : a ∈ w'.p.take w.p.length := h
    rw [hm, List.take_left] at h
    exact .inl h
  · rcases frzF_inv h with h | ⟨z, _⟩
    · exact e.src _ _ h
    · have z := List.mem_of_mem_drop z
      exact .inr (e.fresh a z)
theorem kKF_sp {W : WX} {s : L2.St} {m : List Vl → Store → Out Vl} {vs : List V} {xs : List Vl} {Q : VK} (hS : RepSt g w H S) (hx : RepVs g w vs xs) (h : SatG g W s w H (RepV g) (kKF m xs S) Q) : spK g m vs H Q (WE W s) := by
  refine ⟨w, S, xs, hS, hx, ?_⟩
  unfold kKF at h
  generalize m xs S = o at h
  cases o with
  | ok x S2 =>
    intro w' H' v e h' r
    by_cases hlow : (S2.take S.length).all (lowC S.length) = true
    · cases hd : rsl (Ax.kill S.length S2) 4 x with
      | some d =>
        simp only [frzO, hlow, if_true, hd] at h
        have hl : S.length ≤ S2.length := by
          obtain ⟨more, hm⟩ := e.pre
          rw [← hS.len, ← h'.len, hm]; simp
        have e1 := frz_ext e
        rw [hS.len] at e1
        exact h _ H' v e1 (frz_st h' hl hlow) (.v (rsl_repF (h'.kill hl) (frzAt h' hl) 4 r hd))
      | none =>
        simp only [frzO, hlow, if_true, hd] at h
        exact h.elim
    · simp only [frzO, if_neg hlow] at h
      exact h.elim
  | exc c fs S2 => exact h
  | stuck => exact h
end
section
variable {X : Cx} {T : List (Addr × Str)} {W : WX} {k : Nat} {f : Addr} {fd : FuncData} {ps : List Str} {x : Str} {p pos : Pos} {e : Expr} {es : List Expr} {ma : AM}
theorem e_callKF {m : List Vl → Store → Out Vl} (F : FnOk X.prog X.w X.K X.mg X.base (L2.CX X.prog X.w) k f fd ps (spK (gX X T) m)) (hr : Room k X.A) (tk : Takes X W) (hm : X.mg x = some (.ref f)) (hk : PySem.W.keepIn X.K (.ref f) = true) (hb : Binds X.K fd ps [])
    (ha : PA X (e :: es) (rdA (gX X T) W ma)) (hg : Gl X x := by rfl) (hdb : (x == ("__debug__" : Str)) = false := by decide) (he : starEach (e :: es) X.env = (false, eval e X.env) :: starEach es X.env := by rfl) (hpl : (backTo pos (starEach es X.env)).any (·.1) = false := by rfl) :
    PE X (.Call (.Name x p) (e :: es) [] pos) (rd (gX X T) W (eCallKF m ma)) := PE_imp (pe_callS F hr hg hm hk hb (fun σ => passAt tk σ) ha hdb he hpl) fun s H Q h =>
  rd_bind (f := fun xs _ S1 => kKF m xs S1) h fun w1 H1 S1 e v x hS hE hx h1 => kKF_sp hS hx h1
theorem ev_KF {m : List Vl → Store → Out Vl} {ra : AM} {e : Sl} {S S1 : Store} {xs : List Vl} {o : Out Vl} (h1 : ra e S = .ok xs S1) (h2 : kKF m xs S1 = o) : eCallKF m ra e S = o := by unfold eCallKF; rw [h1]; exact h2
end
end Ax
/-! Ax21: several defs with lambdas -/
namespace Ax
open PySem PySem.Spec PyProof.Rows L2
section
open LamX
variable {X : Cx} {T : List (Addr × Str)} {W : WX}
theorem e_heardT {x a : Str} {g c Pt : Addr} {k : Nat} {hl : HlT} {hs : List (Str × Str)} {Ng : List Str} {params : Arguments} {body : Expr} {scope : Scope} {mb : EM} {p lpos pos : Pos} (Hd : HeardOk X x a g hl Ng) (hhs : hs = hl.map fun t => (t.1, t.2.1)) (hr : Room (k + 2) X.A) (hm : X.mg x = some (.ref g)) (hk : PySem.W.keepIn X.K (.ref g) = true)
    (TB : TabB X.base X.mg c Pt) (hT1 : (Pt, X.env.qual ++ "<lambda>") ∈ T) (hT2 : ∀ p ∈ T, p.1 = Pt → p = (Pt, X.env.qual ++ "<lambda>")) (hcode : X.env.code = .ref c) (L : LamS X.env.scope scope) (hdef : defaultsOf params X.env = ([], []))
    (hbind : ∀ (q : Str) (cl : List (Str × Addr)) (pm cv ctv : Value), bindArgs (PySem.W.kla_fn "<lambda>" q params body scope cl pm cv ctv) ⟨[], []⟩ = pure [])
    (hbody : ∀ (A : Around) (outer : List Env) (s : Shared) (H : Hp) (E : XK) (f c' : Addr), Room k (A.deeper (lamEnv X scope s.heap.objs.size f c')) → PE (lamCx X A outer s H E scope f c') body (rd (gX X T) (Wdef E) mb)) (hg : Gl X x := by rfl)
    (hdb : (x == ("__debug__" : Str)) = false := by decide) (hd : (a == ("__debug__" : Str)) = false := by decide) (hcd : (a == ("__classdict__" : Str)) = false := by decide) :
    PE X (.Call (.Name x p) [.Lambda params body scope lpos] [] pos) (rd (gX X T) W (eHeard hs mb)) := by
  obtain ⟨pg, bg, sg, dV, kV, doc, pm, cdv, ct, oc, an, od, osl, lk, hcg, hb, Sg, hNg, hva, hG⟩ := Hd.ex
  exact PE_imp (pe_lamcall3 (t := fun E => rd (gX X T) (Wdef E) mb) hg hm hk lk hcg hb Sg hNg hva (hG _) TB hcode hT1 (fun p hp e => by rw [hT2 p hp e]) hr L hdef hbind hbody hdb hd hcd) (heard_rd Hd.m hhs)
end
/-- tables at unlike places -/
def dtB (L : List (Addr × Str)) : Bool := L.all fun p => L.all fun r => !(p.1 == r.1) || decide (p = r)
theorem dtB_ok {L : List (Addr × Str)} (h : dtB L = true) {r : Addr × Str} (hr : r ∈ L) : ∀ p ∈ L, p.1 = r.1 → p = r := fun p hp e => by
  have q := List.all_eq_true.mp (List.all_eq_true.mp h p hp) r hr
  rw [e] at q
  simpa using q
end Ax
/-! Ax22: a comprehension over the keys of a dict -/
namespace Ax
open PySem PySem.Spec PyProof.Rows L2
def fixW : HO → Prop
  | .frz _ (.tup _) => True
  | .frz _ _ => False
  | .dK _ => False
  | .dT _ => False
  | _ => True
/-- what values need of a change of the frozen part -/
structure HLw (F F' : Hp) : Prop where
  rd : ∀ a u, plainHO u → Rd F a u → Rd F' a u
  st : ∀ a o, fixW o → F a = some o → F' a = some o
theorem sqT_lw {K : PySem.W.Frag} {F F' : Hp} (l : HLw F F') {a : Addr} {vs : List V} (h : SqT K F a vs) : SqT K F' a vs := by
  rcases h with h | h
  · exact .inl (l.rd _ _ trivial h)
  · exact .inr h
theorem sqTA_lw {K : PySem.W.Frag} {F F' : Hp} (l : HLw F F') {a : Addr} {vs : List V} (h : SqTA K F a vs) : SqTA K F' a vs := by
  rcases h with ⟨o, h, d⟩ | h
  · exact .inl ⟨o, l.st _ _ trivial h, d⟩
  · exact .inr h
theorem sqL_lw {K : PySem.W.Frag} {F F' : Hp} (l : HLw F F') {a : Addr} {vs : List V} (h : SqL K F a vs) : SqL K F' a vs := by
  rcases h with h | h
  · exact .inl (l.rd _ _ trivial h)
  · exact .inr h
mutual
theorem Rep.lw {g : G} {F F' : Hp} (l : HLw F F') : ∀ {v : V} {d : D}, Rep g F v d → Rep g F' v d
  | _, _, .non => .non
  | _, _, .bl b => .bl b
  | _, _, .int i => .int i
  | _, _, .str x => .str x
  | _, _, .ty n => .ty n
  | _, _, .fn h => .fn h
  | _, _, .tup h r => .tup (sqTA_lw l h) (RepAll.lw l r)
  | _, _, .ptp h r => .ptp (sqT_lw l h) (RepAll.lw l r)
  | _, _, .lst h r => .lst (l.st _ _ trivial h) (RepAll.lw l r)
  | _, _, .scr h r => .scr (sqL_lw l h) (RepAll.lw l r)
  | _, _, .dK h r => .dK (l.rd _ _ trivial h) (RepK.lw l r)
  | _, _, .ins m h r => .ins m (l.st _ _ trivial h) (RepF.lw l r)
theorem RepAll.lw {g : G} {F F' : Hp} (l : HLw F F') : ∀ {vs : List V} {ds : List D}, RepAll g F vs ds → RepAll g F' vs ds
  | _, _, .nil => .nil
  | _, _, .cons h r => .cons (Rep.lw l h) (RepAll.lw l r)
theorem RepK.lw {g : G} {F F' : Hp} (l : HLw F F') : ∀ {vs : List (Key × V)} {ds : List (D × D)}, RepK g F vs ds → RepK g F' vs ds
  | _, _, .nil => .nil
  | _, _, .cons h r => .cons (Rep.lw l h) (RepK.lw l r)
theorem RepF.lw {g : G} {F F' : Hp} (l : HLw F F') : ∀ {vs : List (Str × V)} {ds : List (Str × D)}, RepF g F vs ds → RepF g F' vs ds
  | _, _, .nil => .nil
  | _, _, .cons h r => .cons (Rep.lw l h) (RepF.lw l r)
end
section
variable {g : G} {w : Wd} {F' H : Hp} {S : Store}
theorem RepV.lw (l : HLw w.F F') {v : V} {x : Vl} (h : RepV g w v x) : RepV g ⟨w.p, F'⟩ v x := by
  cases h with
  | v h => exact .v (h.lw l)
  | r h => exact .r h
theorem RepVs.lw (l : HLw w.F F') : ∀ {vs : List V} {xs : List Vl}, RepVs g w vs xs → RepVs g ⟨w.p, F'⟩ vs xs
  | _, _, .nil => .nil
  | _, _, .cons h r => .cons (h.lw l) (RepVs.lw l r)
theorem RepKV.lw (l : HLw w.F F') : ∀ {vs : List (Key × V)} {xs : List (D × Vl)}, RepKV g w vs xs → RepKV g ⟨w.p, F'⟩ vs xs
  | _, _, .nil => .nil
  | _, _, .cons h r => .cons (h.lw l) (RepKV.lw l r)
theorem RepFV.lw (l : HLw w.F F') : ∀ {vs : List (Str × V)} {xs : List (Str × Vl)}, RepFV g w vs xs → RepFV g ⟨w.p, F'⟩ vs xs
  | _, _, .nil => .nil
  | _, _, .cons h r => .cons (h.lw l) (RepFV.lw l r)
theorem RepSl.lw (l : HLw w.F F') {s : L2.St} {e : Sl} (h : RepSl g w s e) : RepSl g ⟨w.p, F'⟩ s e :=
  ⟨h.len, fun i x q => let ⟨v, a, b⟩ := h.at_ i x q; ⟨v, a, b.lw l⟩⟩
/-- a known thing is seen in another way -/
theorem swap_st (hS : RepSt g w H S) {d : Addr} {o0 o1 : HO} (h0 : w.F d = some o0) (l : HLw w.F (upd w.F d o1)) (n0 : noTbl o0) (c0 : ∀ q c, o0 ≠ LamX.CodeO c q) (n1 : noTbl o1) : RepSt g ⟨w.p, upd w.F d o1⟩ (upd H d o1) S := by
  have hd := hS.le _ _ h0
  have live : ∀ (n : Nat) (a : Addr) (c : Cel), w.p[n]? = some a → S[n]? = some c → c ≠ .dead → a ≠ d := fun n a c e1 e2 nd z => by
    have := hS.out n a c e1 e2 nd
    rw [z, h0] at this; cases this
  refine ⟨hS.len, hS.nd, fun a o h => ?_, fun n a c e1 e2 nd => ?_, fun n a c e1 e2 => ?_, tabs_upd hS.tabs (.inr ⟨hd, n0, c0⟩), fun a ha => ?_, fun a o h => ?_⟩
  · have h : upd w.F d o1 a = some o := h
    by_cases e : a = d
    · rw [e, upd_same] at h ⊢; exact h
    · rw [upd_ne e] at h ⊢; exact hS.le _ _ h
  · show upd w.F d o1 a = none
    rw [upd_ne (live n a c e1 e2 nd)]
    exact hS.out n a c e1 e2 nd
  · by_cases nd : c = .dead
    · subst nd; trivial
    have ne := live n a c e1 e2 nd
    have q := hS.cel n a c e1 e2
    cases c with
    | lst xs => obtain ⟨vs, q1, q2⟩ := q; exact ⟨vs, by rw [upd_ne ne]; exact q1, q2.lw l⟩
    | dct ps => obtain ⟨vs, q1, q2⟩ := q; exact ⟨vs, by rw [upd_ne ne]; exact q1, q2.lw l⟩
    | dcn ps => obtain ⟨vs, q1, q2, q3⟩ := q; exact ⟨vs, by rw [upd_ne ne]; exact q1, q2.lw l, q3.lw l⟩
    | ins c fs => obtain ⟨C, dx, vs, m, q1, q2⟩ := q; exact ⟨C, dx, vs, m, by rw [upd_ne ne]; exact q1, q2.lw l⟩
    | dead => trivial
  · obtain ⟨u, e, n⟩ := hS.tr a ha
    by_cases z : a = d
    · exact ⟨o1, by rw [z]; exact upd_same, n1⟩
    · exact ⟨u, by rw [upd_ne z]; exact e, n⟩
  · have h : upd w.F d o1 a = some o := h
    by_cases z : a = d
    · rw [z, upd_same] at h; cases h; exact n1
    · rw [upd_ne z] at h; exact hS.nt _ _ h
theorem lock_lw {F : Hp} {d : Addr} {od : Obj} {kvs : List (Key × V)} (h : F d = some (.dK kvs)) : HLw F (upd F d (.frz od (.dK kvs))) := by
  refine ⟨fun a u p r => ?_, fun a o f e => ?_⟩
  · by_cases z : a = d
    · subst z
      rcases r with r | ⟨o, r⟩
      · rw [h] at r; cases r; exact .inr ⟨od, upd_same⟩
      · rw [h] at r; cases r
    · unfold Rd; rw [upd_ne z]; exact r
  · by_cases z : a = d
    · subst z; rw [h] at e; cases e; exact f.elim
    · rw [upd_ne z]; exact e
theorem unlock_lw {F : Hp} {d : Addr} {od : Obj} {kvs : List (Key × V)} (h : F d = some (.frz od (.dK kvs))) : HLw F (upd F d (.dK kvs)) := by
  refine ⟨fun a u p r => ?_, fun a o f e => ?_⟩
  · by_cases z : a = d
    · subst z
      rcases r with r | ⟨o, r⟩
      · rw [h] at r; cases r; exact p.elim
      · rw [h] at r; cases r; exact .inl upd_same
    · unfold Rd; rw [upd_ne z]; exact r
  · by_cases z : a = d
    · subst z; rw [h] at e; cases e; exact f.elim
    · rw [upd_ne z]; exact e
theorem unlock_ext {w3 : Wd} {H3 : Hp} {d : Addr} {od : Obj} {kvs : List (Key × V)} (hS : RepSt g w H S) (h0 : w.F d = some (.dK kvs)) (e : Ext ⟨w.p, upd w.F d (.frz od (.dK kvs))⟩ (upd H d (.frz od (.dK kvs))) w3 H3) :
    Ext w H ⟨w3.p, upd w3.F d (.dK kvs)⟩ (upd H3 d (.dK kvs)) := by
  have hd := hS.le _ _ h0
  have back : ∀ a, upd H d (.frz od (.dK kvs)) a = none → H a = none := fun a h => by
    by_cases z : a = d
    · rw [z, upd_same] at h; cases h
    · rwa [upd_ne z] at h
  refine ⟨e.pre, ⟨fun a u p r => ?_, fun a o f q => ?_⟩, fun a o h n t => ?_, fun a h => ?_, fun a o h => ?_, fun a o h => ?_⟩
  · by_cases z : a = d
    · subst z
      rcases r with r | ⟨o, r⟩
      · rw [h0] at r; cases r; exact .inl upd_same
      · rw [h0] at r; cases r
    · have r' : Rd (upd w.F d (.frz od (.dK kvs))) a u := by unfold Rd; rw [upd_ne z]; exact r
      have := e.fle.rd a u p r'
      unfold Rd at this ⊢
      show upd w3.F d (.dK kvs) a = _ ∨ ∃ o, upd w3.F d (.dK kvs) a = _
      rw [upd_ne z]; exact this
  · by_cases z : a = d
    · subst z; rw [h0] at q; cases q; exact f.elim
    · have q' : upd w.F d (.frz od (.dK kvs)) a = some o := by rw [upd_ne z]; exact q
      have := e.fle.st a o f q'
      show upd w3.F d (.dK kvs) a = _
      rw [upd_ne z]; exact this
  · by_cases z : a = d
    · rw [z, hd] at h; cases h; rw [z]; exact upd_same
    · rw [upd_ne z]
      exact e.frame a o (by rw [upd_ne z]; exact h) n t
  · rcases e.fresh a h with q | q
    · exact .inl q
    · exact .inr (back a q)
  · have h : upd w3.F d (.dK kvs) a = some o := h
    by_cases z : a = d
    · exact .inl ⟨_, by rw [z]; exact h0⟩
    · rw [upd_ne z] at h
      rcases e.src a o h with ⟨o', q⟩ | q | q
      · have q : upd w.F d (.frz od (.dK kvs)) a = some o' := q
        rw [upd_ne z] at q; exact .inl ⟨o', q⟩
      · exact .inr (.inl q)
      · exact .inr (.inr (back a q))
  · by_cases z : a = d
    · rw [z, hd] at h; cases h
      exact ⟨.dK kvs, by rw [z]; exact upd_same, fun _ => trivial⟩
    · obtain ⟨o', q1, q2⟩ := e.trk a o (by rw [upd_ne z]; exact h)
      exact ⟨o', by rw [upd_ne z]; exact q1, q2⟩
theorem repK_keys {F : Hp} : ∀ {kvs : List (Key × V)} {ps : List (D × D)}, RepK g F kvs ps → kvs.length = ps.length ∧ ∀ (i : Nat) (p : D × D), ps[i]? = some p → ∃ k v, kvs[i]? = some (k, v) ∧ p.1 = keyD k
  | _, _, .nil => ⟨rfl, fun i p h => by simp at h⟩
  | _, _, .cons (k := k) (v := v) h r => by
    have ih := repK_keys r
    refine ⟨by simp [ih.1], fun i p hi => ?_⟩
    cases i with
    | zero => simp at hi; subst hi; exact ⟨k, v, rfl, rfl⟩
    | succ i => exact ih.2 i p (by simpa using hi)
theorem itOk_keys {d : Addr} {od : Obj} {kvs : List (Key × V)} {ps : List (D × D)} (q : w.F d = some (.frz od (.dK kvs))) (r : RepK g w.F kvs ps) : ItOk g w (Itk d od kvs) (ps.map fun p => .v p.1) := by
  intro w1 H1 S1 le hS i
  have q1 : H1 d = some (.frz od (.dK kvs)) := hS.le _ _ (le.fle.st _ _ trivial q)
  obtain ⟨hl, ka⟩ := repK_keys r
  refine ⟨fun x hx => ?_, fun hi => ?_⟩
  · rw [List.getElem?_map] at hx
    obtain ⟨p, h1, h2⟩ := Option.map_eq_some_iff.mp hx
    obtain ⟨k, v, hk, ek⟩ := ka i p h1
    have hi : i < kvs.length := (List.getElem?_eq_some_iff.mp hk).1
    refine ⟨⟨q1, hi⟩, fun v' H2 ⟨e1, k', v2, e2, e3⟩ => ⟨w1, by rw [e1]; exact Ext.refl _ _, by rw [e1]; exact hS, ?_⟩⟩
    rw [hk] at e2; cases e2
    rw [e3, ← h2, ek]
    cases k with
    | inl i => exact .v (.int i)
    | inr x => exact .v (.str x)
  · rw [List.length_map] at hi
    exact ⟨q1, by omega⟩
end
def okOnly {α : Type} : Out α → Out α
  | .ok x S => .ok x S
  | _ => .stuck
def eLcD (k : List Vl → Store → Out Vl) (i : Nat) (t : TgM) (ts : TM) (el : EM) (own : List Nat) : EM := fun e S => match e[i]? with
  | some (some (.v (.dct ps))) => okOnly ((lcGo t ts el (ps.map fun p => Vl.v p.1) (fgt own e) S []).bind k)
  | _ => eLcX k (iSeq (eVar i)) t ts el own e S
section
variable {g : G} {W : WX}
theorem lc_turns {k : List Vl → Store → Out Vl} (hk : TakesList g W k) {t : TgM} {ts : TM} {el : EM} {own is : List Nat} (hio : ∀ i ∈ is, i ∈ own) {w0 : Wd} {H0 : Hp} {S0 : Store} {e0 : Sl} {s : L2.St} {J : It} {xs : List Vl} {Q : VK} (hS0 : RepSt g w0 H0 S0) (hE0 : RepSl g w0 s e0) (hJ : ItOk g w0 J xs)
    (h0 : SatG g W s w0 H0 (RepV g) ((lcGo t ts el xs (fgt own e0) S0 []).bind k) Q) : tLc (fun _ H R => R J H) (rdTg g t is) (rdT g W0 ts) (rd g W0 el) own s H0 Q := by
  intro D hD
  refine ⟨fun i m H => ∃ w1 S1 acc vs, m = xs.length - i ∧ i ≤ xs.length ∧ H D = some (.lst vs) ∧ RepVs g w1 vs acc ∧ RepSt g w1 (hid H D) S1 ∧ Ext w0 H0 w1 (hid H D) ∧ SatG g W s w1 (hid H D) (RepV g) ((lcGo t ts el (xs.drop i) (fgt own e0) S1 acc).bind k) Q,
    ⟨xs.length, w0, S0, [], [], by simp, Nat.zero_le _, upd_same, .nil, ?_⟩, ?_⟩
  · have e : hid (upd H0 D (.lst [])) D = H0 := by
      rw [hid_upd]
      funext b
      by_cases hb : b = D
      · subst hb; rw [hid_same, hD]
      · rw [hid_ne hb]
    rw [e]
    exact ⟨hS0, Ext.refl _ _, h0⟩
  rintro i m H ⟨w1, S1, acc, vs, rfl, hi, hHD, rvs, hS1, ex1, h1⟩
  have hDn : hid H D D = none := hid_same
  have hH : upd (hid H D) D (.lst vs) = H := upd_hid hHD
  have lstOk : noTbl (.lst vs) ∧ ∀ q c, HO.lst vs ≠ LamX.CodeO c q := ⟨trivial, fun q c z => by unfold LamX.CodeO at z; cases z⟩
  by_cases hlt : i < xs.length
  · rw [List.drop_eq_getElem_cons hlt] at h1
    obtain ⟨hS1', ex1'⟩ := new_hid hS1 hDn (.lst vs)
    rw [hH] at hS1' ex1'
    obtain ⟨go, yl⟩ := (hJ w1 H S1 ex1.wle hS1' i).1 xs[i] (List.getElem?_eq_getElem hlt)
    refine .inr ⟨go, fun H' => ∃ w2 S2 acc vs, H' D = some (.lst vs) ∧ RepVs g w2 vs acc ∧ RepSt g w2 (hid H' D) S2 ∧ Ext w0 H0 w2 (hid H' D) ∧ SatG g W s w2 (hid H' D) (RepV g) ((lcGo t ts el (xs.drop (i + 1)) (fgt own e0) S2 acc).bind k) Q,
      fun H' ⟨w2, S2, acc, vs, q⟩ => ⟨xs.length - (i + 1), by omega, w2, S2, acc, vs, rfl, hlt, q⟩, fun v H2 y => ?_⟩
    obtain ⟨w2, ex2, hS2, hx⟩ := yl v H2 y
    refine ⟨w2, fgt own e0, S1, xs[i], hS2, (hE0.wipe own).le (WLe.mk ?_ ?_), hx, ?_⟩
    · obtain ⟨m1, z1⟩ := ex1.pre
      obtain ⟨m2, z2⟩ := ex2.pre
      exact ⟨m1 ++ m2, by rw [z2, z1, List.append_assoc]⟩
    · exact ex1.fle.trans ex2.fle
    · unfold lcGo at h1
      cases hq : t xs[i] (fgt own e0) with
      | none => rw [hq] at h1; exact h1.elim
      | some e1 =>
        rw [hq] at h1
        simp only at h1 ⊢
        intro w3 H3 s3 ex3 hS3 hE3 sb3
        refine ⟨by rw [(sb3.mono hio).wipe, wipe_wipe], w3, e1, S1, hS3, hE3, ?_⟩
        have ex13 : Ext w1 (upd (hid H D) D (.lst vs)) w3 H3 := by rw [hH]; exact ex2.trans ex3
        cases hts : ts e1 S1 with
        | stuck => rw [hts] at h1; exact h1.elim
        | exc c fs S' => rw [hts] at h1; exact h1.elim
        | ok b S2 =>
          rw [hts] at h1
          intro w4 H4 b' ex4 hS4 hb
          subst hb
          have ex14 := ex13.trans ex4
          cases b' with
          | false =>
            rw [if_neg Bool.false_ne_true]
            obtain ⟨a1, a2, a3⟩ := unhide hDn lstOk hS1 ex14 hS4
            exact ⟨w4, S2, acc, vs, a3, rvs.le a2.wle, a1, ex1.trans a2, SatG.ext h1 a2⟩
          | true =>
            rw [if_pos rfl]
            simp only at h1
            refine ⟨w4, e1, S2, hS4, hE3.le ex4.wle, ?_⟩
            cases hel : el e1 S2 with
            | stuck => rw [hel] at h1; exact h1.elim
            | exc c fs S' => rw [hel] at h1; exact h1.elim
            | ok y S3 =>
              rw [hel] at h1
              intro w5 H5 u ex5 hS5 hu
              have ex15 := ex14.trans ex5
              obtain ⟨a1, a2, a3⟩ := unhide hDn lstOk hS1 ex15 hS5
              simp only at h1
              split at h1
              · rename_i hl
                refine ⟨vs, a3, by rw [rvs.len]; exact line_lt hl, w5, S3, acc ++ [y], vs ++ [u], upd_same, (rvs.le a2.wle).append (.cons hu .nil), ?_⟩
                rw [hid_upd]
                exact ⟨a1, ex1.trans a2, SatG.ext h1 a2⟩
              · exact h1.elim
  · have e : i = xs.length := by omega
    subst e
    rw [List.drop_length] at h1
    obtain ⟨hS1', ex1'⟩ := new_hid hS1 hDn (.lst vs)
    rw [hH] at hS1' ex1'
    refine .inl ⟨(hJ w1 H S1 ex1.wle hS1' _).2 rfl, ?_⟩
    have q := hk hS1 rvs (show SatG g W s w1 (hid H D) (RepV g) (k acc S1) Q from h1) D hDn
    rw [hH] at q
    exact q
end
section
variable {X : Cx} {T : List (Addr × Str)} {W : WX} {elt tg : Expr} {ifs : List Expr} {scope : Scope} {own : List (Str × Nat)} {pos p : Pos} {x : Str} {i : Nat} {t : TgM} {is : List Nat} {ts : TM} {el : EM} {k : List Vl → Store → Out Vl}
theorem e_lcD (hk : TakesList (gX X T) W k) (hc : X.calm = true) (hN : X.N.Nodup) (ok : BlkOk X.N X.env.scope scope own)
    (hg : ∀ (s : Shared) (H : Hp) (C : Addr) (cl : List (Str × Addr)) (fp : List Addr), PG (X.blk s H scope (compEnvC scope cl C X.env) fp) tg (rdTg (gX X T) t is)) (ht : ∀ (s : Shared) (H : Hp) (C : Addr) (cl : List (Str × Addr)) (fp : List Addr), PTs (X.blk s H scope (compEnvC scope cl C X.env) fp) ifs (rdT (gX X T) W0 ts))
    (he : ∀ (s : Shared) (H : Hp) (C : Addr) (cl : List (Str × Addr)) (fp : List Addr), PE (X.blk s H scope (compEnvC scope cl C X.env) fp) elt (rd (gX X T) W0 el)) (hx : X.N[i]? = some x := by rfl) (hv : Vis X.env.scope x := by first | exact Or.inl rfl | exact Or.inr (Or.inl rfl) | exact Or.inr (Or.inr rfl)) (hd : (x == ("__debug__" : Str)) = false := by decide)
    (hcd : (x == ("__classdict__" : Str)) = false := by decide) (hio : ∀ i ∈ is, i ∈ own.map (·.2) := by decide) (hs : ∀ y, foldedSetIterable (.Name x p) X.env y = pure y := by intro _; rfl) :
    PE X (.ListComp elt [⟨tg, .Name x p, ifs, 0⟩] scope pos) (rd (gX X T) W (eLcD k i t ts el (own.map (·.2)))) := by
  have P0 : PE X (.ListComp elt [⟨tg, .Name x p, ifs, 0⟩] scope pos) (rd (gX X T) W (eLcX k (iSeq (eVar i)) t ts el (own.map (·.2)))) := e_lcX hk hc hN (i_seq (e_var hx hv hd hcd)) ok hg ht he hio hs
  have P1 := pe_lc hc hN (pi_keys (tg := tg) (pe_var hx hv hd hcd)) ok hg ht he hs (pos := pos)
  have P2 := pe_lock P1
  refine ⟨fun pins s σ H Q I h => ?_⟩
  obtain ⟨w, e, S, hS, hE, h⟩ := h
  unfold eLcD at h
  split at h
  · rename_i ps hps
    obtain ⟨v, hv1, hv2⟩ := hE.at_ _ _ hps
    cases hv2 with
    | v hv2 =>
    cases hv2 with
    | @dK a kvs ps' hR hK =>
    generalize ho : (lcGo t ts el (ps.map fun p => Vl.v p.1) (fgt (own.map (·.2)) e) S []).bind k = o at h
    cases o with
    | exc c fs S2 => exact h.elim
    | stuck => exact h.elim
    | ok y S2 =>
    have h : ∀ w' H' v, Ext w H w' H' → RepSt (gX X T) w' H' S2 → RepV (gX X T) w' v y → Q v H' := h
    rcases hR with hR | ⟨od, hR⟩
    · refine P2.run pins s σ H Q I ⟨a, .dK kvs, hS.le _ _ hR, trivial, fun od => ?_⟩
      have lw := lock_lw (od := od) hR
      have hS' := swap_st hS hR lw trivial (fun q c z => by unfold LamX.CodeO at z; cases z) trivial
      have hF : upd w.F a (.frz od (.dK kvs)) a = some (.frz od (.dK kvs)) := upd_same
      refine ⟨.ref a, hv1, a, od, rfl, .inl ⟨kvs, upd_same, ?_⟩⟩
      show tLc (fun _ H R => R (Itk a od kvs) H) (rdTg (gX X T) t is) (rdT (gX X T) W0 ts) (rd (gX X T) W0 el) (own.map (·.2)) σ (upd H a (.frz od (.dK kvs))) (fun v H' => H' a = some (.frz od (.dK kvs)) ∧ Q v (upd H' a (.dK kvs)))
      refine lc_turns hk hio hS' (hE.lw lw) (itOk_keys (w := ⟨w.p, upd w.F a (.frz od (.dK kvs))⟩) hF (hK.lw lw)) ?_
      rw [ho]
      intro w3 H3 v3 ex3 hS3 hr3
      have f3 : w3.F a = some (.frz od (.dK kvs)) := ex3.fle.st _ _ trivial hF
      refine ⟨hS3.le _ _ f3, h _ _ _ (unlock_ext hS hR ex3) (swap_st hS3 f3 (unlock_lw f3) trivial (fun q c z => by unfold LamX.CodeO at z; cases z) trivial) (hr3.lw (unlock_lw f3))⟩
    · refine P1.run pins s σ H Q I ⟨.ref a, hv1, a, od, rfl, .inl ⟨kvs, hS.le _ _ hR, ?_⟩⟩
      show tLc (fun _ H R => R (Itk a od kvs) H) (rdTg (gX X T) t is) (rdT (gX X T) W0 ts) (rd (gX X T) W0 el) (own.map (·.2)) σ H Q
      refine lc_turns hk hio hS hE (itOk_keys hR hK) ?_
      rw [ho]
      exact h
  · exact P0.run pins s σ H Q I ⟨w, e, S, hS, hE, h⟩
end
end Ax
/-! Ax23: sums of tuples -/
namespace Ax
open PySem PySem.Spec PyProof.Rows L2
section
variable {prog : Program} {w : World} {A : Around} {E : Value → Shared → Prop} {s : Shared} {l : Addr} {its : List Value} {ns : List Int} {Q : Value → Shared → Prop}
theorem sum_tup (hh : A.handled = none) (hl : s.heap.IsTuple l its.toArray) (hi : IntsAre its ns)
    (h : ∀ h' tk t', (∀ b o, s.heap.get? b = some o → h'.get? b = some o) → Q (.int ns.sum t') { s with heap := h', toks := tk }) : wpAny (model prog w) A (call (.builtin "sum") [.ref l]) Q E s := by
  obtain ⟨xs, e⟩ := hi.allInts.items
  have hn : numsOf (intItems xs).toList = ns := by rw [← e]; exact hi.numsOf
  rw [nums_intItems] at hn
  rw [e] at hl
  have hlt : l < s.heap.objs.size := by obtain ⟨_, e, _⟩ := hl; exact Heap.lt_size e
  refine call_sum_walkG (wpAny_pyIter_tuple hl ?_)
  refine ⟨s.heap.objs.size, _, _, _, _, _, numAt xs, rfl, Walks.tuple (A := A.in1) hh _ l (Nat.ne_of_lt hlt) (intItems xs), ⟨⟨_, Heap.get?_push_size _ rfl, rfl, rfl⟩, hl.push _⟩, fun b hb => ?_, (fun _ _ => intItems_at), fun h' tk t' hk => ?_⟩
  · show b < (s.heap.push _).objs.size
    rw [Heap.size_push]
    rcases List.mem_cons.mp hb with rfl | hb
    · exact Nat.lt_succ_self _
    · rcases List.mem_cons.mp hb with rfl | hb
      · exact Nat.lt_succ_of_lt hlt
      · cases hb
  · have := h h' tk t' fun b o eo => hk b o (fun hm => by
      rcases List.mem_cons.mp hm with e1 | hm
      · exact absurd (e1 ▸ Heap.lt_size eo) (Nat.lt_irrefl _)
      · cases hm) (Heap.get?_push_of_some _ eo)
    rw [preSum_eq, List.take_of_length_le (by simp [intItems]), hn]
    exact this
end
section
variable {X : Cx} {g : G} {W : WX}
def rSumA (K : PySem.W.Frag) : List V → Hp → VK → Prop := fun vs H Q => rSum K vs H Q ∨ ∃ (a : Addr) (ns : List Int), vs = [V.ref a] ∧ SqT K H a (ns.map V.int) ∧ Q (.int ns.sum) H
theorem cr_sumA (hc : X.calm = true) : CallR X (.builtin "sum") (rSumA X.K) := by
  intro pins s σ H vs us Q I r h
  rcases h with h | ⟨a, ns, rfl, hs, q⟩
  · exact cr_sum hc pins s σ H vs us Q I r h
  · obtain ⟨its, rv, hl, _⟩ := I.tuple hs
    rw [Vals.ref1 r]
    exact sum_tup (I.ok.hd hc) hl rv.ints fun h' tk t' hk => ⟨.int _, H, I.kept hk, ⟨_, rfl⟩, q⟩
def fSumA (xs : List Vl) (S : Store) : Out Vl := match xs with
  | [.v (.tup ds)] => match vInts (ds.map .v) with
    | some ns => .ok (.v (.int ns.sum)) S
    | none => .stuck
  | _ => fSum xs S
theorem fSumA_of : CalD g W fSumA (rSumA g.K) := by
  intro s w H S vs xs Q hS hx h
  unfold fSumA at h
  split at h
  · cases hx with
    | cons h1 hx =>
      cases hx
      cases h1 with
      | v h1 =>
      cases h1 with
      | tup q r =>
      split at h
      · rename_i ns hn
        have r' := RepAll.vs (w := w) r
        rw [ints_rep r' hn] at q
        exact .inr ⟨_, ns, rfl, sqT_le hS.hle q.sq, h w H _ (Ext.refl _ _) hS (.v (.int _))⟩
      · exact h.elim
  · exact .inl (fSum_of s w H S vs xs Q hS hx h)
end
end Ax
/-! Ax24: list.pop(i), two places set at once -/
namespace Ax
open PySem PySem.Spec PyProof.Rows L2

def rPop : V → List V → Hp → VK → Prop := fun x vs H Q => ∃ l xs i k y, x = .ref l ∧ vs = [.int i] ∧ H l = some (.lst xs) ∧ atI xs i = some y ∧ ixN xs.length i = some k ∧ Q y (upd H l (.lst (xs.eraseIdx k)))
theorem mt_pop {X : Cx} : MtR X "list.pop" rPop := by
  intro pins s σ H x vs v us Q I rx rv h
  obtain ⟨l, xs, i, k, y, rfl, rfl, hH, ha, hk, q⟩ := h
  cases rx
  obtain ⟨u, rfl, ru⟩ := rv.one
  obtain ⟨tk, rfl⟩ := ru
  obtain ⟨z, its, n, r, hl, e⟩ := I.lstM hH
  obtain ⟨h1, h2, h3, h4⟩ := ixN_seq hk
  have hy : xs[k]? = some y := by
    unfold atI at ha
    rw [hk] at ha
    exact ha
  obtain ⟨yv, e1, ry⟩ := r.get hy
  have hfit : Builtin.List.listFitsIndex i = true := by
    have hz : sizeLine ≤ 2 ^ 40 := by decide
    unfold Builtin.List.listFitsIndex
    rw [Bool.and_eq_true, decide_eq_true_eq, decide_eq_true_eq]
    omega
  refine call_meets PySem.F.slot_list_pop ⟨_, e, rfl⟩ PySem.F.entry_list_pop (PySem.F.args_list_pop_2 _ _) (PySem.MeetsSeq.list_pop_at l its.toArray n i _ k yv hfit (by rw [List.size_toArray, ← hl]; exact h1) (by simpa using e1) (by rw [List.size_toArray]; omega)) ⟨e, ?_⟩
  refine ⟨y, _, I.lset (its' := its.eraseIdx k) hH e ?_ (r.eraseIdx k) ?_, ry, q⟩
  · unfold Array.eraseIdxIfInBounds
    rw [dif_pos (by rw [List.size_toArray]; omega)]
    apply Array.toList_inj.mp
    rw [Array.toList_eraseIdx]
  · rw [List.length_eraseIdx]
    split <;> omega
theorem RepVs.eraseIdx {g : G} {w : Wd} : ∀ {vs : List V} {xs : List Vl} (n : Nat), RepVs g w vs xs → RepVs g w (vs.eraseIdx n) (xs.eraseIdx n)
  | _, _, _, .nil => .nil
  | _, _, 0, .cons _ t => t
  | _, _, n + 1, .cons r t => .cons r (RepVs.eraseIdx n t)
def fPop (x : Vl) (xs : List Vl) (S : Store) : Out Vl := match x, xs with
  | .r n, [.v (.int i)] => match S[n]? with
    | some (.lst zs) => match atI zs i, ixN zs.length i with
      | some y, some k => .ok y (S.set n (.lst (zs.eraseIdx k)))
      | _, _ => .stuck
    | _ => .stuck
  | _, _ => .stuck
theorem fPop_of {g : G} {W : WX} : MtD g W fPop rPop := by
  intro s w H S v vs x xs Q hS hx hxs h
  unfold fPop at h
  split at h
  · rename_i n i
    cases hxs with
    | cons hy hxs =>
      cases hxs
      cases hy with
      | v hy =>
        cases hy
        cases hx with
        | r hx =>
          split at h
          · rename_i zs hz
            split at h
            · rename_i y k h1 h2
              obtain ⟨us, q, r⟩ := hS.cel _ _ _ hx hz
              obtain ⟨j, e1, e2⟩ := atI_len r.len h1
              obtain ⟨v0, e3, e4⟩ := r.at e1
              obtain ⟨a1, a2⟩ := set_cel hS hx hz (by intro z; cases z) (.lst (us.eraseIdx k)) q trivial (c := .lst (zs.eraseIdx k)) ⟨_, upd_same, r.eraseIdx k⟩
              refine ⟨_, us, i, k, v0, rfl, rfl, q, e2 _ e3, by rw [r.len]; exact h2, ?_⟩
              exact h w _ _ a2 a1 (e4.le a2.wle)
            · exact h.elim
          · exact h.elim
  · exact h.elim

/-! a[i], b[j] = x, y -/
def sIx2 (mo mi mo' mi' : EM) (m : AM) : SM := fun e S => (m e S).toS e fun xs S1 => match xs with
  | [x, y] => (mo e S1).toS e fun o S2 => (mi e S2).toS e fun i S3 => match fSetI o i x S3 with
    | some S4 => (mo' e S4).toS e fun o' S5 => (mi' e S5).toS e fun i' S6 => match fSetI o' i' y S6 with
      | some S7 => .go (.nx e) S7
      | none => .stuck
    | none => .stuck
  | _ => .stuck
theorem s_ix2 {X : Cx} {T : List (Addr × Str)} {W : WX} {a b o i o' i' : Expr} {pt p2 pos tp tp' : Pos} {kt k2 : Nat} {mo mi mo' mi' : EM} {ma : AM} (hu : X.A.units + 1 < cLine) (ha : PA X [a, b] (rdA (gX X T) W ma)) (ho : PE X o (rd (gX X T) W mo)) (hi : PE X i (rd (gX X T) W mi)) (ho' : PE X o' (rd (gX X T) W mo')) (hi' : PE X i' (rd (gX X T) W mi')) (hc : X.calm = true)
    (hq : ∀ v, assign (.Subscript o i tp) X.env v = (do
      let ov ← holding [v] (eval o X.env)
      let iv ← holding [v, ov] (eval i X.env)
      standAt tp
      holding [v, ov, iv] (setItem ov iv v)
      release [v, ov, iv] []) := by intro _; rfl)
    (hq' : ∀ v, assign (.Subscript o' i' tp') X.env v = (do
      let ov ← holding [v] (eval o' X.env)
      let iv ← holding [v, ov] (eval i' X.env)
      standAt tp'
      holding [v, ov, iv] (setItem ov iv v)
      release [v, ov, iv] []) := by intro _; rfl)
    (hn : (assignEach [.Subscript o i tp, .Subscript o' i' tp'] X.env).length = 2 := by rfl) (hst : (assignEach [.Subscript o i tp, .Subscript o' i' tp'] X.env).findIdx? (·.1) = none := by rfl)
    (hg1 : (assignEach [.Subscript o i tp, .Subscript o' i' tp'] X.env).map (·.2) = assign (.Subscript o i tp) X.env :: (assignEach [.Subscript o' i' tp'] X.env).map (·.2) := by rfl)
    (hg2 : (assignEach [.Subscript o' i' tp'] X.env).map (·.2) = assign (.Subscript o' i' tp') X.env :: (assignEach [] X.env).map (·.2) := by rfl)
    (hs : swapsWithSole [.Tuple [.Subscript o i tp, .Subscript o' i' tp'] kt pt] (.Tuple [a, b] k2 p2) pos.line X.env = pure false := by rfl) (hw : swappedStores [.Tuple [.Subscript o i tp, .Subscript o' i' tp'] kt pt] (.Tuple [a, b] k2 p2) X.env = pure none := by rfl)
    (h1 : (assignEach [.Tuple [.Subscript o i tp, .Subscript o' i' tp'] kt pt] X.env).map (·.2) = [assign (.Tuple [.Subscript o i tp, .Subscript o' i' tp'] kt pt) X.env] := by rfl) :
    PS X (.Assign [.Tuple [.Subscript o i tp, .Subscript o' i' tp'] kt pt] (.Tuple [a, b] k2 p2) pos) (rdS (gX X T) W (sIx2 mo mi mo' mi' ma)) :=
  PS_imp (ps_asg (pe_tupF ha) (pg_tup hc (pgs_cons (pg_sub ho hi (set_all hu) hq) (pgs_cons (pg_sub ho' hi' (set_all hu) hq') pgs_nil hg2) hg1) hn hst) hs hw h1) fun E s H hh => by
    refine rdS_ofE (rel := RepVs (gX X T)) (f := fun xs e S1 => match xs with
      | [x, y] => (mo e S1).toS e fun o S2 => (mi e S2).toS e fun i S3 => match fSetI o i x S3 with
        | some S4 => (mo' e S4).toS e fun o' S5 => (mi' e S5).toS e fun i' S6 => match fSetI o' i' y S6 with
          | some S7 => .go (.nx e) S7
          | none => .stuck
        | none => .stuck
      | _ => .stuck) hh fun w1 H1 S1 e vs xs hS hE hx h1 => ?_
    split at h1
    · rename_i x y
      cases hx with
      | @cons v1 _ _ _ rx hx =>
      cases hx with
      | @cons v2 _ _ _ ry hx =>
      cases hx
      refine ⟨(by decide : 2 ≤ sizeLine), fun p o hp ho => ?_⟩
      obtain ⟨hS2, ex2⟩ := new_hid hS hp (.frz o (.tup [v1, v2]))
      replace h1 := SatS.ext h1 ex2
      have hE2 := hE.le ex2.wle
      refine ⟨p, [v1, v2], rfl, .inl (.inr ⟨o, upd_same⟩), rfl, v1, [v2], rfl, w1, e, S1, hS2, hE2, (h1.ofE hE2).imp fun o H3 ⟨w3, S3, o3, hS3, ho3, ex3, h3⟩ => ?_⟩
      have hE3 := hE2.le ex3.wle
      refine ⟨w3, e, S3, hS3, hE3, (h3.ofE hE3).imp fun i H4 ⟨w4, S4, i4, hS4, hi4, ex4, h4⟩ => ?_⟩
      have hE4 := hE3.le ex4.wle
      split at h4
      · rename_i S5 h5
        refine fSetI_of hS4 (ho3.le ex4.wle) hi4 (((rx.le ex2.wle).le ex3.wle).le ex4.wle) h5 fun w5 H5 ex5 hS5 => ?_
        have hE5 := hE4.le ex5.wle
        replace h4 := SatS.ext h4 ex5
        refine ⟨v2, [], rfl, w5, e, S5, hS5, hE5, (h4.ofE hE5).imp fun o H6 ⟨w6, S6, o6, hS6, ho6, ex6, h6⟩ => ?_⟩
        have hE6 := hE5.le ex6.wle
        refine ⟨w6, e, S6, hS6, hE6, (h6.ofE hE6).imp fun i H7 ⟨w7, S7, i7, hS7, hi7, ex7, h7⟩ => ?_⟩
        split at h7
        · rename_i S8 h8
          refine fSetI_of hS7 (ho6.le ex7.wle) hi7 ((((((ry.le ex2.wle).le ex3.wle).le ex4.wle).le ex5.wle).le ex6.wle).le ex7.wle) h8 fun w8 H8 ex8 hS8 => ?_
          exact ⟨rfl, h7 w8 H8 s ex8 hS8 ((hE6.le ex7.wle).le ex8.wle)⟩
        · exact h7.elim
      · exact h4.elim
    · exact h1.elim
end Ax
/-! Ax25: a call that looks at cells and answers a tuple of atoms -/
namespace Ax
open PySem PySem.Spec PyProof.Rows L2

theorem unfroz1 {g : G} {w : Wd} {H H' : Hp} {F' : Hp} {S : Store} {p : Addr} {o : Obj} {vs : List V} (hS : RepSt g w H S) (e : Ext ⟨[], froz w H⟩ H ⟨[], F'⟩ H') (h' : RepSt g ⟨[], F'⟩ H' []) (hp : F' p = some (.frz o (.tup vs))) :
    ∃ F2, Ext w H ⟨w.p, F2⟩ H' ∧ RepSt g ⟨w.p, F2⟩ H' S ∧ F2 p = some (.frz o (.tup vs)) := by
  have fr : ∀ a o, H a = some o → noTbl o → H' a = some o := fun a o h n => e.frame a o h (by simp) n
  have hle : HLe w.F (upd w.F p (.frz o (.tup vs))) := HLe.of fun b u eb => by
    by_cases z : b = p
    · subst z
      have q := fr _ _ (hS.le _ _ eb) (hS.nt _ _ eb)
      rw [h'.le _ _ hp] at q
      cases q
      exact upd_same
    · rw [upd_ne z]; exact eb
  have wle : WLe w ⟨w.p, upd w.F p (.frz o (.tup vs))⟩ := ⟨⟨[], by simp⟩, hle⟩
  have hH' : H' p = some (.frz o (.tup vs)) := h'.le _ _ hp
  refine ⟨upd w.F p (.frz o (.tup vs)), ⟨⟨[], by simp⟩, hle, fun a o h _ n => fr a o h n, fun a h => .inl h, fun a u h => ?_, e.trk⟩, ⟨hS.len, hS.nd, fun a u h => ?_, fun n a c h1 h2 nd => ?_, fun n a c h1 h2 => ?_, h'.tabs, fun a ha => ?_, fun a u h => ?_⟩, upd_same⟩
  · have h : upd w.F p (.frz o (.tup vs)) a = some u := h
    by_cases z : a = p
    · subst z
      rcases e.src a _ hp with ⟨o', q⟩ | q | q
      · have q : froz w H a = some o' := q
        unfold froz at q
        split at q
        · rename_i u' hu; exact .inl ⟨u', hu⟩
        · split at q
          · rename_i hm; exact .inr (.inl hm)
          · cases q
      · simp at q
      · exact .inr (.inr q)
    · rw [upd_ne z] at h; exact .inl ⟨u, h⟩
  · have h : upd w.F p (.frz o (.tup vs)) a = some u := h
    by_cases z : a = p
    · subst z; rw [upd_same] at h; cases h; exact hH'
    · rw [upd_ne z] at h; exact fr _ _ (hS.le _ _ h) (hS.nt _ _ h)
  · show upd w.F p (.frz o (.tup vs)) a = none
    have q := hS.cel n a c h1 h2
    have ne : a ≠ p := fun z => by
      subst z
      cases c with
      | lst xs => obtain ⟨us, q, _⟩ := q; have := fr _ _ q trivial; rw [hH'] at this; cases this
      | dct ps => obtain ⟨us, q, _⟩ := q; have := fr _ _ q trivial; rw [hH'] at this; cases this
      | dcn ps => obtain ⟨us, q, _, _⟩ := q; have := fr _ _ q trivial; rw [hH'] at this; cases this
      | ins c fs => obtain ⟨_, _, _, _, q, _⟩ := q; have := fr _ _ q trivial; rw [hH'] at this; cases this
      | dead => exact nd rfl
    rw [upd_ne ne]
    exact hS.out n a c h1 h2 nd
  · have q := hS.cel n a c h1 h2
    cases c with
    | lst xs => obtain ⟨vs, q1, q2⟩ := q; exact ⟨vs, fr _ _ q1 trivial, q2.le wle⟩
    | dct ps => obtain ⟨vs, q1, q2⟩ := q; exact ⟨vs, fr _ _ q1 trivial, q2.le wle⟩
    | dcn ps => obtain ⟨vs, q1, q2, q3⟩ := q; exact ⟨vs, fr _ _ q1 trivial, q2.le wle, q3.le wle⟩
    | ins c fs => obtain ⟨C, dx, vs, m, q1, q2⟩ := q; exact ⟨C, dx, vs, m, fr _ _ q1 trivial, q2.le wle⟩
    | dead => trivial
  · obtain ⟨u, hu, n⟩ := hS.tr a ha
    exact ⟨u, fr _ _ hu n, n⟩
  · have h : upd w.F p (.frz o (.tup vs)) a = some u := h
    by_cases z : a = p
    · subst z; rw [upd_same] at h; cases h; trivial
    · rw [upd_ne z] at h; exact hS.nt _ _ h
theorem atoms_rep {g : G} {F F' : Hp} : ∀ {vs : List V} {ds : List D}, RepAll g F vs ds → ds.all atom = true → RepAll g F' vs ds
  | _, _, .nil, _ => .nil
  | _, _, .cons r t, h => by
    rw [List.all_cons, Bool.and_eq_true] at h
    exact .cons (atom_rep r h.1) (atoms_rep t h.2)
/-- the cells as they stand are shown to the def; a tuple of atoms comes back -/
def kPaT (m : List D → R) (xs : List Vl) (S : Store) : Out Vl := match rsls S 4 xs with
  | none => .stuck
  | some ds => match m ds with
    | .ok (.tup es) => if es.all atom then .ok (.v (.tup es)) S else .stuck
    | _ => .stuck
def ePeekT (m : List D → R) (ma : AM) : EM := fun e S => (ma e S).bind (kPaT m)
section
variable {X : Cx} {T : List (Addr × Str)} {W : WX} {g : G} {k : Nat} {f : Addr} {fd : FuncData} {ps : List Str} {x : Str} {p pos : Pos} {e : Expr} {es : List Expr} {ma : AM} {m : List D → R}
theorem kPaT_sp {s : L2.St} {w : Wd} {H : Hp} {S : Store} {vs : List V} {xs : List Vl} {Q : VK} (hS : RepSt g w H S) (hx : RepVs g w vs xs) (h : SatG g W s w H (RepV g) (kPaT m xs S) Q) : spP g m vs H Q (WE W s) := by
  unfold kPaT at h
  split at h
  · exact h.elim
  · rename_i ds hd
    refine ⟨froz w H, ds, frozNo hS, rsls_rep hS 4 hx hd, ?_⟩
    split at h
    · rename_i es hm
      rw [hm]
      split at h
      · rename_i ha
        intro F' H' v e h' r
        cases r with
        | tup q rr =>
          rcases q with ⟨o, q, hdn⟩ | q
          · obtain ⟨F2, a, b, c⟩ := unfroz1 hS e h' q
            exact h _ H' _ a b (.v (.tup (.inl ⟨o, c, hdn⟩) (atoms_rep rr ha)))
          · obtain ⟨F2, a, b⟩ := unfroz hS e h'
            exact h _ H' _ a b (.v (.tup (.inr q) (atoms_rep rr ha)))
      · exact h.elim
    · exact h.elim
theorem e_peekT (F : FnOk X.prog X.w X.K X.mg X.base (L2.CX X.prog X.w) k f fd ps (spP (gX X T) m)) (hr : Room k X.A) (tk : Takes X W) (hm : X.mg x = some (.ref f)) (hk : PySem.W.keepIn X.K (.ref f) = true) (hb : L2.Binds X.K fd ps [])
    (ha : PA X (e :: es) (rdA (gX X T) W ma)) (hg : Gl X x := by rfl) (hdb : (x == ("__debug__" : Str)) = false := by decide) (he : starEach (e :: es) X.env = (false, eval e X.env) :: starEach es X.env := by rfl) (hpl : (backTo pos (starEach es X.env)).any (·.1) = false := by rfl) :
    PE X (.Call (.Name x p) (e :: es) [] pos) (rd (gX X T) W (ePeekT m ma)) := PE_imp (pe_callS F hr hg hm hk hb (fun σ => passAt tk σ) ha hdb he hpl) fun s H Q h =>
  rd_bind (f := fun xs _ S1 => kPaT m xs S1) h fun w1 H1 S1 e v x hS hE hx h1 => kPaT_sp hS hx h1
theorem ev_peekT {e : Sl} {S S1 : Store} {xs : List Vl} {ds : List D} {es : List D} (h1 : ma e S = .ok xs S1) (h2 : rsls S1 4 xs = some ds) (h3 : m ds = .ok (.tup es)) (h4 : es.all atom = true) : ePeekT m ma e S = .ok (.v (.tup es)) S1 := by unfold ePeekT; rw [h1]; simp only [Out.bind, kPaT, h2, h3, h4, if_true]
end
end Ax
/-! Ax26: dicts by tuples: keys, d[k] = v -/
namespace Ax
open PySem PySem.Spec PyProof.Rows L2

mutual
theorem hash_ok (w : World) : ∀ k : NestedKey, okK k = true → hashN k = k.hash w
  | .num i, _ => rfl
  | .tup ks, h => by
    show reduceHash (Builtin.Tuple.tupleHashOf (hashNs ks)) = reduceHash (Builtin.Tuple.tupleHashOf (NestedKey.hashes w ks))
    rw [hashes_ok w ks h]
  | .none, h => by cases h
  | .text _, h => by cases h
theorem hashes_ok (w : World) : ∀ ks : List NestedKey, okKs ks = true → hashNs ks = NestedKey.hashes w ks
  | [], _ => rfl
  | k :: ks, h => by
    have h : (okK k && okKs ks) = true := h
    rw [Bool.and_eq_true] at h
    show hashN k :: hashNs ks = k.hash w :: NestedKey.hashes w ks
    rw [hash_ok w k h.1, hashes_ok w ks h.2]
end
/-! a key in the abstract heap -/
mutual
inductive NV (K : PySem.W.Frag) (H : Hp) : NestedKey → V → Prop
  | num (i : Int) : NV K H (.num i) (.int i)
  | tup {a : Addr} {vs : List V} {ks : List NestedKey} : SqTA K H a vs → NVs K H ks vs → NV K H (.tup ks) (.ref a)
inductive NVs (K : PySem.W.Frag) (H : Hp) : List NestedKey → List V → Prop
  | nil : NVs K H [] []
  | cons {k : NestedKey} {v : V} {ks : List NestedKey} {vs : List V} : NV K H k v → NVs K H ks vs → NVs K H (k :: ks) (v :: vs)
end
mutual
theorem rep_nv {g : G} {F H : Hp} (l : ∀ a o, F a = some o → H a = some o) : ∀ {v : V} {d : D}, Rep g F v d → okK (keyN d) = true → NV g.K H (keyN d) v
  | _, _, .int i, _ => .num i
  | _, _, .tup q r, h => .tup (q.imp (fun ⟨o, a, b⟩ => ⟨o, l _ _ a, b⟩) id) (rep_nvs l r h)
  | _, _, .non, h => by cases h
  | _, _, .bl _, h => by cases h
  | _, _, .str _, h => by cases h
  | _, _, .ty _, h => by cases h
  | _, _, .fn _, h => by cases h
  | _, _, .ptp _ _, h => by cases h
  | _, _, .lst _ _, h => by cases h
  | _, _, .scr _ _, h => by cases h
  | _, _, .dK _ _, h => by cases h
  | _, _, .ins _ _ _, h => by cases h
theorem rep_nvs {g : G} {F H : Hp} (l : ∀ a o, F a = some o → H a = some o) : ∀ {vs : List V} {ds : List D}, RepAll g F vs ds → okKs (keyNs ds) = true → NVs g.K H (keyNs ds) vs
  | _, _, .nil, _ => .nil
  | _, _, .cons r t, h => by
    have h := Bool.and_eq_true _ _ |>.mp h
    exact .cons (rep_nv l r h.1) (rep_nvs l t h.2)
end
section
variable {X : Cx} {pins : List (Addr × Obj)} {σ : L2.St} {H : Hp} {s : Shared}
mutual
theorem nv_is (I : Inv X pins σ H s) : ∀ {k : NestedKey} {v : V} {u : Value}, NV X.K H k v → RelV v u → NestedIs s.heap k u
  | _, _, _, .num i, r => by
    obtain ⟨t, rfl⟩ := r
    exact .int i t
  | _, _, u, .tup q t, r => by
    cases r
    rcases q with ⟨o, q, _⟩ | ⟨o, its, n, q, hc, _, hd, _, hv⟩
    · obtain ⟨_, _, its, hv, ob, h1, h2, n, h3⟩ := I.hok _ _ q
      exact .tup h1 h2 h3 (nvs_is I t hv)
    · exact .tup (I.kIn _ _ q) hc hd (nvs_is I t hv)
theorem nvs_is (I : Inv X pins σ H s) : ∀ {ks : List NestedKey} {vs : List V} {us : List Value}, NVs X.K H ks vs → Vals vs us → NestedAll s.heap ks us
  | _, _, _, .nil, r => by cases r; exact .nil
  | _, _, _, .cons a b, r => by
    cases r with
    | cons r t => exact .cons (nv_is I a r) (nvs_is I b t)
end
end
/-- the keys stand where they are told -/
def KsOk (K : PySem.W.Frag) (H : Hp) (nk : List NestedKey) (ks : List (Addr × V)) : Prop := Paired (fun k (q : Addr × V) => NV K H k (.ref q.1)) nk ks
theorem ksOk_of {g : G} {w : Wd} {H : Hp} (l : ∀ a o, w.F a = some o → H a = some o) : ∀ {ks : List (Addr × V)} {ps : List (D × Vl)}, RepVs g w (ks.map fun k => V.ref k.1) (ps.map fun p => .v p.1) → (ps.map fun p => keyN p.1).all okN = true → KsOk g.K H (ps.map fun p => keyN p.1) ks
  | [], [], _, _ => .nil
  | q :: ks, p :: ps, h, ho => by
    cases h with
    | cons r t =>
      rw [List.map_cons, List.all_cons, Bool.and_eq_true] at ho
      have o1 := (Bool.and_eq_true _ _ |>.mp ho.1).1
      cases r with
      | v r => exact .cons (rep_nv l r o1) (ksOk_of l t ho.2)
  | [], _ :: _, h, _ => by cases h
  | _ :: _, [], h, _ => by cases h
def xsOf : List NestedKey → List (Addr × V) → List Value → List (NestedKey × Addr × Value)
  | k :: nk, q :: ks, v :: vs => (k, q.1, v) :: xsOf nk ks vs
  | _, _, _ => []
theorem ent_xs (P : Program) (w : World) : ∀ {nk : List NestedKey} {ks : List (Addr × V)} {vs : List Value}, nk.all okN = true → entN nk ks vs = (xsOf nk ks vs).map (entryOfKey (nestedKind P w))
  | k :: nk, q :: ks, v :: vs, h => by
    rw [List.all_cons, Bool.and_eq_true] at h
    show (⟨hashN k, .ref q.1, v⟩ : DictEntry) :: entN nk ks vs = ⟨k.hash w, .ref q.1, v⟩ :: (xsOf nk ks vs).map (entryOfKey (nestedKind P w))
    rw [hash_ok w k (Bool.and_eq_true _ _ |>.mp h.1).1, ent_xs P w h.2]
  | [], _, _, _ => rfl
  | _ :: _, [], _, _ => rfl
  | _ :: _, _ :: _, [], _ => rfl
theorem xs_keys : ∀ {nk : List NestedKey} {ks : List (Addr × V)} {vs : List Value}, nk.length = ks.length → ks.length = vs.length → (xsOf nk ks vs).map (·.1) = nk
  | [], [], [], _, _ => rfl
  | k :: nk, q :: ks, v :: vs, h1, h2 => by
    show k :: (xsOf nk ks vs).map (·.1) = _
    rw [xs_keys (by simpa using h1) (by simpa using h2)]
  | [], _ :: _, _, h, _ => by simp at h
  | _ :: _, [], _, h, _ => by simp at h
  | [], [], _ :: _, _, h => by simp at h
  | _ :: _, _ :: _, [], _, h => by simp at h
theorem xs_len : ∀ {nk : List NestedKey} {ks : List (Addr × V)} {vs : List Value}, nk.length = ks.length → ks.length = vs.length → (xsOf nk ks vs).length = ks.length := fun {nk ks vs} h1 h2 => by
  have := congrArg List.length (xs_keys h1 h2)
  rw [List.length_map] at this
  omega
section
variable {X : Cx} {pins : List (Addr × Obj)} {σ : L2.St} {H : Hp} {s : Shared} {a : Addr}
theorem xs_is (I : Inv X pins σ H s) : ∀ {nk : List NestedKey} {ks : List (Addr × V)} {vs : List Value}, KsOk X.K H nk ks → nk.all okN = true → ∀ x ∈ xsOf nk ks vs, NestedIs s.heap x.1 (.ref x.2.1) ∧ x.1.depth ≤ 8
  | k :: nk, q :: ks, v :: vs, .cons r t, h, x, hx => by
    rw [List.all_cons, Bool.and_eq_true] at h
    rcases List.mem_cons.mp hx with rfl | hx
    · exact ⟨nv_is I r rfl, of_decide_eq_true (Bool.and_eq_true _ _ |>.mp h.1).2⟩
    · exact xs_is I t h.2 x hx
  | [], _, _, _, _, x, hx => by simp [xsOf] at hx
  | _ :: _, [], _, h, _, _, _ => by cases h
  | _ :: _, _ :: _, [], _, _, x, hx => by simp [xsOf] at hx
/-- the dict as the kit tells it -/
theorem dn_of (I : Inv X pins σ H s) {nk : List NestedKey} {ks : List (Addr × V)} (hH : H a = some (.ext (dnP a nk ks))) (hk : nk.all okN = true → KsOk X.K H nk ks) :
    (a == sysModules) = false ∧ ks.length ≤ sizeLine ∧ nk.Nodup ∧ nk.all okN = true ∧ KsOk X.K H nk ks ∧ ∃ vs : List Value, Vals (ks.map (·.2)) vs ∧ s.heap.DictOfH (nestedKind X.prog X.w) a (xsOf nk ks vs) := by
  obtain ⟨⟨h1, h2, h3, h4, vs, h5, o, es, ep, h6, h7, h8, h9⟩, _⟩ := I.hok a _ hH
  have hk := hk h4
  have l1 : nk.length = ks.length := Paired.length hk
  have l2 : ks.length = vs.length := by have := h5.length; rwa [List.length_map] at this
  exact ⟨h1, h2, h3, h4, hk, vs, h5, o, es, ep, h6, h7, h8, by rw [h9, ent_xs X.prog X.w h4], fun x hx => xs_is I hk h4 x hx, by rw [xs_keys l1 l2]; exact h3⟩
end
/-! one more, or one changed -/
def upL {β : Type} (k : NestedKey) (f : β → β) (z : β) : List NestedKey → List β → List β
  | n :: nk, q :: qs => if NestedKey.beq n k then f q :: qs else q :: upL k f z nk qs
  | _, _ => [z]
theorem upL_map {β γ : Type} {k : NestedKey} {f : β → β} {f' : γ → γ} {z : β} (g : β → γ) (h : ∀ q, g (f q) = f' (g q)) : ∀ (nk : List NestedKey) (qs : List β), nk.length = qs.length → (upL k f z nk qs).map g = upL k f' (g z) nk (qs.map g)
  | [], [], _ => rfl
  | n :: nk, q :: qs, hl => by
    simp only [upL, List.map_cons]
    split
    · simp [h]
    · rw [List.map_cons, upL_map g h nk qs (by simpa using hl)]
  | [], _ :: _, hl => by simp at hl
  | _ :: _, [], hl => by simp at hl
theorem upL_len {β : Type} {k : NestedKey} {f : β → β} {z : β} : ∀ (nk : List NestedKey) (qs : List β), nk.length = qs.length → qs.length ≤ (upL k f z nk qs).length ∧ (upL k f z nk qs).length ≤ qs.length + 1
  | [], [], _ => by simp [upL]
  | n :: nk, q :: qs, hl => by
    simp only [upL]
    split
    · simp
    · have := upL_len (k := k) (f := f) (z := z) nk qs (by simpa using hl)
      simp
      omega
  | [], _ :: _, hl => by simp at hl
  | _ :: _, [], hl => by simp at hl
theorem upL_leneq {β γ : Type} {k : NestedKey} {f : β → β} {z : β} {f' : γ → γ} {z' : γ} : ∀ (nk : List NestedKey) (qs : List β) (rs : List γ), nk.length = qs.length → qs.length = rs.length → (upL k f z nk qs).length = (upL k f' z' nk rs).length
  | [], [], [], _, _ => rfl
  | n :: nk, q :: qs, r :: rs, h1, h2 => by
    simp only [upL]
    split
    · simpa using h2
    · simp [upL_leneq (k := k) (f := f) (z := z) (f' := f') (z' := z') nk qs rs (by simpa using h1) (by simpa using h2)]
  | [], _ :: _, _, h, _ => by simp at h
  | _ :: _, [], _, h, _ => by simp at h
  | [], [], _ :: _, _, h => by simp at h
  | _ :: _, _ :: _, [], _, h => by simp at h
theorem upL_all {k : NestedKey} {p : NestedKey → Bool} (hk : p k = true) : ∀ (nk : List NestedKey), nk.all p = true → (upL k id k nk nk).all p = true
  | [], _ => by simp [upL, hk]
  | n :: nk, h => by
    rw [List.all_cons, Bool.and_eq_true] at h
    simp only [upL]
    split
    · simp [h.1, h.2]
    · rw [List.all_cons, h.1, upL_all hk nk h.2]; rfl
theorem upL_mem {k x : NestedKey} : ∀ (nk : List NestedKey), x ∈ upL k id k nk nk → x ∈ nk ∨ x = k
  | [], h => by simp [upL] at h; exact .inr h
  | n :: nk, h => by
    simp only [upL] at h
    split at h
    · exact .inl h
    · rcases List.mem_cons.mp h with rfl | h
      · exact .inl (List.mem_cons_self ..)
      · exact (upL_mem nk h).imp (List.mem_cons_of_mem _) id
theorem upL_nodup {k : NestedKey} : ∀ (nk : List NestedKey), nk.Nodup → (upL k id k nk nk).Nodup
  | [], _ => by simp [upL]
  | n :: nk, h => by
    rw [List.nodup_cons] at h
    simp only [upL]
    split
    · exact List.nodup_cons.mpr h
    · rename_i hne
      refine List.nodup_cons.mpr ⟨fun hm => ?_, upL_nodup nk h.2⟩
      rcases upL_mem nk hm with q | q
      · exact h.1 q
      · subst q; rw [NestedKey.beq_self] at hne; exact hne rfl
theorem upL_paired {α β : Type} {R : α → β → Prop} {k : NestedKey} {f : α → α} {f' : β → β} {z : α} {z' : β} (hz : R z z') (hf : ∀ a b, R a b → R (f a) (f' b)) : ∀ {nk : List NestedKey} {as : List α} {bs : List β}, nk.length = as.length → Paired R as bs → Paired R (upL k f z nk as) (upL k f' z' nk bs)
  | [], [], [], _, .nil => .cons hz .nil
  | n :: nk, a :: as, b :: bs, hl, .cons r t => by
    simp only [upL]
    split
    · exact .cons (hf _ _ r) t
    · exact .cons r (upL_paired hz hf (by simpa using hl) t)
  | [], _ :: _, _, hl, _ => by simp at hl
  | _ :: _, [], _, hl, _ => by simp at hl
theorem storedH_upL {k : NestedKey} {b : Addr} {v : V} {u : Value} : ∀ {nk : List NestedKey} {ks : List (Addr × V)} {vs : List Value}, nk.length = ks.length → ks.length = vs.length → nk.Nodup →
    xsOf (upL k id k nk nk) (upL k (fun q => (q.1, v)) (b, v) nk ks) (upL k (fun _ => u) u nk vs) = storedH (xsOf nk ks vs) k b u
  | [], [], [], _, _, _ => rfl
  | n :: nk, q :: ks, w :: vs, h1, h2, hn => by
    rw [List.nodup_cons] at hn
    have h1' : nk.length = ks.length := by simpa using h1
    have h2' : ks.length = vs.length := by simpa using h2
    have ih := storedH_upL (k := k) (b := b) (v := v) (u := u) h1' h2' hn.2
    simp only [upL]
    have dk : decide (n = k) = NestedKey.beq n k := NestedKey.decide_eq n k
    cases hb : NestedKey.beq n k with
    | true =>
      have e := NestedKey.eq_of_beq _ _ hb
      subst e
      simp only [if_true, id_eq]
      have np : ∀ x ∈ xsOf nk ks vs, putAt n u x = x := fun x hx => by
        unfold putAt
        rw [if_neg]
        intro e
        have : x.1 ∈ (xsOf nk ks vs).map (·.1) := List.mem_map.mpr ⟨x, hx, rfl⟩
        rw [xs_keys h1' h2', e] at this
        exact hn.1 this
      have at0 : (atKey (xsOf (n :: nk) (q :: ks) (w :: vs)) n).isSome = true := by simp [atKey, xsOf]
      unfold storedH
      rw [if_pos at0]
      show (n, q.1, u) :: xsOf nk ks vs = putAt n u (n, q.1, w) :: (xsOf nk ks vs).map (putAt n u)
      rw [List.map_congr_left np, List.map_id']
      simp [putAt]
    | false =>
      rw [hb] at dk
      have ne : ¬ n = k := of_decide_eq_false dk
      simp only [Bool.false_eq_true, if_false]
      show (n, q.1, w) :: xsOf (upL k id k nk nk) _ _ = _
      rw [ih]
      have at1 : atKey (xsOf (n :: nk) (q :: ks) (w :: vs)) k = atKey (xsOf nk ks vs) k := by
        simp [atKey, xsOf, ne]
      unfold storedH
      rw [at1]
      split
      · show _ = putAt k u (n, q.1, w) :: (xsOf nk ks vs).map (putAt k u)
        have : putAt k u (n, q.1, w) = (n, q.1, w) := by simp [putAt, ne]
        rw [this]
      · rfl
  | [], _ :: _, _, h, _, _ => by simp at h
  | _ :: _, [], _, h, _, _ => by simp at h
  | [], [], _ :: _, _, h, _ => by simp at h
  | _ :: _, _ :: _, [], _, h, _ => by simp at h
/-! d[k] = v -/
def ksUp (nk : List NestedKey) (k : NestedKey) (b : Addr) (v : V) (ks : List (Addr × V)) : List (Addr × V) := upL k (fun q => (q.1, v)) (b, v) nk ks
def nkUp (nk : List NestedKey) (k : NestedKey) : List NestedKey := upL k id k nk nk
theorem dn_new {P : Program} {w : World} {H' : Hp} {h' : Heap} {a b : Addr} {k : NestedKey} {v : V} {u : Value} {nk : List NestedKey} {ks : List (Addr × V)} {vs : List Value} (hd : (a == sysModules) = false) (hz : ks.length < sizeLine) (hl : nk.length = ks.length) (hn : nk.Nodup) (ho : nk.all okN = true) (hk : okN k = true) (hv : Vals (ks.map (·.2)) vs) (rv : RelV v u)
    (dd : h'.DictOfH (nestedKind P w) a (storedH (xsOf nk ks vs) k b u)) : ObjOk P w H' h' a (.ext (dnP a (nkUp nk k) (ksUp nk k b v ks))) := by
  have l2 : ks.length = vs.length := by have := hv.length; rwa [List.length_map] at this
  obtain ⟨o, es, ep, h6, h7, h8, h9, _, _⟩ := dd
  have ll := upL_len (k := k) (f := fun q : Addr × V => (q.1, v)) (z := (b, v)) nk ks hl
  refine ⟨⟨hd, ?_, upL_nodup nk hn, upL_all hk nk ho, upL k (fun _ => u) u nk vs, ?_, o, es, ep, h6, h7, h8, ?_⟩, ⟨o, h6⟩, ?_⟩
  · unfold ksUp; omega
  · unfold ksUp
    rw [upL_map (·.2) (f' := fun _ => v) (fun q => rfl) nk ks hl]
    exact upL_paired rv (fun _ _ _ => rv) (by rw [List.length_map]; exact hl) hv
  · unfold nkUp ksUp
    rw [ent_xs P w (upL_all hk nk ho), storedH_upL hl l2 hn]
    exact h9
  · rintro h1 h2 ⟨q1, q2, q3, q4, vs', q5, o', es', ep', q6, q⟩ st
    exact ⟨q1, q2, q3, q4, vs', q5, o', es', ep', st _ q6, q⟩
def rSetN (K : PySem.W.Frag) : TSet := fun o i v H Q => ∃ a b nk ks k, o = .ref a ∧ i = .ref b ∧ H a = some (.ext (dnP a nk ks)) ∧ (nk.all okN = true → KsOk K H nk ks) ∧ NV K H k (.ref b) ∧ okN k = true ∧ ks.length < sizeLine ∧ Q (upd H a (.ext (dnP a (nkUp nk k) (ksUp nk k b v ks))))
theorem set_dn {X : Cx} (hu : X.A.units + 9 < cLine) : PSet X (rSetN X.K) := by
  intro pins s σ H o i v ov iv u Q I ro ri rv h
  obtain ⟨a, b, nk, ks, k, rfl, rfl, hH, hk, nv, ok, hz, q⟩ := h
  cases ro
  cases ri
  obtain ⟨h1, h2, h3, h4, hk, vs, h5, dd⟩ := dn_of I hH hk
  have hl : nk.length = ks.length := Paired.length hk
  have l2 : ks.length = vs.length := by have := h5.length; rwa [List.length_map] at this
  refine wpAny_setItem_heap (knd := nestedKind X.prog X.w) (by show X.A.in1.units + 8 < cLine; have : X.A.in1.units = X.A.units + 1 := rfl; omega) ⟨nv_is I nv rfl, of_decide_eq_true (Bool.and_eq_true _ _ |>.mp ok).2⟩ dd (fun h' dd' hs => ?_) (by rw [xs_len hl l2]; omega)
  have he : ∃ q, h'.get? a = some q := let ⟨q, _, _, hq, _⟩ := dd'; ⟨q, hq⟩
  exact ⟨_, d_write I (by rw [hH]; exact True.intro) hs he (dn_new h1 hz hl h3 h4 ok h5 rv dd'), q⟩
/-! d[k] = v by cells -/
theorem repVs_upL {g : G} {w : Wd} {k : NestedKey} {f : V → V} {f' : Vl → Vl} {z : V} {z' : Vl} (hz : RepV g w z z') (hf : ∀ a b, RepV g w a b → RepV g w (f a) (f' b)) : ∀ {nk : List NestedKey} {as : List V} {bs : List Vl}, nk.length = as.length → RepVs g w as bs → RepVs g w (upL k f z nk as) (upL k f' z' nk bs)
  | [], [], [], _, .nil => .cons hz .nil
  | n :: nk, a :: as, b :: bs, hl, .cons r t => by
    simp only [upL]
    split
    · exact .cons (hf _ _ r) t
    · exact .cons r (repVs_upL hz hf (by simpa using hl) t)
  | [], _ :: _, _, hl, _ => by simp at hl
  | _ :: _, [], _, hl, _ => by simp at hl
def dputN (d : D) (v : Vl) (ps : List (D × Vl)) : List (D × Vl) := upL (keyN d) (fun p => (p.1, v)) (d, v) (ps.map fun p => keyN p.1) ps
theorem dputN_rep {g : G} {w : Wd} {ks : List (Addr × V)} {ps : List (D × Vl)} {b : Addr} {d : D} {v : V} {x : Vl} (rd : Rep g w.F (.ref b) d) (rv : RepV g w v x) (h1 : RepVs g w (ks.map fun k => V.ref k.1) (ps.map fun p => .v p.1)) (h2 : RepVs g w (ks.map (·.2)) (ps.map (·.2))) :
    (dputN d x ps).map (fun p => keyN p.1) = nkUp (ps.map fun p => keyN p.1) (keyN d) ∧
    RepVs g w ((ksUp (ps.map fun p => keyN p.1) (keyN d) b v ks).map fun k => V.ref k.1) ((dputN d x ps).map fun p => .v p.1) ∧ RepVs g w ((ksUp (ps.map fun p => keyN p.1) (keyN d) b v ks).map (·.2)) ((dputN d x ps).map (·.2)) := by
  have l : ks.length = ps.length := by have := h1.len; simpa using this
  have l1 : (ps.map fun p => keyN p.1).length = ps.length := by simp
  have l2 : (ps.map fun p => keyN p.1).length = ks.length := by simp [l]
  refine ⟨?_, ?_, ?_⟩
  · unfold dputN nkUp
    rw [upL_map (f := fun p : D × Vl => (p.1, x)) (fun p : D × Vl => keyN p.1) (f' := id) (fun q => rfl) _ _ l1]
  · unfold dputN ksUp
    rw [upL_map (f := fun p : D × Vl => (p.1, x)) (fun p : D × Vl => Vl.v p.1) (f' := id) (fun q => rfl) _ _ l1, upL_map (f := fun q : Addr × V => (q.1, v)) (fun k : Addr × V => V.ref k.1) (f' := id) (fun q => rfl) _ _ l2]
    exact repVs_upL (.v rd) (fun _ _ h => h) (by simp [l]) h1
  · unfold dputN ksUp
    rw [upL_map (f := fun p : D × Vl => (p.1, x)) (fun p : D × Vl => p.2) (f' := fun _ => x) (fun q => rfl) _ _ l1, upL_map (f := fun q : Addr × V => (q.1, v)) (fun k : Addr × V => k.2) (f' := fun _ => v) (fun q => rfl) _ _ l2]
    exact repVs_upL rv (fun _ _ _ => rv) (by simp [l]) h2
def fSetIN (o i v : Vl) (S : Store) : Option Store := match o with
  | .r n => match S[n]? with
    | some (.dcn ps) => match i with
      | .v (.tup ds) => if okN (keyN (.tup ds)) = true ∧ ps.length < 16777216 then some (S.set n (.dcn (dputN (.tup ds) v ps))) else none
      | _ => none
    | _ => none
  | _ => none
theorem tup_ref {g : G} {F : Hp} {v : V} {ds : List D} (h : Rep g F v (.tup ds)) : ∃ b, v = .ref b := by
  cases h
  exact ⟨_, rfl⟩
theorem fSetIN_of {g : G} {w : Wd} {H : Hp} {S S' : Store} {vo vi vv : V} {o i v : Vl} {Q : Hp → Prop} (hS : RepSt g w H S) (ho : RepV g w vo o) (hi : RepV g w vi i) (hv : RepV g w vv v) (e : fSetIN o i v S = some S')
    (h : ∀ w' H', Ext w H w' H' → RepSt g w' H' S' → Q H') : rSetN g.K vo vi vv H Q := by
  unfold fSetIN at e
  split at e
  · rename_i n
    cases ho with
    | r hn =>
      split at e
      · rename_i ps hx
        split at e
        · rename_i ds
          split at e
          · rename_i hc
            cases e
            cases hi with
            | v hi =>
              obtain ⟨b, rfl⟩ := tup_ref hi
              obtain ⟨ks, q1, q2, q3⟩ := hS.cel _ _ _ hn hx
              have l : ks.length = ps.length := by have := q2.len; simpa using this
              obtain ⟨e1, e2, e3⟩ := dputN_rep hi hv q2 q3
              obtain ⟨a1, a2⟩ := set_celX hS hn hx (by intro z; cases z) (.ext (dnP _ (nkUp (ps.map fun p => keyN p.1) (keyN (.tup ds))) (ksUp (ps.map fun p => keyN p.1) (keyN (.tup ds)) b vv ks))) q1 ⟨trivial, fun _ _ => dnP_ne⟩ (c := .dcn (dputN (.tup ds) v ps)) ⟨_, by rw [e1]; exact upd_same, e2, e3⟩
              exact ⟨_, b, _, ks, keyN (.tup ds), rfl, rfl, q1, fun ho => ksOk_of hS.le q2 ho, rep_nv hS.le hi (Bool.and_eq_true _ _ |>.mp hc.1).1, hc.1, by rw [l]; exact line_lt hc.2, h w _ a2 a1⟩
          · cases e
        · cases e
      · cases e
  · cases e
def sSetIN (mo mi mv : EM) : SM := fun e S => (mv e S).toS e fun v S1 => (mo e S1).toS e fun o S2 => (mi e S2).toS e fun i S3 => match fSetIN o i v S3 with
  | some S4 => .go (.nx e) S4
  | none => .stuck
theorem s_setIN {X : Cx} {T : List (Addr × Str)} {W : WX} {o i e : Expr} {pos tpos : Pos} {mo mi me : EM} (hu : X.A.units + 9 < cLine) (hv : PE X e (rd (gX X T) W me)) (ho : PE X o (rd (gX X T) W mo)) (hi : PE X i (rd (gX X T) W mi))
    (ha : ∀ v, assign (.Subscript o i tpos) X.env v = (do
      let ov ← holding [v] (eval o X.env)
      let iv ← holding [v, ov] (eval i X.env)
      standAt tpos
      holding [v, ov, iv] (setItem ov iv v)
      release [v, ov, iv] []) := by intro _; rfl)
    (hs : swapsWithSole [.Subscript o i tpos] e pos.line X.env = pure false := by rfl) (hw : swappedStores [.Subscript o i tpos] e X.env = pure none := by rfl) (h1 : (assignEach [.Subscript o i tpos] X.env).map (·.2) = [assign (.Subscript o i tpos) X.env] := by rfl) :
    PS X (.Assign [.Subscript o i tpos] e pos) (rdS (gX X T) W (sSetIN mo mi me)) :=
  PS_imp (ps_asg hv (pg_sub ho hi (set_dn hu) ha) hs hw h1) fun E s H h =>
    rdS_ofE (f := fun v e S1 => (mo e S1).toS e fun o S2 => (mi e S2).toS e fun i S3 => match fSetIN o i v S3 with
      | some S4 => .go (.nx e) S4
      | none => .stuck) h fun w1 H1 S1 e v x hS hE hx h1 => by
    refine ⟨w1, e, S1, hS, hE, (h1.ofE hE).imp fun o H2 ⟨w2, S2, o', hS2, ho', ex2, h2⟩ => ?_⟩
    refine ⟨w2, e, S2, hS2, hE.le ex2.wle, (h2.ofE (hE.le ex2.wle)).imp fun i H3 ⟨w3, S3, i', hS3, hi', ex3, h3⟩ => ?_⟩
    split at h3
    · rename_i S4 h4
      exact fSetIN_of hS3 (ho'.le ex3.wle) hi' ((hx.le ex2.wle).le ex3.wle) h4 fun w4 H4 ex4 hS4 => h3 w4 H4 s ex4 hS4 (((hE.le ex2.wle).le ex3.wle).le ex4.wle)
    · exact h3.elim
end Ax
/-! Ax27: dicts by tuples: comprehensions -/
namespace Ax
open PySem PySem.Spec PyProof.Rows L2

/-- the new dict -/
def dn0 (D : Addr) : HO := .ext (dnP D [] [])
theorem dn0_ok {P : Program} {w : World} {H : Hp} {h : Heap} (hb : sysModules < h.objs.size) : ObjOk P w H (h.push { cls := .type "dict", data := .dict #[] }) h.objs.size (dn0 h.objs.size) := by
  have g : (h.push { cls := .type "dict", data := .dict #[] }).get? h.objs.size = some { cls := .type "dict", data := .dict #[] } := Heap.get?_push_size _ rfl
  have ne : (h.objs.size == sysModules) = false := by rw [beq_eq_false_iff_ne]; exact Nat.ne_of_gt hb
  refine ⟨⟨ne, Nat.zero_le _, List.nodup_nil, rfl, [], .nil, _, #[], _, g, ⟨rfl, rfl, rfl⟩, rfl, rfl⟩, ⟨_, g⟩, ?_⟩
  rintro h1 h2 ⟨q1, q2, q3, q4, vs', q5, o', es', ep', q6, q⟩ st
  exact ⟨q1, q2, q3, q4, vs', q5, o', es', ep', st _ q6, q⟩
theorem dn_store {X : Cx} {pins : List (Addr × Obj)} {σ : L2.St} {H : Hp} {s : Shared} {E : Value → Shared → Prop} {D : Addr} {y z : V} {u r : Value} {Q : Hp → Prop} {R : Unit → Shared → Prop} (hu : X.A.units + 8 < cLine) (I : Inv X pins σ H s) (ry : RelV y u) (rz : RelV z r) (h : rSetN X.K (.ref D) y z H Q)
    (fin : ∀ H' s', Inv X pins σ H' s' → Q H' → R () s') : wpAny (model X.prog X.w) X.A (dictSet D u r) R E s := by
  obtain ⟨a, b, nk, ks, k, e, rfl, hH, hk, nv, ok, hz, q⟩ := h
  cases e
  cases ry
  obtain ⟨h1, h2, h3, h4, hk, vs, h5, dd⟩ := dn_of I hH hk
  have hl : nk.length = ks.length := Paired.length hk
  have l2 : ks.length = vs.length := by have := h5.length; rwa [List.length_map] at this
  refine wpAny_dictSet_heap (knd := nestedKind X.prog X.w) hu ⟨nv_is I nv rfl, of_decide_eq_true (Bool.and_eq_true _ _ |>.mp ok).2⟩ dd (fun h' dd' hs => ?_) (by rw [xs_len hl l2]; omega)
  have he : ∃ q, h'.get? D = some q := let ⟨q, _, _, hq, _⟩ := dd'; ⟨q, hq⟩
  exact fin _ _ (d_write I (by rw [hH]; exact True.intro) hs he (dn_new h1 hz hl h3 h4 ok h5 rz dd')) q
/-- the loop, told by a measure: W i m H ahead of turn i -/
def DnLoop (K : PySem.W.Frag) (J : It) (g : TG) (tt : TT) (tk tv : TE) (vs : List Nat) (σ : L2.St) (D : Addr) (W : Nat → Nat → Hp → Prop) (Q : VK) : Prop := ∀ i m H, W i m H → (J.stop i H ∧ Q (.ref D) H) ∨ (J.go i H ∧ ∀ x H', J.yld i H x H' → g x (wipe σ vs) H' fun τ H2 => wipe τ vs = wipe σ vs ∧
  tt τ H2 fun b H3 => match b with
    | true => tk τ H3 fun y H4 => tv τ H4 fun z H5 => rSetN K (.ref D) y z H5 fun H6 => ∃ m', m' < m ∧ W (i + 1) m' H6
    | false => ∃ m', m' < m ∧ W (i + 1) m' H3)
def tDcN (K : PySem.W.Frag) (wi : TI) (g : TG) (tt : TT) (tk tv : TE) (vs : List Nat) : TE := fun σ H Q => wi σ H fun J H1 => ∀ D, H1 D = none → ∃ (W : Nat → Nat → Hp → Prop) (m : Nat), W 0 m (upd H1 D (dn0 D)) ∧ DnLoop K J g tt tk tv vs σ D W Q
structure DcH (X : Cx) (kx vx tg iter : Expr) (ifs : List Expr) (scope : Scope) (own : List (Str × Nat)) (wi : TI) (g : TG) (tt : TT) (tk tv : TE) : Prop where
  calm : X.calm = true
  nd : X.N.Nodup
  room : X.A.units + 8 < cLine
  it : PI X tg iter wi
  ok : BlkOk X.N X.env.scope scope own
  pg : ∀ s H C cl fp, PG (X.blk s H scope (compEnvC scope cl C X.env) fp) tg g
  pt : ∀ s H C cl fp, PTs (X.blk s H scope (compEnvC scope cl C X.env) fp) ifs tt
  pk : ∀ s H C cl fp, PE (X.blk s H scope (compEnvC scope cl C X.env) fp) kx tk
  pv : ∀ s H C cl fp, PE (X.blk s H scope (compEnvC scope cl C X.env) fp) vx tv
  fs : ∀ x, foldedSetIterable iter X.env x = pure x
section
variable {X : Cx} {pins : List (Addr × Obj)} {σ : L2.St} {s : Shared} {kx vx tg iter : Expr} {ifs : List Expr} {scope : Scope} {own : List (Str × Nat)} {pos pos' : Pos} {wi : TI} {g : TG} {tt : TT} {tk tv : TE}
/-- the loop in its block -/
theorem dcn_loop {H2 : Hp} {s3 : Shared} {D it : Addr} {fp : List Addr} {tn : Nat → Heap → Prop} {J : It} {m0 : Nat} {W : Nat → Nat → Hp → Prop} {ce : Env} {Q : VK} {R : Result → Shared → Prop} (hroom : X.A.units + 8 < cLine) (hcalm : X.calm = true)
    (pg : PG (X.blk s3 H2 scope ce fp) tg g) (pt : PTs (X.blk s3 H2 scope ce fp) ifs tt) (pk : PE (X.blk s3 H2 scope ce fp) kx tk) (pv : PE (X.blk s3 H2 scope ce fp) vx tv)
    (T : Turn X.prog X.w X.K tg J fp it tn) (lp : DnLoop X.K J g tt tk tv (own.map (·.2)) σ D W Q)
    (done : ∀ s' H', Inv (X.blk s3 H2 scope ce fp) [] (wipe σ (own.map (·.2))) H' s' → Q (.ref D) H' → R (.ok .next) s')
    {s4 : Shared} {H3 : Hp} (I4 : Inv (X.blk s3 H2 scope ce fp) [] (wipe σ (own.map (·.2))) H3 s4) (st : tn 0 s4.heap) (nf : ∀ b ∈ fp, H3 b = none) (w0 : W 0 m0 H3) :
    codeAny (model X.prog X.w) X.A (.compLoop (.DictComp kx vx [⟨tg, iter, ifs, 0⟩] scope pos) 0 (.ref it) (.ref D) ce) R s4 := by
  -- the block's own context
  generalize hY : X.blk s3 H2 scope ce fp = Y at pg pt pk pv done I4
  have yA : Y.A = X.A := by rw [← hY]
  have yP : Y.prog = X.prog := by rw [← hY]
  have yw : Y.w = X.w := by rw [← hY]
  have yK : Y.K = X.K := by rw [← hY]
  have yC : Y.calm = true := by rw [← hY]; exact hcalm
  have yE : Y.env = ce := by rw [← hY]
  have yX : Y.xe = fun _ _ => False := by rw [← hY]
  have yF : Y.ex = fp ∧ Y.pn = [] := by rw [← hY]; exact ⟨rfl, rfl⟩
  have own' : ∀ {τ : L2.St} {H' : Hp} {s' : Shared}, Inv Y [] τ H' s' → (∀ b ∈ fp, H' b = none) → ∀ b ∈ fp, FpOk Y [] H' b := by
    intro τ H' s' I n b hb
    have he := I.ok.exf b (by rw [yF.1]; exact hb)
    refine ⟨n b hb, he.1, I.ok.exfs b (by rw [yF.1]; exact hb), .inl (by rw [yF.1]; exact hb), fun x c e => he.2 x c e, fun p hp => ?_⟩
    rw [yF.2] at hp
    simp at hp
  refine compLoop_anyD (fun n s' => ∃ (i : Nat) (H' : Hp), Inv Y [] (wipe σ (own.map (·.2))) H' s' ∧ tn i s'.heap ∧ (∀ b ∈ fp, H' b = none) ∧ W i n H') ?_ m0 ⟨0, H3, I4, st, nf, w0⟩
  rintro n s5 ⟨i, H5, I5, st5, n5, w5⟩
  rcases lp i n H5 w5 with ⟨halt, q⟩ | ⟨go, step⟩
  · have e := T.done Y yP yw yK yC i [] s5 _ H5 (fun _ _ => False) I5 (own' I5 n5) st5 halt
    rw [yA] at e
    exact thnF e fun r s6 ⟨hr, I6⟩ => by subst hr; exact done s6 H5 I6 q
  · have e := T.item Y yP yw yK yC i [] s5 _ H5 (fun _ _ => False) I5 (own' I5 n5) st5 go
    rw [yA] at e
    refine thnF e fun r s6 ⟨u, hr, e6⟩ => ?_
    subst hr
    refine thnF e6 fun _ s7 ⟨x, H7, I7, r7, y7, st7, n7⟩ => ?_
    have J7 := I7.pinned (own' I7 n7) (T.obj _ _ st7)
    -- what a turn leaves
    have back : ∀ {τ : L2.St} {H' : Hp} {s' : Shared}, Inv Y ([] ++ pinsAt fp s7.heap) τ H' s' → wipe τ (own.map (·.2)) = wipe σ (own.map (·.2)) → (∃ m', m' < n ∧ W (i + 1) m' H') → ∃ m', m' < n ∧ ∃ (i : Nat) (H' : Hp), Inv Y [] (wipe σ (own.map (·.2))) H' s' ∧ tn i s'.heap ∧ (∀ b ∈ fp, H' b = none) ∧ W i m' H' := by
      intro τ H' s' I hw ⟨m', lt, w'⟩
      have pin' : ∀ b ∈ fp, ∀ o, s7.heap.get? b = some o → s'.heap.get? b = some o ∧ H' b = none := by
        intro b hb o eb
        have z := I.pin (b, o) (List.mem_append_right _ (List.mem_append_right _ (mem_pinsAt hb eb)))
        exact ⟨z.1, z.2.1⟩
      have hlen : (wipe σ (own.map (·.2))).length = τ.length := by rw [← hw, wipe_length]
      refine ⟨m', lt, i + 1, H', (I.unpinned (pins := [])).weak hlen ?_, T.keep _ _ _ st7 (fun b hb o eb => (pin' b hb o eb).1), ?_, w'⟩
      · intro j v ev
        rw [← hw] at ev
        exact (wipe_some ev).1
      · intro b hb
        obtain ⟨o, eb, _⟩ := T.obj _ _ st7 b hb
        exact (pin' b hb o eb).2
    have sx := pg.run _ s7 _ H7 x u _ J7 r7 (step x H7 y7)
    rw [yA, yE, yP, yw, yX] at sx
    refine thnF sx fun _ s8 ⟨τ, H8, I8, hw, q8⟩ => ?_
    have sy := pt.run _ s8 τ H8 _ I8 q8
    rw [yA, yE, yP, yw, yX] at sy
    refine thnF sy fun b s9 ⟨H9, I9, q9⟩ => ?_
    cases b with
    | false =>
      rw [if_neg Bool.false_ne_true]
      exact back I9 hw q9
    | true =>
      rw [if_pos rfl]
      have sz := pk.run _ s9 τ H9 _ I9 q9
      rw [yA, yE, yP, yw, yX] at sz
      refine thnF sz fun kv s10 ⟨yk, H10, I10, rk, q10⟩ => ?_
      have sv := pv.run _ s10 τ H10 _ I10 q10
      rw [yA, yE, yP, yw, yX] at sv
      refine thnF sv fun vv s11 ⟨zv, H11, I11, rv, q11⟩ => ?_
      rw [← yK] at q11
      have fin := dn_store (X := Y) (R := fun _ s' => ∃ m', m' < n ∧ ∃ (i : Nat) (H' : Hp), Inv Y [] (wipe σ (own.map (·.2))) H' s' ∧ tn i s'.heap ∧ (∀ b ∈ fp, H' b = none) ∧ W i m' H') (E := notedBy (model X.prog X.w) X.A ce fun e s' => R (.error e) s') (by rw [yA]; exact hroom) I11 rk rv q11 (fun H' s' I' w' => back I' hw w')
      rw [yA, yP, yw] at fin
      exact fin
/-- the whole comprehension, its value used -/
theorem dcn_core {H : Hp} {Q : VK} {use : Option (Value → Sem Unit)} {Qf : Value → Shared → Prop} (B : DcH X kx vx tg iter ifs scope own wi g tt tk tv) (I : Inv X pins σ H s) (h : tDcN X.K wi g tt tk tv (own.map (·.2)) σ H Q)
    (fin : ∀ (D C : Addr) (s' : Shared) (m : Str → Option Value) (H' : Hp), Inv X pins σ H' s' → Q (.ref D) H' → s'.heap.Ns C m → FpOk X pins H' C → compPost (model X.prog X.w) X.A X.xe use Qf (.ref D) C (.ok .next) s') :
    wpAny (model X.prog X.w) X.A (comprehension (.DictComp kx vx [⟨tg, iter, ifs, 0⟩] scope pos) scope X.env pos' newDict false (eval iter X.env) use) Qf X.xe s := by
  have clos := closure_ok (env := X.env) (scope := scope) fun y hy e => (B.ok.free y hy e).elim (fun k => I.ok.has _ (.inl k)) fun k => I.ok.has _ (.inr k)
  refine wpAny_comprehension_free (use := use) rfl B.fs clos B.ok.kind (fun y hy e => by rw [B.ok.uniq y hy, e]) ?_
  refine thn (B.it.run pins s σ H _ I h) fun xv s1 hx => thn hx fun itv s2 ⟨it, fp, tn, J, H2, ei, I2, T, st2, f2, q⟩ => ?_
  subst ei
  refine wpAny_newObj_type (newEnv_comp ?_)
  obtain ⟨W, m0, w0, lp⟩ := q s2.heap.objs.size (I2.hok.fresh (Nat.le_refl _))
  -- the dict is laid
  have I3 : Inv X pins σ (upd H2 s2.heap.objs.size (dn0 s2.heap.objs.size)) { s2 with heap := s2.heap.push { cls := .type "dict", data := .dict #[] } } :=
    I2.laid (t' := s2.toks) (fun b o e => Heap.get?_push_of_some _ e) (Nat.le_refl _) (dn0_ok I2.big)
  have young : ∀ b ∈ fp, b < s2.heap.objs.size := fun b hb => by
    obtain ⟨o, e, _⟩ := T.obj _ _ st2 b hb
    exact Heap.lt_size e
  have f3 : ∀ b ∈ fp, FpOk X pins (upd H2 s2.heap.objs.size (dn0 s2.heap.objs.size)) b ∧ b < (s2.heap.push { cls := .type "dict", data := .dict #[] }).objs.size := fun b hb => by
    have lt := young b hb
    refine ⟨⟨?_, (f2 b hb).2⟩, by rw [Heap.size_push]; exact Nat.lt_succ_of_lt lt⟩
    rw [upd_ne (Nat.ne_of_lt lt)]
    exact (f2 b hb).1
  have nf : ∀ b ∈ fp, upd H2 s2.heap.objs.size (dn0 s2.heap.objs.size) b = none := fun b hb => (f3 b hb).1.1
  have I4 := block_start I3 B.ok B.nd f3
  generalize hs3 : ({ s2 with heap := s2.heap.push { cls := .type "dict", data := .dict #[] } } : Shared) = s3 at I3 I4
  have hh3 : s3.heap = s2.heap.push { cls := .type "dict", data := .dict #[] } := by rw [← hs3]
  rw [← hh3] at f3
  have b1 := B.pg s3 (upd H2 s2.heap.objs.size (dn0 s2.heap.objs.size)) s3.heap.objs.size (cellsFrom (s3.heap.objs.size + 1) scope.names (cloFrom X.env.cells scope.names [])) fp
  have b2 := B.pt s3 (upd H2 s2.heap.objs.size (dn0 s2.heap.objs.size)) s3.heap.objs.size (cellsFrom (s3.heap.objs.size + 1) scope.names (cloFrom X.env.cells scope.names [])) fp
  have b3 := B.pk s3 (upd H2 s2.heap.objs.size (dn0 s2.heap.objs.size)) s3.heap.objs.size (cellsFrom (s3.heap.objs.size + 1) scope.names (cloFrom X.env.cells scope.names [])) fp
  have b4 := B.pv s3 (upd H2 s2.heap.objs.size (dn0 s2.heap.objs.size)) s3.heap.objs.size (cellsFrom (s3.heap.objs.size + 1) scope.names (cloFrom X.env.cells scope.names [])) fp
  have st4 : tn 0 (pushCells (s3.heap.push { cls := .type "dict", data := .dict #[] }) scope.names) := by
    refine T.keep _ _ _ st2 fun b _ o e => pushCells_keeps _ _ _ _ (Heap.get?_push_of_some _ ?_)
    rw [hh3]
    exact Heap.get?_push_of_some _ e
  have cL : (compEnvC scope (cellsFrom (s3.heap.objs.size + 1) scope.names (cloFrom X.env.cells scope.names [])) s3.heap.objs.size X.env).locals = s3.heap.objs.size := rfl
  have run := dcn_loop (X := X) (iter := iter) (pos := pos) (scope := scope) (m0 := m0) (R := compPost (model X.prog X.w) X.A X.xe use Qf (.ref s2.heap.objs.size) s3.heap.objs.size) B.room B.calm b1 b2 b3 b4 T lp (fun s' H' I' q' => ?_) I4 st4 nf w0
  · rw [← hs3] at run ⊢
    exact codeAny_compStart_dict run (T.self X.A 0 _ _ _ (by rw [← hs3] at st4; exact st4) run)
  · have back : Inv X pins σ H' s' := I3.call' (ch := fp) I'.os I'.base I'.hok I'.bare fun b hb => ⟨(f3 b hb).1.2.2.2.1, (f3 b hb).1.2.1, (f3 b hb).1.2.2.2.2.1, (f3 b hb).1.2.2.2.2.2⟩
    have nC : H' s3.heap.objs.size = none := I'.free
    obtain ⟨m, hn, _⟩ := I'.loc
    exact fin _ _ s' m H' back q' hn (I3.fpOk (Nat.le_refl _) nC)
/-- as a value -/
theorem pe_dcn (B : DcH X kx vx tg iter ifs scope own wi g tt tk tv) : PE X (.DictComp kx vx [⟨tg, iter, ifs, 0⟩] scope pos) (tDcN X.K wi g tt tk tv (own.map (·.2))) := by
  refine ⟨fun pins s σ H Q I h => ?_⟩
  rw [arm_eval_DictComp]
  refine dcn_core B I h fun D C s' m H' I' q hn f => ⟨m, hn, fun h'' sb => ?_⟩
  obtain ⟨f0, f1, f2, f3, f4, f5⟩ := f
  have turned := I'.turned (t' := s'.toks) (fun b o hb e => (sb.2 b hb).trans e) f0 f1 f3 f4 f5
  exact ⟨.ref D, H', turned, rfl, q⟩
/-- name = {..} on one line -/
theorem ps_setDcn {i : Nat} {y : Str} {py spos : Pos} (B : DcH X kx vx tg iter ifs scope own wi g tt tk tv) (hy : X.N[i]? = some y) (hyl : X.env.scope.names.lookup y = some .local)
    (hsw : swapsWith (.DictComp kx vx [⟨tg, iter, ifs, 0⟩] scope pos) (some (.Name y py)) spos.line X.env = pure true) :
    PS X (.Assign [.Name y py] (.DictComp kx vx [⟨tg, iter, ifs, 0⟩] scope pos) spos) (tAsg (tDcN X.K wi g tt tk tv (own.map (·.2))) (gName i)) := by
  refine ⟨fun pins s σ H D I h => ?_⟩
  rw [exec_Assign_Name_used _ _ _ _ hsw]
  refine wpAny_bind (wpAny_standAt (wpAny_bind ?_))
  have h : tDcN X.K wi g tt tk tv (own.map (·.2)) σ H (fun x H1 => gName i x σ H1 D.nx) := h
  show wpAny _ X.A (do let _ ← comprehension (.DictComp kx vx [⟨tg, iter, ifs, 0⟩] scope pos) scope X.env (firstIterPos [⟨tg, iter, ifs, 0⟩] pos) newDict false (eval iter X.env) (some (assign (.Name y py) X.env))) _ _ s
  refine wpAny_bind (thn (dcn_core (Qf := fun _ s' => SP X pins D .next s') B I h fun L C s' m H' I' q hn f => ?_) fun _ s' hq => wpAny_pure (wpAny_pure hq))
  show wpAny _ _ (assign (.Name y py) X.env (.ref L)) _ _ _
  obtain ⟨f0, f1, f2, f3, f4, f5⟩ := f
  refine wpAny_assign_Name (store_ok2 (v := V.ref L) I' B.nd hy (.inl hyl) rfl (fun s2 I2 ⟨a, sb, ha⟩ => ?_) (.inr hyl))
  have ne : C ≠ a := ha.elim (fun z => by rw [z]; exact f1) fun z e => f4 y a z e.symm
  refine ⟨m, hn.sameBut sb ne, fun h3 sb3 => ⟨_, H', ?_, q⟩⟩
  exact I2.turned (t' := s2.toks) (fun b o hb e => (sb3.2 b hb).trans e) f0 f1 f3 f4 f5
end

/-! by cells -/
def dcGoN (t : TgM) (ts : TM) (ek ev : EM) : List Vl → Sl → Store → List (D × Vl) → Out (List (D × Vl))
  | [], _, S, acc => .ok acc S
  | x :: xs, e, S, acc => match t x e with
    | none => .stuck
    | some e1 => match ts e1 S with
      | .ok true S1 => match ek e1 S1 with
        | .ok (.v (.tup ds)) S2 => match ev e1 S2 with
          | .ok y S3 => if okN (keyN (.tup ds)) = true ∧ acc.length < 16777216 then dcGoN t ts ek ev xs e S3 (dputN (.tup ds) y acc) else .stuck
          | _ => .stuck
        | _ => .stuck
      | .ok false S1 => dcGoN t ts ek ev xs e S1 acc
      | _ => .stuck
/-- a new cell of it -/
def kDcn (ps : List (D × Vl)) (S : Store) : Out Vl := .ok (.r S.length) (S ++ [.dcn ps])
def eDcN (it : IM) (t : TgM) (ts : TM) (ek ev : EM) (own : List Nat) : EM := fun e S => (it e S).bind fun xs S1 => (dcGoN t ts ek ev xs (fgt own e) S1 []).bind kDcn
/-- a dict that stands in no cell yet -/
def RepNd (g : G) (w : Wd) (ks : List (Addr × V)) (ps : List (D × Vl)) : Prop := RepVs g w (ks.map fun k => V.ref k.1) (ps.map fun p => .v p.1) ∧ RepVs g w (ks.map (·.2)) (ps.map (·.2))
theorem dcn_rd {g : G} {W : WX} {it : IM} {t : TgM} {ts : TM} {ek ev : EM} {vs is : List Nat} (hio : ∀ i ∈ is, i ∈ vs) : ∀ s H Q, rd g W (eDcN it t ts ek ev vs) s H Q → tDcN g.K (rdI g W it) (rdTg g t is) (rdT g W0 ts) (rd g W0 ek) (rd g W0 ev) vs s H Q := fun s H Q h => by
  refine rd_bind (rel := ItOk g) (f := fun xs e S1 => (dcGoN t ts ek ev xs (fgt vs e) S1 []).bind kDcn) h fun w0 H0 S0 e0 J xs hS0 hE0 hJ h0 => ?_
  intro D hD
  -- what holds ahead of a turn, the new dict hidden
  let Inv' : Nat → Hp → Prop := fun i H => ∃ (w1 : Wd) (S1 : Store) (acc : List (Ax.D × Vl)) (ks : List (Addr × V)), H D = some (.ext (dnP D (acc.map fun p => keyN p.1) ks)) ∧ RepNd g w1 ks acc ∧ RepSt g w1 (hid H D) S1 ∧ Ext w0 H0 w1 (hid H D) ∧
    SatG g W s w1 (hid H D) (RepV g) ((dcGoN t ts ek ev (xs.drop i) (fgt vs e0) S1 acc).bind kDcn) Q
  refine ⟨fun i m H => m = xs.length - i ∧ i ≤ xs.length ∧ Inv' i H, xs.length, ⟨by simp, Nat.zero_le _, w0, S0, [], [], upd_same, ⟨.nil, .nil⟩, ?_⟩, ?_⟩
  · have e : hid (upd H0 D (dn0 D)) D = H0 := by
      rw [hid_upd]
      funext b
      by_cases hb : b = D
      · subst hb; rw [hid_same, hD]
      · rw [hid_ne hb]
    rw [e]
    exact ⟨hS0, Ext.refl _ _, h0⟩
  rintro i m H ⟨rfl, hi, w1, S1, acc, ks, hHD, rv, hS1, ex1, h1⟩
  have hDn : hid H D D = none := hid_same
  have hH : upd (hid H D) D (.ext (dnP D (acc.map fun p => keyN p.1) ks)) = H := upd_hid hHD
  have plain : noTbl (.ext (dnP D (acc.map fun p => keyN p.1) ks)) ∧ ∀ q c, HO.ext (dnP D (acc.map fun p => keyN p.1) ks) ≠ LamX.CodeO c q := ⟨trivial, fun _ _ => dnP_ne⟩
  by_cases hlt : i < xs.length
  · rw [List.drop_eq_getElem_cons hlt] at h1
    obtain ⟨hS1', ex1'⟩ := new_hid hS1 hDn (.ext (dnP D (acc.map fun p => keyN p.1) ks))
    rw [hH] at hS1' ex1'
    obtain ⟨go, yl⟩ := (hJ w1 H S1 ex1.wle hS1' i).1 xs[i] (List.getElem?_eq_getElem hlt)
    refine .inr ⟨go, fun v H2 y => ?_⟩
    obtain ⟨w2, ex2, hS2, hx⟩ := yl v H2 y
    have e01 : WLe w0 w2 := ⟨by
      obtain ⟨m1, z1⟩ := ex1.pre
      obtain ⟨m2, z2⟩ := ex2.pre
      exact ⟨m1 ++ m2, by rw [z2, z1, List.append_assoc]⟩, ex1.fle.trans ex2.fle⟩
    refine ⟨w2, fgt vs e0, S1, xs[i], hS2, (hE0.wipe vs).le e01, hx, ?_⟩
    unfold dcGoN at h1
    cases hq : t xs[i] (fgt vs e0) with
    | none => rw [hq] at h1; exact h1.elim
    | some e1 =>
      rw [hq] at h1
      simp only at h1 ⊢
      intro w3 H3 s3 ex3 hS3 hE3 sb3
      refine ⟨by rw [(sb3.mono hio).wipe, wipe_wipe], w3, e1, S1, hS3, hE3, ?_⟩
      have e13 : Ext w1 (upd (hid H D) D (.ext (dnP D (acc.map fun p => keyN p.1) ks))) w3 H3 := by rw [hH]; exact ex2.trans ex3
      cases hts : ts e1 S1 with
      | stuck => rw [hts] at h1; exact h1.elim
      | exc c fs S' => rw [hts] at h1; exact h1.elim
      | ok b S2 =>
        rw [hts] at h1
        intro w4 H4 b' ex4 hS4 hb
        subst hb
        have e14 := e13.trans ex4
        cases b' with
        | false =>
          simp only at h1
          obtain ⟨a1, a2, a3⟩ := unhide hDn plain hS1 e14 hS4
          exact ⟨xs.length - (i + 1), by omega, rfl, hlt, w4, S2, acc, ks, a3, ⟨rv.1.le a2.wle, rv.2.le a2.wle⟩, a1, ex1.trans a2, SatG.ext h1 a2⟩
        | true =>
          simp only at h1
          refine ⟨w4, e1, S2, hS4, hE3.le ex4.wle, ?_⟩
          cases hek : ek e1 S2 with
          | stuck => rw [hek] at h1; exact h1.elim
          | exc c fs S' => rw [hek] at h1; exact h1.elim
          | ok yk S3 =>
            rw [hek] at h1
            intro w5 H5 uk ex5 hS5 huk
            cases yk with
            | r n => exact h1.elim
            | v d =>
              cases d with
              | tup ds =>
                simp only at h1
                refine ⟨w5, e1, S3, hS5, (hE3.le ex4.wle).le ex5.wle, ?_⟩
                cases hel : ev e1 S3 with
                | stuck => rw [hel] at h1; exact h1.elim
                | exc c fs S' => rw [hel] at h1; exact h1.elim
                | ok yv S4 =>
                  rw [hel] at h1
                  intro w6 H6 uv ex6 hS6 huv
                  have e16 := (e14.trans ex5).trans ex6
                  obtain ⟨a1, a2, a3⟩ := unhide hDn plain hS1 e16 hS6
                  simp only at h1
                  split at h1
                  · rename_i hc
                    cases huk with
                    | v huk =>
                      obtain ⟨b, rfl⟩ := tup_ref huk
                      have huk6 : Rep g w6.F (.ref b) (.tup ds) := huk.le ex6.fle
                      have l : ks.length = acc.length := by have := rv.1.len; simpa using this
                      obtain ⟨p1, p2, p3⟩ := dputN_rep huk6 huv (rv.1.le a2.wle) (rv.2.le a2.wle)
                      refine ⟨D, b, _, ks, keyN (.tup ds), rfl, rfl, a3, fun ho => ksOk_of hS6.le (rv.1.le a2.wle) ho, rep_nv hS6.le huk6 (Bool.and_eq_true _ _ |>.mp hc.1).1, hc.1, by rw [l]; exact line_lt hc.2, xs.length - (i + 1), by omega, rfl, hlt, w6, S4, dputN (.tup ds) yv acc, _, by rw [p1]; exact upd_same, ⟨p2, p3⟩, ?_⟩
                      rw [hid_upd]
                      exact ⟨a1, ex1.trans a2, SatG.ext h1 a2⟩
                  · exact h1.elim
              | _ => exact h1.elim
  · have e : i = xs.length := by omega
    subst e
    rw [List.drop_length] at h1
    obtain ⟨hS1', ex1'⟩ := new_hid hS1 hDn (.ext (dnP D (acc.map fun p => keyN p.1) ks))
    rw [hH] at hS1' ex1'
    refine .inl ⟨(hJ w1 H S1 ex1.wle hS1' _).2 rfl, ?_⟩
    have h1 : SatG g W s w1 (hid H D) (RepV g) (kDcn acc S1) Q := h1
    obtain ⟨c1, c2⟩ := new_cel hS1 hDn (.ext (dnP D (acc.map fun p => keyN p.1) ks)) (c := .dcn acc) ⟨ks, upd_same, rv.1, rv.2⟩
    rw [hH] at c1 c2
    exact h1 _ _ _ c2 c1 (.r (at_end hS1.len))
section
variable {X : Cx} {T : List (Addr × Str)} {W : WX} {kx vx tg iter : Expr} {ifs : List Expr} {scope : Scope} {own : List (Str × Nat)} {pos : Pos} {it : IM} {t : TgM} {is : List Nat} {ts : TM} {ek ev : EM}
theorem e_dcN (hu : X.A.units + 8 < cLine) (hc : X.calm = true) (hN : X.N.Nodup) (hi : PI X tg iter (rdI (gX X T) W it)) (ok : BlkOk X.N X.env.scope scope own)
    (hg : ∀ s H C cl fp, PG (X.blk s H scope (compEnvC scope cl C X.env) fp) tg (rdTg (gX X T) t is)) (ht : ∀ s H C cl fp, PTs (X.blk s H scope (compEnvC scope cl C X.env) fp) ifs (rdT (gX X T) W0 ts))
    (hk : ∀ s H C cl fp, PE (X.blk s H scope (compEnvC scope cl C X.env) fp) kx (rd (gX X T) W0 ek)) (hv : ∀ s H C cl fp, PE (X.blk s H scope (compEnvC scope cl C X.env) fp) vx (rd (gX X T) W0 ev))
    (hio : ∀ i ∈ is, i ∈ own.map (·.2) := by decide) (hs : ∀ x, foldedSetIterable iter X.env x = pure x := by intro _; rfl) :
    PE X (.DictComp kx vx [⟨tg, iter, ifs, 0⟩] scope pos) (rd (gX X T) W (eDcN it t ts ek ev (own.map (·.2)))) := PE_imp (pe_dcn ⟨hc, hN, hu, hi, ok, hg, ht, hk, hv, hs⟩) (dcn_rd (g := gX X T) hio)
theorem s_setDcN {i : Nat} {y : Str} {py spos : Pos} (hu : X.A.units + 8 < cLine) (hc : X.calm = true) (hN : X.N.Nodup) (hi : PI X tg iter (rdI (gX X T) W it)) (ok : BlkOk X.N X.env.scope scope own)
    (hg : ∀ s H C cl fp, PG (X.blk s H scope (compEnvC scope cl C X.env) fp) tg (rdTg (gX X T) t is)) (ht : ∀ s H C cl fp, PTs (X.blk s H scope (compEnvC scope cl C X.env) fp) ifs (rdT (gX X T) W0 ts))
    (hk : ∀ s H C cl fp, PE (X.blk s H scope (compEnvC scope cl C X.env) fp) kx (rd (gX X T) W0 ek)) (hv : ∀ s H C cl fp, PE (X.blk s H scope (compEnvC scope cl C X.env) fp) vx (rd (gX X T) W0 ev))
    (hsw : swapsWith (.DictComp kx vx [⟨tg, iter, ifs, 0⟩] scope pos) (some (.Name y py)) spos.line X.env = pure true) (hy : X.N[i]? = some y := by rfl) (hyl : X.env.scope.names.lookup y = some .local := by rfl) (hio : ∀ i ∈ is, i ∈ own.map (·.2) := by decide) (hs : ∀ x, foldedSetIterable iter X.env x = pure x := by intro _; rfl) :
    PS X (.Assign [.Name y py] (.DictComp kx vx [⟨tg, iter, ifs, 0⟩] scope pos) spos) (rdS (gX X T) W (sAsg (gNm i) (eDcN it t ts ek ev (own.map (·.2))))) :=
  PS_imp (ps_setDcn ⟨hc, hN, hu, hi, ok, hg, ht, hk, hv, hs⟩ hy hyl hsw) fun E s H h => by
    refine dcn_rd (g := gX X T) hio s H _ ?_
    refine rdS_ofE (f := fun x e S1 => match gNm i x e with | some e1 => .go (.nx e1) S1 | none => .stuck) h fun w1 H1 S1 e v x hS hE hx h1 => ?_
    exact h1 w1 H1 _ (Ext.refl _ _) hS (hE.set hx)
end
end Ax
/-! Ax28: dicts by tuples: sorted(d), list(d) -/
namespace Ax
open PySem PySem.Spec PyProof.Rows L2

theorem ent_key : ∀ {nk : List NestedKey} {ks : List (Addr × V)} {vs : List Value} {j : Nat} {en : DictEntry}, (entN nk ks vs)[j]? = some en → ∃ q, ks[j]? = some q ∧ en.key = .ref q.1
  | k :: nk, q :: ks, v :: vs, 0, en, h => by
    have h : some (⟨hashN k, .ref q.1, v⟩ : DictEntry) = some en := h
    cases h
    exact ⟨q, rfl, rfl⟩
  | k :: nk, q :: ks, v :: vs, j + 1, en, h => by
    obtain ⟨q', h1, h2⟩ := ent_key (nk := nk) (ks := ks) (vs := vs) (j := j) h
    exact ⟨q', h1, h2⟩
  | [], _, _, _, _, h => by simp [entN] at h
  | _ :: _, [], _, _, _, h => by simp [entN] at h
  | _ :: _, _ :: _, [], _, _, h => by simp [entN] at h
theorem ent_len : ∀ {nk : List NestedKey} {ks : List (Addr × V)} {vs : List Value}, nk.length = ks.length → ks.length = vs.length → (entN nk ks vs).length = ks.length
  | [], [], [], _, _ => rfl
  | k :: nk, q :: ks, v :: vs, h1, h2 => by
    show (entN nk ks vs).length + 1 = ks.length + 1
    rw [ent_len (by simpa using h1) (by simpa using h2)]
  | [], _ :: _, _, h, _ => by simp at h
  | _ :: _, [], _, h, _ => by simp at h
  | [], [], _ :: _, _, h => by simp at h
  | _ :: _, _ :: _, [], _, h => by simp at h
/-- the keys that come out of it, in order -/
theorem keys_out {nk : List NestedKey} {ks : List (Addr × V)} {vs : List Value} {es : Array DictEntry} {acc : Array Value} (l1 : nk.length = ks.length) (l2 : ks.length = vs.length) (he : es.toList = entN nk ks vs)
    (it : ItemsOf (fun i v => ∃ en : DictEntry, es[i]? = some en ∧ v = en.key) acc es.size) : acc.toList = ks.map fun q => Value.ref q.1 := by
  have sz : es.size = ks.length := by rw [← Array.length_toList, he, ent_len l1 l2]
  apply List.ext_getElem?
  intro j
  by_cases hj : j < acc.size
  · have hv : acc[j]? = some acc[j] := Array.getElem?_eq_getElem hj
    obtain ⟨en, h1, h2⟩ := it.2 j _ hv
    rw [← Array.getElem?_toList, he] at h1
    obtain ⟨q, h3, h4⟩ := ent_key h1
    rw [Array.getElem?_toList, hv, List.getElem?_map, h3, h2, h4]
    rfl
  · have : acc.size = es.size := it.1
    rw [List.getElem?_eq_none (by rw [Array.length_toList]; omega), List.getElem?_eq_none (by rw [List.length_map]; omega)]
theorem vals_refs2 : ∀ ks : List (Addr × V), Vals (ks.map fun k => V.ref k.1) (ks.map fun k => Value.ref k.1)
  | [] => .nil
  | _ :: ks => .cons rfl (vals_refs2 ks)
theorem sorted_src {prog : Program} {w : World} {A : Around} {E : Value → Shared → Prop} {s : Shared} {T : String} {r d : Addr} {n : Nat} {P : Nat → Value → Prop} {OK : Heap → Prop} {Q : Value → Shared → Prop} (K : PySem.W.KdlSrc prog w T r d n P OK) (hh : A.handled = none) (ok : OK s.heap) (hn : n ≤ sizeLine)
    (h : ∀ (h' : Heap) (tk : Nat) (acc : Array Value), (∀ b o, s.heap.get? b = some o → h'.get? b = some o) → ItemsOf P acc n →
      wpAny (model prog w) A.in1 (call (.builtin "list.sort") [.ref h'.objs.size]) (fun _ s' => Q (.ref h'.objs.size) s') E { s with heap := h'.push (seqObj "list" acc.toList.toArray 0), toks := tk }) : wpAny (model prog w) A (call (.builtin "sorted") [.ref r]) Q E s := by
  refine Calls.call_function_entry kind_sorted plain_sorted entry_sorted (args_sorted1 _) ?_
  unfold Builtin.«sorted»
  refine wpAny_bind (m := checkCount "sorted" 1 1 _) (wpAny_pure (wpAny_bind ?_))
  refine PySem.W.kdu_collect (A := A.in1) K hh ok hn fun h' tk acc hk hacc => wpAny_bind (wpAny_newList ?_ (by rw [Array.length_toList, hacc.1]; exact hn))
  exact wpAny_bind (wpAny_holding (wpAny_mono (h h' tk acc hk hacc) (fun _ s' x => wpAny_pure ⟨_, rfl, x⟩) fun _ _ e => e))
def rSrtN (X : Cx) (T : List (Addr × Str)) : List V → Hp → VK → Prop := fun vs H Q => ∃ (a : Addr) (nk : List NestedKey) (ks : List (Addr × V)) (ds : List D), vs = [V.ref a] ∧ H a = some (.ext (dnP a nk ks)) ∧ nk.length = ks.length ∧ RepAll (gX X T) H (ks.map fun k => V.ref k.1) ds ∧ srtOk ds = true ∧
  ∀ (ys : List V) (p : Addr), H p = none → (∀ F, RepAll (gX X T) F (ks.map fun k => V.ref k.1) ds → RepAll (gX X T) F ys (srtD ds)) → Q (.ref p) (upd H p (.lst ys))
theorem cr_srtN {X : Cx} {T : List (Addr × Str)} (hc : X.calm = true) (hu : X.A.units + 66 < cLine) : CallR X (.builtin "sorted") (rSrtN X T) := by
  intro pins s σ H vs us Q I r h
  obtain ⟨a, nk, ks, ds, rfl, hH, l1, hr, ok, q⟩ := h
  rw [Vals.ref1 r]
  obtain ⟨⟨h1, h2, h3, h4, uv, h5, o, es, ep, h6, h7, h8, h9⟩, _⟩ := I.hok a _ hH
  have l2 : ks.length = uv.length := by have := h5.length; rwa [List.length_map] at this
  have sz : es.size = ks.length := by rw [← Array.length_toList, h9, ent_len l1 l2]
  unfold srtOk at ok
  rw [Bool.and_eq_true, Bool.and_eq_true] at ok
  obtain ⟨⟨o1, o2⟩, o3⟩ := ok
  have o1 : ∀ d ∈ ds, okd 59 d = true := List.all_eq_true.mp o1
  have o2 : ∀ d ∈ ds, ∀ e ∈ ds, PySem.W.alike (toP d) (toP e) = true := fun d hd e he => List.all_eq_true.mp (List.all_eq_true.mp o2 d hd) e he
  have hlen : ks.length = ds.length := by have := hr.len; rwa [List.length_map] at this
  refine sorted_src (kdl_raw h1 h7 h8) (I.ok.hd hc) h6 (by omega) fun h' tk acc hk it => ?_
  have ek := keys_out l1 l2 h9 it
  rw [ek]
  have I2 : Inv X pins σ H { s with heap := h', toks := tk } := I.kept hk
  have rv := vals_refs2 ks
  generalize hxs : (ks.map fun k => V.ref k.1) = xs at *
  generalize hvs : (ks.map fun k => Value.ref k.1) = vs at *
  have lx : xs.length = ds.length := by rw [← hxs, List.length_map]; exact hlen
  have snd : (xs.zip ds).map Prod.snd = ds := List.map_snd_zip (by omega)
  have mem : ∀ p ∈ xs.zip ds, p.2 ∈ ds := fun p hp => by rw [← snd]; exact List.mem_map.mpr ⟨p, hp, rfl⟩
  have old : ∀ b o, h'.get? b = some o → (h'.push (seqObj "list" vs.toArray 0)).get? b = some o := fun b o e => Heap.get?_push_of_some _ e
  have ho : (h'.push (seqObj "list" vs.toArray 0)).get? h'.objs.size = some (seqObj "list" vs.toArray 0) := Heap.get?_push_size _ rfl
  have rd : PySem.W.EachIs (fun u p => ∃ as, Reads (h'.push (seqObj "list" vs.toArray 0)) u (toP p.2) as ∧ h'.objs.size ∉ as) vs (xs.zip ds) :=
    (each_reads (T := T) I2 rv hr o1).mono fun u p ⟨as, z⟩ => ⟨as, PyProof.Rows.Reads.keeps old z, fun hm => by
      obtain ⟨ob, hob⟩ := PyProof.On.reads_mem_get z _ hm
      exact absurd (Heap.lt_size hob) (Nat.lt_irrefl _)⟩
  refine PySem.W.list_sort_data (β := V × D) (bs := xs.zip ds) (enc := fun p => toP p.2) (R := fun u p => RelV p.1 u) ho (each_zip rv lx) rd (fun d hd e he => ?_) ?_ (by rw [List.length_zip]; omega) (fun p hp => ?_) fun out e1 e2 => ?_
  · obtain ⟨p, hp, rfl⟩ := List.mem_map.mp hd
    obtain ⟨p', hp', rfl⟩ := List.mem_map.mp he
    exact o2 _ (mem p hp) _ (mem p' hp')
  · rcases Bool.or_eq_true _ _ |>.mp o3 with o3 | o3
    · refine .inl fun d hd => ?_
      obtain ⟨p, hp, rfl⟩ := List.mem_map.mp hd
      have z := List.all_eq_true.mp o3 _ (mem p hp)
      revert z
      generalize p.2 = d
      intro z
      unfold tup0 at z
      split at z
      · rename_i x r
        exact ⟨toP x, toPs r, by simp [toP, toPs]⟩
      · cases z
    · refine .inr fun d hd => ?_
      obtain ⟨p, hp, rfl⟩ := List.mem_map.mp hd
      have z := List.all_eq_true.mp o3 _ (mem p hp)
      revert z
      generalize p.2 = d
      intro z
      unfold ntup at z
      split at z <;> first | (cases z; done) | (simp [toP]; done)
  · have := (okd_lay 59 _ (o1 _ (mem p hp))).2
    have e3 : X.A.in1.units = X.A.units + 1 := rfl
    omega
  · obtain ⟨e, he'⟩ := sortedHeap_at (out := out.toArray) ho
    have hv : Vals (((xs.zip ds).mergeSort (PySem.W.dataLe false fun p => toP p.2)).map Prod.fst) out := each_vals e2
    have hl2 : (((xs.zip ds).mergeSort (PySem.W.dataLe false fun p => toP p.2)).map Prod.fst).length ≤ sizeLine := by
      rw [List.length_map, List.length_mergeSort, List.length_zip]; omega
    have kept : ∀ b o, h'.get? b = some o → (sortedHeap (h'.push (seqObj "list" vs.toArray 0)) h'.objs.size vs out.toArray).get? b = some o := fun b o eb => by
      have lt := Heap.lt_size eb
      rw [sortedHeap_old (Nat.ne_of_lt lt) (by rw [Heap.size_push]; exact Nat.lt_succ_of_lt lt)]
      exact old b o eb
    refine ⟨.ref _, upd H h'.objs.size (.lst (((xs.zip ds).mergeSort (PySem.W.dataLe false fun p => toP p.2)).map Prod.fst)), I2.laid (t' := tk) kept (Nat.le_refl _) ⟨hl2, out, e, hv, he'⟩, rfl, q _ _ (I2.hok.fresh (Nat.le_refl _)) fun F hF => ?_⟩
    have e3 : srtD ds = ((xs.zip ds).mergeSort (PySem.W.dataLe false fun p => toP p.2)).map Prod.snd := by
      rw [srtD_eq, List.map_mergeSort (f := Prod.snd) (s := PySem.W.dataLe false toP) (r := PySem.W.dataLe false fun p : V × D => toP p.2) (fun a _ b _ => rfl), snd]
    rw [e3]
    exact repAll_of fun p hp => hF.zipM p ((List.mergeSort_perm _ _).mem_iff.mp hp)
/-- the keys of a cell of it -/
def dnview (S : Store) : Vl → Option (List D)
  | .r n => match S[n]? with
    | some (.dcn ps) => some (ps.map (·.1))
    | _ => none
  | _ => none
theorem repVs_un {g : G} {w : Wd} : ∀ {vs : List V} {ds : List D}, RepVs g w vs (ds.map .v) → RepAll g w.F vs ds
  | [], [], _ => .nil
  | v :: vs, d :: ds, h => by
    cases h with
    | cons r t => cases r with
      | v r => exact .cons r (repVs_un t)
  | [], _ :: _, h => by cases h
  | _ :: _, [], h => by cases h
def fSrtN (k : KL) (xs : List Vl) (S : Store) : Out Vl := match xs with
  | [x] => match dnview S x with
    | some ds => if srtOk ds then k ((srtD ds).map .v) S else .stuck
    | none => .stuck
  | _ => .stuck
theorem fSrtN_of {X : Cx} {T : List (Addr × Str)} {W : WX} {k : KL} (hk : TakesList (gX X T) W k) : CalD (gX X T) W (fSrtN k) (rSrtN X T) := by
  intro s w H S vs xs Q hS hx h
  unfold fSrtN at h
  split at h
  · rename_i x
    cases hx with
    | cons h1 hx =>
      cases hx
      split at h
      · rename_i ds hd
        unfold dnview at hd
        split at hd
        · rename_i n
          split at hd
          · rename_i ps hp
            cases hd
            cases h1 with
            | r hn =>
              obtain ⟨ks, q1, q2, q3⟩ := hS.cel _ _ _ hn hp
              have q2' : RepVs (gX X T) w (ks.map fun k => V.ref k.1) ((ps.map (·.1)).map .v) := by rw [List.map_map]; exact q2
              split at h
              · rename_i ok
                have l : ks.length = ps.length := by have := q2.len; simpa using this
                exact ⟨_, _, ks, ps.map (·.1), rfl, q1, by simp [l], (repVs_un q2').le hS.hle, ok, fun zs p hp hF => hk hS (hF _ (repVs_un q2')).vs h p hp⟩
              · exact h.elim
          · cases hd
        · cases hd
      · exact h.elim
  · exact h.elim
theorem hu8 {k : Nat} {A : Around} (hr : Room k A) : A.units + 8 < cLine := by have := hu66 hr; omega
theorem hu9 {k : Nat} {A : Around} (hr : Room k A) : A.units + 9 < cLine := by have := hu66 hr; omega
end Ax
/-! Ax29: x is True, x is False -/
namespace Ax
open PySem PySem.Spec PyProof.Rows L2

theorem beq_bool (a b : Bool) : (Value.bool a == Value.bool b) = (a == b) := by cases a <;> cases b <;> decide
def rIsB : R2 := fun x y H Q => ∃ b, y = .bl b ∧ ((∃ a, x = .bl a ∧ Q (.bl (a == b)) H) ∨ (x = .non ∧ Q (.bl false) H))
theorem op_isB {X : Cx} : OpR X (compareOp .Is) rIsB := by
  intro pins s σ H x y v u Q I rx ry h
  obtain ⟨b, rfl, h⟩ := h
  cases (show u = Value.bool b from ry)
  rcases h with ⟨a, rfl, q⟩ | ⟨rfl, q⟩
  · cases (show v = Value.bool a from rx)
    exact wpAny_is_plain rfl (fin_bl I q (beq_bool a b).symm)
  · cases (show v = Value.none from rx)
    exact wpAny_is_plain rfl (fin_bl I q (by cases b <;> rfl))
def fIsB (x y : Vl) (S : Store) : Out Vl := match x, y with
  | .v (.bl a), .v (.bl b) => .ok (.v (.bl (a == b))) S
  | .v .non, .v (.bl _) => .ok (.v (.bl false)) S
  | _, _ => .stuck
theorem fIsB_of {g : G} {W : WX} : OpD g W fIsB rIsB := by
  intro s w H S v u x y Q hS hx hy h
  unfold fIsB at h
  split at h
  · rename_i a b
    cases hx with
    | v hx => cases hx; cases hy with
      | v hy => cases hy; exact ⟨b, rfl, .inl ⟨a, rfl, h w H _ (Ext.refl _ _) hS (.v (.bl _))⟩⟩
  · rename_i b
    cases hx with
    | v hx => cases hx; cases hy with
      | v hy => cases hy; exact ⟨b, rfl, .inr ⟨rfl, h w H _ (Ext.refl _ _) hS (.v (.bl _))⟩⟩
  · exact h.elim
end Ax
/-! Ax30: list comprehensions with two fors -/
namespace Ax
open PySem PySem.Spec PyProof.Rows L2
def lc2Go (t : TgM) (ts : TM) (it2 : IM) (t2 : TgM) (ts2 : TM) (el : EM) (own2 : List Nat) : List Vl → Sl → Store → List Vl → Out (List Vl)
  | [], _, S, acc => .ok acc S
  | x :: xs, e, S, acc => match t x e with
    | none => .stuck
    | some e1 => match ts e1 S with
      | .ok true S1 => match it2 e1 S1 with
        | .ok ys S2 => match lcGo t2 ts2 el ys (fgt own2 e1) S2 acc with
          | .ok acc2 S3 => lc2Go t ts it2 t2 ts2 el own2 xs e S3 acc2
          | _ => .stuck
        | _ => .stuck
      | .ok false S1 => lc2Go t ts it2 t2 ts2 el own2 xs e S1 acc
      | _ => .stuck
def eLc2X (k : List Vl → Store → Out Vl) (it : IM) (t : TgM) (ts : TM) (it2 : IM) (t2 : TgM) (ts2 : TM) (el : EM) (own own2 : List Nat) : EM := fun e S => (it e S).bind fun xs S1 => (lc2Go t ts it2 t2 ts2 el own2 xs (fgt own e) S1 []).bind k
section
variable {X : Cx} {T : List (Addr × Str)} {W : WX} {g : G}
theorem lc2_rd {k : List Vl → Store → Out Vl} (hk : TakesList g W k) {it it2 : IM} {t t2 : TgM} {ts ts2 : TM} {el : EM} {own own2 is is2 : List Nat} (hio : ∀ i ∈ is, i ∈ own) (hio2 : ∀ i ∈ is2, i ∈ own2) : ∀ s H Q, rd g W (eLc2X k it t ts it2 t2 ts2 el own own2) s H Q → tLc2 (rdI g W it) (rdTg g t is) (rdT g W0 ts) (rdI g W0 it2) (rdTg g t2 is2) (rdT g W0 ts2) (rd g W0 el) own own2 s H Q := fun s H Q h => by
  refine rd_bind (rel := ItOk g) (f := fun xs e S1 => (lc2Go t ts it2 t2 ts2 el own2 xs (fgt own e) S1 []).bind k) h fun w0 H0 S0 e0 J xs hS0 hE0 hJ h0 => ?_
  intro D hD
  refine ⟨fun i m H => ∃ w1 S1 acc vs, m = xs.length - i ∧ i ≤ xs.length ∧ H D = some (.lst vs) ∧ RepVs g w1 vs acc ∧ RepSt g w1 (hid H D) S1 ∧ Ext w0 H0 w1 (hid H D) ∧ SatG g W s w1 (hid H D) (RepV g) ((lc2Go t ts it2 t2 ts2 el own2 (xs.drop i) (fgt own e0) S1 acc).bind k) Q,
    ⟨xs.length, w0, S0, [], [], by simp, Nat.zero_le _, upd_same, .nil, ?_⟩, ?_⟩
  · have e : hid (upd H0 D (.lst [])) D = H0 := by
      rw [hid_upd]
      funext b
      by_cases hb : b = D
      · subst hb; rw [hid_same, hD]
      · rw [hid_ne hb]
    rw [e]
    exact ⟨hS0, Ext.refl _ _, h0⟩
  rintro i m H ⟨w1, S1, acc, vs, rfl, hi, hHD, rvs, hS1, ex1, h1⟩
  have hDn : hid H D D = none := hid_same
  have hH : upd (hid H D) D (.lst vs) = H := upd_hid hHD
  have lstOk : ∀ vs : List V, noTbl (.lst vs) ∧ ∀ q c, HO.lst vs ≠ LamX.CodeO c q := fun vs => ⟨trivial, fun q c z => by unfold LamX.CodeO at z; cases z⟩
  by_cases hlt : i < xs.length
  · rw [List.drop_eq_getElem_cons hlt] at h1
    obtain ⟨hS1', ex1'⟩ := new_hid hS1 hDn (.lst vs)
    rw [hH] at hS1' ex1'
    obtain ⟨go, yl⟩ := (hJ w1 H S1 ex1.wle hS1' i).1 xs[i] (List.getElem?_eq_getElem hlt)
    refine .inr ⟨go, fun H' => ∃ w2 S2 acc vs, H' D = some (.lst vs) ∧ RepVs g w2 vs acc ∧ RepSt g w2 (hid H' D) S2 ∧ Ext w0 H0 w2 (hid H' D) ∧ SatG g W s w2 (hid H' D) (RepV g) ((lc2Go t ts it2 t2 ts2 el own2 (xs.drop (i + 1)) (fgt own e0) S2 acc).bind k) Q,
      fun H' ⟨w2, S2, acc, vs, q⟩ => ⟨xs.length - (i + 1), by omega, w2, S2, acc, vs, rfl, hlt, q⟩, fun v H2 y => ?_⟩
    obtain ⟨w2, ex2, hS2, hx⟩ := yl v H2 y
    refine ⟨w2, fgt own e0, S1, xs[i], hS2, (hE0.wipe own).le (WLe.mk ?_ ?_), hx, ?_⟩
    · obtain ⟨m1, z1⟩ := ex1.pre
      obtain ⟨m2, z2⟩ := ex2.pre
      exact ⟨m1 ++ m2, by rw [z2, z1, List.append_assoc]⟩
    · exact ex1.fle.trans ex2.fle
    · unfold lc2Go at h1
      cases hq : t xs[i] (fgt own e0) with
      | none => rw [hq] at h1; exact h1.elim
      | some e1 =>
        rw [hq] at h1
        simp only at h1 ⊢
        intro w3 H3 s3 ex3 hS3 hE3 sb3
        refine ⟨by rw [(sb3.mono hio).wipe, wipe_wipe], w3, e1, S1, hS3, hE3, ?_⟩
        have ex13 : Ext w1 (upd (hid H D) D (.lst vs)) w3 H3 := by rw [hH]; exact ex2.trans ex3
        cases hts : ts e1 S1 with
        | stuck => rw [hts] at h1; exact h1.elim
        | exc c fs S' => rw [hts] at h1; exact h1.elim
        | ok b S2 =>
          rw [hts] at h1
          intro w4 H4 b' ex4 hS4 hb
          subst hb
          have ex14 := ex13.trans ex4
          cases b' with
          | false =>
            rw [if_neg Bool.false_ne_true]
            obtain ⟨a1, a2, a3⟩ := unhide hDn (lstOk vs) hS1 ex14 hS4
            exact ⟨w4, S2, acc, vs, a3, rvs.le a2.wle, a1, ex1.trans a2, SatG.ext h1 a2⟩
          | true =>
            rw [if_pos rfl]
            simp only at h1
            refine ⟨w4, e1, S2, hS4, hE3.le ex4.wle, ?_⟩
            cases hit : it2 e1 S2 with
            | stuck => rw [hit] at h1; exact h1.elim
            | exc c fs S' => rw [hit] at h1; exact h1.elim
            | ok ys S3 =>
              rw [hit] at h1
              simp only at h1
              intro w5 H5 J1 ex5 hS5 hJ1
              have ex15 := ex14.trans ex5
              have hE5 : RepSl g w5 s3 e1 := (hE3.le ex4.wle).le ex5.wle
              refine ⟨fun j m H => ∃ w6 S6 acc6 vs6, m = ys.length - j ∧ j ≤ ys.length ∧ H D = some (.lst vs6) ∧ RepVs g w6 vs6 acc6 ∧ RepSt g w6 (hid H D) S6 ∧ Ext w0 H0 w6 (hid H D) ∧ WLe w5 w6 ∧ SatG g W s w6 (hid H D) (RepV g) ((match lcGo t2 ts2 el (ys.drop j) (fgt own2 e1) S6 acc6 with
                  | .ok acc2 S3 => lc2Go t ts it2 t2 ts2 el own2 (xs.drop (i + 1)) (fgt own e0) S3 acc2
                  | _ => .stuck).bind k) Q, ⟨ys.length, ?_⟩, ?_⟩
              · obtain ⟨a1, a2, a3⟩ := unhide hDn (lstOk vs) hS1 ex15 hS5
                exact ⟨w5, S3, acc, vs, by simp, Nat.zero_le _, a3, rvs.le a2.wle, a1, ex1.trans a2, ⟨⟨[], by simp⟩, HLe.refl _⟩, SatG.ext h1 a2⟩
              rintro j m H ⟨w6, S6, acc6, vs6, rfl, hj, hHD6, rvs6, hS6, ex6, wl6, h6⟩
              have hDn6 : hid H D D = none := hid_same
              have hH6 : upd (hid H D) D (.lst vs6) = H := upd_hid hHD6
              by_cases hjlt : j < ys.length
              · rw [List.drop_eq_getElem_cons hjlt] at h6
                obtain ⟨hS6', ex6'⟩ := new_hid hS6 hDn6 (.lst vs6)
                rw [hH6] at hS6' ex6'
                obtain ⟨go2, yl2⟩ := (hJ1 w6 H S6 wl6 hS6' j).1 ys[j] (List.getElem?_eq_getElem hjlt)
                refine .inr ⟨go2, fun H' => ∃ w7 S7 acc7 vs7, H' D = some (.lst vs7) ∧ RepVs g w7 vs7 acc7 ∧ RepSt g w7 (hid H' D) S7 ∧ Ext w0 H0 w7 (hid H' D) ∧ WLe w5 w7 ∧ SatG g W s w7 (hid H' D) (RepV g) ((match lcGo t2 ts2 el (ys.drop (j + 1)) (fgt own2 e1) S7 acc7 with
                    | .ok acc2 S3 => lc2Go t ts it2 t2 ts2 el own2 (xs.drop (i + 1)) (fgt own e0) S3 acc2
                    | _ => .stuck).bind k) Q,
                  fun H' ⟨w7, S7, acc7, vs7, q⟩ => ⟨ys.length - (j + 1), by omega, w7, S7, acc7, vs7, rfl, hjlt, q⟩, fun v H7 y => ?_⟩
                obtain ⟨w7, ex7, hS7, hx7⟩ := yl2 v H7 y
                have wl57 : WLe w5 w7 := by
                  obtain ⟨m1, z1⟩ := wl6.pre
                  obtain ⟨m2, z2⟩ := ex7.pre
                  exact ⟨⟨m1 ++ m2, by rw [z2, z1, List.append_assoc]⟩, wl6.fle.trans ex7.fle⟩
                refine ⟨w7, fgt own2 e1, S6, ys[j], hS7, (hE5.wipe own2).le wl57, hx7, ?_⟩
                unfold lcGo at h6
                cases hq2 : t2 ys[j] (fgt own2 e1) with
                | none => rw [hq2] at h6; exact h6.elim
                | some e2 =>
                  rw [hq2] at h6
                  simp only at h6 ⊢
                  intro w8 H8 s8 ex8 hS8 hE8 sb8
                  refine ⟨by rw [(sb8.mono hio2).wipe, wipe_wipe], w8, e2, S6, hS8, hE8, ?_⟩
                  have ex68 : Ext w6 (upd (hid H D) D (.lst vs6)) w8 H8 := by rw [hH6]; exact ex7.trans ex8
                  cases hts2 : ts2 e2 S6 with
                  | stuck => rw [hts2] at h6; exact h6.elim
                  | exc c fs S' => rw [hts2] at h6; exact h6.elim
                  | ok b S9 =>
                    rw [hts2] at h6
                    intro w9 H9 b' ex9 hS9 hb
                    subst hb
                    have ex69 := ex68.trans ex9
                    cases b' with
                    | false =>
                      rw [if_neg Bool.false_ne_true]
                      obtain ⟨a1, a2, a3⟩ := unhide hDn6 (lstOk vs6) hS6 ex69 hS9
                      have wl : WLe w5 w9 := by
                        obtain ⟨m1, z1⟩ := wl6.pre
                        obtain ⟨m2, z2⟩ := a2.pre
                        exact ⟨⟨m1 ++ m2, by rw [z2, z1, List.append_assoc]⟩, wl6.fle.trans a2.fle⟩
                      exact ⟨w9, S9, acc6, vs6, a3, rvs6.le a2.wle, a1, ex6.trans a2, wl, SatG.ext h6 a2⟩
                    | true =>
                      rw [if_pos rfl]
                      simp only at h6
                      refine ⟨w9, e2, S9, hS9, hE8.le ex9.wle, ?_⟩
                      cases hel : el e2 S9 with
                      | stuck => rw [hel] at h6; exact h6.elim
                      | exc c fs S' => rw [hel] at h6; exact h6.elim
                      | ok y Sa =>
                        rw [hel] at h6
                        intro wa Ha u exa hSa hu
                        have ex6a := ex69.trans exa
                        obtain ⟨a1, a2, a3⟩ := unhide hDn6 (lstOk vs6) hS6 ex6a hSa
                        have wl : WLe w5 wa := by
                          obtain ⟨m1, z1⟩ := wl6.pre
                          obtain ⟨m2, z2⟩ := a2.pre
                          exact ⟨⟨m1 ++ m2, by rw [z2, z1, List.append_assoc]⟩, wl6.fle.trans a2.fle⟩
                        simp only at h6
                        split at h6
                        · rename_i hEq
                          split at hEq
                          · rename_i hl
                            refine ⟨vs6, a3, by rw [rvs6.len]; exact line_lt hl, wa, Sa, acc6 ++ [y], vs6 ++ [u], upd_same, (rvs6.le a2.wle).append (.cons hu .nil), ?_⟩
                            rw [hid_upd]
                            refine ⟨a1, ex6.trans a2, wl, ?_⟩
                            rw [hEq]
                            exact SatG.ext h6 a2
                          · cases hEq
                        · exact h6.elim
              · have e : j = ys.length := by omega
                subst e
                rw [List.drop_length] at h6
                obtain ⟨hS6', ex6'⟩ := new_hid hS6 hDn6 (.lst vs6)
                rw [hH6] at hS6' ex6'
                exact .inl ⟨(hJ1 w6 H S6 wl6 hS6' _).2 rfl, w6, S6, acc6, vs6, hHD6, rvs6, hS6, ex6, h6⟩
  · have e : i = xs.length := by omega
    subst e
    rw [List.drop_length] at h1
    obtain ⟨hS1', ex1'⟩ := new_hid hS1 hDn (.lst vs)
    rw [hH] at hS1' ex1'
    refine .inl ⟨(hJ w1 H S1 ex1.wle hS1' _).2 rfl, ?_⟩
    have q := hk hS1 rvs (show SatG g W s w1 (hid H D) (RepV g) (k acc S1) Q from h1) D hDn
    rw [hH] at q
    exact q
variable {elt tg iter tg1 iter1 : Expr} {ifs ifs1 : List Expr} {scope : Scope} {own : List (Str × Nat)} {pos : Pos} {it it2 : IM} {t t2 : TgM} {is is2 vs1 : List Nat} {ts ts2 : TM} {el : EM} {k : List Vl → Store → Out Vl}
theorem e_lc2X (hk : TakesList (gX X T) W k) (hc : X.calm = true) (hN : X.N.Nodup) (hi : PI X tg iter (rdI (gX X T) W it)) (ok : BlkOk X.N X.env.scope scope own)
    (hg : ∀ (s : Shared) (H : Hp) (C : Addr) (cl : List (Str × Addr)) (fp : List Addr), PG (X.blk s H scope (compEnvC scope cl C X.env) fp) tg (rdTg (gX X T) t is)) (ht : ∀ (s : Shared) (H : Hp) (C : Addr) (cl : List (Str × Addr)) (fp : List Addr), PTs (X.blk s H scope (compEnvC scope cl C X.env) fp) ifs (rdT (gX X T) W0 ts))
    (hi1 : ∀ (s : Shared) (H : Hp) (C : Addr) (cl : List (Str × Addr)) (fp : List Addr), PI (X.blk s H scope (compEnvC scope cl C X.env) fp) tg1 iter1 (rdI (gX X T) W0 it2))
    (hg1 : ∀ (s : Shared) (H : Hp) (C : Addr) (cl : List (Str × Addr)) (fp : List Addr), PG (X.blk s H scope (compEnvC scope cl C X.env) fp) tg1 (rdTg (gX X T) t2 is2)) (ht1 : ∀ (s : Shared) (H : Hp) (C : Addr) (cl : List (Str × Addr)) (fp : List Addr), PTs (X.blk s H scope (compEnvC scope cl C X.env) fp) ifs1 (rdT (gX X T) W0 ts2))
    (he : ∀ (s : Shared) (H : Hp) (C : Addr) (cl : List (Str × Addr)) (fp : List Addr), PE (X.blk s H scope (compEnvC scope cl C X.env) fp) elt (rd (gX X T) W0 el)) (hv : ∀ i ∈ vs1, i ∈ own.map (·.2) := by decide) (hio : ∀ i ∈ is, i ∈ own.map (·.2) := by decide) (hio2 : ∀ i ∈ is2, i ∈ vs1 := by decide) (hs : ∀ x, foldedSetIterable iter X.env x = pure x := by intro _; rfl) (hs1 : ∀ env x, foldedSetIterable iter1 env x = pure x := by intro _ _; rfl) :
    PE X (.ListComp elt [⟨tg, iter, ifs, 0⟩, ⟨tg1, iter1, ifs1, 0⟩] scope pos) (rd (gX X T) W (eLc2X k it t ts it2 t2 ts2 el (own.map (·.2)) vs1)) := PE_imp (pe_lc2 hc hN hi ok hv hg ht hi1 hg1 ht1 he hs hs1) (lc2_rd hk hio hio2)
end
end Ax
/-! Ax31: a list turned round by a slice -/
namespace Ax
open PySem PySem.Spec PyProof.Rows L2
theorem RepVs.rev {g : G} {w : Wd} : ∀ {vs : List V} {xs : List Vl}, RepVs g w vs xs → RepVs g w vs.reverse xs.reverse
  | _, _, .nil => .nil
  | _, _, .cons h r => by
    rw [List.reverse_cons, List.reverse_cons]
    exact r.rev.append (.cons h .nil)
def fRev (k : KL) (x : Vl) (S : Store) : Out Vl := match llview S x with
  | some xs => k xs.reverse S
  | none => .stuck
def eRev (k : KL) (m : EM) : EM := eUn (fRev k) m
section
variable {X : Cx} {T : List (Addr × Str)} {W : WX} {a : Expr} {n : Nat} {p1 p2 p3 pos : Pos} {ma : EM} {k : KL}
theorem e_rev (hk : TakesList (gX X T) W k) (ha : PE X a (rd (gX X T) W ma)) : PE X (.Subscript a (.Slice none none (some (.UnaryOp .USub (.Constant (.int 1) n p1) p2)) p3) pos) (rd (gX X T) W (eRev k ma)) :=
  PE_imp (pe_revL ha) fun s H Q h => rd_bind (f := fun x e S1 => fRev k x S1) h fun w1 H1 S1 e v x hS hE hx h1 => by
    unfold fRev at h1
    split at h1
    · rename_i xs hxs
      obtain ⟨p, vs, rfl, q, r⟩ := llview_rep hS hx hxs
      exact ⟨p, vs, rfl, q, hk hS r.rev h1⟩
    · exact h1.elim
end
theorem ev_rev {k : KL} {ma : EM} {e : Sl} {S S1 : Store} {x : Vl} {xs : List Vl} {o : Out Vl} (h1 : ma e S = .ok x S1) (h2 : llview S1 x = some xs) (h3 : k xs.reverse S1 = o) : eRev k ma e S = o := by
  unfold eRev
  refine ev_un h1 ?_
  unfold fRev; rw [h2]; exact h3
end Ax
/-! Ax32: a lambda with one parameter, called from a built-in -/
namespace Ax
open PySem PySem.Spec PyProof.Rows L2
/-! ### the lambda's names -/
structure LamS1 (sc scope : Scope) (x : Str) : Prop where
  kind : scope.kind = .function
  co : scope.isCoroutine = false
  gen : scope.isGenerator = false
  own : ∀ y ∈ scope.names, y.2 ≠ .cell ∧ (y.2 = .local → y.1 = x)
  loc : scope.names.lookup x = some .local
  free : ∀ y ∈ scope.names, y.2 = .free → sc.names.lookup y.1 = some .cell ∨ sc.names.lookup y.1 = some .free
def lamS1B (sc scope : Scope) (x : Str) : Bool :=
  decide (scope.kind = .function) && !scope.isCoroutine && !scope.isGenerator && decide (scope.names.lookup x = some .local) && scope.names.all fun y => !decide (y.2 = .cell) && (!decide (y.2 = .local) || decide (y.1 = x)) && (!decide (y.2 = .free) || decide (sc.names.lookup y.1 = some .cell) || decide (sc.names.lookup y.1 = some .free))
theorem lamS1_by {sc scope : Scope} {x : Str} (h : lamS1B sc scope x = true) : LamS1 sc scope x := by
  unfold lamS1B at h
  simp only [Bool.and_eq_true, Bool.or_eq_true, Bool.not_eq_true', decide_eq_true_eq, decide_eq_false_iff_not, List.all_eq_true] at h
  obtain ⟨⟨⟨⟨h1, h2⟩, h3⟩, h5⟩, h4⟩ := h
  refine ⟨h1, h2, h3, fun y hy => ⟨(h4 y hy).1.1, fun e => ((h4 y hy).1.2).resolve_left fun z => z e⟩, h5, fun y hy e => ?_⟩
  rcases (h4 y hy).2 with (z | z) | z
  · exact absurd e z
  · exact .inl z
  · exact .inr z
theorem LamS1.has {X : Cx} {scope : Scope} {x : Str} (L : LamS1 X.env.scope scope x) (ok : X.Ok) : ∀ y ∈ scope.names, y.2 = .free → ∃ c, X.env.cells.lookup y.1 = some c := fun y hy e => by
  rcases L.free y hy e with k | k
  · exact ok.has _ (.inl k)
  · exact ok.has _ (.inr k)
section
variable {X : Cx} {pins : List (Addr × Obj)} {σ : L2.St} {H : Hp} {s : Shared}
theorem lam1_start {A : Around} {outer : List Env} {E : XK} {scope : Scope} {f c' : Addr} {h₁ : Heap} {tk : Nat} {x : Str} {ip : Nat} {v : V} {u : Value} (I : Inv X pins σ H s) (L : LamS1 X.env.scope scope x) (hip : X.N[ip]? = some x) (hN : X.N.Nodup) (e0 : Env0 X.prog X.w X.K X.mg X.base A outer s H) (hd : A.handled = none)
    (hns : h₁.Ns s.heap.objs.size fun y => ([(x, u)] : List (Str × Value)).reverse.lookup y) (kp : ∀ b o, s.heap.get? b = some o → h₁.get? b = some o) (rv : RelV v u) :
    Inv (LamX.lamCx X A outer s H E scope f c') [] (σ.set ip (some v)) H { s with heap := h₁, toks := tk } := by
  have hfree := L.has I.ok
  have cm : ∀ {y c}, (cloFrom X.env.cells scope.names []).lookup y = some c → X.env.cells.lookup y = some c := fun {y c} e => by
    rcases cloFrom_mem (PySem.mem_of_lookup e) with hm | ⟨h1, h2⟩
    · cases hm
    · obtain ⟨c1, hc⟩ := hfree _ h1 rfl
      have hc : X.env.cells.lookup y = some c1 := hc
      have e2 : c = c1 := by
        rw [h2, hc] <;> rfl
      rw [e2]
      exact hc
  have look : ∀ {y}, scope.names.lookup y = some .free → ∃ c, (cloFrom X.env.cells scope.names []).lookup y = some c := fun {y} hl => by
    have hy : (y, NameKind.free) ∈ scope.names := PySem.mem_of_lookup hl
    exact mem_lookup (cloFrom_has (cells := X.env.cells) (acc := []) hy)
  have cellK : ∀ {c : Addr} {v : Option Value}, s.heap.IsCell c v → h₁.IsCell c v := fun {c v} ⟨o, ho, hd⟩ => ⟨_, kp _ _ ho, hd⟩
  have noA : ∀ b : Addr, b ∉ (LamX.lamCx X A outer s H E scope f c').ex := fun b z => absurd (show b ∈ ([] : List Addr) from z) (by simp)
  refine ⟨⟨e0.mod, L.kind, rfl, rfl, Nat.le_refl _, fun y z c e1 e2 => I.ok.inj y z c (cm e1) (cm e2), fun y hy => ?_, fun y c z _ => ?_, fun _ => hd, Around.frames_deeper e0.frames, .inr ⟨rfl, rfl⟩, fun b z => absurd z (noA b), e0.bs, e0.bsz, fun b _ _ => noA b,
      fun b z => absurd z (noA b), e0.funs, e0.frf⟩,
    rfl, e0.bare, Un.kept kp, ⟨_, hns, fun i y v' e1 e2 e3 => ?_⟩, fun y c e => ?_, e0.hok.fresh (Nat.le_refl _), fun y c e => ?_, fun q hq => absurd (show q ∈ ([] : List (Addr × Obj)) ++ [] from hq) (by simp), e0.hok.kept kp, by rw [List.length_set]; exact I.len⟩
  · have hy : scope.names.lookup y = some .cell ∨ scope.names.lookup y = some .free := hy
    rcases hy with hy | hy
    · exact absurd rfl (L.own _ (PySem.mem_of_lookup hy)).1
    · exact look hy
  · have z : false = true := z
    cases z
  · have e3 : Vis scope y := e3
    have e1 : X.N[i]? = some y := e1
    rcases e3 with k | k | k
    · have ey : y = x := (L.own _ (PySem.mem_of_lookup k)).2 rfl
      subst ey
      have ei : ip = i := by
        obtain ⟨l1, q1⟩ := List.getElem?_eq_some_iff.mp hip
        obtain ⟨l2, q2⟩ := List.getElem?_eq_some_iff.mp e1
        exact (List.getElem_inj hN).mp (q1.trans q2.symm)
      subst ei
      have hl : ip < σ.length := by rw [I.len]; exact (List.getElem?_eq_some_iff.mp hip).1
      rw [List.getElem?_set_self hl] at e2
      cases e2
      exact ⟨u, rv, .inl ⟨k, by simp⟩⟩
    · exact absurd rfl (L.own _ (PySem.mem_of_lookup k)).1
    · have ni : ip ≠ i := fun z => by
        subst z
        rw [hip] at e1
        have e1 : x = y := Option.some.inj e1
        subst e1
        rw [L.loc] at k
        cases k
      rw [List.getElem?_set_ne ni] at e2
      obtain ⟨m, hn, hl⟩ := I.loc
      have hvis : Vis X.env.scope y := (L.free _ (PySem.mem_of_lookup k) rfl).elim (fun k => .inr (.inl k)) (fun k => .inr (.inr k))
      obtain ⟨w', r, q⟩ := hl i y v' e1 e2 hvis
      obtain ⟨c2, h2⟩ := look k
      refine ⟨w', r, .inr ⟨.inr k, c2, h2, ?_⟩⟩
      have c1 := cm h2
      rcases q with ⟨k', _⟩ | ⟨_, c3, e', z⟩
      · have k' : X.env.scope.names.lookup y = some .local := k'
        rcases L.free _ (PySem.mem_of_lookup k) rfl with k2 | k2 <;> rw [show X.env.scope.names.lookup y = _ from k2] at k' <;> cases k'
      · rw [c1] at e'
        cases e'
        exact cellK z
  · obtain ⟨w', z⟩ := I.cell y c (cm e)
    exact ⟨w', cellK z⟩
  · exact I.freeC y c (cm e)
/-- the lambda called with one value -/
theorem lam1_code {A : Around} {scope : Scope} {f c' : Addr} {params : Arguments} {body : Expr} {pm ctv : Value} {x : Str} {ip : Nat} {v : V} {u : Value} {k : Nat} {E : XK} {Q : VK} {tb : TE} (I : Inv X pins σ H s) (L : LamS1 X.env.scope scope x) (hip : X.N[ip]? = some x) (hN : X.N.Nodup) (e0 : Env0 X.prog X.w X.K X.mg X.base A X.stack s H) (hr : Room (k + 1) A)
    (hf : s.heap.get? f = some (PySem.W.kla_obj "<lambda>" (X.env.qual ++ "<lambda>") params body scope (cloFrom X.env.cells scope.names []) pm c' ctv)) (hc : H c' = some (LamX.CodeO c' (X.env.qual ++ "<lambda>")))
    (hbind : ∀ (q : Str) (cl : List (Str × Addr)) (pm cv ctv u : Value), bindArgs (PySem.W.kla_fn "<lambda>" q params body scope cl pm cv ctv) ⟨[u], []⟩ = pure [(x, u)])
    (hbody : ∀ (A : Around) (outer : List Env) (s : Shared) (H : Hp), Room k (A.deeper (LamX.lamEnv X scope s.heap.objs.size f c')) → PE (LamX.lamCx X A outer s H E scope f c') body tb) (rv : RelV v u) (ht : tb (σ.set ip (some v)) H Q) :
    codeAny (model X.prog X.w) A (.call (.ref f) ⟨[u], []⟩) (CR (L2.CX X.prog X.w) X.stack X.prog X.w H s Q E) s := by
  obtain ⟨⟨oc, vs, t, hoc, hdc, hvc⟩, _, _⟩ := I.hok c' _ hc
  refine PySem.W.kla_callFunE hr.depth hf rfl L.co L.gen rfl ⟨c', oc, vs, t, rfl, hoc, hdc, hvc⟩ ?_
  rw [hbind]
  refine wpAny_pure (wpAny_newFunctionEnv (fun y hy => (L.own y hy).1) (fun y hy => by simp at hy; subst hy; exact L.loc) (fun h₁ hns hsb => ⟨I.nolimit.fresh _ hsb, ?_⟩) L.kind)
  show codeAny _ _ (.expr body (LamX.lamEnv X scope s.heap.objs.size f c')) _ _
  have kp : ∀ b o, s.heap.get? b = some o → h₁.get? b = some o := fun b o e => hsb.extBut b o (Nat.ne_of_lt (Heap.lt_size e)) (Heap.get?_push_of_some _ e)
  have J : Inv (LamX.lamCx X A X.stack s H E scope f c') [] (σ.set ip (some v)) H { s with heap := h₁, toks := s.toks + ([(x, u)] : List (Str × Value)).length } := lam1_start I L hip hN e0 hr.hd hns kp rv
  refine PySem.W.kla_codeExpr (wpAny_mono ((hbody _ _ s H (hr.deeper _)).run [] _ _ H Q J ht) (fun v s' hq => ?_) fun e s' hq => hq)
  obtain ⟨w', H', J', rv, q⟩ := hq
  exact ⟨w', H', J'.os, J'.bare, J'.base, J'.hok, rv, q⟩
end
end Ax
/-! Ax33: sorted by a key that a lambda tells -/
namespace Ax
open PySem PySem.Spec PyProof.Rows L2
section
open PySem.W PySem.Calls
variable {prog : Program} {w : World} {A : Around} {E : Value → Shared → Prop} {s : Shared} {a kS : Addr} {vs : List Value} {keys : Array Value} {e e1 : Nat} {P : PySem.Fin → Shared → Prop}
/-- all of h but two objects stands in h' -/
def KB2 (a b : Addr) (h h' : Heap) : Prop := ∀ c o, c ≠ a → c ≠ b → h.get? c = some o → h'.get? c = some o
theorem key2_tail {st : SortSt} {out : List Value} (nk : s.heap.get? kS = some (seqObj "list" keys e)) (na : s.heap.get? a = some (seqObj "list" #[] e1)) (hka : kS ≠ a)
    (hsz : keys.size ≤ sizeLine) (hz : out.length ≤ sizeLine) (hfl : failedOf st = none) (ho : (arrOf st).map (·.2) = out.toArray)
    (h : ∀ h' tk c, KB2 a kS s.heap h' → (∃ o, h'.get? kS = some o) → h'.get? a = some (seqObj "list" out.toArray c) → P (.done (.ret .none)) { s with heap := h', toks := tk }) :
    wpAny (model prog w) A (ksk_tail a false e1 (.ref kS) st) P E s := by
  have s1 := Heap.SameBut.update s.heap kS (Obj.mapSeq fun _ => (#[] : Array Value))
  have na1 : (s.heap.update kS (Obj.mapSeq fun _ => (#[] : Array Value))).get? a = some (seqObj "list" #[] e1) := (s1.2 a hka.symm).trans na
  have s2 := Heap.SameBut.update (s.heap.update kS (Obj.mapSeq fun _ => (#[] : Array Value))) a (Obj.mapSeq fun _ => out.toArray)
  obtain ⟨c2, hc2⟩ : ∃ c2, ((s.heap.update kS (Obj.mapSeq fun _ => (#[] : Array Value))).update a (Obj.mapSeq fun _ => out.toArray)).get? a = some (seqObj "list" out.toArray c2) :=
    ⟨_, get?_update_seq na1 fun _ => out.toArray⟩
  obtain ⟨c3, hc3⟩ : ∃ c3, (s.heap.update kS (Obj.mapSeq fun _ => (#[] : Array Value))).get? kS = some (seqObj "list" #[] c3) := ⟨_, get?_update_seq nk fun _ => #[]⟩
  have hz2 : out.toArray.size ≤ sizeLine + 1 := by
    rw [List.size_toArray]
    exact Nat.le_succ_of_le hz
  unfold ksk_tail
  try dsimp only
  rw [if_neg Bool.false_ne_true, ho]
  refine wpAny_bind (listUpdate_at nk rfl ?_ hsz (Nat.zero_le _))
  refine wpAny_bind (wpAny_letGo ?_)
  refine wpAny_bind (seqEpoch_at na1 rfl ?_)
  refine wpAny_bind (listUpdate_at na1 rfl ?_ (Nat.zero_le _) hz2)
  rw [hfl]
  simp only [bne_self_eq_false, Bool.false_eq_true, if_false]
  exact wpAny_pure (h _ _ c2 (fun c o h1 h2 q => (s2.2 c h1).trans ((s1.2 c h2).trans q)) ⟨_, (s2.2 kS hka).trans hc3⟩ hc2)
theorem key2_end {κ : PyProof.Rows.KeyKind} (nk : s.heap.get? kS = some (seqObj "list" keys e)) (na : s.heap.get? a = some (seqObj "list" #[] e1)) (hka : kS ≠ a)
    (S : SortsAt prog w A s κ keys.toList) (hsz : keys.size = vs.length) (hZ : vs.length ≤ sizeLine)
    (h : ∀ h' tk c, KB2 a kS s.heap h' → (∃ o, h'.get? kS = some o) → h'.get? a = some (seqObj "list" (sortVals κ false keys.toList vs).toArray c) → P (.done (.ret .none)) { s with heap := h', toks := tk }) :
    wpAny (model prog w) A (ksk_end a false vs.toArray e1 (.ref kS) keys) P E s := by
  obtain ⟨kd, h1, h2⟩ := S.kind
  have hkl : keys.toList.length = vs.length := by
    rw [Array.length_toList]
    exact hsz
  have hK : PyProof.Rows.KeysOf κ (keys.zip vs.toArray) := keysOf_zip S.keys
  have hol : (sortVals κ false keys.toList vs).length = vs.length := sortVals_length false hkl
  have hss : (keys.zip vs.toArray).size = vs.length := by rw [Array.size_zip, hsz, List.size_toArray, Nat.min_self]
  have fin : ∀ st' : SortSt, (arrOf st').Perm (keys.zip vs.toArray) → SortedToK κ (arrOf st') (keys.zip vs.toArray).size →
      Stable κ (arrOf st') (keys.zip vs.toArray) → (arrOf st').map (·.2) = (sortVals κ false keys.toList vs).toArray := by
    intro st' hp hs ht
    have e := sort_out (rev := false) (keys := keys) (items := vs.toArray) (xs := arrOf st') (κ := κ) hK hp hs ht
    have e' := congrArg List.toArray e
    rw [Array.toArray_toList] at e'
    exact e'
  unfold ksk_end
  try dsimp only
  rw [if_neg Bool.false_ne_true]
  simp only [Bool.false_eq_true, if_false]
  by_cases hl2 : vs.toArray.size < 2
  · rw [if_pos hl2, if_pos hl2]
    refine wpAny_bind (wpAny_pure ?_)
    rw [StateT.run_pure]
    refine wpAny_bind (wpAny_pure ?_)
    try dsimp only
    refine key2_tail (st := SortSt.mk' general' (keys.zip vs.toArray) #[] 7 none) nk na hka (by rw [hsz]; exact hZ) (by rw [hol]; exact hZ) rfl (fin _ (Array.Perm.refl _) ?_ (Stable.refl _)) h
    intro i j hij hj
    rw [hss] at hj
    rw [List.size_toArray] at hl2
    have : i = j := by omega
    subst this
    exact KeyOrd.kle_refl _
  · rw [if_neg hl2, if_neg hl2]
    rw [List.size_toArray] at hl2
    refine wpAny_bind (h2 (by omega) _ ?_)
    refine wpAny_bind (wpAny_mono (H.wpS_sortRunsSt (κ := κ) (kd := kd) (a₀ := keys.zip vs.toArray)
      (st := SortSt.mk' kd (keys.zip vs.toArray) #[] 7 none)
      (Q := fun _ st' => failedOf st' = none ∧ (arrOf st').map (·.2) = (sortVals κ false keys.toList vs).toArray)
      h1 hK ⟨Array.Perm.refl _, rfl, rfl⟩ rfl (Stable.refl _) (by rw [hss]; omega) fun st' a1 a2 a3 a4 => ⟨a2, fin st' a1 a3 a4⟩) ?_ fun _ _ e => e)
    rintro ⟨⟨⟩, st'⟩ s' ⟨rfl, hf, ho⟩
    try dsimp only at ho ⊢
    exact key2_tail nk na hka (by rw [hsz]; exact hZ) (by rw [hol]; exact hZ) hf ho h
end
/-! ### things of the maker's own that nobody tracks -/
structure Mine (X : Cx) (pins : List (Addr × Obj)) (b : Addr) : Prop where
  loc : b ≠ X.env.locals
  ge : X.s_0.heap.objs.size ≤ b
  cel : ∀ x c, X.env.cells.lookup x = some c → c ≠ b
  pin : ∀ p ∈ X.pn ++ pins, p.1 ≠ b
  nfs : b ∉ frs X.stack
section
variable {X : Cx} {pins : List (Addr × Obj)} {σ : L2.St} {H : Hp} {s : Shared}
theorem mine_of (I : Inv X pins σ H s) {b : Addr} (hb : s.heap.objs.size ≤ b) : Mine X pins b where
  loc := fun z => by have := I.lt; rw [← z] at this; exact Nat.lt_irrefl _ (Nat.lt_of_lt_of_le this hb)
  ge := Nat.le_trans I.sz hb
  cel := fun x c e z => by
    obtain ⟨v, o, ho, _⟩ := I.cell x c e
    rw [z] at ho
    exact Nat.lt_irrefl _ (Nat.lt_of_lt_of_le (Heap.lt_size ho) hb)
  pin := fun p hp z => by
    obtain ⟨e, _⟩ := I.pin p hp
    rw [z] at e
    exact Nat.lt_irrefl _ (Nat.lt_of_lt_of_le (Heap.lt_size e) hb)
  nfs := fun z => by
    rcases List.mem_cons.mp (I.stkSub _ z) with e | e
    · have h1 := I.lt
      rw [← e] at h1
      exact Nat.lt_irrefl _ (Nat.lt_of_lt_of_le h1 hb)
    · exact I.nofs hb e
theorem Mine.turn {b : Addr} (M : Mine X pins b) (I : Inv X pins σ H s) {h' : Heap} {t' : Nat} (hn : H b = none) (k : ∀ c o, c ≠ b → s.heap.get? c = some o → h'.get? c = some o) : Inv X pins σ H { s with heap := h', toks := t' } :=
  I.turned k hn M.loc (.inr M.ge) M.cel M.pin
theorem cx_no {P : Program} {w : World} {outer : List Env} {H : Hp} {s : Shared} {e : Value} {s' : Shared} (h : L2.CX P w outer H s (fun _ _ _ => False) e s') : False := by
  obtain ⟨_, _, _, _, _, _, _, _, _, _, _, _, z⟩ := h
  exact z
/-- the keys, one after another -/
def tKeyGo (tb : TE) (ip : Nat) (c' : Addr) (q : Str) : List V → L2.St → Hp → (List V → Hp → Prop) → Prop
  | [], _, H, Q => Q [] H
  | v :: vs, σ, H, Q => H c' = some (LamX.CodeO c' q) ∧ tb (σ.set ip (some v)) H fun k H1 => tKeyGo tb ip c' q vs σ H1 fun ks H2 => Q (k :: ks) H2
/-- what is known of the lambda -/
structure LamK (X : Cx) (pins : List (Addr × Obj)) (params : Arguments) (body : Expr) (scope : Scope) (x : Str) (ip k : Nat) (tb : TE) : Prop where
  L : LamS1 X.env.scope scope x
  hip : X.N[ip]? = some x
  hN : X.N.Nodup
  hbind : ∀ (q : Str) (cl : List (Str × Addr)) (pm cv ctv u : Value), bindArgs (PySem.W.kla_fn "<lambda>" q params body scope cl pm cv ctv) ⟨[u], []⟩ = pure [(x, u)]
  hbody : ∀ (A : Around) (outer : List Env) (s : Shared) (H : Hp) (f c' : Addr), Room k (A.deeper (LamX.lamEnv X scope s.heap.objs.size f c')) → PE (LamX.lamCx X A outer s H (fun _ _ _ => False) scope f c') body tb
abbrev lamO (X : Cx) (params : Arguments) (body : Expr) (scope : Scope) (pm : Value) (c' : Addr) (ctv : Value) : Obj := PySem.W.kla_obj "<lambda>" (X.env.qual ++ "<lambda>") params body scope (cloFrom X.env.cells scope.names []) pm c' ctv
theorem env0_in {A : Around} (I : Inv X pins σ H s) (h : A.frames = X.A.frames) : Env0 X.prog X.w X.K X.mg X.base A X.stack s H := by
  obtain ⟨a, b, c, d, e, f, g, i⟩ := I.env0
  exact ⟨h.trans a, b, c, d, e, f, g, i⟩
/-- one call of it -/
theorem lamK_call {A : Around} {f c' : Addr} {params : Arguments} {body : Expr} {scope : Scope} {pm ctv : Value} {x : Str} {ip k : Nat} {tb : TE} {v : V} {u : Value} {Q : VK} {R : Value → Shared → Prop} {E : Value → Shared → Prop} (LK : LamK X pins params body scope x ip k tb) (I : Inv X pins σ H s) (hA : A.frames = X.A.frames) (hr : Room (k + 1) A)
    (hf : s.heap.get? f = some (lamO X params body scope pm c' ctv)) (hc : H c' = some (LamX.CodeO c' (X.env.qual ++ "<lambda>"))) (rv : RelV v u) (ht : tb (σ.set ip (some v)) H Q)
    (h : ∀ u' s' v' H', Inv X pins σ H' s' → RelV v' u' → Q v' H' → (∀ b o, s.heap.get? b = some o → H b = none → b ∉ frs X.stack → s'.heap.get? b = some o ∧ H' b = none) → R u' s') :
    wpAny (model X.prog X.w) A (call (.ref f) [u]) R E s := by
  refine wpAny_call (codeAny_mono (lam1_code (k := k) (E := fun _ _ _ => False) (Q := Q) I LK.L LK.hip LK.hN (env0_in I hA) hr hf hc LK.hbind (fun A outer s H hr2 => LK.hbody A outer s H f c' hr2) rv ht) fun r s2 hq => ?_)
  cases r with
  | error e => exact (cx_no hq).elim
  | ok fl =>
    cases fl with
    | ret u' =>
      have hq : CE X.stack X.prog X.w H s Q u' s2 := hq
      obtain ⟨v', H', J, r, q⟩ := I.after hq
      obtain ⟨v0, H0, os, bare, un, hok, r0, q0⟩ := hq
      obtain ⟨hh, g, d, t, os'⟩ := s2
      obtain rfl : os' = s.os := os
      exact h u' _ v0 H0 (I.call (h' := hh) (g' := g) (d' := d) (t' := t) (ch := []) un hok bare (fun b z => absurd z (by simp))) r0 q0 fun b o e n nf => ⟨un.keep b o e n nf (by simp), un.free b o e n (by simp)⟩
    | next => exact False.elim hq
    | brk => exact False.elim hq
    | cont => exact False.elim hq
end
end Ax
/-! Ax34: sorted by a key that a lambda tells: the loop over the keys, the sort -/
namespace Ax
open PySem PySem.Spec PyProof.Rows L2
theorem each_map {α β γ : Type} {R : α → γ → Prop} (f : β → γ) : ∀ {as : List α} {bs : List β}, PySem.W.EachIs (fun a b => R a (f b)) as bs → PySem.W.EachIs R as (bs.map f)
  | _, _, .nil => .nil
  | _, _, .cons r t => .cons r (each_map f t)
theorem zip_toP {α : Type} {l : List α} {kd : List D} (h : l.length = kd.length) : (l.zip kd).map (fun p : α × D => toP p.2) = kd.map toP := by
  rw [show (fun p : α × D => toP p.2) = toP ∘ Prod.snd from rfl, ← List.map_map, List.map_snd_zip (by omega)]
theorem Vals.snoc {ks : List V} {us : List Value} (h : Vals ks us) {v : V} {u : Value} (r : RelV v u) : Vals (ks ++ [v]) (us ++ [u]) := by
  induction h with
  | nil => exact .cons r .nil
  | cons a b ih => exact .cons a ih
theorem Vals.at {vs : List V} {us : List Value} (h : Vals vs us) : ∀ {j : Nat} {u : Value}, us[j]? = some u → ∃ v, vs[j]? = some v ∧ RelV v u := by
  induction h with
  | nil => intro j u h; simp at h
  | cons a b ih =>
    intro j u h
    cases j with
    | zero => simp at h; subst h; exact ⟨_, rfl, a⟩
    | succ j => exact ih h
section
variable {X : Cx} {T : List (Addr × Str)} {pins : List (Addr × Obj)} {σ : L2.St} {H : Hp} {s : Shared}
open PySem.W in
theorem sortK_rest {A : Around} {E : Value → Shared → Prop} {P : PySem.Fin → Shared → Prop} {f c' a kS : Addr} {params : Arguments} {body : Expr} {scope : Scope} {pm ctv : Value} {x : Str} {ip k e1 : Nat} {tb : TE} {vs : List V} {us : List Value} {Qk : List V → Hp → Prop}
    (LK : LamK X pins params body scope x ip k tb) (I : Inv X pins σ H s) (hA : A.frames = X.A.frames) (hr : Room (k + 1) A)
    (hf : s.heap.get? f = some (lamO X params body scope pm c' ctv)) (hfn : H f = none) (hfr : f ∉ frs X.stack)
    (nk : s.heap.get? kS = some (seqObj "list" #[] 0)) (hkn : H kS = none) (Mk : Mine X pins kS) (na : s.heap.get? a = some (seqObj "list" #[] e1)) (han : H a = none) (Ma : Mine X pins a) (hka : kS ≠ a) (hkf : kS ≠ f) (haf : a ≠ f)
    (rv : Vals vs us) (hZ : vs.length ≤ sizeLine) (ht : tKeyGo tb ip c' (X.env.qual ++ "<lambda>") vs σ H Qk)
    (fin : ∀ ks H', Qk ks H' → ∃ kd : List D, RepAll (gX X T) H' ks kd ∧ srtOk kd = true ∧ ∀ s' ys, Inv X pins σ (upd H' a (.lst ys)) s' → H' a = none → ys = ((vs.zip kd).mergeSort (PySem.W.dataLe false fun p => toP p.2)).map Prod.fst → P (.done (.ret .none)) s') :
    wpAny (model X.prog X.w) A (PyProof.Rows.ksk_rest a (.ref f) false us.toArray e1 (.ref kS)) P E s := by
  have lv : vs.length = us.length := rv.length
  unfold PyProof.Rows.ksk_rest
  refine wpAny_bind (wpAny_rule ?_)
  first
    | rw [List.forIn_toArray]
    | (rw [← Array.forIn_toList]; simp only [List.toList_toArray])
    | rw [← Array.forIn_toList]
  refine wpAny_bind (PyProof.Rows.ksk_fold (fun i s' => ∃ H' ks kA e, Inv X pins σ H' s' ∧ s'.heap.get? f = some (lamO X params body scope pm c' ctv) ∧ H' f = none ∧ s'.heap.get? kS = some (seqObj "list" kA e) ∧ H' kS = none ∧ s'.heap.get? a = some (seqObj "list" #[] e1) ∧ H' a = none ∧ Vals ks kA.toList ∧ ks.length = i ∧
      tKeyGo tb ip c' (X.env.qual ++ "<lambda>") (vs.drop i) σ H' (fun ks2 H2 => Qk (ks ++ ks2) H2)) us 0 s ⟨H, [], #[], 0, I, hf, hfn, nk, hkn, na, han, .nil, rfl, ht⟩ ?step ?done)
  case step =>
    rintro j u s' hx ⟨H', ks, kA, e, I', hf', hfn', nk', hkn', na', han', rk, lk, ht'⟩
    simp only [Nat.zero_add] at lk ht' ⊢
    obtain ⟨v, hv, ru⟩ := Vals.at rv hx
    have hj : j < vs.length := (List.getElem?_eq_some_iff.mp hv).1
    have ev : vs[j] = v := (List.getElem?_eq_some_iff.mp hv).2
    rw [List.drop_eq_getElem_cons hj, ev] at ht'
    obtain ⟨hc, ht'⟩ := ht'
    have kz : kA.size ≤ vs.length := by
      have h1 := rk.length
      have h0 : kA.toList.length = kA.size := by simp
      omega
    refine wpAny_bind (wpAny_attempt (wpAny_mono (lamK_call (R := fun u' s'' => ∃ v' H'', Inv X pins σ H'' s'' ∧ RelV v' u' ∧ tKeyGo tb ip c' (X.env.qual ++ "<lambda>") (vs.drop (j + 1)) σ H'' (fun ks2 H2 => Qk (ks ++ (v' :: ks2)) H2) ∧ ∀ b o, s'.heap.get? b = some o → H' b = none → b ∉ frs X.stack → s''.heap.get? b = some o ∧ H'' b = none) (E := fun _ _ => False)
      LK I' hA hr hf' hc ru ht' fun u' s'' v' H'' J r q kp => ⟨v', H'', J, r, q, kp⟩) (fun u' s'' he => ?_) fun _ _ hF => hF.elim))
    obtain ⟨v', H'', J, r', q', kp⟩ := he
    obtain ⟨f1, f2⟩ := kp f _ hf' hfn' hfr
    obtain ⟨k1, k2⟩ := kp kS _ nk' hkn' Mk.nfs
    obtain ⟨a1, a2⟩ := kp a _ na' han' Ma.nfs
    try dsimp only
    have s1 := Heap.SameBut.update s''.heap kS (Obj.mapSeq (·.push u'))
    obtain ⟨c2, hc2⟩ : ∃ c2, (s''.heap.update kS (Obj.mapSeq (·.push u'))).get? kS = some (seqObj "list" (kA.push u') c2) := ⟨_, get?_update_seq k1 (·.push u')⟩
    have ea : (kA.push u').toList = kA.toList ++ [u'] := by simp
    refine wpAny_bind (listUpdate_at k1 rfl ?_ (Nat.le_trans kz hZ) (Nat.le_trans (Nat.le_of_eq (Array.size_push ..)) (Nat.succ_le_succ (Nat.le_trans kz hZ))))
    refine wpAny_pure ⟨rfl, H'', ks ++ [v'], kA.push u', c2, Mk.turn (t' := s''.toks) J k2 (fun c o h1 h2 => (s1.2 c h1).trans h2), (s1.2 f hkf.symm).trans f1, f2, hc2, k2, (s1.2 a hka.symm).trans a1, a2, ?_, by simp [lk], ?_⟩
    · rw [ea]; exact Vals.snoc rk r'
    · have e2 : (fun (ks2 : List V) (H2 : Hp) => Qk (ks ++ [v'] ++ ks2) H2) = fun ks2 H2 => Qk (ks ++ (v' :: ks2)) H2 := by funext a b; simp
      rw [e2]
      exact q'
  case done =>
    rintro s' ⟨H', ks, kA, e, I', hf', hfn', nk', hkn', na', han', rk, lk, ht'⟩
    simp only [Nat.zero_add] at lk ht'
    rw [List.drop_of_length_le (by omega)] at ht'
    have ht' : Qk (ks ++ []) H' := ht'
    rw [List.append_nil] at ht'
    obtain ⟨kd, hr', ok, q⟩ := fin ks H' ht'
    unfold srtOk at ok
    rw [Bool.and_eq_true, Bool.and_eq_true] at ok
    obtain ⟨⟨o1, o2⟩, o3⟩ := ok
    have o1 : ∀ d ∈ kd, okd 59 d = true := List.all_eq_true.mp o1
    have o2 : ∀ d ∈ kd, ∀ e ∈ kd, PySem.W.alike (toP d) (toP e) = true := fun d hd e he => List.all_eq_true.mp (List.all_eq_true.mp o2 d hd) e he
    have lkd : ks.length = kd.length := hr'.len
    have snd : (ks.zip kd).map Prod.snd = kd := List.map_snd_zip (by omega)
    have rd0 := each_reads (T := T) I' rk hr' o1
    have rd : PySem.W.EachIs (fun v k => ∃ as, Reads s'.heap v k as) kA.toList (kd.map toP) := by
      have := each_map (R := fun v k => ∃ as, Reads s'.heap v k as) (fun p : V × D => toP p.2) rd0
      rwa [zip_toP lkd] at this
    have hsz : kA.size = us.length := by
      have h1 := rk.length
      have h0 : kA.toList.length = kA.size := by simp
      have h2 : vs.length = ks.length := by have := (List.drop_of_length_le (l := vs) (i := us.length) (by omega)); omega
      omega
    have hal : PySem.W.AllAlike (kd.map toP) := fun d hd e he => by
      obtain ⟨p, hp, rfl⟩ := List.mem_map.mp hd
      obtain ⟨p', hp', rfl⟩ := List.mem_map.mp he
      exact o2 _ hp _ hp'
    have hsk : PySem.W.Sortable (kd.map toP) := by
      rcases Bool.or_eq_true _ _ |>.mp o3 with o3 | o3
      · refine .inl fun d hd => ?_
        obtain ⟨p, hp, rfl⟩ := List.mem_map.mp hd
        have z := List.all_eq_true.mp o3 _ hp
        unfold tup0 at z
        split at z
        · rename_i x r
          exact ⟨toP x, toPs r, by simp [toP, toPs]⟩
        · cases z
      · refine .inr fun d hd => ?_
        obtain ⟨p, hp, rfl⟩ := List.mem_map.mp hd
        have z := List.all_eq_true.mp o3 _ hp
        unfold ntup at z
        split at z <;> first | (cases z; done) | (simp [toP]; done)
    have hu : ∀ d, d ∈ kd.map toP → A.units + d.depth < cLine := fun d hd => by
      obtain ⟨p, hp, rfl⟩ := List.mem_map.mp hd
      have h1 := (okd_lay 59 _ (o1 _ hp)).2
      have h2 := hr.un
      omega
    try dsimp only
    refine wpAny_bind (listItems_at nk' rfl ?_)
    refine key2_end (κ := PySem.W.dataKind s'.heap (kd.map toP)) nk' na' hka (PySem.W.SortsAt.data (s := s') rd hal hsk hu) hsz (by omega) fun h3 tk3 c kb ok3 n3 => ?_
    have ko : PySem.W.KeyedOut false (kd.map toP) us (PySem.W.sortVals (PySem.W.dataKind s'.heap (kd.map toP)) false kA.toList us) := ⟨s'.heap, kA.toList, hal, rfl, rd⟩
    have ez : PySem.W.EachIs (fun u (p : V × D) => RelV p.1 u) us (vs.zip kd) := each_zip rv (by omega)
    have e3 : (vs.zip kd).map (fun p : V × D => toP p.2) = kd.map toP := zip_toP (by omega)
    rw [← e3] at ko
    have out := PySem.W.keyedOut_each (bs := vs.zip kd) (R := fun u (p : V × D) => RelV p.1 u) (fun p : V × D => toP p.2) ko ez
    rw [e3] at out
    have hv : Vals (((vs.zip kd).mergeSort (PySem.W.dataLe false fun p => toP p.2)).map Prod.fst) (PySem.W.sortVals (PySem.W.dataKind s'.heap (kd.map toP)) false kA.toList us) := each_vals out
    have hl2 : (((vs.zip kd).mergeSort (PySem.W.dataLe false fun p => toP p.2)).map Prod.fst).length ≤ sizeLine := by
      rw [List.length_map, List.length_mergeSort, List.length_zip]; omega
    have nA : ∀ b u, H' b = some u → b ≠ a := fun b u e z => by rw [z, han'] at e; cases e
    have nK : ∀ b u, H' b = some u → b ≠ kS := fun b u e z => by rw [z, hkn'] at e; cases e
    refine q _ _ (I'.step (g' := s'.gens) (t' := tk3) (d' := s'.drawn) (ch := [a, kS]) (fun b hb => ?_) (fun b o _ _ hc e _ => kb b o (fun z => hc (by simp [z])) (fun z => hc (by simp [z])) e) (fun b o _ _ hc e _ => ⟨o.slots, kb b o (fun z => hc (by simp [z])) (fun z => hc (by simp [z])) e⟩) (fun b o hc e n => by rw [upd_ne (fun z => hc (by simp [z]))]; exact n)
      (fun b o hc e => ⟨o, kb b o (fun z => hc (by simp [z])) (fun z => hc (by simp [z])) e⟩) (fun b xs e => by rw [upd_ne (nA b _ e)]; exact e) (fun b o u e => by rw [upd_ne (nA b _ e)]; exact e) (fun b ps e => ⟨#[], by rw [upd_ne (nA b _ e), e]; simp⟩) (fun m hm => ?_) (fun b u e => ?_) I'.bare) han' rfl
    · simp only [List.mem_cons, List.not_mem_nil, or_false] at hb
      rcases hb with rfl | rfl
      · exact ⟨.inr Ma.ge, Ma.loc, Ma.cel, Ma.pin⟩
      · exact ⟨.inr Mk.ge, Mk.loc, Mk.cel, Mk.pin⟩
    · obtain ⟨o, es, ep, ho, r⟩ := hm
      exact ⟨o, es, ep, kb _ o (Ne.symm Ma.loc) (Ne.symm Mk.loc) ho, r⟩
    · by_cases hb : b = a
      · subst hb
        rw [upd_same] at e
        cases e
        exact ⟨hl2, _, c, hv, n3⟩
      · rw [upd_ne hb] at e
        refine (I'.hok b u e).stay (fun d v hd q => kb d v ?_ ?_ q) (fun d q => by rw [upd_ne (nA d _ q)]; exact q) fun d xs q => by rw [upd_ne (nA d _ q)]; exact q
        · rcases hd with z | z
          · rw [z]; exact hb
          · exact nA d _ z
        · rcases hd with z | z
          · rw [z]; exact nK b u e
          · exact nK d _ z
end
end Ax
/-! Ax35: sorted(xs, key=lambda ..) as a reading -/
namespace Ax
open PySem PySem.Spec PyProof.Rows L2
section
variable {X : Cx} {T : List (Addr × Str)} {pins : List (Addr × Obj)} {σ : L2.St} {H : Hp} {s : Shared}
open PySem.W in
/-- list.sort(key=f) of a list that nobody tracks -/
theorem sortK_tree {A : Around} {E : Value → Shared → Prop} {P : PySem.Fin → Shared → Prop} {f c' a : Addr} {params : Arguments} {body : Expr} {scope : Scope} {pm ctv : Value} {x : Str} {ip k n : Nat} {tb : TE} {vs : List V} {us : List Value} {Qk : List V → Hp → Prop}
    (LK : LamK X pins params body scope x ip k tb) (I : Inv X pins σ H s) (hA : A.frames = X.A.frames) (hr : Room (k + 1) A)
    (hf : s.heap.get? f = some (lamO X params body scope pm c' ctv)) (hfn : H f = none) (hfr : f ∉ frs X.stack)
    (na : s.heap.get? a = some (seqObj "list" us.toArray n)) (han : H a = none) (Ma : Mine X pins a) (haf : a ≠ f)
    (rv : Vals vs us) (hZ : vs.length ≤ sizeLine) (ht : tKeyGo tb ip c' (X.env.qual ++ "<lambda>") vs σ H Qk)
    (fin : ∀ ks H', Qk ks H' → ∃ kd : List D, RepAll (gX X T) H' ks kd ∧ srtOk kd = true ∧ ∀ s' ys, Inv X pins σ (upd H' a (.lst ys)) s' → H' a = none → ys = ((vs.zip kd).mergeSort (PySem.W.dataLe false fun p => toP p.2)).map Prod.fst → P (.done (.ret .none)) s') :
    wpAny (model X.prog X.w) A (PyProof.Rows.ksk_tree a (.ref f) false) P E s := by
  have lv : vs.length = us.length := rv.length
  have ha : a < s.heap.objs.size := Heap.lt_size na
  obtain ⟨e1, ho1⟩ : ∃ e1, (s.heap.update a (Obj.mapSeq fun _ => (#[] : Array Value))).get? a = some (seqObj "list" #[] e1) := ⟨_, get?_update_seq na fun _ => #[]⟩
  have hkS : ((s.heap.update a (Obj.mapSeq fun _ => (#[] : Array Value))).push (seqObj "tuple" us.toArray 0)).objs.size = s.heap.objs.size + 1 := by rw [size_push', Heap.size_update]
  unfold PyProof.Rows.ksk_tree
  refine wpAny_bind (listItems_at na rfl ?_)
  refine wpAny_bind (listUpdate_at na rfl ?_ (by rw [List.size_toArray]; omega) (Nat.zero_le _))
  refine wpAny_bind (seqEpoch_at ho1 rfl ?_)
  refine wpAny_bind (wpAny_newTuple ?_ (by show us.length ≤ _; omega))
  refine wpAny_bind (wpAny_newList ?_ (Nat.zero_le _))
  refine wpAny_holding ?_
  have s1 := Heap.SameBut.update s.heap a (Obj.mapSeq fun _ => (#[] : Array Value))
  have kp : ∀ c o, c ≠ a → s.heap.get? c = some o → (((s.heap.update a (Obj.mapSeq fun _ => (#[] : Array Value))).push (seqObj "tuple" us.toArray 0)).push (seqObj "list" #[] 0)).get? c = some o := fun c o h1 h2 =>
    Heap.get?_push_of_some _ (Heap.get?_push_of_some _ ((s1.2 c h1).trans h2))
  have I2 : Inv X pins σ H { s with heap := ((s.heap.update a (Obj.mapSeq fun _ => (#[] : Array Value))).push (seqObj "tuple" us.toArray 0)).push (seqObj "list" #[] 0) } := Ma.turn (t' := s.toks) I han kp
  have fl : f < s.heap.objs.size := Heap.lt_size hf
  exact sortK_rest (T := T) (kS := ((s.heap.update a (Obj.mapSeq fun _ => (#[] : Array Value))).push (seqObj "tuple" us.toArray 0)).objs.size) LK I2 hA hr (kp f _ (Ne.symm haf) hf) hfn hfr
    (Heap.get?_push_size _ rfl) (I.hok.fresh (by rw [hkS]; exact Nat.le_succ _)) (mine_of I (by rw [hkS]; exact Nat.le_succ _)) (Heap.get?_push_of_some _ (Heap.get?_push_of_some _ ho1)) han Ma
    (by rw [hkS]; exact Nat.ne_of_gt (Nat.lt_succ_of_lt ha)) (by rw [hkS]; exact Nat.ne_of_gt (Nat.lt_succ_of_lt fl)) haf rv hZ ht fin
/-- what is sorted: a list, or a dict's keys -/
def SrcK (K : PySem.W.Frag) (H : Hp) (a : Addr) (vs : List V) : Prop := SqL K H a vs ∨ ∃ kvs : List (Key × V), Rd H a (.dK kvs) ∧ vs = kvs.map fun kv => kV kv.1
open PySem.W in
theorem call_sortedK {f c' l : Addr} {params : Arguments} {body : Expr} {scope : Scope} {pm ctv : Value} {x : Str} {ip k : Nat} {tb : TE} {vs : List V} {Qk : List V → Hp → Prop} {Q : VK}
    (hcalm : X.calm = true) (LK : LamK X pins params body scope x ip k tb) (I : Inv X pins σ H s) (hr : Room (k + 3) X.A)
    (hf : s.heap.get? f = some (lamO X params body scope pm c' ctv)) (hfn : H f = none) (hfr : f ∉ frs X.stack) (hl : SrcK X.K H l vs) (ht : tKeyGo tb ip c' (X.env.qual ++ "<lambda>") vs σ H Qk)
    (fin : ∀ ks H', Qk ks H' → ∃ kd : List D, RepAll (gX X T) H' ks kd ∧ srtOk kd = true ∧ ∀ p ys, H' p = none → ys = ((vs.zip kd).mergeSort (PySem.W.dataLe false fun p => toP p.2)).map Prod.fst → Q (.ref p) (upd H' p (.lst ys))) :
    wpAny (model X.prog X.w) X.A (call (.builtin "sorted") [.ref l] [(Str.ofString "key", .ref f)]) (EP X pins σ Q) X.xe s := by
  have fl : f < s.heap.objs.size := Heap.lt_size hf
  rcases hl with hl | ⟨kvs, hl, rfl⟩
  · obtain ⟨its, rv, hL, hz⟩ := I.list hl
    have hlen := rv.length
    refine sorted_of_sort hL.isList (by omega) (PyProof.Rows.ksk_s1 _ _) (fun _ => PyProof.Rows.ksk_l1 _ _) fun E' => ?_
    rw [PyProof.Rows.ksk_t1]
    have I2 : Inv X pins σ H { s with heap := copyHeap s.heap its } := I.kept (t' := s.toks) fun b o e => copyHeap_old e
    refine sortK_tree (T := T) LK I2 rfl hr.in1.in1 (copyHeap_old hf) hfn hfr (copyHeap_at s.heap its) (I.hok.fresh (Nat.le_succ _)) (mine_of I (Nat.le_succ _)) (Nat.ne_of_gt (Nat.lt_succ_of_lt fl)) rv (by omega) ht fun ks H' q => ?_
    obtain ⟨kd, h1, h2, h3⟩ := fin ks H' q
    exact ⟨kd, h1, h2, fun s' ys J n e => ⟨rfl, .ref _, _, J, rfl, h3 _ ys n e⟩⟩
  · obtain ⟨z, lo, ws, rel, dd⟩ := dk_rd I.hok hl
    obtain ⟨ep, hat⟩ := dd.dictAt
    have ek : (kvs.map fun kv => kV kv.1) = ws.map fun p => kV p.1 := by
      have e := congrArg (List.map kV) rel.keys
      rw [List.map_map, List.map_map] at e
      exact e
    have lw : ws.length = kvs.length := rel.length.symm
    refine PyProof.Rows.call_function_entry_kw PyProof.Rows.kind_sorted PyProof.Rows.plain_sorted PyProof.Rows.entry_sorted (PyProof.Rows.ksk_s1 _ _) ?_
    unfold Builtin.«sorted»
    refine wpAny_bind (m := checkCount "sorted" 1 1 _) (wpAny_pure ?_)
    refine wpAny_bind (PySem.W.kdu_collect (A := X.A.in1) (PySem.W.kdl_dict (knd := mixKind X.prog X.w) (kvs := ws) (ep := ep) lo) (I.ok.hd hcalm) hat (by omega) fun h' tk acc hk hacc => ?_)
    have hv : Vals (kvs.map fun kv => kV kv.1) acc.toList := by
      rw [ek]
      exact keys_at (by rw [Array.length_toList]; exact hacc.1) fun j v e => hacc.2 j v (by rw [← Array.getElem?_toList]; exact e)
    have lacc : acc.toList.length = kvs.length := by have := hv.length; simpa using this.symm
    refine wpAny_bind (wpAny_newList ?_ (by rw [lacc]; omega))
    have I1 : Inv X pins σ H { s with heap := h', toks := tk } := I.kept (t' := tk) hk
    have I2 : Inv X pins σ H { s with heap := h'.push (seqObj "list" acc.toList.toArray 0), toks := tk } := I.kept (t' := tk) fun b o e => Heap.get?_push_of_some _ (hk b o e)
    have fl' : f < h'.objs.size := Heap.lt_size (hk f _ hf)
    have Ma : Mine X pins h'.objs.size := mine_of I1 (Nat.le_refl _)
    have hoL : (h'.push (seqObj "list" acc.toList.toArray 0)).get? h'.objs.size = some (seqObj "list" acc.toList.toArray 0) := Heap.get?_push_size _ rfl
    refine wpAny_bind (wpAny_holding (wpAny_call_entry_kw slot_list_sort ⟨_, hoL, rfl⟩ entry_list_sort ?_ (PyProof.Rows.ksk_l1 _ _)))
    rw [PyProof.Rows.ksk_t1]
    refine sortK_tree (T := T) LK I2 rfl hr.in1.in1 (Heap.get?_push_of_some _ (hk f _ hf)) hfn hfr hoL (I1.hok.fresh (Nat.le_refl _)) Ma (Nat.ne_of_gt fl') hv (by rw [List.length_map]; omega) ht fun ks H' q => ?_
    obtain ⟨kd, h1, h2, h3⟩ := fin ks H' q
    exact ⟨kd, h1, h2, fun s' ys J n e => ⟨_, rfl, wpAny_pure ⟨_, rfl, .ref _, _, J, rfl, h3 _ ys n e⟩⟩⟩
end
end Ax
/-! Ax36: min(xs, key=lambda ..) -/
namespace Ax
open PySem PySem.Spec PyProof.Rows L2
section
variable {X : Cx} {T : List (Addr × Str)} {pins : List (Addr × Obj)} {σ : L2.St} {H : Hp} {s : Shared}
/-- two keys can be set against each other -/
def kAlike (a b : D) : Bool := okd 59 a && okd 59 b && PySem.W.alike (toP a) (toP b) && (match a with | .tup _ => true | .int _ => true | .str _ => true | .bl _ => true | _ => false)
def kLess (a b : D) : Bool := PySem.W.dataLt (toP a) (toP b)
/-- what is left of the walk, the best so far and its key -/
def tMinGo (g : G) (tb : TE) (ip : Nat) (c' : Addr) (q : Str) (l : Addr) (all : List V) : List V → L2.St → Hp → V → V → VK → Prop
  | [], _, H, vb, _, Q => SqL g.K H l all ∧ Q vb H
  | v :: vs, σ, H, vb, kb, Q => H c' = some (LamX.CodeO c' q) ∧ SqL g.K H l all ∧ tb (σ.set ip (some v)) H fun k H1 => ∃ dk db : D, Rep g H1 k dk ∧ Rep g H1 kb db ∧ kAlike dk db = true ∧
      (if kLess dk db then tMinGo g tb ip c' q l all vs σ H1 v k Q else tMinGo g tb ip c' q l all vs σ H1 vb kb Q)
theorem toP_none {d : D} (h : (match d with | .tup _ => true | .int _ => true | .str _ => true | .bl _ => true | _ => false) = true) : toP d ≠ .none := by
  cases d <;> first | (cases h; done) | (simp [toP]; done)
theorem minK_loop {A : Around} {f c' l it S : Addr} {params : Arguments} {body : Expr} {scope : Scope} {pm ctv : Value} {x : Str} {ip k : Nat} {tb : TE} {all : List V} {Q : VK} {R : Result → Shared → Prop} {kw : List (Str × Value)}
    (LK : LamK X pins params body scope x ip k tb) (hh : A.handled = none) (hA : A.frames = X.A.frames) (hr : Room (k + 2) A) (hfr : f ∉ frs X.stack) (Mi : Mine X pins it) (MS : Mine X pins S) (hiS : it ≠ S) (hfi : f ≠ it) (hfS : f ≠ S)
    (hR : ∀ u s' v H', Inv X pins σ H' s' → RelV v u → Q v H' → R (.ok (.ret u)) s') :
    ∀ (rest : List V) (j : Nat) (s : Shared) (H : Hp) (vb kb : V) (ub uk : Value) (c : Nat), all.drop (j + 1) = rest → Inv X pins σ H s → s.heap.get? f = some (lamO X params body scope pm c' ctv) → H f = none → s.heap.IsListIter it l (j + 1) → H it = none →
      s.heap.get? S = some { cls := .type "list", dict := none, data := .seq #[ub, uk] c, slots := #[] } → H S = none → RelV vb ub → RelV kb uk → tMinGo (gX X T) tb ip c' (X.env.qual ++ "<lambda>") l all rest σ H vb kb Q →
      codeAny (model X.prog X.w) A (.builtin "min.loop" ⟨[.ref it, .ref f, .ref S], kw⟩) R s := by
  have hname : (toString "min" ++ toString ".loop" : String) = "min.loop" := by decide
  intro rest
  induction rest with
  | nil =>
    intro j s H vb kb ub uk c hd I hf hfn hit hin hS hSn rb rk ht
    obtain ⟨hl, hq⟩ := ht
    obtain ⟨its, rv, hL, hz⟩ := I.list hl
    have hlen := rv.length
    have hj : all.length ≤ j + 1 := List.drop_eq_nil_iff.mp hd
    have hx : its.toArray[j + 1]? = none := by simp; omega
    refine codeAny_builtin F.entry_min_loop ?_
    rw [Around.under_plainId F.plain_min_loop _]
    show wpAny _ A.in1 (seqItems? (.ref S) >>= _) _ _ s
    refine wpAny_bind (wpAny_seqItems hS rfl ?_)
    show wpAny _ A.in1 (tryCatch (pyNext (.ref it)) _ >>= _) _ _ s
    refine wpAny_bind (wpAny_tryCatch (wpAny_pyNext_list_end hh hit hL.isList hx fun h' eb => ?_))
    have hS' : h'.get? S = some { cls := .type "list", dict := none, data := .seq #[ub, uk] c, slots := #[] } := eb S _ (Ne.symm hiS) hS
    have I' : Inv X pins σ H { s with heap := h' } := Mi.turn (t' := s.toks) I hin fun b o hb e => eb b o hb e
    show wpAny _ A.in1 (updateSeq S (fun _ => #[]) >>= _) _ _ _
    refine wpAny_bind ?_
    refine wpAny_updateSeq hS' rfl (wpAny_bind (wpAny_letGo (wpAny_pure ?_)))
    have sb := Heap.SameBut.update h' S (Obj.mapSeq fun _ => (#[] : Array Value))
    exact hR ub _ vb H (MS.turn (t' := s.toks) I' hSn fun b o hb e => (sb.2 b hb).trans e) rb hq
  | cons v rest ih =>
    intro j s H vb kb ub uk c hd I hf hfn hit hin hS hSn rb rk ht
    obtain ⟨hc, hl, ht⟩ := ht
    obtain ⟨its, rv, hL, hz⟩ := I.list hl
    have hv : all[j + 1]? = some v := by
      have := congrArg (fun l => l[0]?) hd
      simpa using this
    obtain ⟨u, hu, ru⟩ : ∃ u, its[j + 1]? = some u ∧ RelV v u := by
      have hlt : j + 1 < its.length := by have := rv.length; have := (List.getElem?_eq_some_iff.mp hv).1; omega
      obtain ⟨v', e1, e2⟩ := Vals.at rv (List.getElem?_eq_getElem hlt)
      rw [hv] at e1
      cases e1
      exact ⟨_, List.getElem?_eq_getElem hlt, e2⟩
    have hd2 : all.drop (j + 1 + 1) = rest := by
      rw [← List.drop_drop, hd]; rfl
    refine codeAny_builtin F.entry_min_loop ?_
    rw [Around.under_plainId F.plain_min_loop _]
    show wpAny _ A.in1 (seqItems? (.ref S) >>= _) _ _ s
    refine wpAny_bind (wpAny_seqItems hS rfl ?_)
    show wpAny _ A.in1 (tryCatch (pyNext (.ref it)) _ >>= _) _ _ s
    refine wpAny_bind (wpAny_tryCatch (wpAny_pyNext_list_item hit hL.isList (x := u) (by simpa using hu) fun h' hit' sb => ?_))
    have hS' : h'.get? S = some { cls := .type "list", dict := none, data := .seq #[ub, uk] c, slots := #[] } := (sb.2 S (Ne.symm hiS)).trans hS
    have I' : Inv X pins σ H { s with heap := h' } := Mi.turn (t' := s.toks) I hin fun b o hb e => (sb.2 b hb).trans e
    have hf' : h'.get? f = some (lamO X params body scope pm c' ctv) := (sb.2 f hfi).trans hf
    show wpAny _ A.in1 (tryCatch (holding [u] (call (.ref f) [u])) _ >>= _) _ _ _
    refine wpAny_bind (wpAny_tryCatch (wpAny_holding (lamK_call (s := { s with heap := h' }) LK I' hA hr.in1 hf' hc ru ht fun uk' s2 vk' H2 I2 rk' q2 kp => ?_)))
    obtain ⟨dk, db, r1, r2, ok, ht2⟩ := q2
    obtain ⟨f1, f2⟩ := kp f _ hf' hfn hfr
    obtain ⟨S1, S2⟩ := kp S _ hS' hSn MS.nfs
    obtain ⟨oi, hoi, hcl, hdi⟩ := hit'
    obtain ⟨i1, i2⟩ := kp it _ hoi hin Mi.nfs
    unfold kAlike at ok
    simp only [Bool.and_eq_true] at ok
    obtain ⟨⟨⟨o1, o2⟩, o3⟩, o4⟩ := ok
    obtain ⟨as, ra⟩ := Dp.reads I2 _ _ _ (Rep.dp 59 r1 o1) rk'
    obtain ⟨bs, rb'⟩ := Dp.reads I2 _ _ _ (Rep.dp 59 r2 o2) rk
    have cmp := PySem.W.rcLt_alike (toP dk) (toP db) A.in1 s2 uk' uk as bs ra rb' o3 (toP_none o4) (by
      have h1 := (okd_lay 59 _ o1).2
      have h2 := hr.un
      have h3 : A.in1.units = A.units + 1 := rfl
      have h4 := Nat.min_le_left (toP dk).depth (toP db).depth
      omega)
    show wpAny _ A.in1 (tryCatch (holding [u, uk'] (richCompare .Lt uk' uk >>= _)) _ >>= _) _ _ _
    refine wpAny_bind (wpAny_tryCatch (wpAny_holding (wpAny_bind (cmp _ _ _ _ ?_))))
    refine wpAny_bind (wpAny_holding (wpAny_truthy_bool ?_))
    refine wpAny_bind (wpAny_letGo (wpAny_pure ?_))
    have e0 : PySem.W.dataLt (toP dk) (toP db) = kLess dk db := rfl
    rw [e0]
    cases hb : kLess dk db with
    | true =>
      rw [hb] at ht2
      simp only [if_true] at ht2 ⊢
      refine wpAny_bind ?_
      refine wpAny_updateSeq S1 rfl (wpAny_bind (wpAny_letGo ?_))
      rw [hname]
      have sb2 := Heap.SameBut.update s2.heap S (Obj.mapSeq fun _ => (#[u, uk'] : Array Value))
      have I3 : Inv X pins σ H2 { s2 with heap := s2.heap.update S (Obj.mapSeq fun _ => #[u, uk']) } := MS.turn (t' := s2.toks) I2 S2 fun b o hb e => (sb2.2 b hb).trans e
      exact wpAny_pure ⟨plainId_quiet F.plain_min_loop _, ih (j + 1) _ H2 v vk' u uk' _ hd2 I3 ((sb2.2 f hfS).trans f1) f2 ⟨oi, (sb2.2 it hiS).trans i1, hcl, hdi⟩ i2 (Heap.get?_update_self _ S1 rfl) S2 ru rk' ht2⟩
    | false =>
      rw [hb] at ht2
      simp only [Bool.false_eq_true, if_false] at ht2 ⊢
      refine wpAny_bind (wpAny_letGo ?_)
      rw [hname]
      exact wpAny_pure ⟨plainId_quiet F.plain_min_loop _, ih (j + 1) _ H2 vb kb ub uk c hd2 I2 f1 f2 ⟨oi, i1, hcl, hdi⟩ i2 S1 S2 rb rk ht2⟩
end
end Ax
/-! Ax37: the calls sorted(xs, key=lambda ..), min(xs, key=lambda ..) -/
namespace Ax
open PySem PySem.Spec PyProof.Rows L2
section
variable {X : Cx} {T : List (Addr × Str)} {pins : List (Addr × Obj)} {σ : L2.St} {H : Hp} {s : Shared}
theorem minK_first {A : Around} {f c' l it S : Addr} {params : Arguments} {body : Expr} {scope : Scope} {pm ctv : Value} {x : Str} {ip k : Nat} {tb : TE} {v : V} {rest : List V} {Q : VK} {R : Result → Shared → Prop} {kw : List (Str × Value)} {c : Nat}
    (LK : LamK X pins params body scope x ip k tb) (hh : A.handled = none) (hA : A.frames = X.A.frames) (hr : Room (k + 2) A) (hfr : f ∉ frs X.stack) (Mi : Mine X pins it) (MS : Mine X pins S) (hiS : it ≠ S) (hfi : f ≠ it) (hfS : f ≠ S)
    (hR : ∀ u s' v H', Inv X pins σ H' s' → RelV v u → Q v H' → R (.ok (.ret u)) s')
    (I : Inv X pins σ H s) (hf : s.heap.get? f = some (lamO X params body scope pm c' ctv)) (hfn : H f = none) (hit : s.heap.IsListIter it l 0) (hin : H it = none)
    (hS : s.heap.get? S = some { cls := .type "list", dict := none, data := .seq #[] c, slots := #[] }) (hSn : H S = none) (hc : H c' = some (LamX.CodeO c' (X.env.qual ++ "<lambda>"))) (hl : SqL X.K H l (v :: rest))
    (ht : tb (σ.set ip (some v)) H fun k0 H1 => tMinGo (gX X T) tb ip c' (X.env.qual ++ "<lambda>") l (v :: rest) rest σ H1 v k0 Q) :
    codeAny (model X.prog X.w) A (.builtin "min.loop" ⟨[.ref it, .ref f, .ref S], kw⟩) R s := by
  have hname : (toString "min" ++ toString ".loop" : String) = "min.loop" := by decide
  obtain ⟨its, rv, hL, hz⟩ := I.list hl
  obtain ⟨u, hu, ru⟩ : ∃ u, its[0]? = some u ∧ RelV v u := by
    have hlt : 0 < its.length := by have := rv.length; simp at this; omega
    obtain ⟨v', e1, e2⟩ := Vals.at rv (List.getElem?_eq_getElem hlt)
    simp at e1
    subst e1
    exact ⟨_, List.getElem?_eq_getElem hlt, e2⟩
  refine codeAny_builtin F.entry_min_loop ?_
  rw [Around.under_plainId F.plain_min_loop _]
  show wpAny _ A.in1 (seqItems? (.ref S) >>= _) _ _ s
  refine wpAny_bind (wpAny_seqItems hS rfl ?_)
  show wpAny _ A.in1 (tryCatch (pyNext (.ref it)) _ >>= _) _ _ s
  refine wpAny_bind (wpAny_tryCatch (wpAny_pyNext_list_item hit hL.isList (x := u) (by simpa using hu) fun h' hit' sb => ?_))
  have hS' : h'.get? S = some { cls := .type "list", dict := none, data := .seq #[] c, slots := #[] } := (sb.2 S (Ne.symm hiS)).trans hS
  have I' : Inv X pins σ H { s with heap := h' } := Mi.turn (t' := s.toks) I hin fun b o hb e => (sb.2 b hb).trans e
  have hf' : h'.get? f = some (lamO X params body scope pm c' ctv) := (sb.2 f hfi).trans hf
  show wpAny _ A.in1 (tryCatch (holding [u] (call (.ref f) [u])) _ >>= _) _ _ _
  refine wpAny_bind (wpAny_tryCatch (wpAny_holding (lamK_call (s := { s with heap := h' }) LK I' hA hr.in1 hf' hc ru ht fun uk' s2 vk' H2 I2 rk' q2 kp => ?_)))
  obtain ⟨f1, f2⟩ := kp f _ hf' hfn hfr
  obtain ⟨S1, S2⟩ := kp S _ hS' hSn MS.nfs
  obtain ⟨oi, hoi, hcl, hdi⟩ := hit'
  obtain ⟨i1, i2⟩ := kp it _ hoi hin Mi.nfs
  show wpAny _ A.in1 (updateSeq S (fun _ => #[u, uk']) >>= _) _ _ _
  refine wpAny_bind ?_
  refine wpAny_updateSeq S1 rfl ?_
  rw [hname]
  have sb2 := Heap.SameBut.update s2.heap S (Obj.mapSeq fun _ => (#[u, uk'] : Array Value))
  have I3 : Inv X pins σ H2 { s2 with heap := s2.heap.update S (Obj.mapSeq fun _ => #[u, uk']) } := MS.turn (t' := s2.toks) I2 S2 fun b o hb e => (sb2.2 b hb).trans e
  exact wpAny_pure ⟨plainId_quiet F.plain_min_loop _, minK_loop (T := T) LK hh hA hr hfr Mi MS hiS hfi hfS hR rest 0 _ H2 v vk' u uk' _ rfl I3 ((sb2.2 f hfS).trans f1) f2 ⟨oi, (sb2.2 it hiS).trans i1, hcl, hdi⟩ i2 (Heap.get?_update_self _ S1 rfl) S2 ru rk' q2⟩
theorem call_minK {f c' l : Addr} {params : Arguments} {body : Expr} {scope : Scope} {pm ctv : Value} {x : Str} {ip k : Nat} {tb : TE} {v : V} {rest : List V} {Q : VK}
    (LK : LamK X pins params body scope x ip k tb) (I : Inv X pins σ H s) (hr : Room (k + 3) X.A) (hf : s.heap.get? f = some (lamO X params body scope pm c' ctv)) (hfn : H f = none) (hfr : f ∉ frs X.stack) (hc : H c' = some (LamX.CodeO c' (X.env.qual ++ "<lambda>"))) (hl : SqL X.K H l (v :: rest))
    (ht : tb (σ.set ip (some v)) H fun k0 H1 => tMinGo (gX X T) tb ip c' (X.env.qual ++ "<lambda>") l (v :: rest) rest σ H1 v k0 Q) :
    wpAny (model X.prog X.w) X.A (call (.builtin "min") [.ref l] [(Str.ofString "key", .ref f)]) (EP X pins σ Q) X.xe s := by
  have hname : (toString "min" ++ toString ".loop" : String) = "min.loop" := by decide
  obtain ⟨its, rv, hL, hz⟩ := I.list hl
  have fl : f < s.heap.objs.size := Heap.lt_size hf
  refine PyProof.Rows.kmk_tree F.kind_min F.plain_min F.entry_min (PyProof.Rows.kmk_min_key _ _) ?_
  show wpAny _ X.A.in1 (Builtin.Builtins.bindParams "min" ["key", "default"] 0 ⟨[], [(Str.ofString "key", .ref f)]⟩ >>= _) _ _ s
  refine wpAny_bind (wpAny_of_eq (show Builtin.Builtins.bindParams "min" ["key", "default"] 0 ⟨[], [(Str.ofString "key", .ref f)]⟩ = pure [some (.ref f), none] from rfl) ?_)
  refine wpAny_bind (wpAny_pure ?_)
  refine wpAny_bind (wpAny_pyIter_list hL.isList ?_)
  refine wpAny_bind (wpAny_newObj_type ?_)
  rw [hname]
  have sz1 : (s.heap.push { cls := .type "list_iterator", data := .fields #[.ref l, .int 0 0] }).objs.size = s.heap.objs.size + 1 := Heap.size_push ..
  have k1 : ∀ b o, s.heap.get? b = some o → (s.heap.push { cls := .type "list_iterator", data := .fields #[.ref l, .int 0 0] }).get? b = some o := fun b o e => Heap.get?_push_of_some _ e
  have I1 : Inv X pins σ H { s with heap := s.heap.push { cls := .type "list_iterator", data := .fields #[.ref l, .int 0 0] } } := I.kept (t' := s.toks) k1
  have I2 : Inv X pins σ H { s with heap := (s.heap.push { cls := .type "list_iterator", data := .fields #[.ref l, .int 0 0] }).push { cls := .type "list", data := .seq #[] 0 } } := I1.kept (t' := s.toks) fun b o e => Heap.get?_push_of_some _ e
  refine wpAny_pure ⟨plainId_quiet F.plain_min_loop _, minK_first (T := T) (it := s.heap.objs.size) (S := (s.heap.push { cls := .type "list_iterator", data := .fields #[.ref l, .int 0 0] }).objs.size) (Q := Q) LK hr.hd rfl (hr.mono (by omega)) hfr (mine_of I (Nat.le_refl _)) (mine_of I1 (Nat.le_refl _)) (Nat.ne_of_lt (by rw [sz1]; exact Nat.lt_succ_self _)) (Nat.ne_of_lt fl) (Nat.ne_of_lt (by rw [sz1]; exact Nat.lt_succ_of_lt fl)) (fun u s' v H' J r q => ⟨v, H', J, r, q⟩) I2 (Heap.get?_push_of_some _ (k1 _ _ hf)) hfn ⟨_, Heap.get?_push_of_some _ (Heap.get?_push_size _ rfl), rfl, rfl⟩ (I.hok.fresh (Nat.le_refl _)) (Heap.get?_push_size _ rfl) (I1.hok.fresh (Nat.le_refl _)) hc hl ht⟩
end
/-! ### the calls with a lambda as key -/
section
open LamX
variable {X : Cx} {T : List (Addr × Str)} {e : Expr} {tb : TE} {t : TA} {p kpos lpos pos : Pos} {params : Arguments} {body : Expr} {scope : Scope} {x : Str} {ip k : Nat} {c P : Addr}
def tSrtK (X : Cx) (T : List (Addr × Str)) (t : TA) (tb : TE) (ip : Nat) : TE := fun σ H Q => t σ H fun vs H1 => ∃ x, vs = [x] ∧ Tabs T H1 ∧ ∀ H2 c', ExtT H1 H2 → Tabs T H2 → H2 c' = some (CodeO c' (X.env.qual ++ "<lambda>")) →
  ∃ (l : Addr) (vs : List V), x = .ref l ∧ SrcK X.K H2 l vs ∧ tKeyGo tb ip c' (X.env.qual ++ "<lambda>") vs σ H2 fun ks H3 => ∃ kd : List D, RepAll (gX X T) H3 ks kd ∧ srtOk kd = true ∧ ∀ p ys, H3 p = none → ys = ((vs.zip kd).mergeSort (PySem.W.dataLe false fun p => toP p.2)).map Prod.fst → Q (.ref p) (upd H3 p (.lst ys))
theorem pe_srtK (hc : X.calm = true) (hg : Gl X "sorted") (hm : X.mg "sorted" = none) (ha : PA X [e] t) (TB : TabB X.base X.mg c P) (hcode : X.env.code = .ref c) (hmT : (P, X.env.qual ++ "<lambda>") ∈ T) (hu : ∀ p ∈ T, p.1 = P → p.2 = X.env.qual ++ "<lambda>") (hr : Room (k + 3) X.A)
    (LK : ∀ pins, LamK X pins params body scope x ip k tb) (hdef : defaultsOf params X.env = ([], []))
    (he : backTo pos (starEach [e] X.env) = (false, eval e X.env) :: backTo pos (starEach [] X.env) := by rfl) (hpl : (backTo pos (starEach [e] X.env)).any (·.1) = false := by rfl)
    (hks : (backToKw pos (keywordEach [⟨some "key", .Lambda params body scope lpos, kpos⟩] X.env)).filterMap (·.1) = [("key" : Str)] := by rfl) (hall : (backToKw pos (keywordEach [⟨some "key", .Lambda params body scope lpos, kpos⟩] X.env)).all (·.1.isSome) = true := by rfl) (hnone : (backToKw pos (keywordEach [⟨some "key", .Lambda params body scope lpos, kpos⟩] X.env)).any (·.1.isNone) = false := by rfl) :
    PE X (.Call (.Name "sorted" p) [e] [⟨some "key", .Lambda params body scope lpos, kpos⟩] pos) (tSrtK X T t tb ip) := by
  refine ⟨fun pins s σ H Q I h => ?_⟩
  refine wpAny_Call_Name_kw (ld_blt I hg hm (by rfl) ?_ (by decide) (by decide))
  refine PyProof.Rows.callWith_kw ?_ he hpl hall hnone
  rw [hks]
  refine thn (ha.run pos pins s σ H (fun vs H1 => ∃ x, vs = [x] ∧ Tabs T H1 ∧ ∀ H2 c', ExtT H1 H2 → Tabs T H2 → H2 c' = some (CodeO c' (X.env.qual ++ "<lambda>")) →
    ∃ (l : Addr) (vs : List V), x = .ref l ∧ SrcK X.K H2 l vs ∧ tKeyGo tb ip c' (X.env.qual ++ "<lambda>") vs σ H2 fun ks H3 => ∃ kd : List D, RepAll (gX X T) H3 ks kd ∧ srtOk kd = true ∧ ∀ p ys, H3 p = none → ys = ((vs.zip kd).mergeSort (PySem.W.dataLe false fun p => toP p.2)).map Prod.fst → Q (.ref p) (upd H3 p (.lst ys))) I ?_) fun us s1 ⟨vs, H1, I1, r1, q1⟩ => ?_
  · exact h
  obtain ⟨x, rfl, hT, q1⟩ := q1
  obtain ⟨u, rfl, ru⟩ := vals1 r1
  show wpAny _ _ (evalAll [do let v ← eval (.Lambda params body scope lpos) X.env; standAt pos; pure v]) _ _ s1
  refine wpAny_evalAll_cons (wpAny_bind (lam_make3 I1 TB hcode hmT hu hT hdef ((LK pins).L.has I1.ok) fun f c' pm' ctv H2 s' I2 eN T2 hf hfn hfr hco => wpAny_bind (wpAny_standAt (wpAny_pure ?_))))
  refine wpAny_evalAll_nil ?_
  obtain ⟨l, vs, rfl, hl, hq⟩ := q1 H2 c' eN T2 hco
  cases ru
  exact call_sortedK (T := T) hc (LK pins) I2 hr hf hfn hfr hl hq fun ks H' ⟨kd, h1, h2, h3⟩ => ⟨kd, h1, h2, h3⟩
def tMinK (X : Cx) (T : List (Addr × Str)) (t : TA) (tb : TE) (ip : Nat) : TE := fun σ H Q => t σ H fun vs H1 => ∃ x, vs = [x] ∧ Tabs T H1 ∧ ∀ H2 c', ExtT H1 H2 → Tabs T H2 → H2 c' = some (CodeO c' (X.env.qual ++ "<lambda>")) →
  ∃ (l : Addr) (v : V) (rest : List V), x = .ref l ∧ SqL X.K H2 l (v :: rest) ∧ tb (σ.set ip (some v)) H2 fun k0 H3 => tMinGo (gX X T) tb ip c' (X.env.qual ++ "<lambda>") l (v :: rest) rest σ H3 v k0 Q
theorem pe_minK (hg : Gl X "min") (hm : X.mg "min" = none) (ha : PA X [e] t) (TB : TabB X.base X.mg c P) (hcode : X.env.code = .ref c) (hmT : (P, X.env.qual ++ "<lambda>") ∈ T) (hu : ∀ p ∈ T, p.1 = P → p.2 = X.env.qual ++ "<lambda>") (hr : Room (k + 3) X.A)
    (LK : ∀ pins, LamK X pins params body scope x ip k tb) (hdef : defaultsOf params X.env = ([], []))
    (he : backTo pos (starEach [e] X.env) = (false, eval e X.env) :: backTo pos (starEach [] X.env) := by rfl) (hpl : (backTo pos (starEach [e] X.env)).any (·.1) = false := by rfl)
    (hks : (backToKw pos (keywordEach [⟨some "key", .Lambda params body scope lpos, kpos⟩] X.env)).filterMap (·.1) = [("key" : Str)] := by rfl) (hall : (backToKw pos (keywordEach [⟨some "key", .Lambda params body scope lpos, kpos⟩] X.env)).all (·.1.isSome) = true := by rfl) (hnone : (backToKw pos (keywordEach [⟨some "key", .Lambda params body scope lpos, kpos⟩] X.env)).any (·.1.isNone) = false := by rfl) :
    PE X (.Call (.Name "min" p) [e] [⟨some "key", .Lambda params body scope lpos, kpos⟩] pos) (tMinK X T t tb ip) := by
  refine ⟨fun pins s σ H Q I h => ?_⟩
  refine wpAny_Call_Name_kw (ld_blt I hg hm (by rfl) ?_ (by decide) (by decide))
  refine PyProof.Rows.callWith_kw ?_ he hpl hall hnone
  rw [hks]
  refine thn (ha.run pos pins s σ H (fun vs H1 => ∃ x, vs = [x] ∧ Tabs T H1 ∧ ∀ H2 c', ExtT H1 H2 → Tabs T H2 → H2 c' = some (CodeO c' (X.env.qual ++ "<lambda>")) →
    ∃ (l : Addr) (v : V) (rest : List V), x = .ref l ∧ SqL X.K H2 l (v :: rest) ∧ tb (σ.set ip (some v)) H2 fun k0 H3 => tMinGo (gX X T) tb ip c' (X.env.qual ++ "<lambda>") l (v :: rest) rest σ H3 v k0 Q) I ?_) fun us s1 ⟨vs, H1, I1, r1, q1⟩ => ?_
  · exact h
  obtain ⟨x, rfl, hT, q1⟩ := q1
  obtain ⟨u, rfl, ru⟩ := vals1 r1
  show wpAny _ _ (evalAll [do let v ← eval (.Lambda params body scope lpos) X.env; standAt pos; pure v]) _ _ s1
  refine wpAny_evalAll_cons (wpAny_bind (lam_make3 I1 TB hcode hmT hu hT hdef ((LK pins).L.has I1.ok) fun f c' pm' ctv H2 s' I2 eN T2 hf hfn hfr hco => wpAny_bind (wpAny_standAt (wpAny_pure ?_))))
  refine wpAny_evalAll_nil ?_
  obtain ⟨l, v, rest, rfl, hl, hq⟩ := q1 H2 c' eN T2 hco
  cases ru
  exact call_minK (T := T) (LK pins) I2 hr hf hfn hfr hco hl hq
end
end Ax
/-! Ax38: sorted and min by a lambda's keys, as plain functions -/
namespace Ax
open PySem PySem.Spec PyProof.Rows L2
def alive : Cel → Bool
  | .dead => false
  | _ => true
def keyGo (mk : EM) (ip : Nat) : List Vl → Sl → Store → List D → Out (List D)
  | [], _, S, acc => .ok acc S
  | x :: xs, e, S, acc => match mk (e.set ip (some x)) S with
    | .ok (.v d) S1 => keyGo mk ip xs e S1 (acc ++ [d])
    | _ => .stuck
def srtBy (ys : List Vl) (kd : List D) : List Vl := (isortD (fun p q : Vl × D => PySem.W.dataLe false toP p.2 q.2) (ys.zip kd)).map Prod.fst
def srcV (S : Store) (x : Vl) : Option (List Vl) := match llview S x with
  | some ys => some ys
  | none => (dview S x).map fun ps => ps.map fun p => .v p.1
def eSrtK (k : KL) (ma : AM) (mk : EM) (ip : Nat) : EM := fun e S => (ma e S).bind fun xs S1 => match xs with
  | [x] => match srcV S1 x with
    | some ys => if S1.all alive then (match keyGo mk ip ys e S1 [] with
      | .ok kd S2 => if srtOk kd then k (srtBy ys kd) S2 else .stuck
      | _ => .stuck) else .stuck
    | none => .stuck
  | _ => .stuck
def minGo (mk : EM) (ip : Nat) : List D → Sl → Store → D → D → Out D
  | [], _, S, b, _ => .ok b S
  | y :: ys, e, S, b, kb => match mk (e.set ip (some (.v y))) S with
    | .ok (.v k) S1 => if kAlike k kb then (if kLess k kb then minGo mk ip ys e S1 y k else minGo mk ip ys e S1 b kb) else .stuck
    | _ => .stuck
def eMinK (ma : AM) (mk : EM) (ip : Nat) : EM := fun e S => (ma e S).bind fun xs S1 => match xs with
  | [.v (.lst (y :: ys))] => if S1.all alive then (match mk (e.set ip (some (.v y))) S1 with
    | .ok (.v k0) S2 => (minGo mk ip ys e S2 y k0).bind fun b S3 => .ok (.v b) S3
    | _ => .stuck) else .stuck
  | _ => .stuck
section
variable {X : Cx} {T : List (Addr × Str)} {W : WX} {g : G}
theorem no_code {w : Wd} {H : Hp} {S : Store} (hS : RepSt g w H S) (ha : S.all alive = true) {c' : Addr} {q : Str} (hc : H c' = some (LamX.CodeO c' q)) : c' ∉ w.p := by
  intro z
  obtain ⟨n, hn⟩ := List.mem_iff_getElem?.mp z
  have hlt : n < S.length := by rw [← hS.len]; exact (List.getElem?_eq_some_iff.mp hn).1
  have hs : S[n]? = some S[n] := List.getElem?_eq_getElem hlt
  have al := List.all_eq_true.mp ha S[n] (List.getElem_mem hlt)
  have cr := hS.cel n c' S[n] hn hs
  generalize S[n] = c at cr al
  cases c with
  | lst xs => obtain ⟨vs, e, _⟩ := cr; rw [hc] at e; unfold LamX.CodeO at e; cases e
  | dct ps => obtain ⟨vs, e, _⟩ := cr; rw [hc] at e; unfold LamX.CodeO at e; cases e
  | ins c fs => obtain ⟨C, dx, vs, _, e, _⟩ := cr; rw [hc] at e; unfold LamX.CodeO at e; cases e
  | dead => cases al
  | dcn ps => obtain ⟨ks, e, _⟩ := cr; rw [hc] at e; exact absurd (Option.some.inj e).symm dnP_ne
theorem noTbl_code {c' : Addr} {q : Str} : noTbl (LamX.CodeO c' q) := by unfold LamX.CodeO; trivial
theorem keyGo_rd {mk : EM} {ip : Nat} {c' : Addr} {q : Str} {σ : L2.St} {e : Sl} : ∀ (ys : List Vl) (vs : List V) (w : Wd) (H : Hp) (S S2 : Store) (acc kd : List D) (C : List V → Hp → Prop), RepVs g w vs ys → RepSt g w H S → RepSl g w σ e → H c' = some (LamX.CodeO c' q) → c' ∉ w.p → keyGo mk ip ys e S acc = .ok kd S2 →
    (∀ ks H3 w3 kd', Ext w H w3 H3 → RepSt g w3 H3 S2 → kd = acc ++ kd' → RepAll g w3.F ks kd' → kd'.length = ys.length → C ks H3) → tKeyGo (rd g W0 mk) ip c' q vs σ H C
  | [], _, w, H, S, S2, acc, kd, C, .nil, hS, hE, hc, hn, h, hC => by
    simp only [keyGo, Out.ok.injEq] at h
    obtain ⟨rfl, rfl⟩ := h
    exact hC [] H w [] (Ext.refl _ _) hS (by simp) .nil rfl
  | y :: ys, v :: vs, w, H, S, S2, acc, kd, C, .cons hv hvs, hS, hE, hc, hn, h, hC => by
    unfold keyGo at h
    refine ⟨hc, w, e.set ip (some y), S, hS, hE.set hv, ?_⟩
    split at h
    · rename_i d S1 hm
      rw [hm]
      intro w1 H1 k ex1 hS1 hk
      have hc1 : H1 c' = some (LamX.CodeO c' q) := ex1.frame c' _ hc hn noTbl_code
      have hn1 : c' ∉ w1.p := fun z => by
        rcases ex1.fresh c' z with z | z
        · exact hn z
        · rw [hc] at z; cases z
      refine keyGo_rd ys vs w1 H1 S1 S2 (acc ++ [d]) kd _ (hvs.le ex1.wle) hS1 (hE.le ex1.wle) hc1 hn1 h fun ks H3 w3 kd' ex3 hS3 e3 r3 l3 => ?_
      refine hC (k :: ks) H3 w3 (d :: kd') (ex1.trans ex3) hS3 (by rw [e3]; simp) (.cons ?_ r3) (by simp [l3])
      cases hk with
      | v hk => exact hk.le ex3.fle
    · exact absurd h (by simp)
theorem repVs_zs {w : Wd} : ∀ {zs : List ((V × Vl) × D)}, (∀ z ∈ zs, RepV g w z.1.1 z.1.2) → RepVs g w (zs.map fun z => z.1.1) (zs.map fun z => z.1.2)
  | [], _ => .nil
  | z :: zs, h => .cons (h z (List.mem_cons_self ..)) (repVs_zs fun p hp => h p (List.mem_cons_of_mem _ hp))
theorem RepVs.mem_zip {w : Wd} : ∀ {vs : List V} {ys : List Vl}, RepVs g w vs ys → ∀ p ∈ vs.zip ys, RepV g w p.1 p.2
  | _, _, .nil, p, h => by simp at h
  | _, _, .cons h r, p, hp => by
    rw [List.zip_cons_cons] at hp
    rcases List.mem_cons.mp hp with e | hp
    · rw [e]; exact h
    · exact r.mem_zip p hp
theorem srtBy_rep {w : Wd} {vs : List V} {ys : List Vl} {kd : List D} (r : RepVs g w vs ys) (hl : kd.length = ys.length) : RepVs g w (((vs.zip kd).mergeSort (PySem.W.dataLe false fun p => toP p.2)).map Prod.fst) (srtBy ys kd) := by
  have lv : vs.length = ys.length := r.len
  have e1 : vs.zip kd = ((vs.zip ys).zip kd).map fun z => (z.1.1, z.2) := by
    clear r
    induction vs generalizing ys kd with
    | nil => simp
    | cons v vs ih =>
      cases ys with
      | nil => simp at lv
      | cons y ys =>
        cases kd with
        | nil => simp
        | cons d kd => simp only [List.zip_cons_cons, List.map_cons]; rw [← ih (by simpa using hl) (by simpa using lv)]
  have e2 : ys.zip kd = ((vs.zip ys).zip kd).map fun z => (z.1.2, z.2) := by
    clear r e1
    induction vs generalizing ys kd with
    | nil => cases ys with
      | nil => simp
      | cons y ys => simp at lv
    | cons v vs ih =>
      cases ys with
      | nil => simp at lv
      | cons y ys =>
        cases kd with
        | nil => simp
        | cons d kd => simp only [List.zip_cons_cons, List.map_cons]; rw [← ih (by simpa using hl) (by simpa using lv)]
  unfold srtBy
  rw [show isortD (fun p q : Vl × D => PySem.W.dataLe false toP p.2 q.2) (ys.zip kd) = (ys.zip kd).mergeSort (PySem.W.dataLe false fun p => toP p.2) from (isortD_eq (PySem.W.sortLe_total _ _ _) _).symm]
  rw [e1, e2]
  rw [← List.map_mergeSort (f := fun z : (V × Vl) × D => (z.1.1, z.2)) (r := PySem.W.dataLe false fun z : (V × Vl) × D => toP z.2) (s := PySem.W.dataLe false fun p => toP p.2) (fun a _ b _ => rfl),
    ← List.map_mergeSort (f := fun z : (V × Vl) × D => (z.1.2, z.2)) (r := PySem.W.dataLe false fun z : (V × Vl) × D => toP z.2) (s := PySem.W.dataLe false fun p => toP p.2) (fun a _ b _ => rfl), List.map_map, List.map_map]
  refine repVs_zs fun z hz => ?_
  have hz := (List.mergeSort_perm _ _).mem_iff.mp hz
  exact r.mem_zip z.1 (List.of_mem_zip hz).1
theorem srtK_rd {k : KL} (hk : TakesList (gX X T) W k) {ma : AM} {mk : EM} {ip : Nat} : ∀ s H Q, rd (gX X T) W (eSrtK k ma mk ip) s H Q → tSrtK X T (rdA (gX X T) W ma) (rd (gX X T) W0 mk) ip s H Q := fun s H Q h =>
  rd_bind (rel := RepVs (gX X T)) (f := fun xs e S1 => match xs with
    | [x] => match srcV S1 x with
      | some ys => if S1.all alive then (match keyGo mk ip ys e S1 [] with
        | .ok kd S2 => if srtOk kd then k (srtBy ys kd) S2 else .stuck
        | _ => .stuck) else .stuck
      | none => .stuck
    | _ => .stuck) h fun w1 H1 S1 e vs xs hS hE hx h1 => by
    split at h1
    · rename_i x
      cases hx with
      | cons hx hx2 =>
        cases hx2
        refine ⟨_, rfl, hS.tabs, fun H2 c' ext tabs hco => ?_⟩
        obtain ⟨hS2, ex2⟩ := hS.extT ext tabs
        split at h1
        · rename_i ys hys
          split at h1
          · rename_i al
            split at h1
            · rename_i kd S2 hkg
              split at h1
              · rename_i ok
                have fin : ∀ (l : Addr) (us : List V), RepVs (gX X T) w1 us ys → tKeyGo (rd (gX X T) W0 mk) ip c' (X.env.qual ++ "<lambda>") us s H2 fun ks H3 => ∃ kd : List D, RepAll (gX X T) H3 ks kd ∧ srtOk kd = true ∧ ∀ p zs, H3 p = none → zs = ((us.zip kd).mergeSort (PySem.W.dataLe false fun p => toP p.2)).map Prod.fst → Q (.ref p) (upd H3 p (.lst zs)) := fun l us r =>
                  keyGo_rd ys us w1 H2 S1 S2 [] kd _ r hS2 hE hco (no_code hS2 al hco) hkg fun ks H3 w3 kd' ex3 hS3 e3 r3 l3 => by
                    rw [List.nil_append] at e3
                    subst e3
                    refine ⟨kd, r3.le hS3.hle, ok, fun p zs hp ez => ?_⟩
                    subst ez
                    exact hk hS3 (srtBy_rep (r.le ex3.wle) l3) (SatG.ext h1 (ex2.trans ex3)) p hp
                unfold srcV at hys
                split at hys
                · rename_i zs hzs
                  cases hys
                  obtain ⟨p, us, rfl, q, r⟩ := llview_rep hS2 hx hzs
                  exact ⟨p, us, rfl, .inl q, fin p us r⟩
                · obtain ⟨ps, hps, rfl⟩ := Option.map_eq_some_iff.mp hys
                  obtain ⟨p, kvs, rfl, q, r⟩ := dview_rep hS2 hx hps
                  exact ⟨p, _, rfl, .inr ⟨kvs, q, rfl⟩, fin p _ r.keys⟩
              · exact h1.elim
            · exact h1.elim
          · exact h1.elim
        · exact h1.elim
    · exact h1.elim
theorem minGo_rd {mk : EM} {ip : Nat} {c' l : Addr} {q : Str} {σ : L2.St} {e : Sl} {all : List V} : ∀ (ys : List D) (vs : List V) (w : Wd) (H : Hp) (S : Store) (vb kb : V) (b k : D) (Q : VK), RepAll g w.F vs ys → RepSt g w H S → RepSl g w σ e → H c' = some (LamX.CodeO c' q) → c' ∉ w.p → w.F l = some (.lst all) → Rep g w.F vb b → Rep g w.F kb k →
    SatG g W σ w H (RepV g) ((minGo mk ip ys e S b k).bind fun b S3 => .ok (.v b) S3) Q → tMinGo g (rd g W0 mk) ip c' q l all vs σ H vb kb Q
  | [], _, w, H, S, vb, kb, b, k, Q, .nil, hS, hE, hc, hn, hl, rb, rk, h => ⟨.inl (.inl (hS.le _ _ hl)), h w H vb (Ext.refl _ _) hS (.v rb)⟩
  | y :: ys, v :: vs, w, H, S, vb, kb, b, kk, Q, .cons hv hvs, hS, hE, hc, hn, hl, rb, rk, h => by
    unfold minGo at h
    refine ⟨hc, .inl (.inl (hS.le _ _ hl)), w, e.set ip (some (.v y)), S, hS, hE.set (.v hv), ?_⟩
    split at h
    · rename_i d S1 hm
      rw [hm]
      intro w1 H1 k1 ex1 hS1 hk
      have hc1 : H1 c' = some (LamX.CodeO c' q) := ex1.frame c' _ hc hn noTbl_code
      have hn1 : c' ∉ w1.p := fun z => by
        rcases ex1.fresh c' z with z | z
        · exact hn z
        · rw [hc] at z; cases z
      cases hk with
      | v hk =>
        split at h
        · rename_i ok
          refine ⟨d, kk, hk.le hS1.hle, (rk.le ex1.fle).le hS1.hle, ok, ?_⟩
          cases hb : kLess d kk with
          | true =>
            rw [hb] at h
            simp only [if_true] at h ⊢
            exact minGo_rd ys vs w1 H1 S1 v k1 y d Q (hvs.le ex1.fle) hS1 (hE.le ex1.wle) hc1 hn1 (ex1.fle.st _ _ trivial hl) (hv.le ex1.fle) hk (SatG.ext h ex1)
          | false =>
            rw [hb] at h
            simp only [Bool.false_eq_true, if_false] at h ⊢
            exact minGo_rd ys vs w1 H1 S1 vb kb b kk Q (hvs.le ex1.fle) hS1 (hE.le ex1.wle) hc1 hn1 (ex1.fle.st _ _ trivial hl) (rb.le ex1.fle) (rk.le ex1.fle) (SatG.ext h ex1)
        · exact h.elim
    · exact h.elim
theorem minK_rd {ma : AM} {mk : EM} {ip : Nat} : ∀ s H Q, rd (gX X T) W (eMinK ma mk ip) s H Q → tMinK X T (rdA (gX X T) W ma) (rd (gX X T) W0 mk) ip s H Q := fun s H Q h =>
  rd_bind (rel := RepVs (gX X T)) (f := fun xs e S1 => match xs with
    | [.v (.lst (y :: ys))] => if S1.all alive then (match mk (e.set ip (some (.v y))) S1 with
      | .ok (.v k0) S2 => (minGo mk ip ys e S2 y k0).bind fun b S3 => .ok (Vl.v b) S3
      | _ => .stuck) else .stuck
    | _ => .stuck) h fun w1 H1 S1 e vs xs hS hE hx h1 => by
    split at h1
    · rename_i y ys
      cases hx with
      | cons hx hx2 =>
        cases hx2
        cases hx with
        | v hx =>
          cases hx with
          | @lst l all _ hl hr =>
            cases hr with
            | @cons v rest _ _ hv hvs =>
              refine ⟨_, rfl, hS.tabs, fun H2 c' ext tabs hco => ?_⟩
              obtain ⟨hS2, ex2⟩ := hS.extT ext tabs
              split at h1
              · rename_i al
                refine ⟨l, v, rest, rfl, .inl (.inl (hS2.le _ _ hl)), w1, e.set ip (some (.v y)), S1, hS2, hE.set (.v hv), ?_⟩
                have hn := no_code hS2 al hco
                split at h1
                · rename_i k0 S2 hm
                  rw [hm]
                  intro w3 H3 k3 ex3 hS3 hk
                  have hc3 : H3 c' = some (LamX.CodeO c' (X.env.qual ++ "<lambda>")) := ex3.frame c' _ hco hn noTbl_code
                  have hn3 : c' ∉ w3.p := fun z => by
                    rcases ex3.fresh c' z with z | z
                    · exact hn z
                    · rw [hco] at z; cases z
                  cases hk with
                  | v hk => exact minGo_rd ys rest w3 H3 S2 v k3 y k0 Q (hvs.le ex3.fle) hS3 (hE.le ex3.wle) hc3 hn3 (ex3.fle.st _ _ trivial hl) (hv.le ex3.fle) hk (SatG.ext h1 (ex2.trans ex3))
                · exact h1.elim
              · exact h1.elim
    · exact h1.elim
end
/-! ### the rules -/
section
open LamX
variable {X : Cx} {T : List (Addr × Str)} {W : WX} {e : Expr} {ma : AM} {mk : EM} {k : KL} {p kpos lpos pos : Pos} {params : Arguments} {body : Expr} {scope : Scope} {x : Str} {ip j : Nat} {c P : Addr}
theorem e_srtK (hk : TakesList (gX X T) W k) (hc : X.calm = true) (hm : X.mg "sorted" = none) (TB : TabB X.base X.mg c P) (hmT : (P, X.env.qual ++ "<lambda>") ∈ T) (hcode : X.env.code = .ref c) (hu : ∀ p ∈ T, p.1 = P → p.2 = X.env.qual ++ "<lambda>") (hr : Room (j + 3) X.A) (L : LamS1 X.env.scope scope x) (hip : X.N[ip]? = some x) (hN : X.N.Nodup)
    (hbind : ∀ (q : Str) (cl : List (Str × Addr)) (pm cv ctv u : Value), bindArgs (PySem.W.kla_fn "<lambda>" q params body scope cl pm cv ctv) ⟨[u], []⟩ = pure [(x, u)]) (ha : PA X [e] (rdA (gX X T) W ma))
    (hb : ∀ (A : Around) (outer : List Env) (s : Shared) (H : Hp) (f c' : Addr), Room j (A.deeper (lamEnv X scope s.heap.objs.size f c')) → PE (lamCx X A outer s H (fun _ _ _ => False) scope f c') body (rd (gX X T) W0 mk))
    (hg : Gl X "sorted" := by rfl) (hdef : defaultsOf params X.env = ([], []) := by rfl)
    (he : backTo pos (starEach [e] X.env) = (false, eval e X.env) :: backTo pos (starEach [] X.env) := by rfl) (hpl : (backTo pos (starEach [e] X.env)).any (·.1) = false := by rfl)
    (hks : (backToKw pos (keywordEach [⟨some "key", .Lambda params body scope lpos, kpos⟩] X.env)).filterMap (·.1) = [("key" : Str)] := by rfl) (hall : (backToKw pos (keywordEach [⟨some "key", .Lambda params body scope lpos, kpos⟩] X.env)).all (·.1.isSome) = true := by rfl) (hnone : (backToKw pos (keywordEach [⟨some "key", .Lambda params body scope lpos, kpos⟩] X.env)).any (·.1.isNone) = false := by rfl) :
    PE X (.Call (.Name "sorted" p) [e] [⟨some "key", .Lambda params body scope lpos, kpos⟩] pos) (rd (gX X T) W (eSrtK k ma mk ip)) :=
  PE_imp (pe_srtK (k := j) hc hg hm ha TB hcode hmT hu hr (fun _ => ⟨L, hip, hN, hbind, hb⟩) hdef he hpl hks hall hnone) (srtK_rd hk)
theorem e_minK (hm : X.mg "min" = none) (TB : TabB X.base X.mg c P) (hmT : (P, X.env.qual ++ "<lambda>") ∈ T) (hcode : X.env.code = .ref c) (hu : ∀ p ∈ T, p.1 = P → p.2 = X.env.qual ++ "<lambda>") (hr : Room (j + 3) X.A) (L : LamS1 X.env.scope scope x) (hip : X.N[ip]? = some x) (hN : X.N.Nodup)
    (hbind : ∀ (q : Str) (cl : List (Str × Addr)) (pm cv ctv u : Value), bindArgs (PySem.W.kla_fn "<lambda>" q params body scope cl pm cv ctv) ⟨[u], []⟩ = pure [(x, u)]) (ha : PA X [e] (rdA (gX X T) W ma))
    (hb : ∀ (A : Around) (outer : List Env) (s : Shared) (H : Hp) (f c' : Addr), Room j (A.deeper (lamEnv X scope s.heap.objs.size f c')) → PE (lamCx X A outer s H (fun _ _ _ => False) scope f c') body (rd (gX X T) W0 mk))
    (hg : Gl X "min" := by rfl) (hdef : defaultsOf params X.env = ([], []) := by rfl)
    (he : backTo pos (starEach [e] X.env) = (false, eval e X.env) :: backTo pos (starEach [] X.env) := by rfl) (hpl : (backTo pos (starEach [e] X.env)).any (·.1) = false := by rfl)
    (hks : (backToKw pos (keywordEach [⟨some "key", .Lambda params body scope lpos, kpos⟩] X.env)).filterMap (·.1) = [("key" : Str)] := by rfl) (hall : (backToKw pos (keywordEach [⟨some "key", .Lambda params body scope lpos, kpos⟩] X.env)).all (·.1.isSome) = true := by rfl) (hnone : (backToKw pos (keywordEach [⟨some "key", .Lambda params body scope lpos, kpos⟩] X.env)).any (·.1.isNone) = false := by rfl) :
    PE X (.Call (.Name "min" p) [e] [⟨some "key", .Lambda params body scope lpos, kpos⟩] pos) (rd (gX X T) W (eMinK ma mk ip)) :=
  PE_imp (pe_minK (k := j) hg hm ha TB hcode hmT hu hr (fun _ => ⟨L, hip, hN, hbind, hb⟩) hdef he hpl hks hall hnone) minK_rd
end
end Ax
/-! Ax39: the rules of Ax38 in the generator's order; the plain steps -/
namespace Ax
open PySem PySem.Spec PyProof.Rows L2
section
open LamX
variable {X : Cx} {T : List (Addr × Str)} {W : WX} {e : Expr} {ma : AM} {mk : EM} {k : KL} {p kpos lpos pos : Pos} {params : Arguments} {body : Expr} {scope : Scope} {x : Str} {ip j : Nat} {c P : Addr}
theorem e_srtKT (hk : TakesList (gX X T) W k) (hc : X.calm = true) (hm : X.mg "sorted" = none) (hr : Room (j + 3) X.A) (TB : TabB X.base X.mg c P) (hT1 : (P, X.env.qual ++ "<lambda>") ∈ T) (hT2 : ∀ p ∈ T, p.1 = P → p = (P, X.env.qual ++ "<lambda>")) (hcode : X.env.code = .ref c) (L : LamS1 X.env.scope scope x) (hip : X.N[ip]? = some x) (hN : X.N.Nodup)
    (hbind : ∀ (q : Str) (cl : List (Str × Addr)) (pm cv ctv u : Value), bindArgs (PySem.W.kla_fn "<lambda>" q params body scope cl pm cv ctv) ⟨[u], []⟩ = pure [(x, u)]) (ha : PA X [e] (rdA (gX X T) W ma))
    (hb : ∀ (A : Around) (outer : List Env) (s : Shared) (H : Hp) (f c' : Addr), Room j (A.deeper (lamEnv X scope s.heap.objs.size f c')) → PE (lamCx X A outer s H (fun _ _ _ => False) scope f c') body (rd (gX X T) W0 mk))
    (hg : Gl X "sorted" := by rfl) (hdef : defaultsOf params X.env = ([], []) := by rfl)
    (he : backTo pos (starEach [e] X.env) = (false, eval e X.env) :: backTo pos (starEach [] X.env) := by rfl) (hpl : (backTo pos (starEach [e] X.env)).any (·.1) = false := by rfl)
    (hks : (backToKw pos (keywordEach [⟨some "key", .Lambda params body scope lpos, kpos⟩] X.env)).filterMap (·.1) = [("key" : Str)] := by rfl) (hall : (backToKw pos (keywordEach [⟨some "key", .Lambda params body scope lpos, kpos⟩] X.env)).all (·.1.isSome) = true := by rfl) (hnone : (backToKw pos (keywordEach [⟨some "key", .Lambda params body scope lpos, kpos⟩] X.env)).any (·.1.isNone) = false := by rfl) :
    PE X (.Call (.Name "sorted" p) [e] [⟨some "key", .Lambda params body scope lpos, kpos⟩] pos) (rd (gX X T) W (eSrtK k ma mk ip)) :=
  e_srtK hk hc hm TB hT1 hcode (fun p hp e => by rw [hT2 p hp e]) hr L hip hN hbind ha hb hg hdef he hpl hks hall hnone
theorem e_minKT (hm : X.mg "min" = none) (hr : Room (j + 3) X.A) (TB : TabB X.base X.mg c P) (hT1 : (P, X.env.qual ++ "<lambda>") ∈ T) (hT2 : ∀ p ∈ T, p.1 = P → p = (P, X.env.qual ++ "<lambda>")) (hcode : X.env.code = .ref c) (L : LamS1 X.env.scope scope x) (hip : X.N[ip]? = some x) (hN : X.N.Nodup)
    (hbind : ∀ (q : Str) (cl : List (Str × Addr)) (pm cv ctv u : Value), bindArgs (PySem.W.kla_fn "<lambda>" q params body scope cl pm cv ctv) ⟨[u], []⟩ = pure [(x, u)]) (ha : PA X [e] (rdA (gX X T) W ma))
    (hb : ∀ (A : Around) (outer : List Env) (s : Shared) (H : Hp) (f c' : Addr), Room j (A.deeper (lamEnv X scope s.heap.objs.size f c')) → PE (lamCx X A outer s H (fun _ _ _ => False) scope f c') body (rd (gX X T) W0 mk))
    (hg : Gl X "min" := by rfl) (hdef : defaultsOf params X.env = ([], []) := by rfl)
    (he : backTo pos (starEach [e] X.env) = (false, eval e X.env) :: backTo pos (starEach [] X.env) := by rfl) (hpl : (backTo pos (starEach [e] X.env)).any (·.1) = false := by rfl)
    (hks : (backToKw pos (keywordEach [⟨some "key", .Lambda params body scope lpos, kpos⟩] X.env)).filterMap (·.1) = [("key" : Str)] := by rfl) (hall : (backToKw pos (keywordEach [⟨some "key", .Lambda params body scope lpos, kpos⟩] X.env)).all (·.1.isSome) = true := by rfl) (hnone : (backToKw pos (keywordEach [⟨some "key", .Lambda params body scope lpos, kpos⟩] X.env)).any (·.1.isNone) = false := by rfl) :
    PE X (.Call (.Name "min" p) [e] [⟨some "key", .Lambda params body scope lpos, kpos⟩] pos) (rd (gX X T) W (eMinK ma mk ip)) :=
  e_minK hm TB hT1 hcode (fun p hp e => by rw [hT2 p hp e]) hr L hip hN hbind ha hb hg hdef he hpl hks hall hnone
end
section
variable {e : Sl} {S S1 S2 S3 : Store} {ma : AM} {mk : EM} {ip : Nat} {x : Vl} {ys : List Vl} {kd : List D} {o : Out Vl} {k : KL}
theorem ev_srtK (h1 : ma e S = .ok [x] S1) (h2 : srcV S1 x = some ys) (h3 : S1.all alive = true) (h4 : keyGo mk ip ys e S1 [] = .ok kd S2) (h5 : srtOk kd = true) (h6 : k (srtBy ys kd) S2 = o) : eSrtK k ma mk ip e S = o := by
  unfold eSrtK
  rw [h1]
  simp only [Out.bind, h2, h3, h4, h5, if_true]
  exact h6
theorem ev_minK {y : D} {zs : List D} {k0 b : D} (h1 : ma e S = .ok [.v (.lst (y :: zs))] S1) (h3 : S1.all alive = true) (h4 : mk (e.set ip (some (.v y))) S1 = .ok (.v k0) S2) (h5 : minGo mk ip zs e S2 y k0 = .ok b S3) : eMinK ma mk ip e S = .ok (.v b) S3 := by
  unfold eMinK
  rw [h1]
  simp only [Out.bind, h3, h4, h5, if_true]
/-- keys that change no cell -/
theorem keyGo_map {α : Type} (g : α → Vl) (f : α → D) : ∀ (xs : List α) (acc : List D), (∀ x ∈ xs, mk (e.set ip (some (g x))) S = .ok (.v (f x)) S) → keyGo mk ip (xs.map g) e S acc = .ok (acc ++ xs.map f) S
  | [], acc, _ => by simp [keyGo]
  | x :: xs, acc, h => by
    simp only [List.map_cons, keyGo, h x (by simp)]
    rw [keyGo_map g f xs (acc ++ [f x]) fun y hy => h y (by simp [hy])]
    simp
/-- the least by a key -/
def minBy {α : Type} (lt : α → α → Bool) : List α → α → α
  | [], b => b
  | y :: ys, b => if lt y b then minBy lt ys y else minBy lt ys b
theorem minGo_map {α : Type} (g : α → D) (f : α → D) : ∀ (xs : List α) (b : α), (∀ x ∈ xs, mk (e.set ip (some (.v (g x)))) S = .ok (.v (f x)) S) → (∀ x ∈ b :: xs, ∀ y ∈ b :: xs, kAlike (f x) (f y) = true) →
    minGo mk ip (xs.map g) e S (g b) (f b) = .ok (g (minBy (fun x y => kLess (f x) (f y)) xs b)) S
  | [], b, _, _ => rfl
  | x :: xs, b, h, h2 => by
    simp only [List.map_cons, minGo, h x (by simp), h2 x (by simp) b (by simp), if_true, minBy]
    by_cases hb : kLess (f x) (f b) = true
    · rw [if_pos hb, if_pos hb]
      exact minGo_map g f xs x (fun y hy => h y (by simp [hy])) fun y hy z hz => h2 y (by simp at hy ⊢; rcases hy with q | q <;> simp [q]) z (by simp at hz ⊢; rcases hz with q | q <;> simp [q])
    · rw [if_neg hb, if_neg hb]
      exact minGo_map g f xs b (fun y hy => h y (by simp [hy])) fun y hy z hz => h2 y (by simp at hy ⊢; rcases hy with q | q <;> simp [q]) z (by simp at hz ⊢; rcases hz with q | q <;> simp [q])
end
end Ax
/-! Ax40: list.index -/
namespace Ax
open PySem PySem.Spec PyProof.Rows L2
def rIdxL (X : Cx) (T : List (Addr × Str)) : V → List V → Hp → VK → Prop := fun x xs H Q => ∃ a y vs ds d j, x = .ref a ∧ xs = [y] ∧ SqL X.K H a vs ∧ RepAll (gX X T) H vs ds ∧ Rep (gX X T) H y d ∧ ds.all (okd 59) = true ∧ okd 60 d = true ∧ ds.findIdx? (fun z => deq z d) = some j ∧ Q (.int (j : Nat)) H
theorem mt_idxL {X : Cx} {T : List (Addr × Str)} (hu : X.A.units + 65 < cLine) : MtR X "list.index" (rIdxL X T) := by
  intro pins s σ H x xs v us Q I rx rxs h
  obtain ⟨a, y, vs, ds, d, j, rfl, rfl, hq, r, rd, o1, o2, hj, q⟩ := h
  cases rx
  obtain ⟨u, rfl, ru⟩ := rxs.one
  obtain ⟨its, rv, ⟨⟨cls, dd, data, sl⟩, n, ho, hc, hdn, hd⟩, hlen⟩ := I.list hq
  simp only at hc hd
  subst hc hd
  obtain ⟨e, h1, h2⟩ := seq_eq (T := T) hu I rv r rd ru o1 o2
  have hl : its.length = ds.length := by have := congrArg List.length h2; simpa using this
  have hl2 : vs.length = its.length := rv.length
  obtain ⟨hj1, hj2, hj3⟩ := List.findIdx?_eq_some_iff_getElem.mp hj
  have at_ : ∀ (m : Nat) (hm : m < its.length) (hm2 : m < ds.length), e its[m] = deq ds[m] d := fun m hm hm2 => by
    have := congrArg (·[m]?) h2
    simp [hm, hm2] at this
    exact this
  refine call_meets PySem.F.slot_list_index ⟨_, ho, rfl⟩ PySem.F.entry_list_index (PySem.F.args_list_index_2 _ _) (PySem.SeqAt.list_indexAt a its.toArray n dd sl u e j (by simpa [hl] using hj1) (by rw [sizeLine_eq] at hlen; omega) ?_ ?_) ⟨ho, h1, ⟨.int (j : Nat), H, I.tok _, ⟨_, rfl⟩, q⟩⟩
  · show e its[j] = true
    rw [at_ j (by omega) hj1]; exact hj2
  · intro m hm hmj
    have hm : m < its.length := by simpa using hm
    show e its[m] = false
    rw [at_ m hm (by omega)]
    have := hj3 m hmj
    simpa using this
def fIdxL (x : Vl) (xs : List Vl) (S : Store) : Out Vl := match xs with
  | [y] => if isL S x then (match itemsD S x y with
    | some (ds, d) => (match ds.findIdx? (fun z => deq z d) with
      | some j => .ok (.v (.int (j : Nat))) S
      | none => .stuck)
    | none => .stuck) else .stuck
  | _ => .stuck
theorem fIdxL_of {X : Cx} {T : List (Addr × Str)} {W : WX} : MtD (gX X T) W fIdxL (rIdxL X T) := by
  intro s w H S v vs x xs Q hS hx hxs h
  unfold fIdxL at h
  split at h
  · cases hxs with
    | cons hy hxs =>
      cases hxs
      split at h
      · rename_i hl
        split at h
        · rename_i ds d he
          unfold itemsD at he
          obtain ⟨es, e1, e2⟩ := Option.bind_eq_some_iff.mp he
          obtain ⟨ys, e3, e4⟩ := Option.bind_eq_some_iff.mp e1
          obtain ⟨d', e5, e6⟩ := Option.bind_eq_some_iff.mp e2
          split at e6
          · rename_i ok
            cases e6
            rw [Bool.and_eq_true] at ok
            obtain ⟨a, us, rfl, q, r⟩ := sqL_of_isL hS hx hl e3
            split at h
            · rename_i j hj
              exact ⟨a, _, us, ds, d, j, rfl, rfl, q, (r.un e4).le hS.hle, peek_rep hS hy e5, ok.1, ok.2, hj, h w H _ (Ext.refl _ _) hS (.v (.int _))⟩
            · exact h.elim
          · cases e6
        · exact h.elim
      · exact h.elim
  · exact h.elim
end Ax
/-! Ax41: a tuple turned round by a slice -/
namespace Ax
open PySem PySem.Spec PyProof.Rows L2
section
open HT
variable {prog : Program} {w : World} {A : Around} {E : Value → Shared → Prop} {s : Shared}
theorem fm_congr {α β : Type} {f g : α → Option β} : ∀ {l : List α}, (∀ x ∈ l, f x = g x) → l.filterMap f = l.filterMap g
  | [], _ => rfl
  | x :: l, h => by rw [List.filterMap_cons, List.filterMap_cons, h x (by simp), fm_congr (l := l) fun y hy => h y (by simp [hy])]
theorem pick_rev (xs : Array Value) : ((List.range xs.size).filterMap fun (m : Nat) => xs[((xs.size : Int) - 1 + (m : Int) * (-1)).toNat]?).toArray = xs.toList.reverse.toArray := by
  congr 1
  have e : (List.range xs.size).filterMap (fun (m : Nat) => xs[((xs.size : Int) - 1 + (m : Int) * (-1)).toNat]?) = (List.range xs.size).filterMap (fun m => (xs.toList.reverse)[m]?) := by
    refine fm_congr fun m hm => ?_
    have hm := List.mem_range.mp hm
    have e1 : ((xs.size : Int) - 1 + (m : Int) * (-1)).toNat = xs.size - 1 - m := by omega
    rw [e1, List.getElem?_reverse (by simpa using hm), Array.getElem?_toList, Array.length_toList]
  rw [e]
  have all : ∀ l : List Value, (List.range l.length).filterMap (fun m => l[m]?) = l := by
    intro l
    induction l with
    | nil => rfl
    | cons x l ih =>
      rw [List.length_cons, List.range_succ_eq_map, List.filterMap_cons]
      simp only [List.getElem?_cons_zero, List.filterMap_map]
      congr 1
  have := all xs.toList.reverse
  rwa [List.length_reverse, Array.length_toList] at this
theorem sliceApplied_rev {sl : Addr} {vs : Value} {n : Nat} {Q : Int × Int × Nat → Shared → Prop} (hs : s.heap.IsSliceOf sl .none .none vs) (ps : IsPart vs (some (-1)))
    (h : Q ((n : Int) - 1, -1, n) s) : wpAny (model prog w) A (Builtin.Slice.sliceApplied (.ref sl) (pure (n : Int))) Q E s := by
  obtain ⟨os, hos, hcs, hds⟩ := id hs
  unfold Builtin.Slice.sliceApplied Builtin.Slice.sliceFields
  refine wpAny_bind (wpAny_bind (wpAny_field hos hds (x := .none) rfl (wpAny_bind (wpAny_field hos hds (x := .none) rfl (wpAny_bind (wpAny_field hos hds (x := vs) rfl (wpAny_pure ?_)))))))
  refine wpAny_bind (slicePart_ ps ?_)
  show wpAny _ _ (if ((-1 : Int) == 0) = true then _ else _) _ _ s
  rw [if_neg (by decide)]
  refine wpAny_bind (slicePart_ .none (wpAny_bind (slicePart_ .none (wpAny_bind (wpAny_pure ?_)))))
  have e1 : Builtin.Slice.sliceAdjust none none (-1) (n : Int) = ((n : Int) - 1, -1) := by
    unfold Builtin.Slice.sliceAdjust
    simp
  have e2 : Builtin.Slice.slicePlaces ((n : Int) - 1) (-1) (-1) = n := by
    unfold Builtin.Slice.slicePlaces
    have h1 : ¬ ((-1 : Int) > 0) := by omega
    simp only [h1, if_false]
    rw [show (- -1 : Int) = 1 from rfl, Int.ediv_one]
    split <;> omega
  show wpAny _ _ (match Builtin.Slice.sliceAdjust none none (-1) (n : Int) with | (lo, hi) => pure (lo, (-1 : Int), Builtin.Slice.slicePlaces lo hi (-1))) _ _ s
  rw [e1]
  show wpAny _ _ (pure ((n : Int) - 1, (-1 : Int), Builtin.Slice.slicePlaces ((n : Int) - 1) (-1) (-1))) _ _ s
  rw [e2]
  exact wpAny_pure h
theorem getItem_tuple_rev {t sl : Addr} {items : Array Value} {vs : Value} {Q : Value → Shared → Prop} (ht : IsTup s.heap t items) (hs : s.heap.IsSliceOf sl .none .none vs) (ps : IsPart vs (some (-1)))
    (h : Q (.ref s.heap.objs.size) { s with heap := s.heap.push { cls := .type "tuple", data := .seq items.toList.reverse.toArray } })
    (hsz : items.size ≤ sizeLine) : wpAny (model prog w) A (getItem (.ref t) (.ref sl)) Q E s := by
  have htake : sizeOk (.seq items.toList.reverse.toArray) := by
    show items.toList.reverse.toArray.size ≤ sizeLine
    simpa using hsz
  obtain ⟨os, hos, hcs, hds⟩ := id hs
  have hTs : s.TypeIs (.ref sl) "slice" := ⟨os, hos, hcs⟩
  unfold getItem
  try with_reducible refine wpAny_holding ?_
  first | refine wpAny_bind (wpAny_pure ?_) | skip
  refine wpAny_bind (wpAny_sequenceKey ht.typeIs (by decide) ?_)
  refine wpAny_bind (wpAny_callSpecial?_slot (name := Str.ofString "__getitem__") ht.typeIs PyProof.Rows.slot_tuple_getitem
    (wpAny_call_entry PyProof.Rows.slot_tuple_getitem ht.typeIs entry_tuple_getitem ?_ (args_tuple_getitem _ _)))
  show wpAny _ _ (Builtin.Tuple.tupleItemsOf (.ref t) >>= _) _ _ s
  refine wpAny_bind (tupleItemsOf_ ht ?_)
  refine wpAny_bind (wpAny_typeOf hTs ?_)
  rw [if_pos (by decide)]
  refine wpAny_bind (sliceApplied_rev hs ps ?_)
  have hno : ¬ (((items.size : Int) - 1 == 0 && (-1 : Int) == 1 && items.size == items.size) = true) := by
    intro q
    rw [Bool.and_eq_true, Bool.and_eq_true] at q
    exact absurd q.1.2 (by decide)
  show wpAny _ _ (if ((items.size : Int) - 1 == 0 && (-1 : Int) == 1 && items.size == items.size) = true then _ else _) _ _ s
  rw [if_neg hno, pick_rev]
  first
    | exact wpAny_bind (m := Builtin.Tuple.tupleExact _) (wpAny_newObj_type (wpAny_pure ⟨_, rfl, wpAny_pure h⟩) htake)
    | exact wpAny_bind (m := Builtin.Tuple.tupleExact _) (wpAny_newObj_type (wpAny_bind (wpAny_pure (wpAny_pure ⟨_, rfl, wpAny_pure h⟩))) htake)
    | exact wpAny_bind (wpAny_bind (m := Builtin.Tuple.tupleExact _) (wpAny_newObj_type (wpAny_pure (wpAny_pure ⟨_, rfl, wpAny_pure h⟩)) htake))
    | exact wpAny_bind (wpAny_bind (m := Builtin.Tuple.tupleExact _) (wpAny_newObj_type (wpAny_pure ⟨_, rfl, wpAny_pure h⟩) htake))
end
def fRevT (k : KL) (x : Vl) (S : Store) : Out Vl := match x with
  | .v (.tup ds) => .ok (.v (.tup ds.reverse)) S
  | x => fRev k x S
def eRevT (k : KL) (m : EM) : EM := eUn (fRevT k) m
theorem RepAll.rev {g : G} {F : Hp} : ∀ {vs : List V} {ds : List D}, RepAll g F vs ds → RepAll g F vs.reverse ds.reverse
  | _, _, .nil => .nil
  | v :: vs, d :: ds, .cons h r => by
    have app : ∀ {vs : List V} {ds : List D}, RepAll g F vs ds → RepAll g F (vs ++ [v]) (ds ++ [d]) := by
      intro vs ds q
      induction vs generalizing ds with
      | nil => cases q; exact .cons h .nil
      | cons v' vs ih => cases q with
        | cons a b => exact .cons a (ih b)
    rw [List.reverse_cons, List.reverse_cons]
    exact app r.rev
section
variable {X : Cx} {T : List (Addr × Str)} {W : WX} {a : Expr} {n : Nat} {p1 p2 p3 pos : Pos} {ma : EM} {k : KL}
theorem vals_rev : ∀ {vs : List V} {us : List Value}, Vals vs us → Vals vs.reverse us.reverse
  | _, _, .nil => .nil
  | v :: vs, u :: us, .cons h r => by
    rw [List.reverse_cons, List.reverse_cons]
    exact Vals.snoc (vals_rev r) h
def tRevT (K : PySem.W.Frag) (te : TE) : TE := fun σ H Q => te σ H fun x H1 => (∃ a xs, x = .ref a ∧ SqT K H1 a xs ∧ NewT H1 xs.reverse Q) ∨ ∃ a xs, x = .ref a ∧ SqL K H1 a xs ∧ ∀ p, H1 p = none → Q (.ref p) (upd H1 p (.lst xs.reverse))
theorem pe_revT {e : Expr} {te : TE} (he : PE X e te) : PE X (.Subscript e (.Slice none none (some (.UnaryOp .USub (.Constant (.int 1) n p1) p2)) p3) pos) (tRevT X.K te) := by
  refine ⟨fun pins s σ H Q I h => ?_⟩
  refine Subscript_ (thn (he.run pins s σ H _ I h) fun v s1 ⟨x, H1, I1, r1, q1⟩ => ?_)
  have hst : PO X (some (.UnaryOp .USub (.Constant (.int 1) n p1) p2)) (tPart (tUn (rU fun i => .int (-i)) (tC (.int 1)))) := po_some (pe_un un_neg pe_int)
  rcases q1 with ⟨a, xs, ex, hx, q⟩ | ⟨a, xs, ex, hx, q⟩
  · subst ex
    cases r1
    refine wpAny_Slice (thn (po_none.run pins s1 σ H1 (fun o H2 => o = none ∧ H2 = H1) I1 ⟨rfl, rfl⟩) fun vl s2 ⟨l, H2, I2, pl, el, e2⟩ => ?_)
    subst el e2
    refine thn (po_none.run pins s2 σ H2 (fun o H3 => o = none ∧ H3 = H2) I2 ⟨rfl, rfl⟩) fun vu s3 ⟨u, H3, I3, pu, eu, e3⟩ => ?_
    subst eu e3
    refine thn (hst.run pins s3 σ H3 (fun o H4 => o = some (-1) ∧ H4 = H3) I3 ⟨1, rfl, -1, rfl, rfl, rfl⟩) fun vs s4 ⟨o, H4, I4, ps, eo, e4⟩ => ?_
    subst eo e4
    have I5 : Inv X pins σ H4 { s4 with heap := s4.heap.push { cls := .type "slice", data := .fields #[vl, vu, vs] } } := I4.kept (t' := s4.toks) fun b ob q => Heap.get?_push_of_some _ q
    obtain ⟨its, r, ht, hz⟩ := I5.tuple hx
    have hlen := r.length
    cases pl
    cases pu
    show wpAny (model X.prog X.w) X.A (subscriptTail e (.Slice none none (some (.UnaryOp .USub (.Constant (.int 1) n p1) p2)) p3) (.ref a) (.ref s4.heap.objs.size)) (EP X pins σ Q) X.xe { s4 with heap := s4.heap.push { cls := .type "slice", data := .fields #[.none, .none, vs] } }
    refine tail_any (ops := [.ref a, .ref s4.heap.objs.size]) ht.typeIs (PyProof.Rows.slot_tuple_getitem.lookup) ?_ (by with_unfolding_all rfl)
    refine getItem_tuple_rev ht (Heap.IsSliceOf.new _ .none .none vs) ps ?_ (by rw [List.size_toArray]; omega)
    exact new_tup I5 (vals_rev r) (by rw [List.length_reverse]; exact hz) q
  · subst ex
    cases r1
    refine wpAny_Slice (thn (po_none.run pins s1 σ H1 (fun o H2 => o = none ∧ H2 = H1) I1 ⟨rfl, rfl⟩) fun vl s2 ⟨l, H2, I2, pl, el, e2⟩ => ?_)
    subst el e2
    refine thn (po_none.run pins s2 σ H2 (fun o H3 => o = none ∧ H3 = H2) I2 ⟨rfl, rfl⟩) fun vu s3 ⟨u, H3, I3, pu, eu, e3⟩ => ?_
    subst eu e3
    refine thn (hst.run pins s3 σ H3 (fun o H4 => o = some (-1) ∧ H4 = H3) I3 ⟨1, rfl, -1, rfl, rfl, rfl⟩) fun vs s4 ⟨o, H4, I4, ps, eo, e4⟩ => ?_
    subst eo e4
    have I5 : Inv X pins σ H4 { s4 with heap := s4.heap.push { cls := .type "slice", data := .fields #[vl, vu, vs] } } := I4.kept (t' := s4.toks) fun b ob q => Heap.get?_push_of_some _ q
    obtain ⟨its, r, ht, hz⟩ := I5.list hx
    have hlen := r.length
    show wpAny (model X.prog X.w) X.A (subscriptTail e (.Slice none none (some (.UnaryOp .USub (.Constant (.int 1) n p1) p2)) p3) (.ref a) (.ref s4.heap.objs.size)) (EP X pins σ Q) X.xe { s4 with heap := s4.heap.push { cls := .type "slice", data := .fields #[vl, vu, vs] } }
    refine tail_any (ops := [.ref a, .ref s4.heap.objs.size]) ht.isList.typeIs (PySem.slot_list_getitem.lookup) ?_ (by with_unfolding_all rfl)
    refine wpAny_getItem_list_slice ht.isList (Heap.IsSliceOf.new _ vl vu vs) pl pu ps (by decide) ?_ (by rw [List.size_toArray]; omega)
    rw [PySem.W.krv_pick]
    refine ⟨.ref _, _, I5.laid (t' := s4.toks) (o := .lst xs.reverse) (fun b ob q => Heap.get?_push_of_some _ q) (Nat.le_refl _) ?_, rfl, q _ (I5.hok.fresh (Nat.le_refl _))⟩
    exact ⟨by rw [List.length_reverse]; exact hz, its.reverse, 0, vals_rev r, by rw [Heap.get?_push_size _ rfl]⟩
theorem e_revT (hk : TakesList (gX X T) W k) (ha : PE X a (rd (gX X T) W ma)) : PE X (.Subscript a (.Slice none none (some (.UnaryOp .USub (.Constant (.int 1) n p1) p2)) p3) pos) (rd (gX X T) W (eRevT k ma)) :=
  PE_imp (pe_revT ha) fun s H Q h => rd_bind (f := fun x e S1 => fRevT k x S1) h fun w1 H1 S1 e v x hS hE hx h1 => by
    unfold fRevT at h1
    split at h1
    · cases hx with
      | v hx =>
        cases hx with
        | tup q r => exact .inl ⟨_, _, rfl, sqT_le hS.hle q.sq, sat_newT hS r.rev h1⟩
    · unfold fRev at h1
      split at h1
      · rename_i xs hxs
        obtain ⟨p, vs, rfl, q, r⟩ := llview_rep hS hx hxs
        exact .inr ⟨p, vs, rfl, q, hk hS r.rev h1⟩
      · exact h1.elim
end
end Ax
/-! Ax42: a, b = a list of data -/
namespace Ax
open PySem PySem.Spec PyProof.Rows L2
def gUl (n : Nat) (t : TgsM) : TgM := fun x e => match x with
  | .v (.lst ds) => if ds.length = n then t (ds.map .v) e else none
  | _ => none
section
variable {X : Cx} {T : List (Addr × Str)} {pos : Pos}
theorem g_ul {es : List Expr} {k : Nat} {t : TgsM} {n : Nat} {is : List Nat} (hc : X.calm = true) (h : PGs X es (rdTgs (gX X T) t is)) (hn : (assignEach es X.env).length = n := by rfl) (hst : (assignEach es X.env).findIdx? (·.1) = none := by rfl) :
    PG X (.Tuple es k pos) (rdTg (gX X T) (gUl n t) is) := PG_imp (pg_unl hc h hn hst) fun v s H Q ⟨w, e, S, x, hS, hE, hx, h⟩ => by
  unfold gUl at h
  split at h
  · rename_i e' he
    split at he
    · rename_i ds
      split at he
      · rename_i hl
        cases hx with
        | v hx => cases hx with
          | lst q r =>
            refine ⟨_, _, rfl, SqL.of (hS.le _ _ q), by rw [r.len]; exact hl, w, e, S, _, hS, hE, r.vs, ?_⟩
            rw [he]
            exact h
      · cases he
    · cases he
  · exact h.elim
end
end Ax
/-! Ax43: a tuple times 1 is that tuple -/
namespace Ax
open PySem PySem.Spec PyProof.Rows L2
theorem tuple_mulW1 (l : Addr) (items : Array Value) (n : Nat) (dd : Option Addr) (sl : Array (Option Value)) (u : Tok) :
    Meets (Builtin.«tuple.__mul__» ⟨[.ref l, .int 1 u], []⟩) (fun _ R s => s.heap.get? l = some { cls := .type "tuple", dict := dd, data := .seq items n, slots := sl } ∧ R (.ok (.ret (Value.ref l))) s) :=
  .of_wp fun prog w A R s h => by
    obtain ⟨hp, g, d, tk, os⟩ := s
    obtain ⟨hl, h⟩ := h
    have f1 := AutoSeq1.idx_int
    have c0 : (decide ((1 : Int) < -(2 ^ 63)) || decide ((1 : Int) ≥ 2 ^ 63)) = false := by decide
    have c1 : (items.isEmpty || (1 : Int) == 1) = true := by simp
    wp_walk using wpAny_loadPart' hl
    repeat (first
      | (refine wpAny_ite_false (decide_eq_false (by rw [c0]; exact Bool.false_ne_true)) ?_; wp_walk using wpAny_loadPart' hl)
      | (refine wpAny_ite_true (decide_eq_true (by rw [c1])) ?_; wp_walk using wpAny_loadPart' hl))
    exact ⟨_, rfl, h⟩
section
variable {X : Cx}
def rRep1 (K : PySem.W.Frag) : R2 := fun x y H Q => ∃ l xs, x = .ref l ∧ y = .int 1 ∧ SqT K H l xs ∧ Q (.ref l) H
theorem op_rep1 : OpR X (binaryOp .Mult) (rRep1 X.K) := by
  intro pins s σ H x y v u Q I rx ry h
  obtain ⟨l, xs, rfl, rfl, hT, q⟩ := h
  cases rx
  obtain ⟨t, rfl⟩ := ry
  obtain ⟨its, r, ⟨⟨cls, dd, data, sl⟩, ho, hc, n, hd⟩, hs⟩ := I.tuple hT
  simp only at hc hd
  subst hc hd
  exact wpAny_binaryOp_repeat_ref (T := "tuple") (U := "int") (by decide) ⟨_, ho, rfl⟩ (fun s' => typeIs_int s' 1 t) noFill_tuple_mul PySem.F.fills_int_mul PySem.F.slot_int_rmul repeat_tuple PySem.F.slot_int_index.lookup
    (call_meets PySem.F.slot_int_rmul (typeIs_int s 1 t) PySem.F.entry_int_rmul (PySem.F.args_int_rmul_2 _ _) (int_rmul_tuple 1 t l its.toArray n dd sl)
      ⟨ho, rfl, ⟨_, ho, rfl⟩, call_meets PySem.F.slot_tuple_mul ⟨_, ho, rfl⟩ PySem.F.entry_tuple_mul (PySem.F.args_tuple_mul_2 _ _) (tuple_mulW1 l its.toArray n dd sl t) ⟨ho, ⟨.ref l, H, I, rfl, q⟩⟩⟩)
end
def fMulT (x y : Vl) (S : Store) : Out Vl := match x, y with
  | .v (.tup a), .v (.int k) => if k = 1 then .ok (.v (.tup a)) S else fMul (.v (.tup a)) (.v (.int k)) S
  | x, y => fMul x y S
def rMulT (K : PySem.W.Frag) : R2 := fun x y H Q => rRep1 K x y H Q ∨ rMulX K x y H Q
section
variable {X : Cx} {T : List (Addr × Str)} {W : WX} {g : G}
theorem op_mulT : OpR X (binaryOp .Mult) (rMulT X.K) := op_rep1.or op_mulX
theorem fMulT_of : OpD g W fMulT (rMulT g.K) := by
  intro s w H S v u x y Q hS hx hy h
  unfold fMulT at h
  split at h
  · split at h
    · rename_i a k hk
      subst hk
      cases hx with
      | v hx' =>
        cases hx' with
        | tup qx rx =>
          cases hy with
          | v hy =>
            cases hy
            exact .inl ⟨_, _, rfl, rfl, sqT_le hS.hle qx.sq, h w H _ (Ext.refl _ _) hS (.v (.tup qx rx))⟩
    · exact .inr (fMul_of s w H S v u _ _ Q hS hx hy h)
  · exact .inr (fMul_of s w H S v u _ _ Q hS hx hy h)
theorem e_mulT {a b : Expr} {pos : Pos} {ma mb : EM} (ha : PE X a (rd (gX X T) W ma)) (hb : PE X b (rd (gX X T) W mb)) : PE X (.BinOp a .Mult b pos) (rd (gX X T) W (eBin fMulT ma mb)) := e_bin op_mulT fMulT_of ha hb
end
end Ax
/-! Ax44: min of a list of alike data -/
namespace Ax
open PySem PySem.Spec PyProof.Rows L2
/-- what may be set against one another -/
def mnOk (ds : List D) : Bool := ds.all fun a => ds.all fun b => kAlike a b
def minDs (d : D) (ds : List D) : D := ds.foldl (fun a y => if kLess y a then y else a) d
def rMinD (X : Cx) (T : List (Addr × Str)) : List V → Hp → VK → Prop := fun vs H Q => ∃ (a : Addr) (xs : List V) (d : D) (ds : List D), vs = [V.ref a] ∧ SqL X.K H a xs ∧ RepAll (gX X T) H xs (d :: ds) ∧ mnOk (d :: ds) = true ∧
  ∀ y, (∀ F, RepAll (gX X T) F xs (d :: ds) → Rep (gX X T) F y (minDs d ds)) → Q y H
theorem repAll_at {g : G} {F : Hp} : ∀ {xs : List V} {ds : List D}, RepAll g F xs ds → ∀ (i : Nat) (x : V), xs[i]? = some x → ∃ d, ds[i]? = some d ∧ Rep g F x d
  | _, _, .nil, i, x, h => by simp at h
  | _, _, .cons r rs, 0, x, h => by
    simp only [List.getElem?_cons_zero, Option.some.injEq] at h
    subst h
    exact ⟨_, rfl, r⟩
  | _, _, .cons r rs, i + 1, x, h => by
    simp only [List.getElem?_cons_succ] at h ⊢
    exact repAll_at rs i x h
theorem cr_minD {X : Cx} {T : List (Addr × Str)} (hc : X.calm = true) (hu : X.A.units + 66 < cLine) : CallR X (.builtin "min") (rMinD X T) := by
  intro pins s σ H vs us Q I r h
  obtain ⟨a, xs, d0, dr, rfl, hs, hr, ok, q⟩ := h
  obtain ⟨its, rv, hl, hz⟩ := I.list hs
  rw [Vals.ref1 r]
  have lx := hr.len
  have lv := rv.length
  have at_ : ∀ (i : Nat) (v : Value), its.toArray[i]? = some v → ∃ x d, xs[i]? = some x ∧ RelV x v ∧ (d0 :: dr)[i]? = some d ∧ Rep (gX X T) H x d := fun i v hv => by
    have hv : its[i]? = some v := by simpa using hv
    obtain ⟨x, e1, e2⟩ := Vals.at rv hv
    obtain ⟨d, e3, e4⟩ := repAll_at hr i x e1
    exact ⟨x, d, e1, e2, e3, e4⟩
  have okk : ∀ x ∈ d0 :: dr, ∀ y ∈ d0 :: dr, kAlike x y = true := fun x hx y hy => List.all_eq_true.mp (List.all_eq_true.mp ok x hx) y hy
  have hh : X.A.handled = none := I.ok.hd hc
  have cmp : CmpIn X.prog X.w X.A.in1 .Lt s.heap (fun i v => its.toArray[i]? = some v) (fun i j => kLess ((d0 :: dr).getD i .non) ((d0 :: dr).getD j .non)) := fun i j vi vj s' Q E hk hi hj hq => by
    obtain ⟨x, d, _, rx, ed, rd⟩ := at_ i vi hi
    obtain ⟨y, e, _, ry, ee, re⟩ := at_ j vj hj
    have od := okk d (List.mem_of_getElem? ed) e (List.mem_of_getElem? ee)
    unfold kAlike at od
    simp only [Bool.and_eq_true] at od
    obtain ⟨⟨⟨o1, o2⟩, o3⟩, o4⟩ := od
    obtain ⟨as, ra⟩ := Dp.reads I _ _ _ (Rep.dp 59 rd o1) rx
    obtain ⟨bs, rb⟩ := Dp.reads I _ _ _ (Rep.dp 59 re o2) ry
    have cm := PySem.W.rcLt_alike (toP d) (toP e) X.A.in1 s' vi vj as bs (Reads.keeps hk ra) (Reads.keeps hk rb) o3 (toP_none o4) (by
      have h1 := (okd_lay 59 _ o1).2
      have h3 : X.A.in1.units = X.A.units + 1 := rfl
      have h4 := Nat.min_le_left (toP d).depth (toP e).depth
      omega)
    refine cm _ _ _ _ ?_
    have e1 : (d0 :: dr).getD i .non = d := by rw [List.getD_eq_getElem?_getD, ed]; rfl
    have e2 : (d0 :: dr).getD j .non = e := by rw [List.getD_eq_getElem?_getD, ee]; rfl
    simp only [e1, e2] at hq
    exact hq
  have hn : its.toArray.size = dr.length + 1 := by simp at lx ⊢; omega
  refine PySem.call_min_walkH (PySem.W.iter_listW (A := X.A.in1) hh hl.isList fun s₂ e W st hfp hw hk => ?_)
  refine ⟨_, _, _, _, _, _, _, s.heap, _, rfl, W, st, hfp, by omega, hw, hk, cmp, fun v s' hP m => ?_⟩
  obtain ⟨h', tk, rfl, hk'⟩ := PySem.W.moved_old e rfl m
  obtain ⟨x, d, ex, rx, ed, _⟩ := at_ _ v hP
  have e1 : its.toArray.size - 1 = dr.length := by omega
  have e2 := (PySem.W.argBest_fold kLess D.non d0 dr dr.length (Nat.le_refl _)).2
  rw [List.take_length] at e2
  rw [e1] at ex ed
  have e3 : d = minDs d0 dr := by
    rw [List.getD_eq_getElem?_getD, ed] at e2
    exact e2
  refine ⟨x, H, I.kept hk', rx, q x fun F hF => ?_⟩
  obtain ⟨d2, e4, e5⟩ := repAll_at hF _ x ex
  rw [ed] at e4
  cases e4
  rw [← e3]; exact e5
def fMinD (xs : List Vl) (S : Store) : Out Vl := match xs with
  | [x] => match (llview S x).bind unv with
    | some (d :: ds) => if mnOk (d :: ds) then .ok (.v (minDs d ds)) S else .stuck
    | _ => .stuck
  | _ => .stuck
theorem fMinD_of {X : Cx} {T : List (Addr × Str)} {W : WX} : CalD (gX X T) W fMinD (rMinD X T) := by
  intro s w H S vs xs Q hS hx h
  unfold fMinD at h
  split at h
  · cases hx with
    | cons h1 hx =>
      cases hx
      split at h
      · rename_i d ds hd
        obtain ⟨ys, e1, e2⟩ := Option.bind_eq_some_iff.mp hd
        obtain ⟨a, us, rfl, q, r⟩ := llview_rep hS h1 e1
        split at h
        · rename_i ok
          exact ⟨a, us, d, ds, rfl, q, (r.un e2).le hS.hle, ok, fun y hF => h w H y (Ext.refl _ _) hS (.v (hF _ (r.un e2)))⟩
        · exact h.elim
      · exact h.elim
  · exact h.elim
end Ax
/-! Ax45: s.upper(); sorted(a tuple) -/
namespace Ax
open PySem PySem.Spec PyProof.Rows L2
def fUpp (x : Vl) (S : Store) : Out Vl := match x with
  | .v (.str a) => if a.length ≤ 5592405 then .ok (.v (.str (Txt.upper a))) S else .stuck
  | _ => .stuck
section
variable {X : Cx} {T : List (Addr × Str)} {W : WX} {o : Expr} {mo : EM} {apos pos : Pos}
theorem e_upper (ho : PE X o (rd (gX X T) W mo)) (hbase : attributeBase o "upper" X.env (eval o X.env) = eval o X.env := by rfl) (hline : (apos.endLine == pos.line) = true := by rfl) : PE X (.Call (.Attribute o "upper" apos) [] [] pos) (rd (gX X T) W (eUn fUpp mo)) :=
  PE_imp (pe_upper ho hbase hline) fun s H Q h => rd_bind (rel := RepV (gX X T)) (f := fun x e S1 => fUpp x S1) h fun w1 H1 S1 e v x hS hE hx h1 => by
    unfold fUpp at h1
    split at h1
    · rename_i a
      split at h1
      · rename_i hl
        cases hx with
        | v hx =>
          cases hx
          exact ⟨⟨a, rfl⟩, a, rfl, rfl, hl, h1 w1 H1 _ (Ext.refl _ _) hS (.v (.str _))⟩
      · exact h1.elim
    · exact h1.elim
end
theorem sorted_srcT {prog : Program} {w : World} {A : Around} {E : Value → Shared → Prop} {s : Shared} {a : Addr} {o : Obj} {items : Array Value} {n : Nat} {Q : Value → Shared → Prop} (ho : s.heap.get? a = some o) (hc : o.cls = .type "tuple") (hd : o.data = .seq items n) (hz : items.size ≤ sizeLine)
    (h : ∀ h' : Heap, (∀ b o, s.heap.get? b = some o → h'.get? b = some o) → wpAny (model prog w) A.in1 (call (.builtin "list.sort") [.ref h'.objs.size]) (fun _ s' => Q (.ref h'.objs.size) s') E { s with heap := h'.push (seqObj "list" items.toList.toArray 0) }) : wpAny (model prog w) A (call (.builtin "sorted") [.ref a]) Q E s := by
  refine Calls.call_function_entry kind_sorted plain_sorted entry_sorted (args_sorted1 _) ?_
  unfold Builtin.«sorted»
  refine wpAny_bind (m := checkCount "sorted" 1 1 _) (wpAny_pure (wpAny_bind ?_))
  refine wpAny_collect_seq (A := A.in1) a (.inr rfl) ho hc hd (fun h' hk => wpAny_bind (wpAny_newList ?_ (by rw [Array.length_toList]; exact hz))) hz
  exact wpAny_bind (wpAny_holding (wpAny_mono (h h' hk) (fun _ s' x => wpAny_pure ⟨_, rfl, x⟩) fun _ _ e => e))
def rSrtT (X : Cx) (T : List (Addr × Str)) : List V → Hp → VK → Prop := fun vs H Q => ∃ (a : Addr) (xs : List V) (ds : List D), vs = [V.ref a] ∧ SqT X.K H a xs ∧ RepAll (gX X T) H xs ds ∧ srtOk ds = true ∧
  ∀ (ys : List V) (p : Addr), H p = none → (∀ F, RepAll (gX X T) F xs ds → RepAll (gX X T) F ys (srtD ds)) → Q (.ref p) (upd H p (.lst ys))
theorem cr_srtT {X : Cx} {T : List (Addr × Str)} (hu : X.A.units + 66 < cLine) : CallR X (.builtin "sorted") (rSrtT X T) := by
  intro pins s σ H vs us Q I r h
  obtain ⟨a, xs, ds, rfl, hs, hr, ok, q⟩ := h
  obtain ⟨vs, rv, ⟨o, ho', hc, n, hd⟩, hz⟩ := I.tuple hs
  rw [Vals.ref1 r]
  unfold srtOk at ok
  rw [Bool.and_eq_true, Bool.and_eq_true] at ok
  obtain ⟨⟨o1, o2⟩, o3⟩ := ok
  have o1 : ∀ d ∈ ds, okd 59 d = true := List.all_eq_true.mp o1
  have o2 : ∀ d ∈ ds, ∀ e ∈ ds, PySem.W.alike (toP d) (toP e) = true := fun d hd e he => List.all_eq_true.mp (List.all_eq_true.mp o2 d hd) e he
  have lx : xs.length = ds.length := hr.len
  have lv : xs.length = vs.length := rv.length
  refine sorted_srcT ho' hc hd (by rw [List.size_toArray]; omega) fun h' hk => ?_
  have I2 : Inv X pins σ H { s with heap := h' } := I.kept (t' := s.toks) hk
  have hlen : xs.length ≤ sizeLine := by omega
  have hlen2 : ds.length ≤ sizeLine := by omega
  have snd : (xs.zip ds).map Prod.snd = ds := List.map_snd_zip (by omega)
  have mem : ∀ p ∈ xs.zip ds, p.2 ∈ ds := fun p hp => by rw [← snd]; exact List.mem_map.mpr ⟨p, hp, rfl⟩
  have ek : vs.toArray.toList.toArray = vs.toArray := by simp
  rw [ek]
  have old : ∀ b o, h'.get? b = some o → (h'.push (seqObj "list" vs.toArray 0)).get? b = some o := fun b o e => Heap.get?_push_of_some _ e
  have ho : (h'.push (seqObj "list" vs.toArray 0)).get? h'.objs.size = some (seqObj "list" vs.toArray 0) := Heap.get?_push_size _ rfl
  have rd : PySem.W.EachIs (fun u p => ∃ as, Reads (h'.push (seqObj "list" vs.toArray 0)) u (toP p.2) as ∧ h'.objs.size ∉ as) vs (xs.zip ds) :=
    (each_reads (T := T) I2 rv hr o1).mono fun u p ⟨as, z⟩ => ⟨as, PyProof.Rows.Reads.keeps old z, fun hm => by
      obtain ⟨ob, hob⟩ := PyProof.On.reads_mem_get z _ hm
      exact absurd (Heap.lt_size hob) (Nat.lt_irrefl _)⟩
  refine PySem.W.list_sort_data (β := V × D) (bs := xs.zip ds) (enc := fun p => toP p.2) (R := fun u p => RelV p.1 u) ho (each_zip rv lx) rd (fun d hd e he => ?_) ?_ (by rw [List.length_zip]; omega) (fun p hp => ?_) fun out e1 e2 => ?_
  · obtain ⟨p, hp, rfl⟩ := List.mem_map.mp hd
    obtain ⟨p', hp', rfl⟩ := List.mem_map.mp he
    exact o2 _ (mem p hp) _ (mem p' hp')
  · rcases Bool.or_eq_true _ _ |>.mp o3 with o3 | o3
    · refine .inl fun d hd => ?_
      obtain ⟨p, hp, rfl⟩ := List.mem_map.mp hd
      have z := List.all_eq_true.mp o3 _ (mem p hp)
      revert z
      generalize p.2 = d
      intro z
      unfold tup0 at z
      split at z
      · rename_i x r
        exact ⟨toP x, toPs r, by simp [toP, toPs]⟩
      · cases z
    · refine .inr fun d hd => ?_
      obtain ⟨p, hp, rfl⟩ := List.mem_map.mp hd
      have z := List.all_eq_true.mp o3 _ (mem p hp)
      revert z
      generalize p.2 = d
      intro z
      unfold ntup at z
      split at z <;> first | (cases z; done) | (simp [toP]; done)
  · have := (okd_lay 59 _ (o1 _ (mem p hp))).2
    have e3 : X.A.in1.units = X.A.units + 1 := rfl
    omega
  · obtain ⟨e, he'⟩ := sortedHeap_at (out := out.toArray) ho
    have hv : Vals (((xs.zip ds).mergeSort (PySem.W.dataLe false fun p => toP p.2)).map Prod.fst) out := each_vals e2
    have hl2 : (((xs.zip ds).mergeSort (PySem.W.dataLe false fun p => toP p.2)).map Prod.fst).length ≤ sizeLine := by
      rw [List.length_map, List.length_mergeSort, List.length_zip]; omega
    have kept : ∀ b o, h'.get? b = some o → (sortedHeap (h'.push (seqObj "list" vs.toArray 0)) h'.objs.size vs out.toArray).get? b = some o := fun b o eb => by
      have lt := Heap.lt_size eb
      rw [sortedHeap_old (Nat.ne_of_lt lt) (by rw [Heap.size_push]; exact Nat.lt_succ_of_lt lt)]
      exact old b o eb
    refine ⟨.ref _, upd H h'.objs.size (.lst (((xs.zip ds).mergeSort (PySem.W.dataLe false fun p => toP p.2)).map Prod.fst)), I2.laid (t' := s.toks) kept (Nat.le_refl _) ⟨hl2, out, e, hv, he'⟩, rfl, q _ _ (I2.hok.fresh (Nat.le_refl _)) fun F hF => ?_⟩
    have e3 : srtD ds = ((xs.zip ds).mergeSort (PySem.W.dataLe false fun p => toP p.2)).map Prod.snd := by
      rw [srtD_eq, List.map_mergeSort (f := Prod.snd) (s := PySem.W.dataLe false toP) (r := PySem.W.dataLe false fun p : V × D => toP p.2) (fun a _ b _ => rfl), snd]
    rw [e3]
    exact repAll_of fun p hp => hF.zipM p ((List.mergeSort_perm _ _).mem_iff.mp hp)
def fSrtX (k : KL) (xs : List Vl) (S : Store) : Out Vl := match xs with
  | [.v (.tup ds)] => if srtOk ds then k ((srtD ds).map .v) S else .stuck
  | xs => fSrt k xs S
theorem cr_srtA {X : Cx} {T : List (Addr × Str)} (hu : X.A.units + 66 < cLine) : CallR X (.builtin "sorted") (fun vs H Q => rSrt X T vs H Q ∨ rSrtT X T vs H Q) := by
  intro pins s σ H vs us Q I r h
  rcases h with h | h
  · exact cr_srt hu pins s σ H vs us Q I r h
  · exact cr_srtT hu pins s σ H vs us Q I r h
theorem fSrtX_of {X : Cx} {T : List (Addr × Str)} {W : WX} {k : KL} (hk : TakesList (gX X T) W k) : CalD (gX X T) W (fSrtX k) (fun vs H Q => rSrt X T vs H Q ∨ rSrtT X T vs H Q) := by
  intro s w H S vs xs Q hS hx h
  unfold fSrtX at h
  split at h
  · rename_i ds
    split at h
    · rename_i ok
      cases hx with
      | cons h1 hx =>
        cases hx
        cases h1 with
        | v h1 =>
          cases h1 with
          | tup qx rx => exact .inr ⟨_, _, ds, rfl, sqT_le hS.hle qx.sq, rx.le hS.hle, ok, fun zs p hp hF => hk hS (hF _ rx).vs h p hp⟩
    · exact h.elim
  · exact .inl (fSrt_of hk s w H S vs _ Q hS hx h)
end Ax
/-! Ax46: str(an int) -/
namespace Ax
open PySem PySem.Spec PyProof.Rows L2
def fStr (xs : List Vl) (S : Store) : Out Vl := match xs with
  | [.v (.int i)] => if i.natAbs.log2 < 1920 then .ok (.v (.str (toString i))) S else .stuck
  | _ => .stuck
theorem fStr_of {g : G} {W : WX} : CalD g W fStr (fun xs H Q => ∃ i, xs = [.int i] ∧ i.natAbs.log2 < 1920 ∧ Q (.str (toString i)) H) := by
  intro s w H S vs xs Q hS hx h
  unfold fStr at h
  split at h
  · rename_i i
    split at h
    · rename_i hl
      cases hx with
      | cons h1 hx =>
        cases hx
        cases h1 with
        | v h1 =>
          cases h1
          exact ⟨i, rfl, hl, h w H _ (Ext.refl _ _) hS (.v (.str _))⟩
    · exact h.elim
  · exact h.elim
end Ax
/-! Ax47: errors of the program's own with two values -/
namespace Ax
open PySem PySem.Spec PyProof.Rows L2
/-- self.f = y; self.f2 = y2, the two lines of an __init__ -/
def spI2 (K : PySem.W.Frag) (f f2 : Str) : Sp := fun vs H Q _ => ∃ (a C : Addr) (y y2 : V), vs = [.ref a, y, y2] ∧ OexC K C ∧ PySem.W.findIn K (.ref C) f = some none ∧ PySem.W.findIn K (.ref C) f2 = some none ∧ H a = some (exo a C none) ∧
  ∀ dx, H dx = none → dx ≠ a → Q .non (upd (upd (upd H dx (exd dx [(f, y)])) a (exo a C (some dx))) dx (exd dx [(f2, y2), (f, y)]))
structure ErrC2 (K : PySem.W.Frag) (mg : Str → Option Value) (f f2 : Str) (c : Str) (C fI : Addr) : Prop where
  m : mg c = some (.ref C)
  oex : OexC K C
  iC : PySem.W.findIn K (.ref C) "__init__" = some (some (.ref fI))
  tI : PySem.W.typeIn K (.ref fI) = some (.type "function")
  no : PySem.W.findIn K (.ref C) f = some none
  no2 : PySem.W.findIn K (.ref C) f2 = some none
def sRaise2 (c f f2 : Str) (ma : AM) : SM := fun e S => (ma e S).toS e fun xs S1 => match xs with
  | [.v d, .v d2] => .exc c [(f2, d2), (f, d)] e S1
  | _ => .stuck
section
variable {X : Cx} {T : List (Addr × Str)} {W : WX} {c f f2 : Str} {C fI : Addr} {k : Nat} {fd : FuncData} {ps : List Str} {p pos pos2 : Pos} {e e2 : Expr} {ma : AM}
theorem s_raise2 (Er : ErrC2 X.K X.mg f f2 c C fI) (FI : FnOk X.prog X.w X.K X.mg X.base (L2.CX X.prog X.w) k fI fd ps (spI2 X.K f f2)) (hr : Room (k + 1) X.A) (hb : Binds X.K fd ps []) (tk : Takes X W) (hc : X.calm = true) (ha : PA X [e, e2] (rdA (gX X T) W ma)) (hg : Gl X c := by rfl)
    (hdb : (c == ("__debug__" : Str)) = false := by decide) (he : starEach (e :: [e2]) X.env = (false, eval e X.env) :: starEach [e2] X.env := by rfl) (hpl : (backTo pos (starEach [e2] X.env)).any (·.1) = false := by rfl) :
    PS X (.Raise (some (.Call (.Name c p) [e, e2] [] pos)) none pos2) (rdS (gX X T) W (sRaise2 c f f2 ma)) := by
  refine PS_imp (ps_raise hc tk (pmk_oex Er.oex Er.iC Er.tI FI hr hb .nil passL hg Er.m ha hdb he hpl)) fun E s H h => ?_
  refine rdS_ofE (rel := RepVs (gX X T)) (f := fun xs e S1 => match xs with | [.v d, .v d2] => .exc c [(f2, d2), (f, d)] e S1 | _ => .stuck) h fun w1 H1 S1 e1 vs xs hS hE hx h1 => ?_
  split at h1
  · rename_i d d2
    cases hx with
    | cons r1 hx =>
      cases hx with
      | cons r2 hx =>
        cases hx
        rename_i y y2
        cases r1 with
        | v r1 =>
          cases r2 with
          | v r2 =>
            refine ⟨by simp, fun a ha0 => ?_⟩
            refine ⟨a, C, y, y2, rfl, Er.oex, Er.no, Er.no2, upd_same, fun dx hd hne => ⟨rfl, dx, [(f2, y2), (f, y)], by rw [upd_ne (Ne.symm hne), upd_same], upd_same, by rwa [upd_ne hne] at hd, ?_⟩⟩
            have hd1 : H1 dx = none := by rwa [upd_ne hne] at hd
            have e2 : upd (del (upd (upd (upd (upd H1 a (exo a C none)) dx (exd dx [(f, y)])) a (exo a C (some dx))) dx (exd dx [(f2, y2), (f, y)])) a) dx (.xd [(f2, y2), (f, y)]) = upd H1 dx (.xd [(f2, y2), (f, y)]) := by
              funext b
              by_cases hb : b = dx
              · subst hb; rw [upd_same, upd_same]
              · rw [upd_ne hb, upd_ne hb]
                by_cases hba : b = a
                · subst hba; rw [del_same, ha0]
                · rw [del_ne hba, upd_ne hb, upd_ne hba, upd_ne hb, upd_ne hba]
            rw [e2]
            obtain ⟨a1, a2⟩ := new_hid hS hd1 (.xd [(f2, y2), (f, y)])
            exact h1 s w1 _ C dx _ a2 a1 hE Er.m upd_same (.cons r2 (.cons r1 .nil))
  · exact h1.elim
end
/-- the def __init__(self, v, v2): self.v = v; self.v2 = v2 -/
theorem init2_ok {P : Program} {wd : World} {K : PySem.W.Frag} {mg : Str → Option Value} {base : Heap} {x qual v v2 : Str} {params : Arguments} {scope : Scope} {dvs : List V} {f : Addr} {fd : FuncData} {p1 p2 p3 p4 q1 q2 q3 q4 : Pos} (F : FunD K x qual params [.Assign [.Attribute (.Name "self" p1) v p2] (.Name v p3) p4, .Assign [.Attribute (.Name "self" q1) v2 q2] (.Name v2 q3) q4] scope dvs [] f fd)
    (S : FnScope ["self", v, v2] ["self", v, v2] scope) (h1 : scope.names.lookup ("self" : Str) = some NameKind.local) (h2 : scope.names.lookup v = some NameKind.local) (h3 : scope.names.lookup v2 = some NameKind.local) (d1 : (v == ("__debug__" : Str)) = false) (d2 : (v == ("__classdict__" : Str)) = false) (d3 : (v2 == ("__debug__" : Str)) = false) (d4 : (v2 == ("__classdict__" : Str)) = false) : FnOk P wd K mg base (L2.CX P wd) 1 f fd ["self", v, v2] (spI2 K v v2) := by
  refine F.ok S (fun vs H Q E h => ?_) fun cdv A outer s H vs Q E hr h => ⟨_, pss_cons (ps_ost (pv 0 rfl (.inl h1)) (pv 1 rfl (.inl h2) d1 d2)) (pss_one (ps_ost (pv 0 rfl (.inl h1)) (pv 2 rfl (.inl h3) d3 d4))), ?_⟩
  · obtain ⟨a, C, y, y2, rfl, _⟩ := h; rfl
  · obtain ⟨a, C, y, y2, rfl, ho, hn, hn2, ha, q⟩ := h
    exact ⟨y, rfl, .ref a, rfl, a, C, rfl, ho, hn, .inl ⟨ha, fun dx n ne => ⟨y2, rfl, .ref a, rfl, a, C, rfl, ho, hn2, .inr ⟨dx, [(v, y)], upd_same, by rw [upd_ne ne, upd_same], by simp, q dx n ne⟩⟩⟩⟩
end Ax
/-! Ax48: what a law hears, errors with one value or two -/
namespace Ax
open PySem PySem.Spec PyProof.Rows L2
structure ErrK2 (K : PySem.W.Frag) (mg : Str → Option Value) (PE C : Addr) (f f2 : Str) : Prop where
  xf : XfC K C
  ex : ExcC K C
  no : PySem.W.findIn K (.ref C) f = some none
  no2 : PySem.W.findIn K (.ref C) f2 = some none
  is : PySem.W.kitOne K (.ref C) (.ref PE) = some true
/-- return (tag, (e.f, e.f2), isinstance(e, PollError)) -/
def tsH2 (C : Addr) (tag f f2 : Str) (i : Nat) : Addr → Value → Option Addr → TS := fun a cls d => fun D σ H => ∃ dd v v2, cls = .ref C ∧ d = some dd ∧ f ≠ f2 ∧ (i < σ.length → σ[i]? = some (some (.ref a))) ∧ H dd = some (.xd [(f2, v2), (f, v)]) ∧ NewT H [v, v2] fun x H2 => NewT H2 [.str tag, x, .bl true] D.rt
theorem hsu_tell2 {X : Cx} {PEr C a : Addr} {oe : Obj} {cls : Value} {d : Option Addr} {pn : List (Addr × Obj)} {tag n f f2 : Str} {i j k k2 : Nat} {p1 p2 p3 p4 p5 p6 p7 p8 p9 r1 r2 r3 : Pos} (hz : Zc cls d oe) (hf : ∃ vs, oe.data = .fields vs) (E : ErrK2 X.K X.mg PEr C f f2) (hP : X.mg "PollError" = some (.ref PEr)) (hm : X.mg "isinstance" = none)
    (hN : X.N[i]? = some n) (hv : Vis X.env.scope n) (hg : Gl X "isinstance") (hg2 : Gl X "PollError") (hd : (n == ("__debug__" : Str)) = false := by decide) (hcd : (n == ("__classdict__" : Str)) = false := by decide)
    (hb : attributeBase (.Name n p2) f X.env (eval (.Name n p2) X.env) = eval (.Name n p2) X.env := by rfl) (hb2 : attributeBase (.Name n r1) f2 X.env (eval (.Name n r1) X.env) = eval (.Name n r1) X.env := by rfl) :
    PSs (X.suite a ((a, oe) :: pn)) [.Return (some (.Tuple [.Constant (.str tag) j p1, .Tuple [.Attribute (.Name n p2) f p3, .Attribute (.Name n r1) f2 r2] k2 r3, .Call (.Name "isinstance" p4) [.Name n p5, .Name "PollError" p6] [] p7] k p8)) p9] (tsH2 C tag f f2 i a cls d) := by
  refine ⟨fun pins s σ H D I h => ?_⟩
  obtain ⟨dd, v, v2, rfl, rfl, fne, hs, hdd, q⟩ := h
  have hi : i < σ.length := by
    have e : σ.length = X.N.length := I.len
    rw [e]; exact (List.getElem?_eq_some_iff.mp hN).1
  have hsi := hs hi
  have pv : ∀ {p : Pos}, PE (X.suite a ((a, oe) :: pn)) (.Name n p) (tVar i) := fun {p} => pe_var (X := X.suite a ((a, oe) :: pn)) hN hv hd hcd
  have pP : PE (X.suite a ((a, oe) :: pn)) (.Name "PollError" p6) (tC (.ref PEr)) := pe_glob (X := X.suite a ((a, oe) :: pn)) (v := .ref PEr) hg2 hP rfl (by decide)
  have inner : PE (X.suite a ((a, oe) :: pn)) (.Tuple [.Attribute (.Name n p2) f p3, .Attribute (.Name n r1) f2 r2] k2 r3) (tTupF (tCons (tXf a (.ref C) (some dd) C f (tVar i)) (tCons (tXf a (.ref C) (some dd) C f2 (tVar i)) tNil))) := pe_tupF (pa_cons (pe_xf E.xf E.no hz hf pv hb) (pa_cons (pe_xf E.xf E.no2 hz hf pv hb2) pa_nil))
  refine (pss_one (ps_ret (pe_tupF (pa_cons pe_str (pa_cons inner (pa_cons (pe_callB (call_isED E.ex hz hf) hg hm (by rfl) (pa_cons pv (pa_cons pP pa_nil))) pa_nil)))))).run pins s σ H D I ?_
  have l1 : ([(f2, v2), (f, v)] : List (Str × V)).lookup f = some v := by simp [List.lookup, beq_eq_false_iff_ne.mpr fne]
  have l2 : ([(f2, v2), (f, v)] : List (Str × V)).lookup f2 = some v2 := by simp [List.lookup]
  refine ⟨_, hsi, rfl, rfl, dd, _, v, rfl, hdd, l1, _, hsi, rfl, rfl, dd, _, v2, rfl, hdd, l2, by show 2 ≤ sizeLine; decide, fun p o hp ho => ?_⟩
  have hp2 : dd ≠ p := fun z => by rw [z, hp] at hdd; cases hdd
  have hdd2 : (upd H p (.frz o (.tup [v, v2]))) dd = some (.xd [(f2, v2), (f, v)]) := by rw [upd_ne hp2]; exact hdd
  exact ⟨_, hsi, .ref PEr, .ref PEr, true, _, rfl, fun u r => r, E.is, hdd2, by show 3 ≤ sizeLine; decide, q p o hp ho⟩
/-- the clauses: names, tags, classes; none: one value, some: two by name -/
abbrev HlM := List (Str × Str × Addr × Option (Str × Str))
def tsHM (C : Addr) (tag : Str) (kd : Option (Str × Str)) (i : Nat) : Addr → Value → Option Addr → TS := match kd with
  | none => tsH C tag i
  | some p => tsH2 C tag p.1 p.2 i
def hdsOfM (hl : HlM) (i : Nat) : List HdT := hl.map fun t => (.ref t.2.2.1, some i, tsHM t.2.2.1 t.2.1 t.2.2.2 i)
def TellM (H' : Hp) (d : Option Addr) (tag : Str) (kd : Option (Str × Str)) (Q : VK) : Prop := match kd with
  | none => ∃ dd v, d = some dd ∧ H' dd = some (.xd [(("value" : Str), v)]) ∧ NewT H' [.str tag, v, .bl true] Q
  | some p => ∃ dd v v2, d = some dd ∧ p.1 ≠ p.2 ∧ H' dd = some (.xd [(p.2, v2), (p.1, v)]) ∧ NewT H' [v, v2] fun x H2 => NewT H2 [.str tag, x, .bl true] Q
theorem tsHM_of {D : Ends} {d : Option Addr} {σ : L2.St} {H : Hp} {i : Nat} {tag : Str} {C a : Addr} {kd : Option (Str × Str)} (q : TellM H d tag kd D.rt) : tsHM C tag kd i a (.ref C) d (endsN D i) (σ.set i (some (.ref a))) H := by
  cases kd with
  | none =>
    obtain ⟨dd, v, hd, hdd, q⟩ := q
    exact ⟨dd, v, rfl, hd, fun hl => List.getElem?_set_self (by simpa using hl), hdd, q⟩
  | some p =>
    obtain ⟨dd, v, v2, hd, ne, hdd, q⟩ := q
    exact ⟨dd, v, v2, rfl, hd, ne, fun hl => List.getElem?_set_self (by simpa using hl), hdd, q⟩
theorem wish_ofM {K : PySem.W.Frag} {W : WX} {D : Ends} {d : Option Addr} {σ : L2.St} {H : Hp} {i : Nat} {c tag : Str} {C : Addr} {kd : Option (Str × Str)} (q : TellM H d tag kd D.rt) :
    ∀ {hl : HlM}, (∀ t ∈ hl, PySem.W.exmOne K (.ref C) (.ref t.2.2.1) = some (decide (t.1 = c))) → hl.find? (fun t => decide (t.1 = c)) = some (c, tag, C, kd) → wManyA K W D (hdsOfM hl i) (.ref C) d σ H
  | [], _, h => by simp at h
  | t :: hl, ex, h => by
    show wManyA K W D ((.ref t.2.2.1, some i, tsHM t.2.2.1 t.2.1 t.2.2.2 i) :: hdsOfM hl i) (.ref C) d σ H
    refine ⟨_, ex t (List.mem_cons_self ..), fun e a ha => ?_, fun e => ?_⟩
    · rw [List.find?_cons, e] at h
      cases h
      exact tsHM_of q
    · rw [List.find?_cons, e] at h
      exact wish_ofM q (fun t ht => ex t (List.mem_cons_of_mem _ ht)) h
def TThM (hl : HlM) : (XK → Hp → VK → Prop) → Hp → VK → Prop := fun tl H Q =>
  tl (fun cls d H' => ∃ c tag C kd, hl.find? (fun t => decide (t.1 = c)) = some (c, tag, C, kd) ∧ cls = .ref C ∧ TellM H' d tag kd Q) H fun _ H' => NewT H' [] Q
theorem heard_givesM {X : Cx} {Ng : List Str} {x a q : Str} {sg : Scope} {g : Addr} {cdg : Value} {hl : HlM} {i : Nat} {h₀ : ExceptHandler} {hds : List ExceptHandler} {p1 p2 p3 p8 p9 p10 : Pos} {kk : Nat} (hN : Ng.Nodup) (h0 : ∀ f : Addr, (L2.start Ng [V.ref f])[0]? = some (some (V.ref f)))
    (hex : ∀ t ∈ hl, ∀ u ∈ hl, PySem.W.exmOne X.K (.ref t.2.2.1) (.ref u.2.2.1) = some (decide (u.1 = t.1)))
    (hh : ∀ (s : Shared) (H : Hp), HdsA (cxOf C8.CX0 X.prog X.w X.K X.mg X.base Ng x sg g cdg X.A X.stack s H C8.E0).nox (h₀ :: hds) (hdsOfM hl i)) :
    LamX.GivesTo X Ng x sg g cdg [.Try [.Expr (.Call (.Name a p1) [] [] p2) p3] (h₀ :: hds) [] [] p8, .Return (some (.Tuple [] kk p10)) p9] a q (TThM hl) := by
  intro f c' s H Q tl act hc h
  refine ⟨_, pss_cons (ps_try_manyA (X := (cxOf C8.CX0 X.prog X.w X.K X.mg X.base Ng x sg g cdg X.A X.stack s H C8.E0).nox) (l := hdsOfM hl i)
      (tb := fun W D σ H => ∃ Ech : XK, (∀ cls d σ' H', Ech cls d H' → W cls d σ' H') ∧ σ[0]? = some (some (.ref f)) ∧ H c' = some (LamX.CodeO c' q) ∧ tl Ech H fun _ H' => D.nx σ H')
      rfl rfl hN takes0 (fun W pn xe tk _ => ?_) (hh s H)) (pss_one (ps_ret (pe_tupF pa_nil))), ?_⟩
  · refine ⟨fun pins s' σ H' D I h' => ?_⟩
    obtain ⟨Ech, hW, h1, h2, h3⟩ := h'
    have hp := act W pn xe Ech p1 p2 tk hW
    exact (pss_one (ps_expr (pos := p3) hp)).run pins s' σ H' D I ⟨h1, h2, h3⟩
  · refine ⟨fun cls d H' => ∃ c tag C kd, hl.find? (fun t => decide (t.1 = c)) = some (c, tag, C, kd) ∧ cls = .ref C ∧ TellM H' d tag kd Q, fun cls d σ' H' hx => ?_, h0 f, hc, ?_⟩
    · obtain ⟨c, tag, C, kd, hf, e1, e2⟩ := hx
      subst e1
      refine wish_ofM e2 (fun t ht => ?_) hf
      have hm := List.mem_of_find?_eq_some hf
      exact hex _ hm t ht
    · have z : (0 : Nat) ≤ sizeLine := Nat.zero_le _
      have e : (fun (_ : V) H' => ([] : List V).length ≤ sizeLine ∧ NewT H' [] Q) = fun (_ : V) H' => NewT H' [] Q := by
        funext v H'
        exact propext ⟨fun q => q.2, fun q => ⟨z, q⟩⟩
      show tl _ H fun (_ : V) H' => ([] : List V).length ≤ sizeLine ∧ NewT H' [] Q
      rw [e]
      exact h
/-- what is told of an error -/
def tellD (tag : Str) (kd : Option (Str × Str)) (fs : List (Str × D)) : Option D := match kd, fs with
  | none, [(f, d)] => if f = "value" then some (.tup [.str tag, d, .bl true]) else none
  | some p, [(g2, d2), (g, d)] => if g = p.1 ∧ g2 = p.2 ∧ g ≠ g2 then some (.tup [.str tag, .tup [d, d2], .bl true]) else none
  | _, _ => none
def eHeardM (hs : List (Str × Str × Option (Str × Str))) (mb : EM) : EM := fun e S => match mb e S with
  | .ok _ S1 => .ok (.v (.tup [])) S1
  | .exc c fs S1 => match hs.find? (fun t => decide (t.1 = c)) with
    | some t => match tellD t.2.1 t.2.2 fs with
      | some d => .ok (.v d) S1
      | none => .stuck
    | none => .stuck
  | .stuck => .stuck
theorem heard_rdM {X : Cx} {T : List (Addr × Str)} {W : WX} {hl : HlM} {hs : List (Str × Str × Option (Str × Str))} {mb : EM} (hm : ∀ t ∈ hl, X.mg t.1 = some (.ref t.2.2.1)) (hhs : hs = hl.map fun t => (t.1, t.2.1, t.2.2.2)) :
    ∀ s H Q, rd (gX X T) W (eHeardM hs mb) s H Q → tLamT T (TThM hl) (fun E => rd (gX X T) (Wdef E) mb) s H Q := fun s H Q ⟨w, e, S, hS, hE, h⟩ => by
  refine ⟨hS.tabs, fun H1 ex t1 => ?_⟩
  obtain ⟨hS1, ex1⟩ := hS.extT ex t1
  refine ⟨w, e, S, hS1, hE, ?_⟩
  unfold eHeardM at h
  generalize mb e S = o at h
  cases o with
  | ok x S1 =>
    intro w2 H2 v ex2 hS2 _
    exact sat_newT hS2 .nil (SatG.ext (o := .ok (Vl.v (.tup [])) S1) h (ex1.trans ex2))
  | exc c fs S1 =>
    intro w2 H2 C dx vs ex2 hS2 hC hdx hr
    simp only at h
    split at h
    · rename_i t ht
      have hfind : hl.find? (fun t => decide (t.1 = c)) = some (c, t.2.1, C, t.2.2) := by
        subst hhs
        rw [List.find?_map] at ht
        obtain ⟨u, hu1, hu2⟩ := Option.map_eq_some_iff.mp ht
        have hu1' : hl.find? (fun t => decide (t.1 = c)) = some u := hu1
        have hmem := List.mem_of_find?_eq_some hu1'
        have huc : u.1 = c := by simpa using List.find?_some hu1'
        have hmu := hm u hmem
        rw [huc] at hmu
        have hC' : X.mg c = some (.ref C) := hC
        rw [hC'] at hmu
        cases hmu
        subst hu2
        rw [hu1']
        obtain ⟨u1, u2, u3, u4⟩ := u
        simp only at huc
        subst huc
        rfl
      obtain ⟨t1, tag, kd⟩ := t
      refine ⟨c, tag, C, kd, hfind, rfl, ?_⟩
      simp only at h
      split at h
      · rename_i d hd
        unfold tellD at hd
        split at hd
        · rename_i f d0
          split at hd
          · rename_i hf
            subst hf
            cases hd
            cases hr with
            | cons r1 hr =>
              cases hr
              rename_i v0
              exact ⟨dx, v0, rfl, hdx, sat_newT hS2 (.cons (.str _) (.cons r1 (.cons (.bl _) .nil))) (SatG.ext (o := .ok (Vl.v (.tup [.str tag, d0, .bl true])) S1) h (ex1.trans ex2))⟩
          · cases hd
        · rename_i p g2 d2 g d1
          split at hd
          · rename_i hf
            obtain ⟨e1, e2, ne⟩ := hf
            subst e1 e2
            cases hd
            cases hr with
            | cons r2 hr =>
              cases hr with
              | cons r1 hr =>
                cases hr
                rename_i v2 v1
                refine ⟨dx, v1, v2, rfl, ne, hdx, fun p o hp ho => ?_⟩
                obtain ⟨aa, bb⟩ := new_froz hS2 hp (.frz o (.tup [v1, v2]))
                exact sat_newT aa (.cons (.str _) (.cons (.tup (.inl ⟨o, upd_same, ho⟩) ((RepAll.cons r1 (.cons r2 .nil)).le bb.fle)) (.cons (.bl _) .nil))) (SatG.ext (o := .ok (Vl.v (.tup [.str tag, .tup [d1, d2], .bl true])) S1) h ((ex1.trans ex2).trans bb))
          · cases hd
        · cases hd
      · exact h.elim
    · exact h.elim
  | stuck => exact h.elim
section
open LamX
variable {X : Cx} {T : List (Addr × Str)} {W : WX}
structure HeardOkM (X : Cx) (x a : Str) (g : Addr) (hl : HlM) (Ng : List Str) : Prop where
  ex : ∃ (pg : Arguments) (bg : List Stmt) (sg : Scope) (dV kV doc pm cdv ct oc : Value) (an od : Option Addr) (osl : Array (Option Value)),
    X.K.lookup g = some ⟨oc, od, .func (PySem.W.fnOf x x pg bg sg dV kV doc pm an cdv ct), osl⟩ ∧ PySem.W.codeIn X.K cdv x = true ∧ L2.Binds X.K (PySem.W.fnOf x x pg bg sg dV kV doc pm an cdv ct) [a] [] ∧ FnScope Ng [a] sg ∧ Ng[0]? = some a ∧ Vis sg a ∧
    ∀ q, GivesTo X Ng x sg g cdv bg a q (TThM hl)
  m : ∀ t ∈ hl, X.mg t.1 = some (.ref t.2.2.1)
theorem e_heardM {x a : Str} {g c Pt : Addr} {k : Nat} {hl : HlM} {hs : List (Str × Str × Option (Str × Str))} {Ng : List Str} {params : Arguments} {body : Expr} {scope : Scope} {mb : EM} {p lpos pos : Pos} (Hd : HeardOkM X x a g hl Ng) (hhs : hs = hl.map fun t => (t.1, t.2.1, t.2.2.2)) (hr : Room (k + 2) X.A) (hm : X.mg x = some (.ref g)) (hk : PySem.W.keepIn X.K (.ref g) = true)
    (TB : TabB X.base X.mg c Pt) (hT1 : (Pt, X.env.qual ++ "<lambda>") ∈ T) (hT2 : ∀ p ∈ T, p.1 = Pt → p = (Pt, X.env.qual ++ "<lambda>")) (hcode : X.env.code = .ref c) (L : LamS X.env.scope scope) (hdef : defaultsOf params X.env = ([], []))
    (hbind : ∀ (q : Str) (cl : List (Str × Addr)) (pm cv ctv : Value), bindArgs (PySem.W.kla_fn "<lambda>" q params body scope cl pm cv ctv) ⟨[], []⟩ = pure [])
    (hbody : ∀ (A : Around) (outer : List Env) (s : Shared) (H : Hp) (E : XK) (f c' : Addr), Room k (A.deeper (lamEnv X scope s.heap.objs.size f c')) → PE (lamCx X A outer s H E scope f c') body (rd (gX X T) (Wdef E) mb)) (hg : Gl X x := by rfl)
    (hdb : (x == ("__debug__" : Str)) = false := by decide) (hd : (a == ("__debug__" : Str)) = false := by decide) (hcd : (a == ("__classdict__" : Str)) = false := by decide) :
    PE X (.Call (.Name x p) [.Lambda params body scope lpos] [] pos) (rd (gX X T) W (eHeardM hs mb)) := by
  obtain ⟨pg, bg, sg, dV, kV, doc, pm, cdv, ct, oc, an, od, osl, lk, hcg, hb, Sg, hNg, hva, hG⟩ := Hd.ex
  exact PE_imp (pe_lamcall3 (t := fun E => rd (gX X T) (Wdef E) mb) hg hm hk lk hcg hb Sg hNg hva (hG _) TB hcode hT1 (fun p hp e => by rw [hT2 p hp e]) hr L hdef hbind hbody hdb hd hcd) (heard_rdM Hd.m hhs)
end
end Ax
/-! Ax49: what the head must find of errors with two values -/
namespace Ax
open PySem PySem.Spec PyProof.Rows L2
def errCB2 (K : PySem.W.Frag) (f f2 : Str) (C fI : Addr) : Bool := oexB K C && (decide (PySem.W.findIn K (.ref C) "__init__" = some (some (.ref fI))) && (decide (PySem.W.typeIn K (.ref fI) = some (.type "function")) && (decide (PySem.W.findIn K (.ref C) f = some none) && decide (PySem.W.findIn K (.ref C) f2 = some none))))
theorem errCB2_ok {K : PySem.W.Frag} {mg : Str → Option Value} {f f2 c : Str} {C fI : Addr} (m : mg c = some (.ref C)) (h : errCB2 K f f2 C fI = true) : ErrC2 K mg f f2 c C fI := by
  obtain ⟨h1, h⟩ := He.ba h
  obtain ⟨h2, h⟩ := He.ba h
  obtain ⟨h3, h⟩ := He.ba h
  obtain ⟨h4, h5⟩ := He.ba h
  exact ⟨m, oexB_ok h1, of_decide_eq_true h2, of_decide_eq_true h3, of_decide_eq_true h4, of_decide_eq_true h5⟩
def errKB2 (K : PySem.W.Frag) (PE C : Addr) (f f2 : Str) : Bool := xfB K C && (excB K C && (decide (PySem.W.findIn K (.ref C) f = some none) && (decide (PySem.W.findIn K (.ref C) f2 = some none) && decide (PySem.W.kitOne K (.ref C) (.ref PE) = some true))))
theorem errKB2_ok {K : PySem.W.Frag} {mg : Str → Option Value} {PE C : Addr} {f f2 : Str} (h : errKB2 K PE C f f2 = true) : ErrK2 K mg PE C f f2 := by
  obtain ⟨h1, h⟩ := He.ba h
  obtain ⟨h2, h⟩ := He.ba h
  obtain ⟨h3, h⟩ := He.ba h
  obtain ⟨h4, h5⟩ := He.ba h
  exact ⟨xfB_ok h1, excB_ok h2, of_decide_eq_true h3, of_decide_eq_true h4, of_decide_eq_true h5⟩
def exmBM (K : PySem.W.Frag) (hl : HlM) : Bool := hl.all fun t => hl.all fun u => decide (PySem.W.exmOne K (.ref t.2.2.1) (.ref u.2.2.1) = some (decide (u.1 = t.1)))
theorem exmBM_ok {K : PySem.W.Frag} {hl : HlM} (h : exmBM K hl = true) : ∀ t ∈ hl, ∀ u ∈ hl, PySem.W.exmOne K (.ref t.2.2.1) (.ref u.2.2.1) = some (decide (u.1 = t.1)) :=
  fun t ht u hu => of_decide_eq_true (List.all_eq_true.mp (List.all_eq_true.mp h t ht) u hu)
end Ax
/-! Ax50: name = a list comp with two fors -/
namespace Ax
open PySem PySem.Spec PyProof.Rows L2
section
variable {X : Cx} {T : List (Addr × Str)} {W : WX}
variable {elt tg iter tg1 iter1 : Expr} {ifs ifs1 : List Expr} {scope : Scope} {own : List (Str × Nat)} {pos : Pos} {it it2 : IM} {t t2 : TgM} {is is2 vs1 : List Nat} {ts ts2 : TM} {el : EM} {k : List Vl → Store → Out Vl}
theorem s_setLc2X {i : Nat} {y : Str} {py spos : Pos} (hk : TakesList (gX X T) W k) (hc : X.calm = true) (hN : X.N.Nodup) (hi : PI X tg iter (rdI (gX X T) W it)) (ok : BlkOk X.N X.env.scope scope own)
    (hg : ∀ (s : Shared) (H : Hp) (C : Addr) (cl : List (Str × Addr)) (fp : List Addr), PG (X.blk s H scope (compEnvC scope cl C X.env) fp) tg (rdTg (gX X T) t is)) (ht : ∀ (s : Shared) (H : Hp) (C : Addr) (cl : List (Str × Addr)) (fp : List Addr), PTs (X.blk s H scope (compEnvC scope cl C X.env) fp) ifs (rdT (gX X T) W0 ts))
    (hi1 : ∀ (s : Shared) (H : Hp) (C : Addr) (cl : List (Str × Addr)) (fp : List Addr), PI (X.blk s H scope (compEnvC scope cl C X.env) fp) tg1 iter1 (rdI (gX X T) W0 it2))
    (hg1 : ∀ (s : Shared) (H : Hp) (C : Addr) (cl : List (Str × Addr)) (fp : List Addr), PG (X.blk s H scope (compEnvC scope cl C X.env) fp) tg1 (rdTg (gX X T) t2 is2)) (ht1 : ∀ (s : Shared) (H : Hp) (C : Addr) (cl : List (Str × Addr)) (fp : List Addr), PTs (X.blk s H scope (compEnvC scope cl C X.env) fp) ifs1 (rdT (gX X T) W0 ts2))
    (he : ∀ (s : Shared) (H : Hp) (C : Addr) (cl : List (Str × Addr)) (fp : List Addr), PE (X.blk s H scope (compEnvC scope cl C X.env) fp) elt (rd (gX X T) W0 el))
    (hsw : swapsWith (.ListComp elt [⟨tg, iter, ifs, 0⟩, ⟨tg1, iter1, ifs1, 0⟩] scope pos) (some (.Name y py)) spos.line X.env = pure true) (hy : X.N[i]? = some y := by rfl) (hyl : X.env.scope.names.lookup y = some .local := by rfl)
    (hv : ∀ i ∈ vs1, i ∈ own.map (·.2) := by decide) (hio : ∀ i ∈ is, i ∈ own.map (·.2) := by decide) (hio2 : ∀ i ∈ is2, i ∈ vs1 := by decide) (hs : ∀ x, foldedSetIterable iter X.env x = pure x := by intro _; rfl) (hs1 : ∀ env x, foldedSetIterable iter1 env x = pure x := by intro _ _; rfl) :
    PS X (.Assign [.Name y py] (.ListComp elt [⟨tg, iter, ifs, 0⟩, ⟨tg1, iter1, ifs1, 0⟩] scope pos) spos) (rdS (gX X T) W (sAsg (gNm i) (eLc2X k it t ts it2 t2 ts2 el (own.map (·.2)) vs1))) := by
  refine PS_imp (ps_setLc2 hc hN hy hyl hsw hi ok hv hg ht hi1 hg1 ht1 he hs hs1) fun E s H h => ?_
  refine lc2_rd (g := gX X T) (W := W) hk hio hio2 s H _ ?_
  refine rdS_ofE (f := fun x e S1 => match gNm i x e with | some e1 => .go (.nx e1) S1 | none => .stuck) h fun w1 H1 S1 e v x hS hE hx h1 => ?_
  exact h1 w1 H1 _ (Ext.refl _ _) hS (hE.set hx)
end
end Ax
/-! Ax51: sep.join(texts), f-strings of texts and ints -/
namespace Ax
open PySem PySem.Spec PyProof.Rows L2
def strsD : List D → Option (List Str)
  | [] => some []
  | .str x :: ds => (strsD ds).map (x :: ·)
  | _ => none
theorem strsD_rep {g : G} {F : Hp} : ∀ {ds : List D} {vs : List V} {ys : List Str}, RepAll g F vs ds → strsD ds = some ys → vs = ys.map V.str
  | [], _, ys, .nil, h => by
    simp only [strsD, Option.some.injEq] at h
    subst h; rfl
  | d :: ds, _, ys, .cons r rs, h => by
    cases d with
    | str x =>
      simp only [strsD, Option.map_eq_some_iff] at h
      obtain ⟨zs, hz, rfl⟩ := h
      cases r
      rw [strsD_rep rs hz]; rfl
    | _ => cases h
theorem strsD_map (ys : List Str) : strsD (ys.map .str) = some ys := by
  induction ys with
  | nil => rfl
  | cons y ys ih => simp [strsD, ih]
def fJoin (a : Str) (x : Vl) (S : Store) : Out Vl := match ((qview S x).bind unv).bind strsD with
  | some ys => if (ys.map (·.length)).sum + ys.length * a.length ≤ 16777216 then .ok (.v (.str (Txt.join a ys))) S else .stuck
  | none => .stuck
def eJoin (mo me : EM) : EM := fun e S => (mo e S).bind fun x S1 => match x with
  | .v (.str a) => (me e S1).bind fun y S2 => fJoin a y S2
  | _ => .stuck
def kFmt (x : Vl) (S1 : Store) : Out Vl := match x with
  | .v (.str y) => if y.length ≤ 16777216 then .ok (.v (.str y)) S1 else .stuck
  | .v (.int i) => if i.natAbs.log2 < 1920 then .ok (.v (.str (toString i))) S1 else .stuck
  | _ => .stuck
def eFmt (m : EM) : EM := fun e S => (m e S).bind kFmt
def eJs : List EM → Str → EM
  | [], acc, _, S => .ok (.v (.str acc)) S
  | m :: ms, acc, e, S => (m e S).bind fun x S1 => match x with
    | .v (.str y) => if (acc ++ y).length ≤ 16777216 then eJs ms (acc ++ y) e S1 else .stuck
    | _ => .stuck
abbrev eFs (ms : List EM) : EM := eJs ms Str.empty
section
variable {X : Cx} {T : List (Addr × Str)} {W : WX} {o e : Expr} {mo me m : EM} {apos pos : Pos}
theorem e_join (ho : PE X o (rd (gX X T) W mo)) (he : PE X e (rd (gX X T) W me)) (hs : starEach [e] X.env = [(false, eval e X.env)] := by rfl) (hbase : attributeBase o "join" X.env (eval o X.env) = eval o X.env := by rfl) (hline : (apos.endLine == pos.line) = true := by rfl) :
    PE X (.Call (.Attribute o "join" apos) [e] [] pos) (rd (gX X T) W (eJoin mo me)) :=
  PE_imp (pe_join ho he hs hbase hline) fun s H Q h => rd_bind (rel := RepV (gX X T)) (f := fun (x : Vl) (e : Sl) (S1 : Store) => match x with | .v (.str a) => (me e S1).bind fun y S2 => fJoin a y S2 | _ => .stuck) h fun w1 H1 S1 e v x hS hE hx h1 => by
    split at h1
    · rename_i a
      cases hx with
      | v hx =>
        cases hx
        refine ⟨⟨a, rfl⟩, w1, e, S1, hS, hE, h1.bind.imp fun u H2 ⟨w2, S2, y, hS2, hy, ex, h2⟩ => ?_⟩
        unfold fJoin at h2
        split at h2
        · rename_i ys hys
          split at h2
          · rename_i hl
            obtain ⟨ds, e1, e2⟩ := Option.bind_eq_some_iff.mp hys
            obtain ⟨xs, e3, e4⟩ := Option.bind_eq_some_iff.mp e1
            obtain ⟨p, vs, rfl, q, r⟩ := qview_rep hS2 hy e3
            have ev := strsD_rep (r.un e4) e2
            subst ev
            exact ⟨a, p, ys, rfl, rfl, q, hl, h2 w2 H2 _ (Ext.refl _ _) hS2 (.v (.str _))⟩
          · exact h2.elim
        · exact h2.elim
    · exact h1.elim
theorem e_fmt (he : PE X e (rd (gX X T) W m)) : PE X (.FormattedValue e (-1) none pos) (rd (gX X T) W (eFmt m)) :=
  PE_imp (pe_fmt he) fun s H Q h => rd_bind (rel := RepV (gX X T)) (f := fun x e S1 => kFmt x S1) h fun w1 H1 S1 e v x hS hE hx h1 => by
    unfold kFmt at h1
    split at h1
    · rename_i y
      split at h1
      · rename_i hl
        cases hx with
        | v hx =>
          cases hx
          exact .inl ⟨y, rfl, line_of hl, h1 w1 H1 _ (Ext.refl _ _) hS (.v (.str _))⟩
      · exact h1.elim
    · rename_i i
      split at h1
      · rename_i hl
        cases hx with
        | v hx =>
          cases hx
          exact .inr ⟨i, rfl, hl, h1 w1 H1 _ (Ext.refl _ _) hS (.v (.str _))⟩
      · exact h1.elim
    · exact h1.elim
theorem js_rd : ∀ (ms : List EM) (acc : Str) (s : L2.St) (H : Hp) (Q : VK), rd (gX X T) W (eJs ms acc) s H Q → tJs (ms.map fun m => rd (gX X T) W m) acc s H fun out H1 => Q (.str out) H1
  | [], acc, s, H, Q, ⟨w, e, S, hS, hE, h⟩ => h w H _ (Ext.refl _ _) hS (.v (.str _))
  | m :: ms, acc, s, H, Q, h => rd_bind (rel := RepV (gX X T)) (m := m) (f := fun (x : Vl) (e : Sl) (S1 : Store) => match x with | .v (.str y) => if (acc ++ y).length ≤ 16777216 then eJs ms (acc ++ y) e S1 else .stuck | _ => .stuck) h fun w1 H1 S1 e v x hS hE hx h1 => by
    split at h1
    · rename_i y
      split at h1
      · rename_i hl
        cases hx with
        | v hx =>
          cases hx
          exact ⟨y, rfl, line_of hl, js_rd ms (acc ++ y) s H1 Q ⟨w1, e, S1, hS, hE, h1⟩⟩
      · exact h1.elim
    · exact h1.elim
theorem e_fs {v1 v2 : Expr} {rest : List Expr} {ms : List EM} (h : PJ X (v1 :: v2 :: rest) (ms.map fun m => rd (gX X T) W m)) : PE X (.JoinedStr (v1 :: v2 :: rest) pos) (rd (gX X T) W (eFs ms)) :=
  PE_imp (pe_joined h) fun s H Q q => js_rd ms Str.empty s H Q q
theorem j_nil : PJ X [] (([] : List EM).map fun m => rd (gX X T) W m) := .nil
theorem j_cons {es : List Expr} {ms : List EM} (h : PE X e (rd (gX X T) W m)) (h2 : PJ X es (ms.map fun m => rd (gX X T) W m)) : PJ X (e :: es) ((m :: ms).map fun m => rd (gX X T) W m) := .cons h h2
end
/-! the readings, step by step -/
section
variable {e : Sl} {S S1 S2 : Store} {ma mb : EM} {x : Vl} {o : Out Vl} {a acc y : Str} {ms : List EM} {i : Int}
theorem ev_join {ds : List D} {ys : List Str} (h1 : ma e S = .ok (.v (.str a)) S1) (h2 : mb e S1 = .ok x S2) (h3 : (qview S2 x).bind unv = some ds) (h4 : strsD ds = some ys) (h5 : (ys.map (·.length)).sum + ys.length * a.length ≤ 16777216) : eJoin ma mb e S = .ok (.v (.str (Txt.join a ys))) S2 := by
  unfold eJoin; rw [h1]; simp only [Out.bind]; rw [h2]; simp only [fJoin, h3, Option.bind_some, h4, if_pos h5]
theorem ev_fmtI (h1 : ma e S = .ok (.v (.int i)) S1) (h2 : i.natAbs.log2 < 1920) : eFmt ma e S = .ok (.v (.str (toString i))) S1 := by
  unfold eFmt; rw [h1]; simp only [Out.bind, kFmt, if_pos h2]
theorem ev_fmtS (h1 : ma e S = .ok (.v (.str y)) S1) (h2 : y.length ≤ 16777216) : eFmt ma e S = .ok (.v (.str y)) S1 := by
  unfold eFmt; rw [h1]; simp only [Out.bind, kFmt, if_pos h2]
theorem ev_js0 : eJs [] acc e S = .ok (.v (.str acc)) S := rfl
theorem ev_js (h1 : ma e S = .ok (.v (.str y)) S1) (h2 : (acc ++ y).length ≤ 16777216) (h3 : eJs ms (acc ++ y) e S1 = o) : eJs (ma :: ms) acc e S = o := by
  unfold eJs; rw [h1]; simp only [Out.bind, if_pos h2]; exact h3
end
end Ax
/-! Ax52: str(an int or a text) -/
namespace Ax
open PySem PySem.Spec PyProof.Rows L2
theorem callR_or {X : Cx} {f : Value} {r1 r2 : List V → Hp → VK → Prop} (h1 : CallR X f r1) (h2 : CallR X f r2) : CallR X f fun xs H Q => r1 xs H Q ∨ r2 xs H Q := by
  intro pins s σ H vs us Q I r h
  rcases h with h | h
  · exact h1 pins s σ H vs us Q I r h
  · exact h2 pins s σ H vs us Q I r h
def fStrS (xs : List Vl) (S : Store) : Out Vl := match xs with
  | [.v (.int i)] => if i.natAbs.log2 < 1920 then .ok (.v (.str (toString i))) S else .stuck
  | [.v (.str a)] => .ok (.v (.str a)) S
  | _ => .stuck
def rStrS : List V → Hp → VK → Prop := fun xs H Q => (∃ i, xs = [.int i] ∧ i.natAbs.log2 < 1920 ∧ Q (.str (toString i)) H) ∨ (∃ a, xs = [.str a] ∧ Q (.str a) H)
theorem cr_strS {X : Cx} : CallR X (.type "str") rStrS := callR_or call_str_int SkE.call_str_str
theorem fStrS_of {g : G} {W : WX} : CalD g W fStrS rStrS := by
  intro s w H S vs xs Q hS hx h
  unfold fStrS at h
  split at h
  · rename_i i
    split at h
    · rename_i hl
      cases hx with
      | cons h1 hx =>
        cases hx
        cases h1 with
        | v h1 =>
          cases h1
          exact .inl ⟨i, rfl, hl, h w H _ (Ext.refl _ _) hS (.v (.str _))⟩
    · exact h.elim
  · rename_i a
    cases hx with
    | cons h1 hx =>
      cases hx
      cases h1 with
      | v h1 =>
        cases h1
        exact .inr ⟨a, rfl, h w H _ (Ext.refl _ _) hS (.v (.str _))⟩
  · exact h.elim
end Ax
/-! Ax53: cells that nobody changes any more become data where they stand -/
namespace Ax
open PySem PySem.Spec PyProof.Rows L2
def killHi (k : Nat) (S : Store) : Store := S.take k ++ List.replicate (S.length - k) .dead
def sFrz (i : Nat) : SM := fun e S => match e[i]? with
  | some (some (.r k)) => (match S[k]? with
    | some _ => (match rsl (kill k S) 4 (.r k) with
      | some d => .go (.nx (e.set i (some (.v d)))) (killHi k S)
      | none => .stuck)
    | none => .stuck)
  | some (some (.v _)) => .go (.nx e) S
  | _ => .stuck
section
variable {g : G} {w : Wd} {H F' : Hp} {S : Store}
theorem killHi_at {k i : Nat} {c : Cel} (h : (killHi k S)[i]? = some c) (nd : c ≠ .dead) : i < k ∧ S[i]? = some c := by
  unfold killHi at h
  by_cases hi : i < (S.take k).length
  · rw [List.getElem?_append_left hi] at h
    have hk : i < k := by simp at hi; omega
    rw [List.getElem?_take_of_lt hk] at h
    exact ⟨hk, h⟩
  · rw [List.getElem?_append_right (by omega), List.getElem?_replicate] at h
    split at h
    · cases h; exact absurd rfl nd
    · cases h
def wFrzI (k : Nat) (w : Wd) (H : Hp) : Wd := ⟨w.p, frzF k w H⟩
theorem wFrzI_le {k : Nat} : WLe w (wFrzI k w H) := ⟨⟨[], by simp [wFrzI]⟩, frzF_hle⟩
theorem frzI_st (hS : RepSt g w H S) {k : Nat} (hl : k ≤ S.length) : RepSt g (wFrzI k w H) H (killHi k S) := by
  refine ⟨?_, hS.nd, fun a o h => ?_, fun i a c h1 h2 nd => ?_, fun i a c h1 h2 => ?_, hS.tabs, hS.tr, fun a o h => ?_⟩
  · show w.p.length = _
    unfold killHi
    rw [hS.len, List.length_append, List.length_take, List.length_replicate]; omega
  · rcases frzF_inv h with h | ⟨_, h⟩
    · exact hS.le _ _ h
    · exact h
  · obtain ⟨hi, h3⟩ := killHi_at h2 nd
    cases q : frzF k w H a with
    | none => exact q
    | some o =>
      rcases frzF_inv q with z | ⟨z, _⟩
      · rw [hS.out i a c h1 h3 nd] at z; cases z
      · obtain ⟨j, hj⟩ := List.mem_iff_getElem?.mp z
        rw [List.getElem?_drop] at hj
        have h1 : w.p[i]? = some a := h1
        have := (List.getElem?_inj (List.getElem?_eq_some_iff.mp h1).1 hS.nd).mp (h1.trans hj.symm)
        omega
  · by_cases nd : c = .dead
    · subst nd; trivial
    · obtain ⟨hi, h3⟩ := killHi_at h2 nd
      have q := hS.cel i a c h1 h3
      cases c with
      | lst xs => obtain ⟨vs, q1, q2⟩ := q; exact ⟨vs, q1, q2.le wFrzI_le⟩
      | dct ps => obtain ⟨vs, q1, q2⟩ := q; exact ⟨vs, q1, q2.le wFrzI_le⟩
      | dcn ps => obtain ⟨vs, q1, q2, q3⟩ := q; exact ⟨vs, q1, q2.le wFrzI_le, q3.le wFrzI_le⟩
      | ins c fs => obtain ⟨C, dx, vs, m, q1, q2⟩ := q; exact ⟨C, dx, vs, m, q1, q2.le wFrzI_le⟩
      | dead => trivial
  · rcases frzF_inv h with h | ⟨z, h⟩
    · exact hS.nt _ _ h
    · obtain ⟨u, q, nn⟩ := hS.tr a (List.mem_of_mem_drop z)
      rw [q] at h; cases h; exact nn
theorem frzI_ext {k : Nat} : Ext w H (wFrzI k w H) H := by
  refine ⟨⟨[], by simp [wFrzI]⟩, frzF_hle, fun _ _ h _ _ => h, fun a h => .inl h, fun a o h => ?_, fun a o h => ⟨o, h, id⟩⟩
  rcases frzF_inv h with h | ⟨z, _⟩
  · exact .inl ⟨o, h⟩
  · exact .inr (.inl (List.mem_of_mem_drop z))
theorem RepSl.setS {s : L2.St} {e : Sl} (h : RepSl g w s e) {i : Nat} {v : V} {x : Vl} (hv : s[i]? = some (some v)) (r : RepV g w v x) : RepSl g w s (e.set i (some x)) := by
  refine ⟨by simpa using h.len, fun j y q => ?_⟩
  by_cases hj : j = i
  · subst hj
    by_cases hl : j < e.length
    · rw [List.getElem?_set_self hl] at q
      cases q
      exact ⟨v, hv, r⟩
    · rw [List.getElem?_eq_none (by simpa using hl)] at q; cases q
  · rw [List.getElem?_set_ne (Ne.symm hj)] at q
    exact h.at_ j y q
end
section
variable {X : Cx} {T : List (Addr × Str)} {W : WX} {b : SM} {rest : List Stmt}
theorem ss_frz {i : Nat} (hb : PSs X rest (rdS (gX X T) W b)) : PSs X rest (rdS (gX X T) W (sSeq (sFrz i) b)) :=
  PSs_imp hb fun E s H ⟨w, e, S, hS, hE, h⟩ => by
    unfold sSeq sFrz at h
    cases he : e[i]? with
    | none => rw [he] at h; exact h.elim
    | some o =>
      cases o with
      | none => rw [he] at h; exact h.elim
      | some x =>
        cases x with
        | v d => rw [he] at h; exact ⟨w, e, S, hS, hE, h⟩
        | r k =>
          rw [he] at h
          simp only at h
          cases hk : S[k]? with
          | none => rw [hk] at h; exact h.elim
          | some c =>
            rw [hk] at h
            simp only at h
            cases hd : rsl (kill k S) 4 (.r k) with
            | none => rw [hd] at h; exact h.elim
            | some d =>
              rw [hd] at h
              have hl : k ≤ S.length := Nat.le_of_lt (List.getElem?_eq_some_iff.mp hk).1
              obtain ⟨v, hv, r⟩ := hE.at_ i _ he
              exact ⟨wFrzI k w H, _, _, frzI_st hS hl, (hE.le wFrzI_le).setS hv (.v (rsl_repF (hS.kill hl) (frzAt hS hl) 4 r hd)), SatS.ext (o := b (e.set i (some (.v d))) (killHi k S)) h frzI_ext⟩
end
section
variable {i k : Nat} {e : Sl} {S : Store} {b : SM} {o : OutS} {d : D} {c : Cel}
theorem p_frz (h1 : e[i]? = some (some (.r k))) (h2 : S[k]? = some c) (h3 : rsl (kill k S) 4 (.r k) = some d) (h4 : b (e.set i (some (.v d))) (killHi k S) = o) : sSeq (sFrz i) b e S = o := by
  unfold sSeq sFrz
  rw [h1]; simp only [h2, h3]; exact h4
end
end Ax
namespace Lawk40
open PySem PySem.Spec PyProof.Rows L2 Ax
def hs__law_heard : List (Str × Str) := [("BadCounts", "counts"), ("BadTable", "table")]

def m_is_integer : SM := sRet (eAnd (eB fIsi (aCons (eVar 0) (aCons (eC (.ty "int")) (aNil)))) (eNot (eB fIsi (aCons (eVar 0) (aCons (eC (.ty "bool")) (aNil))))))

abbrev is_integer : List D → R := runP 1 1 m_is_integer

abbrev is_integer_K : List Vl → Store → Out Vl := runK 1 1 m_is_integer

def m_is_within : SM := sRet (eAnd (eCallP is_integer (aCons (eVar 0) (aNil))) (eChain fLe fLe (eVar 1) (eVar 0) (eVar 2)))

abbrev is_within : List D → R := runP 3 3 m_is_within

abbrev is_within_K : List Vl → Store → Out Vl := runK 3 3 m_is_within

def m_is_row : SM := sRet (eB fIsi (aCons (eVar 0) (aCons (eTup (aCons (eC (.ty "list")) (aCons (eC (.ty "tuple")) (aNil)))) (aNil))))

abbrev is_row : List D → R := runP 1 1 m_is_row

abbrev is_row_K : List Vl → Store → Out Vl := runK 1 1 m_is_row

abbrev h1_are_counts : EM := eLcX kLst (iSeq (eVar 0)) (gNm 1) (tmYes) (eCallP is_within (aCons (eVar 1) (aCons (eC (.int 0)) (aCons (eC (.int 12)) (aNil))))) [1]

def m_are_counts : SM := sSeq (sIf (tmOr (tmNot (tTru (eCallP is_row (aCons (eVar 0) (aNil))))) (tmNot (tBl (eChain fLe fLe (eC (.int 2)) (eB fLen (aCons (eVar 0) (aNil))) (eC (.int 4)))))) (sRet (eC (.bl false))) (sNil)) (sRet (eAnd (eB fAll (aCons (h1_are_counts) (aNil))) (eBin fLe (eB fSumA (aCons (eVar 0) (aNil))) (eC (.int 12)))))

abbrev are_counts : List D → R := runP 2 1 m_are_counts

abbrev are_counts_K : List Vl → Store → Out Vl := runK 2 1 m_are_counts

def m_check_counts : SM := sSeq (sIf (tmNot (tTru (eCallP are_counts (aCons (eVar 0) (aNil))))) (sRaise1 "BadCounts" "value" (aCons (eVar 0) (aNil))) (sNil)) (sIf (tmOr (tmNot (tTru (eCallP are_counts (aCons (eVar 1) (aNil))))) (tmOr (tBl (eBin fNe (eB fLen (aCons (eVar 1) (aNil))) (eB fLen (aCons (eVar 0) (aNil))))) (tBl (eBin fNe (eB fSumA (aCons (eVar 1) (aNil))) (eB fSumA (aCons (eVar 0) (aNil))))))) (sRaise1 "BadCounts" "value" (aCons (eVar 1) (aNil))) (sNil))

abbrev check_counts : List D → R := runP 2 2 m_check_counts

abbrev check_counts_K : List Vl → Store → Out Vl := runK 2 2 m_check_counts

abbrev h1_is_right : EM := eLcX kLst (iSeq (eVar 3)) (gNm 5) (tmYes) (eCallP is_within (aCons (eVar 5) (aCons (eC (.int 0)) (aCons (eC (.int 12)) (aNil))))) [5]

abbrev b1_is_right : SM := sSeq (sIf (tmOr (tmNot (tTru (eB fIsi (aCons (eVar 3) (aCons (eC (.ty "tuple")) (aNil)))))) (tBl (eBin fNe (eB fLen (aCons (eVar 3) (aNil))) (eB fLen (aCons (eVar 0) (aNil)))))) (sRet (eC (.bl false))) (sNil)) (sIf (tmNot (tTru (eB fAll (aCons (h1_is_right) (aNil))))) (sRet (eC (.bl false))) (sNil))

abbrev h2_is_right : SM := sFor (iSeq (eVar 2)) (gNm 3) (b1_is_right) []

abbrev h3_is_right : EM := eLcX kLst (iSeq (eVar 2)) (gNm 3) (tmYes) (eB fSumA (aCons (eVar 3) (aNil))) [3]

abbrev h4_is_right : EM := eLcX kLst (iSeq (eVar 2)) (gNm 3) (tmYes) (eBin fIx (eVar 3) (eVar 4)) [3]

abbrev h5_is_right : EM := eLcX kLst (iRn1 (aCons (eB fLen (aCons (eVar 1) (aNil))) (aNil))) (gNm 4) (tmYes) (eB fSumA (aCons (h4_is_right) (aNil))) [4]

def m_is_right : SM := sSeq (sIf (tmOr (tmNot (tTru (eB fIsi (aCons (eVar 2) (aCons (eC (.ty "tuple")) (aNil)))))) (tBl (eBin fNe (eB fLen (aCons (eVar 2) (aNil))) (eB fLen (aCons (eVar 0) (aNil)))))) (sRet (eC (.bl false))) (sNil)) (sSeq (h2_is_right) (sSeq (sIf (tBl (eBin fNe (h3_is_right) (eB (fList kLst) (aCons (eVar 0) (aNil))))) (sRet (eC (.bl false))) (sNil)) (sRet (eBin fEq (h5_is_right) (eB (fList kLst) (aCons (eVar 1) (aNil)))))))

abbrev is_right : List D → R := runP 6 3 m_is_right

abbrev is_right_K : List Vl → Store → Out Vl := runK 6 3 m_is_right

def m_is_table : SM := sSeq (sExpr (eCallP check_counts (aCons (eVar 0) (aCons (eVar 1) (aNil))))) (sRet (eCallP is_right (aCons (eVar 0) (aCons (eVar 1) (aCons (eVar 2) (aNil))))))

abbrev is_table : List D → R := runP 3 3 m_is_table

abbrev is_table_K : List Vl → Store → Out Vl := runK 3 3 m_is_table

abbrev h1_movers_of : EM := eLc2X kLst (iEnm 0 (aCons (eVar 0) (aNil))) (gTp 2 (gsCons (gNm 1) (gsCons (gNm 2) (gsNil)))) (tmYes) (iEnm 0 (aCons (eVar 2) (aNil))) (gTp 2 (gsCons (gNm 3) (gsCons (gNm 4) (gsNil)))) (tBl (eBin fNe (eVar 3) (eVar 1))) (eVar 4) [1, 2, 3, 4] [3, 4]

def m_movers_of : SM := sRet (eB fSumA (aCons (h1_movers_of) (aNil)))

abbrev movers_of : List D → R := runP 5 1 m_movers_of

abbrev movers_of_K : List Vl → Store → Out Vl := runK 5 1 m_movers_of

def m_movers : SM := sSeq (sExpr (eCallP check_counts (aCons (eVar 0) (aCons (eVar 1) (aNil))))) (sSeq (sIf (tmNot (tTru (eCallP is_right (aCons (eVar 0) (aCons (eVar 1) (aCons (eVar 2) (aNil))))))) (sRaise1 "BadTable" "value" (aCons (eVar 2) (aNil))) (sNil)) (sRet (eCallP movers_of (aCons (eVar 2) (aNil)))))

abbrev movers : List D → R := runP 3 3 m_movers

abbrev movers_K : List Vl → Store → Out Vl := runK 3 3 m_movers

def m__law_taken : SM := sSeq (sIf (tBl (eBin fGt (eBin fIx (eVar 0) (eC (.int 3))) (eC (.int 0)))) (sSeq (sAsg (gNm 2) (eBin fMod (eB fInt1 (aCons (eBin fIx (eVar 0) (eC (.int 3))) (aNil))) (eVar 1))) (sSeq (sSetIx (eVar 0) (eC (.int 3)) (eBin fDiv (eBin fIx (eVar 0) (eC (.int 3))) (eVar 1))) (sRet (eVar 2)))) (sNil)) (sSeq (sSetIx (eVar 0) (eC (.int 1)) (eBin fAdd (eBin fIx (eVar 0) (eC (.int 1))) (eC (.int 1)))) (sSeq (sIf (tBl (eBin fGt (eBin fIx (eVar 0) (eC (.int 1))) (eB fLen (aCons (eBin fIx (eVar 0) (eC (.int 0))) (aNil))))) (sSeq (sSetIx (eVar 0) (eC (.int 2)) (eBin fMod (eB fInt1 (aCons (eBin fAdd (eBin fMul (eBin fIx (eVar 0) (eC (.int 2))) (eC (.int 48271))) (eC (.int 11))) (aNil))) (eC (.int 2147483647)))) (sRet (eBin fMod (eB fInt1 (aCons (eBin fDiv (eBin fIx (eVar 0) (eC (.int 2))) (eC (.int 7))) (aNil))) (eVar 1)))) (sNil)) (sSeq (sAsg (gNm 3) (eBin fIx (eBin fIx (eVar 0) (eC (.int 0))) (eBin fSub (eBin fIx (eVar 0) (eC (.int 1))) (eC (.int 1))))) (sSeq (sSetIx (eVar 0) (eC (.int 2)) (eBin fMod (eB fInt1 (aCons (eBin fAdd (eBin fAdd (eBin fMul (eBin fIx (eVar 0) (eC (.int 2))) (eC (.int 48271))) (eVar 3)) (eC (.int 11))) (aNil))) (eC (.int 2147483647)))) (sSeq (sIf (tBl (eBin fGe (eVar 3) (eBin fPow (eC (.int 10)) (eC (.int 18))))) (sSetIx (eVar 0) (eC (.int 3)) (eBin fDiv (eVar 3) (eVar 1))) (sNil)) (sRet (eBin fMod (eB fInt1 (aCons (eVar 3) (aNil))) (eVar 1))))))))

abbrev _law_taken_K : List Vl → Store → Out Vl := runK 4 2 m__law_taken

def m__law_pick : SM := sRet (eBin fIx (eVar 1) (eCallK _law_taken_K (aCons (eVar 0) (aCons (eB fLen (aCons (eVar 1) (aNil))) (aNil)))))

abbrev _law_pick_K : List Vl → Store → Out Vl := runK 2 2 m__law_pick

abbrev h1__law_alike (_law_alike_n : List D → R) : EM := eLcX kLst (iRn1 (aCons (eB fLen (aCons (eVar 1) (aNil))) (aNil))) (gNm 2) (tmNot (tTru (eCallP _law_alike_n (aCons (eBin fIx (eVar 0) (eVar 2)) (aCons (eBin fIx (eVar 1) (eVar 2)) (aNil)))))) (eVar 2) [2]

abbrev h2__law_alike (_law_alike_n : List D → R) : EM := eLcD kLst 1 (gNm 3) (tmNot (tTru (eCallP _law_alike_n (aCons (eBin fIx (eVar 0) (eVar 3)) (aCons (eBin fIx (eVar 1) (eVar 3)) (aNil)))))) (eVar 3) [3]

def m__law_alike (_law_alike_n : List D → R) : SM := sSeq (sIf (tTru (eB fIsi (aCons (eVar 1) (aCons (eTup (aCons (eC (.ty "tuple")) (aCons (eC (.ty "list")) (aNil)))) (aNil))))) (sSeq (sIf (tmOr (tmNot (tTru (eB fIsi (aCons (eVar 0) (aCons (eTup (aCons (eC (.ty "tuple")) (aCons (eC (.ty "list")) (aNil)))) (aNil)))))) (tBl (eBin fNe (eB fIsi (aCons (eVar 0) (aCons (eC (.ty "list")) (aNil)))) (eB fIsi (aCons (eVar 1) (aCons (eC (.ty "list")) (aNil))))))) (sRet (eC (.bl false))) (sNil)) (sSeq (sIf (tBl (eBin fNe (eB fLen (aCons (eVar 0) (aNil))) (eB fLen (aCons (eVar 1) (aNil))))) (sRet (eC (.bl false))) (sNil)) (sRet (eBin fEq (h1__law_alike _law_alike_n) (eLst (aNil)))))) (sNil)) (sSeq (sIf (tTru (eB fIsi (aCons (eVar 1) (aCons (eC (.ty "dict")) (aNil))))) (sSeq (sIf (tmOr (tmNot (tTru (eB fIsi (aCons (eVar 0) (aCons (eC (.ty "dict")) (aNil)))))) (tBl (eBin fNe (eB (fList kLst) (aCons (eVar 0) (aNil))) (eB (fList kLst) (aCons (eVar 1) (aNil)))))) (sRet (eC (.bl false))) (sNil)) (sRet (eBin fEq (h2__law_alike _law_alike_n) (eLst (aNil))))) (sNil)) (sSeq (sIf (tmOr (tBl (eBin (fIsN false) (eVar 1) (eC .non))) (tTru (eB fIsi (aCons (eVar 1) (aCons (eC (.ty "str")) (aNil)))))) (sRet (eAnd (eBin fEq (eVar 0) (eVar 1)) (eBin fEq (eB fIsi (aCons (eVar 0) (aCons (eC (.ty "str")) (aNil)))) (eB fIsi (aCons (eVar 1) (aCons (eC (.ty "str")) (aNil))))))) (sNil)) (sRet (eAnd (eB fIsi (aCons (eVar 0) (aCons (eC (.ty "int")) (aNil)))) (eAnd (eBin fEq (eB fIsi (aCons (eVar 0) (aCons (eC (.ty "bool")) (aNil)))) (eB fIsi (aCons (eVar 1) (aCons (eC (.ty "bool")) (aNil))))) (eBin fEq (eVar 0) (eVar 1)))))))
def _law_alike_f : Nat → List D → R
  | 0 => fun _ => .stuck
  | n + 1 => runP 4 2 (m__law_alike (_law_alike_f n))

abbrev _law_alike : List D → R := _law_alike_f 6

abbrev h1__law_movers : EM := eLcX kLst (iRn1 (aCons (eB fLen (aCons (eVar 0) (aNil))) (aNil))) (gNm 1) (tmYes) (eBin fSub (eB fSumA (aCons (eBin fIx (eVar 0) (eVar 1)) (aNil))) (eBin fIx (eBin fIx (eVar 0) (eVar 1)) (eVar 1))) [1]

def m__law_movers : SM := sRet (eB fSumA (aCons (h1__law_movers) (aNil)))

abbrev _law_movers : List D → R := runP 2 1 m__law_movers

abbrev _law_movers_K : List Vl → Store → Out Vl := runK 2 1 m__law_movers

abbrev h1__law_is_table : EM := eLcX kLst (iSeq (eBin fIx (eVar 2) (eVar 3))) (gNm 4) (tmOr (tmNot (tTru (eB fIsi (aCons (eVar 4) (aCons (eC (.ty "int")) (aNil)))))) (tmOr (tTru (eB fIsi (aCons (eVar 4) (aCons (eC (.ty "bool")) (aNil))))) (tBl (eBin fLt (eVar 4) (eC (.int 0)))))) (eVar 4) [4]

abbrev b1__law_is_table : SM := sSeq (sIf (tmOr (tmNot (tTru (eB fIsi (aCons (eBin fIx (eVar 2) (eVar 3)) (aCons (eC (.ty "tuple")) (aNil)))))) (tBl (eBin fNe (eB fLen (aCons (eBin fIx (eVar 2) (eVar 3)) (aNil))) (eB fLen (aCons (eVar 0) (aNil)))))) (sRet (eC (.bl false))) (sNil)) (sIf (tmOr (tBl (eBin fNe (h1__law_is_table) (eLst (aNil)))) (tBl (eBin fNe (eB fSumA (aCons (eBin fIx (eVar 2) (eVar 3)) (aNil))) (eBin fIx (eVar 0) (eVar 3))))) (sRet (eC (.bl false))) (sNil))

abbrev h2__law_is_table : SM := sFor (iRn1 (aCons (eB fLen (aCons (eVar 0) (aNil))) (aNil))) (gNm 3) (b1__law_is_table) []

abbrev h3__law_is_table : EM := eLcX kLst (iSeq (eVar 2)) (gNm 5) (tmYes) (eBin fIx (eVar 5) (eVar 3)) [5]

abbrev h4__law_is_table : EM := eLcX kLst (iRn1 (aCons (eB fLen (aCons (eVar 1) (aNil))) (aNil))) (gNm 3) (tBl (eBin fNe (eB fSumA (aCons (h3__law_is_table) (aNil))) (eBin fIx (eVar 1) (eVar 3)))) (eVar 3) [3]

def m__law_is_table : SM := sSeq (sIf (tmOr (tmNot (tTru (eB fIsi (aCons (eVar 2) (aCons (eC (.ty "tuple")) (aNil)))))) (tBl (eBin fNe (eB fLen (aCons (eVar 2) (aNil))) (eB fLen (aCons (eVar 0) (aNil)))))) (sRet (eC (.bl false))) (sNil)) (sSeq (h2__law_is_table) (sRet (eBin fEq (h4__law_is_table) (eLst (aNil)))))

abbrev _law_is_table : List D → R := runP 6 3 m__law_is_table

abbrev _law_is_table_K : List Vl → Store → Out Vl := runK 6 3 m__law_is_table

abbrev b1__law_drawn : SM := sExpr (eMth isL fApp (eVar 3) (aCons (eBin (fMulL kLstC) (eLst (aCons (eC (.int 0)) (aNil))) (eVar 1)) (aNil)))

abbrev h1__law_drawn : SM := sFor (iRn1 (aCons (eVar 1) (aNil))) (gNm 4) (b1__law_drawn) []

abbrev b2__law_drawn : SM := sSeq (sAsg (gNm 5) (eBin fIx (eVar 3) (eCallK _law_taken_K (aCons (eVar 0) (aCons (eVar 1) (aNil)))))) (sAugIx fPlus (eVar 5) (eCallK _law_taken_K (aCons (eVar 0) (aCons (eVar 1) (aNil)))) (eC (.int 1)))

abbrev h2__law_drawn : SM := sFor (iRn1 (aCons (eCallK _law_taken_K (aCons (eVar 0) (aCons (eBin fAdd (eVar 2) (eC (.int 1))) (aNil)))) (aNil))) (gNm 4) (b2__law_drawn) []

abbrev h3__law_drawn : EM := eLcX kLst (iSeq (eVar 3)) (gNm 5) (tmYes) (eB fTuple (aCons (eVar 5) (aNil))) [5]

abbrev h4__law_drawn : EM := eLcX kLst (iSeq (eVar 3)) (gNm 5) (tmYes) (eBin fIx (eVar 5) (eVar 4)) [5]

abbrev h5__law_drawn : EM := eLcX kLst (iRn1 (aCons (eVar 1) (aNil))) (gNm 4) (tmYes) (eB fSumA (aCons (h4__law_drawn) (aNil))) [4]

abbrev h6__law_drawn : EM := eLcX kLst (iSeq (eVar 3)) (gNm 5) (tmYes) (eB fSumA (aCons (eVar 5) (aNil))) [5]

def m__law_drawn : SM := sSeq (sAsg (gNm 3) (eLstC (aNil))) (sSeq (h1__law_drawn) (sSeq (h2__law_drawn) (sSeq (sFrz 3) (sRet (eTup (aCons (h6__law_drawn) (aCons (h5__law_drawn) (aCons (eB fTuple (aCons (h3__law_drawn) (aNil))) (aNil)))))))))

abbrev _law_drawn_K : List Vl → Store → Out Vl := runK 6 3 m__law_drawn

abbrev h1__law_changed : EM := eLcX kLst (iSeq (eLst (aCons (eBin fAdd (eBin fIx (eVar 4) (eVar 3)) (eC (.int 1))) (aCons (eBin fSub (eBin fIx (eVar 4) (eVar 3)) (eC (.int 1))) (aCons (eC (.bl true)) (aCons (eC .non) (aCons (eB fStrS (aCons (eBin fIx (eVar 4) (eVar 3)) (aNil))) (aNil)))))))) (gNm 7) (tmYes) (eBin fAdd (eBin fAdd (eSl kLst (eVar 4) (oNone) (oSome (eVar 3))) (eTup (aCons (eVar 7) (aNil)))) (eSl kLst (eVar 4) (oSome (eBin fAdd (eVar 3) (eC (.int 1)))) (oNone))) [7]

def m__law_changed : SM := sSeq (sAsg (gTp 2 (gsCons (gNm 2) (gsCons (gNm 3) (gsNil)))) (eTup (aCons (eCallK _law_taken_K (aCons (eVar 0) (aCons (eB fLen (aCons (eVar 1) (aNil))) (aNil)))) (aCons (eCallK _law_taken_K (aCons (eVar 0) (aCons (eB fLen (aCons (eVar 1) (aNil))) (aNil)))) (aNil))))) (sSeq (sAsg (gNm 4) (eBin fIx (eVar 1) (eVar 2))) (sSeq (sAsg (gNm 5) (h1__law_changed)) (sSeq (sAsg (gNm 5) (eBin fAdd (eVar 5) (eLst (aCons (eRevT kLst (eVar 4)) (aCons (eB (fList kLst) (aCons (eVar 4) (aNil))) (aCons (eSl kLst (eVar 4) (oNone) (oSome (eUn fNeg (eC (.int 1))))) (aCons (eBin fAdd (eVar 4) (eTup (aCons (eC (.int 0)) (aNil)))) (aCons (eC .non) (aCons (eBin fMulT (eTup (aCons (eC (.int 0)) (aNil))) (eB fLen (aCons (eVar 4) (aNil)))) (aNil)))))))))) (sSeq (sAsg (gNm 6) (eBin fAdd (eBin fAdd (eSl kLst (eVar 1) (oNone) (oSome (eVar 2))) (eTup (aCons (eCallK _law_pick_K (aCons (eVar 0) (aCons (eVar 5) (aNil)))) (aNil)))) (eSl kLst (eVar 1) (oSome (eBin fAdd (eVar 2) (eC (.int 1)))) (oNone)))) (sRet (eCallK _law_pick_K (aCons (eVar 0) (aCons (eLst (aCons (eVar 6) (aCons (eVar 6) (aCons (eVar 6) (aCons (eRevT kLst (eVar 1)) (aCons (eB (fList kLst) (aCons (eVar 1) (aNil))) (aCons (eSl kLst (eVar 1) (oNone) (oSome (eUn fNeg (eC (.int 1))))) (aCons (eBin fAdd (eVar 1) (eSl kLst (eVar 1) (oSome (eUn fNeg (eC (.int 1)))) (oNone))) (aNil))))))))) (aNil)))))))))

abbrev _law_changed_K : List Vl → Store → Out Vl := runK 8 2 m__law_changed

def tb_law : FTab := fun c => if c = "is_table" then some is_table else if c = "movers" then some movers else none

abbrev b1_law : SM := sSeq (sAsg (gNm 9) (eCallK _law_changed_K (aCons (eVar 1) (aCons (eVar 5) (aNil))))) (sSeq (sAsg (gNm 10) (eCallP _law_is_table (aCons (eVar 3) (aCons (eVar 4) (aCons (eVar 9) (aNil)))))) (sSeq (sIf (tmNot (tTru (eCallP _law_alike (aCons (eCallP is_table (aCons (eB fTuple (aCons (eVar 3) (aNil))) (aCons (eVar 4) (aCons (eVar 9) (aNil))))) (aCons (eVar 10) (aNil)))))) (sRet (eC (.bl false))) (sNil)) (sSeq (sIf (tmNot (tTru (eCallP _law_alike (aCons (eHeard hs__law_heard (eCallP movers (aCons (eVar 3) (aCons (eVar 4) (aCons (eVar 9) (aNil)))))) (aCons (eIf (tTru (eVar 10)) (eTup (aNil)) (eTup (aCons (eC (.str "table")) (aCons (eVar 9) (aCons (eC (.bl true)) (aNil)))))) (aNil)))))) (sRet (eC (.bl false))) (sNil)) (sIf (tmAnd (tTru (eVar 10)) (tmNot (tTru (eCallP _law_alike (aCons (eCallP movers (aCons (eVar 3) (aCons (eVar 4) (aCons (eVar 9) (aNil))))) (aCons (eCallP _law_movers (aCons (eVar 9) (aNil))) (aNil))))))) (sRet (eC (.bl false))) (sNil)))))

abbrev h1_law : SM := sFor (iRn1 (aCons (eC (.int 6)) (aNil))) (gNm 8) (b1_law) [8, 9, 10]

abbrev b2_law : SM := sIf (tmNot (tTru (eCallP _law_alike (aCons (eCallP is_table (aCons (eVar 3) (aCons (eVar 4) (aCons (eVar 11) (aNil))))) (aCons (eC (.bl false)) (aNil)))))) (sRet (eC (.bl false))) (sNil)

abbrev h2_law : SM := sFor (iSeq (eLst (aCons (eC .non) (aCons (eC (.int 5)) (aCons (eC (.str "x")) (aCons (eLst (aNil)) (aCons (eTup (aNil)) (aCons (eDct0 kDct) (aCons (eC (.bl true)) (aNil)))))))))) (gNm 11) (b2_law) [11]

abbrev h3_law : EM := eLcX kLst (iSeq (eVar 4)) (gNm 15) (tmYes) (eBin fAdd (eVar 15) (eC (.int 1))) [15]

abbrev b3_law : SM := sSeq (sIf (tmNot (tTru (eCallP _law_alike (aCons (eHeard hs__law_heard (eCallV tb_law 14 (aCons (eVar 12) (aCons (eVar 13) (aCons (eC .non) (aNil)))))) (aCons (eTup (aCons (eC (.str "counts")) (aCons (eVar 12) (aCons (eC (.bl true)) (aNil))))) (aNil)))))) (sRet (eC (.bl false))) (sNil)) (sIf (tmNot (tTru (eCallP _law_alike (aCons (eHeard hs__law_heard (eCallV tb_law 14 (aCons (eVar 3) (aCons (eVar 13) (aCons (eC .non) (aNil)))))) (aCons (eTup (aCons (eC (.str "counts")) (aCons (eVar 13) (aCons (eC (.bl true)) (aNil))))) (aNil)))))) (sRet (eC (.bl false))) (sNil))

abbrev h4_law : SM := sFor (iSeq (eLst (aCons (eC (.fn "is_table")) (aCons (eC (.fn "movers")) (aNil))))) (gNm 14) (b3_law) [14]

def m_law : SM := sSeq (sAsg (gNm 1) (eLstC (aCons (eVar 0) (aCons (eC (.int 0)) (aCons (eC (.int 16176040)) (aCons (eC (.int 0)) (aNil))))))) (sSeq (sAsg (gNm 2) (eBin fAdd (eC (.int 2)) (eCallK _law_taken_K (aCons (eVar 1) (aCons (eC (.int 3)) (aNil)))))) (sSeq (sAsg (gTp 3 (gsCons (gNm 3) (gsCons (gNm 4) (gsCons (gNm 5) (gsNil))))) (eCallKF _law_drawn_K (aCons (eVar 1) (aCons (eVar 2) (aCons (eC (.int 12)) (aNil)))))) (sSeq (sPar 6 7 (aCons (eB (fList kLst) (aCons (eVar 3) (aNil))) (aCons (eB (fList kLst) (aCons (eVar 4) (aNil))) (aNil)))) (sSeq (sIf (tmOr (tmNot (tTru (eCallP _law_alike (aCons (eCallP is_table (aCons (eVar 3) (aCons (eVar 4) (aCons (eVar 5) (aNil))))) (aCons (eC (.bl true)) (aNil)))))) (tmNot (tTru (eCallP _law_alike (aCons (eCallP movers (aCons (eVar 3) (aCons (eB fTuple (aCons (eVar 4) (aNil))) (aCons (eVar 5) (aNil))))) (aCons (eCallP _law_movers (aCons (eVar 5) (aNil))) (aNil))))))) (sRet (eC (.bl false))) (sNil)) (sSeq (h1_law) (sSeq (h2_law) (sSeq (sAsg (gNm 12) (eCallK _law_pick_K (aCons (eVar 1) (aCons (eLst (aCons (eC .non) (aCons (eC (.int 5)) (aCons (eLst (aCons (eC (.int 1)) (aNil))) (aCons (eBin fMul (eLst (aCons (eC (.int 1)) (aNil))) (eC (.int 5))) (aCons (eLst (aCons (eC (.int 13)) (aCons (eC (.int 0)) (aNil)))) (aCons (eLst (aCons (eUn fNeg (eC (.int 1))) (aCons (eC (.int 1)) (aNil)))) (aCons (eLst (aCons (eC (.bl true)) (aCons (eC (.int 0)) (aNil)))) (aCons (eTup (aCons (eC (.int 7)) (aCons (eC (.int 6)) (aNil)))) (aCons (eDct0 kDct) (aCons (eC (.str "12")) (aCons (eLst (aCons (eC (.int 1)) (aCons (eC .non) (aNil)))) (aCons (eLst (aCons (eC (.str "1")) (aCons (eC (.int 0)) (aNil)))) (aNil)))))))))))))) (aNil))))) (sSeq (sAsg (gNm 13) (eCallK _law_pick_K (aCons (eVar 1) (aCons (eLst (aCons (eVar 12) (aCons (eBin fAdd (eVar 3) (eLst (aCons (eC (.int 0)) (aNil)))) (aCons (eBin fAdd (eSl kLst (eVar 3) (oNone) (oSome (eUn fNeg (eC (.int 1))))) (eLst (aCons (eBin fAdd (eBin fIx (eVar 3) (eUn fNeg (eC (.int 1)))) (eC (.int 1))) (aNil)))) (aCons (h3_law) (aNil)))))) (aNil))))) (sSeq (h4_law) (sRet (eAnd (eBin fEq (eVar 3) (eVar 6)) (eBin fEq (eVar 4) (eVar 7)))))))))))))

abbrev law : List D → R := runP 16 1 m_law

abbrev law_K : List Vl → Store → Out Vl := runK 16 1 m_law

end Lawk40
namespace Lawk40
open PySem PySem.Spec PyProof.Rows L2 Ax
def top (i : Nat) : Stmt := PySem.Challenge.pw_askedtown_k40_move_tables.main.body.getD i (.Pass ⟨0, 0, 0, 0⟩)
abbrev s_is_integer : Stmt := top 5
abbrev n_is_integer : List Str := ["thing"]
theorem sc_is_integer : FnScope n_is_integer ["thing"] (defScope s_is_integer) := ⟨rfl, rfl, rfl, by decide +kernel, rfl, by decide +kernel, by decide +kernel⟩
abbrev s_is_within : Stmt := top 6
abbrev n_is_within : List Str := ["thing", "least", "most"]
theorem sc_is_within : FnScope n_is_within ["thing", "least", "most"] (defScope s_is_within) := ⟨rfl, rfl, rfl, by decide +kernel, rfl, by decide +kernel, by decide +kernel⟩
abbrev s_is_row : Stmt := top 7
abbrev n_is_row : List Str := ["thing"]
theorem sc_is_row : FnScope n_is_row ["thing"] (defScope s_is_row) := ⟨rfl, rfl, rfl, by decide +kernel, rfl, by decide +kernel, by decide +kernel⟩
abbrev s_are_counts : Stmt := top 12
abbrev n_are_counts : List Str := ["thing", "one"]
theorem sc_are_counts : FnScope n_are_counts ["thing"] (defScope s_are_counts) := ⟨rfl, rfl, rfl, by decide +kernel, rfl, by decide +kernel, by decide +kernel⟩
abbrev s_check_counts : Stmt := top 13
abbrev n_check_counts : List Str := ["before", "after"]
theorem sc_check_counts : FnScope n_check_counts ["before", "after"] (defScope s_check_counts) := ⟨rfl, rfl, rfl, by decide +kernel, rfl, by decide +kernel, by decide +kernel⟩
abbrev s_is_right : Stmt := top 14
abbrev n_is_right : List Str := ["before", "after", "thing", "row", "at", "one"]
theorem sc_is_right : FnScope n_is_right ["before", "after", "thing"] (defScope s_is_right) := ⟨rfl, rfl, rfl, by decide +kernel, rfl, by decide +kernel, by decide +kernel⟩
abbrev s_is_table : Stmt := top 15
abbrev n_is_table : List Str := ["before", "after", "thing"]
theorem sc_is_table : FnScope n_is_table ["before", "after", "thing"] (defScope s_is_table) := ⟨rfl, rfl, rfl, by decide +kernel, rfl, by decide +kernel, by decide +kernel⟩
abbrev s_movers_of : Stmt := top 16
abbrev n_movers_of : List Str := ["table", "at", "row", "there", "much"]
theorem sc_movers_of : FnScope n_movers_of ["table"] (defScope s_movers_of) := ⟨rfl, rfl, rfl, by decide +kernel, rfl, by decide +kernel, by decide +kernel⟩
abbrev s_movers : Stmt := top 17
abbrev n_movers : List Str := ["before", "after", "table"]
theorem sc_movers : FnScope n_movers ["before", "after", "table"] (defScope s_movers) := ⟨rfl, rfl, rfl, by decide +kernel, rfl, by decide +kernel, by decide +kernel⟩
abbrev s__law_taken : Stmt := top 19
abbrev n__law_taken : List Str := ["row", "many", "found", "cell"]
theorem sc__law_taken : FnScope n__law_taken ["row", "many"] (defScope s__law_taken) := ⟨rfl, rfl, rfl, by decide +kernel, rfl, by decide +kernel, by decide +kernel⟩
abbrev s__law_pick : Stmt := top 20
abbrev n__law_pick : List Str := ["row", "some"]
theorem sc__law_pick : FnScope n__law_pick ["row", "some"] (defScope s__law_pick) := ⟨rfl, rfl, rfl, by decide +kernel, rfl, by decide +kernel, by decide +kernel⟩
abbrev s__law_alike : Stmt := top 21
abbrev n__law_alike : List Str := ["found", "due", "k", "key"]
theorem sc__law_alike : FnScope n__law_alike ["found", "due"] (defScope s__law_alike) := ⟨rfl, rfl, rfl, by decide +kernel, rfl, by decide +kernel, by decide +kernel⟩
abbrev s__law_movers : Stmt := top 22
abbrev n__law_movers : List Str := ["table", "k"]
theorem sc__law_movers : FnScope n__law_movers ["table"] (defScope s__law_movers) := ⟨rfl, rfl, rfl, by decide +kernel, rfl, by decide +kernel, by decide +kernel⟩
abbrev s__law_is_table : Stmt := top 23
abbrev n__law_is_table : List Str := ["before", "after", "thing", "k", "one", "row"]
theorem sc__law_is_table : FnScope n__law_is_table ["before", "after", "thing"] (defScope s__law_is_table) := ⟨rfl, rfl, rfl, by decide +kernel, rfl, by decide +kernel, by decide +kernel⟩
abbrev s__law_drawn : Stmt := top 25
abbrev n__law_drawn : List Str := ["row", "options", "most", "rows", "k", "one"]
theorem sc__law_drawn : FnScope n__law_drawn ["row", "options", "most"] (defScope s__law_drawn) := ⟨rfl, rfl, rfl, by decide +kernel, rfl, by decide +kernel, by decide +kernel⟩
abbrev s__law_changed : Stmt := top 26
abbrev n__law_changed : List Str := ["row", "table", "i", "j", "one", "some", "other", "much"]
theorem sc__law_changed : FnScope n__law_changed ["row", "table"] (defScope s__law_changed) := ⟨rfl, rfl, rfl, by decide +kernel, rfl, by decide +kernel, by decide +kernel⟩
abbrev s_law : Stmt := top 27
abbrev n_law : List Str := ["script", "row", "options", "before", "after", "table", "held", "kept", "turn", "other", "good", "thing", "bad", "wrong", "ask", "one"]
theorem sc_law : FnScope n_law ["script"] (defScope s_law) := ⟨rfl, rfl, rfl, by decide +kernel, rfl, by decide +kernel, by decide +kernel⟩
abbrev s__law_heard : Stmt := top 24
abbrev n__law_heard : List Str := ["ask", "e"]
theorem sc__law_heard : FnScope n__law_heard ["ask"] (defScope s__law_heard) := ⟨rfl, rfl, rfl, by decide +kernel, rfl, by decide +kernel, by decide +kernel⟩
structure Ads where
  a_is_integer : Addr
  d_is_integer : FuncData
  a_is_within : Addr
  d_is_within : FuncData
  a_is_row : Addr
  d_is_row : FuncData
  a_are_counts : Addr
  d_are_counts : FuncData
  a_check_counts : Addr
  d_check_counts : FuncData
  a_is_right : Addr
  d_is_right : FuncData
  a_is_table : Addr
  d_is_table : FuncData
  a_movers_of : Addr
  d_movers_of : FuncData
  a_movers : Addr
  d_movers : FuncData
  a__law_taken : Addr
  d__law_taken : FuncData
  a__law_pick : Addr
  d__law_pick : FuncData
  a__law_alike : Addr
  d__law_alike : FuncData
  a__law_movers : Addr
  d__law_movers : FuncData
  a__law_is_table : Addr
  d__law_is_table : FuncData
  a__law_drawn : Addr
  d__law_drawn : FuncData
  a__law_changed : Addr
  d__law_changed : FuncData
  a_law : Addr
  d_law : FuncData
  a__law_heard : Addr
  d__law_heard : FuncData
  c_PollError : Addr
  o_law : Addr
  p_law : Addr
  c_BadCounts : Addr
  c_BadTable : Addr
  a_init : Addr
  d_init : FuncData
abbrev hl__law_heard (A : Ads) : HlT := [("BadCounts", "counts", A.c_BadCounts), ("BadTable", "table", A.c_BadTable)]
def TL (A : Ads) : List (Addr × Str) := [(A.p_law, ((envOfC "law" (defScope s_law) 0 A.a_law (.ref A.o_law)).qual ++ "<lambda>"))]
def dd_is_integer : He.DefD := ⟨("is_integer", none), "is_integer", "is_integer", defArgs s_is_integer, defBody s_is_integer, defScope s_is_integer, [], []⟩
def dd_is_within : He.DefD := ⟨("is_within", none), "is_within", "is_within", defArgs s_is_within, defBody s_is_within, defScope s_is_within, [], []⟩
def dd_is_row : He.DefD := ⟨("is_row", none), "is_row", "is_row", defArgs s_is_row, defBody s_is_row, defScope s_is_row, [], []⟩
def dd_are_counts : He.DefD := ⟨("are_counts", none), "are_counts", "are_counts", defArgs s_are_counts, defBody s_are_counts, defScope s_are_counts, [], []⟩
def dd_check_counts : He.DefD := ⟨("check_counts", none), "check_counts", "check_counts", defArgs s_check_counts, defBody s_check_counts, defScope s_check_counts, [], []⟩
def dd_is_right : He.DefD := ⟨("is_right", none), "is_right", "is_right", defArgs s_is_right, defBody s_is_right, defScope s_is_right, [], []⟩
def dd_is_table : He.DefD := ⟨("is_table", none), "is_table", "is_table", defArgs s_is_table, defBody s_is_table, defScope s_is_table, [], []⟩
def dd_movers_of : He.DefD := ⟨("movers_of", none), "movers_of", "movers_of", defArgs s_movers_of, defBody s_movers_of, defScope s_movers_of, [], []⟩
def dd_movers : He.DefD := ⟨("movers", none), "movers", "movers", defArgs s_movers, defBody s_movers, defScope s_movers, [], []⟩
def dd__law_taken : He.DefD := ⟨("_law_taken", none), "_law_taken", "_law_taken", defArgs s__law_taken, defBody s__law_taken, defScope s__law_taken, [], []⟩
def dd__law_pick : He.DefD := ⟨("_law_pick", none), "_law_pick", "_law_pick", defArgs s__law_pick, defBody s__law_pick, defScope s__law_pick, [], []⟩
def dd__law_alike : He.DefD := ⟨("_law_alike", none), "_law_alike", "_law_alike", defArgs s__law_alike, defBody s__law_alike, defScope s__law_alike, [], []⟩
def dd__law_movers : He.DefD := ⟨("_law_movers", none), "_law_movers", "_law_movers", defArgs s__law_movers, defBody s__law_movers, defScope s__law_movers, [], []⟩
def dd__law_is_table : He.DefD := ⟨("_law_is_table", none), "_law_is_table", "_law_is_table", defArgs s__law_is_table, defBody s__law_is_table, defScope s__law_is_table, [], []⟩
def dd__law_drawn : He.DefD := ⟨("_law_drawn", none), "_law_drawn", "_law_drawn", defArgs s__law_drawn, defBody s__law_drawn, defScope s__law_drawn, [], []⟩
def dd__law_changed : He.DefD := ⟨("_law_changed", none), "_law_changed", "_law_changed", defArgs s__law_changed, defBody s__law_changed, defScope s__law_changed, [], []⟩
def dd_law : He.DefD := ⟨("law", none), "law", "law", defArgs s_law, defBody s_law, defScope s_law, [], []⟩
def dd__law_heard : He.DefD := ⟨("_law_heard", none), "_law_heard", "_law_heard", defArgs s__law_heard, defBody s__law_heard, defScope s__law_heard, [], []⟩
abbrev s_init : Stmt := (clsBody (top 1)).getD 0 (.Pass ⟨0, 0, 0, 0⟩)
theorem sc_init : FnScope ["self", "value"] ["self", "value"] (defScope s_init) := ⟨rfl, rfl, rfl, by decide +kernel, rfl, by decide +kernel, by decide +kernel⟩
def dd_init : He.DefD := ⟨("PollError", some "__init__"), "__init__", "PollError.__init__", defArgs s_init, defBody s_init, defScope s_init, [.non], []⟩
def fnL : List He.DefD := [dd_is_integer, dd_is_within, dd_is_row, dd_are_counts, dd_check_counts, dd_is_right, dd_is_table, dd_movers_of, dd_movers, dd__law_taken, dd__law_pick, dd__law_alike, dd__law_movers, dd__law_is_table, dd__law_drawn, dd__law_changed, dd_law, dd__law_heard, dd_init]
def tfL : List He.Defn := [("law", none)]
def adsOf (K : PySem.W.Frag) : Ads where
  a_is_integer := He.ga K "is_integer"
  d_is_integer := fdOf K ("is_integer", none)
  a_is_within := He.ga K "is_within"
  d_is_within := fdOf K ("is_within", none)
  a_is_row := He.ga K "is_row"
  d_is_row := fdOf K ("is_row", none)
  a_are_counts := He.ga K "are_counts"
  d_are_counts := fdOf K ("are_counts", none)
  a_check_counts := He.ga K "check_counts"
  d_check_counts := fdOf K ("check_counts", none)
  a_is_right := He.ga K "is_right"
  d_is_right := fdOf K ("is_right", none)
  a_is_table := He.ga K "is_table"
  d_is_table := fdOf K ("is_table", none)
  a_movers_of := He.ga K "movers_of"
  d_movers_of := fdOf K ("movers_of", none)
  a_movers := He.ga K "movers"
  d_movers := fdOf K ("movers", none)
  a__law_taken := He.ga K "_law_taken"
  d__law_taken := fdOf K ("_law_taken", none)
  a__law_pick := He.ga K "_law_pick"
  d__law_pick := fdOf K ("_law_pick", none)
  a__law_alike := He.ga K "_law_alike"
  d__law_alike := fdOf K ("_law_alike", none)
  a__law_movers := He.ga K "_law_movers"
  d__law_movers := fdOf K ("_law_movers", none)
  a__law_is_table := He.ga K "_law_is_table"
  d__law_is_table := fdOf K ("_law_is_table", none)
  a__law_drawn := He.ga K "_law_drawn"
  d__law_drawn := fdOf K ("_law_drawn", none)
  a__law_changed := He.ga K "_law_changed"
  d__law_changed := fdOf K ("_law_changed", none)
  a_law := He.ga K "law"
  d_law := fdOf K ("law", none)
  a__law_heard := He.ga K "_law_heard"
  d__law_heard := fdOf K ("_law_heard", none)
  c_PollError := He.ga K "PollError"
  o_law := (He.cT K ("law", none)).1
  p_law := (He.cT K ("law", none)).2
  c_BadCounts := He.ga K "BadCounts"
  c_BadTable := He.ga K "BadTable"
  a_init := He.fAd K ("PollError", some "__init__")
  d_init := fdOf K ("PollError", some "__init__")
def exL : List (PySem.W.Frag → Bool) := [fun K => exmB K (hl__law_heard (adsOf K)), fun K => dtB (TL (adsOf K)), fun K => errKB K (adsOf K).c_PollError (adsOf K).c_BadCounts, fun K => errKB K (adsOf K).c_PollError (adsOf K).c_BadTable, fun K => errCB K "value" (adsOf K).c_BadCounts (adsOf K).a_init, fun K => errCB K "value" (adsOf K).c_BadTable (adsOf K).a_init]
def exK (K : PySem.W.Frag) : Bool := exL.all fun b => b K
def faL : List He.Fa := [.glo "PollError", .glo "is_integer", .glo "is_within", .glo "is_row", .glo "are_counts", .glo "check_counts", .glo "is_right", .glo "is_table", .glo "movers_of", .glo "movers", .glo "_law_taken", .glo "_law_pick", .glo "_law_alike", .glo "_law_movers", .glo "_law_is_table", .glo "_law_drawn", .glo "_law_changed", .glo "law", .glo "_law_heard", .free "all", .free "bool", .free "dict", .free "enumerate", .free "int", .free "isinstance", .free "len", .free "list", .free "range", .free "str", .free "sum", .free "tuple", .int "LEAST_OPTIONS" 2, .int "MOST_COUNT" 12, .int "MOST_OPTIONS" 4, .glo "BadCounts", .glo "BadTable"]
abbrev RwL : PySem.W.OpenRow := PySem.W.OpenLaw.row PySem.Challenge.rw_askedtown_k40_move_tables
abbrev hk : PySem.W.Hook := He.hookX 6 faL fnL [] tfL exK
def ob (s : PySem.W.SharedT) : He.AlX := He.obsX 6 faL fnL [] tfL exK (HandSHeadRun.getT s)
theorem ob_eq (s : PySem.W.SharedT) : ob s = hk.obs s.abs := He.obsX_eq (HandSHeadRun.getT_eq s)

def loo0 : List Str := ["PollError", "BadCounts", "BadTable", "is_integer", "is_within", "is_row", "are_counts", "check_counts", "is_right", "is_table", "movers_of", "movers", "_law_taken", "_law_pick", "_law_alike", "_law_movers", "_law_is_table", "_law_heard", "_law_drawn", "_law_changed", "LEAST_OPTIONS", "MOST_OPTIONS", "MOST_COUNT"]
def loo : List Str := loo0
theorem run_f (w : World) : HandSHeadRun.RunEq RwL (PySem.W.view RwL.prog [27]) hk ob 3000 loo (w.withFollow "special-get-raises" false) := by
  intro os
  kernel_rfl
theorem run_t (w : World) : HandSHeadRun.RunEq RwL (PySem.W.view RwL.prog [27]) hk ob 3000 loo (w.withFollow "special-get-raises" true) := by
  intro os
  kernel_rfl
theorem run (w : World) : HandSHeadRun.RunEq RwL (PySem.W.view RwL.prog [27]) hk ob 3000 loo w := PySem.W.byRow2 "special-get-raises" (P := fun w => HandSHeadRun.RunEq RwL (PySem.W.view RwL.prog [27]) hk ob 3000 loo w) run_f run_t w

end Lawk40
namespace Lawk40
open PySem PySem.Spec PyProof.Rows L2 Ax
structure Txt (K : PySem.W.Frag) (mg : Str → Option Value) (A : Ads) : Prop where
  m_PollError : mg "PollError" = some (.ref A.c_PollError)
  xm__law_heard : ∀ t ∈ hl__law_heard A, ∀ u ∈ hl__law_heard A, PySem.W.exmOne K (.ref t.2.2) (.ref u.2.2) = some (decide (u.1 = t.1))
  dt_law : ∀ p ∈ TL A, p.1 = A.p_law → p = (A.p_law, ((envOfC "law" (defScope s_law) 0 A.a_law (.ref A.o_law)).qual ++ "<lambda>"))
  h_BadCounts : ErrK K mg A.c_PollError A.c_BadCounts
  h_BadTable : ErrK K mg A.c_PollError A.c_BadTable
  m_is_integer : mg "is_integer" = some (.ref A.a_is_integer)
  k_is_integer : PySem.W.keepIn K (.ref A.a_is_integer) = true
  f_is_integer : Fun K "is_integer" "is_integer" s_is_integer A.a_is_integer A.d_is_integer
  b_is_integer : L2.Binds K A.d_is_integer ["thing"] []
  m_is_within : mg "is_within" = some (.ref A.a_is_within)
  k_is_within : PySem.W.keepIn K (.ref A.a_is_within) = true
  f_is_within : Fun K "is_within" "is_within" s_is_within A.a_is_within A.d_is_within
  b_is_within : L2.Binds K A.d_is_within ["thing", "least", "most"] []
  m_is_row : mg "is_row" = some (.ref A.a_is_row)
  k_is_row : PySem.W.keepIn K (.ref A.a_is_row) = true
  f_is_row : Fun K "is_row" "is_row" s_is_row A.a_is_row A.d_is_row
  b_is_row : L2.Binds K A.d_is_row ["thing"] []
  m_are_counts : mg "are_counts" = some (.ref A.a_are_counts)
  k_are_counts : PySem.W.keepIn K (.ref A.a_are_counts) = true
  f_are_counts : Fun K "are_counts" "are_counts" s_are_counts A.a_are_counts A.d_are_counts
  b_are_counts : L2.Binds K A.d_are_counts ["thing"] []
  m_check_counts : mg "check_counts" = some (.ref A.a_check_counts)
  k_check_counts : PySem.W.keepIn K (.ref A.a_check_counts) = true
  f_check_counts : Fun K "check_counts" "check_counts" s_check_counts A.a_check_counts A.d_check_counts
  b_check_counts : L2.Binds K A.d_check_counts ["before", "after"] []
  m_is_right : mg "is_right" = some (.ref A.a_is_right)
  k_is_right : PySem.W.keepIn K (.ref A.a_is_right) = true
  f_is_right : Fun K "is_right" "is_right" s_is_right A.a_is_right A.d_is_right
  b_is_right : L2.Binds K A.d_is_right ["before", "after", "thing"] []
  m_is_table : mg "is_table" = some (.ref A.a_is_table)
  k_is_table : PySem.W.keepIn K (.ref A.a_is_table) = true
  f_is_table : Fun K "is_table" "is_table" s_is_table A.a_is_table A.d_is_table
  b_is_table : L2.Binds K A.d_is_table ["before", "after", "thing"] []
  m_movers_of : mg "movers_of" = some (.ref A.a_movers_of)
  k_movers_of : PySem.W.keepIn K (.ref A.a_movers_of) = true
  f_movers_of : Fun K "movers_of" "movers_of" s_movers_of A.a_movers_of A.d_movers_of
  b_movers_of : L2.Binds K A.d_movers_of ["table"] []
  m_movers : mg "movers" = some (.ref A.a_movers)
  k_movers : PySem.W.keepIn K (.ref A.a_movers) = true
  f_movers : Fun K "movers" "movers" s_movers A.a_movers A.d_movers
  b_movers : L2.Binds K A.d_movers ["before", "after", "table"] []
  m__law_taken : mg "_law_taken" = some (.ref A.a__law_taken)
  k__law_taken : PySem.W.keepIn K (.ref A.a__law_taken) = true
  f__law_taken : Fun K "_law_taken" "_law_taken" s__law_taken A.a__law_taken A.d__law_taken
  b__law_taken : L2.Binds K A.d__law_taken ["row", "many"] []
  m__law_pick : mg "_law_pick" = some (.ref A.a__law_pick)
  k__law_pick : PySem.W.keepIn K (.ref A.a__law_pick) = true
  f__law_pick : Fun K "_law_pick" "_law_pick" s__law_pick A.a__law_pick A.d__law_pick
  b__law_pick : L2.Binds K A.d__law_pick ["row", "some"] []
  m__law_alike : mg "_law_alike" = some (.ref A.a__law_alike)
  k__law_alike : PySem.W.keepIn K (.ref A.a__law_alike) = true
  f__law_alike : Fun K "_law_alike" "_law_alike" s__law_alike A.a__law_alike A.d__law_alike
  b__law_alike : L2.Binds K A.d__law_alike ["found", "due"] []
  m__law_movers : mg "_law_movers" = some (.ref A.a__law_movers)
  k__law_movers : PySem.W.keepIn K (.ref A.a__law_movers) = true
  f__law_movers : Fun K "_law_movers" "_law_movers" s__law_movers A.a__law_movers A.d__law_movers
  b__law_movers : L2.Binds K A.d__law_movers ["table"] []
  m__law_is_table : mg "_law_is_table" = some (.ref A.a__law_is_table)
  k__law_is_table : PySem.W.keepIn K (.ref A.a__law_is_table) = true
  f__law_is_table : Fun K "_law_is_table" "_law_is_table" s__law_is_table A.a__law_is_table A.d__law_is_table
  b__law_is_table : L2.Binds K A.d__law_is_table ["before", "after", "thing"] []
  m__law_drawn : mg "_law_drawn" = some (.ref A.a__law_drawn)
  k__law_drawn : PySem.W.keepIn K (.ref A.a__law_drawn) = true
  f__law_drawn : Fun K "_law_drawn" "_law_drawn" s__law_drawn A.a__law_drawn A.d__law_drawn
  b__law_drawn : L2.Binds K A.d__law_drawn ["row", "options", "most"] []
  m__law_changed : mg "_law_changed" = some (.ref A.a__law_changed)
  k__law_changed : PySem.W.keepIn K (.ref A.a__law_changed) = true
  f__law_changed : Fun K "_law_changed" "_law_changed" s__law_changed A.a__law_changed A.d__law_changed
  b__law_changed : L2.Binds K A.d__law_changed ["row", "table"] []
  fc_law : FunC K "law" "law" s_law A.a_law A.d_law A.o_law
  m_law : mg "law" = some (.ref A.a_law)
  k_law : PySem.W.keepIn K (.ref A.a_law) = true
  f_law : Fun K "law" "law" s_law A.a_law A.d_law
  b_law : L2.Binds K A.d_law ["script"] []
  m__law_heard : mg "_law_heard" = some (.ref A.a__law_heard)
  k__law_heard : PySem.W.keepIn K (.ref A.a__law_heard) = true
  f__law_heard : Fun K "_law_heard" "_law_heard" s__law_heard A.a__law_heard A.d__law_heard
  b__law_heard : L2.Binds K A.d__law_heard ["ask"] []
  z_all : mg "all" = none
  z_bool : mg "bool" = none
  z_dict : mg "dict" = none
  z_enumerate : mg "enumerate" = none
  z_int : mg "int" = none
  z_isinstance : mg "isinstance" = none
  z_len : mg "len" = none
  z_list : mg "list" = none
  z_range : mg "range" = none
  z_str : mg "str" = none
  z_sum : mg "sum" = none
  z_tuple : mg "tuple" = none
  i_LEAST_OPTIONS : ∃ t, mg "LEAST_OPTIONS" = some (.int 2 t)
  i_MOST_COUNT : ∃ t, mg "MOST_COUNT" = some (.int 12 t)
  i_MOST_OPTIONS : ∃ t, mg "MOST_OPTIONS" = some (.int 4 t)
  e_BadCounts : ErrC K mg "value" "BadCounts" A.c_BadCounts A.a_init
  e_BadTable : ErrC K mg "value" "BadTable" A.c_BadTable A.a_init
  initB : L2.Binds K A.d_init ["self", "value"] []
section
variable {P : Program} {wd : World} {K : PySem.W.Frag} {mg : Str → Option Value} {base : Heap} {Tb : List (Addr × Str)} {A : Ads}
theorem heard__law_heard {X : Cx} (T : Txt X.K X.mg A) : HeardOk X "_law_heard" "ask" A.a__law_heard (hl__law_heard A) n__law_heard := by
  obtain ⟨oc, od, kV, doc, pm, an, cdv, ct, osl, hfd, lk, hcd⟩ := T.f__law_heard.ex
  have hb := T.b__law_heard
  rw [hfd] at lk hb
  refine ⟨⟨_, _, _, _, _, _, _, _, _, _, _, _, _, lk, hcd, hb, sc__law_heard, rfl, .inl rfl, fun q => ?_⟩, ?_⟩
  · exact heard_gives (i := 1) sc__law_heard.nd (fun _ => rfl) T.xm__law_heard fun s H => (.consA (i := 1) rfl rfl ⟨rfl, by decide, .inl T.e_BadCounts.m⟩ (fun a oe cls d pn hz hf => hsu_tell hz hf T.h_BadCounts T.m_PollError T.z_isinstance rfl (.inl rfl) rfl rfl) (.consA (i := 1) rfl rfl ⟨rfl, by decide, .inl T.e_BadTable.m⟩ (fun a oe cls d pn hz hf => hsu_tell hz hf T.h_BadTable T.m_PollError T.z_isinstance rfl (.inl rfl) rfl rfl) .nil))
  · intro t ht
    simp only [hl__law_heard, List.mem_cons, List.not_mem_nil, or_false] at ht
    rcases ht with rfl | rfl
    · exact T.e_BadCounts.m
    · exact T.e_BadTable.m
abbrev InitOk (P : Program) (wd : World) (K : PySem.W.Frag) (mg : Str → Option Value) (base : Heap) (A : Ads) : Prop := FnOk P wd K mg base (L2.CX P wd) 1 A.a_init A.d_init ["self", "value"] (spI1 K "value")
set_option maxHeartbeats 8000000 in
theorem bd_is_integer (T : Txt K mg A)  : BodyIs P wd K mg base Tb n_is_integer "is_integer" (defScope s_is_integer) (defBody s_is_integer) A.a_is_integer 0 m_is_integer := by
  intro cdv Ar outer s H E hr
  have tk : Takes (cxOf (L2.CX P wd) P wd K mg base n_is_integer "is_integer" (defScope s_is_integer) A.a_is_integer cdv Ar outer s H E) (Wdef E) := takes_of rfl rfl rfl rfl
  refine ss_one ?_
  · refine s_ret ?_
    · refine e_and ?_ ?_
      · refine e_b call_isiA fIsi_of T.z_isinstance rfl ?_
        · refine a_cons ?_ ?_
          · exact e_var (i := 0)
          · refine a_cons ?_ ?_
            · exact e_ty (n := "int") T.z_int rfl
            · exact a_nil
      · refine e_one ?_
        · refine e_not ?_
          · refine e_b call_isiA fIsi_of T.z_isinstance rfl ?_
            · refine a_cons ?_ ?_
              · exact e_var (i := 0)
              · refine a_cons ?_ ?_
                · exact e_ty (n := "bool") T.z_bool rfl
                · exact a_nil
theorem ok_is_integer (T : Txt K mg A)  : FnOk P wd K mg base (L2.CX P wd) 1 A.a_is_integer A.d_is_integer ["thing"] (spP ⟨K, mg, Tb⟩ is_integer) := fnP T.f_is_integer sc_is_integer (bd_is_integer T )
theorem okK_is_integer (T : Txt K mg A)  : FnOk P wd K mg base (L2.CX P wd) 1 A.a_is_integer A.d_is_integer ["thing"] (spK ⟨K, mg, Tb⟩ is_integer_K) := fnK T.f_is_integer sc_is_integer (bd_is_integer T )
set_option maxHeartbeats 8000000 in
theorem bd_is_within (T : Txt K mg A) (G_is_integer : FnOk P wd K mg base (L2.CX P wd) 1 A.a_is_integer A.d_is_integer ["thing"] (spP ⟨K, mg, Tb⟩ is_integer)) : BodyIs P wd K mg base Tb n_is_within "is_within" (defScope s_is_within) (defBody s_is_within) A.a_is_within 1 m_is_within := by
  intro cdv Ar outer s H E hr
  have tk : Takes (cxOf (L2.CX P wd) P wd K mg base n_is_within "is_within" (defScope s_is_within) A.a_is_within cdv Ar outer s H E) (Wdef E) := takes_of rfl rfl rfl rfl
  refine ss_one ?_
  · refine s_ret ?_
    · refine e_and ?_ ?_
      · refine e_callP G_is_integer (hr.mono (by decide)) tk T.m_is_integer T.k_is_integer T.b_is_integer ?_
        · refine a_cons ?_ ?_
          · exact e_var (i := 0)
          · exact a_nil
      · refine e_one ?_
        · refine e_chain op_le op_le (fInt0_of fun _ _ _ => .bl _) (fInt0_of fun _ _ _ => .bl _) ?_ ?_ ?_
          · exact e_var (i := 1)
          · exact e_var (i := 0)
          · exact e_var (i := 2)
theorem ok_is_within (T : Txt K mg A) (G_is_integer : FnOk P wd K mg base (L2.CX P wd) 1 A.a_is_integer A.d_is_integer ["thing"] (spP ⟨K, mg, Tb⟩ is_integer)) : FnOk P wd K mg base (L2.CX P wd) 2 A.a_is_within A.d_is_within ["thing", "least", "most"] (spP ⟨K, mg, Tb⟩ is_within) := fnP T.f_is_within sc_is_within (bd_is_within T G_is_integer)
theorem okK_is_within (T : Txt K mg A) (G_is_integer : FnOk P wd K mg base (L2.CX P wd) 1 A.a_is_integer A.d_is_integer ["thing"] (spP ⟨K, mg, Tb⟩ is_integer)) : FnOk P wd K mg base (L2.CX P wd) 2 A.a_is_within A.d_is_within ["thing", "least", "most"] (spK ⟨K, mg, Tb⟩ is_within_K) := fnK T.f_is_within sc_is_within (bd_is_within T G_is_integer)
set_option maxHeartbeats 8000000 in
theorem bd_is_row (T : Txt K mg A)  : BodyIs P wd K mg base Tb n_is_row "is_row" (defScope s_is_row) (defBody s_is_row) A.a_is_row 0 m_is_row := by
  intro cdv Ar outer s H E hr
  have tk : Takes (cxOf (L2.CX P wd) P wd K mg base n_is_row "is_row" (defScope s_is_row) A.a_is_row cdv Ar outer s H E) (Wdef E) := takes_of rfl rfl rfl rfl
  refine ss_one ?_
  · refine s_ret ?_
    · refine e_b call_isiA fIsi_of T.z_isinstance rfl ?_
      · refine a_cons ?_ ?_
        · exact e_var (i := 0)
        · refine a_cons ?_ ?_
          · refine e_tup ?_
            · refine a_cons ?_ ?_
              · exact e_ty (n := "list") T.z_list rfl
              · refine a_cons ?_ ?_
                · exact e_ty (n := "tuple") T.z_tuple rfl
                · exact a_nil
          · exact a_nil
theorem ok_is_row (T : Txt K mg A)  : FnOk P wd K mg base (L2.CX P wd) 1 A.a_is_row A.d_is_row ["thing"] (spP ⟨K, mg, Tb⟩ is_row) := fnP T.f_is_row sc_is_row (bd_is_row T )
theorem okK_is_row (T : Txt K mg A)  : FnOk P wd K mg base (L2.CX P wd) 1 A.a_is_row A.d_is_row ["thing"] (spK ⟨K, mg, Tb⟩ is_row_K) := fnK T.f_is_row sc_is_row (bd_is_row T )
set_option maxHeartbeats 8000000 in
theorem bd_are_counts (T : Txt K mg A) (G_is_row : FnOk P wd K mg base (L2.CX P wd) 1 A.a_is_row A.d_is_row ["thing"] (spP ⟨K, mg, Tb⟩ is_row)) (G_is_within : FnOk P wd K mg base (L2.CX P wd) 2 A.a_is_within A.d_is_within ["thing", "least", "most"] (spP ⟨K, mg, Tb⟩ is_within)) : BodyIs P wd K mg base Tb n_are_counts "are_counts" (defScope s_are_counts) (defBody s_are_counts) A.a_are_counts 2 m_are_counts := by
  intro cdv Ar outer s H E hr
  have tk : Takes (cxOf (L2.CX P wd) P wd K mg base n_are_counts "are_counts" (defScope s_are_counts) A.a_are_counts cdv Ar outer s H E) (Wdef E) := takes_of rfl rfl rfl rfl
  refine ss_cons ?_ ?_
  · refine s_if ?_ ?_ ?_
    · refine t_w ?_
      · refine w_or ?_ ?_
        · refine t_not ?_
          · refine t_truth ?_
            · refine e_callP G_is_row (hr.mono (by decide)) tk T.m_is_row T.k_is_row T.b_is_row ?_
              · refine a_cons ?_ ?_
                · exact e_var (i := 0)
                · exact a_nil
        · refine w_or1 ?_
          · refine t_not ?_
            · refine t_chain op_le op_le (fInt0_of fun _ _ _ => .bl _) (fInt0_of fun _ _ _ => .bl _) ?_ ?_ ?_
              · obtain ⟨t, ht⟩ := T.i_LEAST_OPTIONS
                exact e_gint ht
              · refine e_b call_lenA fLen_of T.z_len rfl ?_
                · refine a_cons ?_ ?_
                  · exact e_var (i := 0)
                  · exact a_nil
              · obtain ⟨t, ht⟩ := T.i_MOST_OPTIONS
                exact e_gint ht
    · refine ss_one ?_
      · refine s_ret ?_
        · exact e_bl
    · exact ss_nil
  · refine ss_one ?_
    · refine s_ret ?_
      · refine e_and ?_ ?_
        · refine e_b (cr_all rfl) fAll_of T.z_all rfl ?_
          · refine a_cons ?_ ?_
            · refine e_lcX (is := [1]) (own := [("one", 1)]) kLst_new rfl sc_are_counts.nd ?_ (blk_of (by kernel_rfl)) ?_ ?_ ?_
              · refine i_seq ?_
                · exact e_var (i := 0)
              · intro _ _ _ _ _
                exact g_nm (i := 1) sc_are_counts.nd
              · intro _ _ _ _ _
                exact ts_nil
              · intro _ _ _ _ _
                refine e_callP G_is_within (hr.mono (by decide)) takes0 T.m_is_within T.k_is_within T.b_is_within ?_
                · refine a_cons ?_ ?_
                  · exact e_var (i := 1)
                  · refine a_cons ?_ ?_
                    · exact e_int
                    · refine a_cons ?_ ?_
                      · obtain ⟨t, ht⟩ := T.i_MOST_COUNT
                        exact e_gint ht
                      · exact a_nil
            · exact a_nil
        · refine e_one ?_
          · refine e_cmp op_le (fInt0_of fun _ _ _ => .bl _) ?_ ?_
            · refine e_b (cr_sumA rfl) fSumA_of T.z_sum rfl ?_
              · refine a_cons ?_ ?_
                · exact e_var (i := 0)
                · exact a_nil
            · obtain ⟨t, ht⟩ := T.i_MOST_COUNT
              exact e_gint ht
theorem ok_are_counts (T : Txt K mg A) (G_is_row : FnOk P wd K mg base (L2.CX P wd) 1 A.a_is_row A.d_is_row ["thing"] (spP ⟨K, mg, Tb⟩ is_row)) (G_is_within : FnOk P wd K mg base (L2.CX P wd) 2 A.a_is_within A.d_is_within ["thing", "least", "most"] (spP ⟨K, mg, Tb⟩ is_within)) : FnOk P wd K mg base (L2.CX P wd) 3 A.a_are_counts A.d_are_counts ["thing"] (spP ⟨K, mg, Tb⟩ are_counts) := fnP T.f_are_counts sc_are_counts (bd_are_counts T G_is_row G_is_within)
theorem okK_are_counts (T : Txt K mg A) (G_is_row : FnOk P wd K mg base (L2.CX P wd) 1 A.a_is_row A.d_is_row ["thing"] (spP ⟨K, mg, Tb⟩ is_row)) (G_is_within : FnOk P wd K mg base (L2.CX P wd) 2 A.a_is_within A.d_is_within ["thing", "least", "most"] (spP ⟨K, mg, Tb⟩ is_within)) : FnOk P wd K mg base (L2.CX P wd) 3 A.a_are_counts A.d_are_counts ["thing"] (spK ⟨K, mg, Tb⟩ are_counts_K) := fnK T.f_are_counts sc_are_counts (bd_are_counts T G_is_row G_is_within)
set_option maxHeartbeats 8000000 in
theorem bd_check_counts (T : Txt K mg A) (G_are_counts : FnOk P wd K mg base (L2.CX P wd) 3 A.a_are_counts A.d_are_counts ["thing"] (spP ⟨K, mg, Tb⟩ are_counts)) (I0 : InitOk P wd K mg base A) : BodyIs P wd K mg base Tb n_check_counts "check_counts" (defScope s_check_counts) (defBody s_check_counts) A.a_check_counts 3 m_check_counts := by
  intro cdv Ar outer s H E hr
  have tk : Takes (cxOf (L2.CX P wd) P wd K mg base n_check_counts "check_counts" (defScope s_check_counts) A.a_check_counts cdv Ar outer s H E) (Wdef E) := takes_of rfl rfl rfl rfl
  refine ss_cons ?_ ?_
  · refine s_if ?_ ?_ ?_
    · refine t_not ?_
      · refine t_truth ?_
        · refine e_callP G_are_counts (hr.mono (by decide)) tk T.m_are_counts T.k_are_counts T.b_are_counts ?_
          · refine a_cons ?_ ?_
            · exact e_var (i := 0)
            · exact a_nil
    · refine ss_one ?_
      · refine s_raise1 T.e_BadCounts I0 (hr.mono (by decide)) T.initB tk rfl ?_
        · refine a_cons ?_ ?_
          · exact e_var (i := 0)
          · exact a_nil
    · exact ss_nil
  · refine ss_one ?_
    · refine s_if ?_ ?_ ?_
      · refine t_w ?_
        · refine w_or ?_ ?_
          · refine t_not ?_
            · refine t_truth ?_
              · refine e_callP G_are_counts (hr.mono (by decide)) tk T.m_are_counts T.k_are_counts T.b_are_counts ?_
                · refine a_cons ?_ ?_
                  · exact e_var (i := 1)
                  · exact a_nil
          · refine w_or ?_ ?_
            · refine t_cmp (op_neD hr.units) fNe_of ?_ ?_
              · refine e_b call_lenA fLen_of T.z_len rfl ?_
                · refine a_cons ?_ ?_
                  · exact e_var (i := 1)
                  · exact a_nil
              · refine e_b call_lenA fLen_of T.z_len rfl ?_
                · refine a_cons ?_ ?_
                  · exact e_var (i := 0)
                  · exact a_nil
            · refine w_or1 ?_
              · refine t_cmp (op_neD hr.units) fNe_of ?_ ?_
                · refine e_b (cr_sumA rfl) fSumA_of T.z_sum rfl ?_
                  · refine a_cons ?_ ?_
                    · exact e_var (i := 1)
                    · exact a_nil
                · refine e_b (cr_sumA rfl) fSumA_of T.z_sum rfl ?_
                  · refine a_cons ?_ ?_
                    · exact e_var (i := 0)
                    · exact a_nil
      · refine ss_one ?_
        · refine s_raise1 T.e_BadCounts I0 (hr.mono (by decide)) T.initB tk rfl ?_
          · refine a_cons ?_ ?_
            · exact e_var (i := 1)
            · exact a_nil
      · exact ss_nil
theorem ok_check_counts (T : Txt K mg A) (G_are_counts : FnOk P wd K mg base (L2.CX P wd) 3 A.a_are_counts A.d_are_counts ["thing"] (spP ⟨K, mg, Tb⟩ are_counts)) (I0 : InitOk P wd K mg base A) : FnOk P wd K mg base (L2.CX P wd) 4 A.a_check_counts A.d_check_counts ["before", "after"] (spP ⟨K, mg, Tb⟩ check_counts) := fnP T.f_check_counts sc_check_counts (bd_check_counts T G_are_counts I0)
theorem okK_check_counts (T : Txt K mg A) (G_are_counts : FnOk P wd K mg base (L2.CX P wd) 3 A.a_are_counts A.d_are_counts ["thing"] (spP ⟨K, mg, Tb⟩ are_counts)) (I0 : InitOk P wd K mg base A) : FnOk P wd K mg base (L2.CX P wd) 4 A.a_check_counts A.d_check_counts ["before", "after"] (spK ⟨K, mg, Tb⟩ check_counts_K) := fnK T.f_check_counts sc_check_counts (bd_check_counts T G_are_counts I0)
set_option maxHeartbeats 8000000 in
theorem bd_is_right (T : Txt K mg A) (G_is_within : FnOk P wd K mg base (L2.CX P wd) 2 A.a_is_within A.d_is_within ["thing", "least", "most"] (spP ⟨K, mg, Tb⟩ is_within)) : BodyIs P wd K mg base Tb n_is_right "is_right" (defScope s_is_right) (defBody s_is_right) A.a_is_right 2 m_is_right := by
  intro cdv Ar outer s H E hr
  have tk : Takes (cxOf (L2.CX P wd) P wd K mg base n_is_right "is_right" (defScope s_is_right) A.a_is_right cdv Ar outer s H E) (Wdef E) := takes_of rfl rfl rfl rfl
  refine ss_cons ?_ ?_
  · refine s_if ?_ ?_ ?_
    · refine t_w ?_
      · refine w_or ?_ ?_
        · refine t_not ?_
          · refine t_truth ?_
            · refine e_b call_isiA fIsi_of T.z_isinstance rfl ?_
              · refine a_cons ?_ ?_
                · exact e_var (i := 2)
                · refine a_cons ?_ ?_
                  · exact e_ty (n := "tuple") T.z_tuple rfl
                  · exact a_nil
        · refine w_or1 ?_
          · refine t_cmp (op_neD hr.units) fNe_of ?_ ?_
            · refine e_b call_lenA fLen_of T.z_len rfl ?_
              · refine a_cons ?_ ?_
                · exact e_var (i := 2)
                · exact a_nil
            · refine e_b call_lenA fLen_of T.z_len rfl ?_
              · refine a_cons ?_ ?_
                · exact e_var (i := 0)
                · exact a_nil
    · refine ss_one ?_
      · refine s_ret ?_
        · exact e_bl
    · exact ss_nil
  · refine ss_cons ?_ ?_
    · refine s_for (is := [3]) (passes_of rfl) rfl ?_ ?_ ?_ []
      · refine i_seq ?_
        · exact e_var (i := 2)
      · exact g_nm (i := 3) sc_is_right.nd
      · refine ss_cons ?_ ?_
        · refine s_if ?_ ?_ ?_
          · refine t_w ?_
            · refine w_or ?_ ?_
              · refine t_not ?_
                · refine t_truth ?_
                  · refine e_b call_isiA fIsi_of T.z_isinstance rfl ?_
                    · refine a_cons ?_ ?_
                      · exact e_var (i := 3)
                      · refine a_cons ?_ ?_
                        · exact e_ty (n := "tuple") T.z_tuple rfl
                        · exact a_nil
              · refine w_or1 ?_
                · refine t_cmp (op_neD hr.units) fNe_of ?_ ?_
                  · refine e_b call_lenA fLen_of T.z_len rfl ?_
                    · refine a_cons ?_ ?_
                      · exact e_var (i := 3)
                      · exact a_nil
                  · refine e_b call_lenA fLen_of T.z_len rfl ?_
                    · refine a_cons ?_ ?_
                      · exact e_var (i := 0)
                      · exact a_nil
          · refine ss_one ?_
            · refine s_ret ?_
              · exact e_bl
          · exact ss_nil
        · refine ss_one ?_
          · refine s_if ?_ ?_ ?_
            · refine t_not ?_
              · refine t_truth ?_
                · refine e_b (cr_all rfl) fAll_of T.z_all rfl ?_
                  · refine a_cons ?_ ?_
                    · refine e_lcX (is := [5]) (own := [("one", 5)]) kLst_new rfl sc_is_right.nd ?_ (blk_of (by kernel_rfl)) ?_ ?_ ?_
                      · refine i_seq ?_
                        · exact e_var (i := 3)
                      · intro _ _ _ _ _
                        exact g_nm (i := 5) sc_is_right.nd
                      · intro _ _ _ _ _
                        exact ts_nil
                      · intro _ _ _ _ _
                        refine e_callP G_is_within (hr.mono (by decide)) takes0 T.m_is_within T.k_is_within T.b_is_within ?_
                        · refine a_cons ?_ ?_
                          · exact e_var (i := 5)
                          · refine a_cons ?_ ?_
                            · exact e_int
                            · refine a_cons ?_ ?_
                              · obtain ⟨t, ht⟩ := T.i_MOST_COUNT
                                exact e_gint ht
                              · exact a_nil
                    · exact a_nil
            · refine ss_one ?_
              · refine s_ret ?_
                · exact e_bl
            · exact ss_nil
    · refine ss_cons ?_ ?_
      · refine s_if ?_ ?_ ?_
        · refine t_cmp (op_neD hr.units) fNe_of ?_ ?_
          · refine e_lcX (is := [3]) (own := [("row", 3)]) kLst_new rfl sc_is_right.nd ?_ (blk_of (by kernel_rfl)) ?_ ?_ ?_
            · refine i_seq ?_
              · exact e_var (i := 2)
            · intro _ _ _ _ _
              exact g_nm (i := 3) sc_is_right.nd
            · intro _ _ _ _ _
              exact ts_nil
            · intro _ _ _ _ _
              refine e_b (cr_sumA rfl) fSumA_of T.z_sum rfl ?_
              · refine a_cons ?_ ?_
                · exact e_var (i := 3)
                · exact a_nil
          · refine e_bT (call_listA rfl) (fList_of kLst_new) T.z_list rfl ?_
            · refine a_cons ?_ ?_
              · exact e_var (i := 0)
              · exact a_nil
        · refine ss_one ?_
          · refine s_ret ?_
            · exact e_bl
        · exact ss_nil
      · refine ss_one ?_
        · refine s_ret ?_
          · refine e_cmp (op_eqD hr.units) fEq_of ?_ ?_
            · refine e_lcX (is := [4]) (own := [("at", 4)]) kLst_new rfl sc_is_right.nd ?_ (blk_of (by kernel_rfl)) ?_ ?_ ?_
              · refine i_rn1 ?_ T.z_range
                · refine a_cons ?_ ?_
                  · refine e_b call_lenA fLen_of T.z_len rfl ?_
                    · refine a_cons ?_ ?_
                      · exact e_var (i := 1)
                      · exact a_nil
                  · exact a_nil
              · intro _ _ _ _ _
                exact g_nm (i := 4) sc_is_right.nd
              · intro _ _ _ _ _
                exact ts_nil
              · intro _ _ _ _ _
                refine e_b (cr_sumA rfl) fSumA_of T.z_sum rfl ?_
                · refine a_cons ?_ ?_
                  · refine e_lcX (is := [3]) (own := [("row", 3)]) kLst_new rfl sc_is_right.nd ?_ (blk_of (by kernel_rfl)) ?_ ?_ ?_
                    · refine i_seq ?_
                      · exact e_var (i := 2)
                    · intro _ _ _ _ _
                      exact g_nm (i := 3) sc_is_right.nd
                    · intro _ _ _ _ _
                      exact ts_nil
                    · intro _ _ _ _ _
                      refine e_ix (hu1 hr) ?_ ?_
                      · exact e_var (i := 3)
                      · exact e_var (i := 4)
                  · exact a_nil
            · refine e_bT (call_listA rfl) (fList_of kLst_new) T.z_list rfl ?_
              · refine a_cons ?_ ?_
                · exact e_var (i := 1)
                · exact a_nil
theorem ok_is_right (T : Txt K mg A) (G_is_within : FnOk P wd K mg base (L2.CX P wd) 2 A.a_is_within A.d_is_within ["thing", "least", "most"] (spP ⟨K, mg, Tb⟩ is_within)) : FnOk P wd K mg base (L2.CX P wd) 3 A.a_is_right A.d_is_right ["before", "after", "thing"] (spP ⟨K, mg, Tb⟩ is_right) := fnP T.f_is_right sc_is_right (bd_is_right T G_is_within)
theorem okK_is_right (T : Txt K mg A) (G_is_within : FnOk P wd K mg base (L2.CX P wd) 2 A.a_is_within A.d_is_within ["thing", "least", "most"] (spP ⟨K, mg, Tb⟩ is_within)) : FnOk P wd K mg base (L2.CX P wd) 3 A.a_is_right A.d_is_right ["before", "after", "thing"] (spK ⟨K, mg, Tb⟩ is_right_K) := fnK T.f_is_right sc_is_right (bd_is_right T G_is_within)
set_option maxHeartbeats 8000000 in
theorem bd_is_table (T : Txt K mg A) (G_check_counts : FnOk P wd K mg base (L2.CX P wd) 4 A.a_check_counts A.d_check_counts ["before", "after"] (spP ⟨K, mg, Tb⟩ check_counts)) (G_is_right : FnOk P wd K mg base (L2.CX P wd) 3 A.a_is_right A.d_is_right ["before", "after", "thing"] (spP ⟨K, mg, Tb⟩ is_right)) : BodyIs P wd K mg base Tb n_is_table "is_table" (defScope s_is_table) (defBody s_is_table) A.a_is_table 4 m_is_table := by
  intro cdv Ar outer s H E hr
  have tk : Takes (cxOf (L2.CX P wd) P wd K mg base n_is_table "is_table" (defScope s_is_table) A.a_is_table cdv Ar outer s H E) (Wdef E) := takes_of rfl rfl rfl rfl
  refine ss_cons ?_ ?_
  · refine s_expr ?_
    · refine e_callP G_check_counts (hr.mono (by decide)) tk T.m_check_counts T.k_check_counts T.b_check_counts ?_
      · refine a_cons ?_ ?_
        · exact e_var (i := 0)
        · refine a_cons ?_ ?_
          · exact e_var (i := 1)
          · exact a_nil
  · refine ss_one ?_
    · refine s_ret ?_
      · refine e_callP G_is_right (hr.mono (by decide)) tk T.m_is_right T.k_is_right T.b_is_right ?_
        · refine a_cons ?_ ?_
          · exact e_var (i := 0)
          · refine a_cons ?_ ?_
            · exact e_var (i := 1)
            · refine a_cons ?_ ?_
              · exact e_var (i := 2)
              · exact a_nil
theorem ok_is_table (T : Txt K mg A) (G_check_counts : FnOk P wd K mg base (L2.CX P wd) 4 A.a_check_counts A.d_check_counts ["before", "after"] (spP ⟨K, mg, Tb⟩ check_counts)) (G_is_right : FnOk P wd K mg base (L2.CX P wd) 3 A.a_is_right A.d_is_right ["before", "after", "thing"] (spP ⟨K, mg, Tb⟩ is_right)) : FnOk P wd K mg base (L2.CX P wd) 5 A.a_is_table A.d_is_table ["before", "after", "thing"] (spP ⟨K, mg, Tb⟩ is_table) := fnP T.f_is_table sc_is_table (bd_is_table T G_check_counts G_is_right)
theorem okK_is_table (T : Txt K mg A) (G_check_counts : FnOk P wd K mg base (L2.CX P wd) 4 A.a_check_counts A.d_check_counts ["before", "after"] (spP ⟨K, mg, Tb⟩ check_counts)) (G_is_right : FnOk P wd K mg base (L2.CX P wd) 3 A.a_is_right A.d_is_right ["before", "after", "thing"] (spP ⟨K, mg, Tb⟩ is_right)) : FnOk P wd K mg base (L2.CX P wd) 5 A.a_is_table A.d_is_table ["before", "after", "thing"] (spK ⟨K, mg, Tb⟩ is_table_K) := fnK T.f_is_table sc_is_table (bd_is_table T G_check_counts G_is_right)
set_option maxHeartbeats 8000000 in
theorem bd_movers_of (T : Txt K mg A)  : BodyIs P wd K mg base Tb n_movers_of "movers_of" (defScope s_movers_of) (defBody s_movers_of) A.a_movers_of 0 m_movers_of := by
  intro cdv Ar outer s H E hr
  have tk : Takes (cxOf (L2.CX P wd) P wd K mg base n_movers_of "movers_of" (defScope s_movers_of) A.a_movers_of cdv Ar outer s H E) (Wdef E) := takes_of rfl rfl rfl rfl
  refine ss_one ?_
  · refine s_ret ?_
    · refine e_b (cr_sumA rfl) fSumA_of T.z_sum rfl ?_
      · refine a_cons ?_ ?_
        · refine e_lc2X (is := ([1] ++ ([2] ++ []))) (is2 := ([3] ++ ([4] ++ []))) (vs1 := [3, 4]) (own := [("at", 1), ("row", 2), ("there", 3), ("much", 4)]) kLst_new rfl sc_movers_of.nd ?_ (blk_of (by kernel_rfl)) ?_ ?_ ?_ ?_ ?_ ?_
          · refine i_enm ?_ T.z_enumerate
            · refine a_cons ?_ ?_
              · exact e_var (i := 0)
              · exact a_nil
          · intro _ _ _ _ _
            refine g_tp rfl ?_
            · refine gs_cons ?_ ?_
              · exact g_nm (i := 1) sc_movers_of.nd
              · refine gs_cons ?_ ?_
                · exact g_nm (i := 2) sc_movers_of.nd
                · exact gs_nil (is := [])
          · intro _ _ _ _ _
            exact ts_nil
          · intro _ _ _ _ _
            refine i_enm ?_ T.z_enumerate
            · refine a_cons ?_ ?_
              · exact e_var (i := 2)
              · exact a_nil
          · intro _ _ _ _ _
            refine g_tp rfl ?_
            · refine gs_cons ?_ ?_
              · exact g_nm (i := 3) sc_movers_of.nd
              · refine gs_cons ?_ ?_
                · exact g_nm (i := 4) sc_movers_of.nd
                · exact gs_nil (is := [])
          · intro _ _ _ _ _
            refine ts_one ?_
            · refine t_cmp (op_neD hr.units) fNe_of ?_ ?_
              · exact e_var (i := 3)
              · exact e_var (i := 1)
          · intro _ _ _ _ _
            exact e_var (i := 4)
        · exact a_nil
theorem ok_movers_of (T : Txt K mg A)  : FnOk P wd K mg base (L2.CX P wd) 1 A.a_movers_of A.d_movers_of ["table"] (spP ⟨K, mg, Tb⟩ movers_of) := fnP T.f_movers_of sc_movers_of (bd_movers_of T )
theorem okK_movers_of (T : Txt K mg A)  : FnOk P wd K mg base (L2.CX P wd) 1 A.a_movers_of A.d_movers_of ["table"] (spK ⟨K, mg, Tb⟩ movers_of_K) := fnK T.f_movers_of sc_movers_of (bd_movers_of T )
set_option maxHeartbeats 8000000 in
theorem bd_movers (T : Txt K mg A) (G_check_counts : FnOk P wd K mg base (L2.CX P wd) 4 A.a_check_counts A.d_check_counts ["before", "after"] (spP ⟨K, mg, Tb⟩ check_counts)) (G_is_right : FnOk P wd K mg base (L2.CX P wd) 3 A.a_is_right A.d_is_right ["before", "after", "thing"] (spP ⟨K, mg, Tb⟩ is_right)) (G_movers_of : FnOk P wd K mg base (L2.CX P wd) 1 A.a_movers_of A.d_movers_of ["table"] (spP ⟨K, mg, Tb⟩ movers_of)) (I0 : InitOk P wd K mg base A) : BodyIs P wd K mg base Tb n_movers "movers" (defScope s_movers) (defBody s_movers) A.a_movers 4 m_movers := by
  intro cdv Ar outer s H E hr
  have tk : Takes (cxOf (L2.CX P wd) P wd K mg base n_movers "movers" (defScope s_movers) A.a_movers cdv Ar outer s H E) (Wdef E) := takes_of rfl rfl rfl rfl
  refine ss_cons ?_ ?_
  · refine s_expr ?_
    · refine e_callP G_check_counts (hr.mono (by decide)) tk T.m_check_counts T.k_check_counts T.b_check_counts ?_
      · refine a_cons ?_ ?_
        · exact e_var (i := 0)
        · refine a_cons ?_ ?_
          · exact e_var (i := 1)
          · exact a_nil
  · refine ss_cons ?_ ?_
    · refine s_if ?_ ?_ ?_
      · refine t_not ?_
        · refine t_truth ?_
          · refine e_callP G_is_right (hr.mono (by decide)) tk T.m_is_right T.k_is_right T.b_is_right ?_
            · refine a_cons ?_ ?_
              · exact e_var (i := 0)
              · refine a_cons ?_ ?_
                · exact e_var (i := 1)
                · refine a_cons ?_ ?_
                  · exact e_var (i := 2)
                  · exact a_nil
      · refine ss_one ?_
        · refine s_raise1 T.e_BadTable I0 (hr.mono (by decide)) T.initB tk rfl ?_
          · refine a_cons ?_ ?_
            · exact e_var (i := 2)
            · exact a_nil
      · exact ss_nil
    · refine ss_one ?_
      · refine s_ret ?_
        · refine e_callP G_movers_of (hr.mono (by decide)) tk T.m_movers_of T.k_movers_of T.b_movers_of ?_
          · refine a_cons ?_ ?_
            · exact e_var (i := 2)
            · exact a_nil
theorem ok_movers (T : Txt K mg A) (G_check_counts : FnOk P wd K mg base (L2.CX P wd) 4 A.a_check_counts A.d_check_counts ["before", "after"] (spP ⟨K, mg, Tb⟩ check_counts)) (G_is_right : FnOk P wd K mg base (L2.CX P wd) 3 A.a_is_right A.d_is_right ["before", "after", "thing"] (spP ⟨K, mg, Tb⟩ is_right)) (G_movers_of : FnOk P wd K mg base (L2.CX P wd) 1 A.a_movers_of A.d_movers_of ["table"] (spP ⟨K, mg, Tb⟩ movers_of)) (I0 : InitOk P wd K mg base A) : FnOk P wd K mg base (L2.CX P wd) 5 A.a_movers A.d_movers ["before", "after", "table"] (spP ⟨K, mg, Tb⟩ movers) := fnP T.f_movers sc_movers (bd_movers T G_check_counts G_is_right G_movers_of I0)
theorem okK_movers (T : Txt K mg A) (G_check_counts : FnOk P wd K mg base (L2.CX P wd) 4 A.a_check_counts A.d_check_counts ["before", "after"] (spP ⟨K, mg, Tb⟩ check_counts)) (G_is_right : FnOk P wd K mg base (L2.CX P wd) 3 A.a_is_right A.d_is_right ["before", "after", "thing"] (spP ⟨K, mg, Tb⟩ is_right)) (G_movers_of : FnOk P wd K mg base (L2.CX P wd) 1 A.a_movers_of A.d_movers_of ["table"] (spP ⟨K, mg, Tb⟩ movers_of)) (I0 : InitOk P wd K mg base A) : FnOk P wd K mg base (L2.CX P wd) 5 A.a_movers A.d_movers ["before", "after", "table"] (spK ⟨K, mg, Tb⟩ movers_K) := fnK T.f_movers sc_movers (bd_movers T G_check_counts G_is_right G_movers_of I0)
set_option maxHeartbeats 8000000 in
theorem bd__law_taken (T : Txt K mg A)  : BodyIs P wd K mg base Tb n__law_taken "_law_taken" (defScope s__law_taken) (defBody s__law_taken) A.a__law_taken 0 m__law_taken := by
  intro cdv Ar outer s H E hr
  have tk : Takes (cxOf (L2.CX P wd) P wd K mg base n__law_taken "_law_taken" (defScope s__law_taken) A.a__law_taken cdv Ar outer s H E) (Wdef E) := takes_of rfl rfl rfl rfl
  refine ss_cons ?_ ?_
  · refine s_if ?_ ?_ ?_
    · refine t_cmp op_gt (fInt0_of fun _ _ _ => .bl _) ?_ ?_
      · refine e_ix (hu1 hr) ?_ ?_
        · exact e_var (i := 0)
        · exact e_int
      · exact e_int
    · refine ss_cons ?_ ?_
      · refine s_set (i := 2) ?_ sc__law_taken.nd
        · refine e_mod ?_ ?_
          · refine e_bT call_int1 fInt1_of T.z_int rfl ?_
            · refine a_cons ?_ ?_
              · refine e_ix (hu1 hr) ?_ ?_
                · exact e_var (i := 0)
                · exact e_int
              · exact a_nil
          · exact e_var (i := 1)
      · refine ss_cons ?_ ?_
        · refine s_setIx (hu1 hr) ?_ ?_ ?_
          · refine e_div ?_ ?_
            · refine e_ix (hu1 hr) ?_ ?_
              · exact e_var (i := 0)
              · exact e_int
            · exact e_var (i := 1)
          · exact e_var (i := 0)
          · exact e_int
        · refine ss_one ?_
          · refine s_ret ?_
            · exact e_var (i := 2)
    · exact ss_nil
  · refine ss_cons ?_ ?_
    · refine s_setIx (hu1 hr) ?_ ?_ ?_
      · refine e_add ?_ ?_
        · refine e_ix (hu1 hr) ?_ ?_
          · exact e_var (i := 0)
          · exact e_int
        · exact e_int
      · exact e_var (i := 0)
      · exact e_int
    · refine ss_cons ?_ ?_
      · refine s_if ?_ ?_ ?_
        · refine t_cmp op_gt (fInt0_of fun _ _ _ => .bl _) ?_ ?_
          · refine e_ix (hu1 hr) ?_ ?_
            · exact e_var (i := 0)
            · exact e_int
          · refine e_b call_lenA fLen_of T.z_len rfl ?_
            · refine a_cons ?_ ?_
              · refine e_ix (hu1 hr) ?_ ?_
                · exact e_var (i := 0)
                · exact e_int
              · exact a_nil
        · refine ss_cons ?_ ?_
          · refine s_setIx (hu1 hr) ?_ ?_ ?_
            · refine e_mod ?_ ?_
              · refine e_bT call_int1 fInt1_of T.z_int rfl ?_
                · refine a_cons ?_ ?_
                  · refine e_add ?_ ?_
                    · refine e_mul ?_ ?_
                      · refine e_ix (hu1 hr) ?_ ?_
                        · exact e_var (i := 0)
                        · exact e_int
                      · exact e_int
                    · exact e_int
                  · exact a_nil
              · exact e_int
            · exact e_var (i := 0)
            · exact e_int
          · refine ss_one ?_
            · refine s_ret ?_
              · refine e_mod ?_ ?_
                · refine e_bT call_int1 fInt1_of T.z_int rfl ?_
                  · refine a_cons ?_ ?_
                    · refine e_div ?_ ?_
                      · refine e_ix (hu1 hr) ?_ ?_
                        · exact e_var (i := 0)
                        · exact e_int
                      · exact e_int
                    · exact a_nil
                · exact e_var (i := 1)
        · exact ss_nil
      · refine ss_cons ?_ ?_
        · refine s_set (i := 3) ?_ sc__law_taken.nd
          · refine e_ix (hu1 hr) ?_ ?_
            · refine e_ix (hu1 hr) ?_ ?_
              · exact e_var (i := 0)
              · exact e_int
            · refine e_sub ?_ ?_
              · refine e_ix (hu1 hr) ?_ ?_
                · exact e_var (i := 0)
                · exact e_int
              · exact e_int
        · refine ss_cons ?_ ?_
          · refine s_setIx (hu1 hr) ?_ ?_ ?_
            · refine e_mod ?_ ?_
              · refine e_bT call_int1 fInt1_of T.z_int rfl ?_
                · refine a_cons ?_ ?_
                  · refine e_add ?_ ?_
                    · refine e_add ?_ ?_
                      · refine e_mul ?_ ?_
                        · refine e_ix (hu1 hr) ?_ ?_
                          · exact e_var (i := 0)
                          · exact e_int
                        · exact e_int
                      · exact e_var (i := 3)
                    · exact e_int
                  · exact a_nil
              · exact e_int
            · exact e_var (i := 0)
            · exact e_int
          · refine ss_cons ?_ ?_
            · refine s_if ?_ ?_ ?_
              · refine t_cmp op_ge (fInt0_of fun _ _ _ => .bl _) ?_ ?_
                · exact e_var (i := 3)
                · refine e_pow ?_ ?_
                  · exact e_int
                  · exact e_int
              · refine ss_one ?_
                · refine s_setIx (hu1 hr) ?_ ?_ ?_
                  · refine e_div ?_ ?_
                    · exact e_var (i := 3)
                    · exact e_var (i := 1)
                  · exact e_var (i := 0)
                  · exact e_int
              · exact ss_nil
            · refine ss_one ?_
              · refine s_ret ?_
                · refine e_mod ?_ ?_
                  · refine e_bT call_int1 fInt1_of T.z_int rfl ?_
                    · refine a_cons ?_ ?_
                      · exact e_var (i := 3)
                      · exact a_nil
                  · exact e_var (i := 1)
theorem okK__law_taken (T : Txt K mg A)  : FnOk P wd K mg base (L2.CX P wd) 1 A.a__law_taken A.d__law_taken ["row", "many"] (spK ⟨K, mg, Tb⟩ _law_taken_K) := fnK T.f__law_taken sc__law_taken (bd__law_taken T )
set_option maxHeartbeats 8000000 in
theorem bd__law_pick (T : Txt K mg A) (K__law_taken : FnOk P wd K mg base (L2.CX P wd) 1 A.a__law_taken A.d__law_taken ["row", "many"] (spK ⟨K, mg, Tb⟩ _law_taken_K)) : BodyIs P wd K mg base Tb n__law_pick "_law_pick" (defScope s__law_pick) (defBody s__law_pick) A.a__law_pick 1 m__law_pick := by
  intro cdv Ar outer s H E hr
  have tk : Takes (cxOf (L2.CX P wd) P wd K mg base n__law_pick "_law_pick" (defScope s__law_pick) A.a__law_pick cdv Ar outer s H E) (Wdef E) := takes_of rfl rfl rfl rfl
  refine ss_one ?_
  · refine s_ret ?_
    · refine e_ix (hu1 hr) ?_ ?_
      · exact e_var (i := 1)
      · refine e_callK K__law_taken (hr.mono (by decide)) tk T.m__law_taken T.k__law_taken T.b__law_taken ?_
        · refine a_cons ?_ ?_
          · exact e_var (i := 0)
          · refine a_cons ?_ ?_
            · refine e_b call_lenA fLen_of T.z_len rfl ?_
              · refine a_cons ?_ ?_
                · exact e_var (i := 1)
                · exact a_nil
            · exact a_nil
theorem okK__law_pick (T : Txt K mg A) (K__law_taken : FnOk P wd K mg base (L2.CX P wd) 1 A.a__law_taken A.d__law_taken ["row", "many"] (spK ⟨K, mg, Tb⟩ _law_taken_K)) : FnOk P wd K mg base (L2.CX P wd) 2 A.a__law_pick A.d__law_pick ["row", "some"] (spK ⟨K, mg, Tb⟩ _law_pick_K) := fnK T.f__law_pick sc__law_pick (bd__law_pick T K__law_taken)
set_option maxHeartbeats 8000000 in
theorem bd__law_alike (T : Txt K mg A)  {k : Nat} (hk : 0 ≤ k) {_law_alike_n : List D → R} (G__law_alike : FnOk P wd K mg base (L2.CX P wd) k A.a__law_alike A.d__law_alike ["found", "due"] (spP ⟨K, mg, Tb⟩ _law_alike_n)) : BodyIs P wd K mg base Tb n__law_alike "_law_alike" (defScope s__law_alike) (defBody s__law_alike) A.a__law_alike k (m__law_alike _law_alike_n) := by
  intro cdv Ar outer s H E hr
  have tk : Takes (cxOf (L2.CX P wd) P wd K mg base n__law_alike "_law_alike" (defScope s__law_alike) A.a__law_alike cdv Ar outer s H E) (Wdef E) := takes_of rfl rfl rfl rfl
  refine ss_cons ?_ ?_
  · refine s_if ?_ ?_ ?_
    · refine t_truth ?_
      · refine e_b call_isiA fIsi_of T.z_isinstance rfl ?_
        · refine a_cons ?_ ?_
          · exact e_var (i := 1)
          · refine a_cons ?_ ?_
            · refine e_tup ?_
              · refine a_cons ?_ ?_
                · exact e_ty (n := "tuple") T.z_tuple rfl
                · refine a_cons ?_ ?_
                  · exact e_ty (n := "list") T.z_list rfl
                  · exact a_nil
            · exact a_nil
    · refine ss_cons ?_ ?_
      · refine s_if ?_ ?_ ?_
        · refine t_w ?_
          · refine w_or ?_ ?_
            · refine t_not ?_
              · refine t_truth ?_
                · refine e_b call_isiA fIsi_of T.z_isinstance rfl ?_
                  · refine a_cons ?_ ?_
                    · exact e_var (i := 0)
                    · refine a_cons ?_ ?_
                      · refine e_tup ?_
                        · refine a_cons ?_ ?_
                          · exact e_ty (n := "tuple") T.z_tuple rfl
                          · refine a_cons ?_ ?_
                            · exact e_ty (n := "list") T.z_list rfl
                            · exact a_nil
                      · exact a_nil
            · refine w_or1 ?_
              · refine t_cmp (op_neD hr.units) fNe_of ?_ ?_
                · refine e_b call_isiA fIsi_of T.z_isinstance rfl ?_
                  · refine a_cons ?_ ?_
                    · exact e_var (i := 0)
                    · refine a_cons ?_ ?_
                      · exact e_ty (n := "list") T.z_list rfl
                      · exact a_nil
                · refine e_b call_isiA fIsi_of T.z_isinstance rfl ?_
                  · refine a_cons ?_ ?_
                    · exact e_var (i := 1)
                    · refine a_cons ?_ ?_
                      · exact e_ty (n := "list") T.z_list rfl
                      · exact a_nil
        · refine ss_one ?_
          · refine s_ret ?_
            · exact e_bl
        · exact ss_nil
      · refine ss_cons ?_ ?_
        · refine s_if ?_ ?_ ?_
          · refine t_cmp (op_neD hr.units) fNe_of ?_ ?_
            · refine e_b call_lenA fLen_of T.z_len rfl ?_
              · refine a_cons ?_ ?_
                · exact e_var (i := 0)
                · exact a_nil
            · refine e_b call_lenA fLen_of T.z_len rfl ?_
              · refine a_cons ?_ ?_
                · exact e_var (i := 1)
                · exact a_nil
          · refine ss_one ?_
            · refine s_ret ?_
              · exact e_bl
          · exact ss_nil
        · refine ss_one ?_
          · refine s_ret ?_
            · refine e_cmp (op_eqD hr.units) fEq_of ?_ ?_
              · refine e_lcX (is := [2]) (own := [("k", 2)]) kLst_new rfl sc__law_alike.nd ?_ (blk_of (by kernel_rfl)) ?_ ?_ ?_
                · refine i_rn1 ?_ T.z_range
                  · refine a_cons ?_ ?_
                    · refine e_b call_lenA fLen_of T.z_len rfl ?_
                      · refine a_cons ?_ ?_
                        · exact e_var (i := 1)
                        · exact a_nil
                    · exact a_nil
                · intro _ _ _ _ _
                  exact g_nm (i := 2) sc__law_alike.nd
                · intro _ _ _ _ _
                  refine ts_one ?_
                  · refine t_not ?_
                    · refine t_truth ?_
                      · refine e_callP G__law_alike (hr.mono (by omega)) takes0 T.m__law_alike T.k__law_alike T.b__law_alike ?_
                        · refine a_cons ?_ ?_
                          · refine e_ix (hu1 hr) ?_ ?_
                            · exact e_var (i := 0)
                            · exact e_var (i := 2)
                          · refine a_cons ?_ ?_
                            · refine e_ix (hu1 hr) ?_ ?_
                              · exact e_var (i := 1)
                              · exact e_var (i := 2)
                            · exact a_nil
                · intro _ _ _ _ _
                  exact e_var (i := 2)
              · refine e_lst ?_
                · exact a_nil
    · exact ss_nil
  · refine ss_cons ?_ ?_
    · refine s_if ?_ ?_ ?_
      · refine t_truth ?_
        · refine e_b call_isiA fIsi_of T.z_isinstance rfl ?_
          · refine a_cons ?_ ?_
            · exact e_var (i := 1)
            · refine a_cons ?_ ?_
              · exact e_ty (n := "dict") T.z_dict rfl
              · exact a_nil
      · refine ss_cons ?_ ?_
        · refine s_if ?_ ?_ ?_
          · refine t_w ?_
            · refine w_or ?_ ?_
              · refine t_not ?_
                · refine t_truth ?_
                  · refine e_b call_isiA fIsi_of T.z_isinstance rfl ?_
                    · refine a_cons ?_ ?_
                      · exact e_var (i := 0)
                      · refine a_cons ?_ ?_
                        · exact e_ty (n := "dict") T.z_dict rfl
                        · exact a_nil
              · refine w_or1 ?_
                · refine t_cmp (op_neD hr.units) fNe_of ?_ ?_
                  · refine e_bT (call_listA rfl) (fList_of kLst_new) T.z_list rfl ?_
                    · refine a_cons ?_ ?_
                      · exact e_var (i := 0)
                      · exact a_nil
                  · refine e_bT (call_listA rfl) (fList_of kLst_new) T.z_list rfl ?_
                    · refine a_cons ?_ ?_
                      · exact e_var (i := 1)
                      · exact a_nil
          · refine ss_one ?_
            · refine s_ret ?_
              · exact e_bl
          · exact ss_nil
        · refine ss_one ?_
          · refine s_ret ?_
            · refine e_cmp (op_eqD hr.units) fEq_of ?_ ?_
              · refine e_lcD (is := [3]) (own := [("key", 3)]) kLst_new rfl sc__law_alike.nd (blk_of (by kernel_rfl)) ?_ ?_ ?_
                · intro _ _ _ _ _
                  exact g_nm (i := 3) sc__law_alike.nd
                · intro _ _ _ _ _
                  refine ts_one ?_
                  · refine t_not ?_
                    · refine t_truth ?_
                      · refine e_callP G__law_alike (hr.mono (by omega)) takes0 T.m__law_alike T.k__law_alike T.b__law_alike ?_
                        · refine a_cons ?_ ?_
                          · refine e_ix (hu1 hr) ?_ ?_
                            · exact e_var (i := 0)
                            · exact e_var (i := 3)
                          · refine a_cons ?_ ?_
                            · refine e_ix (hu1 hr) ?_ ?_
                              · exact e_var (i := 1)
                              · exact e_var (i := 3)
                            · exact a_nil
                · intro _ _ _ _ _
                  exact e_var (i := 3)
              · refine e_lst ?_
                · exact a_nil
      · exact ss_nil
    · refine ss_cons ?_ ?_
      · refine s_if ?_ ?_ ?_
        · refine t_w ?_
          · refine w_or ?_ ?_
            · refine t_isN ?_
              · exact e_var (i := 1)
            · refine w_or1 ?_
              · refine t_truth ?_
                · refine e_b call_isiA fIsi_of T.z_isinstance rfl ?_
                  · refine a_cons ?_ ?_
                    · exact e_var (i := 1)
                    · refine a_cons ?_ ?_
                      · exact e_ty (n := "str") T.z_str rfl
                      · exact a_nil
        · refine ss_one ?_
          · refine s_ret ?_
            · refine e_and ?_ ?_
              · refine e_cmp (op_eqD hr.units) fEq_of ?_ ?_
                · exact e_var (i := 0)
                · exact e_var (i := 1)
              · refine e_one ?_
                · refine e_cmp (op_eqD hr.units) fEq_of ?_ ?_
                  · refine e_b call_isiA fIsi_of T.z_isinstance rfl ?_
                    · refine a_cons ?_ ?_
                      · exact e_var (i := 0)
                      · refine a_cons ?_ ?_
                        · exact e_ty (n := "str") T.z_str rfl
                        · exact a_nil
                  · refine e_b call_isiA fIsi_of T.z_isinstance rfl ?_
                    · refine a_cons ?_ ?_
                      · exact e_var (i := 1)
                      · refine a_cons ?_ ?_
                        · exact e_ty (n := "str") T.z_str rfl
                        · exact a_nil
        · exact ss_nil
      · refine ss_one ?_
        · refine s_ret ?_
          · refine e_and ?_ ?_
            · refine e_b call_isiA fIsi_of T.z_isinstance rfl ?_
              · refine a_cons ?_ ?_
                · exact e_var (i := 0)
                · refine a_cons ?_ ?_
                  · exact e_ty (n := "int") T.z_int rfl
                  · exact a_nil
            · refine e_and ?_ ?_
              · refine e_cmp (op_eqD hr.units) fEq_of ?_ ?_
                · refine e_b call_isiA fIsi_of T.z_isinstance rfl ?_
                  · refine a_cons ?_ ?_
                    · exact e_var (i := 0)
                    · refine a_cons ?_ ?_
                      · exact e_ty (n := "bool") T.z_bool rfl
                      · exact a_nil
                · refine e_b call_isiA fIsi_of T.z_isinstance rfl ?_
                  · refine a_cons ?_ ?_
                    · exact e_var (i := 1)
                    · refine a_cons ?_ ?_
                      · exact e_ty (n := "bool") T.z_bool rfl
                      · exact a_nil
              · refine e_one ?_
                · refine e_cmp (op_eqD hr.units) fEq_of ?_ ?_
                  · exact e_var (i := 0)
                  · exact e_var (i := 1)
theorem okn__law_alike (T : Txt K mg A)  : ∀ n, FnOk P wd K mg base (L2.CX P wd) (1 + n) A.a__law_alike A.d__law_alike ["found", "due"] (spP ⟨K, mg, Tb⟩ (_law_alike_f n))
  | 0 => fnStuck
  | n + 1 => fnP T.f__law_alike sc__law_alike (bd__law_alike T  (by omega) (okn__law_alike T  n))
theorem ok__law_alike (T : Txt K mg A)  : FnOk P wd K mg base (L2.CX P wd) 7 A.a__law_alike A.d__law_alike ["found", "due"] (spP ⟨K, mg, Tb⟩ _law_alike) := okn__law_alike T  6
set_option maxHeartbeats 8000000 in
theorem bd__law_movers (T : Txt K mg A)  : BodyIs P wd K mg base Tb n__law_movers "_law_movers" (defScope s__law_movers) (defBody s__law_movers) A.a__law_movers 0 m__law_movers := by
  intro cdv Ar outer s H E hr
  have tk : Takes (cxOf (L2.CX P wd) P wd K mg base n__law_movers "_law_movers" (defScope s__law_movers) A.a__law_movers cdv Ar outer s H E) (Wdef E) := takes_of rfl rfl rfl rfl
  refine ss_one ?_
  · refine s_ret ?_
    · refine e_b (cr_sumA rfl) fSumA_of T.z_sum rfl ?_
      · refine a_cons ?_ ?_
        · refine e_lcX (is := [1]) (own := [("k", 1)]) kLst_new rfl sc__law_movers.nd ?_ (blk_of (by kernel_rfl)) ?_ ?_ ?_
          · refine i_rn1 ?_ T.z_range
            · refine a_cons ?_ ?_
              · refine e_b call_lenA fLen_of T.z_len rfl ?_
                · refine a_cons ?_ ?_
                  · exact e_var (i := 0)
                  · exact a_nil
              · exact a_nil
          · intro _ _ _ _ _
            exact g_nm (i := 1) sc__law_movers.nd
          · intro _ _ _ _ _
            exact ts_nil
          · intro _ _ _ _ _
            refine e_sub ?_ ?_
            · refine e_b (cr_sumA rfl) fSumA_of T.z_sum rfl ?_
              · refine a_cons ?_ ?_
                · refine e_ix (hu1 hr) ?_ ?_
                  · exact e_var (i := 0)
                  · exact e_var (i := 1)
                · exact a_nil
            · refine e_ix (hu1 hr) ?_ ?_
              · refine e_ix (hu1 hr) ?_ ?_
                · exact e_var (i := 0)
                · exact e_var (i := 1)
              · exact e_var (i := 1)
        · exact a_nil
theorem ok__law_movers (T : Txt K mg A)  : FnOk P wd K mg base (L2.CX P wd) 1 A.a__law_movers A.d__law_movers ["table"] (spP ⟨K, mg, Tb⟩ _law_movers) := fnP T.f__law_movers sc__law_movers (bd__law_movers T )
theorem okK__law_movers (T : Txt K mg A)  : FnOk P wd K mg base (L2.CX P wd) 1 A.a__law_movers A.d__law_movers ["table"] (spK ⟨K, mg, Tb⟩ _law_movers_K) := fnK T.f__law_movers sc__law_movers (bd__law_movers T )
set_option maxHeartbeats 8000000 in
theorem bd__law_is_table (T : Txt K mg A)  : BodyIs P wd K mg base Tb n__law_is_table "_law_is_table" (defScope s__law_is_table) (defBody s__law_is_table) A.a__law_is_table 0 m__law_is_table := by
  intro cdv Ar outer s H E hr
  have tk : Takes (cxOf (L2.CX P wd) P wd K mg base n__law_is_table "_law_is_table" (defScope s__law_is_table) A.a__law_is_table cdv Ar outer s H E) (Wdef E) := takes_of rfl rfl rfl rfl
  refine ss_cons ?_ ?_
  · refine s_if ?_ ?_ ?_
    · refine t_w ?_
      · refine w_or ?_ ?_
        · refine t_not ?_
          · refine t_truth ?_
            · refine e_b call_isiA fIsi_of T.z_isinstance rfl ?_
              · refine a_cons ?_ ?_
                · exact e_var (i := 2)
                · refine a_cons ?_ ?_
                  · exact e_ty (n := "tuple") T.z_tuple rfl
                  · exact a_nil
        · refine w_or1 ?_
          · refine t_cmp (op_neD hr.units) fNe_of ?_ ?_
            · refine e_b call_lenA fLen_of T.z_len rfl ?_
              · refine a_cons ?_ ?_
                · exact e_var (i := 2)
                · exact a_nil
            · refine e_b call_lenA fLen_of T.z_len rfl ?_
              · refine a_cons ?_ ?_
                · exact e_var (i := 0)
                · exact a_nil
    · refine ss_one ?_
      · refine s_ret ?_
        · exact e_bl
    · exact ss_nil
  · refine ss_cons ?_ ?_
    · refine s_for (is := [3]) (passes_of rfl) rfl ?_ ?_ ?_ []
      · refine i_rn1 ?_ T.z_range
        · refine a_cons ?_ ?_
          · refine e_b call_lenA fLen_of T.z_len rfl ?_
            · refine a_cons ?_ ?_
              · exact e_var (i := 0)
              · exact a_nil
          · exact a_nil
      · exact g_nm (i := 3) sc__law_is_table.nd
      · refine ss_cons ?_ ?_
        · refine s_if ?_ ?_ ?_
          · refine t_w ?_
            · refine w_or ?_ ?_
              · refine t_not ?_
                · refine t_truth ?_
                  · refine e_b call_isiA fIsi_of T.z_isinstance rfl ?_
                    · refine a_cons ?_ ?_
                      · refine e_ix (hu1 hr) ?_ ?_
                        · exact e_var (i := 2)
                        · exact e_var (i := 3)
                      · refine a_cons ?_ ?_
                        · exact e_ty (n := "tuple") T.z_tuple rfl
                        · exact a_nil
              · refine w_or1 ?_
                · refine t_cmp (op_neD hr.units) fNe_of ?_ ?_
                  · refine e_b call_lenA fLen_of T.z_len rfl ?_
                    · refine a_cons ?_ ?_
                      · refine e_ix (hu1 hr) ?_ ?_
                        · exact e_var (i := 2)
                        · exact e_var (i := 3)
                      · exact a_nil
                  · refine e_b call_lenA fLen_of T.z_len rfl ?_
                    · refine a_cons ?_ ?_
                      · exact e_var (i := 0)
                      · exact a_nil
          · refine ss_one ?_
            · refine s_ret ?_
              · exact e_bl
          · exact ss_nil
        · refine ss_one ?_
          · refine s_if ?_ ?_ ?_
            · refine t_w ?_
              · refine w_or ?_ ?_
                · refine t_cmp (op_neD hr.units) fNe_of ?_ ?_
                  · refine e_lcX (is := [4]) (own := [("one", 4)]) kLst_new rfl sc__law_is_table.nd ?_ (blk_of (by kernel_rfl)) ?_ ?_ ?_
                    · refine i_seq ?_
                      · refine e_ix (hu1 hr) ?_ ?_
                        · exact e_var (i := 2)
                        · exact e_var (i := 3)
                    · intro _ _ _ _ _
                      exact g_nm (i := 4) sc__law_is_table.nd
                    · intro _ _ _ _ _
                      refine ts_one ?_
                      · refine t_w ?_
                        · refine w_or ?_ ?_
                          · refine t_not ?_
                            · refine t_truth ?_
                              · refine e_b call_isiA fIsi_of T.z_isinstance rfl ?_
                                · refine a_cons ?_ ?_
                                  · exact e_var (i := 4)
                                  · refine a_cons ?_ ?_
                                    · exact e_ty (n := "int") T.z_int rfl
                                    · exact a_nil
                          · refine w_or ?_ ?_
                            · refine t_truth ?_
                              · refine e_b call_isiA fIsi_of T.z_isinstance rfl ?_
                                · refine a_cons ?_ ?_
                                  · exact e_var (i := 4)
                                  · refine a_cons ?_ ?_
                                    · exact e_ty (n := "bool") T.z_bool rfl
                                    · exact a_nil
                            · refine w_or1 ?_
                              · refine t_cmp op_lt (fInt0_of fun _ _ _ => .bl _) ?_ ?_
                                · exact e_var (i := 4)
                                · exact e_int
                    · intro _ _ _ _ _
                      exact e_var (i := 4)
                  · refine e_lst ?_
                    · exact a_nil
                · refine w_or1 ?_
                  · refine t_cmp (op_neD hr.units) fNe_of ?_ ?_
                    · refine e_b (cr_sumA rfl) fSumA_of T.z_sum rfl ?_
                      · refine a_cons ?_ ?_
                        · refine e_ix (hu1 hr) ?_ ?_
                          · exact e_var (i := 2)
                          · exact e_var (i := 3)
                        · exact a_nil
                    · refine e_ix (hu1 hr) ?_ ?_
                      · exact e_var (i := 0)
                      · exact e_var (i := 3)
            · refine ss_one ?_
              · refine s_ret ?_
                · exact e_bl
            · exact ss_nil
    · refine ss_one ?_
      · refine s_ret ?_
        · refine e_cmp (op_eqD hr.units) fEq_of ?_ ?_
          · refine e_lcX (is := [3]) (own := [("k", 3)]) kLst_new rfl sc__law_is_table.nd ?_ (blk_of (by kernel_rfl)) ?_ ?_ ?_
            · refine i_rn1 ?_ T.z_range
              · refine a_cons ?_ ?_
                · refine e_b call_lenA fLen_of T.z_len rfl ?_
                  · refine a_cons ?_ ?_
                    · exact e_var (i := 1)
                    · exact a_nil
                · exact a_nil
            · intro _ _ _ _ _
              exact g_nm (i := 3) sc__law_is_table.nd
            · intro _ _ _ _ _
              refine ts_one ?_
              · refine t_cmp (op_neD hr.units) fNe_of ?_ ?_
                · refine e_b (cr_sumA rfl) fSumA_of T.z_sum rfl ?_
                  · refine a_cons ?_ ?_
                    · refine e_lcX (is := [5]) (own := [("row", 5)]) kLst_new rfl sc__law_is_table.nd ?_ (blk_of (by kernel_rfl)) ?_ ?_ ?_
                      · refine i_seq ?_
                        · exact e_var (i := 2)
                      · intro _ _ _ _ _
                        exact g_nm (i := 5) sc__law_is_table.nd
                      · intro _ _ _ _ _
                        exact ts_nil
                      · intro _ _ _ _ _
                        refine e_ix (hu1 hr) ?_ ?_
                        · exact e_var (i := 5)
                        · exact e_var (i := 3)
                    · exact a_nil
                · refine e_ix (hu1 hr) ?_ ?_
                  · exact e_var (i := 1)
                  · exact e_var (i := 3)
            · intro _ _ _ _ _
              exact e_var (i := 3)
          · refine e_lst ?_
            · exact a_nil
theorem ok__law_is_table (T : Txt K mg A)  : FnOk P wd K mg base (L2.CX P wd) 1 A.a__law_is_table A.d__law_is_table ["before", "after", "thing"] (spP ⟨K, mg, Tb⟩ _law_is_table) := fnP T.f__law_is_table sc__law_is_table (bd__law_is_table T )
theorem okK__law_is_table (T : Txt K mg A)  : FnOk P wd K mg base (L2.CX P wd) 1 A.a__law_is_table A.d__law_is_table ["before", "after", "thing"] (spK ⟨K, mg, Tb⟩ _law_is_table_K) := fnK T.f__law_is_table sc__law_is_table (bd__law_is_table T )
set_option maxHeartbeats 8000000 in
theorem bd__law_drawn (T : Txt K mg A) (K__law_taken : FnOk P wd K mg base (L2.CX P wd) 1 A.a__law_taken A.d__law_taken ["row", "many"] (spK ⟨K, mg, Tb⟩ _law_taken_K)) : BodyIs P wd K mg base Tb n__law_drawn "_law_drawn" (defScope s__law_drawn) (defBody s__law_drawn) A.a__law_drawn 1 m__law_drawn := by
  intro cdv Ar outer s H E hr
  have tk : Takes (cxOf (L2.CX P wd) P wd K mg base n__law_drawn "_law_drawn" (defScope s__law_drawn) A.a__law_drawn cdv Ar outer s H E) (Wdef E) := takes_of rfl rfl rfl rfl
  refine ss_cons ?_ ?_
  · refine s_set (i := 3) ?_ sc__law_drawn.nd
    · refine e_lstC ?_
      · exact a_nil
  · refine ss_cons ?_ ?_
    · refine s_for (is := [4]) (passes_of rfl) rfl ?_ ?_ ?_ []
      · refine i_rn1 ?_ T.z_range
        · refine a_cons ?_ ?_
          · exact e_var (i := 1)
          · exact a_nil
      · exact g_nm (i := 4) sc__law_drawn.nd
      · refine ss_one ?_
        · refine s_expr ?_
          · refine e_mL PySem.F.slot_list_append rfl mt_append fApp_of ?_ ?_
            · exact e_var (i := 3)
            · refine a_cons ?_ ?_
              · refine e_bin op_rep (fMulL_of kLstC_new) ?_ ?_
                · refine e_lst ?_
                  · refine a_cons ?_ ?_
                    · exact e_int
                    · exact a_nil
                · exact e_var (i := 1)
              · exact a_nil
    · refine ss_cons ?_ ?_
      · refine s_for (is := [4]) (passes_of rfl) rfl ?_ ?_ ?_ []
        · refine i_rn1 ?_ T.z_range
          · refine a_cons ?_ ?_
            · refine e_callK K__law_taken (hr.mono (by decide)) tk T.m__law_taken T.k__law_taken T.b__law_taken ?_
              · refine a_cons ?_ ?_
                · exact e_var (i := 0)
                · refine a_cons ?_ ?_
                  · refine e_add ?_ ?_
                    · exact e_var (i := 2)
                    · exact e_int
                  · exact a_nil
            · exact a_nil
        · exact g_nm (i := 4) sc__law_drawn.nd
        · refine ss_cons ?_ ?_
          · refine s_set (i := 5) ?_ sc__law_drawn.nd
            · refine e_ix (hu1 hr) ?_ ?_
              · exact e_var (i := 3)
              · refine e_callK K__law_taken (hr.mono (by decide)) tk T.m__law_taken T.k__law_taken T.b__law_taken ?_
                · refine a_cons ?_ ?_
                  · exact e_var (i := 0)
                  · refine a_cons ?_ ?_
                    · exact e_var (i := 1)
                    · exact a_nil
          · refine ss_one ?_
            · refine s_augIx (hu1 hr) ip_add (fInt0_of fun _ _ _ => .int _) ?_ ?_ ?_
              · exact e_var (i := 5)
              · refine e_callK K__law_taken (hr.mono (by decide)) tk T.m__law_taken T.k__law_taken T.b__law_taken ?_
                · refine a_cons ?_ ?_
                  · exact e_var (i := 0)
                  · refine a_cons ?_ ?_
                    · exact e_var (i := 1)
                    · exact a_nil
              · exact e_int
      · refine ss_frz (i := 3) ?_
        · refine ss_one ?_
          · refine s_ret ?_
            · refine e_tup ?_
              · refine a_cons ?_ ?_
                · refine e_lcX (is := [5]) (own := [("one", 5)]) kLst_new rfl sc__law_drawn.nd ?_ (blk_of (by kernel_rfl)) ?_ ?_ ?_
                  · refine i_seq ?_
                    · exact e_var (i := 3)
                  · intro _ _ _ _ _
                    exact g_nm (i := 5) sc__law_drawn.nd
                  · intro _ _ _ _ _
                    exact ts_nil
                  · intro _ _ _ _ _
                    refine e_b (cr_sumA rfl) fSumA_of T.z_sum rfl ?_
                    · refine a_cons ?_ ?_
                      · exact e_var (i := 5)
                      · exact a_nil
                · refine a_cons ?_ ?_
                  · refine e_lcX (is := [4]) (own := [("k", 4)]) kLst_new rfl sc__law_drawn.nd ?_ (blk_of (by kernel_rfl)) ?_ ?_ ?_
                    · refine i_rn1 ?_ T.z_range
                      · refine a_cons ?_ ?_
                        · exact e_var (i := 1)
                        · exact a_nil
                    · intro _ _ _ _ _
                      exact g_nm (i := 4) sc__law_drawn.nd
                    · intro _ _ _ _ _
                      exact ts_nil
                    · intro _ _ _ _ _
                      refine e_b (cr_sumA rfl) fSumA_of T.z_sum rfl ?_
                      · refine a_cons ?_ ?_
                        · refine e_lcX (is := [5]) (own := [("one", 5)]) kLst_new rfl sc__law_drawn.nd ?_ (blk_of (by kernel_rfl)) ?_ ?_ ?_
                          · refine i_seq ?_
                            · exact e_var (i := 3)
                          · intro _ _ _ _ _
                            exact g_nm (i := 5) sc__law_drawn.nd
                          · intro _ _ _ _ _
                            exact ts_nil
                          · intro _ _ _ _ _
                            refine e_ix (hu1 hr) ?_ ?_
                            · exact e_var (i := 5)
                            · exact e_var (i := 4)
                        · exact a_nil
                  · refine a_cons ?_ ?_
                    · refine e_bT call_tupleF fTuple_of T.z_tuple rfl ?_
                      · refine a_cons ?_ ?_
                        · refine e_lcX (is := [5]) (own := [("one", 5)]) kLst_new rfl sc__law_drawn.nd ?_ (blk_of (by kernel_rfl)) ?_ ?_ ?_
                          · refine i_seq ?_
                            · exact e_var (i := 3)
                          · intro _ _ _ _ _
                            exact g_nm (i := 5) sc__law_drawn.nd
                          · intro _ _ _ _ _
                            exact ts_nil
                          · intro _ _ _ _ _
                            refine e_bT call_tupleF fTuple_of T.z_tuple rfl ?_
                            · refine a_cons ?_ ?_
                              · exact e_var (i := 5)
                              · exact a_nil
                        · exact a_nil
                    · exact a_nil
theorem okK__law_drawn (T : Txt K mg A) (K__law_taken : FnOk P wd K mg base (L2.CX P wd) 1 A.a__law_taken A.d__law_taken ["row", "many"] (spK ⟨K, mg, Tb⟩ _law_taken_K)) : FnOk P wd K mg base (L2.CX P wd) 2 A.a__law_drawn A.d__law_drawn ["row", "options", "most"] (spK ⟨K, mg, Tb⟩ _law_drawn_K) := fnK T.f__law_drawn sc__law_drawn (bd__law_drawn T K__law_taken)
set_option maxHeartbeats 8000000 in
theorem bd__law_changed (T : Txt K mg A) (K__law_pick : FnOk P wd K mg base (L2.CX P wd) 2 A.a__law_pick A.d__law_pick ["row", "some"] (spK ⟨K, mg, Tb⟩ _law_pick_K)) (K__law_taken : FnOk P wd K mg base (L2.CX P wd) 1 A.a__law_taken A.d__law_taken ["row", "many"] (spK ⟨K, mg, Tb⟩ _law_taken_K)) : BodyIs P wd K mg base Tb n__law_changed "_law_changed" (defScope s__law_changed) (defBody s__law_changed) A.a__law_changed 2 m__law_changed := by
  intro cdv Ar outer s H E hr
  have tk : Takes (cxOf (L2.CX P wd) P wd K mg base n__law_changed "_law_changed" (defScope s__law_changed) A.a__law_changed cdv Ar outer s H E) (Wdef E) := takes_of rfl rfl rfl rfl
  refine ss_cons ?_ ?_
  · refine s_asg (is := ([2] ++ ([3] ++ []))) ?_ ?_
    · refine e_tup ?_
      · refine a_cons ?_ ?_
        · refine e_callK K__law_taken (hr.mono (by decide)) tk T.m__law_taken T.k__law_taken T.b__law_taken ?_
          · refine a_cons ?_ ?_
            · exact e_var (i := 0)
            · refine a_cons ?_ ?_
              · refine e_b call_lenA fLen_of T.z_len rfl ?_
                · refine a_cons ?_ ?_
                  · exact e_var (i := 1)
                  · exact a_nil
              · exact a_nil
        · refine a_cons ?_ ?_
          · refine e_callK K__law_taken (hr.mono (by decide)) tk T.m__law_taken T.k__law_taken T.b__law_taken ?_
            · refine a_cons ?_ ?_
              · exact e_var (i := 0)
              · refine a_cons ?_ ?_
                · refine e_b call_lenA fLen_of T.z_len rfl ?_
                  · refine a_cons ?_ ?_
                    · exact e_var (i := 1)
                    · exact a_nil
                · exact a_nil
          · exact a_nil
    · refine g_tp rfl ?_
      · refine gs_cons ?_ ?_
        · exact g_nm (i := 2) sc__law_changed.nd
        · refine gs_cons ?_ ?_
          · exact g_nm (i := 3) sc__law_changed.nd
          · exact gs_nil (is := [])
  · refine ss_cons ?_ ?_
    · refine s_set (i := 4) ?_ sc__law_changed.nd
      · refine e_ix (hu1 hr) ?_ ?_
        · exact e_var (i := 1)
        · exact e_var (i := 2)
    · refine ss_cons ?_ ?_
      · refine s_setLcX (i := 5) (is := [7]) (own := [("much", 7)]) kLst_new rfl sc__law_changed.nd ?_ (blk_of (by kernel_rfl)) ?_ ?_ ?_ (sw_true rfl rfl rfl rfl)
        · refine i_seq ?_
          · refine e_lst ?_
            · refine a_cons ?_ ?_
              · refine e_add ?_ ?_
                · refine e_ix (hu1 hr) ?_ ?_
                  · exact e_var (i := 4)
                  · exact e_var (i := 3)
                · exact e_int
              · refine a_cons ?_ ?_
                · refine e_sub ?_ ?_
                  · refine e_ix (hu1 hr) ?_ ?_
                    · exact e_var (i := 4)
                    · exact e_var (i := 3)
                  · exact e_int
                · refine a_cons ?_ ?_
                  · exact e_bl
                  · refine a_cons ?_ ?_
                    · exact e_non
                    · refine a_cons ?_ ?_
                      · refine e_bT cr_strS fStrS_of T.z_str rfl ?_
                        · refine a_cons ?_ ?_
                          · refine e_ix (hu1 hr) ?_ ?_
                            · exact e_var (i := 4)
                            · exact e_var (i := 3)
                          · exact a_nil
                      · exact a_nil
        · intro _ _ _ _ _
          exact g_nm (i := 7) sc__law_changed.nd
        · intro _ _ _ _ _
          exact ts_nil
        · intro _ _ _ _ _
          refine e_add ?_ ?_
          · refine e_add ?_ ?_
            · refine e_sl kLst_new ?_ ?_ ?_
              · exact e_var (i := 4)
              · exact o_none
              · refine o_some ?_
                · exact e_var (i := 3)
            · refine e_tup ?_
              · refine a_cons ?_ ?_
                · exact e_var (i := 7)
                · exact a_nil
          · refine e_sl kLst_new ?_ ?_ ?_
            · exact e_var (i := 4)
            · refine o_some ?_
              · refine e_add ?_ ?_
                · exact e_var (i := 3)
                · exact e_int
            · exact o_none
      · refine ss_cons ?_ ?_
        · refine s_set (i := 5) ?_ sc__law_changed.nd
          · refine e_add ?_ ?_
            · exact e_var (i := 5)
            · refine e_lst ?_
              · refine a_cons ?_ ?_
                · refine e_revT kLst_new ?_
                  · exact e_var (i := 4)
                · refine a_cons ?_ ?_
                  · refine e_bT (call_listA rfl) (fList_of kLst_new) T.z_list rfl ?_
                    · refine a_cons ?_ ?_
                      · exact e_var (i := 4)
                      · exact a_nil
                  · refine a_cons ?_ ?_
                    · refine e_sl kLst_new ?_ ?_ ?_
                      · exact e_var (i := 4)
                      · exact o_none
                      · refine o_some ?_
                        · refine e_neg ?_
                          · exact e_int
                    · refine a_cons ?_ ?_
                      · refine e_add ?_ ?_
                        · exact e_var (i := 4)
                        · refine e_tup ?_
                          · refine a_cons ?_ ?_
                            · exact e_int
                            · exact a_nil
                      · refine a_cons ?_ ?_
                        · exact e_non
                        · refine a_cons ?_ ?_
                          · refine e_mulT ?_ ?_
                            · refine e_tup ?_
                              · refine a_cons ?_ ?_
                                · exact e_int
                                · exact a_nil
                            · refine e_b call_lenA fLen_of T.z_len rfl ?_
                              · refine a_cons ?_ ?_
                                · exact e_var (i := 4)
                                · exact a_nil
                          · exact a_nil
        · refine ss_cons ?_ ?_
          · refine s_set (i := 6) ?_ sc__law_changed.nd
            · refine e_add ?_ ?_
              · refine e_add ?_ ?_
                · refine e_sl kLst_new ?_ ?_ ?_
                  · exact e_var (i := 1)
                  · exact o_none
                  · refine o_some ?_
                    · exact e_var (i := 2)
                · refine e_tup ?_
                  · refine a_cons ?_ ?_
                    · refine e_callK K__law_pick (hr.mono (by decide)) tk T.m__law_pick T.k__law_pick T.b__law_pick ?_
                      · refine a_cons ?_ ?_
                        · exact e_var (i := 0)
                        · refine a_cons ?_ ?_
                          · exact e_var (i := 5)
                          · exact a_nil
                    · exact a_nil
              · refine e_sl kLst_new ?_ ?_ ?_
                · exact e_var (i := 1)
                · refine o_some ?_
                  · refine e_add ?_ ?_
                    · exact e_var (i := 2)
                    · exact e_int
                · exact o_none
          · refine ss_one ?_
            · refine s_ret ?_
              · refine e_callK K__law_pick (hr.mono (by decide)) tk T.m__law_pick T.k__law_pick T.b__law_pick ?_
                · refine a_cons ?_ ?_
                  · exact e_var (i := 0)
                  · refine a_cons ?_ ?_
                    · refine e_lst ?_
                      · refine a_cons ?_ ?_
                        · exact e_var (i := 6)
                        · refine a_cons ?_ ?_
                          · exact e_var (i := 6)
                          · refine a_cons ?_ ?_
                            · exact e_var (i := 6)
                            · refine a_cons ?_ ?_
                              · refine e_revT kLst_new ?_
                                · exact e_var (i := 1)
                              · refine a_cons ?_ ?_
                                · refine e_bT (call_listA rfl) (fList_of kLst_new) T.z_list rfl ?_
                                  · refine a_cons ?_ ?_
                                    · exact e_var (i := 1)
                                    · exact a_nil
                                · refine a_cons ?_ ?_
                                  · refine e_sl kLst_new ?_ ?_ ?_
                                    · exact e_var (i := 1)
                                    · exact o_none
                                    · refine o_some ?_
                                      · refine e_neg ?_
                                        · exact e_int
                                  · refine a_cons ?_ ?_
                                    · refine e_add ?_ ?_
                                      · exact e_var (i := 1)
                                      · refine e_sl kLst_new ?_ ?_ ?_
                                        · exact e_var (i := 1)
                                        · refine o_some ?_
                                          · refine e_neg ?_
                                            · exact e_int
                                        · exact o_none
                                    · exact a_nil
                    · exact a_nil
theorem okK__law_changed (T : Txt K mg A) (K__law_pick : FnOk P wd K mg base (L2.CX P wd) 2 A.a__law_pick A.d__law_pick ["row", "some"] (spK ⟨K, mg, Tb⟩ _law_pick_K)) (K__law_taken : FnOk P wd K mg base (L2.CX P wd) 1 A.a__law_taken A.d__law_taken ["row", "many"] (spK ⟨K, mg, Tb⟩ _law_taken_K)) : FnOk P wd K mg base (L2.CX P wd) 3 A.a__law_changed A.d__law_changed ["row", "table"] (spK ⟨K, mg, Tb⟩ _law_changed_K) := fnK T.f__law_changed sc__law_changed (bd__law_changed T K__law_pick K__law_taken)
theorem ft_law (T : Txt K mg A)  {Tb : List (Addr × Str)} (G_is_table : FnOk P wd K mg base (L2.CX P wd) 5 A.a_is_table A.d_is_table ["before", "after", "thing"] (spP ⟨K, mg, Tb⟩ is_table)) (G_movers : FnOk P wd K mg base (L2.CX P wd) 5 A.a_movers A.d_movers ["before", "after", "table"] (spP ⟨K, mg, Tb⟩ movers)) : FnTabP P wd K mg base Tb 5 tb_law := by
  intro c m hm a ha
  unfold tb_law at hm
  split at hm
  · rename_i hc
    cases hm
    subst hc
    rw [T.m_is_table] at ha
    cases ha
    exact ⟨_, _, G_is_table.mono (by decide), T.k_is_table, T.b_is_table⟩
  split at hm
  · rename_i hc
    cases hm
    subst hc
    rw [T.m_movers] at ha
    cases ha
    exact ⟨_, _, G_movers.mono (by decide), T.k_movers, T.b_movers⟩
  cases hm
set_option maxHeartbeats 8000000 in
theorem bd_law (T : Txt K mg A) (G__law_alike : FnOk P wd K mg base (L2.CX P wd) 7 A.a__law_alike A.d__law_alike ["found", "due"] (spP ⟨K, mg, (TL A)⟩ _law_alike)) (G__law_is_table : FnOk P wd K mg base (L2.CX P wd) 1 A.a__law_is_table A.d__law_is_table ["before", "after", "thing"] (spP ⟨K, mg, (TL A)⟩ _law_is_table)) (G__law_movers : FnOk P wd K mg base (L2.CX P wd) 1 A.a__law_movers A.d__law_movers ["table"] (spP ⟨K, mg, (TL A)⟩ _law_movers)) (G_is_table : FnOk P wd K mg base (L2.CX P wd) 5 A.a_is_table A.d_is_table ["before", "after", "thing"] (spP ⟨K, mg, (TL A)⟩ is_table)) (G_movers : FnOk P wd K mg base (L2.CX P wd) 5 A.a_movers A.d_movers ["before", "after", "table"] (spP ⟨K, mg, (TL A)⟩ movers)) (K__law_changed : FnOk P wd K mg base (L2.CX P wd) 3 A.a__law_changed A.d__law_changed ["row", "table"] (spK ⟨K, mg, (TL A)⟩ _law_changed_K)) (K__law_drawn : FnOk P wd K mg base (L2.CX P wd) 2 A.a__law_drawn A.d__law_drawn ["row", "options", "most"] (spK ⟨K, mg, (TL A)⟩ _law_drawn_K)) (K__law_pick : FnOk P wd K mg base (L2.CX P wd) 2 A.a__law_pick A.d__law_pick ["row", "some"] (spK ⟨K, mg, (TL A)⟩ _law_pick_K)) (K__law_taken : FnOk P wd K mg base (L2.CX P wd) 1 A.a__law_taken A.d__law_taken ["row", "many"] (spK ⟨K, mg, (TL A)⟩ _law_taken_K)) (TB_law : LamX.TabB base mg A.o_law A.p_law) : BodyIsC P wd K mg base (TL A) n_law "law" (defScope s_law) (defBody s_law) A.a_law A.o_law 7 m_law := by
  intro Ar outer s H E hr
  have tk : Takes (cxOf (L2.CX P wd) P wd K mg base n_law "law" (defScope s_law) A.a_law (.ref A.o_law) Ar outer s H E) (Wdef E) := takes_of rfl rfl rfl rfl
  have FT : FnTabP P wd K mg base (TL A) 5 tb_law := ft_law T G_is_table G_movers
  refine ss_cons ?_ ?_
  · refine s_set (i := 1) ?_ sc_law.nd
    · refine e_lstC ?_
      · refine a_cons ?_ ?_
        · exact e_var (i := 0)
        · refine a_cons ?_ ?_
          · exact e_int
          · refine a_cons ?_ ?_
            · exact e_int
            · refine a_cons ?_ ?_
              · exact e_int
              · exact a_nil
  · refine ss_cons ?_ ?_
    · refine s_set (i := 2) ?_ sc_law.nd
      · refine e_add ?_ ?_
        · exact e_int
        · refine e_callK K__law_taken (hr.mono (by decide)) tk T.m__law_taken T.k__law_taken T.b__law_taken ?_
          · refine a_cons ?_ ?_
            · exact e_var (i := 1)
            · refine a_cons ?_ ?_
              · exact e_int
              · exact a_nil
    · refine ss_cons ?_ ?_
      · refine s_asg (is := ([3] ++ ([4] ++ ([5] ++ [])))) ?_ ?_
        · refine e_callKF K__law_drawn (hr.mono (by decide)) tk T.m__law_drawn T.k__law_drawn T.b__law_drawn ?_
          · refine a_cons ?_ ?_
            · exact e_var (i := 1)
            · refine a_cons ?_ ?_
              · exact e_var (i := 2)
              · refine a_cons ?_ ?_
                · exact e_int
                · exact a_nil
        · refine g_tp rfl ?_
          · refine gs_cons ?_ ?_
            · exact g_nm (i := 3) sc_law.nd
            · refine gs_cons ?_ ?_
              · exact g_nm (i := 4) sc_law.nd
              · refine gs_cons ?_ ?_
                · exact g_nm (i := 5) sc_law.nd
                · exact gs_nil (is := [])
      · refine ss_cons ?_ ?_
        · refine s_par (i := 6) (j := 7) ?_ rfl sc_law.nd
          · refine a_cons ?_ ?_
            · refine e_bT (call_listA rfl) (fList_of kLst_new) T.z_list rfl ?_
              · refine a_cons ?_ ?_
                · exact e_var (i := 3)
                · exact a_nil
            · refine a_cons ?_ ?_
              · refine e_bT (call_listA rfl) (fList_of kLst_new) T.z_list rfl ?_
                · refine a_cons ?_ ?_
                  · exact e_var (i := 4)
                  · exact a_nil
              · exact a_nil
        · refine ss_cons ?_ ?_
          · refine s_if ?_ ?_ ?_
            · refine t_w ?_
              · refine w_or ?_ ?_
                · refine t_not ?_
                  · refine t_truth ?_
                    · refine e_callP G__law_alike (hr.mono (by decide)) tk T.m__law_alike T.k__law_alike T.b__law_alike ?_
                      · refine a_cons ?_ ?_
                        · refine e_callP G_is_table (hr.mono (by decide)) tk T.m_is_table T.k_is_table T.b_is_table ?_
                          · refine a_cons ?_ ?_
                            · exact e_var (i := 3)
                            · refine a_cons ?_ ?_
                              · exact e_var (i := 4)
                              · refine a_cons ?_ ?_
                                · exact e_var (i := 5)
                                · exact a_nil
                        · refine a_cons ?_ ?_
                          · exact e_bl
                          · exact a_nil
                · refine w_or1 ?_
                  · refine t_not ?_
                    · refine t_truth ?_
                      · refine e_callP G__law_alike (hr.mono (by decide)) tk T.m__law_alike T.k__law_alike T.b__law_alike ?_
                        · refine a_cons ?_ ?_
                          · refine e_callP G_movers (hr.mono (by decide)) tk T.m_movers T.k_movers T.b_movers ?_
                            · refine a_cons ?_ ?_
                              · exact e_var (i := 3)
                              · refine a_cons ?_ ?_
                                · refine e_bT call_tupleF fTuple_of T.z_tuple rfl ?_
                                  · refine a_cons ?_ ?_
                                    · exact e_var (i := 4)
                                    · exact a_nil
                                · refine a_cons ?_ ?_
                                  · exact e_var (i := 5)
                                  · exact a_nil
                          · refine a_cons ?_ ?_
                            · refine e_callP G__law_movers (hr.mono (by decide)) tk T.m__law_movers T.k__law_movers T.b__law_movers ?_
                              · refine a_cons ?_ ?_
                                · exact e_var (i := 5)
                                · exact a_nil
                            · exact a_nil
            · refine ss_one ?_
              · refine s_ret ?_
                · exact e_bl
            · exact ss_nil
          · refine ss_cons ?_ ?_
            · refine s_for (is := [8]) (passes_of rfl) rfl ?_ ?_ ?_ [8, 9, 10]
              · refine i_rn1 ?_ T.z_range
                · refine a_cons ?_ ?_
                  · exact e_int
                  · exact a_nil
              · exact g_nm (i := 8) sc_law.nd
              · refine ss_cons ?_ ?_
                · refine s_set (i := 9) ?_ sc_law.nd
                  · refine e_callK K__law_changed (hr.mono (by decide)) tk T.m__law_changed T.k__law_changed T.b__law_changed ?_
                    · refine a_cons ?_ ?_
                      · exact e_var (i := 1)
                      · refine a_cons ?_ ?_
                        · exact e_var (i := 5)
                        · exact a_nil
                · refine ss_cons ?_ ?_
                  · refine s_set (i := 10) ?_ sc_law.nd
                    · refine e_callP G__law_is_table (hr.mono (by decide)) tk T.m__law_is_table T.k__law_is_table T.b__law_is_table ?_
                      · refine a_cons ?_ ?_
                        · exact e_var (i := 3)
                        · refine a_cons ?_ ?_
                          · exact e_var (i := 4)
                          · refine a_cons ?_ ?_
                            · exact e_var (i := 9)
                            · exact a_nil
                  · refine ss_cons ?_ ?_
                    · refine s_if ?_ ?_ ?_
                      · refine t_not ?_
                        · refine t_truth ?_
                          · refine e_callP G__law_alike (hr.mono (by decide)) tk T.m__law_alike T.k__law_alike T.b__law_alike ?_
                            · refine a_cons ?_ ?_
                              · refine e_callP G_is_table (hr.mono (by decide)) tk T.m_is_table T.k_is_table T.b_is_table ?_
                                · refine a_cons ?_ ?_
                                  · refine e_bT call_tupleF fTuple_of T.z_tuple rfl ?_
                                    · refine a_cons ?_ ?_
                                      · exact e_var (i := 3)
                                      · exact a_nil
                                  · refine a_cons ?_ ?_
                                    · exact e_var (i := 4)
                                    · refine a_cons ?_ ?_
                                      · exact e_var (i := 9)
                                      · exact a_nil
                              · refine a_cons ?_ ?_
                                · exact e_var (i := 10)
                                · exact a_nil
                      · refine ss_one ?_
                        · refine s_ret ?_
                          · exact e_bl
                      · exact ss_nil
                    · refine ss_cons ?_ ?_
                      · refine s_if ?_ ?_ ?_
                        · refine t_not ?_
                          · refine t_truth ?_
                            · refine e_callP G__law_alike (hr.mono (by decide)) tk T.m__law_alike T.k__law_alike T.b__law_alike ?_
                              · refine a_cons ?_ ?_
                                · refine e_heardT (k := 5) (hs := hs__law_heard) (heard__law_heard T) rfl (hr.mono (by decide)) T.m__law_heard T.k__law_heard TB_law (by unfold TL; exact .head _) T.dt_law rfl (LamX.lamS_by (by kernel_rfl)) rfl (fun _ _ _ _ _ => rfl) ?_
                                  · intro _ _ _ _ _ _ _ hr
                                    refine e_callP G_movers (hr.mono (by decide)) (takes_of rfl rfl rfl rfl) T.m_movers T.k_movers T.b_movers ?_
                                    · refine a_cons ?_ ?_
                                      · exact e_var (i := 3)
                                      · refine a_cons ?_ ?_
                                        · exact e_var (i := 4)
                                        · refine a_cons ?_ ?_
                                          · exact e_var (i := 9)
                                          · exact a_nil
                                · refine a_cons ?_ ?_
                                  · refine e_if ?_ ?_ ?_
                                    · refine t_truth ?_
                                      · exact e_var (i := 10)
                                    · refine e_tup ?_
                                      · exact a_nil
                                    · refine e_tup ?_
                                      · refine a_cons ?_ ?_
                                        · exact e_str
                                        · refine a_cons ?_ ?_
                                          · exact e_var (i := 9)
                                          · refine a_cons ?_ ?_
                                            · exact e_bl
                                            · exact a_nil
                                  · exact a_nil
                        · refine ss_one ?_
                          · refine s_ret ?_
                            · exact e_bl
                        · exact ss_nil
                      · refine ss_one ?_
                        · refine s_if ?_ ?_ ?_
                          · refine t_w ?_
                            · refine w_and ?_ ?_
                              · refine t_truth ?_
                                · exact e_var (i := 10)
                              · refine w_and1 ?_
                                · refine t_not ?_
                                  · refine t_truth ?_
                                    · refine e_callP G__law_alike (hr.mono (by decide)) tk T.m__law_alike T.k__law_alike T.b__law_alike ?_
                                      · refine a_cons ?_ ?_
                                        · refine e_callP G_movers (hr.mono (by decide)) tk T.m_movers T.k_movers T.b_movers ?_
                                          · refine a_cons ?_ ?_
                                            · exact e_var (i := 3)
                                            · refine a_cons ?_ ?_
                                              · exact e_var (i := 4)
                                              · refine a_cons ?_ ?_
                                                · exact e_var (i := 9)
                                                · exact a_nil
                                        · refine a_cons ?_ ?_
                                          · refine e_callP G__law_movers (hr.mono (by decide)) tk T.m__law_movers T.k__law_movers T.b__law_movers ?_
                                            · refine a_cons ?_ ?_
                                              · exact e_var (i := 9)
                                              · exact a_nil
                                          · exact a_nil
                          · refine ss_one ?_
                            · refine s_ret ?_
                              · exact e_bl
                          · exact ss_nil
            · refine ss_cons ?_ ?_
              · refine s_for (is := [11]) (passes_of rfl) rfl ?_ ?_ ?_ [11]
                · refine i_seq ?_
                  · refine e_lst ?_
                    · refine a_cons ?_ ?_
                      · exact e_non
                      · refine a_cons ?_ ?_
                        · exact e_int
                        · refine a_cons ?_ ?_
                          · exact e_str
                          · refine a_cons ?_ ?_
                            · refine e_lst ?_
                              · exact a_nil
                            · refine a_cons ?_ ?_
                              · refine e_tup ?_
                                · exact a_nil
                              · refine a_cons ?_ ?_
                                · exact e_dct0 kDct_new
                                · refine a_cons ?_ ?_
                                  · exact e_bl
                                  · exact a_nil
                · exact g_nm (i := 11) sc_law.nd
                · refine ss_one ?_
                  · refine s_if ?_ ?_ ?_
                    · refine t_not ?_
                      · refine t_truth ?_
                        · refine e_callP G__law_alike (hr.mono (by decide)) tk T.m__law_alike T.k__law_alike T.b__law_alike ?_
                          · refine a_cons ?_ ?_
                            · refine e_callP G_is_table (hr.mono (by decide)) tk T.m_is_table T.k_is_table T.b_is_table ?_
                              · refine a_cons ?_ ?_
                                · exact e_var (i := 3)
                                · refine a_cons ?_ ?_
                                  · exact e_var (i := 4)
                                  · refine a_cons ?_ ?_
                                    · exact e_var (i := 11)
                                    · exact a_nil
                            · refine a_cons ?_ ?_
                              · exact e_bl
                              · exact a_nil
                    · refine ss_one ?_
                      · refine s_ret ?_
                        · exact e_bl
                    · exact ss_nil
              · refine ss_cons ?_ ?_
                · refine s_set (i := 12) ?_ sc_law.nd
                  · refine e_callK K__law_pick (hr.mono (by decide)) tk T.m__law_pick T.k__law_pick T.b__law_pick ?_
                    · refine a_cons ?_ ?_
                      · exact e_var (i := 1)
                      · refine a_cons ?_ ?_
                        · refine e_lst ?_
                          · refine a_cons ?_ ?_
                            · exact e_non
                            · refine a_cons ?_ ?_
                              · exact e_int
                              · refine a_cons ?_ ?_
                                · refine e_lst ?_
                                  · refine a_cons ?_ ?_
                                    · exact e_int
                                    · exact a_nil
                                · refine a_cons ?_ ?_
                                  · refine e_mul ?_ ?_
                                    · refine e_lst ?_
                                      · refine a_cons ?_ ?_
                                        · exact e_int
                                        · exact a_nil
                                    · exact e_int
                                  · refine a_cons ?_ ?_
                                    · refine e_lst ?_
                                      · refine a_cons ?_ ?_
                                        · exact e_int
                                        · refine a_cons ?_ ?_
                                          · exact e_int
                                          · exact a_nil
                                    · refine a_cons ?_ ?_
                                      · refine e_lst ?_
                                        · refine a_cons ?_ ?_
                                          · refine e_neg ?_
                                            · exact e_int
                                          · refine a_cons ?_ ?_
                                            · exact e_int
                                            · exact a_nil
                                      · refine a_cons ?_ ?_
                                        · refine e_lst ?_
                                          · refine a_cons ?_ ?_
                                            · exact e_bl
                                            · refine a_cons ?_ ?_
                                              · exact e_int
                                              · exact a_nil
                                        · refine a_cons ?_ ?_
                                          · refine e_tup ?_
                                            · refine a_cons ?_ ?_
                                              · exact e_int
                                              · refine a_cons ?_ ?_
                                                · exact e_int
                                                · exact a_nil
                                          · refine a_cons ?_ ?_
                                            · exact e_dct0 kDct_new
                                            · refine a_cons ?_ ?_
                                              · exact e_str
                                              · refine a_cons ?_ ?_
                                                · refine e_lst ?_
                                                  · refine a_cons ?_ ?_
                                                    · exact e_int
                                                    · refine a_cons ?_ ?_
                                                      · exact e_non
                                                      · exact a_nil
                                                · refine a_cons ?_ ?_
                                                  · refine e_lst ?_
                                                    · refine a_cons ?_ ?_
                                                      · exact e_str
                                                      · refine a_cons ?_ ?_
                                                        · exact e_int
                                                        · exact a_nil
                                                  · exact a_nil
                        · exact a_nil
                · refine ss_cons ?_ ?_
                  · refine s_set (i := 13) ?_ sc_law.nd
                    · refine e_callK K__law_pick (hr.mono (by decide)) tk T.m__law_pick T.k__law_pick T.b__law_pick ?_
                      · refine a_cons ?_ ?_
                        · exact e_var (i := 1)
                        · refine a_cons ?_ ?_
                          · refine e_lst ?_
                            · refine a_cons ?_ ?_
                              · exact e_var (i := 12)
                              · refine a_cons ?_ ?_
                                · refine e_add ?_ ?_
                                  · exact e_var (i := 3)
                                  · refine e_lst ?_
                                    · refine a_cons ?_ ?_
                                      · exact e_int
                                      · exact a_nil
                                · refine a_cons ?_ ?_
                                  · refine e_add ?_ ?_
                                    · refine e_sl kLst_new ?_ ?_ ?_
                                      · exact e_var (i := 3)
                                      · exact o_none
                                      · refine o_some ?_
                                        · refine e_neg ?_
                                          · exact e_int
                                    · refine e_lst ?_
                                      · refine a_cons ?_ ?_
                                        · refine e_add ?_ ?_
                                          · refine e_ix (hu1 hr) ?_ ?_
                                            · exact e_var (i := 3)
                                            · refine e_neg ?_
                                              · exact e_int
                                          · exact e_int
                                        · exact a_nil
                                  · refine a_cons ?_ ?_
                                    · refine e_lcX (is := [15]) (own := [("one", 15)]) kLst_new rfl sc_law.nd ?_ (blk_of (by kernel_rfl)) ?_ ?_ ?_
                                      · refine i_seq ?_
                                        · exact e_var (i := 4)
                                      · intro _ _ _ _ _
                                        exact g_nm (i := 15) sc_law.nd
                                      · intro _ _ _ _ _
                                        exact ts_nil
                                      · intro _ _ _ _ _
                                        refine e_add ?_ ?_
                                        · exact e_var (i := 15)
                                        · exact e_int
                                    · exact a_nil
                          · exact a_nil
                  · refine ss_cons ?_ ?_
                    · refine s_for (is := [14]) (passes_of rfl) rfl ?_ ?_ ?_ [14]
                      · refine i_seq ?_
                        · refine e_lst ?_
                          · refine a_cons ?_ ?_
                            · exact e_fn T.m_is_table
                            · refine a_cons ?_ ?_
                              · exact e_fn T.m_movers
                              · exact a_nil
                      · exact g_nm (i := 14) sc_law.nd
                      · refine ss_cons ?_ ?_
                        · refine s_if ?_ ?_ ?_
                          · refine t_not ?_
                            · refine t_truth ?_
                              · refine e_callP G__law_alike (hr.mono (by decide)) tk T.m__law_alike T.k__law_alike T.b__law_alike ?_
                                · refine a_cons ?_ ?_
                                  · refine e_heardT (k := 5) (hs := hs__law_heard) (heard__law_heard T) rfl (hr.mono (by decide)) T.m__law_heard T.k__law_heard TB_law (by unfold TL; exact .head _) T.dt_law rfl (LamX.lamS_by (by kernel_rfl)) rfl (fun _ _ _ _ _ => rfl) ?_
                                    · intro _ _ _ _ _ _ _ hr
                                      refine e_callV (i := 14) FT (hr.mono (by decide)) (takes_of rfl rfl rfl rfl) ?_
                                      · refine a_cons ?_ ?_
                                        · exact e_var (i := 12)
                                        · refine a_cons ?_ ?_
                                          · exact e_var (i := 13)
                                          · refine a_cons ?_ ?_
                                            · exact e_non
                                            · exact a_nil
                                  · refine a_cons ?_ ?_
                                    · refine e_tup ?_
                                      · refine a_cons ?_ ?_
                                        · exact e_str
                                        · refine a_cons ?_ ?_
                                          · exact e_var (i := 12)
                                          · refine a_cons ?_ ?_
                                            · exact e_bl
                                            · exact a_nil
                                    · exact a_nil
                          · refine ss_one ?_
                            · refine s_ret ?_
                              · exact e_bl
                          · exact ss_nil
                        · refine ss_one ?_
                          · refine s_if ?_ ?_ ?_
                            · refine t_not ?_
                              · refine t_truth ?_
                                · refine e_callP G__law_alike (hr.mono (by decide)) tk T.m__law_alike T.k__law_alike T.b__law_alike ?_
                                  · refine a_cons ?_ ?_
                                    · refine e_heardT (k := 5) (hs := hs__law_heard) (heard__law_heard T) rfl (hr.mono (by decide)) T.m__law_heard T.k__law_heard TB_law (by unfold TL; exact .head _) T.dt_law rfl (LamX.lamS_by (by kernel_rfl)) rfl (fun _ _ _ _ _ => rfl) ?_
                                      · intro _ _ _ _ _ _ _ hr
                                        refine e_callV (i := 14) FT (hr.mono (by decide)) (takes_of rfl rfl rfl rfl) ?_
                                        · refine a_cons ?_ ?_
                                          · exact e_var (i := 3)
                                          · refine a_cons ?_ ?_
                                            · exact e_var (i := 13)
                                            · refine a_cons ?_ ?_
                                              · exact e_non
                                              · exact a_nil
                                    · refine a_cons ?_ ?_
                                      · refine e_tup ?_
                                        · refine a_cons ?_ ?_
                                          · exact e_str
                                          · refine a_cons ?_ ?_
                                            · exact e_var (i := 13)
                                            · refine a_cons ?_ ?_
                                              · exact e_bl
                                              · exact a_nil
                                      · exact a_nil
                            · refine ss_one ?_
                              · refine s_ret ?_
                                · exact e_bl
                            · exact ss_nil
                    · refine ss_one ?_
                      · refine s_ret ?_
                        · refine e_and ?_ ?_
                          · refine e_cmp (op_eqD hr.units) fEq_of ?_ ?_
                            · exact e_var (i := 3)
                            · exact e_var (i := 6)
                          · refine e_one ?_
                            · refine e_cmp (op_eqD hr.units) fEq_of ?_ ?_
                              · exact e_var (i := 4)
                              · exact e_var (i := 7)
theorem ok_law (T : Txt K mg A) (G__law_alike : FnOk P wd K mg base (L2.CX P wd) 7 A.a__law_alike A.d__law_alike ["found", "due"] (spP ⟨K, mg, (TL A)⟩ _law_alike)) (G__law_is_table : FnOk P wd K mg base (L2.CX P wd) 1 A.a__law_is_table A.d__law_is_table ["before", "after", "thing"] (spP ⟨K, mg, (TL A)⟩ _law_is_table)) (G__law_movers : FnOk P wd K mg base (L2.CX P wd) 1 A.a__law_movers A.d__law_movers ["table"] (spP ⟨K, mg, (TL A)⟩ _law_movers)) (G_is_table : FnOk P wd K mg base (L2.CX P wd) 5 A.a_is_table A.d_is_table ["before", "after", "thing"] (spP ⟨K, mg, (TL A)⟩ is_table)) (G_movers : FnOk P wd K mg base (L2.CX P wd) 5 A.a_movers A.d_movers ["before", "after", "table"] (spP ⟨K, mg, (TL A)⟩ movers)) (K__law_changed : FnOk P wd K mg base (L2.CX P wd) 3 A.a__law_changed A.d__law_changed ["row", "table"] (spK ⟨K, mg, (TL A)⟩ _law_changed_K)) (K__law_drawn : FnOk P wd K mg base (L2.CX P wd) 2 A.a__law_drawn A.d__law_drawn ["row", "options", "most"] (spK ⟨K, mg, (TL A)⟩ _law_drawn_K)) (K__law_pick : FnOk P wd K mg base (L2.CX P wd) 2 A.a__law_pick A.d__law_pick ["row", "some"] (spK ⟨K, mg, (TL A)⟩ _law_pick_K)) (K__law_taken : FnOk P wd K mg base (L2.CX P wd) 1 A.a__law_taken A.d__law_taken ["row", "many"] (spK ⟨K, mg, (TL A)⟩ _law_taken_K)) (TB_law : LamX.TabB base mg A.o_law A.p_law) : FnOk P wd K mg base (L2.CX P wd) 8 A.a_law A.d_law ["script"] (spP ⟨K, mg, (TL A)⟩ law) := fnPC T.fc_law sc_law (bd_law T G__law_alike G__law_is_table G__law_movers G_is_table G_movers K__law_changed K__law_drawn K__law_pick K__law_taken TB_law)
end

end Lawk40
namespace Lawk40
open PySem PySem.Spec PyProof.Rows L2 Ax
/-! the row of drawn numbers -/
def rowC (ns : List Int) (k h x : Int) : Cel := .lst [.v (.scr (ns.map .int)), .v (.int k), .v (.int h), .v (.int x)]
def IsRow (ns : List Int) (tl S : Store) : Prop := ∃ k h x, S = rowC ns k h x :: tl ∧ 0 ≤ k ∧ 0 ≤ h ∧ h < 2147483647
theorem log2_h {h : Int} (h0 : 0 ≤ h) (h1 : h < 2147483647) : h.natAbs.log2 < 40 := by
  have e : h.natAbs < 2 ^ 40 := by omega
  by_cases z : h.natAbs = 0
  · rw [z]; decide
  · exact (Nat.log2_lt z).mpr e
theorem taken_ok {ns : List Int} {tl S : Store} {m : Int} (hS : IsRow ns tl S) (hm : 0 < m) (hm2 : m.natAbs.log2 < 9000) : ∃ r S', _law_taken_K [.r 0, .v (.int m)] S = .ok (.v (.int r)) S' ∧ 0 ≤ r ∧ r < m ∧ IsRow ns tl S' := by
  obtain ⟨k, h, x, rfl, hk, hh, hh2⟩ := hS
  by_cases hx : 0 < x
  · refine ⟨x % m, rowC ns k h (x / m) :: tl, ?_, Int.emod_nonneg _ (by omega), Int.emod_lt_of_pos _ hm, k, h, _, rfl, hk, hh, hh2⟩
    simp [runK, m__law_taken, slots, sSeq, OutS.seq, sIf, Out.toS, tBl, tTru, tru, tmAnd, tmOr, tmNot, tmYes, Out.bind, eBin, eVar, eC, eB, eUn, eIf, eAnd, eOr, eNot, fNot, fNeg, aNil, aCons, fIx, dview, qview, lview, llview, sview, fInt1, fInt0, fInt, sAsg, gNm, gTp, gsCons, gsNil, sSetIx, fSetI, atI, ixN, sRet, sRetN, sExpr, sNil, eChain, Ax.kTup, eTup, kLst, eLst, kLstC, eLstC, unv, eCallP, eCallK, kP, fLen, fgt, rowC, hx, hm, hm2]
  · have hl : h.natAbs.log2 + Nat.log2 48271 < 1000000 := by
      have := log2_h hh hh2
      have e : Nat.log2 48271 = 15 := by decide
      omega
    have l7 : Nat.log2 7 = 2 := by decide
    have hb : ∀ z : Int, 0 ≤ z % 2147483647 ∧ z % 2147483647 < 2147483647 := fun z => ⟨Int.emod_nonneg _ (by decide), Int.emod_lt_of_pos _ (by decide)⟩
    by_cases hk2 : (ns.length : Int) < k + 1
    · refine ⟨((h * 48271 + 11) % 2147483647 / 7) % m, rowC ns (k + 1) ((h * 48271 + 11) % 2147483647) x :: tl, ?_, Int.emod_nonneg _ (by omega), Int.emod_lt_of_pos _ hm, k + 1, _, _, rfl, by omega, (hb _).1, (hb _).2⟩
      simp [runK, m__law_taken, slots, sSeq, OutS.seq, sIf, Out.toS, tBl, tTru, tru, tmAnd, tmOr, tmNot, tmYes, Out.bind, eBin, eVar, eC, eB, eUn, eIf, eAnd, eOr, eNot, fNot, fNeg, aNil, aCons, fIx, dview, qview, lview, llview, sview, fInt1, fInt0, fInt, sAsg, gNm, gTp, gsCons, gsNil, sSetIx, fSetI, atI, ixN, sRet, sRetN, sExpr, sNil, eChain, Ax.kTup, eTup, kLst, eLst, kLstC, eLstC, unv, eCallP, eCallK, kP, fLen, fgt, rowC, hx, hm, hm2, hk2, fMul, fAdd, hl, l7]
    · have hkn : k.toNat < ns.length := by omega
      obtain ⟨c, hc⟩ : ∃ c, ns[k.toNat]? = some c := ⟨_, List.getElem?_eq_getElem hkn⟩
      obtain ⟨_, hc'⟩ := List.getElem?_eq_some_iff.mp hc
      have hkl : k < (ns.length : Int) := by omega
      have e18 : (10 : Int) ^ (18 : Nat) = 1000000000000000000 := by decide
      by_cases hc2 : 1000000000000000000 ≤ c
      · refine ⟨c % m, rowC ns (k + 1) ((h * 48271 + c + 11) % 2147483647) (c / m) :: tl, ?_, Int.emod_nonneg _ (by omega), Int.emod_lt_of_pos _ hm, k + 1, _, _, rfl, by omega, (hb _).1, (hb _).2⟩
        simp [runK, m__law_taken, slots, sSeq, OutS.seq, sIf, Out.toS, tBl, tTru, tru, tmAnd, tmOr, tmNot, tmYes, Out.bind, eBin, eVar, eC, eB, eUn, eIf, eAnd, eOr, eNot, fNot, fNeg, aNil, aCons, fIx, dview, qview, lview, llview, sview, fInt1, fInt0, fInt, sAsg, gNm, gTp, gsCons, gsNil, sSetIx, fSetI, atI, ixN, sRet, sRetN, sExpr, sNil, eChain, Ax.kTup, eTup, kLst, eLst, kLstC, eLstC, unv, eCallP, eCallK, kP, fLen, fgt, rowC, hx, hm, hm2, hk2, fMul, fAdd, hl, hc', hk, hkl, fPow, hc2, e18]
      · refine ⟨c % m, rowC ns (k + 1) ((h * 48271 + c + 11) % 2147483647) x :: tl, ?_, Int.emod_nonneg _ (by omega), Int.emod_lt_of_pos _ hm, k + 1, _, _, rfl, by omega, (hb _).1, (hb _).2⟩
        simp [runK, m__law_taken, slots, sSeq, OutS.seq, sIf, Out.toS, tBl, tTru, tru, tmAnd, tmOr, tmNot, tmYes, Out.bind, eBin, eVar, eC, eB, eUn, eIf, eAnd, eOr, eNot, fNot, fNeg, aNil, aCons, fIx, dview, qview, lview, llview, sview, fInt1, fInt0, fInt, sAsg, gNm, gTp, gsCons, gsNil, sSetIx, fSetI, atI, ixN, sRet, sRetN, sExpr, sNil, eChain, Ax.kTup, eTup, kLst, eLst, kLstC, eLstC, unv, eCallP, eCallK, kP, fLen, fgt, rowC, hx, hm, hm2, hk2, fMul, fAdd, hl, hc', hk, hkl, fPow, hc2, e18]
theorem log2_small {n : Nat} (h : n < 2 ^ 24) : (n : Int).natAbs.log2 < 9000 := by
  rw [Int.natAbs_natCast]
  by_cases z : n = 0
  · rw [z]; decide
  · exact (Nat.log2_lt z).mpr (Nat.lt_of_lt_of_le h (Nat.pow_le_pow_right (by decide) (by decide)))
/-- an item of a list is drawn -/
theorem pick_ok {ns : List Int} {tl S : Store} {ds : List D} (hS : IsRow ns tl S) (h0 : ds ≠ []) (hl : ds.length < 2 ^ 24) : ∃ d S', _law_pick_K [.r 0, .v (.lst ds)] S = .ok (.v d) S' ∧ d ∈ ds ∧ IsRow ns tl S' := by
  have hp : 0 < ds.length := List.length_pos_iff.mpr h0
  obtain ⟨r, S', h1, h2, h3, h4⟩ := taken_ok (m := (ds.length : Int)) hS (by omega) (log2_small hl)
  have hr : r.toNat < ds.length := by omega
  obtain ⟨d, hd⟩ : ∃ d, ds[r.toNat]? = some d := ⟨_, List.getElem?_eq_getElem hr⟩
  refine ⟨d, S', ?_, List.mem_of_getElem? hd, h4⟩
  obtain ⟨_, hd'⟩ := List.getElem?_eq_some_iff.mp hd
  simp [runK, m__law_pick, slots, sSeq, OutS.seq, sIf, Out.toS, tBl, tTru, tru, tmAnd, tmOr, tmNot, tmYes, Out.bind, eBin, eVar, eC, eB, eUn, eIf, eAnd, eOr, eNot, fNot, fNeg, aNil, aCons, fIx, dview, qview, lview, llview, sview, fInt1, fInt0, fInt, sAsg, gNm, gTp, gsCons, gsNil, sSetIx, fSetI, atI, ixN, sRet, sRetN, sExpr, sNil, eChain, Ax.kTup, eTup, kLst, eLst, kLstC, eLstC, unv, eCallP, eCallK, kP, fLen, fgt, h1, h2, h3, hd']

/-! the law's own comparison says yes of the same data -/
theorem filt_none {α : Type} (l : List α) : l.filter (fun _ => false) = [] := by induction l <;> simp_all
theorem h1_alike {F : List D → R} {X : D} {xs : List D} (hX : X = .tup xs ∨ X = .lst xs ∨ X = .scr xs) (hF : ∀ x ∈ xs, F [x, x] = .ok (.bl true)) (hl : xs.length ≤ 1000000) {e : Sl} {S : Store} (h0 : e[0]? = some (some (.v X))) (h1 : e[1]? = some (some (.v X))) (h2 : 2 < e.length) :
    h1__law_alike F e S = .ok (.v (.lst [])) S := by
  have lenX : fLen [.v X] S = .ok (.v (.int xs.length)) S := by rcases hX with rfl | rfl | rfl <;> simp [sSeq, OutS.seq, sIf, Out.toS, tBl, tTru, tru, tmAnd, tmOr, tmNot, tmYes, Out.bind, eBin, eVar, eC, eB, eUn, eIf, eAnd, eOr, eNot, fNot, fNeg, aNil, aCons, fIx, dview, qview, lview, llview, sview, fInt1, fInt0, fInt, sAsg, gNm, gTp, gsCons, gsNil, sSetIx, fSetI, atI, ixN, sRet, sRetN, sExpr, sNil, eChain, Ax.kTup, eTup, kLst, eLst, kLstC, eLstC, unv, eCallP, eCallK, kP, fLen, fgt]
  have ixX : ∀ (i : Nat) (hi : i < xs.length), fIx (.v X) (.v (.int i)) S = .ok (.v xs[i]) S := by
    intro i hi
    rcases hX with rfl | rfl | rfl <;> simp [sSeq, OutS.seq, sIf, Out.toS, tBl, tTru, tru, tmAnd, tmOr, tmNot, tmYes, Out.bind, eBin, eVar, eC, eB, eUn, eIf, eAnd, eOr, eNot, fNot, fNeg, aNil, aCons, fIx, dview, qview, lview, llview, sview, fInt1, fInt0, fInt, sAsg, gNm, gTp, gsCons, gsNil, sSetIx, fSetI, atI, ixN, sRet, sRetN, sExpr, sNil, eChain, Ax.kTup, eTup, kLst, eLst, kLstC, eLstC, unv, eCallP, eCallK, kP, fLen, fgt, hi, Ax.keyOf]
  have it : iRn1 (aCons (eB fLen (aCons (eVar 1) aNil)) aNil) e S = .ok ((rngD 0 1 xs.length).map .v) S := by
    have s1 : smallI (xs.length : Int) = true := smallI_nat (by omega)
    simp [iRn1, aCons, aNil, eB, eVar, h1, Out.bind, lenX, kRng1, s1]
  unfold h1__law_alike eLcX
  simp only [it, Out.bind, rngD_map]
  rw [lc_pure (fun (i : Nat) => Vl.v (.int (0 + (i : Int) * 1))) (fun _ => false) (fun _ => .v .non) _ [] (fun i hi => ?_) (by simp; omega)]
  · simp [kLst, unv, filt_none]
  · have hi : i < xs.length := by simpa using hi
    refine ⟨_, rfl, ?_, fun z => by cases z⟩
    simp [tmNot, tTru, eCallP, aCons, aNil, eBin, eVar, h0, h1, h2, fgt, Out.bind, ixX i hi, kP, unv, hF _ (List.getElem_mem hi), tru]
theorem alike_sq {F : List D → R} {X : D} {xs : List D} (hX : X = .tup xs ∨ X = .lst xs ∨ X = .scr xs) (hF : ∀ x ∈ xs, F [x, x] = .ok (.bl true)) (hl : xs.length ≤ 1000000) : runP 4 2 (m__law_alike F) [X, X] = .ok (.bl true) := by
  have q : ∀ S, h1__law_alike F (slots 4 ([X, X].map .v)) S = .ok (.v (.lst [])) S := fun S => h1_alike (F := F) hX hF hl rfl rfl (by simp [slots])
  have h0 : (slots 4 ([X, X].map Vl.v))[0]? = some (some (.v X)) := rfl
  have h1 : (slots 4 ([X, X].map Vl.v))[1]? = some (some (.v X)) := rfl
  refine runP_rt (p_rt (p_ifT (S1 := []) ?_ (p_nx (p_ifF (S1 := []) ?_ p_nil) (p_nx (p_ifF (S1 := []) ?_ p_nil) (p_ret (S1 := []) (x := .v (.bl true)) ?_)))))
  · generalize slots 4 ([X, X].map Vl.v) = e at h0 h1
    rcases hX with rfl | rfl | rfl <;> simp [sSeq, OutS.seq, sIf, Out.toS, tBl, tTru, tru, tmAnd, tmOr, tmNot, tmYes, Out.bind, eBin, eVar, eC, eB, eUn, eIf, eAnd, eOr, eNot, fNot, fNeg, aNil, aCons, fIx, dview, qview, lview, llview, sview, fInt1, fInt0, fInt, sAsg, gNm, gTp, gsCons, gsNil, sSetIx, fSetI, atI, ixN, sRet, sRetN, sExpr, sNil, eChain, Ax.kTup, eTup, kLst, eLst, kLstC, eLstC, unv, eCallP, eCallK, kP, fLen, fgt, fIsi, tyN, isSub, tyBs, isSubs, h0, h1]
  · generalize slots 4 ([X, X].map Vl.v) = e at h0 h1
    rcases hX with rfl | rfl | rfl <;> simp [sSeq, OutS.seq, sIf, Out.toS, tBl, tTru, tru, tmAnd, tmOr, tmNot, tmYes, Out.bind, eBin, eVar, eC, eB, eUn, eIf, eAnd, eOr, eNot, fNot, fNeg, aNil, aCons, fIx, dview, qview, lview, llview, sview, fInt1, fInt0, fInt, sAsg, gNm, gTp, gsCons, gsNil, sSetIx, fSetI, atI, ixN, sRet, sRetN, sExpr, sNil, eChain, Ax.kTup, eTup, kLst, eLst, kLstC, eLstC, unv, eCallP, eCallK, kP, fLen, fgt, fIsi, tyN, isSub, tyBs, isSubs, fEqB, peek, okd, deq, h0, h1]
  · generalize slots 4 ([X, X].map Vl.v) = e at h0 h1
    rcases hX with rfl | rfl | rfl <;> simp [sSeq, OutS.seq, sIf, Out.toS, tBl, tTru, tru, tmAnd, tmOr, tmNot, tmYes, Out.bind, eBin, eVar, eC, eB, eUn, eIf, eAnd, eOr, eNot, fNot, fNeg, aNil, aCons, fIx, dview, qview, lview, llview, sview, fInt1, fInt0, fInt, sAsg, gNm, gTp, gsCons, gsNil, sSetIx, fSetI, atI, ixN, sRet, sRetN, sExpr, sNil, eChain, Ax.kTup, eTup, kLst, eLst, kLstC, eLstC, unv, eCallP, eCallK, kP, fLen, fgt, fEqB, peek, okd, deq, h0, h1]
  · generalize slots 4 ([X, X].map Vl.v) = e at q
    simp [eBin, q, Out.bind, sSeq, OutS.seq, sIf, Out.toS, tBl, tTru, tru, tmAnd, tmOr, tmNot, tmYes, Out.bind, eBin, eVar, eC, eB, eUn, eIf, eAnd, eOr, eNot, fNot, fNeg, aNil, aCons, fIx, dview, qview, lview, llview, sview, fInt1, fInt0, fInt, sAsg, gNm, gTp, gsCons, gsNil, sSetIx, fSetI, atI, ixN, sRet, sRetN, sExpr, sNil, eChain, Ax.kTup, eTup, kLst, eLst, kLstC, eLstC, unv, eCallP, eCallK, kP, fLen, fgt, fEqB, peek, okd, deq, deqs]
theorem alike_at (d : D) (h : d = .non ∨ (∃ b, d = .bl b) ∨ (∃ i, d = .int i) ∨ ∃ x, d = .str x ∧ PyData.strOk x = true) (F : List D → R) : runP 4 2 (m__law_alike F) [d, d] = .ok (.bl true) := by
  rcases h with rfl | ⟨b, rfl⟩ | ⟨i, rfl⟩ | ⟨x, rfl, hx⟩
  · rfl
  · simp [runP, m__law_alike, slots, sSeq, OutS.seq, sIf, Out.toS, tBl, tTru, tru, tmAnd, tmOr, tmNot, tmYes, Out.bind, eBin, eVar, eC, eB, eUn, eIf, eAnd, eOr, eNot, fNot, fNeg, aNil, aCons, fIx, dview, qview, lview, llview, sview, fInt1, fInt0, fInt, sAsg, gNm, gTp, gsCons, gsNil, sSetIx, fSetI, atI, ixN, sRet, sRetN, sExpr, sNil, eChain, Ax.kTup, eTup, kLst, eLst, kLstC, eLstC, unv, eCallP, eCallK, kP, fLen, fgt, fIsi, tyN, isSub, tyBs, isSubs, fIsN, fEqB, peek, okd, deq, rsl]
  · simp [runP, m__law_alike, slots, sSeq, OutS.seq, sIf, Out.toS, tBl, tTru, tru, tmAnd, tmOr, tmNot, tmYes, Out.bind, eBin, eVar, eC, eB, eUn, eIf, eAnd, eOr, eNot, fNot, fNeg, aNil, aCons, fIx, dview, qview, lview, llview, sview, fInt1, fInt0, fInt, sAsg, gNm, gTp, gsCons, gsNil, sSetIx, fSetI, atI, ixN, sRet, sRetN, sExpr, sNil, eChain, Ax.kTup, eTup, kLst, eLst, kLstC, eLstC, unv, eCallP, eCallK, kP, fLen, fgt, fIsi, tyN, isSub, tyBs, isSubs, fIsN, fEqB, peek, okd, deq, rsl]
  · simp [runP, m__law_alike, slots, sSeq, OutS.seq, sIf, Out.toS, tBl, tTru, tru, tmAnd, tmOr, tmNot, tmYes, Out.bind, eBin, eVar, eC, eB, eUn, eIf, eAnd, eOr, eNot, fNot, fNeg, aNil, aCons, fIx, dview, qview, lview, llview, sview, fInt1, fInt0, fInt, sAsg, gNm, gTp, gsCons, gsNil, sSetIx, fSetI, atI, ixN, sRet, sRetN, sExpr, sNil, eChain, Ax.kTup, eTup, kLst, eLst, kLstC, eLstC, unv, eCallP, eCallK, kP, fLen, fgt, fIsi, tyN, isSub, tyBs, isSubs, fIsN, fEqB, peek, okd, deq, rsl, hx]
theorem alike_refl (k : Nat) : ∀ (n : Nat) (d : D), rgl k d = true → k < n → _law_alike_f n [d, d] = .ok (.bl true) := by
  induction k with
  | zero =>
    intro n d h h1
    obtain ⟨n, rfl⟩ : ∃ p, n = p + 1 := ⟨n - 1, by omega⟩
    show runP 4 2 (m__law_alike (_law_alike_f n)) [d, d] = _
    refine alike_at d ?_ _
    cases d with
    | non => exact .inl rfl
    | bl b => exact .inr (.inl ⟨_, rfl⟩)
    | int i => exact .inr (.inr (.inl ⟨_, rfl⟩))
    | str x => exact .inr (.inr (.inr ⟨_, rfl, h⟩))
    | _ => cases h
  | succ k ih =>
    intro n d h h1
    obtain ⟨n, rfl⟩ : ∃ p, n = p + 1 := ⟨n - 1, by omega⟩
    have ih := fun x hx => ih n x hx (by omega)
    show runP 4 2 (m__law_alike (_law_alike_f n)) [d, d] = _
    cases d with
    | non => exact alike_at _ (.inl rfl) _
    | bl b => exact alike_at _ (.inr (.inl ⟨_, rfl⟩)) _
    | int i => exact alike_at _ (.inr (.inr (.inl ⟨_, rfl⟩))) _
    | str x => exact alike_at _ (.inr (.inr (.inr ⟨_, rfl, h⟩))) _
    | tup xs => exact alike_sq (.inl rfl) (fun x hx => ih x (all_of (He.ba h).2 x hx)) (of_decide_eq_true (He.ba h).1)
    | lst xs => exact alike_sq (.inr (.inl rfl)) (fun x hx => ih x (all_of (He.ba h).2 x hx)) (of_decide_eq_true (He.ba h).1)
    | scr xs => exact alike_sq (.inr (.inr rfl)) (fun x hx => ih x (all_of (He.ba h).2 x hx)) (of_decide_eq_true (He.ba h).1)
    | _ => cases h

end Lawk40
namespace Lawk40
open PySem PySem.Spec PyProof.Rows L2 Ax
/-! small rules -/
theorem ev_torT {ta tb : TM} {e : Sl} {S S1 : Store} (h1 : ta e S = .ok true S1) : tmOr ta tb e S = .ok true S1 := by unfold tmOr; rw [h1]; rfl
theorem forGo_nx {t : TgM} {b : SM} {fg : List Nat} {x : Vl} {xs : List Vl} {e e1 e2 : Sl} {S S2 : Store} (h1 : t x e = some e1) (h2 : b e1 S = .go (.nx e2) S2) : forGo t b fg (x :: xs) e S = forGo t b fg xs (fgt fg e2) S2 := by
  simp only [forGo, h1, h2]
theorem sFor_of {it : IM} {t : TgM} {b : SM} {fg : List Nat} {e : Sl} {S S1 : Store} {xs : List Vl} {o : OutS} (h1 : it e S = .ok xs S1) (h2 : forGo t b fg xs (fgt fg e) S1 = o) : sFor it t b fg e S = o := by
  unfold sFor; rw [h1]; exact h2
theorem op_t2 {a b : D} {S : Store} : kTup [.v a, .v b] S = .ok (.v (.tup [a, b])) S := rfl
theorem op_t3 {a b c : D} {S : Store} : kTup [.v a, .v b, .v c] S = .ok (.v (.tup [a, b, c])) S := rfl
theorem sl_lst {ds : List D} {lo hi : Option Int} {S : Store} (h : (cutG ds lo hi).length ≤ 16777216) : fSl kLst (.v (.lst ds)) lo hi S = .ok (.v (.lst (cutG ds lo hi))) S := by
  show kLst (cutG (ds.map .v) lo hi) S = _
  have e : cutG (ds.map Vl.v) lo hi = (cutG ds lo hi).map .v := by simp [cutG, List.map_drop, List.map_take]
  rw [e]
  exact op_lstv h
theorem op_addL {a b : List D} {S : Store} (h : a.length + b.length ≤ 16777216) : fAdd (.v (.lst a)) (.v (.lst b)) S = .ok (.v (.lst (a ++ b))) S := by
  have e : a.map Vl.v ++ b.map Vl.v = (a ++ b).map .v := by simp
  have h' : (a.map Vl.v).length + (b.map Vl.v).length ≤ 16777216 := by simpa using h
  simp only [fAdd, lview, if_pos h']
  rw [e, unv_map]
theorem cut_to {α : Type} (xs : List α) (k : Nat) : cutG xs none (some (k : Int)) = xs.take k := by
  unfold cutG
  rw [HT.sIx_nat, HT.sIx_none]
  simp only [List.drop_zero, Nat.sub_zero]
  by_cases h : k ≤ xs.length
  · rw [Nat.min_eq_left h]
  · rw [Nat.min_eq_right (by omega), List.take_length, List.take_of_length_le (by omega)]
theorem cut_from {α : Type} (xs : List α) (k : Nat) : cutG xs (some (k : Int)) none = xs.drop k := by
  unfold cutG
  rw [HT.sIx_nat, HT.sIx_none]
  by_cases h : k ≤ xs.length
  · rw [Nat.min_eq_left h, List.take_of_length_le (by simp)]
  · rw [Nat.min_eq_right (by omega), List.drop_of_length_le (by omega), List.drop_of_length_le (by omega)]
    simp
theorem tuple_lst (ds : List D) {S : Store} : fTuple [.v (.lst ds)] S = .ok (.v (.tup ds)) S := by
  simp [fTuple, llview, unv_map]
theorem list_lst {ds : List D} {S : Store} (h : ds.length ≤ 16777216) : fList kLst [.v (.lst ds)] S = .ok (.v (.lst ds)) S := by
  show kLst (ds.map .v) S = _
  simp only [kLst, unv_map, h, if_true]
theorem p_raise {c f : Str} {ra : AM} {e : Sl} {S S1 : Store} {d : D} (h : ra e S = .ok [.v d] S1) : sRaise1 c f ra e S = .exc c [(f, d)] e S1 := by unfold sRaise1; rw [h]; rfl
theorem p_bk {a b : SM} {e e1 : Sl} {S S1 : Store} (h : a e S = .go (.bk e1) S1) : sSeq a b e S = .go (.bk e1) S1 := by unfold sSeq; rw [h]; rfl

/-! the steps of a reading, taken by themselves as far as they are plain -/
theorem unv_c {d : D} {xs : List Vl} {ds : List D} (h : unv xs = some ds) : unv (.v d :: xs) = some (d :: ds) := by rw [unv_cons, h]; rfl
theorem unv_n : unv [] = some [] := rfl
def shL {α : Type} : Nat → List α → Bool
  | _, [] => true
  | n + 1, _ :: xs => shL n xs
  | 0, _ => false
theorem shL_le {α : Type} : ∀ {n : Nat} {xs : List α}, shL n xs = true → xs.length ≤ n
  | _, [], _ => by simp
  | n + 1, _ :: xs, h => by have := shL_le (n := n) (xs := xs) h; simp; omega
  | 0, _ :: _, h => by cases h
theorem shL_b {α : Type} {xs : List α} (h : shL 64 xs = true) : xs.length ≤ 16777216 := Nat.le_trans (shL_le h) (by decide)
theorem op_tupB {xs : List Vl} {ds : List D} {S : Store} (h1 : unv xs = some ds) (h2 : shL 64 ds = true) : kTup xs S = .ok (.v (.tup ds)) S := op_tup h1 (shL_b h2)
theorem op_lstB {xs : List Vl} {ds : List D} {S : Store} (h1 : unv xs = some ds) (h2 : shL 64 ds = true) : kLst xs S = .ok (.v (.lst ds)) S := op_lst h1 (shL_b h2)
theorem op_lstCB {xs : List Vl} {S : Store} (h : shL 64 xs = true) : kLstC xs S = .ok (.r S.length) (S ++ [.lst xs]) := op_lstC (shL_b h)
theorem op_inegL {i : Int} {S : Store} : fNeg (.v (.int i)) S = .ok (.v (.int (-i))) S := rfl
theorem tru_bl {S : Store} {b : Bool} : tru S (.v (.bl b)) = some b := rfl
theorem ev_tnF {ta : TM} {e : Sl} {S S1 : Store} (h : ta e S = .ok true S1) : tmNot ta e S = .ok false S1 := ev_tnot h
theorem ev_tnT {ta : TM} {e : Sl} {S S1 : Store} (h : ta e S = .ok false S1) : tmNot ta e S = .ok true S1 := ev_tnot h
theorem ev_tor' {ta tb : TM} {e : Sl} {S S1 S2 : Store} {c : Bool} (h1 : ta e S = .ok false S1) (h2 : tb e S1 = .ok c S2) : tmOr ta tb e S = .ok (false || c) S2 := by
  unfold tmOr; rw [h1]; simp only [Out.bind]; rw [Bool.false_or]; exact h2

end Lawk40
namespace Lawk40
open PySem PySem.Spec PyProof.Rows L2 Ax
local macro_rules | `(tactic| walk_at "op") => `(tactic| (first | with_reducible assumption | walk_at "my" | with_reducible exact op_iadd | with_reducible exact op_isub | with_reducible exact op_iplus | with_reducible exact op_ilt | with_reducible exact op_ile | with_reducible exact op_igt | with_reducible exact op_ige | with_reducible exact op_ieq | with_reducible exact op_ine | with_reducible exact op_inegL | with_reducible exact op_len_lst | with_reducible exact op_len_tup | with_reducible exact unv_n | with_reducible exact tru_bl))
local macro_rules | `(tactic| walk_at "ev") => `(tactic| (first
  | ((with_reducible apply ev_var); exact rfl)
  | with_reducible exact ev_c | with_reducible exact ev_nil | with_reducible exact ev_yes | with_reducible exact ev_oN
  | ((with_reducible intro _); walk_at "ev")
  | walk_at "op"
  | ((with_reducible apply unv_c); walk_at "ev")
  | ((with_reducible apply ev_cons) <;> walk_at "ev")
  | ((with_reducible apply ev_bin) <;> walk_at "ev")
  | ((with_reducible apply ev_un) <;> walk_at "ev")
  | ((with_reducible apply ev_tup) <;> walk_at "ev")
  | ((with_reducible apply ev_lst) <;> walk_at "ev")
  | ((with_reducible apply ev_lstC) <;> walk_at "ev")
  | ((with_reducible apply ev_b) <;> walk_at "ev")
  | ((with_reducible apply ev_P) <;> walk_at "ev")
  | ((with_reducible apply ev_K) <;> walk_at "ev")
  | ((with_reducible apply ev_KF) <;> walk_at "ev")
  | ((with_reducible apply ev_KE) <;> walk_at "ev")
  | ((with_reducible apply ev_peek) <;> walk_at "ev")
  | ((with_reducible apply ev_sl) <;> walk_at "ev")
  | ((with_reducible apply ev_oS) <;> walk_at "ev")
  | ((with_reducible apply ev_not) <;> walk_at "ev")
  | ((with_reducible apply ev_and) <;> walk_at "ev")
  | ((with_reducible apply ev_or) <;> walk_at "ev")
  | ((with_reducible apply ev_chain) <;> walk_at "ev")
  | ((with_reducible apply ev_tbl) <;> walk_at "ev")
  | ((with_reducible apply ev_ttru) <;> walk_at "ev")
  | ((with_reducible apply ev_tnF) <;> walk_at "ev")
  | ((with_reducible apply ev_tnT) <;> walk_at "ev")
  | ((with_reducible apply ev_tnot) <;> walk_at "ev")
  | ((with_reducible apply ev_tand) <;> walk_at "ev")
  | ((with_reducible apply ev_tor) <;> walk_at "ev")
  | ((with_reducible apply ev_heard0) <;> walk_at "ev")
  | ((with_reducible apply ev_mth) <;> walk_at "ev")
  | ((with_reducible apply op_tupB) <;> walk_at "ev")
  | ((with_reducible apply op_lstB) <;> walk_at "ev")
  | ((with_reducible apply op_lstCB) <;> walk_at "ev")
  | ((with_reducible show shL 64 _ = true); exact rfl)
  | skip))

local macro_rules | `(tactic| walk_at "my") => `(tactic| (first | with_reducible exact op_t2 | with_reducible exact op_t3))

/-! rows of ints, as data -/
def tI (r : List Int) : D := .tup (r.map .int)
def lI (r : List Int) : D := .lst (r.map .int)
def isSeq (B : D) (b : List Int) : Prop := B = lI b ∨ B = tI b
theorem deqs_ints : ∀ a b : List Int, deqs (a.map .int) (b.map .int) = decide (a = b)
  | [], [] => rfl
  | [], _ :: _ => rfl
  | _ :: _, [] => rfl
  | x :: a, y :: b => by
    have ih := deqs_ints a b
    show ((x == y) && deqs (a.map .int) (b.map .int)) = _
    rw [ih]
    by_cases h : x = y
    · subst h; by_cases h2 : a = b <;> simp [h2]
    · have : (x == y) = false := by simpa using h
      simp [this, h]
theorem okd_I {k : Nat} (r : List Int) : okd (k + 1) (tI r) = true ∧ okd (k + 1) (lI r) = true := by
  constructor
  · show (r.map D.int).all (okd k) = true
    exact List.all_eq_true.mpr fun d hd => by obtain ⟨q, _, rfl⟩ := List.mem_map.mp hd; cases k <;> rfl
  · show (r.map D.int).all (okd k) = true
    exact List.all_eq_true.mpr fun d hd => by obtain ⟨q, _, rfl⟩ := List.mem_map.mp hd; cases k <;> rfl
theorem ne_lI (a b : List Int) {S : Store} : fNe (.v (lI a)) (.v (lI b)) S = .ok (.v (.bl !decide (a = b))) S := by
  rw [op_neD (okd_I a).2 (okd_I b).2]
  show Out.ok (Vl.v (.bl !deqs (a.map .int) (b.map .int))) S = _
  rw [deqs_ints]
theorem eq_lI (a b : List Int) {S : Store} : fEq (.v (lI a)) (.v (lI b)) S = .ok (.v (.bl (decide (a = b)))) S := by
  rw [op_eqD (okd_I a).2 (okd_I b).2]
  show Out.ok (Vl.v (.bl (deqs (a.map .int) (b.map .int)))) S = _
  rw [deqs_ints]
theorem vI (r : List Int) : vInts ((r.map D.int).map Vl.v) = some r := by
  have := vInts_map r
  rwa [show (r.map fun n => Vl.v (.int n)) = (r.map D.int).map Vl.v by simp] at this
theorem sum_lI (r : List Int) {S : Store} : fSumA [.v (lI r)] S = .ok (.v (.int r.sum)) S := by
  show fSum [.v (.lst (r.map .int))] S = _
  have : (llview S (.v (.lst (r.map .int)))).bind vInts = some r := vI r
  simp only [fSum, this]
theorem sum_tI (r : List Int) {S : Store} : fSumA [.v (tI r)] S = .ok (.v (.int r.sum)) S := by
  show (match vInts ((r.map D.int).map .v) with | some ns => Out.ok (Vl.v (.int ns.sum)) S | none => .stuck) = _
  rw [vI]
theorem sum_seq {B : D} {b : List Int} (h : isSeq B b) {S : Store} : fSumA [.v B] S = .ok (.v (.int b.sum)) S := by
  rcases h with rfl | rfl
  · exact sum_lI b
  · exact sum_tI b
theorem len_seq {B : D} {b : List Int} (h : isSeq B b) {S : Store} : fLen [.v B] S = .ok (.v (.int (b.length : Int))) S := by
  rcases h with rfl | rfl
  · have := op_len_lst (ds := b.map .int) (S := S)
    rwa [List.length_map] at this
  · have := op_len_tup (ds := b.map .int) (S := S)
    rwa [List.length_map] at this
theorem list_seq {B : D} {b : List Int} (h : isSeq B b) (hl : b.length ≤ 1000) {S : Store} : fList kLst [.v B] S = .ok (.v (lI b)) S := by
  rcases h with rfl | rfl
  · show kLst ((b.map D.int).map .v) S = _
    exact op_lstv (by rw [List.length_map]; omega)
  · show kLst ((b.map D.int).map .v) S = _
    exact op_lstv (by rw [List.length_map]; omega)
theorem kLst_I {ns : List Int} {S : Store} (h : ns.length ≤ 16777216) : kLst (ns.map fun x => Vl.v (.int x)) S = .ok (.v (lI ns)) S := by
  have := op_lstv (S := S) (ds := ns.map D.int) (by simpa using h)
  rwa [List.map_map] at this
theorem seq_ev {B : D} {b : List Int} (h : isSeq B b) {e : Sl} {S : Store} {i : Nat} (hi : e[i]? = some (some (.v B))) : iSeq (eVar i) e S = .ok (b.map fun x => Vl.v (.int x)) S := by
  have sv : sview (.v B) = some (b.map .int) := by rcases h with rfl | rfl <;> rfl
  have := ev_iseq (e := e) (S := S) (S1 := S) (ma := eVar i) (x := .v B) (ds := b.map .int) (ev_var hi) sv
  rwa [List.map_map] at this
theorem vBls_of {α : Type} (f : α → Bool) (xs : List α) : vBls (xs.map fun x => Vl.v (.bl (f x))) = some (xs.map f) := by
  have := vBls_map (xs.map f)
  rwa [List.map_map] at this
theorem all_lst {α : Type} (f : α → Bool) (xs : List α) {S : Store} : fAll [.v (.lst (xs.map fun x => D.bl (f x)))] S = .ok (.v (.bl (xs.all f))) S := by
  have e : ((xs.map fun x => D.bl (f x)).map Vl.v) = xs.map fun x => Vl.v (.bl (f x)) := by simp
  simp only [fAll, llview, e, Option.bind_some, vBls_of f xs]
  congr 3
  induction xs with
  | nil => rfl
  | cons x xs ih => simp
theorem kLst_bls {α : Type} (f : α → Bool) (xs : List α) {S : Store} (h : xs.length ≤ 16777216) : kLst (xs.map fun x => Vl.v (.bl (f x))) S = .ok (.v (.lst (xs.map fun x => .bl (f x)))) S := by
  have := op_lstv (S := S) (ds := xs.map fun x => D.bl (f x)) (by simpa using h)
  rwa [List.map_map] at this
theorem is_within_int (i a b : Int) : is_within [.int i, .int a, .int b] = .ok (.bl (decide (a ≤ i) && decide (i ≤ b))) := by
  have q : (eAnd (eCallP is_integer (aCons (eVar 0) (aNil))) (eChain fLe fLe (eVar 1) (eVar 0) (eVar 2))) (slots 3 ([D.int i, .int a, .int b].map .v)) [] = .ok (.v (.bl (true && (decide (a ≤ i) && decide (i ≤ b))))) [] :=
    ev_and (ev_P (d := .bl true) (ev_cons (ev_var rfl) ev_nil) rfl rfl) (fun _ => ev_chain (ev_var rfl) (ev_var rfl) op_ile (ev_var rfl) op_ile)
  rw [Bool.true_and] at q
  exact runP_rt (p_ret q)
/-- counts that are right -/
structure Cnt (n : Nat) (b : List Int) : Prop where
  len : b.length = n
  n4 : 2 ≤ n ∧ n ≤ 4
  rg : ∀ x ∈ b, 0 ≤ x
  sm : b.sum ≤ 12
theorem le_sum : ∀ {b : List Int}, (∀ x ∈ b, 0 ≤ x) → ∀ x ∈ b, x ≤ b.sum
  | a :: b, h, x, hx => by
    have s0 : 0 ≤ b.sum := by
      clear hx
      induction b with
      | nil => simp
      | cons c b ih =>
        rw [List.sum_cons]
        have := h c (by simp)
        have := ih fun z hz => h z (by rcases List.mem_cons.mp hz with rfl | hz <;> simp [*])
        omega
    rw [List.sum_cons]
    have := h a (by simp)
    rcases List.mem_cons.mp hx with rfl | hx
    · omega
    · have := le_sum (b := b) (fun z hz => h z (by simp [hz])) x hx
      omega
theorem counts_ev {B : D} {b : List Int} (h : isSeq B b) (hl : 2 ≤ b.length ∧ b.length ≤ 4) : are_counts [B] = .ok (.bl ((b.all fun x => decide (0 ≤ x) && decide (x ≤ 12)) && decide (b.sum ≤ 12))) := by
  have r : is_row [B] = .ok (.bl true) := by rcases h with rfl | rfl <;> rfl
  have c : h1_are_counts [some (.v B), none] [] = .ok (.v (.lst (b.map fun x => .bl (decide (0 ≤ x) && decide (x ≤ 12))))) [] := by
    refine ev_lc (seq_ev h rfl) (S2 := []) (ys := b.map fun x => Vl.v (.bl (decide (0 ≤ x) && decide (x ≤ 12)))) ?_ (kLst_bls (fun x : Int => decide (0 ≤ x) && decide (x ≤ 12)) b (by omega))
    exact lc_map (fun x : Int => Vl.v (.int x)) (fun x => Vl.v (.bl (decide (0 ≤ x) && decide (x ≤ 12)))) b (fun x _ => ⟨[some (.v B), some (.v (.int x))], rfl, rfl, ev_P (ev_cons (ev_var rfl) (ev_cons ev_c (ev_cons ev_c ev_nil))) rfl (is_within_int x 0 12)⟩) (by omega)
  have al := all_lst (fun x : Int => decide (0 ≤ x) && decide (x ≤ 12)) b (S := [])
  have t : (tmOr (tmNot (tTru (eCallP is_row (aCons (eVar 0) (aNil))))) (tmNot (tBl (eChain fLe fLe (eC (.int 2)) (eB fLen (aCons (eVar 0) (aNil))) (eC (.int 4)))))) [some (.v B), none] [] = .ok (false || !(decide ((2 : Int) ≤ (b.length : Int)) && decide ((b.length : Int) ≤ 4))) [] :=
    ev_tor' (ev_tnF (ev_ttru (ev_P (ev_cons (ev_var rfl) ev_nil) rfl r) rfl)) (ev_tnot (ev_tbl (ev_chain ev_c (ev_b (ev_cons (ev_var rfl) ev_nil) (len_seq h)) op_ile ev_c op_ile)))
  have tf : (false || !(decide ((2 : Int) ≤ (b.length : Int)) && decide ((b.length : Int) ≤ 4))) = false := by
    rw [decide_eq_true (by omega), decide_eq_true (by omega)]; rfl
  exact runP_rt (S := []) (p_go' t tf (p_ret (ev_and (ev_b (ev_cons c ev_nil) al) fun _ => ev_bin (ev_b (ev_cons (ev_var rfl) ev_nil) (sum_seq h)) ev_c op_ile)))
theorem counts_ok {n : Nat} {B : D} {b : List Int} (h : isSeq B b) (hb : Cnt n b) : are_counts [B] = .ok (.bl true) := by
  have l := hb.len
  have n4 := hb.n4
  rw [counts_ev h (by omega), decide_eq_true hb.sm]
  have : (b.all fun x => decide (0 ≤ x) && decide (x ≤ 12)) = true := List.all_eq_true.mpr fun x hx => by
    have a := hb.rg x hx
    have c := le_sum hb.rg x hx
    have d := hb.sm
    rw [decide_eq_true a, decide_eq_true (by omega)]; rfl
  rw [this]; rfl
theorem check_ok {n : Nat} {B A : D} {b a : List Int} (hB : isSeq B b) (hA : isSeq A a) (hb : Cnt n b) (ha : Cnt n a) (hs : a.sum = b.sum) : check_counts [B, A] = .ok .non := by
  have t : (tmOr (tmNot (tTru (eCallP are_counts (aCons (eVar 1) (aNil))))) (tmOr (tBl (eBin fNe (eB fLen (aCons (eVar 1) (aNil))) (eB fLen (aCons (eVar 0) (aNil))))) (tBl (eBin fNe (eB fSumA (aCons (eVar 1) (aNil))) (eB fSumA (aCons (eVar 0) (aNil))))))) [some (.v B), some (.v A)] [] = .ok (false || ((!((a.length : Int) == (b.length : Int))) || (!(a.sum == b.sum)))) [] :=
    ev_tor' (ev_tnF (ev_ttru (ev_P (ev_cons (ev_var rfl) ev_nil) rfl (counts_ok hA ha)) rfl)) (ev_tor (ev_tbl (ev_bin (ev_b (ev_cons (ev_var rfl) ev_nil) (len_seq hA)) (ev_b (ev_cons (ev_var rfl) ev_nil) (len_seq hB)) op_ine)) (fun _ => ev_tbl (ev_bin (ev_b (ev_cons (ev_var rfl) ev_nil) (sum_seq hA)) (ev_b (ev_cons (ev_var rfl) ev_nil) (sum_seq hB)) op_ine)))
  have tf : (false || ((!((a.length : Int) == (b.length : Int))) || (!(a.sum == b.sum)))) = false := by
    rw [ha.len, hb.len, hs]; simp
  exact runP_nx (p_go (ev_tnF (ev_ttru (ev_P (ev_cons (ev_var rfl) ev_nil) rfl (counts_ok hB hb)) rfl)) (p_ifF' t tf p_nil))

end Lawk40
namespace Lawk40
open PySem PySem.Spec PyProof.Rows L2 Ax
local macro_rules | `(tactic| walk_at "op") => `(tactic| (first | with_reducible assumption | walk_at "my" | with_reducible exact op_iadd | with_reducible exact op_isub | with_reducible exact op_iplus | with_reducible exact op_ilt | with_reducible exact op_ile | with_reducible exact op_igt | with_reducible exact op_ige | with_reducible exact op_ieq | with_reducible exact op_ine | with_reducible exact op_inegL | with_reducible exact op_len_lst | with_reducible exact op_len_tup | with_reducible exact unv_n | with_reducible exact tru_bl))
local macro_rules | `(tactic| walk_at "ev") => `(tactic| (first
  | ((with_reducible apply ev_var); exact rfl)
  | with_reducible exact ev_c | with_reducible exact ev_nil | with_reducible exact ev_yes | with_reducible exact ev_oN
  | ((with_reducible intro _); walk_at "ev")
  | walk_at "op"
  | ((with_reducible apply unv_c); walk_at "ev")
  | ((with_reducible apply ev_cons) <;> walk_at "ev")
  | ((with_reducible apply ev_bin) <;> walk_at "ev")
  | ((with_reducible apply ev_un) <;> walk_at "ev")
  | ((with_reducible apply ev_tup) <;> walk_at "ev")
  | ((with_reducible apply ev_lst) <;> walk_at "ev")
  | ((with_reducible apply ev_lstC) <;> walk_at "ev")
  | ((with_reducible apply ev_b) <;> walk_at "ev")
  | ((with_reducible apply ev_P) <;> walk_at "ev")
  | ((with_reducible apply ev_K) <;> walk_at "ev")
  | ((with_reducible apply ev_KF) <;> walk_at "ev")
  | ((with_reducible apply ev_KE) <;> walk_at "ev")
  | ((with_reducible apply ev_peek) <;> walk_at "ev")
  | ((with_reducible apply ev_sl) <;> walk_at "ev")
  | ((with_reducible apply ev_oS) <;> walk_at "ev")
  | ((with_reducible apply ev_not) <;> walk_at "ev")
  | ((with_reducible apply ev_and) <;> walk_at "ev")
  | ((with_reducible apply ev_or) <;> walk_at "ev")
  | ((with_reducible apply ev_chain) <;> walk_at "ev")
  | ((with_reducible apply ev_tbl) <;> walk_at "ev")
  | ((with_reducible apply ev_ttru) <;> walk_at "ev")
  | ((with_reducible apply ev_tnF) <;> walk_at "ev")
  | ((with_reducible apply ev_tnT) <;> walk_at "ev")
  | ((with_reducible apply ev_tnot) <;> walk_at "ev")
  | ((with_reducible apply ev_tand) <;> walk_at "ev")
  | ((with_reducible apply ev_tor) <;> walk_at "ev")
  | ((with_reducible apply ev_heard0) <;> walk_at "ev")
  | ((with_reducible apply ev_mth) <;> walk_at "ev")
  | ((with_reducible apply op_tupB) <;> walk_at "ev")
  | ((with_reducible apply op_lstB) <;> walk_at "ev")
  | ((with_reducible apply op_lstCB) <;> walk_at "ev")
  | ((with_reducible show shL 64 _ = true); exact rfl)
  | skip))

local macro_rules | `(tactic| walk_at "my") => `(tactic| (first | with_reducible exact op_t2 | with_reducible exact op_t3))

/-! tables judged -/
def atD : D → Bool
  | .int _ => true
  | .bl _ => true
  | .non => true
  | .str x => PyData.strOk x
  | _ => false
def rwD : D → Bool
  | .tup xs => xs.all atD && decide (xs.length ≤ 100)
  | .lst _ => true
  | .non => true
  | _ => false
def in12 : D → Bool
  | .int i => decide (0 ≤ i) && decide (i ≤ 12)
  | _ => false
def nnD : D → Bool
  | .int i => decide (0 ≤ i)
  | _ => false
def goodR (n : Nat) : D → Bool
  | .tup xs => xs.length == n && xs.all in12
  | _ => false
def nnR (n : Nat) : D → Bool
  | .tup xs => xs.length == n && xs.all nnD
  | _ => false
def iD : D → Int
  | .int i => i
  | _ => 0
def rsum : D → Int
  | .tup xs => (xs.map iD).sum
  | _ => 0
theorem in12_ok : ∀ {d : D}, atD d = true → is_within [d, .int 0, .int 12] = .ok (.bl (in12 d))
  | .int i, _ => is_within_int i 0 12
  | .bl true, _ => rfl
  | .bl false, _ => rfl
  | .non, _ => rfl
  | .str _, _ => rfl
theorem natbeq (x y : Nat) : ((x : Int) == (y : Int)) = (x == y) := by
  by_cases h : x = y
  · subst h; simp
  · have : ((x : Int) == (y : Int)) = false := by rw [beq_eq_false_iff_ne]; omega
    rw [this]; exact (beq_eq_false_iff_ne.mpr h).symm
theorem kLst_Ds {α : Type} (f : α → D) (xs : List α) {S : Store} (h : xs.length ≤ 16777216) : kLst (xs.map fun x => Vl.v (f x)) S = .ok (.v (.lst (xs.map f))) S := by
  have := op_lstv (S := S) (ds := xs.map f) (by simpa using h)
  rwa [List.map_map] at this
abbrev eIr (B A T : D) (a3 : Option Vl) : Sl := [some (.v B), some (.v A), some (.v T), a3, none, none]
theorem ir_body {B A T : D} {b : List Int} {n : Nat} (hB : isSeq B b) (hn : b.length = n) {r : D} (hr : rwD r = true) {S : Store} :
    b1_is_right (eIr B A T (some (.v r))) S = if goodR n r then .go (.nx (eIr B A T (some (.v r)))) S else .go (.rt (.v (.bl false))) S := by
  have hl := len_seq hB (S := S)
  rw [hn] at hl
  cases r with
  | tup xs =>
    unfold rwD at hr
    rw [Bool.and_eq_true, decide_eq_true_eq] at hr
    have t1 : (tmOr (tmNot (tTru (eB fIsi (aCons (eVar 3) (aCons (eC (.ty "tuple")) (aNil)))))) (tBl (eBin fNe (eB fLen (aCons (eVar 3) (aNil))) (eB fLen (aCons (eVar 0) (aNil)))))) (eIr B A T (some (.v (.tup xs)))) S = .ok (false || !((xs.length : Int) == (n : Int))) S :=
      ev_tor' (ev_tnF (ev_ttru (ev_b (ev_cons (ev_var rfl) (ev_cons ev_c ev_nil)) rfl) rfl)) (ev_tbl (ev_bin (ev_b (ev_cons (ev_var rfl) ev_nil) op_len_tup) (ev_b (ev_cons (ev_var rfl) ev_nil) hl) op_ine))
    rw [natbeq, Bool.false_or] at t1
    have c : h1_is_right (eIr B A T (some (.v (.tup xs)))) S = .ok (.v (.lst (xs.map fun x => .bl (in12 x)))) S := by
      refine ev_lc (xs := xs.map Vl.v) (S1 := S) (S2 := S) (ys := xs.map fun x => Vl.v (.bl (in12 x))) (ev_iseq (ev_var rfl) rfl) ?_ (kLst_bls in12 xs (by omega))
      exact lc_map (fun x : D => Vl.v x) (fun x => Vl.v (.bl (in12 x))) xs (fun x hx => ⟨[some (.v B), some (.v A), some (.v T), some (.v (.tup xs)), none, some (.v x)], rfl, rfl, ev_P (ev_cons (ev_var rfl) (ev_cons ev_c (ev_cons ev_c ev_nil))) rfl (in12_ok (List.all_eq_true.mp hr.1 x hx))⟩) (by omega)
    have al := all_lst in12 xs (S := S)
    have t2 : (tmNot (tTru (eB fAll (aCons (h1_is_right) (aNil))))) (eIr B A T (some (.v (.tup xs)))) S = .ok (!(xs.all in12)) S := ev_tnot (ev_ttru (ev_b (ev_cons c ev_nil) al) rfl)
    rw [show goodR n (.tup xs) = (xs.length == n && xs.all in12) from rfl]
    by_cases h1 : (xs.length == n) = true
    · rw [h1, Bool.true_and]
      rw [h1] at t1
      refine p_nx (p_ifF t1 p_nil) ?_
      cases h2 : xs.all in12 with
      | true => rw [h2] at t2; exact p_ifF t2 p_nil
      | false => rw [h2] at t2; exact p_ifT t2 (p_ret ev_c)
    · have h1 : (xs.length == n) = false := by simpa using h1
      rw [h1] at t1 ⊢
      exact p_rt (p_ifT t1 (p_ret ev_c))
  | lst xs => exact p_rt (p_ifT (ev_torT (ev_tnT (ev_ttru (ev_b (ev_cons (ev_var rfl) (ev_cons ev_c ev_nil)) rfl) rfl))) (p_ret ev_c))
  | non => exact p_rt (p_ifT (ev_torT (ev_tnT (ev_ttru (ev_b (ev_cons (ev_var rfl) (ev_cons ev_c ev_nil)) rfl) rfl))) (p_ret ev_c))
  | _ => cases hr
theorem ir_go {B A T : D} {b : List Int} {n : Nat} (hB : isSeq B b) (hn : b.length = n) {S : Store} : ∀ (rs : List D) (a3 : Option Vl), (∀ r ∈ rs, rwD r = true) →
    ∃ b3, forGo (gNm 3) b1_is_right [] (rs.map Vl.v) (eIr B A T a3) S = if rs.all (goodR n) then .go (.nx (eIr B A T b3)) S else .go (.rt (.v (.bl false))) S
  | [], a3, _ => ⟨a3, rfl⟩
  | r :: rs, a3, h => by
    have bd := ir_body (A := A) (T := T) hB hn (h r (by simp)) (S := S)
    obtain ⟨b3, ih⟩ := ir_go (A := A) (T := T) hB hn (S := S) rs (some (.v r)) fun x hx => h x (by simp [hx])
    refine ⟨b3, ?_⟩
    rw [List.map_cons, List.all_cons]
    cases c : goodR n r with
    | true =>
      rw [c, if_pos rfl] at bd
      rw [forGo_nx (e1 := eIr B A T (some (.v r))) rfl bd, Bool.true_and]
      exact ih
    | false =>
      rw [c] at bd
      simp only [forGo]
      rw [show gNm 3 (.v r) (eIr B A T a3) = some (eIr B A T (some (.v r))) from rfl]
      simp only [bd]
      rfl
def colS (M : List (List Int)) (k : Nat) : Int := (M.map fun r => r.getD k 0).sum
theorem good_map {n : Nat} : ∀ {rs : List D}, rs.all (nnR n) = true → ∃ M : List (List Int), rs = M.map tI ∧ ∀ r ∈ M, r.length = n ∧ ∀ x ∈ r, 0 ≤ x
  | [], _ => ⟨[], rfl, by simp⟩
  | r :: rs, h => by
    rw [List.all_cons, Bool.and_eq_true] at h
    obtain ⟨M, e, hM⟩ := good_map h.2
    cases r with
    | tup xs =>
      have h1 := h.1
      unfold nnR at h1
      rw [Bool.and_eq_true, beq_iff_eq] at h1
      have ex : ∀ {xs : List D}, xs.all nnD = true → xs = (xs.map iD).map .int ∧ ∀ x ∈ xs.map iD, 0 ≤ x := by
        intro xs
        induction xs with
        | nil => intro _; exact ⟨rfl, by simp⟩
        | cons d xs ih =>
          intro h
          rw [List.all_cons, Bool.and_eq_true] at h
          obtain ⟨a, b⟩ := ih h.2
          cases d with
          | int i =>
            have hi : 0 ≤ i := of_decide_eq_true h.1
            refine ⟨by rw [List.map_cons, List.map_cons, ← a]; rfl, fun x hx => ?_⟩
            rw [List.map_cons] at hx
            rcases List.mem_cons.mp hx with rfl | hx
            · exact hi
            · exact b x hx
          | _ => exact absurd h.1 (by simp [nnD])
      obtain ⟨a, b⟩ := ex h1.2
      refine ⟨xs.map iD :: M, ?_, fun r hr => ?_⟩
      · rw [List.map_cons, e]
        show D.tup xs :: _ = D.tup ((xs.map iD).map .int) :: _
        rw [← a]
      · rcases List.mem_cons.mp hr with rfl | hr
        · exact ⟨by rw [List.length_map]; exact h1.1, b⟩
        · exact hM r hr
    | _ => exact absurd h.1 (by simp [nnR])
theorem all_tI {n : Nat} {M : List (List Int)} (h : ∀ r ∈ M, r.length = n ∧ ∀ x ∈ r, 0 ≤ x) : (M.map tI).all (goodR n) = M.all fun r => r.all fun x => decide (x ≤ 12) := by
  induction M with
  | nil => rfl
  | cons r M ih =>
    have hr := h r (by simp)
    rw [List.map_cons, List.all_cons, List.all_cons, ih fun x hx => h x (by simp [hx])]
    congr 1
    show ((r.map D.int).length == n && (r.map D.int).all in12) = _
    rw [List.length_map, hr.1, beq_self_eq_true, Bool.true_and, List.all_map]
    have : ∀ x ∈ r, (in12 ∘ D.int) x = decide (x ≤ 12) := fun x hx => by
      show (decide (0 ≤ x) && decide (x ≤ 12)) = _
      rw [decide_eq_true (hr.2 x hx), Bool.true_and]
    rw [Bool.eq_iff_iff, List.all_eq_true, List.all_eq_true]
    exact ⟨fun q x hx => by rw [← this x hx]; exact q x hx, fun q x hx => by rw [this x hx]; exact q x hx⟩
theorem seq_M {M : List (List Int)} {e : Sl} {S : Store} {i : Nat} (hi : e[i]? = some (some (.v (.tup (M.map tI))))) : iSeq (eVar i) e S = .ok (M.map fun r => Vl.v (tI r)) S := by
  have := ev_iseq (e := e) (S := S) (S1 := S) (ma := eVar i) (x := .v (.tup (M.map tI))) (ds := M.map tI) (ev_var hi) rfl
  rwa [List.map_map] at this
theorem at_tI {r : List Int} {k : Nat} (h : k < r.length) {S : Store} : fIx (.v (tI r)) (.v (.int (k : Int))) S = .ok (.v (.int (r.getD k 0))) S := by
  refine op_ix_tup ?_
  rw [List.getElem?_map, List.getD_eq_getElem?_getD, List.getElem?_eq_getElem h]; rfl
theorem at_lI {r : List Int} {k : Nat} (h : k < r.length) {S : Store} : fIx (.v (lI r)) (.v (.int (k : Int))) S = .ok (.v (.int (r.getD k 0))) S := by
  refine op_ix_lst ?_
  rw [List.getElem?_map, List.getD_eq_getElem?_getD, List.getElem?_eq_getElem h]; rfl
/-- the end of is_right, where all rows are right -/
theorem ir_end {B A : D} {b a : List Int} {n : Nat} (hB : isSeq B b) (hA : isSeq A a) (hb : b.length ≤ 100) (ha : a.length = n) (hn : n ≤ 100) {M : List (List Int)} (hM : ∀ r ∈ M, r.length = n) (hml : M.length ≤ 100) {a3 : Option Vl} :
    (sSeq (sIf (tBl (eBin fNe (h3_is_right) (eB (fList kLst) (aCons (eVar 0) (aNil))))) (sRet (eC (.bl false))) (sNil)) (sRet (eBin fEq (h5_is_right) (eB (fList kLst) (aCons (eVar 1) (aNil)))))) (eIr B A (.tup (M.map tI)) a3) [] = .go (.rt (.v (.bl (decide (M.map List.sum = b) && decide ((List.range n).map (colS M) = a))))) [] := by
  have h3 : h3_is_right (eIr B A (.tup (M.map tI)) a3) [] = .ok (.v (lI (M.map List.sum))) [] := by
    refine ev_lc (xs := M.map fun r => Vl.v (tI r)) (S1 := []) (S2 := []) (ys := (M.map List.sum).map fun x => Vl.v (.int x)) (seq_M rfl) ?_ (kLst_I (by rw [List.length_map]; omega))
    rw [List.map_map]
    exact lc_map (fun r : List Int => Vl.v (tI r)) (fun r => Vl.v (.int r.sum)) M (fun r _ => ⟨eIr B A (.tup (M.map tI)) (some (.v (tI r))), rfl, rfl, ev_b (ev_cons (ev_var rfl) ev_nil) (sum_tI r)⟩) (by omega)
  have h4 : ∀ k : Nat, k < n → h4_is_right [some (.v B), some (.v A), some (.v (.tup (M.map tI))), a3, some (.v (.int (k : Int))), none] [] = .ok (.v (lI (M.map fun r => r.getD k 0))) [] := fun k hk => by
    refine ev_lc (xs := M.map fun r => Vl.v (tI r)) (S1 := []) (S2 := []) (ys := (M.map fun r => r.getD k 0).map fun x => Vl.v (.int x)) (seq_M rfl) ?_ (kLst_I (by rw [List.length_map]; omega))
    rw [List.map_map]
    exact lc_map (fun r : List Int => Vl.v (tI r)) (fun r => Vl.v (.int (r.getD k 0))) M (fun r hr => ⟨[some (.v B), some (.v A), some (.v (.tup (M.map tI))), some (.v (tI r)), some (.v (.int (k : Int))), none], rfl, rfl, ev_bin (ev_var rfl) (ev_var rfl) (at_tI (by rw [hM r hr]; exact hk))⟩) (by omega)
  have h5 : h5_is_right (eIr B A (.tup (M.map tI)) a3) [] = .ok (.v (lI ((List.range n).map (colS M)))) [] := by
    refine ev_lc (xs := (List.range n).map fun k : Nat => Vl.v (.int ((k : Nat) : Int))) (S1 := []) (S2 := []) (ys := ((List.range n).map (colS M)).map fun x => Vl.v (.int x)) ?_ ?_ (kLst_I (by rw [List.length_map, List.length_range]; omega))
    · have l := len_seq hA (S := [])
      rw [ha] at l
      have := ev_irn1 (e := eIr B A (.tup (M.map tI)) a3) (S := []) (S1 := []) (ra := aCons (eB fLen (aCons (eVar 1) (aNil))) aNil) (j := (n : Int)) (ev_cons (ev_b (ev_cons (ev_var rfl) ev_nil) l) ev_nil) (smallI_nat (by omega))
      rw [this, rngD_map]
      simp
    · rw [List.map_map]
      exact lc_map (fun k : Nat => Vl.v (.int ((k : Nat) : Int))) (fun k => Vl.v (.int (colS M k))) (List.range n) (fun k hk => ⟨[some (.v B), some (.v A), some (.v (.tup (M.map tI))), a3, some (.v (.int (k : Int))), none], rfl, rfl, ev_b (ev_cons (h4 k (List.mem_range.mp hk)) ev_nil) (sum_lI _)⟩) (by rw [List.length_range]; omega)
  have t := ev_tbl (ev_bin (ma := h3_is_right) (mb := eB (fList kLst) (aCons (eVar 0) (aNil))) h3 (ev_b (ev_cons (ev_var rfl) ev_nil) (list_seq hB (by omega))) (ne_lI _ _))
  by_cases c : M.map List.sum = b
  · rw [decide_eq_true c, Bool.true_and]
    rw [decide_eq_true c] at t
    exact p_go t (p_ret (ev_bin h5 (ev_b (ev_cons (ev_var rfl) ev_nil) (list_seq hA (by omega))) (eq_lI _ _)))
  · rw [decide_eq_false c, Bool.false_and]
    rw [decide_eq_false c] at t
    exact p_rt (p_ifT t (p_ret ev_c))
theorem good_nn {n : Nat} {r : D} (h : goodR n r = true) : nnR n r = true := by
  cases r with
  | tup xs =>
    unfold goodR at h
    unfold nnR
    rw [Bool.and_eq_true] at h ⊢
    refine ⟨h.1, List.all_eq_true.mpr fun d hd => ?_⟩
    have := List.all_eq_true.mp h.2 d hd
    cases d with
    | int i =>
      unfold in12 at this
      rw [Bool.and_eq_true] at this
      exact this.1
    | _ => cases this
  | _ => cases h
theorem is_right_bad {B A : D} {b : List Int} {n : Nat} (hB : isSeq B b) (hn : b.length = n) {rs : List D} (hr : ∀ r ∈ rs, rwD r = true) (h : rs.length ≠ n ∨ rs.all (goodR n) = false) : is_right [B, A, .tup rs] = .ok (.bl false) := by
  have hl := len_seq hB (S := [])
  rw [hn] at hl
  have t1 : (tmOr (tmNot (tTru (eB fIsi (aCons (eVar 2) (aCons (eC (.ty "tuple")) (aNil)))))) (tBl (eBin fNe (eB fLen (aCons (eVar 2) (aNil))) (eB fLen (aCons (eVar 0) (aNil)))))) (eIr B A (.tup rs) none) [] = .ok (false || !((rs.length : Int) == (n : Int))) [] :=
    ev_tor' (ev_tnF (ev_ttru (ev_b (ev_cons (ev_var rfl) (ev_cons ev_c ev_nil)) rfl) rfl)) (ev_tbl (ev_bin (ev_b (ev_cons (ev_var rfl) ev_nil) op_len_tup) (ev_b (ev_cons (ev_var rfl) ev_nil) hl) op_ine))
  rw [natbeq, Bool.false_or] at t1
  obtain ⟨b3, g⟩ := ir_go (A := A) (T := .tup rs) hB hn (S := []) rs none hr
  by_cases c : rs.length = n
  · rcases h with h | h
    · exact absurd c h
    · rw [show (rs.length == n) = true by simpa using c] at t1
      rw [h] at g
      exact runP_rt (S := []) (p_go t1 (p_rt (sFor_of (ev_iseq (ev_var rfl) rfl) g)))
  · rw [show (rs.length == n) = false by simpa using c] at t1
    exact runP_rt (S := []) (p_rt (p_ifT t1 (p_ret ev_c)))
theorem is_right_ok {B A : D} {b a : List Int} {n : Nat} (hB : isSeq B b) (hA : isSeq A a) (hb : b.length = n) (ha : a.length = n) (hn : n ≤ 100) {M : List (List Int)} (hM : ∀ r ∈ M, r.length = n ∧ ∀ x ∈ r, 0 ≤ x) (hml : M.length = n) (hg : (M.all fun r => r.all fun x => decide (x ≤ 12)) = true) :
    is_right [B, A, .tup (M.map tI)] = .ok (.bl (decide (M.map List.sum = b) && decide ((List.range n).map (colS M) = a))) := by
  have hl := len_seq hB (S := [])
  rw [hb] at hl
  have t1 : (tmOr (tmNot (tTru (eB fIsi (aCons (eVar 2) (aCons (eC (.ty "tuple")) (aNil)))))) (tBl (eBin fNe (eB fLen (aCons (eVar 2) (aNil))) (eB fLen (aCons (eVar 0) (aNil)))))) (eIr B A (.tup (M.map tI)) none) [] = .ok (false || !(((M.map tI).length : Int) == (n : Int))) [] :=
    ev_tor' (ev_tnF (ev_ttru (ev_b (ev_cons (ev_var rfl) (ev_cons ev_c ev_nil)) rfl) rfl)) (ev_tbl (ev_bin (ev_b (ev_cons (ev_var rfl) ev_nil) op_len_tup) (ev_b (ev_cons (ev_var rfl) ev_nil) hl) op_ine))
  rw [natbeq, Bool.false_or, List.length_map, hml, beq_self_eq_true] at t1
  have rw_ok : ∀ r ∈ M.map tI, rwD r = true := fun r hr => by
    obtain ⟨q, hq, rfl⟩ := List.mem_map.mp hr
    have ql := (hM q hq).1
    show ((q.map D.int).all atD && decide ((q.map D.int).length ≤ 100)) = true
    rw [decide_eq_true (by rw [List.length_map]; omega), Bool.and_true]
    exact List.all_eq_true.mpr fun d hd => by obtain ⟨x, _, rfl⟩ := List.mem_map.mp hd; rfl
  obtain ⟨b3, g⟩ := ir_go (A := A) (T := .tup (M.map tI)) hB hb (S := []) (M.map tI) none rw_ok
  rw [all_tI hM, hg, if_pos rfl] at g
  exact runP_rt (S := []) (p_go t1 (p_nx (sFor_of (ev_iseq (ev_var rfl) rfl) g) (ir_end hB hA (by omega) ha hn (fun r hr => (hM r hr).1) (by omega))))

end Lawk40
namespace Lawk40
open PySem PySem.Spec PyProof.Rows L2 Ax
local macro_rules | `(tactic| walk_at "op") => `(tactic| (first | with_reducible assumption | walk_at "my" | with_reducible exact op_iadd | with_reducible exact op_isub | with_reducible exact op_iplus | with_reducible exact op_ilt | with_reducible exact op_ile | with_reducible exact op_igt | with_reducible exact op_ige | with_reducible exact op_ieq | with_reducible exact op_ine | with_reducible exact op_inegL | with_reducible exact op_len_lst | with_reducible exact op_len_tup | with_reducible exact unv_n | with_reducible exact tru_bl))
local macro_rules | `(tactic| walk_at "ev") => `(tactic| (first
  | ((with_reducible apply ev_var); exact rfl)
  | with_reducible exact ev_c | with_reducible exact ev_nil | with_reducible exact ev_yes | with_reducible exact ev_oN
  | ((with_reducible intro _); walk_at "ev")
  | walk_at "op"
  | ((with_reducible apply unv_c); walk_at "ev")
  | ((with_reducible apply ev_cons) <;> walk_at "ev")
  | ((with_reducible apply ev_bin) <;> walk_at "ev")
  | ((with_reducible apply ev_un) <;> walk_at "ev")
  | ((with_reducible apply ev_tup) <;> walk_at "ev")
  | ((with_reducible apply ev_lst) <;> walk_at "ev")
  | ((with_reducible apply ev_lstC) <;> walk_at "ev")
  | ((with_reducible apply ev_b) <;> walk_at "ev")
  | ((with_reducible apply ev_P) <;> walk_at "ev")
  | ((with_reducible apply ev_K) <;> walk_at "ev")
  | ((with_reducible apply ev_KF) <;> walk_at "ev")
  | ((with_reducible apply ev_KE) <;> walk_at "ev")
  | ((with_reducible apply ev_peek) <;> walk_at "ev")
  | ((with_reducible apply ev_sl) <;> walk_at "ev")
  | ((with_reducible apply ev_oS) <;> walk_at "ev")
  | ((with_reducible apply ev_not) <;> walk_at "ev")
  | ((with_reducible apply ev_and) <;> walk_at "ev")
  | ((with_reducible apply ev_or) <;> walk_at "ev")
  | ((with_reducible apply ev_chain) <;> walk_at "ev")
  | ((with_reducible apply ev_tbl) <;> walk_at "ev")
  | ((with_reducible apply ev_ttru) <;> walk_at "ev")
  | ((with_reducible apply ev_tnF) <;> walk_at "ev")
  | ((with_reducible apply ev_tnT) <;> walk_at "ev")
  | ((with_reducible apply ev_tnot) <;> walk_at "ev")
  | ((with_reducible apply ev_tand) <;> walk_at "ev")
  | ((with_reducible apply ev_tor) <;> walk_at "ev")
  | ((with_reducible apply ev_heard0) <;> walk_at "ev")
  | ((with_reducible apply ev_mth) <;> walk_at "ev")
  | ((with_reducible apply op_tupB) <;> walk_at "ev")
  | ((with_reducible apply op_lstB) <;> walk_at "ev")
  | ((with_reducible apply op_lstCB) <;> walk_at "ev")
  | ((with_reducible show shL 64 _ = true); exact rfl)
  | skip))

local macro_rules | `(tactic| walk_at "my") => `(tactic| (first | with_reducible exact op_t2 | with_reducible exact op_t3))

/-! the law's own look at tables -/
abbrev eLt (B A T : D) (a3 a4 a5 : Option Vl) : Sl := [some (.v B), some (.v A), some (.v T), a3, a4, a5]
/-- a row that the law takes -/
def lgood (n : Nat) (b : List Int) (k : Nat) (r : D) : Bool := nnR n r && (rsum r == b.getD k 0)
theorem nn_test : ∀ {d : D} {e : Sl} {S : Store}, atD d = true → e[4]? = some (some (.v d)) → (tmOr (tmNot (tTru (eB fIsi (aCons (eVar 4) (aCons (eC (.ty "int")) (aNil)))))) (tmOr (tTru (eB fIsi (aCons (eVar 4) (aCons (eC (.ty "bool")) (aNil))))) (tBl (eBin fLt (eVar 4) (eC (.int 0)))))) e S = .ok (!nnD d) S
  | .int i, e, S, _, h => by
    have r : (tmOr (tmNot (tTru (eB fIsi (aCons (eVar 4) (aCons (eC (.ty "int")) (aNil)))))) (tmOr (tTru (eB fIsi (aCons (eVar 4) (aCons (eC (.ty "bool")) (aNil))))) (tBl (eBin fLt (eVar 4) (eC (.int 0)))))) e S = .ok (false || (false || decide (i < 0))) S :=
      ev_tor' (ev_tnF (ev_ttru (ev_b (ev_cons (ev_var h) (ev_cons ev_c ev_nil)) rfl) rfl)) (ev_tor' (ev_ttru (ev_b (ev_cons (ev_var h) (ev_cons ev_c ev_nil)) rfl) rfl) (ev_tbl (ev_bin (ev_var h) ev_c op_ilt)))
    rw [r]
    congr 1
    show (false || (false || decide (i < 0))) = !decide (0 ≤ i)
    by_cases c : 0 ≤ i
    · rw [decide_eq_true c, decide_eq_false (by omega)]; rfl
    · rw [decide_eq_false c, decide_eq_true (by omega)]; rfl
  | .bl b, e, S, _, h => by
    have r : (tmOr (tmNot (tTru (eB fIsi (aCons (eVar 4) (aCons (eC (.ty "int")) (aNil)))))) (tmOr (tTru (eB fIsi (aCons (eVar 4) (aCons (eC (.ty "bool")) (aNil))))) (tBl (eBin fLt (eVar 4) (eC (.int 0)))))) e S = .ok (false || true) S :=
      ev_tor' (ev_tnF (ev_ttru (ev_b (ev_cons (ev_var h) (ev_cons ev_c ev_nil)) rfl) rfl)) (ev_torT (ev_ttru (ev_b (ev_cons (ev_var h) (ev_cons ev_c ev_nil)) rfl) rfl))
    exact r
  | .non, e, S, _, h => ev_torT (ev_tnT (ev_ttru (ev_b (ev_cons (ev_var h) (ev_cons ev_c ev_nil)) rfl) rfl))
  | .str _, e, S, _, h => ev_torT (ev_tnT (ev_ttru (ev_b (ev_cons (ev_var h) (ev_cons ev_c ev_nil)) rfl) rfl))
theorem ats_ok {xs : List D} (h : xs.all atD = true) : okd 60 (.lst xs) = true := by
  show xs.all (okd 59) = true
  refine List.all_eq_true.mpr fun d hd => ?_
  have := List.all_eq_true.mp h d hd
  cases d <;> first | rfl | (exact this) | (cases this)
theorem ints_of : ∀ {xs : List D}, xs.all nnD = true → xs = (xs.map iD).map .int
  | [], _ => rfl
  | d :: xs, h => by
    rw [List.all_cons, Bool.and_eq_true] at h
    have ih := ints_of h.2
    cases d with
    | int i => rw [List.map_cons, List.map_cons, ← ih]; rfl
    | _ => exact absurd h.1 (by simp [nnD])
theorem lt_body {B A T : D} {b : List Int} {n : Nat} {ts : List D} (hB : isSeq B b) (hn : b.length = n) (hT : T = .tup ts) {k : Nat} {r : D} (hk : ts[k]? = some r) (hkn : k < n) (hr : rwD r = true) {a4 a5 : Option Vl} {S : Store} :
    b1__law_is_table (eLt B A T (some (.v (.int (k : Int)))) a4 a5) S = if lgood n b k r then .go (.nx (eLt B A T (some (.v (.int (k : Int)))) a4 a5)) S else .go (.rt (.v (.bl false))) S := by
  subst hT
  have hl := len_seq hB (S := S)
  rw [hn] at hl
  have own : ∀ {b4 b5 : Option Vl}, (eBin fIx (eVar 2) (eVar 3)) (eLt B A (.tup ts) (some (.v (.int (k : Int)))) b4 b5) S = .ok (.v r) S := ev_bin (ev_var rfl) (ev_var rfl) (op_ix_tup hk)
  have bat : fIx (.v B) (.v (.int (k : Int))) S = .ok (.v (.int (b.getD k 0))) S := by
    rcases hB with rfl | rfl
    · exact at_lI (by omega)
    · exact at_tI (by omega)
  cases r with
  | tup xs =>
    unfold rwD at hr
    rw [Bool.and_eq_true, decide_eq_true_eq] at hr
    have t1 : (tmOr (tmNot (tTru (eB fIsi (aCons (eBin fIx (eVar 2) (eVar 3)) (aCons (eC (.ty "tuple")) (aNil)))))) (tBl (eBin fNe (eB fLen (aCons (eBin fIx (eVar 2) (eVar 3)) (aNil))) (eB fLen (aCons (eVar 0) (aNil)))))) (eLt B A (.tup ts) (some (.v (.int (k : Int)))) a4 a5) S = .ok (false || !((xs.length : Int) == (n : Int))) S :=
      ev_tor' (ev_tnF (ev_ttru (ev_b (ev_cons own (ev_cons ev_c ev_nil)) rfl) rfl)) (ev_tbl (ev_bin (ev_b (ev_cons own ev_nil) op_len_tup) (ev_b (ev_cons (ev_var rfl) ev_nil) hl) op_ine))
    rw [natbeq, Bool.false_or] at t1
    have c : h1__law_is_table (eLt B A (.tup ts) (some (.v (.int (k : Int)))) a4 a5) S = .ok (.v (.lst (xs.filter fun d => !nnD d))) S := by
      refine ev_lc (xs := xs.map Vl.v) (S1 := S) (S2 := S) (ys := (xs.filter fun d => !nnD d).map Vl.v) (ev_iseq own rfl) ?_ (op_lstv (by have := List.length_filter_le (fun d => !nnD d) xs; omega))
      exact lc_pure (fun x : D => Vl.v x) (fun d => !nnD d) (fun x => Vl.v x) xs [] (fun x hx => ⟨eLt B A (.tup ts) (some (.v (.int (k : Int)))) (some (.v x)) a5, rfl, nn_test (List.all_eq_true.mp hr.1 x hx) rfl, fun _ => ev_var rfl⟩) (by simp; omega)
    have fa : (xs.filter fun d => !nnD d).all atD = true := List.all_eq_true.mpr fun d hd => List.all_eq_true.mp hr.1 d (List.mem_filter.mp hd).1
    have dq : deq (.lst (xs.filter fun d => !nnD d)) (.lst []) = xs.all nnD := by
      cases q : xs.all nnD with
      | true =>
        rw [List.filter_eq_nil_iff.mpr fun d hd => by rw [List.all_eq_true.mp q d hd]; simp]; rfl
      | false =>
        cases z : xs.filter fun d => !nnD d with
        | nil =>
          have : xs.all nnD = true := List.all_eq_true.mpr fun d hd => by
            have := List.filter_eq_nil_iff.mp z d hd
            simpa using this
          rw [this] at q; cases q
        | cons d l => rfl
    have t2 : (tBl (eBin fNe (h1__law_is_table) (eLst (aNil)))) (eLt B A (.tup ts) (some (.v (.int (k : Int)))) a4 a5) S = .ok (!xs.all nnD) S := by
      rw [← dq]
      exact ev_tbl (ev_bin c (ev_lst ev_nil rfl) (op_neD (ats_ok fa) rfl))
    have eg : lgood n b k (.tup xs) = (xs.length == n && xs.all nnD && ((xs.map iD).sum == b.getD k 0)) := rfl
    rw [eg]
    by_cases h1 : (xs.length == n) = true
    · rw [h1, Bool.true_and]
      rw [h1] at t1
      refine p_nx (p_ifF t1 p_nil) ?_
      cases h2 : xs.all nnD with
      | false =>
        rw [h2] at t2
        exact p_ifT (ev_torT t2) (p_ret ev_c)
      | true =>
        rw [h2] at t2
        have e := ints_of h2
        have sm : fSumA [.v (.tup xs)] S = .ok (.v (.int (xs.map iD).sum)) S := by
          have := sum_tI (xs.map iD) (S := S)
          unfold tI at this
          rwa [← e] at this
        have t3 := ev_tor' t2 (ev_tbl (ev_bin (ma := eB fSumA (aCons (eBin fIx (eVar 2) (eVar 3)) (aNil))) (mb := eBin fIx (eVar 0) (eVar 3)) (ev_b (ev_cons own ev_nil) sm) (ev_bin (ev_var rfl) (ev_var rfl) bat) op_ine))
        rw [Bool.false_or] at t3
        rw [Bool.true_and]
        cases h3 : ((xs.map iD).sum == b.getD k 0) with
        | true => rw [h3] at t3; exact p_ifF t3 p_nil
        | false => rw [h3] at t3; exact p_ifT t3 (p_ret ev_c)
    · have h1 : (xs.length == n) = false := by simpa using h1
      rw [h1] at t1 ⊢
      exact p_rt (p_ifT t1 (p_ret ev_c))
  | lst xs => exact p_rt (p_ifT (ev_torT (ev_tnT (ev_ttru (ev_b (ev_cons own (ev_cons ev_c ev_nil)) rfl) rfl))) (p_ret ev_c))
  | non => exact p_rt (p_ifT (ev_torT (ev_tnT (ev_ttru (ev_b (ev_cons own (ev_cons ev_c ev_nil)) rfl) rfl))) (p_ret ev_c))
  | _ => cases hr
theorem lt_go {B A T : D} {b : List Int} {n : Nat} {ts : List D} (hB : isSeq B b) (hn : b.length = n) (hT : T = .tup ts) (htl : ts.length = n) (hr : ∀ r ∈ ts, rwD r = true) {S : Store} : ∀ (ks : List Nat) (a3 : Option Vl), (∀ k ∈ ks, k < n) →
    ∃ b3, forGo (gNm 3) b1__law_is_table [] (ks.map fun k => Vl.v (.int ((k : Nat) : Int))) (eLt B A T a3 none none) S = if ks.all (fun k => lgood n b k (ts.getD k .non)) then .go (.nx (eLt B A T b3 none none)) S else .go (.rt (.v (.bl false))) S
  | [], a3, _ => ⟨a3, rfl⟩
  | k :: ks, a3, h => by
    have hk := h k (by simp)
    have at_ : ts[k]? = some (ts.getD k .non) := by rw [List.getD_eq_getElem?_getD, List.getElem?_eq_getElem (by omega)]; rfl
    have bd := lt_body (A := A) hB hn hT at_ hk (hr _ (List.mem_of_getElem? at_)) (a4 := none) (a5 := none) (S := S)
    obtain ⟨b3, ih⟩ := lt_go (A := A) hB hn hT htl hr (S := S) ks (some (.v (.int (k : Int)))) fun x hx => h x (by simp [hx])
    refine ⟨b3, ?_⟩
    rw [List.map_cons, List.all_cons]
    cases c : lgood n b k (ts.getD k .non) with
    | true =>
      rw [c, if_pos rfl] at bd
      rw [forGo_nx (e1 := eLt B A T (some (.v (.int (k : Int)))) none none) rfl bd, Bool.true_and]
      exact ih
    | false =>
      rw [c] at bd
      simp only [forGo]
      rw [show gNm 3 (.v (.int (k : Int))) (eLt B A T a3 none none) = some (eLt B A T (some (.v (.int (k : Int)))) none none) from rfl]
      simp only [bd]
      rfl
theorem lt_pre {B A : D} {b : List Int} {n : Nat} (hB : isSeq B b) (hn : b.length = n) {ts : List D} {S : Store} : (tmOr (tmNot (tTru (eB fIsi (aCons (eVar 2) (aCons (eC (.ty "tuple")) (aNil)))))) (tBl (eBin fNe (eB fLen (aCons (eVar 2) (aNil))) (eB fLen (aCons (eVar 0) (aNil)))))) (eLt B A (.tup ts) none none none) S = .ok (!(ts.length == n)) S := by
  have hl := len_seq hB (S := S)
  rw [hn] at hl
  have t : (tmOr (tmNot (tTru (eB fIsi (aCons (eVar 2) (aCons (eC (.ty "tuple")) (aNil)))))) (tBl (eBin fNe (eB fLen (aCons (eVar 2) (aNil))) (eB fLen (aCons (eVar 0) (aNil)))))) (eLt B A (.tup ts) none none none) S = .ok (false || !((ts.length : Int) == (n : Int))) S :=
    ev_tor' (ev_tnF (ev_ttru (ev_b (ev_cons (ev_var rfl) (ev_cons ev_c ev_nil)) rfl) rfl)) (ev_tbl (ev_bin (ev_b (ev_cons (ev_var rfl) ev_nil) op_len_tup) (ev_b (ev_cons (ev_var rfl) ev_nil) hl) op_ine))
  rw [natbeq, Bool.false_or] at t
  exact t
theorem rng_len {B : D} {b : List Int} {n : Nat} (hB : isSeq B b) (hn : b.length = n) (h : n ≤ 100) {e : Sl} {S : Store} {i : Nat} (hi : e[i]? = some (some (.v B))) : (iRn1 (aCons (eB fLen (aCons (eVar i) (aNil))) (aNil))) e S = .ok ((List.range n).map fun k => Vl.v (.int ((k : Nat) : Int))) S := by
  have l := len_seq hB (S := S)
  rw [hn] at l
  have := ev_irn1 (e := e) (S := S) (S1 := S) (ra := aCons (eB fLen (aCons (eVar i) (aNil))) aNil) (j := (n : Int)) (ev_cons (ev_b (ev_cons (ev_var hi) ev_nil) l) ev_nil) (smallI_nat (by omega))
  rw [this, rngD_map]
  simp
theorem ltab_bad {B A : D} {b : List Int} {n : Nat} (hB : isSeq B b) (hn : b.length = n) (h100 : n ≤ 100) {ts : List D} (hr : ∀ r ∈ ts, rwD r = true) (h : ts.length ≠ n ∨ (List.range n).all (fun k => lgood n b k (ts.getD k .non)) = false) : _law_is_table [B, A, .tup ts] = .ok (.bl false) := by
  have t1 := lt_pre (A := A) hB hn (ts := ts) (S := [])
  by_cases c : ts.length = n
  · rcases h with h | h
    · exact absurd c h
    · obtain ⟨b3, g⟩ := lt_go (A := A) hB hn rfl c hr (S := []) (List.range n) none fun k hk => List.mem_range.mp hk
      rw [h] at g
      rw [show (ts.length == n) = true by simpa using c] at t1
      exact runP_rt (S := []) (p_go t1 (p_rt (sFor_of (rng_len hB hn h100 rfl) g)))
  · rw [show (ts.length == n) = false by simpa using c] at t1
    exact runP_rt (S := []) (p_rt (p_ifT t1 (p_ret ev_c)))
theorem ltab_ok {B A : D} {b a : List Int} {n : Nat} (hB : isSeq B b) (hA : isSeq A a) (hn : b.length = n) (ha : a.length = n) (h100 : n ≤ 100) {M : List (List Int)} (hM : ∀ r ∈ M, r.length = n ∧ ∀ x ∈ r, 0 ≤ x) (hml : M.length = n) (hr : ∀ r ∈ M.map tI, rwD r = true) (hs : M.map List.sum = b) :
    _law_is_table [B, A, .tup (M.map tI)] = .ok (.bl (decide ((List.range n).map (colS M) = a))) := by
  have t1 := lt_pre (A := A) hB hn (ts := M.map tI) (S := [])
  rw [List.length_map, hml, beq_self_eq_true] at t1
  have al : (List.range n).all (fun k => lgood n b k ((M.map tI).getD k .non)) = true := by
    refine List.all_eq_true.mpr fun k hk => ?_
    have hk := List.mem_range.mp hk
    have km : k < M.length := by omega
    have e : (M.map tI).getD k .non = tI M[k] := by rw [List.getD_eq_getElem?_getD, List.getElem?_map, List.getElem?_eq_getElem km]; rfl
    have eb : b.getD k 0 = M[k].sum := by rw [← hs, List.getD_eq_getElem?_getD, List.getElem?_map, List.getElem?_eq_getElem km]; rfl
    have m := hM M[k] (List.getElem_mem km)
    rw [e]
    have ei : (M[k].map D.int).map iD = M[k] := by rw [List.map_map]; exact List.map_id' _
    show ((((M[k].map D.int).length == n) && (M[k].map D.int).all nnD) && (((M[k].map D.int).map iD).sum == b.getD k 0)) = true
    rw [ei, eb, beq_self_eq_true, Bool.and_true, List.length_map, m.1, beq_self_eq_true, Bool.true_and]
    exact List.all_eq_true.mpr fun d hd => by obtain ⟨x, hx, rfl⟩ := List.mem_map.mp hd; exact decide_eq_true (m.2 x hx)
  obtain ⟨b3, g⟩ := lt_go (A := A) hB hn (T := .tup (M.map tI)) rfl (by rw [List.length_map]; exact hml) hr (S := []) (List.range n) none fun k hk => List.mem_range.mp hk
  rw [al, if_pos rfl] at g
  have h3 : ∀ k : Nat, k < n → h3__law_is_table [some (.v B), some (.v A), some (.v (.tup (M.map tI))), some (.v (.int (k : Int))), none, none] [] = .ok (.v (lI (M.map fun r => r.getD k 0))) [] := fun k hk => by
    refine ev_lc (xs := M.map fun r => Vl.v (tI r)) (S1 := []) (S2 := []) (ys := (M.map fun r => r.getD k 0).map fun x => Vl.v (.int x)) (seq_M rfl) ?_ (kLst_I (by rw [List.length_map]; omega))
    rw [List.map_map]
    exact lc_map (fun r : List Int => Vl.v (tI r)) (fun r => Vl.v (.int (r.getD k 0))) M (fun r hr => ⟨[some (.v B), some (.v A), some (.v (.tup (M.map tI))), some (.v (.int (k : Int))), none, some (.v (tI r))], rfl, rfl, ev_bin (ev_var rfl) (ev_var rfl) (at_tI (by rw [(hM r hr).1]; exact hk))⟩) (by omega)
  have at_a : ∀ k : Nat, k < n → fIx (.v A) (.v (.int (k : Int))) ([] : Store) = .ok (.v (.int (a.getD k 0))) [] := fun k hk => by
    rcases hA with rfl | rfl
    · exact at_lI (by omega)
    · exact at_tI (by omega)
  have h4 : h4__law_is_table (eLt B A (.tup (M.map tI)) b3 none none) [] = .ok (.v (lI (((List.range n).filter fun k => !(colS M k == a.getD k 0)).map fun k => ((k : Nat) : Int)))) [] := by
    have fl := List.length_filter_le (fun k => !(colS M k == a.getD k 0)) (List.range n)
    rw [List.length_range] at fl
    refine ev_lc (rng_len hA ha h100 rfl) (S2 := []) (ys := (((List.range n).filter fun k => !(colS M k == a.getD k 0)).map fun k => ((k : Nat) : Int)).map fun x => Vl.v (.int x)) ?_ (kLst_I (by rw [List.length_map]; omega))
    rw [List.map_map]
    exact lc_pure (fun k : Nat => Vl.v (.int ((k : Nat) : Int))) (fun k => !(colS M k == a.getD k 0)) (fun k => Vl.v (.int ((k : Nat) : Int))) (List.range n) [] (fun k hk => ⟨eLt B A (.tup (M.map tI)) (some (.v (.int (k : Int)))) none none, rfl, ev_tbl (ev_bin (ev_b (ev_cons (h3 k (List.mem_range.mp hk)) ev_nil) (sum_lI _)) (ev_bin (ev_var rfl) (ev_var rfl) (at_a k (List.mem_range.mp hk))) op_ine), fun _ => ev_var rfl⟩) (by rw [List.length_range]; simp; omega)
  have fin : decide ((((List.range n).filter fun k => !(colS M k == a.getD k 0)).map fun k => ((k : Nat) : Int)) = []) = decide ((List.range n).map (colS M) = a) := by
    have ea : a = (List.range n).map fun k => a.getD k 0 := by
      refine List.ext_getElem (by simp [ha]) fun i h1 h2 => ?_
      simp [List.getD_eq_getElem?_getD, List.getElem?_eq_getElem h1]
    rw [Bool.eq_iff_iff, decide_eq_true_eq, decide_eq_true_eq, List.map_eq_nil_iff, List.filter_eq_nil_iff]
    constructor
    · intro q
      conv => rhs; rw [ea]
      refine List.map_congr_left fun k hk => ?_
      have := q k hk
      simpa using this
    · intro q k hk
      rw [← q]
      have hk := List.mem_range.mp hk
      simp [List.getD_eq_getElem?_getD, hk]
  refine runP_rt (S := []) (p_go t1 (p_nx (sFor_of (rng_len hB hn h100 rfl) g) (p_ret ?_)))
  rw [← fin]
  exact ev_bin h4 (ev_lst ev_nil rfl) (eq_lI _ [])

end Lawk40
namespace Lawk40
open PySem PySem.Spec PyProof.Rows L2 Ax
local macro_rules | `(tactic| walk_at "op") => `(tactic| (first | with_reducible assumption | walk_at "my" | with_reducible exact op_iadd | with_reducible exact op_isub | with_reducible exact op_iplus | with_reducible exact op_ilt | with_reducible exact op_ile | with_reducible exact op_igt | with_reducible exact op_ige | with_reducible exact op_ieq | with_reducible exact op_ine | with_reducible exact op_inegL | with_reducible exact op_len_lst | with_reducible exact op_len_tup | with_reducible exact unv_n | with_reducible exact tru_bl))
local macro_rules | `(tactic| walk_at "ev") => `(tactic| (first
  | ((with_reducible apply ev_var); exact rfl)
  | with_reducible exact ev_c | with_reducible exact ev_nil | with_reducible exact ev_yes | with_reducible exact ev_oN
  | ((with_reducible intro _); walk_at "ev")
  | walk_at "op"
  | ((with_reducible apply unv_c); walk_at "ev")
  | ((with_reducible apply ev_cons) <;> walk_at "ev")
  | ((with_reducible apply ev_bin) <;> walk_at "ev")
  | ((with_reducible apply ev_un) <;> walk_at "ev")
  | ((with_reducible apply ev_tup) <;> walk_at "ev")
  | ((with_reducible apply ev_lst) <;> walk_at "ev")
  | ((with_reducible apply ev_lstC) <;> walk_at "ev")
  | ((with_reducible apply ev_b) <;> walk_at "ev")
  | ((with_reducible apply ev_P) <;> walk_at "ev")
  | ((with_reducible apply ev_K) <;> walk_at "ev")
  | ((with_reducible apply ev_KF) <;> walk_at "ev")
  | ((with_reducible apply ev_KE) <;> walk_at "ev")
  | ((with_reducible apply ev_peek) <;> walk_at "ev")
  | ((with_reducible apply ev_sl) <;> walk_at "ev")
  | ((with_reducible apply ev_oS) <;> walk_at "ev")
  | ((with_reducible apply ev_not) <;> walk_at "ev")
  | ((with_reducible apply ev_and) <;> walk_at "ev")
  | ((with_reducible apply ev_or) <;> walk_at "ev")
  | ((with_reducible apply ev_chain) <;> walk_at "ev")
  | ((with_reducible apply ev_tbl) <;> walk_at "ev")
  | ((with_reducible apply ev_ttru) <;> walk_at "ev")
  | ((with_reducible apply ev_tnF) <;> walk_at "ev")
  | ((with_reducible apply ev_tnT) <;> walk_at "ev")
  | ((with_reducible apply ev_tnot) <;> walk_at "ev")
  | ((with_reducible apply ev_tand) <;> walk_at "ev")
  | ((with_reducible apply ev_tor) <;> walk_at "ev")
  | ((with_reducible apply ev_heard0) <;> walk_at "ev")
  | ((with_reducible apply ev_mth) <;> walk_at "ev")
  | ((with_reducible apply op_tupB) <;> walk_at "ev")
  | ((with_reducible apply op_lstB) <;> walk_at "ev")
  | ((with_reducible apply op_lstCB) <;> walk_at "ev")
  | ((with_reducible show shL 64 _ = true); exact rfl)
  | skip))

local macro_rules | `(tactic| walk_at "my") => `(tactic| (first | with_reducible exact op_t2 | with_reducible exact op_t3))

/-! both looks at a table; movers -/
theorem sum_mem {M : List (List Int)} {b : List Int} (h : M.map List.sum = b) {r : List Int} (hr : r ∈ M) : r.sum ∈ b := by
  rw [← h]; exact List.mem_map.mpr ⟨r, hr, rfl⟩
theorem judged {n : Nat} {b a : List Int} (hb : Cnt n b) (ha : Cnt n a) {ts : List D} (hr : ∀ r ∈ ts, rwD r = true) : ∃ g : Bool, (∀ B A, isSeq B b → isSeq A a → is_right [B, A, .tup ts] = .ok (.bl g)) ∧ _law_is_table [lI b, lI a, .tup ts] = .ok (.bl g) ∧ (g = true → ∃ M : List (List Int), ts = M.map tI ∧ M.length = n ∧ (∀ r ∈ M, r.length = n ∧ ∀ x ∈ r, 0 ≤ x)) := by
  have n4 := hb.n4
  have hn : n ≤ 100 := by omega
  by_cases A1 : ts.length = n
  · by_cases A2 : ts.all (nnR n) = true
    · obtain ⟨M, rfl, hM⟩ := good_map A2
      rw [List.length_map] at A1
      by_cases B1 : M.map List.sum = b
      · have g12 : (M.all fun r => r.all fun x => decide (x ≤ 12)) = true := List.all_eq_true.mpr fun r h => List.all_eq_true.mpr fun x hx => decide_eq_true (by
          have h1 := le_sum (hM r h).2 x hx
          have h2 := le_sum hb.rg _ (sum_mem B1 h)
          have h3 := hb.sm
          omega)
        refine ⟨decide ((List.range n).map (colS M) = a), fun B A hB hA => ?_, ltab_ok (.inl rfl) (.inl rfl) hb.len ha.len hn hM A1 hr B1, fun _ => ⟨M, rfl, A1, hM⟩⟩
        have := is_right_ok hB hA hb.len ha.len hn hM A1 g12
        rw [decide_eq_true B1, Bool.true_and] at this
        exact this
      · refine ⟨false, fun B A hB hA => ?_, ltab_bad (.inl rfl) hb.len hn hr (.inr ?_), fun h => (by cases h)⟩
        · by_cases g12 : (M.all fun r => r.all fun x => decide (x ≤ 12)) = true
          · have := is_right_ok hB hA hb.len ha.len hn hM A1 g12
            rw [decide_eq_false B1, Bool.false_and] at this
            exact this
          · exact is_right_bad hB hb.len hr (.inr (by rw [all_tI hM]; simpa using g12))
        · cases q : (List.range n).all (fun k => lgood n b k ((M.map tI).getD k .non)) with
          | false => rfl
          | true =>
            refine absurd ?_ B1
            refine List.ext_getElem (by rw [List.length_map, A1, hb.len]) fun i h1 h2 => ?_
            have hi : i < n := by rw [hb.len] at h2; exact h2
            have km : i < M.length := by omega
            have := List.all_eq_true.mp q i (List.mem_range.mpr hi)
            have e : (M.map tI).getD i .non = tI M[i] := by rw [List.getD_eq_getElem?_getD, List.getElem?_map, List.getElem?_eq_getElem km]; rfl
            rw [e] at this
            unfold lgood at this
            rw [Bool.and_eq_true, beq_iff_eq] at this
            have ei : rsum (tI M[i]) = M[i].sum := by
              show ((M[i].map D.int).map iD).sum = _
              rw [List.map_map]
              exact congrArg List.sum (List.map_id' _)
            rw [ei] at this
            rw [List.getElem_map, this.2, List.getD_eq_getElem?_getD, List.getElem?_eq_getElem h2]; rfl
    · have A2 : ts.all (nnR n) = false := by simpa using A2
      refine ⟨false, fun B A hB hA => is_right_bad hB hb.len hr (.inr ?_), ltab_bad (.inl rfl) hb.len hn hr (.inr ?_), fun h => (by cases h)⟩
      · cases q : ts.all (goodR n) with
        | false => rfl
        | true =>
          have : ts.all (nnR n) = true := List.all_eq_true.mpr fun r h => good_nn (List.all_eq_true.mp q r h)
          rw [this] at A2; cases A2
      · cases q : (List.range n).all (fun k => lgood n b k (ts.getD k .non)) with
        | false => rfl
        | true =>
          have : ts.all (nnR n) = true := List.all_eq_true.mpr fun r h => by
            obtain ⟨i, hi, e⟩ := List.mem_iff_getElem.mp h
            have z := List.all_eq_true.mp q i (List.mem_range.mpr (by omega))
            unfold lgood at z
            rw [Bool.and_eq_true, List.getD_eq_getElem?_getD, List.getElem?_eq_getElem hi] at z
            rw [← e]; exact z.1
          rw [this] at A2; cases A2
  · exact ⟨false, fun B A hB hA => is_right_bad hB hb.len hr (.inl A1), ltab_bad (.inl rfl) hb.len hn hr (.inl A1), fun h => (by cases h)⟩
/-! a comprehension with two fors and a test -/
theorem lc2_f {t t2 : TgM} {it2 : IM} {ts2 : TM} {el : EM} {own2 : List Nat} {e : Sl} {S : Store} {α β : Type} (g : α → Vl) (ys : α → List β) (g2 : α → β → Vl) (p : α → β → Bool) (f : α → β → Vl) : ∀ (xs : List α) (acc : List Vl), (∀ x ∈ xs, ∃ e1, t (g x) e = some e1 ∧ it2 e1 S = .ok ((ys x).map (g2 x)) S ∧ ∀ y ∈ ys x, ∃ e2, t2 (g2 x y) (fgt own2 e1) = some e2 ∧ ts2 e2 S = .ok (p x y) S ∧ (p x y = true → el e2 S = .ok (f x y) S)) →
    acc.length + (xs.flatMap ys).length ≤ 16777216 → lc2Go t tmYes it2 t2 ts2 el own2 (xs.map g) e S acc = .ok (acc ++ xs.flatMap fun x => ((ys x).filter (p x)).map (f x)) S
  | [], acc, _, _ => by simp [lc2Go]
  | x :: xs, acc, h, hl => by
    obtain ⟨e1, a, b, c⟩ := h x (by simp)
    rw [List.flatMap_cons, List.length_append] at hl
    have fl := List.length_filter_le (p x) (ys x)
    have inner := lc_pure (t := t2) (ts := ts2) (el := el) (e := fgt own2 e1) (S := S) (g2 x) (p x) (f x) (ys x) acc c (by omega)
    have ih := lc2_f (t := t) (t2 := t2) (it2 := it2) (ts2 := ts2) (el := el) (own2 := own2) (e := e) (S := S) g ys g2 p f xs (acc ++ ((ys x).filter (p x)).map (f x)) (fun z hz => h z (by simp [hz])) (by rw [List.length_append, List.length_map]; omega)
    simp only [List.map_cons, lc2Go, a, b, show tmYes e1 S = .ok true S from rfl, inner, List.flatMap_cons]
    rw [ih, List.append_assoc]
theorem off_no : ∀ (r : List Int) (j k : Nat), k < j → (((r.zipIdx j).filter fun p => !(p.2 == k)).map (·.1)) = r
  | [], _, _, _ => rfl
  | x :: r, j, k, h => by
    rw [List.zipIdx_cons, List.filter_cons_of_pos (by simp; omega), List.map_cons, off_no r (j + 1) k (by omega)]
theorem off_row : ∀ (r : List Int) (j k : Nat), j ≤ k → k < j + r.length → (((r.zipIdx j).filter fun p => !(p.2 == k)).map (·.1)).sum = r.sum - r.getD (k - j) 0
  | [], j, k, h1, h2 => by simp at h2; omega
  | x :: r, j, k, h1, h2 => by
    rw [List.length_cons] at h2
    rw [List.zipIdx_cons]
    by_cases c : j = k
    · subst c
      rw [List.filter_cons_of_neg (by simp), off_no r (j + 1) j (by omega), Nat.sub_self, List.sum_cons]
      show r.sum = x + r.sum - x
      omega
    · rw [List.filter_cons_of_pos (by simpa using c), List.map_cons, List.sum_cons, off_row r (j + 1) k (by omega) (by omega), List.sum_cons]
      obtain ⟨d, hd⟩ : ∃ d, k - j = d + 1 := ⟨k - j - 1, by omega⟩
      rw [hd, show k - (j + 1) = d by omega]
      show x + (r.sum - r.getD d 0) = x + r.sum - r.getD d 0
      omega
theorem sum_fm {α : Type} (f : α → List Int) : ∀ l : List α, (l.flatMap f).sum = (l.map fun x => (f x).sum).sum
  | [] => rfl
  | x :: l => by rw [List.flatMap_cons, List.sum_append, sum_fm f l, List.map_cons, List.sum_cons]
theorem zip_range {α : Type} (d : α) (rs : List α) : rs.zipIdx = (List.range rs.length).map fun i => (rs.getD i d, i) := by
  refine List.ext_getElem? fun i => ?_
  by_cases h : i < rs.length
  · rw [List.getElem?_zipIdx, List.getElem?_map, List.getElem?_range h, List.getElem?_eq_getElem h]
    simp [List.getD_eq_getElem?_getD, h]
  · rw [List.getElem?_eq_none (by simpa using h), List.getElem?_eq_none (by simpa using h)]
def mvS (M : List (List Int)) : Int := ((List.range M.length).map fun i => (M.getD i []).sum - (M.getD i []).getD i 0).sum
theorem getD_mem {α : Type} {d : α} {M : List α} {i : Nat} (h : i < M.length) : M.getD i d ∈ M := by
  rw [List.getD_eq_getElem?_getD, List.getElem?_eq_getElem h]
  exact List.getElem_mem h
theorem movers_ok {n : Nat} {M : List (List Int)} (hl : M.length = n) (hn : n ≤ 100) (hM : ∀ r ∈ M, r.length = n) : movers_of [.tup (M.map tI)] = .ok (.int (mvS M)) := by
  have it : (iEnm 0 (aCons (eVar 0) (aNil))) [some (.v (.tup (M.map tI))), none, none, none, none] [] = .ok (M.zipIdx.map fun x => Vl.v (.ptp [.int ((x.2 : Nat) : Int), tI x.1])) [] := by
    rw [ev_ienm (ev_cons (ev_var rfl) ev_nil) rfl, enumD_map, List.zipIdx_map, List.map_map]
    simp [Function.comp_def]
  have fl : (M.zipIdx.flatMap fun x => x.1.zipIdx).length ≤ 100 * 100 := by
    have : ∀ l : List (List Int × Nat), (∀ x ∈ l, x.1.length ≤ 100) → (l.flatMap fun x => x.1.zipIdx).length ≤ l.length * 100 := by
      intro l
      induction l with
      | nil => intro _; simp
      | cons x l ih =>
        intro h
        have := h x (by simp)
        have := ih fun z hz => h z (by simp [hz])
        rw [List.flatMap_cons, List.length_append, List.length_zipIdx, List.length_cons, Nat.add_mul]
        omega
    have z := this M.zipIdx fun x hx => by
      have hk := List.mem_of_getElem? (List.mem_zipIdx_iff_getElem?.mp hx)
      rw [hM _ hk]; exact hn
    rw [List.length_zipIdx] at z
    have : M.length * 100 ≤ 100 * 100 := Nat.mul_le_mul_right _ (by omega)
    omega
  have go := lc2_f (t := gTp 2 (gsCons (gNm 1) (gsCons (gNm 2) (gsNil)))) (t2 := gTp 2 (gsCons (gNm 3) (gsCons (gNm 4) (gsNil)))) (it2 := iEnm 0 (aCons (eVar 2) (aNil))) (ts2 := tBl (eBin fNe (eVar 3) (eVar 1))) (el := eVar 4) (own2 := [3, 4]) (e := [some (.v (.tup (M.map tI))), none, none, none, none]) (S := []) (fun x : List Int × Nat => Vl.v (.ptp [.int ((x.2 : Nat) : Int), tI x.1])) (fun x => x.1.zipIdx) (fun _ (y : Int × Nat) => Vl.v (.ptp [.int ((y.2 : Nat) : Int), .int y.1])) (fun x y => !(y.2 == x.2)) (fun _ y => Vl.v (.int y.1)) M.zipIdx [] (fun x hx => by
    refine ⟨[some (.v (.tup (M.map tI))), some (.v (.int (x.2 : Int))), some (.v (tI x.1)), none, none], rfl, ?_, fun y hy => ⟨[some (.v (.tup (M.map tI))), some (.v (.int (x.2 : Int))), some (.v (tI x.1)), some (.v (.int (y.2 : Int))), some (.v (.int y.1))], rfl, ?_, fun _ => ev_var rfl⟩⟩
    · rw [ev_ienm (x := .v (tI x.1)) (ds := x.1.map .int) (ev_cons (ev_var rfl) ev_nil) rfl, enumD_map, List.zipIdx_map, List.map_map]
      simp [Function.comp_def]
    · rw [← natbeq]
      exact ev_tbl (ev_bin (ev_var rfl) (ev_var rfl) op_ine)) (by simp only [List.length_nil]; omega)
  rw [List.nil_append] at go
  have e1 : (M.zipIdx.flatMap fun x => (x.1.zipIdx.filter fun y => !(y.2 == x.2)).map fun y => Vl.v (.int y.1)) = (M.zipIdx.flatMap fun x => (x.1.zipIdx.filter fun y => !(y.2 == x.2)).map (·.1)).map fun x => Vl.v (.int x) := by
    rw [List.map_flatMap]
    congr 1
    funext x
    rw [List.map_map]; rfl
  have fl2 : (M.zipIdx.flatMap fun x => (x.1.zipIdx.filter fun y => !(y.2 == x.2)).map (·.1)).length ≤ 100 * 100 := by
    refine Nat.le_trans ?_ fl
    clear it fl go e1
    generalize M.zipIdx = l
    induction l with
    | nil => simp
    | cons x l ih =>
      rw [List.flatMap_cons, List.flatMap_cons, List.length_append, List.length_append, List.length_map]
      have := List.length_filter_le (fun y : Int × Nat => !(y.2 == x.2)) x.1.zipIdx
      omega
  have h : h1_movers_of [some (.v (.tup (M.map tI))), none, none, none, none] [] = .ok (.v (lI (M.zipIdx.flatMap fun x => (x.1.zipIdx.filter fun y => !(y.2 == x.2)).map (·.1)))) [] := by
    unfold h1_movers_of eLc2X
    rw [it]
    simp only [Out.bind]
    rw [show fgt [1, 2, 3, 4] [some (.v (.tup (M.map tI))), none, none, none, none] = [some (.v (.tup (M.map tI))), none, none, none, none] from rfl, go, e1]
    exact kLst_I (by omega)
  have e2 : (M.zipIdx.flatMap fun x => (x.1.zipIdx.filter fun y => !(y.2 == x.2)).map (·.1)).sum = mvS M := by
    rw [sum_fm, zip_range [] M, List.map_map]
    unfold mvS
    congr 1
    refine List.map_congr_left fun i hi => ?_
    have hi := List.mem_range.mp hi
    have := off_row (M.getD i []) 0 i (by omega) (by rw [hM _ (getD_mem hi)]; omega)
    rw [Nat.sub_zero] at this
    exact this
  rw [← e2]
  exact runP_rt (S := []) (p_ret (ev_b (ev_cons h ev_nil) (sum_lI _)))
theorem lmovers_ok {n : Nat} {M : List (List Int)} (hl : M.length = n) (hn : n ≤ 100) (hM : ∀ r ∈ M, r.length = n) : _law_movers [.tup (M.map tI)] = .ok (.int (mvS M)) := by
  have ln : fLen [.v (.tup (M.map tI))] ([] : Store) = .ok (.v (.int (M.length : Int))) [] := by
    have := op_len_tup (ds := M.map tI) (S := [])
    rwa [List.length_map] at this
  have it : (iRn1 (aCons (eB fLen (aCons (eVar 0) (aNil))) (aNil))) [some (.v (.tup (M.map tI))), none] [] = .ok ((List.range M.length).map fun k => Vl.v (.int ((k : Nat) : Int))) [] := by
    have := ev_irn1 (e := [some (.v (.tup (M.map tI))), none]) (S := []) (S1 := []) (ra := aCons (eB fLen (aCons (eVar 0) (aNil))) aNil) (j := (M.length : Int)) (ev_cons (ev_b (ev_cons (ev_var rfl) ev_nil) ln) ev_nil) (smallI_nat (by omega))
    rw [this, rngD_map]
    simp
  have h : h1__law_movers [some (.v (.tup (M.map tI))), none] [] = .ok (.v (lI ((List.range M.length).map fun i => (M.getD i []).sum - (M.getD i []).getD i 0))) [] := by
    refine ev_lc it (S2 := []) (ys := ((List.range M.length).map fun i => (M.getD i []).sum - (M.getD i []).getD i 0).map fun x => Vl.v (.int x)) ?_ (kLst_I (by rw [List.length_map, List.length_range]; omega))
    rw [List.map_map]
    refine lc_map (fun k : Nat => Vl.v (.int ((k : Nat) : Int))) (fun i => Vl.v (.int ((M.getD i []).sum - (M.getD i []).getD i 0))) (List.range M.length) (fun k hk => ?_) (by rw [List.length_range]; omega)
    have hk := List.mem_range.mp hk
    have own : (eBin fIx (eVar 0) (eVar 1)) [some (.v (.tup (M.map tI))), some (.v (.int (k : Int)))] [] = .ok (.v (tI (M.getD k []))) [] := ev_bin (ev_var rfl) (ev_var rfl) (op_ix_tup (by rw [List.getElem?_map, List.getD_eq_getElem?_getD, List.getElem?_eq_getElem hk]; rfl))
    exact ⟨[some (.v (.tup (M.map tI))), some (.v (.int (k : Int)))], rfl, rfl, ev_bin (ev_b (ev_cons own ev_nil) (sum_tI _)) (ev_bin own (ev_var rfl) (at_tI (by rw [hM _ (getD_mem hk)]; omega))) op_isub⟩
  exact runP_rt (S := []) (p_ret (ev_b (ev_cons h ev_nil) (sum_lI _)))

end Lawk40
namespace Lawk40
open PySem PySem.Spec PyProof.Rows L2 Ax
local macro_rules | `(tactic| walk_at "op") => `(tactic| (first | with_reducible assumption | walk_at "my" | with_reducible exact op_iadd | with_reducible exact op_isub | with_reducible exact op_iplus | with_reducible exact op_ilt | with_reducible exact op_ile | with_reducible exact op_igt | with_reducible exact op_ige | with_reducible exact op_ieq | with_reducible exact op_ine | with_reducible exact op_inegL | with_reducible exact op_len_lst | with_reducible exact op_len_tup | with_reducible exact unv_n | with_reducible exact tru_bl))
local macro_rules | `(tactic| walk_at "ev") => `(tactic| (first
  | ((with_reducible apply ev_var); exact rfl)
  | with_reducible exact ev_c | with_reducible exact ev_nil | with_reducible exact ev_yes | with_reducible exact ev_oN
  | ((with_reducible intro _); walk_at "ev")
  | walk_at "op"
  | ((with_reducible apply unv_c); walk_at "ev")
  | ((with_reducible apply ev_cons) <;> walk_at "ev")
  | ((with_reducible apply ev_bin) <;> walk_at "ev")
  | ((with_reducible apply ev_un) <;> walk_at "ev")
  | ((with_reducible apply ev_tup) <;> walk_at "ev")
  | ((with_reducible apply ev_lst) <;> walk_at "ev")
  | ((with_reducible apply ev_lstC) <;> walk_at "ev")
  | ((with_reducible apply ev_b) <;> walk_at "ev")
  | ((with_reducible apply ev_P) <;> walk_at "ev")
  | ((with_reducible apply ev_K) <;> walk_at "ev")
  | ((with_reducible apply ev_KF) <;> walk_at "ev")
  | ((with_reducible apply ev_KE) <;> walk_at "ev")
  | ((with_reducible apply ev_peek) <;> walk_at "ev")
  | ((with_reducible apply ev_sl) <;> walk_at "ev")
  | ((with_reducible apply ev_oS) <;> walk_at "ev")
  | ((with_reducible apply ev_not) <;> walk_at "ev")
  | ((with_reducible apply ev_and) <;> walk_at "ev")
  | ((with_reducible apply ev_or) <;> walk_at "ev")
  | ((with_reducible apply ev_chain) <;> walk_at "ev")
  | ((with_reducible apply ev_tbl) <;> walk_at "ev")
  | ((with_reducible apply ev_ttru) <;> walk_at "ev")
  | ((with_reducible apply ev_tnF) <;> walk_at "ev")
  | ((with_reducible apply ev_tnT) <;> walk_at "ev")
  | ((with_reducible apply ev_tnot) <;> walk_at "ev")
  | ((with_reducible apply ev_tand) <;> walk_at "ev")
  | ((with_reducible apply ev_tor) <;> walk_at "ev")
  | ((with_reducible apply ev_heard0) <;> walk_at "ev")
  | ((with_reducible apply ev_mth) <;> walk_at "ev")
  | ((with_reducible apply op_tupB) <;> walk_at "ev")
  | ((with_reducible apply op_lstB) <;> walk_at "ev")
  | ((with_reducible apply op_lstCB) <;> walk_at "ev")
  | ((with_reducible show shL 64 _ = true); exact rfl)
  | skip))

local macro_rules | `(tactic| walk_at "my") => `(tactic| (first | with_reducible exact op_t2 | with_reducible exact op_t3))

/-! a table is drawn -/
section
variable {ns : List Int}
def cX (xs : List Int) : Cel := .lst (xs.map fun n => .v (.int n))
def outC (n : Nat) : Cel := .lst ((List.range n).map fun i => .r (2 + i))
def dT (M : List (List Int)) : Store := outC M.length :: M.map cX
theorem sum_set : ∀ {r : List Int} {j : Nat}, j < r.length → (r.set j (r.getD j 0 + 1)).sum = r.sum + 1
  | x :: r, 0, _ => by
    show (x + 1 + r.sum) = x + r.sum + 1
    omega
  | x :: r, j + 1, h => by
    have := sum_set (r := r) (j := j) (by simpa using h)
    show x + (r.set j (r.getD j 0 + 1)).sum = x + r.sum + 1
    omega
theorem sums_set : ∀ {M : List (List Int)} {i : Nat} {r : List Int}, i < M.length → r.sum = (M.getD i []).sum + 1 → ((M.set i r).map List.sum).sum = (M.map List.sum).sum + 1
  | x :: M, 0, r, _, h => by
    have h : r.sum = x.sum + 1 := h
    show r.sum + (M.map List.sum).sum = x.sum + (M.map List.sum).sum + 1
    omega
  | x :: M, i + 1, r, hi, h => by
    have := sums_set (M := M) (i := i) (r := r) (by simpa using hi) h
    show x.sum + ((M.set i r).map List.sum).sum = x.sum + (M.map List.sum).sum + 1
    omega
theorem ixN_nat {l j : Nat} (h : j < l) : ixN l (j : Int) = some j := by
  unfold ixN
  simp [h]
/-- a square of numbers, with their sum -/
structure Sq (n : Nat) (M : List (List Int)) (t : Int) : Prop where
  len : M.length = n
  row : ∀ r ∈ M, r.length = n ∧ ∀ x ∈ r, 0 ≤ x
  sm : (M.map List.sum).sum = t
abbrev eDr (n : Nat) (a3 a4 a5 : Option Vl) : Sl := [some (.r 0), some (.v (.int (n : Int))), some (.v (.int 12)), a3, a4, a5]
theorem dr_step {n : Nat} (hn : 2 ≤ n ∧ n ≤ 4) {M : List (List Int)} {t : Int} (hM : Sq n M t) {S : Store} (hS : IsRow ns (dT M) S) {a4 a5 : Option Vl} :
    ∃ M' S' b5, b2__law_drawn (eDr n (some (.r 1)) a4 a5) S = .go (.nx (eDr n (some (.r 1)) a4 b5)) S' ∧ Sq n M' (t + 1) ∧ IsRow ns (dT M') S' := by
  have ln := log2_small (n := n) (by omega)
  obtain ⟨i, S1, g1, i0, i1, h1⟩ := taken_ok (m := (n : Int)) hS (by omega) ln
  obtain ⟨i, rfl⟩ : ∃ k : Nat, i = k := ⟨i.toNat, by omega⟩
  obtain ⟨j, S2, g2, j0, j1, h2⟩ := taken_ok (m := (n : Int)) h1 (by omega) ln
  obtain ⟨j, rfl⟩ : ∃ k : Nat, j = k := ⟨j.toNat, by omega⟩
  have il : i < M.length := by have := hM.len; omega
  have hr := hM.row _ (getD_mem (d := []) il)
  have jl : j < (M.getD i []).length := by rw [hr.1]; omega
  have at1 : S1[1]? = some (outC M.length) := by obtain ⟨_, _, _, rfl, _⟩ := h1; rfl
  have ix1 : fIx (.r 1) (.v (.int (i : Int))) S1 = .ok (.r (2 + i)) S1 := by
    have : atI ((List.range M.length).map fun i => Vl.r (2 + i)) (i : Int) = some (.r (2 + i)) := Ax.atI_nat (by simp [il])
    simp only [fIx, dview, qview, at1, outC, this]
  have at2 : S2[2 + i]? = some (cX (M.getD i [])) := by
    obtain ⟨_, _, _, rfl, _⟩ := h2
    rw [show 2 + i = i + 1 + 1 by omega, List.getElem?_cons_succ]
    show (outC M.length :: M.map cX)[i + 1]? = _
    rw [List.getElem?_cons_succ, List.getElem?_map, List.getElem?_eq_getElem il, List.getD_eq_getElem?_getD, List.getElem?_eq_getElem il]
    rfl
  have gt : atI ((M.getD i []).map fun n => Vl.v (.int n)) (j : Int) = some (.v (.int ((M.getD i []).getD j 0))) := Ax.atI_nat (by rw [List.getElem?_map, List.getD_eq_getElem?_getD (l := M.getD i []), List.getElem?_eq_getElem jl]; rfl)
  have ix2 : fIxM (.r (2 + i)) (.v (.int (j : Int))) S2 = .ok (.v (.int ((M.getD i []).getD j 0))) S2 := by
    simp only [fIxM, at2, cX, gt]
  have st2 : fSetI (.r (2 + i)) (.v (.int (j : Int))) (.v (.int ((M.getD i []).getD j 0 + 1))) S2 = some (S2.set (2 + i) (cX ((M.getD i []).set j ((M.getD i []).getD j 0 + 1)))) := by
    have e : ixN ((M.getD i []).map fun n => Vl.v (.int n)).length (j : Int) = some j := by
      rw [List.length_map]
      exact ixN_nat jl
    simp only [fSetI, at2, cX, e, Option.map_some, List.map_set]
  refine ⟨M.set i ((M.getD i []).set j ((M.getD i []).getD j 0 + 1)), S2.set (2 + i) (cX ((M.getD i []).set j ((M.getD i []).getD j 0 + 1))), some (.r (2 + i)), p_let (ev_bin (ev_var rfl) (ev_K (ev_cons (ev_var rfl) (ev_cons (ev_var rfl) ev_nil)) g1) ix1) ?_, ?_, ?_⟩
  · unfold sAugIx
    rw [ev_var (n := 5) (x := .r (2 + i)) rfl]
    simp only [Out.toS]
    rw [ev_K (ev_cons (ev_var rfl) (ev_cons (ev_var rfl) ev_nil)) g2]
    simp only [Out.toS]
    rw [ix2]
    simp only [Out.toS, eC]
    rw [op_iplus]
    simp only
    rw [st2]
    rfl
  · refine ⟨by rw [List.length_set]; exact hM.len, fun r hr2 => ?_, ?_⟩
    · rcases List.mem_or_eq_of_mem_set hr2 with h | rfl
      · exact hM.row r h
      · refine ⟨by rw [List.length_set]; exact hr.1, fun x hx => ?_⟩
        rcases List.mem_or_eq_of_mem_set hx with h | rfl
        · exact hr.2 x h
        · have := hr.2 _ (getD_mem (d := 0) jl)
          omega
    · rw [sums_set il (sum_set jl), hM.sm]
  · obtain ⟨k, h, x, rfl, hb⟩ := h2
    refine ⟨k, h, x, ?_, hb⟩
    unfold dT
    rw [List.length_set, List.map_set, show 2 + i = i + 1 + 1 by omega, List.set_cons_succ, List.set_cons_succ]
theorem dr_go {n : Nat} (hn : 2 ≤ n ∧ n ≤ 4) : ∀ (xs : List Vl) (M : List (List Int)) (t : Int) (S : Store) (a4 a5 : Option Vl), Sq n M t → IsRow ns (dT M) S →
    ∃ M' S' b4 b5, forGo (gNm 4) b2__law_drawn [] xs (eDr n (some (.r 1)) a4 a5) S = .go (.nx (eDr n (some (.r 1)) b4 b5)) S' ∧ Sq n M' (t + xs.length) ∧ IsRow ns (dT M') S'
  | [], M, t, S, a4, a5, hM, hS => ⟨M, S, a4, a5, rfl, by simpa using hM, hS⟩
  | x :: xs, M, t, S, a4, a5, hM, hS => by
    obtain ⟨M1, S1, b5, g, h1, h2⟩ := dr_step hn hM hS (a4 := some x) (a5 := a5)
    obtain ⟨M2, S2, c4, c5, g2, h3, h4⟩ := dr_go hn xs M1 (t + 1) S1 (some x) b5 h1 h2
    refine ⟨M2, S2, c4, c5, ?_, ?_, h4⟩
    · rw [forGo_nx (e1 := eDr n (some (.r 1)) (some x) a5) rfl g]
      exact g2
    · rw [List.length_cons]
      rw [show t + ((xs.length + 1 : Nat) : Int) = t + 1 + xs.length by omega]
      exact h3
def zM (n : Nat) : List (List Int) := List.replicate n (List.replicate n 0)
theorem zM_ok {n : Nat} (hn : 2 ≤ n ∧ n ≤ 4) : Sq n (zM n) 0 := by
  have : n = 2 ∨ n = 3 ∨ n = 4 := by omega
  rcases this with rfl | rfl | rfl
  · exact ⟨rfl, by decide, by decide⟩
  · exact ⟨rfl, by decide, by decide⟩
  · exact ⟨rfl, by decide, by decide⟩
theorem dr_h1 {n : Nat} (hn : 2 ≤ n ∧ n ≤ 4) {R : Cel} : ∃ a4, h1__law_drawn (eDr n (some (.r 1)) none none) [R, .lst []] = .go (.nx (eDr n (some (.r 1)) a4 none)) (R :: dT (zM n)) := by
  have : n = 2 ∨ n = 3 ∨ n = 4 := by omega
  rcases this with rfl | rfl | rfl
  · exact ⟨some (.v (.int 1)), by kernel_rfl⟩
  · exact ⟨some (.v (.int 2)), by kernel_rfl⟩
  · exact ⟨some (.v (.int 3)), by kernel_rfl⟩
theorem rsl_M {R : Cel} {M : List (List Int)} : rsl (kill 1 (R :: dT M)) 4 (.r 1) = some (.lst (M.map lI)) := by
  have e : kill 1 (R :: dT M) = .dead :: dT M := rfl
  rw [e]
  have out : (Cel.dead :: dT M)[1]? = some (outC M.length) := rfl
  have go : ∀ (l : List Nat), (∀ i ∈ l, i < M.length) → optL (rsl (.dead :: dT M) 3) (l.map fun i => Vl.r (2 + i)) = some (l.map fun i => lI (M.getD i [])) := by
    intro l
    induction l with
    | nil => intro _; rfl
    | cons i l ih =>
      intro h
      have il := h i (by simp)
      have c : (Cel.dead :: dT M)[2 + i]? = some (cX (M.getD i [])) := by
        rw [show 2 + i = i + 1 + 1 by omega, List.getElem?_cons_succ]
        show (outC M.length :: M.map cX)[i + 1]? = _
        rw [List.getElem?_cons_succ, List.getElem?_map, List.getElem?_eq_getElem il, List.getD_eq_getElem?_getD, List.getElem?_eq_getElem il]
        rfl
      have r1 : rsl (.dead :: dT M) 3 (.r (2 + i)) = some (lI (M.getD i [])) := by
        unfold rsl
        simp only [c, cX]
        rw [show ((M.getD i []).map fun n => Vl.v (.int n)) = ((M.getD i []).map D.int).map .v by simp, optL_v]
        rfl
      simp only [List.map_cons, optL, r1, Option.bind_some, ih fun z hz => h z (by simp [hz]), Option.map_some]
  have g := go (List.range M.length) fun i h => List.mem_range.mp h
  unfold rsl
  simp only [out, outC, g, Option.map_some]
  congr 2
  refine List.ext_getElem (by simp) fun i h1 h2 => ?_
  have hi : i < M.length := by simpa using h1
  simp [List.getD_eq_getElem?_getD, hi]
theorem seq_LM {M : List (List Int)} {e : Sl} {S : Store} {i : Nat} (hi : e[i]? = some (some (.v (.lst (M.map lI))))) : iSeq (eVar i) e S = .ok (M.map fun r => Vl.v (lI r)) S := by
  have := ev_iseq (e := e) (S := S) (S1 := S) (ma := eVar i) (x := .v (.lst (M.map lI))) (ds := M.map lI) (ev_var hi) rfl
  rwa [List.map_map] at this
theorem tuple_lI (r : List Int) {S : Store} : fTuple [.v (lI r)] S = .ok (.v (tI r)) S := tuple_lst (r.map .int)
def colL (n : Nat) (M : List (List Int)) : List Int := (List.range n).map (colS M)
theorem dr_ret {n : Nat} (hn : n ≤ 100) {M : List (List Int)} (hml : M.length = n) (hM : ∀ r ∈ M, r.length = n) {a4 a5 : Option Vl} {S : Store} :
    (eTup (aCons (h6__law_drawn) (aCons (h5__law_drawn) (aCons (eB fTuple (aCons (h3__law_drawn) (aNil))) (aNil))))) (eDr n (some (.v (.lst (M.map lI)))) a4 a5) S = .ok (.v (.tup [lI (M.map List.sum), lI (colL n M), .tup (M.map tI)])) S := by
  have g6 : h6__law_drawn (eDr n (some (.v (.lst (M.map lI)))) a4 a5) S = .ok (.v (lI (M.map List.sum))) S := by
    refine ev_lc (seq_LM rfl) (S2 := S) (ys := (M.map List.sum).map fun x => Vl.v (.int x)) ?_ (kLst_I (by rw [List.length_map]; omega))
    rw [List.map_map]
    exact lc_map (fun r : List Int => Vl.v (lI r)) (fun r => Vl.v (.int r.sum)) M (fun r _ => ⟨eDr n (some (.v (.lst (M.map lI)))) a4 (some (.v (lI r))), rfl, rfl, ev_b (ev_cons (ev_var rfl) ev_nil) (sum_lI r)⟩) (by omega)
  have g4 : ∀ k : Nat, k < n → h4__law_drawn [some (.r 0), some (.v (.int (n : Int))), some (.v (.int 12)), some (.v (.lst (M.map lI))), some (.v (.int (k : Int))), a5] S = .ok (.v (lI (M.map fun r => r.getD k 0))) S := fun k hk => by
    refine ev_lc (seq_LM rfl) (S2 := S) (ys := (M.map fun r => r.getD k 0).map fun x => Vl.v (.int x)) ?_ (kLst_I (by rw [List.length_map]; omega))
    rw [List.map_map]
    exact lc_map (fun r : List Int => Vl.v (lI r)) (fun r => Vl.v (.int (r.getD k 0))) M (fun r hr => ⟨[some (.r 0), some (.v (.int (n : Int))), some (.v (.int 12)), some (.v (.lst (M.map lI))), some (.v (.int (k : Int))), some (.v (lI r))], rfl, rfl, ev_bin (ev_var rfl) (ev_var rfl) (at_lI (by rw [hM r hr]; exact hk))⟩) (by omega)
  have g5 : h5__law_drawn (eDr n (some (.v (.lst (M.map lI)))) a4 a5) S = .ok (.v (lI (colL n M))) S := by
    refine ev_lc (xs := (List.range n).map fun k : Nat => Vl.v (.int ((k : Nat) : Int))) (S1 := S) (S2 := S) (ys := ((List.range n).map (colS M)).map fun x => Vl.v (.int x)) ?_ ?_ (kLst_I (by rw [List.length_map, List.length_range]; omega))
    · have := ev_irn1 (e := eDr n (some (.v (.lst (M.map lI)))) a4 a5) (S := S) (S1 := S) (ra := aCons (eVar 1) aNil) (j := (n : Int)) (ev_cons (ev_var rfl) ev_nil) (smallI_nat (by omega))
      rw [this, rngD_map]
      simp
    · rw [List.map_map]
      exact lc_map (fun k : Nat => Vl.v (.int ((k : Nat) : Int))) (fun k => Vl.v (.int (colS M k))) (List.range n) (fun k hk => ⟨[some (.r 0), some (.v (.int (n : Int))), some (.v (.int 12)), some (.v (.lst (M.map lI))), some (.v (.int (k : Int))), a5], rfl, rfl, ev_b (ev_cons (g4 k (List.mem_range.mp hk)) ev_nil) (sum_lI _)⟩) (by rw [List.length_range]; omega)
  have g3 : h3__law_drawn (eDr n (some (.v (.lst (M.map lI)))) a4 a5) S = .ok (.v (.lst (M.map tI))) S := by
    refine ev_lc (seq_LM rfl) (S2 := S) (ys := M.map fun r => Vl.v (tI r)) ?_ (kLst_Ds tI M (by omega))
    exact lc_map (fun r : List Int => Vl.v (lI r)) (fun r => Vl.v (tI r)) M (fun r _ => ⟨eDr n (some (.v (.lst (M.map lI)))) a4 (some (.v (lI r))), rfl, rfl, ev_b (ev_cons (ev_var rfl) ev_nil) (tuple_lI r)⟩) (by omega)
  exact ev_tup (ev_cons g6 (ev_cons g5 (ev_cons (ev_b (ev_cons g3 ev_nil) (tuple_lst _)) ev_nil))) op_t3
theorem drawn_ok {n : Nat} (hn : 2 ≤ n ∧ n ≤ 4) {S : Store} (hS : IsRow ns [] S) : ∃ (M : List (List Int)) (t : Int) (S' : Store), kKF _law_drawn_K [.r 0, .v (.int (n : Int)), .v (.int 12)] S = .ok (.v (.tup [lI (M.map List.sum), lI (colL n M), .tup (M.map tI)])) S' ∧ Sq n M t ∧ t ≤ 12 ∧ IsRow ns [] S' := by
  obtain ⟨k, c, x, rfl, hb⟩ := hS
  have h1 : IsRow ns (dT (zM n)) (rowC ns k c x :: dT (zM n)) := ⟨k, c, x, rfl, hb⟩
  obtain ⟨q, S1, g1, q0, q1, hS1⟩ := taken_ok (m := 13) h1 (by decide) (by decide)
  obtain ⟨q, rfl⟩ : ∃ k : Nat, q = k := ⟨q.toNat, by omega⟩
  obtain ⟨a4, l1⟩ := dr_h1 hn (R := rowC ns k c x)
  obtain ⟨M, S2, b4, b5, g2, hM, hS2⟩ := dr_go hn ((List.range q).map fun i => Vl.v (.int ((i : Nat) : Int))) (zM n) 0 S1 a4 none (zM_ok hn) hS1
  rw [List.length_map, List.length_range] at hM
  have it : (iRn1 (aCons (eCallK _law_taken_K (aCons (eVar 0) (aCons (eBin fAdd (eVar 2) (eC (.int 1))) (aNil)))) (aNil))) (eDr n (some (.r 1)) a4 none) (rowC ns k c x :: dT (zM n)) = .ok ((List.range q).map fun i => Vl.v (.int ((i : Nat) : Int))) S1 := by
    have := ev_irn1 (e := eDr n (some (.r 1)) a4 none) (S := rowC ns k c x :: dT (zM n)) (S1 := S1) (ra := aCons (eCallK _law_taken_K (aCons (eVar 0) (aCons (eBin fAdd (eVar 2) (eC (.int 1))) (aNil)))) aNil) (j := (q : Int)) (ev_cons (ev_K (ev_cons (ev_var rfl) (ev_cons (ev_bin (ev_var rfl) ev_c op_iadd) ev_nil)) g1) ev_nil) (smallI_nat (by omega))
    rw [this, rngD_map]
    simp
  obtain ⟨k2, c2, x2, rfl, hb2⟩ := hS2
  have run : _law_drawn_K [.r 0, .v (.int (n : Int)), .v (.int 12)] [rowC ns k c x] = .ok (.v (.tup [lI (M.map List.sum), lI (colL n M), .tup (M.map tI)])) (killHi 1 (rowC ns k2 c2 x2 :: dT M)) := by
    apply runK_rt (hl := rfl)
    refine p_let (x := .r 1) (S1 := [rowC ns k c x, .lst []]) (ev_lstC ev_nil (op_lstC (by simp))) ?_
    refine p_nx l1 (p_nx (sFor_of it g2) ?_)
    refine p_frz (k := 1) (c := outC M.length) rfl rfl rsl_M (p_ret ?_)
    exact dr_ret (by omega) hM.len (fun r hr => (hM.row r hr).1)
  refine ⟨M, 0 + q, [rowC ns k2 c2 x2], ?_, hM, by omega, ⟨k2, c2, x2, rfl, hb2⟩⟩
  unfold kKF
  rw [run]
  have tk : (killHi 1 (rowC ns k2 c2 x2 :: dT M)).take 1 = [rowC ns k2 c2 x2] := rfl
  have lo : [rowC ns k2 c2 x2].all (lowC 1) = true := by simp [lowC, rowC, lowV]
  show (if ((killHi 1 (rowC ns k2 c2 x2 :: dT M)).take 1).all (lowC 1) then (match rsl (kill 1 (killHi 1 (rowC ns k2 c2 x2 :: dT M))) 4 (.v (.tup [lI (M.map List.sum), lI (colL n M), .tup (M.map tI)])) with | some d => Out.ok (Vl.v d) ((killHi 1 (rowC ns k2 c2 x2 :: dT M)).take 1) | none => .stuck) else .stuck) = _
  rw [tk, if_pos lo]
  rfl
end

end Lawk40
namespace Lawk40
open PySem PySem.Spec PyProof.Rows L2 Ax
local macro_rules | `(tactic| walk_at "op") => `(tactic| (first | with_reducible assumption | walk_at "my" | with_reducible exact op_iadd | with_reducible exact op_isub | with_reducible exact op_iplus | with_reducible exact op_ilt | with_reducible exact op_ile | with_reducible exact op_igt | with_reducible exact op_ige | with_reducible exact op_ieq | with_reducible exact op_ine | with_reducible exact op_inegL | with_reducible exact op_len_lst | with_reducible exact op_len_tup | with_reducible exact unv_n | with_reducible exact tru_bl))
local macro_rules | `(tactic| walk_at "ev") => `(tactic| (first
  | ((with_reducible apply ev_var); exact rfl)
  | with_reducible exact ev_c | with_reducible exact ev_nil | with_reducible exact ev_yes | with_reducible exact ev_oN
  | ((with_reducible intro _); walk_at "ev")
  | walk_at "op"
  | ((with_reducible apply unv_c); walk_at "ev")
  | ((with_reducible apply ev_cons) <;> walk_at "ev")
  | ((with_reducible apply ev_bin) <;> walk_at "ev")
  | ((with_reducible apply ev_un) <;> walk_at "ev")
  | ((with_reducible apply ev_tup) <;> walk_at "ev")
  | ((with_reducible apply ev_lst) <;> walk_at "ev")
  | ((with_reducible apply ev_lstC) <;> walk_at "ev")
  | ((with_reducible apply ev_b) <;> walk_at "ev")
  | ((with_reducible apply ev_P) <;> walk_at "ev")
  | ((with_reducible apply ev_K) <;> walk_at "ev")
  | ((with_reducible apply ev_KF) <;> walk_at "ev")
  | ((with_reducible apply ev_KE) <;> walk_at "ev")
  | ((with_reducible apply ev_peek) <;> walk_at "ev")
  | ((with_reducible apply ev_sl) <;> walk_at "ev")
  | ((with_reducible apply ev_oS) <;> walk_at "ev")
  | ((with_reducible apply ev_not) <;> walk_at "ev")
  | ((with_reducible apply ev_and) <;> walk_at "ev")
  | ((with_reducible apply ev_or) <;> walk_at "ev")
  | ((with_reducible apply ev_chain) <;> walk_at "ev")
  | ((with_reducible apply ev_tbl) <;> walk_at "ev")
  | ((with_reducible apply ev_ttru) <;> walk_at "ev")
  | ((with_reducible apply ev_tnF) <;> walk_at "ev")
  | ((with_reducible apply ev_tnT) <;> walk_at "ev")
  | ((with_reducible apply ev_tnot) <;> walk_at "ev")
  | ((with_reducible apply ev_tand) <;> walk_at "ev")
  | ((with_reducible apply ev_tor) <;> walk_at "ev")
  | ((with_reducible apply ev_heard0) <;> walk_at "ev")
  | ((with_reducible apply ev_mth) <;> walk_at "ev")
  | ((with_reducible apply op_tupB) <;> walk_at "ev")
  | ((with_reducible apply op_lstB) <;> walk_at "ev")
  | ((with_reducible apply op_lstCB) <;> walk_at "ev")
  | ((with_reducible show shL 64 _ = true); exact rfl)
  | skip))

local macro_rules | `(tactic| walk_at "my") => `(tactic| (first | with_reducible exact op_t2 | with_reducible exact op_t3))

/-! taken from: txt/A -/
abbrev sI (i : Int) : Str := Str.ofString (toString i)
theorem num_all : (List.range 21).all (fun k => decide ((sI ((k : Nat) : Int)).length ≤ 2) && PyData.strOk (sI ((k : Nat) : Int)) && decide (((k : Nat) : Int).natAbs.log2 < 1920)) = true := by decide +kernel
theorem num_ok {i : Int} (h : 0 ≤ i ∧ i ≤ 20) : (sI i).length ≤ 2 ∧ PyData.strOk (sI i) = true ∧ i.natAbs.log2 < 1920 := by
  have := all_of num_all i.toNat (List.mem_range.mpr (by omega))
  rw [Int.toNat_of_nonneg h.1] at this
  simp only [Bool.and_eq_true, decide_eq_true_eq] at this
  exact ⟨this.1.1, this.1.2, this.2⟩
theorem str_i {x : Int} {S : Store} (h : x.natAbs.log2 < 1920) : fStrS [.v (.int x)] S = .ok (.v (.str (sI x))) S := if_pos h

/-! a table with one thing changed -/
section
variable {ns : List Int}
def RwOk (d : D) : Prop := rwD d = true ∧ rgl 2 d = true
def Cand (d : D) : Prop := ∃ ts : List D, (d = .tup ts ∨ d = .lst ts) ∧ (∀ r ∈ ts, RwOk r) ∧ ts.length ≤ 100
theorem at_rgl {d : D} (h : atD d = true) : rgl 1 d = true := by
  cases d <;> first | rfl | exact h | cases h
theorem row_tup {xs : List D} (h : ∀ x ∈ xs, atD x = true) (hl : xs.length ≤ 100) : RwOk (.tup xs) := by
  constructor
  · show (xs.all atD && decide (xs.length ≤ 100)) = true
    rw [List.all_eq_true.mpr h, decide_eq_true hl]; rfl
  · show (decide (xs.length ≤ 1000000) && xs.all (rgl 1)) = true
    rw [decide_eq_true (by omega), List.all_eq_true.mpr fun x hx => at_rgl (h x hx)]; rfl
theorem row_lst {xs : List D} (h : ∀ x ∈ xs, atD x = true) (hl : xs.length ≤ 100) : RwOk (.lst xs) := by
  refine ⟨rfl, ?_⟩
  show (decide (xs.length ≤ 1000000) && xs.all (rgl 1)) = true
  rw [decide_eq_true (by omega), List.all_eq_true.mpr fun x hx => at_rgl (h x hx)]; rfl
theorem row_I {r : List Int} (h : r.length ≤ 100) : RwOk (tI r) := row_tup (fun x hx => by obtain ⟨i, _, rfl⟩ := List.mem_map.mp hx; rfl) (by rw [List.length_map]; exact h)
theorem cut_mem {α : Type} {xs : List α} {lo hi : Option Int} {x : α} (h : x ∈ cutG xs lo hi) : x ∈ xs := by
  unfold cutG at h
  exact List.mem_of_mem_drop (List.mem_of_mem_take h)
theorem cut_len {α : Type} (xs : List α) (lo hi : Option Int) : (cutG xs lo hi).length ≤ xs.length := by
  unfold cutG
  simp
  omega
theorem op_addT {a b : List D} {S : Store} (h : a.length + b.length ≤ 16777216) : fAdd (.v (.tup a)) (.v (.tup b)) S = .ok (.v (.tup (a ++ b))) S := by
  simp only [fAdd, if_pos h]
theorem rev_tup {ds : List D} {S : Store} : fRevT kLst (.v (.tup ds)) S = .ok (.v (.tup ds.reverse)) S := rfl
theorem list_tup {ds : List D} {S : Store} (h : ds.length ≤ 16777216) : fList kLst [.v (.tup ds)] S = .ok (.v (.lst ds)) S := by
  show kLst (ds.map .v) S = _
  simp only [kLst, unv_map, h, if_true]
theorem mul_z {n : Nat} (h : 2 ≤ n ∧ n ≤ 4) {S : Store} : fMulT (.v (.tup [.int 0])) (.v (.int (n : Int))) S = .ok (.v (.tup (List.replicate n (.int 0)))) S := by
  have : n = 2 ∨ n = 3 ∨ n = 4 := by omega
  rcases this with rfl | rfl | rfl <;> rfl
def chD (r : List Int) (j : Nat) (m : D) : D := .tup ((r.take j).map .int ++ [m] ++ (r.drop (j + 1)).map .int)
theorem ch_ok {r : List Int} {j : Nat} {m : D} (hl : r.length ≤ 10) (hm : atD m = true) : RwOk (chD r j m) := row_tup (fun x hx => by
  rw [List.mem_append, List.mem_append, List.mem_singleton] at hx
  rcases hx with (hx | rfl) | hx
  · obtain ⟨i, _, rfl⟩ := List.mem_map.mp hx; rfl
  · exact hm
  · obtain ⟨i, _, rfl⟩ := List.mem_map.mp hx; rfl) (by simp; omega)
abbrev eCh (M : List (List Int)) (i j : Nat) (a4 a5 a6 a7 : Option Vl) : Sl := [some (.r 0), some (.v (.tup (M.map tI))), some (.v (.int (i : Int))), some (.v (.int (j : Int))), a4, a5, a6, a7]
def five (v : Int) : List D := [.int (v + 1), .int (v - 1), .bl true, .non, .str (sI v)]
theorem five_at {v : Int} (h : 0 ≤ v ∧ v ≤ 12) : ∀ d ∈ five v, atD d = true := fun d hd => by
  simp only [five, List.mem_cons, List.not_mem_nil, or_false] at hd
  rcases hd with rfl | rfl | rfl | rfl | rfl
  · rfl
  · rfl
  · rfl
  · rfl
  · exact (num_ok (i := v) (by omega)).2.1
theorem ch_h1 {M : List (List Int)} {i j : Nat} {r : List Int} (hj : j < r.length) (hl : r.length ≤ 10) (hv : 0 ≤ r.getD j 0 ∧ r.getD j 0 ≤ 12) {S : Store} : h1__law_changed (eCh M i j (some (.v (tI r))) none none none) S = .ok (.v (.lst ((five (r.getD j 0)).map (chD r j)))) S := by
  have own : (eBin fIx (eVar 4) (eVar 3)) (eCh M i j (some (.v (tI r))) none none none) S = .ok (.v (.int (r.getD j 0))) S := ev_bin (ev_var rfl) (ev_var rfl) (at_tI hj)
  have ls : (eLst (aCons (eBin fAdd (eBin fIx (eVar 4) (eVar 3)) (eC (.int 1))) (aCons (eBin fSub (eBin fIx (eVar 4) (eVar 3)) (eC (.int 1))) (aCons (eC (.bl true)) (aCons (eC .non) (aCons (eB fStrS (aCons (eBin fIx (eVar 4) (eVar 3)) (aNil))) (aNil))))))) (eCh M i j (some (.v (tI r))) none none none) S = .ok (.v (.lst (five (r.getD j 0)))) S :=
    ev_lst (ev_cons (ev_bin own ev_c op_iadd) (ev_cons (ev_bin own ev_c op_isub) (ev_cons ev_c (ev_cons ev_c (ev_cons (ev_b (ev_cons own ev_nil) (str_i (num_ok (i := r.getD j 0) (by omega)).2.2)) ev_nil))))) rfl
  refine ev_lc (ev_iseq ls rfl) (S2 := S) (ys := (five (r.getD j 0)).map fun m => Vl.v (chD r j m)) ?_ (kLst_Ds (chD r j) _ (by simp [five]))
  refine lc_map (fun x : D => Vl.v x) (fun m => Vl.v (chD r j m)) (five (r.getD j 0)) (fun m _ => ⟨eCh M i j (some (.v (tI r))) none none (some (.v m)), rfl, rfl, ?_⟩) (by simp [five])
  have c1 : cutG (r.map D.int) none (some (j : Int)) = (r.take j).map .int := by rw [cut_to, List.map_take]
  have c2 : cutG (r.map D.int) (some ((j : Int) + 1)) none = (r.drop (j + 1)).map .int := by
    rw [show (j : Int) + 1 = ((j + 1 : Nat) : Int) by omega, cut_from, List.map_drop]
  have a1 := op_addT (a := (r.take j).map D.int) (b := [m]) (S := S) (by simp; omega)
  have a2 := op_addT (a := (r.take j).map D.int ++ [m]) (b := (r.drop (j + 1)).map .int) (S := S) (by simp; omega)
  rw [← c1] at a1
  rw [← c1, ← c2] at a2
  unfold chD
  rw [← c1, ← c2]
  exact ev_bin (ev_bin (ev_sl (ev_var rfl) ev_oN (ev_oS (ev_var rfl)) op_sl_tup) (ev_tup (ev_cons (ev_var rfl) ev_nil) rfl) a1) (ev_sl (ev_var rfl) (ev_oS (ev_bin (ev_var rfl) ev_c op_iadd)) ev_oN op_sl_tup) a2
theorem changed_ok {n : Nat} (hn : 2 ≤ n ∧ n ≤ 4) {M : List (List Int)} (hl : M.length = n) (hM : ∀ r ∈ M, r.length = n ∧ ∀ x ∈ r, 0 ≤ x ∧ x ≤ 12) {S : Store} (hS : IsRow ns [] S) : ∃ d S', _law_changed_K [.r 0, .v (.tup (M.map tI))] S = .ok (.v d) S' ∧ Cand d ∧ IsRow ns [] S' := by
  have ln := log2_small (n := n) (by omega)
  obtain ⟨i, S1, g1, i0, i1, h1⟩ := taken_ok (m := (n : Int)) hS (by omega) ln
  obtain ⟨i, rfl⟩ : ∃ k : Nat, i = k := ⟨i.toNat, by omega⟩
  obtain ⟨j, S2, g2, j0, j1, h2⟩ := taken_ok (m := (n : Int)) h1 (by omega) ln
  obtain ⟨j, rfl⟩ : ∃ k : Nat, j = k := ⟨j.toNat, by omega⟩
  have il : i < M.length := by omega
  have hr := hM _ (getD_mem (d := []) il)
  generalize hre : M.getD i [] = r at hr
  have jl : j < r.length := by omega
  have hv := hr.2 _ (getD_mem (d := 0) jl)
  have tl : ∀ {S : Store}, fLen [.v (.tup (M.map tI))] S = .ok (.v (.int (n : Int))) S := fun {S} => by
    have := op_len_tup (ds := M.map tI) (S := S)
    rwa [List.length_map, hl] at this
  have rl : ∀ {S : Store}, fLen [.v (tI r)] S = .ok (.v (.int (n : Int))) S := fun {S} => by
    have := op_len_tup (ds := r.map .int) (S := S)
    rwa [List.length_map, hr.1] at this
  have own : M.map tI = (M.map tI) := rfl
  have ri : (M.map tI)[i]? = some (tI r) := by rw [List.getElem?_map, List.getElem?_eq_getElem il, ← hre, List.getD_eq_getElem?_getD, List.getElem?_eq_getElem il]; rfl
  let six : List D := [.tup (r.map D.int).reverse, .lst (r.map .int), .tup (cutG (r.map .int) none (some (-1))), .tup (r.map .int ++ [.int 0]), .non, .tup (List.replicate n (.int 0))]
  have sxl : (eLst (aCons (eRevT kLst (eVar 4)) (aCons (eB (fList kLst) (aCons (eVar 4) (aNil))) (aCons (eSl kLst (eVar 4) (oNone) (oSome (eUn fNeg (eC (.int 1))))) (aCons (eBin fAdd (eVar 4) (eTup (aCons (eC (.int 0)) (aNil)))) (aCons (eC .non) (aCons (eBin fMulT (eTup (aCons (eC (.int 0)) (aNil))) (eB fLen (aCons (eVar 4) (aNil)))) (aNil)))))))) (eCh M i j (some (.v (tI r))) (some (.v (.lst ((five (r.getD j 0)).map (chD r j))))) none none) S2 = .ok (.v (.lst six)) S2 :=
    ev_lst (ev_cons (ev_un (ev_var rfl) rev_tup) (ev_cons (ev_b (ev_cons (ev_var rfl) ev_nil) (list_tup (by rw [List.length_map]; omega))) (ev_cons (ev_sl (ev_var rfl) ev_oN (ev_oS (ev_un ev_c op_inegL)) op_sl_tup) (ev_cons (ev_bin (ev_var rfl) (ev_tup (ev_cons ev_c ev_nil) rfl) (op_addT (by simp; omega))) (ev_cons ev_c (ev_cons (ev_bin (ev_tup (ev_cons ev_c ev_nil) rfl) (ev_b (ev_cons (ev_var rfl) ev_nil) rl) (mul_z hn)) ev_nil)))))) rfl
  have atI : ∀ x ∈ r.map D.int, atD x = true := fun x hx => by obtain ⟨q, _, rfl⟩ := List.mem_map.mp hx; rfl
  have rl10 : (r.map D.int).length ≤ 10 := by rw [List.length_map]; omega
  have okA : ∀ d ∈ (five (r.getD j 0)).map (chD r j) ++ six, RwOk d := fun d hd => by
    rcases List.mem_append.mp hd with hd | hd
    · obtain ⟨m, hm, rfl⟩ := List.mem_map.mp hd
      exact ch_ok (by omega) (five_at hv m hm)
    · simp only [six, List.mem_cons, List.not_mem_nil, or_false] at hd
      rcases hd with rfl | rfl | rfl | rfl | rfl | rfl
      · exact row_tup (fun x hx => atI x (List.mem_reverse.mp hx)) (by rw [List.length_reverse]; omega)
      · exact row_lst atI (by omega)
      · exact row_tup (fun x hx => atI x (cut_mem hx)) (Nat.le_trans (cut_len _ _ _) (by omega))
      · exact row_tup (fun x hx => by
          rcases List.mem_append.mp hx with h | h
          · exact atI x h
          · rw [List.mem_singleton] at h; subst h; rfl) (by simp; omega)
      · exact ⟨rfl, rfl⟩
      · exact row_tup (fun x hx => by rw [List.eq_of_mem_replicate hx]; rfl) (by rw [List.length_replicate]; omega)
  obtain ⟨x, S3, g3, hx, h3⟩ := pick_ok (ds := (five (r.getD j 0)).map (chD r j) ++ six) h2 (by simp [five]) (by simp [five, six])
  have hx := okA x hx
  let oth : List D := (M.map tI).take i ++ [x] ++ (M.map tI).drop (i + 1)
  have rowsM : ∀ d ∈ M.map tI, RwOk d := fun d hd => by
    obtain ⟨q, hq, rfl⟩ := List.mem_map.mp hd
    exact row_I (by rw [(hM q hq).1]; omega)
  have ml : (M.map tI).length ≤ 10 := by rw [List.length_map]; omega
  have c1 : cutG (M.map tI) none (some (i : Int)) = (M.map tI).take i := cut_to _ i
  have c2 : cutG (M.map tI) (some ((i : Int) + 1)) none = (M.map tI).drop (i + 1) := by
    rw [show (i : Int) + 1 = ((i + 1 : Nat) : Int) by omega, cut_from]
  have oe : (eBin fAdd (eBin fAdd (eSl kLst (eVar 1) (oNone) (oSome (eVar 2))) (eTup (aCons (eCallK _law_pick_K (aCons (eVar 0) (aCons (eVar 5) (aNil)))) (aNil)))) (eSl kLst (eVar 1) (oSome (eBin fAdd (eVar 2) (eC (.int 1)))) (oNone))) (eCh M i j (some (.v (tI r))) (some (.v (.lst ((five (r.getD j 0)).map (chD r j) ++ six)))) none none) S2 = .ok (.v (.tup oth)) S3 := by
    have a1 := op_addT (a := (M.map tI).take i) (b := [x]) (S := S3) (by simp; omega)
    have a2 := op_addT (a := (M.map tI).take i ++ [x]) (b := (M.map tI).drop (i + 1)) (S := S3) (by simp; omega)
    rw [← c1] at a1
    rw [← c1, ← c2] at a2
    show _ = Out.ok (Vl.v (.tup ((M.map tI).take i ++ [x] ++ (M.map tI).drop (i + 1)))) S3
    rw [← c1, ← c2]
    exact ev_bin (ev_bin (ev_sl (ev_var rfl) ev_oN (ev_oS (ev_var rfl)) op_sl_tup) (ev_tup (ev_cons (ev_K (ev_cons (ev_var rfl) (ev_cons (ev_var rfl) ev_nil)) g3) ev_nil) rfl) a1) (ev_sl (ev_var rfl) (ev_oS (ev_bin (ev_var rfl) ev_c op_iadd)) ev_oN op_sl_tup) a2
  have candO : Cand (.tup oth) := ⟨oth, .inl rfl, fun d hd => by
    rcases List.mem_append.mp hd with hd | hd
    · rcases List.mem_append.mp hd with hd | hd
      · exact rowsM d (List.mem_of_mem_take hd)
      · rw [List.mem_singleton] at hd; subst hd; exact hx
    · exact rowsM d (List.mem_of_mem_drop hd), by simp [oth]; omega⟩
  let seven : List D := [.tup oth, .tup oth, .tup oth, .tup (M.map tI).reverse, .lst (M.map tI), .tup (cutG (M.map tI) none (some (-1))), .tup (M.map tI ++ cutG (M.map tI) (some (-1)) none)]
  have cl := cut_len (M.map tI) (some (-1)) none
  have se : (eLst (aCons (eVar 6) (aCons (eVar 6) (aCons (eVar 6) (aCons (eRevT kLst (eVar 1)) (aCons (eB (fList kLst) (aCons (eVar 1) (aNil))) (aCons (eSl kLst (eVar 1) (oNone) (oSome (eUn fNeg (eC (.int 1))))) (aCons (eBin fAdd (eVar 1) (eSl kLst (eVar 1) (oSome (eUn fNeg (eC (.int 1)))) (oNone))) (aNil))))))))) (eCh M i j (some (.v (tI r))) (some (.v (.lst ((five (r.getD j 0)).map (chD r j) ++ six)))) (some (.v (.tup oth))) none) S3 = .ok (.v (.lst seven)) S3 :=
    ev_lst (ev_cons (ev_var rfl) (ev_cons (ev_var rfl) (ev_cons (ev_var rfl) (ev_cons (ev_un (ev_var rfl) rev_tup) (ev_cons (ev_b (ev_cons (ev_var rfl) ev_nil) (list_tup (by omega))) (ev_cons (ev_sl (ev_var rfl) ev_oN (ev_oS (ev_un ev_c op_inegL)) op_sl_tup) (ev_cons (ev_bin (ev_var rfl) (ev_sl (ev_var rfl) (ev_oS (ev_un ev_c op_inegL)) ev_oN op_sl_tup) (op_addT (by omega))) ev_nil))))))) rfl
  obtain ⟨d, S4, g4, hd, h4⟩ := pick_ok (ds := seven) h3 (by simp [seven]) (by simp [seven])
  refine ⟨d, S4, ?_, ?_, h4⟩
  · apply runK_rt (hl := rfl)
    refine p_nx (e1 := eCh M i j none none none none) (S1 := S2) (p_asg (x := .v (.tup [.int (i : Int), .int (j : Int)])) (ev_tup (ev_cons (ev_K (ev_cons (ev_var rfl) (ev_cons (ev_b (ev_cons (ev_var rfl) ev_nil) tl) ev_nil)) g1) (ev_cons (ev_K (ev_cons (ev_var rfl) (ev_cons (ev_b (ev_cons (ev_var rfl) ev_nil) tl) ev_nil)) g2) ev_nil)) op_t2) rfl) ?_
    refine p_let (x := .v (tI r)) (ev_bin (ev_var rfl) (ev_var rfl) (op_ix_tup ri)) ?_
    refine p_let (ch_h1 jl (by omega) hv) ?_
    refine p_let (x := .v (.lst ((five (r.getD j 0)).map (chD r j) ++ six))) (S1 := S2) (ev_bin (ev_var rfl) sxl (op_addL (by simp [five, six]))) ?_
    refine p_let oe (p_ret (ev_K (ev_cons (ev_var rfl) (ev_cons se ev_nil)) g4))
  · simp only [seven, List.mem_cons, List.not_mem_nil, or_false] at hd
    rcases hd with rfl | rfl | rfl | rfl | rfl | rfl | rfl
    · exact candO
    · exact candO
    · exact candO
    · exact ⟨_, .inl rfl, fun d hd => rowsM d (List.mem_reverse.mp hd), by rw [List.length_reverse]; omega⟩
    · exact ⟨_, .inr rfl, rowsM, by omega⟩
    · exact ⟨_, .inl rfl, fun d hd => rowsM d (cut_mem hd), Nat.le_trans (cut_len _ _ _) (by omega)⟩
    · exact ⟨_, .inl rfl, fun d hd => by
        rcases List.mem_append.mp hd with h | h
        · exact rowsM d h
        · exact rowsM d (cut_mem h), by rw [List.length_append]; omega⟩
end

end Lawk40
namespace Lawk40
open PySem PySem.Spec PyProof.Rows L2 Ax
local macro_rules | `(tactic| walk_at "op") => `(tactic| (first | with_reducible assumption | walk_at "my" | with_reducible exact op_iadd | with_reducible exact op_isub | with_reducible exact op_iplus | with_reducible exact op_ilt | with_reducible exact op_ile | with_reducible exact op_igt | with_reducible exact op_ige | with_reducible exact op_ieq | with_reducible exact op_ine | with_reducible exact op_inegL | with_reducible exact op_len_lst | with_reducible exact op_len_tup | with_reducible exact unv_n | with_reducible exact tru_bl))
local macro_rules | `(tactic| walk_at "ev") => `(tactic| (first
  | ((with_reducible apply ev_var); exact rfl)
  | with_reducible exact ev_c | with_reducible exact ev_nil | with_reducible exact ev_yes | with_reducible exact ev_oN
  | ((with_reducible intro _); walk_at "ev")
  | walk_at "op"
  | ((with_reducible apply unv_c); walk_at "ev")
  | ((with_reducible apply ev_cons) <;> walk_at "ev")
  | ((with_reducible apply ev_bin) <;> walk_at "ev")
  | ((with_reducible apply ev_un) <;> walk_at "ev")
  | ((with_reducible apply ev_tup) <;> walk_at "ev")
  | ((with_reducible apply ev_lst) <;> walk_at "ev")
  | ((with_reducible apply ev_lstC) <;> walk_at "ev")
  | ((with_reducible apply ev_b) <;> walk_at "ev")
  | ((with_reducible apply ev_P) <;> walk_at "ev")
  | ((with_reducible apply ev_K) <;> walk_at "ev")
  | ((with_reducible apply ev_KF) <;> walk_at "ev")
  | ((with_reducible apply ev_KE) <;> walk_at "ev")
  | ((with_reducible apply ev_peek) <;> walk_at "ev")
  | ((with_reducible apply ev_sl) <;> walk_at "ev")
  | ((with_reducible apply ev_oS) <;> walk_at "ev")
  | ((with_reducible apply ev_not) <;> walk_at "ev")
  | ((with_reducible apply ev_and) <;> walk_at "ev")
  | ((with_reducible apply ev_or) <;> walk_at "ev")
  | ((with_reducible apply ev_chain) <;> walk_at "ev")
  | ((with_reducible apply ev_tbl) <;> walk_at "ev")
  | ((with_reducible apply ev_ttru) <;> walk_at "ev")
  | ((with_reducible apply ev_tnF) <;> walk_at "ev")
  | ((with_reducible apply ev_tnT) <;> walk_at "ev")
  | ((with_reducible apply ev_tnot) <;> walk_at "ev")
  | ((with_reducible apply ev_tand) <;> walk_at "ev")
  | ((with_reducible apply ev_tor) <;> walk_at "ev")
  | ((with_reducible apply ev_heard0) <;> walk_at "ev")
  | ((with_reducible apply ev_mth) <;> walk_at "ev")
  | ((with_reducible apply op_tupB) <;> walk_at "ev")
  | ((with_reducible apply op_lstB) <;> walk_at "ev")
  | ((with_reducible apply op_lstCB) <;> walk_at "ev")
  | ((with_reducible show shL 64 _ = true); exact rfl)
  | skip))

local macro_rules | `(tactic| walk_at "my") => `(tactic| (first | with_reducible exact op_t2 | with_reducible exact op_t3))

/-! what is refused; the law of tables -/
theorem sum_getD : ∀ (r : List Int), ((List.range r.length).map fun k => r.getD k 0).sum = r.sum
  | [] => rfl
  | x :: r => by
    rw [List.length_cons, List.range_succ_eq_map, List.map_cons, List.sum_cons, List.map_map]
    have := sum_getD r
    show x + ((List.range r.length).map fun k => r.getD k 0).sum = _
    rw [this, List.sum_cons]
theorem sum_add2 {α : Type} (f g : α → Int) : ∀ l : List α, (l.map fun k => f k + g k).sum = (l.map f).sum + (l.map g).sum
  | [] => rfl
  | x :: l => by
    rw [List.map_cons, List.sum_cons, List.map_cons, List.sum_cons, List.map_cons, List.sum_cons, sum_add2 f g l]
    omega
theorem col_sum {n : Nat} : ∀ {M : List (List Int)}, (∀ r ∈ M, r.length = n) → (colL n M).sum = (M.map List.sum).sum
  | [], h => by
    clear h
    show ((List.range n).map fun _ => (0 : Int)).sum = 0
    induction n with
    | zero => rfl
    | succ n ih => rw [List.range_succ, List.map_append, List.sum_append, ih]; rfl
  | r :: M, h => by
    have ih := col_sum (n := n) (M := M) fun x hx => h x (by simp [hx])
    have e : colL n (r :: M) = (List.range n).map fun k => r.getD k 0 + colS M k := rfl
    have s := sum_getD r
    rw [h r (by simp)] at s
    rw [e, sum_add2, s, List.map_cons, List.sum_cons]
    have : ((List.range n).map fun k => colS M k).sum = (colL n M).sum := rfl
    rw [this, ih]
theorem sum_nn : ∀ {r : List Int}, (∀ x ∈ r, 0 ≤ x) → 0 ≤ r.sum
  | [], _ => by simp
  | x :: r, h => by
    have := sum_nn (r := r) fun z hz => h z (by simp [hz])
    have := h x (by simp)
    rw [List.sum_cons]; omega
theorem sq_cnt {n : Nat} (hn : 2 ≤ n ∧ n ≤ 4) {M : List (List Int)} {t : Int} (h : Sq n M t) (ht : t ≤ 12) : Cnt n (M.map List.sum) ∧ Cnt n (colL n M) ∧ (colL n M).sum = (M.map List.sum).sum := by
  have cs := col_sum (n := n) (M := M) fun r hr => (h.row r hr).1
  refine ⟨⟨by rw [List.length_map]; exact h.len, hn, fun x hx => ?_, by rw [h.sm]; exact ht⟩, ⟨by unfold colL; rw [List.length_map, List.length_range], hn, fun x hx => ?_, by rw [cs, h.sm]; exact ht⟩, cs⟩
  · obtain ⟨r, hr, rfl⟩ := List.mem_map.mp hx
    exact sum_nn (h.row r hr).2
  · obtain ⟨k, hk, rfl⟩ := List.mem_map.mp hx
    refine sum_nn fun y hy => ?_
    obtain ⟨r, hr, rfl⟩ := List.mem_map.mp hy
    by_cases c : k < r.length
    · exact (h.row r hr).2 _ (getD_mem c)
    · rw [List.getD_eq_getElem?_getD, List.getElem?_eq_none (by omega)]; simp
theorem sq_small {n : Nat} {M : List (List Int)} {t : Int} (h : Sq n M t) (ht : t ≤ 12) : ∀ r ∈ M, r.length = n ∧ ∀ x ∈ r, 0 ≤ x ∧ x ≤ 12 := fun r hr => by
  obtain ⟨a, b⟩ := h.row r hr
  refine ⟨a, fun x hx => ⟨b x hx, ?_⟩⟩
  have h1 := le_sum b x hx
  have h2 := le_sum (b := M.map List.sum) (fun y hy => by obtain ⟨q, hq, rfl⟩ := List.mem_map.mp hy; exact sum_nn (h.row q hq).2) r.sum (List.mem_map.mpr ⟨r, hr, rfl⟩)
  have := h.sm
  omega
theorem right_nt {B A d : D} (h : fIsi [.v d, .v (.ty "tuple")] ([] : Store) = .ok (.v (.bl false)) []) : is_right [B, A, d] = .ok (.bl false) :=
  runP_rt (S := []) (p_rt (p_ifT (ev_torT (ev_tnT (ev_ttru (ev_b (ev_cons (ev_var rfl) (ev_cons ev_c ev_nil)) h) rfl))) (p_ret ev_c)))
theorem lright_nt {B A d : D} (h : fIsi [.v d, .v (.ty "tuple")] ([] : Store) = .ok (.v (.bl false)) []) : _law_is_table [B, A, d] = .ok (.bl false) :=
  runP_rt (S := []) (p_rt (p_ifT (ev_torT (ev_tnT (ev_ttru (ev_b (ev_cons (ev_var rfl) (ev_cons ev_c ev_nil)) h) rfl))) (p_ret ev_c)))
theorem cand_rgl {d : D} (h : Cand d) : rgl 3 d = true := by
  obtain ⟨ts, rfl | rfl, h1, h2⟩ := h
  · show (decide (ts.length ≤ 1000000) && ts.all (rgl 2)) = true
    rw [decide_eq_true (by omega), List.all_eq_true.mpr fun x hx => (h1 x hx).2]; rfl
  · show (decide (ts.length ≤ 1000000) && ts.all (rgl 2)) = true
    rw [decide_eq_true (by omega), List.all_eq_true.mpr fun x hx => (h1 x hx).2]; rfl
theorem cand_judged {n : Nat} {b a : List Int} (hb : Cnt n b) (ha : Cnt n a) {d : D} (h : Cand d) : ∃ g : Bool, (∀ B A, isSeq B b → isSeq A a → is_right [B, A, d] = .ok (.bl g)) ∧ _law_is_table [lI b, lI a, d] = .ok (.bl g) ∧ (g = true → ∃ M : List (List Int), d = .tup (M.map tI) ∧ M.length = n ∧ (∀ r ∈ M, r.length = n ∧ ∀ x ∈ r, 0 ≤ x)) := by
  obtain ⟨ts, rfl | rfl, h1, h2⟩ := h
  · obtain ⟨g, g1, g2, g3⟩ := judged hb ha (ts := ts) fun r hr => (h1 r hr).1
    refine ⟨g, g1, g2, fun q => ?_⟩
    obtain ⟨M, rfl, m⟩ := g3 q
    exact ⟨M, rfl, m⟩
  · exact ⟨false, fun B A _ _ => right_nt rfl, lright_nt rfl, fun q => (by cases q)⟩
section
variable {n : Nat} {b a : List Int} {B A d : D}
theorem is_table_ok (hB : isSeq B b) (hA : isSeq A a) (hb : Cnt n b) (ha : Cnt n a) (hs : a.sum = b.sum) {g : Bool} (h : is_right [B, A, d] = .ok (.bl g)) : is_table [B, A, d] = .ok (.bl g) :=
  runP_rt (S := []) (p_do (ev_P (ev_cons (ev_var rfl) (ev_cons (ev_var rfl) ev_nil)) rfl (check_ok hB hA hb ha hs)) (p_ret (ev_P (ev_cons (ev_var rfl) (ev_cons (ev_var rfl) (ev_cons (ev_var rfl) ev_nil))) rfl h)))
theorem movers_good (hB : isSeq B b) (hA : isSeq A a) (hb : Cnt n b) (ha : Cnt n a) (hs : a.sum = b.sum) (h : is_right [B, A, d] = .ok (.bl true)) {v : Int} (hm : movers_of [d] = .ok (.int v)) : movers [B, A, d] = .ok (.int v) :=
  runP_rt (S := []) (p_do (ev_P (ev_cons (ev_var rfl) (ev_cons (ev_var rfl) ev_nil)) rfl (check_ok hB hA hb ha hs)) (p_go (ev_tnF (ev_ttru (ev_P (ev_cons (ev_var rfl) (ev_cons (ev_var rfl) (ev_cons (ev_var rfl) ev_nil))) rfl h) rfl)) (p_ret (ev_P (ev_cons (ev_var rfl) ev_nil) rfl hm))))
theorem movers_bad (hB : isSeq B b) (hA : isSeq A a) (hb : Cnt n b) (ha : Cnt n a) (hs : a.sum = b.sum) (h : is_right [B, A, d] = .ok (.bl false)) : movers [B, A, d] = .exc "BadTable" [("value", d)] :=
  runP_exc (p_do (ev_P (ev_cons (ev_var rfl) (ev_cons (ev_var rfl) ev_nil)) rfl (check_ok hB hA hb ha hs)) (p_exc (p_ifT (ev_tnT (ev_ttru (ev_P (ev_cons (ev_var rfl) (ev_cons (ev_var rfl) (ev_cons (ev_var rfl) ev_nil))) rfl h) rfl)) (p_raise (ev_cons (ev_var rfl) ev_nil)))))
theorem both_x {W : D} {fs : List (Str × D)} (h : check_counts [B, W] = .exc "BadCounts" fs) : is_table [B, W, .non] = .exc "BadCounts" fs ∧ movers [B, W, .non] = .exc "BadCounts" fs :=
  ⟨runP_exc (p_exc (p_expX (ev_PX (ev_cons (ev_var rfl) (ev_cons (ev_var rfl) ev_nil)) rfl h))), runP_exc (p_exc (p_expX (ev_PX (ev_cons (ev_var rfl) (ev_cons (ev_var rfl) ev_nil)) rfl h)))⟩
end
def badC : List D := [.non, .int 5, lI [1], lI [1, 1, 1, 1, 1], lI [13, 0], lI [-1, 1], .lst [.bl true, .int 0], tI [7, 6], .dct [], .str "12", .lst [.int 1, .non], .lst [.str "1", .int 0]]
def hrD (t : Str) (d : D) : D := .tup [.str t, d, .bl true]
theorem badC_ok : ∀ w ∈ badC, are_counts [w] = .ok (.bl false) ∧ _law_alike [hrD "counts" w, hrD "counts" w] = .ok (.bl true) := by
  intro w h
  simp only [badC, List.mem_cons, List.not_mem_nil, or_false] at h
  rcases h with rfl | rfl | rfl | rfl | rfl | rfl | rfl | rfl | rfl | rfl | rfl | rfl <;> exact ⟨by kernel_rfl, by kernel_rfl⟩
theorem check_x1 {w : D} (h : are_counts [w] = .ok (.bl false)) (W : D) : check_counts [w, W] = .exc "BadCounts" [("value", w)] :=
  runP_exc (p_exc (p_ifT (ev_tnT (ev_ttru (ev_P (ev_cons (ev_var rfl) ev_nil) rfl h) rfl)) (p_raise (ev_cons (ev_var rfl) ev_nil))))
theorem check_x2 {n : Nat} {B W : D} {b : List Int} (hB : isSeq B b) (hb : Cnt n b) (h : are_counts [W] = .ok (.bl false)) : check_counts [B, W] = .exc "BadCounts" [("value", W)] :=
  runP_exc (p_go (ev_tnF (ev_ttru (ev_P (ev_cons (ev_var rfl) ev_nil) rfl (counts_ok hB hb)) rfl)) (p_ifT (ev_torT (ev_tnT (ev_ttru (ev_P (ev_cons (ev_var rfl) ev_nil) rfl h) rfl))) (p_raise (ev_cons (ev_var rfl) ev_nil))))
theorem check_x3 {n : Nat} {B W : D} {b w : List Int} (hB : isSeq B b) (hb : Cnt n b) (hW : isSeq W w) (hl : 2 ≤ w.length ∧ w.length ≤ 4) (h : w.length ≠ b.length ∨ w.sum ≠ b.sum) : check_counts [B, W] = .exc "BadCounts" [("value", W)] := by
  have ev := counts_ev hW hl
  cases c : ((w.all fun x => decide (0 ≤ x) && decide (x ≤ 12)) && decide (w.sum ≤ 12)) with
  | false => rw [c] at ev; exact check_x2 hB hb ev
  | true =>
    rw [c] at ev
    have t : (tmOr (tmNot (tTru (eCallP are_counts (aCons (eVar 1) (aNil))))) (tmOr (tBl (eBin fNe (eB fLen (aCons (eVar 1) (aNil))) (eB fLen (aCons (eVar 0) (aNil))))) (tBl (eBin fNe (eB fSumA (aCons (eVar 1) (aNil))) (eB fSumA (aCons (eVar 0) (aNil))))))) [some (.v B), some (.v W)] [] = .ok (false || ((!((w.length : Int) == (b.length : Int))) || (!(w.sum == b.sum)))) [] :=
      ev_tor' (ev_tnF (ev_ttru (ev_P (ev_cons (ev_var rfl) ev_nil) rfl ev) rfl)) (ev_tor (ev_tbl (ev_bin (ev_b (ev_cons (ev_var rfl) ev_nil) (len_seq hW)) (ev_b (ev_cons (ev_var rfl) ev_nil) (len_seq hB)) op_ine)) (fun _ => ev_tbl (ev_bin (ev_b (ev_cons (ev_var rfl) ev_nil) (sum_seq hW)) (ev_b (ev_cons (ev_var rfl) ev_nil) (sum_seq hB)) op_ine)))
    have tt : (false || ((!((w.length : Int) == (b.length : Int))) || (!(w.sum == b.sum)))) = true := by
      rw [natbeq]
      rcases h with h | h
      · have : (w.length == b.length) = false := by simpa using h
        rw [this]; rfl
      · have : (w.sum == b.sum) = false := by simpa using h
        rw [this]; simp
    exact runP_exc (p_go (ev_tnF (ev_ttru (ev_P (ev_cons (ev_var rfl) ev_nil) rfl (counts_ok hB hb)) rfl)) (p_ifT' t tt (p_raise (ev_cons (ev_var rfl) ev_nil))))
theorem len5 {x y z u v : Int} : are_counts [lI [x, y, z, u, v]] = .ok (.bl false) := by kernel_rfl
theorem rgl_lI {w : List Int} (h : w.length ≤ 100) : rgl 3 (lI w) = true := by
  show (decide ((w.map D.int).length ≤ 1000000) && (w.map D.int).all (rgl 2)) = true
  rw [decide_eq_true (by rw [List.length_map]; omega), Bool.true_and]
  exact List.all_eq_true.mpr fun d hd => by obtain ⟨q, _, rfl⟩ := List.mem_map.mp hd; rfl
/-- wrong counts after b -/
def wrL (bad : D) (b a : List Int) : List D := [bad, lI (b ++ [0]), lI (b.dropLast ++ [b.getLastD 0 + 1]), lI (a.map (· + 1))]
theorem sum_inc : ∀ a : List Int, (a.map (· + 1)).sum = a.sum + a.length
  | [] => rfl
  | x :: a => by
    have := sum_inc a
    rw [List.map_cons, List.sum_cons, this, List.sum_cons, List.length_cons]; omega
theorem wrong_ok {n : Nat} {bad : D} (h : bad ∈ badC) {b a : List Int} (hb : Cnt n b) (ha : Cnt n a) (hs : a.sum = b.sum) : ∀ w ∈ wrL bad b a, check_counts [lI b, w] = .exc "BadCounts" [("value", w)] ∧ _law_alike [hrD "counts" w, hrD "counts" w] = .ok (.bl true) := by
  intro w hw
  have al : ∀ {w : List Int}, w.length ≤ 100 → _law_alike [hrD "counts" (lI w), hrD "counts" (lI w)] = .ok (.bl true) := fun {w} hl => by
    refine alike_refl 4 6 _ ?_ (by decide)
    have e : PyData.strOk "counts" = true := by kernel_rfl
    simp only [hrD, rgl, List.length_cons, List.length_nil, List.all_cons, List.all_nil, e, rgl_lI hl]
    rfl
  have n4 := hb.n4
  have bl := hb.len
  have av := ha.len
  have ne : b ≠ [] := fun z => by rw [z] at bl; simp at bl; omega
  have el : b.dropLast ++ [b.getLastD 0] = b := by
    rw [List.getLastD_eq_getLast?, List.getLast?_eq_some_getLast ne]
    exact List.dropLast_concat_getLast ne
  simp only [wrL, List.mem_cons, List.not_mem_nil, or_false] at hw
  rcases hw with rfl | rfl | rfl | rfl
  · exact ⟨check_x2 (.inl rfl) hb (badC_ok _ h).1, (badC_ok _ h).2⟩
  · refine ⟨?_, al (by simp; omega)⟩
    by_cases c : n = 4
    · match b, bl with
      | [x, y, z, u], _ => exact check_x2 (.inl rfl) hb len5
      | [], q => simp at q; omega
      | [x], q => simp at q; omega
      | [x, y], q => simp at q; omega
      | [x, y, z], q => simp at q; omega
      | x :: y :: z :: u :: v :: l, q => simp at q; omega
    · exact check_x3 (.inl rfl) hb (.inl rfl) (by simp; omega) (.inl (by simp))
  · have e2 : (b.dropLast ++ [b.getLastD 0 + 1]).sum = b.sum + 1 := by
      have := congrArg List.sum el
      rw [List.sum_append] at this ⊢
      simp at this ⊢
      omega
    exact ⟨check_x3 (.inl rfl) hb (.inl rfl) (by simp; omega) (.inr (by rw [e2]; omega)), al (by simp; omega)⟩
  · have := sum_inc a
    exact ⟨check_x3 (.inl rfl) hb (.inl rfl) (by simp; omega) (.inr (by rw [this]; omega)), al (by simp; omega)⟩

end Lawk40
namespace Lawk40
open PySem PySem.Spec PyProof.Rows L2 Ax
local macro_rules | `(tactic| walk_at "op") => `(tactic| (first | with_reducible assumption | walk_at "my" | with_reducible exact op_iadd | with_reducible exact op_isub | with_reducible exact op_iplus | with_reducible exact op_ilt | with_reducible exact op_ile | with_reducible exact op_igt | with_reducible exact op_ige | with_reducible exact op_ieq | with_reducible exact op_ine | with_reducible exact op_inegL | with_reducible exact op_len_lst | with_reducible exact op_len_tup | with_reducible exact unv_n | with_reducible exact tru_bl))
local macro_rules | `(tactic| walk_at "ev") => `(tactic| (first
  | ((with_reducible apply ev_var); exact rfl)
  | with_reducible exact ev_c | with_reducible exact ev_nil | with_reducible exact ev_yes | with_reducible exact ev_oN
  | ((with_reducible intro _); walk_at "ev")
  | walk_at "op"
  | ((with_reducible apply unv_c); walk_at "ev")
  | ((with_reducible apply ev_cons) <;> walk_at "ev")
  | ((with_reducible apply ev_bin) <;> walk_at "ev")
  | ((with_reducible apply ev_un) <;> walk_at "ev")
  | ((with_reducible apply ev_tup) <;> walk_at "ev")
  | ((with_reducible apply ev_lst) <;> walk_at "ev")
  | ((with_reducible apply ev_lstC) <;> walk_at "ev")
  | ((with_reducible apply ev_b) <;> walk_at "ev")
  | ((with_reducible apply ev_P) <;> walk_at "ev")
  | ((with_reducible apply ev_K) <;> walk_at "ev")
  | ((with_reducible apply ev_KF) <;> walk_at "ev")
  | ((with_reducible apply ev_KE) <;> walk_at "ev")
  | ((with_reducible apply ev_peek) <;> walk_at "ev")
  | ((with_reducible apply ev_sl) <;> walk_at "ev")
  | ((with_reducible apply ev_oS) <;> walk_at "ev")
  | ((with_reducible apply ev_not) <;> walk_at "ev")
  | ((with_reducible apply ev_and) <;> walk_at "ev")
  | ((with_reducible apply ev_or) <;> walk_at "ev")
  | ((with_reducible apply ev_chain) <;> walk_at "ev")
  | ((with_reducible apply ev_tbl) <;> walk_at "ev")
  | ((with_reducible apply ev_ttru) <;> walk_at "ev")
  | ((with_reducible apply ev_tnF) <;> walk_at "ev")
  | ((with_reducible apply ev_tnT) <;> walk_at "ev")
  | ((with_reducible apply ev_tnot) <;> walk_at "ev")
  | ((with_reducible apply ev_tand) <;> walk_at "ev")
  | ((with_reducible apply ev_tor) <;> walk_at "ev")
  | ((with_reducible apply ev_heard0) <;> walk_at "ev")
  | ((with_reducible apply ev_mth) <;> walk_at "ev")
  | ((with_reducible apply op_tupB) <;> walk_at "ev")
  | ((with_reducible apply op_lstB) <;> walk_at "ev")
  | ((with_reducible apply op_lstCB) <;> walk_at "ev")
  | ((with_reducible show shL 64 _ = true); exact rfl)
  | skip))

local macro_rules | `(tactic| walk_at "my") => `(tactic| (first | with_reducible exact op_t2 | with_reducible exact op_t3))

/-! the law of tables, walked -/
section
variable {ns : List Int}
theorem ev_heardX {hs : List (Str × Str)} {mb : EM} {e : Sl} {S S1 : Store} {c : Str} {d : D} {t : Str × Str} (h : mb e S = .exc c [("value", d)] S1) (hf : hs.find? (fun t => decide (t.1 = c)) = some t) : eHeard hs mb e S = .ok (.v (.tup [.str t.2, d, .bl true])) S1 := by
  unfold eHeard; rw [h]; simp only [hf, if_true]
theorem ev_heardO {hs : List (Str × Str)} {mb : EM} {e : Sl} {S S1 : Store} {x : Vl} (h : mb e S = .ok x S1) : eHeard hs mb e S = .ok (.v (.tup [])) S1 := by
  unfold eHeard; rw [h]
theorem ev_VX {tb : FTab} {i : Nat} {ra : AM} {e : Sl} {S S1 : Store} {c cn : Str} {F : List D → R} {xs : List Vl} {ds : List D} {fs : List (Str × D)} (h0 : e[i]? = some (some (.v (.fn c)))) (h1 : tb c = some F) (h2 : ra e S = .ok xs S1) (h3 : unv xs = some ds) (h4 : F ds = .exc cn fs) : eCallV tb i ra e S = .exc cn fs S1 := by
  unfold eCallV; rw [h0]; simp only [h1, h2, Out.bind, kP, h3, h4]
theorem ev_tandF {ta tb : TM} {e : Sl} {S S1 : Store} (h1 : ta e S = .ok false S1) : tmAnd ta tb e S = .ok false S1 := by unfold tmAnd; rw [h1]; rfl
theorem ev_tandT {ta tb : TM} {e : Sl} {S S1 S2 : Store} {c : Bool} (h1 : ta e S = .ok true S1) (h2 : tb e S1 = .ok c S2) : tmAnd ta tb e S = .ok c S2 := by unfold tmAnd; rw [h1]; exact h2
theorem alike_bl (b : Bool) : _law_alike [.bl b, .bl b] = .ok (.bl true) := alike_refl 1 6 (.bl b) rfl (by decide)
theorem alike_int (i : Int) : _law_alike [.int i, .int i] = .ok (.bl true) := alike_refl 1 6 (.int i) rfl (by decide)
theorem tuple_any {B : D} {b : List Int} (h : isSeq B b) {S : Store} : fTuple [.v B] S = .ok (.v (tI b)) S := by
  rcases h with rfl | rfl
  · exact tuple_lI b
  · rfl
abbrev eLw (Z : D) (n : Nat) (b a : List Int) (T : D) (a8 a9 a10 a11 a12 a13 a14 : Option Vl) : Sl := [some (.v Z), some (.r 0), some (.v (.int (n : Int))), some (.v (lI b)), some (.v (lI a)), some (.v T), some (.v (lI b)), some (.v (lI a)), a8, a9, a10, a11, a12, a13, a14, none]
theorem lw_go {Z : D} {n : Nat} (hn : 2 ≤ n ∧ n ≤ 4) {b a : List Int} (hb : Cnt n b) (ha : Cnt n a) (hs : a.sum = b.sum) {M : List (List Int)} (hl : M.length = n) (hM : ∀ r ∈ M, r.length = n ∧ ∀ x ∈ r, 0 ≤ x ∧ x ≤ 12) : ∀ (xs : List Vl) (S : Store), IsRow ns [] S →
    ∃ S', forGo (gNm 8) b1_law [8, 9, 10] xs (eLw Z n b a (.tup (M.map tI)) none none none none none none none) S = .go (.nx (eLw Z n b a (.tup (M.map tI)) none none none none none none none)) S' ∧ IsRow ns [] S'
  | [], S, hS => ⟨S, rfl, hS⟩
  | x :: xs, S, hS => by
    obtain ⟨d, S1, g1, hd, h1⟩ := changed_ok hn hl hM hS
    obtain ⟨g, j1, j2, j3⟩ := cand_judged hb ha hd
    obtain ⟨S', q, hS'⟩ := lw_go hn hb ha hs hl hM (Z := Z) xs S1 h1
    refine ⟨S', ?_, hS'⟩
    have t1 := is_table_ok (.inr rfl) (.inl rfl) hb ha hs (j1 (tI b) (lI a) (.inr rfl) (.inl rfl))
    refine Eq.trans (forGo_nx (e1 := eLw Z n b a (.tup (M.map tI)) (some x) none none none none none none) (S2 := S1) (e2 := eLw Z n b a (.tup (M.map tI)) (some x) (some (.v d)) (some (.v (.bl g))) none none none none) rfl ?_) q
    refine p_let (x := .v d) (S1 := S1) (ev_K (ev_cons (ev_var rfl) (ev_cons (ev_var rfl) ev_nil)) g1) ?_
    refine p_let (x := .v (.bl g)) (ev_P (ev_cons (ev_var rfl) (ev_cons (ev_var rfl) (ev_cons (ev_var rfl) ev_nil))) rfl j2) ?_
    refine p_go (S1 := S1) (ev_tnF (ev_ttru (ev_P (ev_cons (ev_P (ev_cons (ev_b (ev_cons (ev_var rfl) ev_nil) (tuple_lI b)) (ev_cons (ev_var rfl) (ev_cons (ev_var rfl) ev_nil))) rfl t1) (ev_cons (ev_var rfl) ev_nil)) rfl (alike_bl g)) rfl)) ?_
    cases g with
    | true =>
      obtain ⟨N, rfl, nl, hN⟩ := j3 rfl
      have mo := movers_ok nl (by omega) fun r hr => (hN r hr).1
      have lo := lmovers_ok nl (by omega) fun r hr => (hN r hr).1
      have mg := movers_good (.inl rfl) (.inl rfl) hb ha hs (j1 (lI b) (lI a) (.inl rfl) (.inl rfl)) mo
      have al0 : _law_alike [.tup [], .tup []] = .ok (.bl true) := alike_refl 1 6 (.tup []) rfl (by decide)
      refine p_go (S1 := S1) (ev_tnF (ev_ttru (ev_P (ds := [.tup [], .tup []]) (ev_cons (ev_heardO (ev_P (ev_cons (ev_var rfl) (ev_cons (ev_var rfl) (ev_cons (ev_var rfl) ev_nil))) rfl mg)) (ev_cons (ev_if (b := true) (ev_ttru (ev_var rfl) rfl) (fun _ => ev_tup ev_nil rfl) (fun h => by cases h)) ev_nil)) rfl al0) rfl)) ?_
      exact p_ifF (ev_tandT (ev_ttru (ev_var rfl) rfl) (ev_tnF (ev_ttru (ev_P (ev_cons (ev_P (ev_cons (ev_var rfl) (ev_cons (ev_var rfl) (ev_cons (ev_var rfl) ev_nil))) rfl mg) (ev_cons (ev_P (ev_cons (ev_var rfl) ev_nil) rfl lo) ev_nil)) rfl (alike_int _)) rfl))) p_nil
    | false =>
      have mb := movers_bad (.inl rfl) (.inl rfl) hb ha hs (j1 (lI b) (lI a) (.inl rfl) (.inl rfl))
      have al0 : _law_alike [hrD "table" d, hrD "table" d] = .ok (.bl true) := by
        refine alike_refl 4 6 _ ?_ (by decide)
        have e : PyData.strOk "table" = true := by kernel_rfl
        simp only [hrD, rgl, List.length_cons, List.length_nil, List.all_cons, List.all_nil, e, cand_rgl hd]
        rfl
      refine p_go (S1 := S1) (ev_tnF (ev_ttru (ev_P (ds := [hrD "table" d, hrD "table" d]) (ev_cons (ev_heardX (t := ("BadTable", "table")) (ev_PX (ev_cons (ev_var rfl) (ev_cons (ev_var rfl) (ev_cons (ev_var rfl) ev_nil))) rfl mb) rfl) (ev_cons (ev_if (b := false) (ev_ttru (ev_var rfl) rfl) (fun h => by cases h) (fun _ => ev_tup (ev_cons ev_c (ev_cons (ev_var rfl) (ev_cons ev_c ev_nil))) op_t3)) ev_nil)) rfl al0) rfl)) ?_
      exact p_ifF (ev_tandF (ev_ttru (ev_var rfl) rfl)) p_nil
def thL : List D := [.non, .int 5, .str "x", .lst [], .tup [], .dct [], .bl true]
theorem th_ok {n : Nat} {b a : List Int} (hb : Cnt n b) : ∀ d ∈ thL, is_right [lI b, lI a, d] = .ok (.bl false) := by
  intro d h
  simp only [thL, List.mem_cons, List.not_mem_nil, or_false] at h
  rcases h with rfl | rfl | rfl | rfl | rfl | rfl | rfl
  · exact right_nt rfl
  · exact right_nt rfl
  · exact right_nt rfl
  · exact right_nt rfl
  · exact is_right_bad (.inl rfl) hb.len (rs := []) (by simp) (.inl (by have := hb.n4; simp; omega))
  · exact right_nt rfl
  · exact right_nt rfl
theorem th_go {Z T : D} {n : Nat} {b a : List Int} (hb : Cnt n b) (ha : Cnt n a) (hs : a.sum = b.sum) {S : Store} : ∀ xs : List D, (∀ d ∈ xs, d ∈ thL) →
    forGo (gNm 11) b2_law [11] (xs.map Vl.v) (eLw Z n b a T none none none none none none none) S = .go (.nx (eLw Z n b a T none none none none none none none)) S
  | [], _ => rfl
  | d :: xs, h => by
    have t1 := is_table_ok (.inl rfl) (.inl rfl) hb ha hs (th_ok (a := a) hb d (h d (by simp)))
    rw [List.map_cons, forGo_nx (e1 := eLw Z n b a T none none none (some (.v d)) none none none) (S2 := S) (e2 := eLw Z n b a T none none none (some (.v d)) none none none) rfl (p_ifF (ev_tnF (ev_ttru (ev_P (ev_cons (ev_P (ev_cons (ev_var rfl) (ev_cons (ev_var rfl) (ev_cons (ev_var rfl) ev_nil))) rfl t1) (ev_cons ev_c ev_nil)) rfl (alike_bl false)) rfl)) p_nil)]
    exact th_go hb ha hs xs fun x hx => h x (by simp [hx])
theorem as_go {Z T bad wr : D} {n : Nat} {b a : List Int} (hx1 : check_counts [bad, wr] = .exc "BadCounts" [("value", bad)]) (hx2 : check_counts [lI b, wr] = .exc "BadCounts" [("value", wr)]) (ha1 : _law_alike [hrD "counts" bad, hrD "counts" bad] = .ok (.bl true)) (ha2 : _law_alike [hrD "counts" wr, hrD "counts" wr] = .ok (.bl true)) {S : Store} : ∀ xs : List Str, (∀ c ∈ xs, c = "is_table" ∨ c = "movers") →
    forGo (gNm 14) b3_law [14] (xs.map fun c => Vl.v (.fn c)) (eLw Z n b a T none none none none (some (.v bad)) (some (.v wr)) none) S = .go (.nx (eLw Z n b a T none none none none (some (.v bad)) (some (.v wr)) none)) S
  | [], _ => rfl
  | c :: xs, h => by
    obtain ⟨F, hF, f1, f2⟩ : ∃ F, tb_law c = some F ∧ F [bad, wr, .non] = .exc "BadCounts" [("value", bad)] ∧ F [lI b, wr, .non] = .exc "BadCounts" [("value", wr)] := by
      rcases h c (by simp) with rfl | rfl
      · exact ⟨is_table, rfl, (both_x hx1).1, (both_x hx2).1⟩
      · exact ⟨movers, rfl, (both_x hx1).2, (both_x hx2).2⟩
    have st : b3_law (eLw Z n b a T none none none none (some (.v bad)) (some (.v wr)) (some (.v (.fn c)))) S = .go (.nx (eLw Z n b a T none none none none (some (.v bad)) (some (.v wr)) (some (.v (.fn c))))) S := by
      refine p_go (S1 := S) (ev_tnF (ev_ttru (ev_P (ds := [hrD "counts" bad, hrD "counts" bad]) (ev_cons (ev_heardX (t := ("BadCounts", "counts")) (ev_VX rfl hF (ev_cons (ev_var rfl) (ev_cons (ev_var rfl) (ev_cons ev_c ev_nil))) rfl f1) rfl) (ev_cons (ev_tup (ev_cons ev_c (ev_cons (ev_var rfl) (ev_cons ev_c ev_nil))) op_t3) ev_nil)) rfl ha1) rfl)) ?_
      exact p_ifF (ev_tnF (ev_ttru (ev_P (ds := [hrD "counts" wr, hrD "counts" wr]) (ev_cons (ev_heardX (t := ("BadCounts", "counts")) (ev_VX rfl hF (ev_cons (ev_var rfl) (ev_cons (ev_var rfl) (ev_cons ev_c ev_nil))) rfl f2) rfl) (ev_cons (ev_tup (ev_cons ev_c (ev_cons (ev_var rfl) (ev_cons ev_c ev_nil))) op_t3) ev_nil)) rfl ha2) rfl)) p_nil
    rw [List.map_cons, forGo_nx (e1 := eLw Z n b a T none none none none (some (.v bad)) (some (.v wr)) (some (.v (.fn c)))) rfl st]
    exact as_go hx1 hx2 ha1 ha2 xs fun x hx => h x (by simp [hx])
theorem wr_ev {Z T bad : D} {n : Nat} (hn : 2 ≤ n ∧ n ≤ 4) {b a : List Int} (hb : b.length = n) (ha : a.length = n) {S : Store} : (eLst (aCons (eVar 12) (aCons (eBin fAdd (eVar 3) (eLst (aCons (eC (.int 0)) (aNil)))) (aCons (eBin fAdd (eSl kLst (eVar 3) (oNone) (oSome (eUn fNeg (eC (.int 1))))) (eLst (aCons (eBin fAdd (eBin fIx (eVar 3) (eUn fNeg (eC (.int 1)))) (eC (.int 1))) (aNil)))) (aCons (h3_law) (aNil)))))) (eLw Z n b a T none none none none (some (.v bad)) none none) S = .ok (.v (.lst (wrL bad b a))) S := by
  have h3 : h3_law (eLw Z n b a T none none none none (some (.v bad)) none none) S = .ok (.v (lI (a.map (· + 1)))) S := by
    refine ev_lc (seq_ev (.inl rfl) rfl) (S2 := S) (ys := (a.map (· + 1)).map fun x => Vl.v (.int x)) ?_ (kLst_I (by rw [List.length_map]; omega))
    rw [List.map_map]
    exact lc_map (fun x : Int => Vl.v (.int x)) (fun x => Vl.v (.int (x + 1))) a (fun x _ => ⟨(eLw Z n b a T none none none none (some (.v bad)) none none).set 15 (some (.v (.int x))), rfl, rfl, ev_bin (ev_var rfl) ev_c op_iadd⟩) (by omega)
  have e1 : (eBin fAdd (eVar 3) (eLst (aCons (eC (.int 0)) (aNil)))) (eLw Z n b a T none none none none (some (.v bad)) none none) S = .ok (.v (lI (b ++ [0]))) S := by
    have := op_addL (a := b.map D.int) (b := [.int 0]) (S := S) (by simp; omega)
    unfold lI
    rw [List.map_append]
    exact ev_bin (ev_var rfl) (ev_lst (ev_cons ev_c ev_nil) rfl) this
  have e2 : (eBin fAdd (eSl kLst (eVar 3) (oNone) (oSome (eUn fNeg (eC (.int 1))))) (eLst (aCons (eBin fAdd (eBin fIx (eVar 3) (eUn fNeg (eC (.int 1)))) (eC (.int 1))) (aNil)))) (eLw Z n b a T none none none none (some (.v bad)) none none) S = .ok (.v (lI (b.dropLast ++ [b.getLastD 0 + 1]))) S := by
    have : n = 2 ∨ n = 3 ∨ n = 4 := by omega
    rcases this with rfl | rfl | rfl
    · match b, hb with
      | [x, y], _ => exact ev_bin (ev_sl (ev_var rfl) ev_oN (ev_oS (ev_un ev_c op_inegL)) rfl) (ev_lst (ev_cons (ev_bin (ev_bin (ev_var rfl) (ev_un ev_c op_inegL) rfl) ev_c op_iadd) ev_nil) rfl) rfl
    · match b, hb with
      | [x, y, z], _ => exact ev_bin (ev_sl (ev_var rfl) ev_oN (ev_oS (ev_un ev_c op_inegL)) rfl) (ev_lst (ev_cons (ev_bin (ev_bin (ev_var rfl) (ev_un ev_c op_inegL) rfl) ev_c op_iadd) ev_nil) rfl) rfl
    · match b, hb with
      | [x, y, z, u], _ => exact ev_bin (ev_sl (ev_var rfl) ev_oN (ev_oS (ev_un ev_c op_inegL)) rfl) (ev_lst (ev_cons (ev_bin (ev_bin (ev_var rfl) (ev_un ev_c op_inegL) rfl) ev_c op_iadd) ev_nil) rfl) rfl
  exact ev_lst (ev_cons (ev_var rfl) (ev_cons e1 (ev_cons e2 (ev_cons h3 ev_nil)))) rfl
theorem law_true (ns : List Int) (_ : ns.length ≤ 63) (_ : ∀ z ∈ ns, Builtin.Int.intBits z ≤ 1048576) : law [.scr (ns.map .int)] = .ok (.bl true) := by
  have h0 : IsRow ns [] [rowC ns 0 16176040 0] := ⟨0, 16176040, 0, rfl, by decide, by decide, by decide⟩
  obtain ⟨q, S1, g1, q0, q1, h1⟩ := taken_ok (m := 3) h0 (by decide) (by decide)
  obtain ⟨k, rfl⟩ : ∃ k : Nat, q = k := ⟨q.toNat, by omega⟩
  have hn : 2 ≤ 2 + k ∧ 2 + k ≤ 4 := by omega
  obtain ⟨M, t, S2, g2, sq, ht, h2⟩ := drawn_ok hn h1
  rw [show (((2 + k : Nat)) : Int) = 2 + (k : Int) by omega] at g2
  obtain ⟨hb, ha, hs⟩ := sq_cnt hn sq ht
  have sm := sq_small sq ht
  have hl := sq.len
  have g12 : (M.all fun r => r.all fun x => decide (x ≤ 12)) = true := List.all_eq_true.mpr fun r hr => List.all_eq_true.mpr fun x hx => decide_eq_true ((sm r hr).2 x hx).2
  have rt : ∀ B A, isSeq B (M.map List.sum) → isSeq A (colL (2 + k) M) → is_right [B, A, .tup (M.map tI)] = .ok (.bl true) := fun B A hB hA => by
    have := is_right_ok hB hA hb.len ha.len (by omega) sq.row hl g12
    rw [decide_eq_true rfl, decide_eq_true (show (List.range (2 + k)).map (colS M) = colL (2 + k) M from rfl)] at this
    exact this
  have mo := movers_ok hl (by omega) fun r hr => (sm r hr).1
  have lo := lmovers_ok hl (by omega) fun r hr => (sm r hr).1
  have t1 := is_table_ok (.inl rfl) (.inl rfl) hb ha hs (rt _ _ (.inl rfl) (.inl rfl))
  have mg := movers_good (.inl rfl) (.inr rfl) hb ha hs (rt _ _ (.inl rfl) (.inr rfl)) mo
  obtain ⟨S3, g3, h3⟩ := lw_go hn hb ha hs hl sm (Z := .scr (ns.map .int)) ((rngD 0 1 6).map .v) S2 h2
  have g4 := th_go (Z := .scr (ns.map .int)) (T := .tup (M.map tI)) hb ha hs (S := S3) thL fun _ h => h
  obtain ⟨bad, S4, p4, hbad, h4⟩ := pick_ok (ds := badC) h3 (by simp [badC]) (by simp [badC])
  obtain ⟨wr, S5, p5, hwr, h5⟩ := pick_ok (ds := wrL bad (M.map List.sum) (colL (2 + k) M)) h4 (by simp [wrL]) (by simp [wrL])
  have bo := badC_ok bad hbad
  have wo := wrong_ok hbad hb ha hs wr hwr
  have g6 := as_go (Z := .scr (ns.map .int)) (T := .tup (M.map tI)) (n := 2 + k) (a := colL (2 + k) M) (check_x1 bo.1 wr) wo.1 bo.2 wo.2 (S := S5) ["is_table", "movers"] (by simp)
  apply runP_rt (hl := rfl) (S := S5)
  refine p_let (x := .r 0) (S1 := [rowC ns 0 16176040 0]) rfl ?_
  refine p_let (x := .v (.int (2 + (k : Int)))) (S1 := S1) (ev_bin ev_c (ev_K (ev_cons (ev_var rfl) (ev_cons ev_c ev_nil)) g1) op_iadd) ?_
  refine p_nx (e1 := [some (.v (.scr (ns.map .int))), some (.r 0), some (.v (.int (2 + (k : Int)))), some (.v (lI (M.map List.sum))), some (.v (lI (colL (2 + k) M))), some (.v (.tup (M.map tI))), none, none, none, none, none, none, none, none, none, none]) (S1 := S2) (p_asg (x := .v (.tup [lI (M.map List.sum), lI (colL (2 + k) M), .tup (M.map tI)])) (ev_KF (ev_cons (ev_var rfl) (ev_cons (ev_var rfl) (ev_cons ev_c ev_nil))) g2) rfl) ?_
  rw [show (2 + (k : Int)) = ((2 + k : Nat) : Int) by omega]
  have bl := hb.len
  have cl := ha.len
  refine p_par (x := .v (lI (M.map List.sum))) (y := .v (lI (colL (2 + k) M))) (S1 := S2) (S2 := S2) (ev_b (ev_cons (ev_var rfl) ev_nil) (list_seq (.inl rfl) (by omega))) (ev_b (ev_cons (ev_var rfl) ev_nil) (list_seq (.inl rfl) (by omega))) ?_
  refine p_go (S1 := S2) (ev_tor' (ev_tnF (ev_ttru (ev_P (ev_cons (ev_P (ev_cons (ev_var rfl) (ev_cons (ev_var rfl) (ev_cons (ev_var rfl) ev_nil))) rfl t1) (ev_cons ev_c ev_nil)) rfl (alike_bl true)) rfl)) (ev_tnF (ev_ttru (ev_P (ev_cons (ev_P (ev_cons (ev_var rfl) (ev_cons (ev_b (ev_cons (ev_var rfl) ev_nil) (tuple_lI _)) (ev_cons (ev_var rfl) ev_nil))) rfl mg) (ev_cons (ev_P (ev_cons (ev_var rfl) ev_nil) rfl lo) ev_nil)) rfl (alike_int _)) rfl))) ?_
  refine p_nx (sFor_of (ev_irn1 (j := 6) (ev_cons ev_c ev_nil) rfl) g3) ?_
  refine p_nx (sFor_of (ev_iseq (x := .v (.lst thL)) (ds := thL) (S1 := S3) rfl rfl) g4) ?_
  refine p_let (x := .v bad) (S1 := S4) (ev_K (ev_cons (ev_var rfl) (ev_cons (x := .v (.lst badC)) (S1 := S3) rfl ev_nil)) p4) ?_
  refine p_let (x := .v wr) (S1 := S5) (ev_K (ev_cons (ev_var rfl) (ev_cons (wr_ev hn bl cl) ev_nil)) p5) ?_
  refine p_nx (sFor_of (ev_iseq (x := .v (.lst [.fn "is_table", .fn "movers"])) (ds := [.fn "is_table", .fn "movers"]) (S1 := S5) rfl rfl) g6) ?_
  refine p_ret (ev_and (b := true) (c := true) (ev_bin (ev_var rfl) (ev_var rfl) ?_) fun _ => ev_bin (ev_var rfl) (ev_var rfl) ?_)
  · rw [eq_lI]; simp
  · rw [eq_lI]; simp
end

end Lawk40
namespace Lawk40
open PySem PySem.Spec PyProof.Rows L2 Ax
section
variable {w : World} {K : PySem.W.Frag} {h : Heap} {mg : Str → Option Value}
theorem ex0 (c : He.SaysX faL fnL [] tfL exK w h K) : exmB K (hl__law_heard (adsOf K)) = true := List.all_eq_true.mp c.more (fun K => exmB K (hl__law_heard (adsOf K))) (List.mem_of_getElem? (i := 0) rfl)
theorem ex1 (c : He.SaysX faL fnL [] tfL exK w h K) : dtB (TL (adsOf K)) = true := List.all_eq_true.mp c.more (fun K => dtB (TL (adsOf K))) (List.mem_of_getElem? (i := 1) rfl)
theorem ex2 (c : He.SaysX faL fnL [] tfL exK w h K) : errKB K (adsOf K).c_PollError (adsOf K).c_BadCounts = true := List.all_eq_true.mp c.more (fun K => errKB K (adsOf K).c_PollError (adsOf K).c_BadCounts) (List.mem_of_getElem? (i := 2) rfl)
theorem ex3 (c : He.SaysX faL fnL [] tfL exK w h K) : errKB K (adsOf K).c_PollError (adsOf K).c_BadTable = true := List.all_eq_true.mp c.more (fun K => errKB K (adsOf K).c_PollError (adsOf K).c_BadTable) (List.mem_of_getElem? (i := 3) rfl)
theorem ex4 (c : He.SaysX faL fnL [] tfL exK w h K) : errCB K "value" (adsOf K).c_BadCounts (adsOf K).a_init = true := List.all_eq_true.mp c.more (fun K => errCB K "value" (adsOf K).c_BadCounts (adsOf K).a_init) (List.mem_of_getElem? (i := 4) rfl)
theorem ex5 (c : He.SaysX faL fnL [] tfL exK w h K) : errCB K "value" (adsOf K).c_BadTable (adsOf K).a_init = true := List.all_eq_true.mp c.more (fun K => errCB K "value" (adsOf K).c_BadTable (adsOf K).a_init) (List.mem_of_getElem? (i := 5) rfl)
theorem initB_of {fd : FuncData} {f : Addr} (F : FunD K dd_init.name dd_init.qual dd_init.params dd_init.body dd_init.scope (dd_init.dvs K) (dd_init.kws K) f fd) : L2.Binds K fd ["self", "value"] [] := by
  obtain ⟨ds, hv, hb⟩ := F.binds1 (ps := ["self", "value"]) 2 1 (by intro z; cases z) rfl fun T kV doc pm an cdv ct us its hl hl2 => match us, hl, its, hl2 with | [_, _], _, [_], _ => ⟨_, rfl, rfl⟩
  cases hv
  exact hb
theorem txt_of (X : K.In h) (G : h.Ns mainGlobals mg) (c : He.SaysX faL fnL [] tfL exK w h K) : Txt K mg (adsOf K) := ⟨He.glo_ok X G (c.t.d.fact 0 (f := .glo "PollError") rfl),
  exmB_ok (ex0 c),
  dtB_ok (ex1 c) (r := ((adsOf K).p_law, ((envOfC "law" (defScope s_law) 0 (adsOf K).a_law (.ref (adsOf K).o_law)).qual ++ "<lambda>"))) (by unfold TL; exact .head _),
  errKB_ok (ex2 c),
  errKB_ok (ex3 c),
  He.glo_ok X G (c.t.d.fact 1 (f := .glo "is_integer") rfl),
  (funD_at c.t.d 0 (d := dd_is_integer) rfl).kp,
  fun_of (st := s_is_integer) (funD_at c.t.d 0 (d := dd_is_integer) rfl),
  (funD_at c.t.d 0 (d := dd_is_integer) rfl).bindsN fun _ _ _ _ _ _ us hl => match us, hl with | [_], _ => rfl,
  He.glo_ok X G (c.t.d.fact 2 (f := .glo "is_within") rfl),
  (funD_at c.t.d 1 (d := dd_is_within) rfl).kp,
  fun_of (st := s_is_within) (funD_at c.t.d 1 (d := dd_is_within) rfl),
  (funD_at c.t.d 1 (d := dd_is_within) rfl).bindsN fun _ _ _ _ _ _ us hl => match us, hl with | [_, _, _], _ => rfl,
  He.glo_ok X G (c.t.d.fact 3 (f := .glo "is_row") rfl),
  (funD_at c.t.d 2 (d := dd_is_row) rfl).kp,
  fun_of (st := s_is_row) (funD_at c.t.d 2 (d := dd_is_row) rfl),
  (funD_at c.t.d 2 (d := dd_is_row) rfl).bindsN fun _ _ _ _ _ _ us hl => match us, hl with | [_], _ => rfl,
  He.glo_ok X G (c.t.d.fact 4 (f := .glo "are_counts") rfl),
  (funD_at c.t.d 3 (d := dd_are_counts) rfl).kp,
  fun_of (st := s_are_counts) (funD_at c.t.d 3 (d := dd_are_counts) rfl),
  (funD_at c.t.d 3 (d := dd_are_counts) rfl).bindsN fun _ _ _ _ _ _ us hl => match us, hl with | [_], _ => rfl,
  He.glo_ok X G (c.t.d.fact 5 (f := .glo "check_counts") rfl),
  (funD_at c.t.d 4 (d := dd_check_counts) rfl).kp,
  fun_of (st := s_check_counts) (funD_at c.t.d 4 (d := dd_check_counts) rfl),
  (funD_at c.t.d 4 (d := dd_check_counts) rfl).bindsN fun _ _ _ _ _ _ us hl => match us, hl with | [_, _], _ => rfl,
  He.glo_ok X G (c.t.d.fact 6 (f := .glo "is_right") rfl),
  (funD_at c.t.d 5 (d := dd_is_right) rfl).kp,
  fun_of (st := s_is_right) (funD_at c.t.d 5 (d := dd_is_right) rfl),
  (funD_at c.t.d 5 (d := dd_is_right) rfl).bindsN fun _ _ _ _ _ _ us hl => match us, hl with | [_, _, _], _ => rfl,
  He.glo_ok X G (c.t.d.fact 7 (f := .glo "is_table") rfl),
  (funD_at c.t.d 6 (d := dd_is_table) rfl).kp,
  fun_of (st := s_is_table) (funD_at c.t.d 6 (d := dd_is_table) rfl),
  (funD_at c.t.d 6 (d := dd_is_table) rfl).bindsN fun _ _ _ _ _ _ us hl => match us, hl with | [_, _, _], _ => rfl,
  He.glo_ok X G (c.t.d.fact 8 (f := .glo "movers_of") rfl),
  (funD_at c.t.d 7 (d := dd_movers_of) rfl).kp,
  fun_of (st := s_movers_of) (funD_at c.t.d 7 (d := dd_movers_of) rfl),
  (funD_at c.t.d 7 (d := dd_movers_of) rfl).bindsN fun _ _ _ _ _ _ us hl => match us, hl with | [_], _ => rfl,
  He.glo_ok X G (c.t.d.fact 9 (f := .glo "movers") rfl),
  (funD_at c.t.d 8 (d := dd_movers) rfl).kp,
  fun_of (st := s_movers) (funD_at c.t.d 8 (d := dd_movers) rfl),
  (funD_at c.t.d 8 (d := dd_movers) rfl).bindsN fun _ _ _ _ _ _ us hl => match us, hl with | [_, _, _], _ => rfl,
  He.glo_ok X G (c.t.d.fact 10 (f := .glo "_law_taken") rfl),
  (funD_at c.t.d 9 (d := dd__law_taken) rfl).kp,
  fun_of (st := s__law_taken) (funD_at c.t.d 9 (d := dd__law_taken) rfl),
  (funD_at c.t.d 9 (d := dd__law_taken) rfl).bindsN fun _ _ _ _ _ _ us hl => match us, hl with | [_, _], _ => rfl,
  He.glo_ok X G (c.t.d.fact 11 (f := .glo "_law_pick") rfl),
  (funD_at c.t.d 10 (d := dd__law_pick) rfl).kp,
  fun_of (st := s__law_pick) (funD_at c.t.d 10 (d := dd__law_pick) rfl),
  (funD_at c.t.d 10 (d := dd__law_pick) rfl).bindsN fun _ _ _ _ _ _ us hl => match us, hl with | [_, _], _ => rfl,
  He.glo_ok X G (c.t.d.fact 12 (f := .glo "_law_alike") rfl),
  (funD_at c.t.d 11 (d := dd__law_alike) rfl).kp,
  fun_of (st := s__law_alike) (funD_at c.t.d 11 (d := dd__law_alike) rfl),
  (funD_at c.t.d 11 (d := dd__law_alike) rfl).bindsN fun _ _ _ _ _ _ us hl => match us, hl with | [_, _], _ => rfl,
  He.glo_ok X G (c.t.d.fact 13 (f := .glo "_law_movers") rfl),
  (funD_at c.t.d 12 (d := dd__law_movers) rfl).kp,
  fun_of (st := s__law_movers) (funD_at c.t.d 12 (d := dd__law_movers) rfl),
  (funD_at c.t.d 12 (d := dd__law_movers) rfl).bindsN fun _ _ _ _ _ _ us hl => match us, hl with | [_], _ => rfl,
  He.glo_ok X G (c.t.d.fact 14 (f := .glo "_law_is_table") rfl),
  (funD_at c.t.d 13 (d := dd__law_is_table) rfl).kp,
  fun_of (st := s__law_is_table) (funD_at c.t.d 13 (d := dd__law_is_table) rfl),
  (funD_at c.t.d 13 (d := dd__law_is_table) rfl).bindsN fun _ _ _ _ _ _ us hl => match us, hl with | [_, _, _], _ => rfl,
  He.glo_ok X G (c.t.d.fact 15 (f := .glo "_law_drawn") rfl),
  (funD_at c.t.d 14 (d := dd__law_drawn) rfl).kp,
  fun_of (st := s__law_drawn) (funD_at c.t.d 14 (d := dd__law_drawn) rfl),
  (funD_at c.t.d 14 (d := dd__law_drawn) rfl).bindsN fun _ _ _ _ _ _ us hl => match us, hl with | [_, _, _], _ => rfl,
  He.glo_ok X G (c.t.d.fact 16 (f := .glo "_law_changed") rfl),
  (funD_at c.t.d 15 (d := dd__law_changed) rfl).kp,
  fun_of (st := s__law_changed) (funD_at c.t.d 15 (d := dd__law_changed) rfl),
  (funD_at c.t.d 15 (d := dd__law_changed) rfl).bindsN fun _ _ _ _ _ _ us hl => match us, hl with | [_, _], _ => rfl,
  funC_of (p := ("law", none)) (st := s_law) (funD_at c.t.d 16 (d := dd_law) rfl),
  He.glo_ok X G (c.t.d.fact 17 (f := .glo "law") rfl),
  (funD_at c.t.d 16 (d := dd_law) rfl).kp,
  fun_of (st := s_law) (funD_at c.t.d 16 (d := dd_law) rfl),
  (funD_at c.t.d 16 (d := dd_law) rfl).bindsN fun _ _ _ _ _ _ us hl => match us, hl with | [_], _ => rfl,
  He.glo_ok X G (c.t.d.fact 18 (f := .glo "_law_heard") rfl),
  (funD_at c.t.d 17 (d := dd__law_heard) rfl).kp,
  fun_of (st := s__law_heard) (funD_at c.t.d 17 (d := dd__law_heard) rfl),
  (funD_at c.t.d 17 (d := dd__law_heard) rfl).bindsN fun _ _ _ _ _ _ us hl => match us, hl with | [_], _ => rfl,
  He.free_ok X G (c.t.d.fact 19 (f := .free "all") rfl),
  He.free_ok X G (c.t.d.fact 20 (f := .free "bool") rfl),
  He.free_ok X G (c.t.d.fact 21 (f := .free "dict") rfl),
  He.free_ok X G (c.t.d.fact 22 (f := .free "enumerate") rfl),
  He.free_ok X G (c.t.d.fact 23 (f := .free "int") rfl),
  He.free_ok X G (c.t.d.fact 24 (f := .free "isinstance") rfl),
  He.free_ok X G (c.t.d.fact 25 (f := .free "len") rfl),
  He.free_ok X G (c.t.d.fact 26 (f := .free "list") rfl),
  He.free_ok X G (c.t.d.fact 27 (f := .free "range") rfl),
  He.free_ok X G (c.t.d.fact 28 (f := .free "str") rfl),
  He.free_ok X G (c.t.d.fact 29 (f := .free "sum") rfl),
  He.free_ok X G (c.t.d.fact 30 (f := .free "tuple") rfl),
  He.int_ok X G (c.t.d.fact 31 (f := .int "LEAST_OPTIONS" 2) rfl),
  He.int_ok X G (c.t.d.fact 32 (f := .int "MOST_COUNT" 12) rfl),
  He.int_ok X G (c.t.d.fact 33 (f := .int "MOST_OPTIONS" 4) rfl),
  errCB_ok (He.glo_ok X G (c.t.d.fact 34 (f := .glo "BadCounts") rfl)) (ex4 c),
  errCB_ok (He.glo_ok X G (c.t.d.fact 35 (f := .glo "BadTable") rfl)) (ex5 c),
  initB_of (funD_at c.t.d 18 (d := dd_init) rfl)⟩
end
section
variable {P : Program} {wd : World} {K : PySem.W.Frag} {mg : Str → Option Value} {base : Heap} {A : Ads}
theorem law_all (T : Txt K mg A) (I0 : InitOk P wd K mg base A)  (TB_law : LamX.TabB base mg A.o_law A.p_law) : FnOk P wd K mg base (L2.CX P wd) 8 A.a_law A.d_law ["script"] (spP ⟨K, mg, (TL A)⟩ law) := by
  have G_is_integer := ok_is_integer (P := P) (wd := wd) (base := base) (Tb := TL A) T 
  have G_is_within := ok_is_within (P := P) (wd := wd) (base := base) (Tb := TL A) T G_is_integer
  have G_is_row := ok_is_row (P := P) (wd := wd) (base := base) (Tb := TL A) T 
  have G_are_counts := ok_are_counts (P := P) (wd := wd) (base := base) (Tb := TL A) T G_is_row G_is_within
  have G_check_counts := ok_check_counts (P := P) (wd := wd) (base := base) (Tb := TL A) T G_are_counts I0
  have G_is_right := ok_is_right (P := P) (wd := wd) (base := base) (Tb := TL A) T G_is_within
  have G_is_table := ok_is_table (P := P) (wd := wd) (base := base) (Tb := TL A) T G_check_counts G_is_right
  have G_movers_of := ok_movers_of (P := P) (wd := wd) (base := base) (Tb := TL A) T 
  have G_movers := ok_movers (P := P) (wd := wd) (base := base) (Tb := TL A) T G_check_counts G_is_right G_movers_of I0
  have K__law_taken := okK__law_taken (P := P) (wd := wd) (base := base) (Tb := TL A) T 
  have K__law_pick := okK__law_pick (P := P) (wd := wd) (base := base) (Tb := TL A) T K__law_taken
  have G__law_alike := ok__law_alike (P := P) (wd := wd) (base := base) (Tb := TL A) T 
  have G__law_movers := ok__law_movers (P := P) (wd := wd) (base := base) (Tb := TL A) T 
  have G__law_is_table := ok__law_is_table (P := P) (wd := wd) (base := base) (Tb := TL A) T 
  have K__law_drawn := okK__law_drawn (P := P) (wd := wd) (base := base) (Tb := TL A) T K__law_taken
  have K__law_changed := okK__law_changed (P := P) (wd := wd) (base := base) (Tb := TL A) T K__law_pick K__law_taken
  exact ok_law T G__law_alike G__law_is_table G__law_movers G_is_table G_movers K__law_changed K__law_drawn K__law_pick K__law_taken TB_law
end

end Lawk40
namespace Lawk40
open PySem PySem.Spec PyProof.Rows L2 Ax

theorem facts {w : World} {K : PySem.W.Frag} {h : Heap} {mg : Str → Option Value} {f : Addr} (hlaw : ∀ ns : List Int, ns.length ≤ 63 → (∀ z ∈ ns, Builtin.Int.intBits z ≤ 1048576) → law [.scr (ns.map D.int)] = .ok (.bl true)) (X : K.In h) (G : h.Ns mainGlobals mg) (hfa : mg ("law" : Str) = some (.ref f)) (c : He.SaysX faL fnL [] tfL exK w h K) :
    LamX.LawAtS PySem.Challenge.rw_askedtown_k40_move_tables w K (L2.CX (PySem.Challenge.rw_askedtown_k40_move_tables).prog w) 8 63 "script" mg f h := by
  have T := txt_of X G c
  have ef : f = (adsOf K).a_law := by
    have z := hfa.symm.trans T.m_law
    cases z; rfl
  subst ef
  refine ⟨(adsOf K).d_law, tfL.map (He.cT K), spP ⟨K, mg, TL (adsOf K)⟩ law, ?_, ?_, ?_, fun s v => (funD_at c.t.d 16 (d := dd_law) rfl).bindsA (ps := ["script"]) (fun _ _ _ _ _ _ us hl => match us, hl with | [_], _ => rfl) s [v] rfl, fun H a ns hl hb ht hS => law_sp (hlaw ns hl hb) (fun p hp => ?_) hS, fun base XB GB TB => law_all T (init1_ok (funD_at c.t.d 18 (d := dd_init) rfl) sc_init rfl rfl rfl rfl)  (TB _ (List.mem_map.mpr ⟨("law", none), (by unfold tfL; exact .head _), rfl⟩))⟩
  · intro p hp; obtain ⟨q, hq, rfl⟩ := List.mem_map.mp hp; exact c.empty _ hq
  · intro p hp; obtain ⟨q, hq, rfl⟩ := List.mem_map.mp hp; exact c.out _ hq
  · intro p hp; obtain ⟨q, hq, rfl⟩ := List.mem_map.mp hp; exact PySem.W.codeHd_of_K X (c.hd _ hq)
  · simp only [TL, List.mem_cons, List.not_mem_nil, or_false] at hp
    rcases hp with rfl
    · exact ht _ (List.mem_map.mpr ⟨("law", none), (by unfold tfL; exact .head _), rfl⟩)

end Lawk40

open PySem PySem.W PySem.Calls PyProof.Rows
theorem PySem.Challenge.cw_askedtown_k40_move_tables_holds : PySem.Challenge.rw_askedtown_k40_move_tables.Holds := by
  w_on; o_law
  refine HandSHeadRun.head_any (r := OpenLaw.row PySem.Challenge.rw_askedtown_k40_move_tables) (q := view (OpenLaw.row PySem.Challenge.rw_askedtown_k40_move_tables).prog [27]) (H := Lawk40.hk) (ob := Lawk40.ob) (M := 3000) (loose := Lawk40.loo) (d := HandSHeadRun.topDef (OpenLaw.row PySem.Challenge.rw_askedtown_k40_move_tables).prog 27) (kwd := []) Lawk40.ob_eq
    (by kernel_rfl) (fun s => by kernel_rfl) Lawk40.run (by kernel_rfl) (by kernel_rfl) (by kernel_rfl) (by rfl) (by first | assumption | decide +kernel) (by decide +kernel) ⟨rfl, rfl, rfl, rfl, rfl, by decide +kernel⟩ ?hw ?hc
  case hw => w_witness2
  case hc =>
    refine LamX.walk_ofTsE (l := PySem.Challenge.rw_askedtown_k40_move_tables) (n := 63) (k := 8) (x := "script") (CX := fun w => L2.CX (PySem.Challenge.rw_askedtown_k40_move_tables).prog w) rfl (by decide) (by kernel_rfl) ⟨rfl, by decide, by decide⟩ ?F (fun w H s e s' z => Ax.cx_false _ _ _ _ _ _ z)
    intro w mg fa h Y G hmg0
    obtain ⟨K, KX, c⟩ := Y
    have hmg : mg ("law" : PySem.Str) = some (.ref fa) := by
      have e : (HandSHeadRun.topDef (OpenLaw.row PySem.Challenge.rw_askedtown_k40_move_tables).prog 27).name = ("law" : PySem.Str) := by kernel_rfl
      rw [← e]
      exact hmg0
    exact ⟨K, KX, Lawk40.facts Lawk40.law_true KX G hmg c⟩
