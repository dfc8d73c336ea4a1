import PyProof.Rows.All
import Wide.All
import OpenK.AllK
import Wide.FinOn
import HandS.ForMost
import HandS.Exc
import HandS.ExcOwn
import HandS.ExcInit
import HandS.TryOnly
import HandS.WordsExc
import HandS.CallSlots
import HandS.Wide
import HandS.Gcd
import HandS.IsInst
import HandS.Walk
import HandS.Deep
import HandS.TupAny
import HandS.FStr
import HandS.Zip
import HandS.Rev
import HandS.Codes
import HandS.SortInts
import HandS.Style
import KE.KMathG
import PyProof.StrBlock2
import KE.KSortedM
import HandS.ExcField
import HandS.Defaults
import HandS.Head0
import HandS.Head1
import HandS.Head2
import HandS.HeadEnd
import HandS.HeadHook1
import HandS.HeadHook2
import HandS.ExcIs
import KE.KExcIs
import HandS.EndBits
import HandS.Head3
import PySem.Challenge.RW_fineststep_k00_exact_numbers
import KE.KIntText
import KE.IntTextText
import PyProof.Rows.StrFromFirst
set_option Elab.async false
set_option linter.all false
set_option maxRecDepth 100000
/-! Px0: data, what stands for it in a heap, and what a computation gives. -/
namespace PX
open PySem PySem.Spec PyProof.Rows L2

/-- pure data -/
inductive D where
  | non | bl (b : Bool) | int (i : Int) | str (s : Str) | ty (n : String)
  | tup (ds : List D) | lst (ds : List D) | scr (ns : List Int)
  | dct (kvs : List (Key × D)) | obj (c : Str) (fs : List (Str × D))

/-- a mutable thing that one slot alone holds -/
inductive OD where
  | lst (ds : List D) | dct (kvs : List (Key × D)) | obj (c : Str) (fs : List (Str × D))
def OD.d : OD → D
  | .lst ds => .lst ds | .dct kvs => .dct kvs | .obj c fs => .obj c fs

/-- a value: shared for good, or new and held by nobody else -/
inductive EV where
  | fz (d : D) | fr (o : OD)
def EV.d : EV → D
  | .fz d => d | .fr o => o.d

/-- what a computation gives: a value, an exception of an own class with its fields, or nothing that is known -/
inductive R (α : Type) where
  | ok (a : α) | ex (c : Str) (fs : List (Str × D)) | st
def R.bind {α β : Type} : R α → (α → R β) → R β
  | .ok a, f => f a
  | .ex c fs, _ => .ex c fs
  | .st, _ => .st
def R.map {α β : Type} (f : α → β) : R α → R β
  | .ok a => .ok (f a)
  | .ex c fs => .ex c fs
  | .st => .st
/-- where no exception may be -/
def R.nox {α : Type} : R α → R α
  | .ok a => .ok a
  | _ => .st
instance : Monad R where
  pure := .ok
  bind := R.bind
@[simp] theorem R.bind_ok {α β : Type} (a : α) (f : α → R β) : R.bind (.ok a) f = f a := rfl
@[simp] theorem R.bind_ex {α β : Type} (c fs) (f : α → R β) : R.bind (.ex c fs) f = .ex c fs := rfl
@[simp] theorem R.bind_st {α β : Type} (f : α → R β) : R.bind .st f = .st := rfl
@[simp] theorem R.bind_eq {α β : Type} (x : R α) (f : α → R β) : (x >>= f) = R.bind x f := rfl
@[simp] theorem R.pure_eq {α : Type} (a : α) : (pure a : R α) = .ok a := rfl
@[simp] theorem R.map_ok {α β : Type} (f : α → β) (a : α) : R.map f (.ok a) = .ok (f a) := rfl
@[simp] theorem R.map_ex {α β : Type} (f : α → β) (c fs) : R.map f (.ex c fs) = .ex c fs := rfl
@[simp] theorem R.map_st {α β : Type} (f : α → β) : R.map f .st = .st := rfl
@[simp] theorem R.nox_ok {α : Type} (a : α) : R.nox (.ok a) = .ok a := rfl
@[simp] theorem R.nox_ex {α : Type} (c fs) : R.nox (.ex c fs : R α) = .st := rfl
@[simp] theorem R.nox_st {α : Type} : R.nox (.st : R α) = .st := rfl
@[simp] theorem EV.d_fz (d : D) : (EV.fz d).d = d := rfl
@[simp] theorem EV.d_fr (o : OD) : (EV.fr o).d = o.d := rfl
@[simp] theorem OD.d_lst (ds : List D) : (OD.lst ds).d = .lst ds := rfl
@[simp] theorem OD.d_obj (c fs) : (OD.obj c fs).d = .obj c fs := rfl
@[simp] theorem OD.d_dct (k) : (OD.dct k).d = .dct k := rfl

/-- where the written part stands, what the module's names hold -/
structure Md where
  K : PySem.W.Frag
  mg : Str → Option Value
  P : Program
  w : World
  base : Heap
  /-- the exception that is being handled: its address, its class, its own dict -/
  x : Option (Addr × Addr × Option Addr)
/-- the class with this name -/
def Md.cls (M : Md) (c : Str) (C : Addr) : Prop := M.mg c = some (.ref C)

mutual
/-- v stands for d in the heap G -/
def Rep (M : Md) (G : Hp) : D → V → Prop
  | .non, v => v = .non
  | .bl b, v => v = .bl b
  | .int i, v => v = .int i
  | .str s, v => v = .str s
  | .ty n, v => v = .ty n
  | .tup ds, v => ∃ a vs, v = .ref a ∧ SqT M.K G a vs ∧ Reps M G ds vs
  | .lst ds, v => ∃ a vs, v = .ref a ∧ G a = some (.lst vs) ∧ Reps M G ds vs
  | .scr ns, v => ∃ a, v = .ref a ∧ SqL M.K G a (ns.map V.int)
  | .dct kvs, v => ∃ a ws, v = .ref a ∧ G a = some (.dK ws) ∧ RepK M G kvs ws
  | .obj c fs, v => ∃ a C dx ws, v = .ref a ∧ M.cls c C ∧ G a = some (.ins C dx ws) ∧ G dx = some (.own a) ∧ RepF M G fs ws
def Reps (M : Md) (G : Hp) : List D → List V → Prop
  | [], vs => vs = []
  | d :: ds, vs => ∃ v r, vs = v :: r ∧ Rep M G d v ∧ Reps M G ds r
def RepK (M : Md) (G : Hp) : List (Key × D) → List (Key × V) → Prop
  | [], vs => vs = []
  | (k, d) :: ds, vs => ∃ v r, vs = (k, v) :: r ∧ Rep M G d v ∧ RepK M G ds r
def RepF (M : Md) (G : Hp) : List (Str × D) → List (Str × V) → Prop
  | [], vs => vs = []
  | (k, d) :: ds, vs => ∃ v r, vs = (k, v) :: r ∧ Rep M G d v ∧ RepF M G ds r
end

theorem Same.seqT {K : PySem.W.Frag} {H H' : Hp} {a : Addr} {xs : List V} (e : Same H H') (h : SqT K H a xs) : SqT K H' a xs := by
  rcases h with (h | ⟨o, h⟩) | h
  · exact .inl (.inl (e _ _ h))
  · exact .inl (.inr ⟨o, e _ _ h⟩)
  · exact .inr h

mutual
theorem Rep.mono {M : Md} {G G' : Hp} (s : Same G G') : ∀ (d : D) (v : V), Rep M G d v → Rep M G' d v
  | .non, _, h => h
  | .bl _, _, h => h
  | .int _, _, h => h
  | .str _, _, h => h
  | .ty _, _, h => h
  | .tup ds, v, h => by
    unfold Rep at h ⊢
    obtain ⟨a, vs, e, q, r⟩ := h
    exact ⟨a, vs, e, Same.seqT s q, Reps.mono s ds vs r⟩
  | .lst ds, v, h => by
    unfold Rep at h ⊢
    obtain ⟨a, vs, e, q, r⟩ := h
    exact ⟨a, vs, e, s _ _ q, Reps.mono s ds vs r⟩
  | .scr ns, v, h => by
    unfold Rep at h ⊢
    obtain ⟨a, e, q⟩ := h
    exact ⟨a, e, s.seq q⟩
  | .dct kvs, v, h => by
    unfold Rep at h ⊢
    obtain ⟨a, ws, e, q, r⟩ := h
    exact ⟨a, ws, e, s _ _ q, RepK.mono s kvs ws r⟩
  | .obj c fs, v, h => by
    unfold Rep at h ⊢
    obtain ⟨a, C, dx, ws, e, k, q, q2, r⟩ := h
    exact ⟨a, C, dx, ws, e, k, s _ _ q, s _ _ q2, RepF.mono s fs ws r⟩
theorem Reps.mono {M : Md} {G G' : Hp} (s : Same G G') : ∀ (d : List D) (v : List V), Reps M G d v → Reps M G' d v
  | [], _, h => by unfold Reps at h ⊢; exact h
  | d :: ds, vs, h => by
    unfold Reps at h ⊢
    obtain ⟨v, r, e, h1, h2⟩ := h
    exact ⟨v, r, e, Rep.mono s d v h1, Reps.mono s ds r h2⟩
theorem RepK.mono {M : Md} {G G' : Hp} (s : Same G G') : ∀ (d : List (Key × D)) (v : List (Key × V)), RepK M G d v → RepK M G' d v
  | [], _, h => by unfold RepK at h ⊢; exact h
  | (k, d) :: ds, vs, h => by
    unfold RepK at h ⊢
    obtain ⟨v, r, e, h1, h2⟩ := h
    exact ⟨v, r, e, Rep.mono s d v h1, RepK.mono s ds r h2⟩
theorem RepF.mono {M : Md} {G G' : Hp} (s : Same G G') : ∀ (d : List (Str × D)) (v : List (Str × V)), RepF M G d v → RepF M G' d v
  | [], _, h => by unfold RepF at h ⊢; exact h
  | (k, d) :: ds, vs, h => by
    unfold RepF at h ⊢
    obtain ⟨v, r, e, h1, h2⟩ := h
    exact ⟨v, r, e, Rep.mono s d v h1, RepF.mono s ds r h2⟩
end

/-- what stands at an address for an owned thing, new since B -/
def RepO (M : Md) (B G H : Hp) (p : Addr) : OD → Prop
  | .lst ds => ∃ vs, H p = some (.lst vs) ∧ Reps M G ds vs
  | .dct kvs => ∃ ws, H p = some (.dK ws) ∧ RepK M G kvs ws
  | .obj c fs => ∃ C dx ws, M.cls c C ∧ H p = some (.ins C dx ws) ∧ H dx = some (.own p) ∧ G dx = none ∧ B dx = none ∧ RepF M G fs ws
theorem RepO.mono {M : Md} {B G G' H H' : Hp} {p : Addr} (s : Same G G') (t : Same H H') (nw : ∀ a, H a ≠ none → G a = none → G' a = none) : ∀ (o : OD), RepO M B G H p o → RepO M B G' H' p o
  | .lst ds, ⟨vs, h1, h2⟩ => ⟨vs, t _ _ h1, Reps.mono s _ _ h2⟩
  | .dct ds, ⟨vs, h1, h2⟩ => ⟨vs, t _ _ h1, RepK.mono s _ _ h2⟩
  | .obj c fs, ⟨C, dx, ws, k, h1, h2, h3, hb, h4⟩ => ⟨C, dx, ws, k, t _ _ h1, t _ _ h2, nw _ (by rw [h2]; exact fun z => nomatch z) h3, hb, RepF.mono s _ _ h4⟩
theorem RepO.base {M : Md} {B B' G H : Hp} {p : Addr} (s : Same B' B) : ∀ (o : OD), RepO M B G H p o → RepO M B' G H p o
  | .lst ds, h => h
  | .dct ds, h => h
  | .obj c fs, ⟨C, dx, ws, k, h1, h2, h3, hb, h4⟩ => ⟨C, dx, ws, k, h1, h2, h3, s.free hb, h4⟩

/-- the frozen part G within the heap H, and what comes later -/
structure Ext (G H G' H' : Hp) : Prop where
  g : Same G G'
  h : Same H H'
  i : Same G' H'
  n : ∀ a, H a ≠ none → G a = none → G' a = none
theorem Ext.refl {G H : Hp} (s : Same G H) : Ext G H G H := ⟨Same.refl _, Same.refl _, s, fun _ _ z => z⟩
theorem Ext.trans {G H G1 H1 G2 H2 : Hp} (a : Ext G H G1 H1) (b : Ext G1 H1 G2 H2) : Ext G H G2 H2 :=
  ⟨a.g.trans b.g, a.h.trans b.h, b.i, fun x h g => b.n x (by
    intro z
    cases q : H x with
    | none => exact h q
    | some o => rw [a.h x o q] at z; cases z) (a.n x h g)⟩
theorem Ext.sub {G H G' H' : Hp} (a : Ext G H G' H') {p : Addr} (h : H' p = none) : H p = none := a.h.free h

theorem upd_sameOf {H : Hp} {p : Addr} {o : HO} (h : H p = none) : Same H (upd H p o) := fun b x e => by
  rw [upd_ne (ne_of_none e h)]
  exact e
/-- a new thing, frozen at once -/
theorem Ext.both {G H : Hp} (s : Same G H) {p : Addr} (o : HO) (h : H p = none) : Ext G H (upd G p o) (upd H p o) := by
  have hg : G p = none := s.free h
  refine ⟨upd_sameOf hg, upd_sameOf h, fun b x e => ?_, fun a ha hga => ?_⟩
  · by_cases hb : b = p
    · subst hb; rw [upd_same] at e ⊢; exact e
    · rw [upd_ne hb] at e ⊢; exact s _ _ e
  · have : a ≠ p := fun z => ha (z ▸ h)
    rw [upd_ne this]; exact hga
/-- a new thing, not frozen -/
theorem Ext.one {G H : Hp} (s : Same G H) {p : Addr} (o : HO) (h : H p = none) : Ext G H G (upd H p o) :=
  ⟨Same.refl _, upd_sameOf h, s.trans (upd_sameOf h), fun _ _ z => z⟩
/-- what is held by nobody is frozen -/
theorem Ext.freeze {G H : Hp} (s : Same G H) {p : Addr} {o : HO} (hg : G p = none) (h : H p = some o) : Same G (upd G p o) ∧ Same (upd G p o) H := by
  refine ⟨upd_sameOf hg, fun b x e => ?_⟩
  by_cases hb : b = p
  · subst hb; rw [upd_same] at e; cases e; exact h
  · rw [upd_ne hb] at e; exact s _ _ e
end PX

set_option Elab.async false
set_option linter.all false
set_option maxRecDepth 100000
/-! Px1: the small syntax, its check against the program's own syntax, its evaluation on pure data. -/
namespace PX
open PySem PySem.Spec PyProof.Rows L2

/-! ### syntax -/
inductive ItK where
  | val | rng | rng2 | zip | enm | rev
  deriving DecidableEq
inductive Tg where
  | nm (i : Nat) | tp (is : List Nat)
  deriving DecidableEq
inductive Bi where
  | len | abs | int | str | gcd | lcm | list | tuple | isI | min | max | sum | sorted | all | any
  deriving DecidableEq
inductive Me where
  | part | split | join | index
  deriving DecidableEq
inductive E where
  | var (i : Nat) | non | bl (b : Bool) | int (i : Int) | str (s : Str) | glb (x : Str) | tyn (x : Str) (T : String)
  | bin (op : Operator) (a b : E) | neg (a : E) | nt (a : E)
  | cmp (op : CmpOp) (a b : E)
  | and (a b : E) | or (a b : E) | ite (c a b : E)
  | call (f : Str) (as : List E) | bi (f : Bi) (as : List E) | me (m : Me) (o : E) (as : List E)
  | ix (a b : E) | sl (a lo hi : E)
  | tup (es : List E) | ls (es : List E) | lc (own : List Nat) (tg : Tg) (k : ItK) (as ifs : List E) (el : E)
  | fst (ps : List E) | fld (o : E) (f : Str) | isE (i : Nat) (C : Str) | exf (i : Nat) (f : Str)
inductive S where
  | asg (tg : Tg) (e : E) (us : List Nat)
  | par (i j : Nat) (a b : E) (us : List Nat)
  | aug (i : Nat) (op : Operator) (e : E) (us : List Nat)
  | stix (i : Nat) (ix e : E) (us : List Nat)
  | app (i : Nat) (e : E) (us : List Nat)
  | expr (e : E) (us : List Nat)
  | iff (c : E) (a b : List S) (us : List Nat)
  | whl (c : E) (b : List S) (us : List Nat)
  | for (tg : Tg) (k : ItK) (as : List E) (b : List S) (us : List Nat)
  | ret (e : E) (us : List Nat) | retv (i : Nat) | retN | brk | cont | pass
  | rais (c : Str) (as : List E) (fs : List Str) (us : List Nat)
  | tri (b : List S) (c : Str) (nm : Option Nat) (h : List S)

/-! ### operations on data -/
def smallD : D → Bool
  | .lst ds => decide (ds.length ≤ sizeLine)
  | .tup ds => decide (ds.length ≤ sizeLine)
  | _ => true
mutual
/-- no list, dict or object in it -/
def D.lf : D → Bool
  | .tup ds => D.lfs ds
  | .lst _ => false | .dct _ => false | .obj _ _ => false | .scr _ => false
  | _ => true
def D.lfs : List D → Bool
  | [] => true
  | d :: ds => D.lf d && D.lfs ds
end
def EV.lf : EV → Bool
  | .fz d => d.lf
  | .fr (.lst ds) => D.lfs ds
  | _ => false
mutual
def D.py : D → Option PyData
  | .non => some .none
  | .bl b => some (.bool b)
  | .int i => some (.int i)
  | .str s => some (.str s)
  | .tup ds => (D.pys ds).map .tuple
  | .lst ds => (D.pys ds).map .list
  | .scr ns => some (.list (ns.map .int))
  | _ => none
def D.pys : List D → Option (List PyData)
  | [] => some []
  | d :: ds => match D.py d, D.pys ds with
    | some p, some ps => some (p :: ps)
    | _, _ => none
end
def opEq (neg : Bool) (d e : D) : R Bool :=
  match d, e with
  | .int i, .int j => .ok (if neg then !decide (i = j) else decide (i = j))
  | .str i, .str j => .ok (if neg then !decide (i = j) else decide (i = j))
  | d, e => match d.py, e.py with
    | some p, some q => if SeqAt.shaped p = true ∧ SeqAt.shaped q = true then .ok (if neg then !PyData.eqv p q else PyData.eqv p q) else .st
    | _, _ => .st
def D.isNon : D → Bool
  | .non => true
  | _ => false
def D.isBl (b : Bool) : D → Bool
  | .bl c => decide (c = b)
  | _ => false
def opIs (d e : D) : R Bool :=
  match e with
  | .non => .ok d.isNon
  | .bl b => .ok (d.isBl b)
  | _ => .st
def opIn (d e : D) : R Bool :=
  match d, e with
  | .str x, .str z => if x.cps.size = 1 then .ok (decide (x.cps.getD 0 0 ∈ z.cps.toList)) else .st
  | d, .lst es => match d.py, D.pys es with
    | some p, some qs => if SeqAt.shaped p = true ∧ SeqAt.shaped (.list qs) = true then .ok (qs.any fun z => PyData.eqv z p) else .st
    | _, _ => .st
  | _, _ => .st
def opI2 (f : Int → Int → Bool) (d e : D) : R Bool :=
  match d, e with
  | .int i, .int j => .ok (f i j)
  | _, _ => .st
def opCmp (op : CmpOp) (d e : D) : R Bool :=
  match op with
  | .Eq => opEq false d e
  | .NotEq => opEq true d e
  | .Lt => opI2 (fun i j => decide (i < j)) d e
  | .LtE => opI2 (fun i j => decide (i ≤ j)) d e
  | .Gt => opI2 (fun i j => decide (j < i)) d e
  | .GtE => opI2 (fun i j => decide (j ≤ i)) d e
  | .Is => opIs d e
  | .IsNot => (opIs d e).map (!·)
  | .In => opIn d e
  | .NotIn => (opIn d e).map (!·)
def lgI (i : Int) : Nat := i.natAbs.log2
def mulLine : Nat := 100000000
def divLine : Nat := 9000
def opBin (op : Operator) (d e : D) : R EV :=
  match op, d, e with
  | .Add, .int i, .int j => .ok (.fz (.int (i + j)))
  | .Add, .str i, .str j => if i.length + j.length ≤ sizeLine then .ok (.fz (.str (i ++ j))) else .st
  | .Add, .lst xs, .lst ys => if xs.length + ys.length ≤ sizeLine then .ok (.fr (.lst (xs ++ ys))) else .st
  | .Add, .tup xs, .tup ys => if xs.length + ys.length ≤ sizeLine then .ok (.fz (.tup (xs ++ ys))) else .st
  | .Sub, .int i, .int j => .ok (.fz (.int (i - j)))
  | .Mult, .int i, .int j => if lgI i + lgI j < mulLine then .ok (.fz (.int (i * j))) else .st
  | .Mult, .str z, .int k => if 1 ≤ k ∧ k ≤ 4000 ∧ z.length ≤ 4000 then .ok (.fz (.str (Txt.mul z k))) else .st
  | .Mult, .lst xs, .int k => if k < 2 ^ 63 ∧ -(2 ^ 63) ≤ k ∧ xs.length * k.toNat ≤ sizeLine then .ok (.fr (.lst (List.replicate k.toNat xs).flatten)) else .st
  | .FloorDiv, .int i, .int j => if j ≠ 0 ∧ lgI j < divLine then .ok (.fz (.int (i.fdiv j))) else .st
  | .Mod, .int i, .int j => if j ≠ 0 then .ok (.fz (.int (i.fmod j))) else .st
  | .Pow, .int i, .int j => if 0 ≤ j ∧ j ≤ 1000000 ∧ i.natAbs < 2 ^ 64 then .ok (.fz (.int (i ^ j.toNat))) else .st
  | _, _, _ => .st
def tyName : D → Option String
  | .non => some "NoneType" | .bl _ => some "bool" | .int _ => some "int" | .str _ => some "str"
  | .tup _ => some "tuple" | .lst _ => some "list" | .scr _ => some "list" | .dct _ => some "dict"
  | _ => none
def asInts : List D → Option (List Int)
  | [] => some []
  | .int i :: r => (asInts r).map (i :: ·)
  | _ => none
def asBools : List D → Option (List Bool)
  | [] => some []
  | .bl i :: r => (asBools r).map (i :: ·)
  | _ => none
def asStrs : List D → Option (List Str)
  | [] => some []
  | .str i :: r => (asStrs r).map (i :: ·)
  | _ => none
def maxL : List Int → Option Int
  | [] => none
  | x :: r => some (r.foldl (fun a b => if a < b then b else a) x)
def minL : List Int → Option Int
  | [] => none
  | x :: r => some (r.foldl (fun a b => if b < a then b else a) x)
def evBi (f : Bi) (ds : List D) : R EV :=
  match f, ds with
  | .len, [.lst xs] => .ok (.fz (.int xs.length))
  | .len, [.tup xs] => .ok (.fz (.int xs.length))
  | .len, [.scr xs] => .ok (.fz (.int xs.length))
  | .len, [.str z] => if z.length ≤ sizeLine then .ok (.fz (.int z.length)) else .st
  | .abs, [.int i] => .ok (.fz (.int (if i < 0 then -i else i)))
  | .int, [.int i] => .ok (.fz (.int i))
  | .int, [.bl k] => .ok (.fz (.int (if k then 1 else 0)))
  | .int, [.str z] => match PySem.intText? z with
    | some n => if z.length ≤ 640 then .ok (.fz (.int n)) else .st
    | none => .st
  | .str, [.int i] => if lgI i < 1920 then .ok (.fz (.str (toString i))) else .st
  | .gcd, [.int a, .int b] => .ok (.fz (.int ((Nat.gcd a.natAbs b.natAbs : Nat) : Int)))
  | .lcm, [.int a, .int b] => if a.natAbs < 2 ^ 64 ∧ b.natAbs < 2 ^ 64 then .ok (.fz (.int ((Nat.lcm a.natAbs b.natAbs : Nat) : Int))) else .st
  | .list, [.lst xs] => .ok (.fr (.lst xs))
  | .list, [.tup xs] => .ok (.fr (.lst xs))
  | .list, [.scr xs] => .ok (.fr (.lst (xs.map .int)))
  | .tuple, [.lst xs] => .ok (.fz (.tup xs))
  | .tuple, [.tup xs] => .ok (.fz (.tup xs))
  | .isI, [d, .ty T] => match tyName d with
    | some t => match kitB t T with
      | some b => .ok (.fz (.bl b))
      | none => .st
    | none => .st
  | .max, [.int i, .int j] => .ok (.fz (.int (if j > i then j else i)))
  | .min, [.int i, .int j] => .ok (.fz (.int (if j < i then j else i)))
  | .max, [.lst xs] => match asInts xs with
    | some ns => match maxL ns with
      | some m => .ok (.fz (.int m))
      | none => .st
    | none => .st
  | .min, [.lst xs] => match asInts xs with
    | some ns => match minL ns with
      | some m => .ok (.fz (.int m))
      | none => .st
    | none => .st
  | .sum, [.lst xs] => match asInts xs with
    | some ns => .ok (.fz (.int ns.sum))
    | none => .st
  | .sorted, [.lst xs] => match asInts xs with
    | some ns => .ok (.fr (.lst ((ns.mergeSort (fun a b => decide (a ≤ b))).map .int)))
    | none => .st
  | .all, [.lst xs] => match asBools xs with
    | some ns => .ok (.fz (.bl (ns.all id)))
    | none => .st
  | .any, [.lst xs] => match asBools xs with
    | some ns => .ok (.fz (.bl (ns.any id)))
    | none => .st
  | _, _ => .st
def evMe (m : Me) (a : Str) (ds : List D) : R EV :=
  match m, ds with
  | .part, [.str b] => if b.length ≠ 0 ∧ a.length ≤ sizeLine then .ok (.fz (.tup [.str (Txt.partition a b).1, .str (Txt.partition a b).2.1, .str (Txt.partition a b).2.2])) else .st
  | .split, [.str b] => if b.length ≠ 0 ∧ a.length + 2 ≤ sizeLine then .ok (.fr (.lst ((Txt.split a b).map .str))) else .st
  | .join, [.lst xs] => match asStrs xs with
    | some ys => if (ys.map (·.length)).sum + ys.length * a.length ≤ 16777216 then .ok (.fz (.str (Txt.join a ys))) else .st
    | none => .st
  | _, _ => .st
def opIx (d i : D) : R EV :=
  match d, i with
  | .lst xs, .int i => match atI xs i with | some x => .ok (.fz x) | none => .st
  | .tup xs, .int i => match atI xs i with | some x => .ok (.fz x) | none => .st
  | .scr xs, .int i => match atI xs i with | some x => .ok (.fz (.int x)) | none => .st
  | .str z, .int i => if z.length ≤ sizeLine then (match atI z.cps.toList i with | some c => .ok (.fz (.str ⟨#[c]⟩)) | none => .st) else .st
  | _, _ => .st
/-- a bound of a slice -/
def slB : D → R (Option Int)
  | .int i => .ok (some i)
  | _ => .st
def E.non? : E → Bool
  | .non => true
  | _ => false
def cutD (xs : List D) (lo hi : Option Int) : List D := (xs.drop (HT.sIx xs.length 0 lo)).take (HT.sIx xs.length xs.length hi - HT.sIx xs.length 0 lo)
def opSl (d : D) (lo hi : Option Int) : R EV :=
  match d with
  | .lst xs => .ok (.fr (.lst (cutD xs lo hi)))
  | .tup xs => .ok (.fz (.tup (cutD xs lo hi)))
  | .str z => if z.length ≤ sizeLine then .ok (.fz (.str (cutS z lo hi))) else .st
  | _ => .st
/-- the items that a walk gives -/
def itVal : List D → R (List D)
  | [.lst xs] => .ok xs
  | [.tup xs] => .ok xs
  | [.str z] => .ok (z.cps.toList.map fun c => .str ⟨#[c]⟩)
  | _ => .st
def itRng : List D → R (List D)
  | [.int n] => if n < 2 ^ 62 ∧ -(2 ^ 62) ≤ n then .ok ((List.range n.toNat).map fun (i : Nat) => D.int (0 + (i : Int))) else .st
  | _ => .st
def itRng2 : List D → R (List D)
  | [.int m, .int n] => if n < 2 ^ 62 ∧ -(2 ^ 62) ≤ n ∧ m < 2 ^ 62 ∧ -(2 ^ 62) ≤ m then .ok ((List.range (n - m).toNat).map fun (i : Nat) => D.int (m + (i : Int))) else .st
  | _ => .st
def itZip : List D → R (List D)
  | [.lst xs, .lst ys] => .ok ((xs.zip ys).map fun p => .tup [p.1, p.2])
  | [.tup xs, .tup ys] => .ok ((xs.zip ys).map fun p => .tup [p.1, p.2])
  | _ => .st
def itEnm : List D → R (List D)
  | [.lst xs] => .ok (xs.zipIdx.map fun p => .tup [.int (p.2 : Nat), p.1])
  | _ => .st
def itRev : List D → R (List D)
  | [.lst xs] => .ok xs.reverse
  | [.tup xs] => .ok xs.reverse
  | _ => .st
def itemsOf : ItK → List D → R (List D)
  | .val => itVal
  | .rng => itRng
  | .rng2 => itRng2
  | .zip => itZip
  | .enm => itEnm
  | .rev => itRev
def asBool : EV → R Bool
  | .fz (.bl b) => .ok b
  | _ => .st
/-- the text of an f-string's part -/
def strOf : D → Option Str
  | .str s => if s.length ≤ sizeLine then some s else none
  | .int i => if lgI i < 1920 then some (toString i : Str) else none
  | _ => none

/-! ### evaluation -/
inductive Sl where
  | un | fz (d : D) | ow (o : OD) | xc (c : Str) (fs : List (Str × D))
abbrev Rho := List Sl
structure Tb where
  call : Str → List D → R EV
  cst : Str → Option D
  /-- is the one exception class below the other one -/
  sub : Str → Str → Option Bool
  /-- is this a class whose instances' fields are read -/
  oc : Str → Bool
  fuel : Nat
/-- the slots of a comprehension's own names forgotten -/
def wipeS (ρ : Rho) : List Nat → Rho
  | [] => ρ
  | v :: vs => (wipeS ρ vs).set v .un
def bindTp : List Nat → List D → Rho → R Rho
  | [], [], ρ => .ok ρ
  | i :: is, d :: ds, ρ => bindTp is ds (ρ.set i (.fz d))
  | _, _, _ => .st
/-- a frozen value is stored -/
def bindT (tg : Tg) (d : D) (ρ : Rho) : R Rho :=
  match tg with
  | .nm i => .ok (ρ.set i (.fz d))
  | .tp is => match d with
    | .tup ds => bindTp is ds ρ
    | .lst ds => bindTp is ds ρ
    | _ => .st
/-- a value is stored -/
def bindE (tg : Tg) (v : EV) (ρ : Rho) : R Rho :=
  match tg, v with
  | .nm i, .fr o => .ok (ρ.set i (.ow o))
  | tg, v => bindT tg v.d ρ
def lcGo (tg : Tg) (ts : Rho → R Bool) (el : Rho → R EV) (ρ : Rho) : List D → R (List D)
  | [] => .ok []
  | d :: ds => (bindT tg d ρ).bind fun ρ1 => (ts ρ1).bind fun b =>
    if b = true then (el ρ1).bind fun v => (lcGo tg ts el ρ ds).map (v.d :: ·) else lcGo tg ts el ρ ds
mutual
def evE (T : Tb) (ρ : Rho) : E → R EV
  | .var i => match ρ[i]? with
    | some (.fz d) => .ok (.fz d)
    | _ => .st
  | .non => .ok (.fz .non)
  | .bl b => .ok (.fz (.bl b))
  | .int i => .ok (.fz (.int i))
  | .str s => .ok (.fz (.str s))
  | .glb x => match T.cst x with
    | some d => .ok (.fz d)
    | none => .st
  | .tyn _ t => .ok (.fz (.ty t))
  | .bin op a b => (evE T ρ a).bind fun x => (evE T ρ b).bind fun y => opBin op x.d y.d
  | .neg a => (evE T ρ a).bind fun x => match x.d with
    | .int i => .ok (.fz (.int (-i)))
    | _ => .st
  | .nt a => (evE T ρ a).bind fun x => (asBool x).map fun b => .fz (.bl (!b))
  | .cmp op a b => (evE T ρ a).bind fun x => (evE T ρ b).bind fun y => (opCmp op x.d y.d).map fun b => .fz (.bl b)
  | .and a b => (evE T ρ a).bind fun x => (asBool x).bind fun c => if c = true then evE T ρ b else .ok (.fz (.bl false))
  | .or a b => (evE T ρ a).bind fun x => (asBool x).bind fun c => if c = true then .ok (.fz (.bl true)) else evE T ρ b
  | .ite c a b => (evE T ρ c).bind fun x => (asBool x).bind fun c => if c = true then evE T ρ a else evE T ρ b
  | .call f as => (evL T ρ as).bind fun ds => T.call f ds
  | .bi f as => (evL T ρ as).bind fun ds => evBi f ds
  | .me m o as => (evE T ρ o).bind fun x => match x.d with
    | .str a => (evL T ρ as).bind fun ds => evMe m a ds
    | _ => .st
  | .ix a b => (evE T ρ a).bind fun x => (evE T ρ b).bind fun y => opIx x.d y.d
  | .sl a lo hi => (evE T ρ a).bind fun x => (if lo.non? = true then .ok none else (evE T ρ lo).bind fun l => slB l.d).bind fun l => (if hi.non? = true then .ok none else (evE T ρ hi).bind fun h => slB h.d).bind fun h => opSl x.d l h
  | .tup es => (evL T ρ es).bind fun ds => if ds.length ≤ sizeLine then .ok (.fz (.tup ds)) else .st
  | .ls es => (evL T ρ es).bind fun ds => if ds.length ≤ sizeLine then .ok (.fr (.lst ds)) else .st
  | .lc own tg k as ifs el => (evL T ρ as).bind fun ds => (itemsOf k ds).bind fun xs =>
      if xs.length ≤ sizeLine then
        (lcGo tg (fun ρ1 => evT T ρ1 ifs) (fun ρ1 => evE T ρ1 el) (wipeS ρ own) xs).nox.map fun ys => .fr (.lst ys)
      else .st
  | .fst ps => (evJ T ρ ps Str.empty).map fun s => .fz (.str s)
  | .fld o f => (evE T ρ o).bind fun x => match x.d with
    | .obj cl fs => match fs.lookup f, T.oc cl with
      | some d, true => .ok (.fz d)
      | _, _ => .st
    | _ => .st
  | .isE i C => match ρ[i]? with
    | some (.xc c _) => match T.sub c C with
      | some b => .ok (.fz (.bl b))
      | none => .st
    | _ => .st
  | .exf i f => match ρ[i]? with
    | some (.xc c fs) => match fs.lookup f, T.sub c c with
      | some d, some _ => .ok (.fz d)
      | _, _ => .st
    | _ => .st
def evL (T : Tb) (ρ : Rho) : List E → R (List D)
  | [] => .ok []
  | e :: es => (evE T ρ e).bind fun x => (evL T ρ es).map (x.d :: ·)
/-- the parts of an f-string -/
def evJ (T : Tb) (ρ : Rho) : List E → Str → R Str
  | [], acc => .ok acc
  | e :: es, acc => (evE T ρ e).bind fun x => match strOf x.d with
    | some y => if (acc ++ y).length ≤ sizeLine then evJ T ρ es (acc ++ y) else .st
    | none => .st
/-- a comprehension's tests -/
def evT (T : Tb) (ρ : Rho) : List E → R Bool
  | [] => .ok true
  | e :: es => (evE T ρ e).bind fun x => (asBool x).bind fun b => if b = true then evT T ρ es else .ok false
end

/-- the owned things among these slots are shared from now on -/
def frzS (ρ : Rho) : List Nat → Rho
  | [] => ρ
  | i :: is => match (frzS ρ is)[i]? with
    | some (.ow o) => (frzS ρ is).set i (.fz o.d)
    | _ => frzS ρ is
def anyOw (ρ : Rho) (us : List Nat) : Bool := us.any fun i => match ρ[i]? with | some (.ow _) => true | _ => false
/-- how a statement ends -/
inductive Fl where
  | nx (ρ : Rho) | rt (v : EV) | bk (ρ : Rho) | ct (ρ : Rho)
inductive RS where
  | ok (f : Fl) | ex (c : Str) (fs : List (Str × D)) (ρ : Rho) | st
/-- an end taken up by a statement -/
def R.on {α : Type} (x : R α) (ρ : Rho) (f : α → RS) : RS :=
  match x with
  | .ok a => f a
  | .ex c fs => .ex c fs ρ
  | .st => .st
/-- an expression's value and the slots behind it: what is owned among us stays so if the value cannot reach it -/
def evX (T : Tb) (ρ : Rho) (us : List Nat) (e : E) (f : EV → Rho → RS) : RS :=
  if anyOw ρ us = true then (evE T (frzS ρ us) e).on (frzS ρ us) fun v => if v.lf = true then f v ρ else f v (frzS ρ us)
  else (evE T ρ e).on ρ fun v => f v ρ
/-- a test -/
def evXB (T : Tb) (ρ : Rho) (us : List Nat) (e : E) (f : Bool → RS) : RS := ((evE T (frzS ρ us) e).bind asBool).on (frzS ρ us) f
/-- a list of expressions -/
def evXL (T : Tb) (ρ : Rho) (us : List Nat) (es : List E) (f : List D → Rho → RS) : RS :=
  if anyOw ρ us = true then (evL T (frzS ρ us) es).on (frzS ρ us) fun v => if D.lfs v = true then f v ρ else f v (frzS ρ us)
  else (evL T ρ es).on ρ fun v => f v ρ
def RS.then (x : RS) (f : Rho → RS) : RS :=
  match x with
  | .ok (.nx ρ) => f ρ
  | y => y
/-- the turn of a loop: go on with f, or leave -/
def RS.turn (x : RS) (f : Rho → RS) : RS :=
  match x with
  | .ok (.nx ρ) => f ρ
  | .ok (.ct ρ) => f ρ
  | .ok (.bk ρ) => .ok (.nx ρ)
  | y => y
@[simp] theorem R.on_ok {α} (a : α) (ρ f) : R.on (.ok a) ρ f = f a := rfl
@[simp] theorem R.on_ex {α} (c fs ρ) (f : α → RS) : R.on (.ex c fs) ρ f = .ex c fs ρ := rfl
@[simp] theorem R.on_st {α} (ρ) (f : α → RS) : R.on .st ρ f = .st := rfl
@[simp] theorem RS.then_nx (ρ f) : RS.then (.ok (.nx ρ)) f = f ρ := rfl
@[simp] theorem RS.then_rt (v f) : RS.then (.ok (.rt v)) f = .ok (.rt v) := rfl
@[simp] theorem RS.then_bk (v f) : RS.then (.ok (.bk v)) f = .ok (.bk v) := rfl
@[simp] theorem RS.then_ct (v f) : RS.then (.ok (.ct v)) f = .ok (.ct v) := rfl
@[simp] theorem RS.then_ex (c fs ρ f) : RS.then (.ex c fs ρ) f = .ex c fs ρ := rfl
@[simp] theorem RS.then_st (f) : RS.then .st f = .st := rfl
@[simp] theorem RS.turn_nx (ρ f) : RS.turn (.ok (.nx ρ)) f = f ρ := rfl
@[simp] theorem RS.turn_rt (v f) : RS.turn (.ok (.rt v)) f = .ok (.rt v) := rfl
@[simp] theorem RS.turn_bk (v f) : RS.turn (.ok (.bk v)) f = .ok (.nx v) := rfl
@[simp] theorem RS.turn_ct (v f) : RS.turn (.ok (.ct v)) f = f v := rfl
@[simp] theorem RS.turn_ex (c fs ρ f) : RS.turn (.ex c fs ρ) f = .ex c fs ρ := rfl
@[simp] theorem RS.turn_st (f) : RS.turn .st f = .st := rfl
def forGo (tg : Tg) (b : Rho → RS) : List D → Rho → RS
  | [], ρ => .ok (.nx ρ)
  | d :: ds, ρ => (bindT tg d ρ).on ρ fun ρ1 => (b ρ1).turn (forGo tg b ds)
def whileGo (c : Rho → (Bool → RS) → RS) (b : Rho → RS) : Nat → Rho → RS
  | 0, _ => .st
  | n + 1, ρ => c ρ fun k => if k = true then (b ρ).turn (whileGo c b n) else .ok (.nx ρ)
/-- the exceptions are forgotten -/
def clX (ρ : Rho) : Rho := ρ.map fun s => match s with
  | .xc _ _ => .un
  | s => s
def storeIx (o : OD) (i d : D) : R OD :=
  match o, i with
  | .lst ds, .int k => match ixN ds.length k with
    | some j => .ok (.lst (ds.set j d))
    | none => .st
  | _, _ => .st
mutual
def exec (T : Tb) : S → Rho → RS
  | .asg tg e us, ρ => evX T ρ us e fun v ρ1 => (bindE tg v ρ1).on ρ1 fun ρ2 => .ok (.nx ρ2)
  | .par i j a b us, ρ => evXL T ρ us [a, b] fun ds ρ1 => match ds with
    | [x, y] => .ok (.nx ((ρ1.set i (.fz x)).set j (.fz y)))
    | _ => .st
  | .aug i op e us, ρ => match ρ[i]? with
    | some (.fz x) => evX T ρ us e fun v ρ1 => match op, x, v.d with
      | .Add, .int a, .int b => .ok (.nx (ρ1.set i (.fz (.int (a + b)))))
      | .Sub, .int a, .int b => .ok (.nx (ρ1.set i (.fz (.int (a - b)))))
      | _, _, _ => .st
    | _ => .st
  | .stix i ix e us, ρ => match ρ[i]? with
    | some (.ow (.lst _)) => evX T ρ us e fun v ρ1 => evX T ρ1 us ix fun k ρ2 => match ρ2[i]? with
      | some (.ow o) => (storeIx o k.d v.d).on ρ2 fun o1 => .ok (.nx (ρ2.set i (.ow o1)))
      | _ => .st
    | _ => .st
  | .app i e us, ρ => match ρ[i]? with
    | some (.ow (.lst _)) => evX T ρ us e fun v ρ1 => match ρ1[i]? with
      | some (.ow (.lst ds)) => if ds.length < sizeLine then .ok (.nx (ρ1.set i (.ow (.lst (ds ++ [v.d]))))) else .st
      | _ => .st
    | _ => .st
  | .expr e us, ρ => evX T ρ us e fun _ ρ1 => .ok (.nx ρ1)
  | .iff c a b us, ρ => evXB T ρ us c fun k => if k = true then execs T a ρ else execs T b ρ
  | .whl c b us, ρ => whileGo (fun ρ f => evXB T ρ us c f) (fun ρ => execs T b ρ) T.fuel ρ
  | .for tg k as b us, ρ => evXL T ρ us as fun ds ρ1 => (itemsOf k ds).on ρ1 fun xs => forGo tg (fun ρ => execs T b ρ) xs ρ1
  | .ret e us, ρ => evX T ρ us e fun v _ => .ok (.rt v)
  | .retv i, ρ => match ρ[i]? with
    | some (.fz d) => .ok (.rt (.fz d))
    | some (.ow o) => .ok (.rt (.fr o))
    | _ => .st
  | .retN, ρ => .ok (.rt (.fz .non))
  | .brk, ρ => .ok (.bk ρ)
  | .cont, ρ => .ok (.ct ρ)
  | .pass, ρ => .ok (.nx ρ)
  | .rais c as fs us, ρ => evXL T ρ us as fun ds ρ1 => if fs.length = ds.length then .ex c (fs.zip ds) ρ1 else .st
  | .tri b c nm h, ρ => match execs T b ρ with
    | .ex cc fs ρ1 => match T.sub cc c with
      | some true => (match nm with
        | some i => (match execs T h (ρ1.set i (.xc cc fs)) with
          | .ok (.nx ρ2) => .ok (.nx (clX (ρ2.set i .un)))
          | .ok (.bk ρ2) => .ok (.bk (clX (ρ2.set i .un)))
          | .ok (.ct ρ2) => .ok (.ct (clX (ρ2.set i .un)))
          | .ok (.rt v) => .ok (.rt v)
          | _ => .st)
        | none => (match execs T h ρ1 with
          | .ok (.nx ρ2) => .ok (.nx (clX ρ2))
          | .ok (.bk ρ2) => .ok (.bk (clX ρ2))
          | .ok (.ct ρ2) => .ok (.ct (clX ρ2))
          | .ok (.rt v) => .ok (.rt v)
          | _ => .st))
      | some false => .ex cc fs ρ1
      | none => .st
    | y => y
def execs (T : Tb) : List S → Rho → RS
  | [], ρ => .ok (.nx ρ)
  | s :: ss, ρ => (exec T s ρ).then (execs T ss)
end
/-- a def called: its slots at the start, its body, what it gives -/
def startS (n : Nat) (ds : List D) : Rho := ds.map .fz ++ List.replicate (n - ds.length) .un
def evDef (T : Tb) (n k : Nat) (b : List S) (ds : List D) : R EV :=
  if ds.length = k then
    match execs T b (startS n ds) with
    | .ok (.nx _) => .ok (.fz .non)
    | .ok (.rt v) => .ok v
    | .ex c fs _ => .ex c fs
    | _ => .st
  else .st
end PX

set_option Elab.async false
set_option linter.all false
set_option maxRecDepth 100000
/-! Px2: readings chosen late, over a family of contexts; what a pure computation asks of a continuation. -/
namespace PX
open PySem PySem.Spec PyProof.Rows L2

/-! ### readings chosen late -/
section
variable (Xs : Cx → Prop)
def WP (e : Expr) : TE := fun σ H Q => ∃ t, (∀ X, Xs X → PE X e t) ∧ t σ H Q
def WT (e : Expr) : TT := fun σ H Q => ∃ t, (∀ X, Xs X → PT X e t) ∧ t σ H Q
def WW (e : Expr) : TT := fun σ H Q => ∃ t, (∀ X, Xs X → PW X e t) ∧ t σ H Q
def WA (es : List Expr) : TA := fun σ H Q => ∃ t, (∀ X, Xs X → PA X es t) ∧ t σ H Q
def WO (e : Option Expr) : TO := fun σ H Q => ∃ t, (∀ X, Xs X → PO X e t) ∧ t σ H Q
def WI (tg it : Expr) : TI := fun σ H Q => ∃ t, (∀ X, Xs X → PI X tg it t) ∧ t σ H Q
def WG (tg : Expr) : TG := fun v σ H Q => ∃ t, (∀ X, Xs X → PG X tg t) ∧ t v σ H Q
def WTs (es : List Expr) : TT := fun σ H Q => ∃ t, (∀ X, Xs X → PTs X es t) ∧ t σ H Q
def WS (e : Stmt) : TS := fun D σ H => ∃ t, (∀ X, Xs X → PS X e t) ∧ t D σ H
def WSs (e : List Stmt) : TS := fun D σ H => ∃ t, (∀ X, Xs X → PSs X e t) ∧ t D σ H
def OpW (f : Value → Value → Sem Value) : R2 := fun x y H Q => ∃ r, (∀ X, Xs X → OpR X f r) ∧ r x y H Q
def IxW : R2 := fun x y H Q => ∃ r, (∀ X, Xs X → IxR X r) ∧ r x y H Q
def UnW (f : Value → Sem Value) : V → Hp → VK → Prop := fun x H Q => ∃ r, (∀ X, Xs X → UnR X f r) ∧ r x H Q
def SlW : V → Option Int → Option Int → Hp → VK → Prop := fun x l h H Q => ∃ r, (∀ X, Xs X → SlR X r) ∧ r x l h H Q
def CallW (f : Value) : List V → Hp → VK → Prop := fun vs H Q => ∃ r, (∀ X, Xs X → CallR X f r) ∧ r vs H Q
def MtW (id : String) : V → List V → Hp → VK → Prop := fun x vs H Q => ∃ r, (∀ X, Xs X → MtR X id r) ∧ r x vs H Q
end
section
variable {Xs : Cx → Prop} {X : Cx} (hX : Xs X)
include hX
theorem pe_w {e : Expr} : PE X e (WP Xs e) := ⟨fun pins s σ H Q I ⟨t, p, h⟩ => (p X hX).run pins s σ H Q I h⟩
theorem pt_w {e : Expr} : PT X e (WT Xs e) := ⟨fun pins s σ H Q I ⟨t, p, h⟩ => (p X hX).run pins s σ H Q I h⟩
theorem pw_w {e : Expr} : PW X e (WW Xs e) := ⟨fun wh pins s σ H Q I ⟨t, p, h⟩ => (p X hX).run wh pins s σ H Q I h⟩
theorem pa_w {e : List Expr} : PA X e (WA Xs e) := ⟨fun pos pins s σ H Q I ⟨t, p, h⟩ => (p X hX).run pos pins s σ H Q I h⟩
theorem pi_w {e f : Expr} : PI X e f (WI Xs e f) := ⟨fun pins s σ H Q I ⟨t, p, h⟩ => (p X hX).run pins s σ H Q I h⟩
theorem pg_w {e : Expr} : PG X e (WG Xs e) := ⟨fun pins s σ H v u Q I r ⟨t, p, h⟩ => (p X hX).run pins s σ H v u Q I r h⟩
theorem pts_w {e : List Expr} : PTs X e (WTs Xs e) := ⟨fun pins s σ H Q I ⟨t, p, h⟩ => (p X hX).run pins s σ H Q I h⟩
theorem ps_w {e : Stmt} : PS X e (WS Xs e) := ⟨fun pins s σ H D I ⟨t, p, h⟩ => (p X hX).run pins s σ H D I h⟩
theorem pss_w {e : List Stmt} : PSs X e (WSs Xs e) := ⟨fun pins s σ H D I ⟨t, p, h⟩ => (p X hX).run pins s σ H D I h⟩
theorem op_w {f : Value → Value → Sem Value} : OpR X f (OpW Xs f) := fun pins s σ H x y v u Q I rx ry ⟨r, p, h⟩ => p X hX pins s σ H x y v u Q I rx ry h
theorem ix_w : IxR X (IxW Xs) := fun va sl pins s σ H x y v u Q I rx ry ⟨r, p, h⟩ e => p X hX va sl pins s σ H x y v u Q I rx ry h e
theorem un_w {f : Value → Sem Value} : UnR X f (UnW Xs f) := by
  intro pins s σ H x v Q I rx h
  obtain ⟨r, p, h⟩ := h
  exact p X hX pins s σ H x v Q I rx h
theorem call_w {f : Value} : CallR X f (CallW Xs f) := fun pins s σ H vs us Q I r ⟨t, p, h⟩ => p X hX pins s σ H vs us Q I r h
end
section
variable {Xs : Cx → Prop} {X : Cx} (hX : Xs X)
include hX
theorem sl_w : SlR X (SlW Xs) := by
  intro pins s σ H x v vl vu lo hi sl Q I rx h1 h2 h3 h
  obtain ⟨r, p, h⟩ := h
  exact p X hX pins s σ H x v vl vu lo hi sl Q I rx h1 h2 h3 h
theorem mt_w {id : String} : MtR X id (MtW Xs id) := by
  intro pins s σ H x xs v us Q I rx ry h
  obtain ⟨r, p, h⟩ := h
  exact p X hX pins s σ H x xs v us Q I rx ry h
theorem po_w {e : Option Expr} : PO X e (WO Xs e) := ⟨fun pins s σ H Q I ⟨t, p, h⟩ => (p X hX).run pins s σ H Q I h⟩
end
/-! ### what is asked of a continuation -/
/-- an exception of the class named c with these fields -/
def ExRep (M : Md) (G H : Hp) (c : Str) (fs : List (Str × D)) (cls : Value) (d : Option Addr) : Prop :=
  ∃ C, M.cls c C ∧ cls = .ref C ∧ ((fs = [] ∧ d = none) ∨ ∃ a ws, d = some a ∧ G a = some (.xd ws) ∧ RepF M G fs ws)
def GOk (M : Md) (E : XK) (G H : Hp) {α : Type} (P : α → Prop) : R α → Prop
  | .ok a => P a
  | .ex c fs => ∀ cls d G' H', Ext G H G' H' → ExRep M G' H' c fs cls d → E cls d H'
  | .st => False
def EvV (M : Md) (G H : Hp) (Q : VK) : EV → Prop
  | .fz d => ∀ v G' H', Ext G H G' H' → Rep M G' d v → Q v H'
  | .fr o => ∀ p G' H', Ext G H G' H' → H p = none → G' p = none → RepO M H G' H' p o → Q (.ref p) H'
section
variable {M : Md} {E : XK} {G H G' H' : Hp}
theorem GOk.imp {α : Type} {P P' : α → Prop} {f : R α} (h : GOk M E G H P f) (k : ∀ a, P a → P' a) : GOk M E G H P' f := by
  cases f with
  | ok a => exact k a h
  | ex c fs => exact h
  | st => exact h
theorem GOk.mono {α : Type} {P : α → Prop} {f : R α} (h : GOk M E G H P f) (x : Ext G H G' H') : GOk M E G' H' P f := by
  cases f with
  | ok a => exact h
  | ex c fs => exact fun cls d G2 H2 y r => h cls d G2 H2 (x.trans y) r
  | st => exact h
theorem GOk.bind {α β : Type} {P : β → Prop} {f : R α} {g : α → R β} (h : GOk M E G H P (f.bind g)) : GOk M E G H (fun a => GOk M E G H P (g a)) f := by
  cases f with
  | ok a => exact h
  | ex c fs => exact h
  | st => exact h
theorem GOk.ofBind {α β : Type} {P : β → Prop} {f : R α} {g : α → R β} (h : GOk M E G H (fun a => GOk M E G H P (g a)) f) : GOk M E G H P (f.bind g) := by
  cases f with
  | ok a => exact h
  | ex c fs => exact h
  | st => exact h
theorem GOk.map {α β : Type} {P : β → Prop} {f : R α} {g : α → β} (h : GOk M E G H P (f.map g)) : GOk M E G H (fun a => P (g a)) f := by
  cases f with
  | ok a => exact h
  | ex c fs => exact h
  | st => exact h
theorem GOk.ofMap {α β : Type} {P : β → Prop} {f : R α} {g : α → β} (h : GOk M E G H (fun a => P (g a)) f) : GOk M E G H P (f.map g) := by
  cases f with
  | ok a => exact h
  | ex c fs => exact h
  | st => exact h
theorem EvV.mono {Q : VK} {v : EV} (h : EvV M G H Q v) (x : Ext G H G' H') : EvV M G' H' Q v := by
  cases v with
  | fz d => exact fun u G2 H2 y r => h u G2 H2 (x.trans y) r
  | fr o => exact fun p G2 H2 y a b r => h p G2 H2 (x.trans y) (x.sub a) b (r.base x.h)
/-- an owned thing is shared from now on -/
theorem freeze_obj {B : Hp} {p : Addr} {o : OD} (s : Same G H) (hg : G p = none) (r : RepO M B G H p o) :
    ∃ G', Same G G' ∧ Same G' H ∧ (∀ a, G' a ≠ none → G a ≠ none ∨ a = p ∨ (B a = none ∧ H a = some (.own p))) ∧ Rep M G' o.d (.ref p) := by
  cases o with
  | lst ds =>
    obtain ⟨vs, h1, h2⟩ := r
    obtain ⟨a1, a2⟩ := Ext.freeze s hg h1
    refine ⟨_, a1, a2, fun a ha => ?_, ?_⟩
    · by_cases e : a = p
      · exact .inr (.inl e)
      · rw [upd_ne e] at ha; exact .inl ha
    · show Rep M _ (.lst ds) _
      unfold Rep
      exact ⟨p, vs, rfl, upd_same, Reps.mono a1 _ _ h2⟩
  | dct kvs =>
    obtain ⟨vs, h1, h2⟩ := r
    obtain ⟨a1, a2⟩ := Ext.freeze s hg h1
    refine ⟨_, a1, a2, fun a ha => ?_, ?_⟩
    · by_cases e : a = p
      · exact .inr (.inl e)
      · rw [upd_ne e] at ha; exact .inl ha
    · show Rep M _ (.dct kvs) _
      unfold Rep
      exact ⟨p, vs, rfl, upd_same, RepK.mono a1 _ _ h2⟩
  | obj c fs =>
    obtain ⟨C, dx, ws, k, h1, h2, h3, hb, h4⟩ := r
    have ne : p ≠ dx := ne_of h1 h2 (by intro z; cases z)
    obtain ⟨a1, a2⟩ := Ext.freeze s h3 h2
    have hg2 : upd G dx (.own p) p = none := by rw [upd_ne ne]; exact hg
    obtain ⟨b1, b2⟩ := Ext.freeze a2 hg2 h1
    refine ⟨_, a1.trans b1, b2, fun a ha => ?_, ?_⟩
    · by_cases e : a = p
      · exact .inr (.inl e)
      · rw [upd_ne e] at ha
        by_cases e2 : a = dx
        · subst e2; exact .inr (.inr ⟨hb, h2⟩)
        · rw [upd_ne e2] at ha; exact .inl ha
    · show Rep M _ (.obj c fs) _
      unfold Rep
      exact ⟨p, C, dx, ws, rfl, k, upd_same, b1 _ _ upd_same, RepF.mono (a1.trans b1) _ _ h4⟩
theorem EvV.frz {Q : VK} {v : EV} (h : EvV M G H Q (.fz v.d)) : EvV M G H Q v := by
  cases v with
  | fz d => exact h
  | fr o =>
    intro p G1 H1 x a b r
    obtain ⟨G2, s1, s2, nw, r2⟩ := freeze_obj x.i b r
    refine h _ G2 H1 ⟨x.g.trans s1, x.h, s2, fun q hq hg => ?_⟩ r2
    cases e : G2 q with
    | none => rfl
    | some w =>
      rcases nw q (by rw [e]; exact fun z => nomatch z) with z | z | z
      · exact absurd (x.n q hq hg) z
      · subst z; exact absurd a hq
      · exact absurd z.1 hq
end

/-! ### the slots -/
def XcAt (M : Md) (G : Hp) (c : Str) (fs : List (Str × D)) (v : V) : Prop :=
  ∃ a C d, M.x = some (a, C, d) ∧ v = .ref a ∧ M.cls c C ∧ ((fs = [] ∧ d = none) ∨ ∃ e ws, d = some e ∧ G e = some (.xd ws) ∧ RepF M G fs ws)
theorem XcAt.mono {M : Md} {G G' : Hp} {c : Str} {fs : List (Str × D)} {v : V} (s : Same G G') (h : XcAt M G c fs v) : XcAt M G' c fs v := by
  obtain ⟨a, C, d, h1, h2, h3, h4⟩ := h
  refine ⟨a, C, d, h1, h2, h3, ?_⟩
  rcases h4 with h4 | ⟨e, ws, h4, h5, h6⟩
  · exact .inl h4
  · exact .inr ⟨e, ws, h4, s _ _ h5, RepF.mono s _ _ h6⟩
structure Rel (M : Md) (G0 H0 : Hp) (ρ : Rho) (σ : L2.St) (G H : Hp) : Prop where
  ext : Ext G0 H0 G H
  len : σ.length = ρ.length
  fz : ∀ (i : Nat) (d : D), ρ[i]? = some (.fz d) → ∃ v, σ[i]? = some (some v) ∧ Rep M G d v
  ow : ∀ (i : Nat) (o : OD), ρ[i]? = some (.ow o) → ∃ p, σ[i]? = some (some (.ref p)) ∧ H0 p = none ∧ G p = none ∧ RepO M H0 G H p o
  xc : ∀ (i : Nat) (c : Str) (fs : List (Str × D)), ρ[i]? = some (.xc c fs) → ∃ v, σ[i]? = some (some v) ∧ XcAt M G c fs v
  ap : ∀ (i j : Nat) (oi oj : OD) (p : Addr), ρ[i]? = some (.ow oi) → ρ[j]? = some (.ow oj) → σ[i]? = some (some (.ref p)) → σ[j]? = some (some (.ref p)) → i = j
section
variable {M : Md} {G0 H0 G H G' H' : Hp} {ρ : Rho} {σ : L2.St}
theorem RepO.some {B : Hp} {p : Addr} {o : OD} (r : RepO M B G H p o) : H p ≠ none := by
  cases o with
  | lst ds => obtain ⟨vs, h, _⟩ := r; rw [h]; exact fun z => nomatch z
  | dct ds => obtain ⟨vs, h, _⟩ := r; rw [h]; exact fun z => nomatch z
  | obj c fs => obtain ⟨C, dx, ws, _, h, _⟩ := r; rw [h]; exact fun z => nomatch z
theorem Rel.same (r : Rel M G0 H0 ρ σ G H) : Same G H := r.ext.i
theorem Rel.later (r : Rel M G0 H0 ρ σ G H) (x : Ext G H G' H') : Rel M G0 H0 ρ σ G' H' where
  ext := r.ext.trans x
  len := r.len
  fz := fun i d e => let ⟨v, h1, h2⟩ := r.fz i d e; ⟨v, h1, Rep.mono x.g d v h2⟩
  ow := fun i o e => let ⟨p, h1, h2, h3, h4⟩ := r.ow i o e; ⟨p, h1, h2, x.n p h4.some h3, RepO.mono x.g x.h x.n o h4⟩
  xc := fun i c fs e => let ⟨v, h1, h2⟩ := r.xc i c fs e; ⟨v, h1, h2.mono x.g⟩
  ap := r.ap
/-- a slot takes a shared value -/
theorem Rel.setFz (r : Rel M G0 H0 ρ σ G H) {d : D} {v : V} (i : Nat) (hd : Rep M G d v) : Rel M G0 H0 (ρ.set i (.fz d)) (σ.set i (some v)) G H where
  ext := r.ext
  len := by simp [r.len]
  fz := fun j e h => by
    by_cases hj : i = j
    · subst hj
      by_cases hl : i < ρ.length
      · rw [List.getElem?_set_self hl] at h; cases h
        exact ⟨v, by rw [List.getElem?_set_self (by rw [r.len]; exact hl)], hd⟩
      · rw [List.getElem?_eq_none (by simpa using hl)] at h; cases h
    · rw [List.getElem?_set_ne hj] at h ⊢
      exact r.fz j e h
  ow := fun j o h => by
    by_cases hj : i = j
    · subst hj
      by_cases hl : i < ρ.length
      · rw [List.getElem?_set_self hl] at h; cases h
      · rw [List.getElem?_eq_none (by simpa using hl)] at h; cases h
    · rw [List.getElem?_set_ne hj] at h ⊢
      exact r.ow j o h
  xc := fun j c fs h => by
    by_cases hj : i = j
    · subst hj
      by_cases hl : i < ρ.length
      · rw [List.getElem?_set_self hl] at h; cases h
      · rw [List.getElem?_eq_none (by simpa using hl)] at h; cases h
    · rw [List.getElem?_set_ne hj] at h ⊢
      exact r.xc j c fs h
  ap := fun j k oj ok p h1 h2 h3 h4 => by
    by_cases hj : i = j
    · subst hj
      by_cases hl : i < ρ.length
      · rw [List.getElem?_set_self hl] at h1; cases h1
      · rw [List.getElem?_eq_none (by simpa using hl)] at h1; cases h1
    · by_cases hk : i = k
      · subst hk
        by_cases hl : i < ρ.length
        · rw [List.getElem?_set_self hl] at h2; cases h2
        · rw [List.getElem?_eq_none (by simpa using hl)] at h2; cases h2
      · rw [List.getElem?_set_ne hj] at h1 h3
        rw [List.getElem?_set_ne hk] at h2 h4
        exact r.ap j k oj ok p h1 h2 h3 h4
/-- a slot takes a new thing that nobody else holds -/
theorem Rel.setOw (r : Rel M G0 H0 ρ σ G H) {o : OD} {p : Addr} (i : Nat) (h0 : H0 p = none) (hg : G p = none) (ho : RepO M H0 G H p o) (nw : ∀ (j : Nat) (oj : OD), j ≠ i → ρ[j]? = some (.ow oj) → σ[j]? ≠ some (some (.ref p))) :
    Rel M G0 H0 (ρ.set i (.ow o)) (σ.set i (some (.ref p))) G H where
  ext := r.ext
  len := by simp [r.len]
  fz := fun j e h => by
    by_cases hj : i = j
    · subst hj
      by_cases hl : i < ρ.length
      · rw [List.getElem?_set_self hl] at h; cases h
      · rw [List.getElem?_eq_none (by simpa using hl)] at h; cases h
    · rw [List.getElem?_set_ne hj] at h ⊢
      exact r.fz j e h
  ow := fun j o' h => by
    by_cases hj : i = j
    · subst hj
      by_cases hl : i < ρ.length
      · rw [List.getElem?_set_self hl] at h; cases h
        exact ⟨p, by rw [List.getElem?_set_self (by rw [r.len]; exact hl)], h0, hg, ho⟩
      · rw [List.getElem?_eq_none (by simpa using hl)] at h; cases h
    · rw [List.getElem?_set_ne hj] at h ⊢
      exact r.ow j o' h
  xc := fun j c fs h => by
    by_cases hj : i = j
    · subst hj
      by_cases hl : i < ρ.length
      · rw [List.getElem?_set_self hl] at h; cases h
      · rw [List.getElem?_eq_none (by simpa using hl)] at h; cases h
    · rw [List.getElem?_set_ne hj] at h ⊢
      exact r.xc j c fs h
  ap := fun j k oj ok q h1 h2 h3 h4 => by
    by_cases hj : i = j
    · by_cases hk : i = k
      · rw [← hj, ← hk]
      · subst hj
        by_cases hl : i < ρ.length
        · rw [List.getElem?_set_self (by rw [r.len]; exact hl)] at h3; cases h3
          rw [List.getElem?_set_ne hk] at h2 h4
          exact absurd h4 (nw k ok (Ne.symm hk) h2)
        · rw [List.getElem?_eq_none (by simpa using hl)] at h1; cases h1
    · by_cases hk : i = k
      · subst hk
        by_cases hl : i < ρ.length
        · rw [List.getElem?_set_self (by rw [r.len]; exact hl)] at h4; cases h4
          rw [List.getElem?_set_ne hj] at h1 h3
          exact absurd h3 (nw j oj (Ne.symm hj) h1)
        · rw [List.getElem?_eq_none (by simpa using hl)] at h2; cases h2
      · rw [List.getElem?_set_ne hj] at h1 h3
        rw [List.getElem?_set_ne hk] at h2 h4
        exact r.ap j k oj ok q h1 h2 h3 h4
/-- a slot's value is forgotten -/
theorem Rel.setUn (r : Rel M G0 H0 ρ σ G H) (i : Nat) (w : Option V) : Rel M G0 H0 (ρ.set i .un) (σ.set i w) G H where
  ext := r.ext
  len := by simp [r.len]
  fz := fun j e h => by
    by_cases hj : i = j
    · subst hj
      by_cases hl : i < ρ.length
      · rw [List.getElem?_set_self hl] at h; cases h
      · rw [List.getElem?_eq_none (by simpa using hl)] at h; cases h
    · rw [List.getElem?_set_ne hj] at h ⊢
      exact r.fz j e h
  ow := fun j o h => by
    by_cases hj : i = j
    · subst hj
      by_cases hl : i < ρ.length
      · rw [List.getElem?_set_self hl] at h; cases h
      · rw [List.getElem?_eq_none (by simpa using hl)] at h; cases h
    · rw [List.getElem?_set_ne hj] at h ⊢
      exact r.ow j o h
  xc := fun j c fs h => by
    by_cases hj : i = j
    · subst hj
      by_cases hl : i < ρ.length
      · rw [List.getElem?_set_self hl] at h; cases h
      · rw [List.getElem?_eq_none (by simpa using hl)] at h; cases h
    · rw [List.getElem?_set_ne hj] at h ⊢
      exact r.xc j c fs h
  ap := fun j k oj ok p h1 h2 h3 h4 => by
    by_cases hj : i = j
    · subst hj
      by_cases hl : i < ρ.length
      · rw [List.getElem?_set_self hl] at h1; cases h1
      · rw [List.getElem?_eq_none (by simpa using hl)] at h1; cases h1
    · by_cases hk : i = k
      · subst hk
        by_cases hl : i < ρ.length
        · rw [List.getElem?_set_self hl] at h2; cases h2
        · rw [List.getElem?_eq_none (by simpa using hl)] at h2; cases h2
      · rw [List.getElem?_set_ne hj] at h1 h3
        rw [List.getElem?_set_ne hk] at h2 h4
        exact r.ap j k oj ok p h1 h2 h3 h4
theorem Rel.wipe (r : Rel M G0 H0 ρ σ G H) : ∀ vs : List Nat, Rel M G0 H0 (wipeS ρ vs) (L2.wipe σ vs) G H
  | [] => r
  | v :: vs => (Rel.wipe r vs).setUn v none
end
end PX

set_option Elab.async false
set_option linter.all false
set_option maxRecDepth 100000
/-! Px3: the check of the small syntax against the program's; contexts; operators. -/
namespace PX
open PySem PySem.Spec PyProof.Rows L2

/-! ### the check -/
structure Cs where
  N : List Str
  sc : Scope
  cl : Str → Bool
  hot : Bool
  bl : List Str
  im : List Str
  fns : List Str
  flds : List Str
  /-- the fields of exceptions -/
  xfl : List Str
  /-- a def's own body -/
  top : Bool
  /-- exception classes without and with fields -/
  ex0 : List Str
  ex1 : List (Str × List Str)
  /-- classes in except clauses -/
  exl : List Str
/-- the slots that a target stores to -/
def Tg.is : Tg → List Nat
  | .nm i => [i]
  | .tp is => is
def visC (sc : Scope) (x : Str) : Bool := match sc.names.lookup x with | some .local => true | some .cell => true | some .free => true | _ => false
def locC (sc : Scope) (x : Str) : Bool := match sc.names.lookup x with | some .local => true | some .cell => true | _ => false
def nodb (x : Str) : Bool := !(x == ("__debug__" : Str)) && !(x == ("__classdict__" : Str)) && !(x == ("__name__" : Str))
def gloC (c : Cs) (x : Str) : Bool := decide (c.sc.names.lookup x = some .globalImplicit) && nodb x
def bltC (c : Cs) (x : Str) : Bool := gloC c x && decide (x ∈ c.bl)
def nst : Expr → Bool
  | .Starred _ _ => false
  | _ => true
def nset : Expr → Bool
  | .Set _ _ _ => false
  | _ => true
def nsup : Expr → Bool
  | .Call (.Name id _) [] [] _ => !(id == ("super" : Str))
  | _ => true
def nslice : Expr → Bool
  | .Slice _ _ _ _ => false
  | _ => true
def isTupTg : Expr → Bool
  | .Tuple _ _ _ => true
  | _ => false
inductive BK where
  | b (id : String) | t (T : String) | m (id : String)
def Bi.name : Bi → Str
  | .len => "len" | .abs => "abs" | .int => "int" | .str => "str" | .gcd => "gcd" | .lcm => "lcm" | .list => "list" | .tuple => "tuple" | .isI => "isinstance"
  | .max => "max" | .min => "min" | .sum => "sum" | .sorted => "sorted" | .all => "all" | .any => "any"
def Bi.math : Bi → Bool
  | .gcd => true | .lcm => true | _ => false
/-- the rules that ask that nothing is being handled -/
def Bi.cool : Bi → Bool
  | .max => true | .min => true | .sum => true | .all => true | .any => true | _ => false
def Me.name : Me → Str
  | .part => "partition" | .split => "split" | .join => "join" | .index => "index"
def tgC (c : Cs) (i : Nat) (x : Str) : Bool := decide (c.N[i]? = some x) && locC c.sc x && (c.cl x || decide (c.sc.names.lookup x = some .local))
def chkTp (c : Cs) : List Nat → List Expr → Bool
  | [], [] => true
  | i :: is, .Name x _ :: es => tgC c i x && chkTp c is es
  | _, _ => false
def chkTg (c : Cs) (tg : Tg) (ex : Expr) : Bool :=
  match tg, ex with
  | .nm i, .Name x _ => tgC c i x
  | .tp is, .Tuple es _ _ => !c.hot && chkTp c is es
  | _, _ => false
def chkI (c : Cs) (f : List Expr → Bool) (k : ItK) (it tg : Expr) : Bool :=
  match k, it with
  | .val, it => f [it] && nset it && nst it
  | .rng, .Call (.Name x _) [e] [] _ => decide (x = ("range" : Str)) && bltC c x && f [e] && nst e
  | .rng2, .Call (.Name x _) [e, e2] [] _ => decide (x = ("range" : Str)) && bltC c x && f [e, e2] && nst e && nst e2
  | .zip, .Call (.Name x _) [e, e2] [] _ => decide (x = ("zip" : Str)) && bltC c x && f [e, e2] && nst e && nst e2 && isTupTg tg
  | .enm, .Call (.Name x _) [e] [] _ => decide (x = ("enumerate" : Str)) && bltC c x && f [e] && nst e && isTupTg tg
  | .rev, .Call (.Name x _) [e] [] _ => decide (x = ("reversed" : Str)) && bltC c x && f [e] && nst e
  | _, _ => false
/-- a test of which the rules know how truth is asked: no conditional expression -/
def tstOk : Expr → Bool
  | .IfExp _ _ _ _ => false
  | _ => true
mutual
def chkE : E → Cs → Expr → Bool
  | .var i, c, ex => match ex with
    | .Name x _ => decide (c.N[i]? = some x) && visC c.sc x && nodb x
    | _ => false
  | .non, _, ex => match ex with
    | .Constant .none _ _ => true
    | _ => false
  | .bl b, _, ex => match ex with
    | .Constant (.bool b') _ _ => b == b'
    | _ => false
  | .int i, _, ex => match ex with
    | .Constant (.int i') _ _ => decide (i = i')
    | _ => false
  | .str s, _, ex => match ex with
    | .Constant (.str s') _ _ => decide (s = s')
    | _ => false
  | .glb x, c, ex => match ex with
    | .Name x' _ => decide (x = x') && gloC c x
    | _ => false
  | .tyn x T, c, ex => match ex with
    | .Name x' _ => decide (x = x') && bltC c x && decide (bootBuiltins x = some (.type T))
    | _ => false
  | .bin op a b, c, ex => match ex with
    | .BinOp x op' y _ => decide (op = op') && chkE a c x && chkE b c y
    | _ => false
  | .neg a, c, ex => match ex with
    | .UnaryOp .USub x _ => chkE a c x
    | _ => false
  | .nt a, c, ex => match ex with
    | .UnaryOp .Not x _ => chkE a c x && tstOk x
    | _ => false
  | .cmp op a b, c, ex => match ex with
    | .Compare x [op'] [y] _ => decide (op = op') && chkE a c x && chkE b c y && !behindInMarks op y
    | _ => false
  | .and a b, c, ex => match ex with
    | .BoolOp .And (x :: y :: r) p => chkE a c x && tstOk x && (match r with
      | [] => chkE b c y && tstOk y
      | z :: r => chkE b c (.BoolOp .And (y :: z :: r) p))
    | _ => false
  | .or a b, c, ex => match ex with
    | .BoolOp .Or (x :: y :: r) p => chkE a c x && tstOk x && (match r with
      | [] => chkE b c y && tstOk y
      | z :: r => chkE b c (.BoolOp .Or (y :: z :: r) p))
    | _ => false
  | .ite t a b, c, ex => match ex with
    | .IfExp xt xa xb _ => chkE t c xt && tstOk xt && chkE a c xa && chkE b c xb
    | _ => false
  | .call f as, c, ex => match ex with
    | .Call (.Name x _) (e :: es) [] _ => !c.hot && decide (x = f) && decide (f ∈ c.fns) && gloC c x && chkL as c (e :: es) && (e :: es).all nst
    | _ => false
  | .bi f as, c, ex => match ex with
    | .Call (.Name x _) (e :: es) [] _ => decide (x = f.name) && (if f.math then gloC c f.name && decide (f.name ∈ c.im) else bltC c f.name) && (!c.hot || !f.cool) && chkL as c (e :: es) && (e :: es).all nst
    | _ => false
  | .me m o as, c, ex => match ex, as with
    | .Call (.Attribute xo nm ap) [x] [] p, [e] => !c.hot && decide (nm = m.name) && chkE o c xo && chkE e c x && nst x && nsup xo && decide (ap.endLine = p.line)
    | _, _ => false
  | .ix a b, c, ex => match ex with
    | .Subscript x y _ => chkE a c x && chkE b c y && nslice y
    | _ => false
  | .sl a lo hi, c, ex => match ex with
    | .Subscript x (.Slice l h none _) _ => chkE a c x && (match l with | none => lo.non? | some y => !lo.non? && chkE lo c y) && (match h with | none => hi.non? | some y => !hi.non? && chkE hi c y)
    | _ => false
  | .tup es, c, ex => match ex with
    | .Tuple xs _ _ => chkL es c xs && xs.all nst
    | _ => false
  | .ls es, c, ex => match ex with
    | .List xs _ => chkL es c xs && xs.all nst
    | _ => false
  | .lc own tg k as ifs el, c, ex => match ex with
    | .ListComp xel [⟨xtg, it, xifs, 0⟩] scope _ =>
      !c.hot && blkC c.N c.sc scope (own.map fun i => (c.N.getD i "", i)) && chkI c (fun exs => chkL as c exs && exs.all nst) k it xtg && nset it &&
        chkTg { c with sc := relS scope c.sc, cl := fun x => scope.names.lookup x == some .cell, top := false, ex0 := [], ex1 := [] } tg xtg && tg.is.all (fun i => decide (i ∈ own)) &&
        chkL ifs { c with sc := relS scope c.sc, cl := fun x => scope.names.lookup x == some .cell, top := false, ex0 := [], ex1 := [] } xifs && decide (ifs.length ≤ 1) && xifs.all tstOk &&
        chkE el { c with sc := relS scope c.sc, cl := fun x => scope.names.lookup x == some .cell, top := false, ex0 := [], ex1 := [] } xel
    | _ => false
  | .fst ps, c, ex => match ex with
    | .JoinedStr (v1 :: v2 :: vs) _ => chkP ps c (v1 :: v2 :: vs)
    | _ => false
  | .fld o f, c, ex => match ex with
    | .Attribute x f' _ => decide (f = f') && chkE o c x && nsup x && decide (f ∈ c.flds)
    | _ => false
  | .isE i C, c, ex => match ex with
    | .Call (.Name f _) [.Name x _, .Name C' _] [] _ => c.hot && decide (f = ("isinstance" : Str)) && bltC c f && decide (C' = C) && gloC c C' && decide (c.N[i]? = some x) && visC c.sc x && nodb x
    | _ => false
  | .exf i f, c, ex => match ex with
    | .Attribute (.Name x _) f' _ => c.hot && decide (f = f') && decide (c.N[i]? = some x) && visC c.sc x && nodb x && decide (f ∈ c.xfl)
    | _ => false
def chkL : List E → Cs → List Expr → Bool
  | [], _, xs => xs.isEmpty
  | e :: es, c, xs => match xs with
    | x :: xs => chkE e c x && chkL es c xs
    | [] => false
/-- the parts of an f-string -/
def chkP : List E → Cs → List Expr → Bool
  | [], _, xs => xs.isEmpty
  | e :: es, c, xs => match xs with
    | .FormattedValue x (-1) none _ :: xs => chkE e c x && chkP es c xs
    | .Constant (.str s') _ _ :: xs => (match e with | .str s => decide (s = s') | _ => false) && chkP es c xs
    | _ => false
end

/-! ### the check of statements -/
def isComp : Expr → Bool
  | .ListComp _ _ _ _ => true
  | .SetComp _ _ _ _ => true
  | .DictComp _ _ _ _ _ => true
  | _ => false
def nTup : Expr → Bool
  | .Tuple _ _ _ => false
  | _ => true
/-- a comprehension that is stored at once -/
def swC (c : Cs) (xe : Expr) (x : Str) (p : Pos) : Bool := match xe with
  | .ListComp _ _ s pos => decide (c.sc.names.lookup x = some .local) && p.line == pos.line && !(s.names.any fun (n, k) => n == x && (k == .local || k == .cell))
  | _ => false
def nSD : Expr → Bool
  | .SetComp _ _ _ _ => false
  | .DictComp _ _ _ _ _ => false
  | _ => true
def isLc : E → Bool
  | .lc _ _ _ _ _ _ => true
  | _ => false
def isXLc : Expr → Bool
  | .ListComp _ [_] _ _ => true
  | _ => false
def asgOk (c : Cs) (e : E) (xtg xe : Expr) : Bool := match xtg with
  | .Name x px => nSD xe && (!swC c xe x px || (isLc e && isXLc xe && c.top))
  | _ => nTup xe
def nmC (c : Cs) (i : Nat) (x : Str) : Bool := decide (c.N[i]? = some x) && visC c.sc x && nodb x
mutual
def chkS : S → Cs → Stmt → Bool
  | .asg tg e us, c, st => match st with
    | .Assign [xtg] xe p => chkE e c xe && chkTg c tg xtg && decide (c.sc.kind = .function) &&
      asgOk c e xtg xe
    | _ => false
  | .par i j a b us, c, st => match st with
    | .Assign [.Tuple [.Name x px, .Name y py] _ _] (.Tuple [xa, xb] _ _) _ => !c.hot && decide (c.N[i]? = some x) && decide (c.N[j]? = some y) && decide (i ≠ j) && decide (c.sc.names.lookup x = some .local) && decide (c.sc.names.lookup y = some .local) &&
      chkE a c xa && chkE b c xb && nst xa && nst xb && decide (c.sc.kind = .function) && decide (px.line = py.line) && !(x == y) && !([xa, xb].all (foldedForSure 8)) && !([xa, xb].all (constantsAlone 8))
    | _ => false
  | .aug i op e us, c, st => match st with
    | .AugAssign (.Name x _) op' xe _ => decide (op' = op) && (decide (op = .Add) || decide (op = .Sub)) && tgC c i x && chkE e c xe
    | _ => false
  | .stix i ix e us, c, st => match st with
    | .Assign [.Subscript (.Name x _) xi _] xe _ => nmC c i x && chkE ix c xi && chkE e c xe && nslice xi
    | _ => false
  | .app i e us, c, st => match st with
    | .Expr (.Call (.Attribute (.Name x _) nm ap) [xe] [] cp) _ => decide (nm = ("append" : Str)) && nmC c i x && chkE e c xe && nst xe && decide (ap.endLine = cp.line)
    | _ => false
  | .expr e us, c, st => match st with
    | .Expr xe _ => chkE e c xe && !isComp xe
    | _ => false
  | .iff t a b us, c, st => match st with
    | .If xt xa xb _ => chkE t c xt && tstOk xt && chkSs a c xa && chkSs b c xb
    | _ => false
  | .whl t b us, c, st => match st with
    | .While xt xb [] _ => chkE t c xt && tstOk xt && chkSs b c xb
    | _ => false
  | .for tg k as b us, c, st => match st with
    | .For xtg it xb [] _ => !c.hot && chkI c (fun exs => chkL as c exs && exs.all nst) k it xtg && nset it && chkTg c tg xtg && chkSs b c xb
    | _ => false
  | .ret e us, c, st => match st with
    | .Return (some xe) _ => chkE e c xe
    | _ => false
  | .retv i, c, st => match st with
    | .Return (some (.Name x _)) _ => nmC c i x
    | _ => false
  | .retN, _, st => match st with
    | .Return none _ => true
    | _ => false
  | .brk, _, st => match st with
    | .Break _ => true
    | _ => false
  | .cont, _, st => match st with
    | .Continue _ => true
    | _ => false
  | .pass, _, st => match st with
    | .Pass _ => true
    | _ => false
  | .rais C as fs us, c, st => match st with
    | .Raise (some (.Call (.Name C' _) (x :: xs) [] _)) none _ => !c.hot && decide (C' = C) && gloC c C &&
      ((as.isEmpty && fs.isEmpty && xs.isEmpty && (match x with | .Constant (.str _) _ _ => true | _ => false) && decide (C ∈ c.ex0)) ||
       (chkL as c (x :: xs) && (x :: xs).all nst && decide ((C, fs) ∈ c.ex1) && decide ((x :: xs).length = fs.length)))
    | _ => false
  | .tri b C nm h, c, st => match st with
    | .Try xb [.ExceptHandler (some (.Name C' _)) nm' (b0 :: suite) _] [] [] _ => !c.hot && c.top && decide (C' = C) && gloC c C && decide (C ∈ c.exl) &&
      (match nm, nm' with
      | some i, some x => decide (c.N[i]? = some x) && decide (c.sc.names.lookup x = some .local)
      | none, none => true
      | _, _ => false) && chkSs b c xb && chkSs h { c with hot := true, ex0 := [], ex1 := [] } (b0 :: suite)
    | _ => false
def chkSs : List S → Cs → List Stmt → Bool
  | [], _, xs => xs.isEmpty
  | s :: ss, c, xs => match xs with
    | x :: xs => chkS s c x && chkSs ss c xs
    | [] => false
end

/-! ### contexts -/
/-- a def's promise out of what its calls give -/
def spOf (M : Md) (n : Nat) (F : List D → R EV) : Sp := fun vs H Q E => vs.length = n ∧ ∃ G ds, Same G H ∧ Reps M G ds vs ∧ GOk M E G H (EvV M G H Q) (F ds)
/-- every call of f, from such contexts, gives what F says -/
def CallS (M : Md) (Xs : Cx → Prop) (f : Str) (F : List D → R EV) : Prop :=
  ∃ (k : Nat) (fa : Addr) (fd : FuncData) (ps : List Str), FnOk M.P M.w M.K M.mg M.base (L2.CX M.P M.w) k fa fd ps (spOf M ps.length F) ∧ (∀ X, Xs X → Room k X.A) ∧ M.mg f = some (.ref fa) ∧ PySem.W.keepIn M.K (.ref fa) = true ∧ L2.Binds M.K fd ps [] ∧ ∀ ds : List D, ds.length ≠ ps.length → F ds = .st
/-- contexts in which the exception at a is being handled -/
def SuF (Xs : Cx → Prop) (M : Md) (a C : Addr) (d : Option Addr) : Prop := ∀ X, Xs X → ∃ Y oe pn, X = Cx.suite Y a ((a, oe) :: pn) ∧ Y.K = M.K ∧ Y.mg = M.mg ∧ Zc (.ref C) d oe ∧ ∃ vs, oe.data = .fields vs
/-- isinstance of the handled exception -/
def HotE (Xs : Cx → Prop) (M : Md) (T : Tb) (a D : Addr) (d : Option Addr) : Prop := ∀ cc C b, T.sub cc C = some b → M.cls cc D → ∃ (cv : V) (u : Value), RelV cv u ∧ (∀ u', RelV cv u' → u' = u) ∧ (M.mg C = some u ∨ (M.mg C = none ∧ bootBuiltins C = some u)) ∧
    ∀ X, Xs X → ∀ (H : Hp) (Q : VK), (d = none ∨ ∃ e ws, d = some e ∧ H e = some (.xd ws)) → Q (.bl b) H → CallW Xs (.builtin "isinstance") [.ref a, cv] H Q
/-- a field of the handled exception -/
def HotF (Xs : Cx → Prop) (M : Md) (T : Tb) (c : Cs) (a C : Addr) (d : Option Addr) : Prop := ∀ cc b, T.sub cc cc = some b → M.cls cc C → ∀ f, f ∈ c.xfl → ∀ X, Xs X → ∀ (e : Expr) (p : Pos), nsup e = true →
  PE X (.Attribute e f p) (fun σ H Q => WP Xs e σ H fun x H1 => x = .ref a ∧ ∃ (dd : Addr) (fs : List (Str × V)) (v : V), d = some dd ∧ H1 dd = some (.xd fs) ∧ fs.lookup f = some v ∧ Q v H1)
structure Kx (Xs : Cx → Prop) (M : Md) (T : Tb) (W : WX) (c : Cs) : Prop where
  K : ∀ X, Xs X → X.K = M.K
  mg : ∀ X, Xs X → X.mg = M.mg
  P : ∀ X, Xs X → X.prog = M.P
  w : ∀ X, Xs X → X.w = M.w
  base : ∀ X, Xs X → X.base = M.base
  N : ∀ X, Xs X → X.N = c.N
  sc : ∀ X, Xs X → X.env.scope = c.sc
  cl : ∀ X, Xs X → ∀ x, c.cl x = true → X.fn x = true
  nd : c.N.Nodup
  calm : c.hot = false → ∀ X, Xs X → X.calm = true
  tk : ∀ X, Xs X → Takes X W
  po : ∀ X, Xs X → PassesOwn (model X.prog X.w) X.A X.env X.xe
  room : ∀ X, Xs X → X.A.units + 70 < cLine
  bl : ∀ x, x ∈ c.bl → M.mg x = none
  gcd : ("gcd" : Str) ∈ c.im → M.mg "gcd" = some (.builtin "math.gcd")
  lcm : ("lcm" : Str) ∈ c.im → M.mg "lcm" = some (.builtin "math.lcm")
  /-- where an exception is handled: the suite's context -/
  hot : c.hot = true → ∃ a C d cc, M.x = some (a, C, d) ∧ M.cls cc C ∧ SuF Xs M a C d
  su : ∀ a C d cc, M.cls cc C → ∀ Zs, SuF Zs M a C d → HotE Zs M T a C d ∧ HotF Zs M T c a C d
  top : c.top = true → ∀ X, Xs X → X.stack = X.env :: X.outer ∧ X.env.frame = some X.env.locals
  xn : c.hot = false → M.x = none
  exv : ∀ C, C ∈ c.exl → ∃ u, M.mg C = some u ∨ (M.mg C = none ∧ bootBuiltins C = some u)
  exm : ∀ cc C b, T.sub cc C = some b → ∀ D, M.cls cc D → ∃ u, (M.mg C = some u ∨ (M.mg C = none ∧ bootBuiltins C = some u)) ∧ PySem.W.exmOne M.K (.ref D) u = some b
  ex0 : ∀ C, C ∈ c.ex0 → ∃ D, M.cls C D ∧ ∀ X : Cx, X.K = M.K → X.mg = M.mg → Gl X C → (C == ("__debug__" : Str)) = false → ∀ m j p p2 pos, PMk X (.Call (.Name C p) [.Constant (.str m) j p2] [] pos) (fun _ H Q => Q (.ref D) none H)
  ex1 : ∀ C fs, (C, fs) ∈ c.ex1 → ∃ D, M.cls C D ∧ ∀ X : Cx, X.K = M.K → X.mg = M.mg → X.prog = M.P → X.w = M.w → X.base = M.base → (∃ Y, Xs Y ∧ X.A = Y.A) → Gl X C → (C == ("__debug__" : Str)) = false → ∀ e es p pos ta, (e :: es).all nst = true → (e :: es).length = fs.length → PA X (e :: es) ta →
    PMk X (.Call (.Name C p) (e :: es) [] pos) (fun σ H Q => ta σ H fun vs H1 => vs.length = fs.length ∧ ∀ d, H1 d = none → Q (.ref D) (some d) (upd H1 d (.xd (fs.zip vs))))
  obj : ∀ cl C f, T.oc cl = true → M.cls cl C → f ∈ c.flds → Cls M.K C ∧ NoAttr M.K C f
  cst : ∀ x d, T.cst x = some d → ∃ u v, M.mg x = some u ∧ RelV v u ∧ ∀ G, Rep M G d v
  fns : c.hot = false → ∀ f, f ∈ c.fns → CallS M Xs f (T.call f)

/-! ### what a checked expression is -/
def SV (Xs : Cx → Prop) (M : Md) (E : XK) (σ : L2.St) (G H : Hp) (ex : Expr) (f : R EV) : Prop := ∀ Q, GOk M E G H (EvV M G H Q) f → WP Xs ex σ H Q
def SL (Xs : Cx → Prop) (M : Md) (E : XK) (σ : L2.St) (G H : Hp) (exs : List Expr) (f : R (List D)) : Prop :=
  ∀ Q, GOk M E G H (fun ds => ∀ vs G' H', Ext G H G' H' → Reps M G' ds vs → Q vs H') f → WA Xs exs σ H Q
def SB (Xs : Cx → Prop) (M : Md) (E : XK) (σ : L2.St) (G H : Hp) (ex : Expr) (f : R Bool) : Prop :=
  ∀ Q, GOk M E G H (fun b => ∀ G' H', Ext G H G' H' → Q b H') f → WT Xs ex σ H Q
section
variable {Xs : Cx → Prop} {M : Md} {E : XK} {σ : L2.St} {G H : Hp} {ex : Expr} {f : R EV}
theorem SV.use (h : SV Xs M E σ G H ex f) {Z : EV → Prop} (hb : GOk M E G H Z f) {Q : VK} (k : ∀ x v G' H', Z x → Ext G H G' H' → Rep M G' x.d v → Q v H') : WP Xs ex σ H Q :=
  h Q (hb.imp fun x z => EvV.frz fun v G' H' e r => k x v G' H' z e r)
theorem SL.use {exs : List Expr} {f : R (List D)} (h : SL Xs M E σ G H exs f) {Z : List D → Prop} (hb : GOk M E G H Z f) {Q : List V → Hp → Prop} (k : ∀ x v G' H', Z x → Ext G H G' H' → Reps M G' x v → Q v H') : WA Xs exs σ H Q :=
  h Q (hb.imp fun x z => fun v G' H' e r => k x v G' H' z e r)
theorem SB.use {f : R Bool} (h : SB Xs M E σ G H ex f) {Z : Bool → Prop} (hb : GOk M E G H Z f) {Q : Bool → Hp → Prop} (k : ∀ b G' H', Z b → Ext G H G' H' → Q b H') : WT Xs ex σ H Q :=
  h Q (hb.imp fun x z => fun G' H' e => k x G' H' z e)
end
theorem EvV.val {M : Md} {G H : Hp} {Q : VK} {d : D} (h : EvV M G H Q (.fz d)) (s : Same G H) {v : V} (r : Rep M G d v) : Q v H := h v G H (Ext.refl s) r

/-! ### lists of what stands for what -/
section
variable {M : Md} {G : Hp}
theorem Reps.length : ∀ {ds : List D} {vs : List V}, Reps M G ds vs → vs.length = ds.length
  | [], vs, h => by unfold Reps at h; subst h; rfl
  | d :: ds, vs, h => by
    unfold Reps at h
    obtain ⟨v, r, rfl, _, h2⟩ := h
    simp [Reps.length h2]
theorem Reps.get : ∀ {ds : List D} {vs : List V} {i : Nat} {d : D}, Reps M G ds vs → ds[i]? = some d → ∃ v, vs[i]? = some v ∧ Rep M G d v
  | [], _, _, _, _, h => by simp at h
  | d :: ds, vs, i, e, h, q => by
    unfold Reps at h
    obtain ⟨v, r, rfl, h1, h2⟩ := h
    cases i with
    | zero => simp at q; subst q; exact ⟨v, by simp, h1⟩
    | succ i => simp at q; obtain ⟨u, a, b⟩ := Reps.get h2 q; exact ⟨u, by simpa using a, b⟩
theorem Reps.append : ∀ {ds es : List D} {vs us : List V}, Reps M G ds vs → Reps M G es us → Reps M G (ds ++ es) (vs ++ us)
  | [], _, _, _, h, q => by unfold Reps at h; subst h; exact q
  | d :: ds, es, vs, us, h, q => by
    unfold Reps at h
    obtain ⟨v, r, rfl, h1, h2⟩ := h
    show Reps M G (d :: (ds ++ es)) _
    unfold Reps
    exact ⟨v, r ++ us, rfl, h1, Reps.append h2 q⟩
theorem Reps.take : ∀ {ds : List D} {vs : List V} (n : Nat), Reps M G ds vs → Reps M G (ds.take n) (vs.take n)
  | [], vs, n, h => by unfold Reps at h; subst h; simp [Reps]
  | d :: ds, vs, 0, h => by simp [Reps]
  | d :: ds, vs, n + 1, h => by
    unfold Reps at h
    obtain ⟨v, r, rfl, h1, h2⟩ := h
    show Reps M G (d :: ds.take n) (v :: r.take n)
    unfold Reps
    exact ⟨v, _, rfl, h1, Reps.take n h2⟩
theorem Reps.drop : ∀ {ds : List D} {vs : List V} (n : Nat), Reps M G ds vs → Reps M G (ds.drop n) (vs.drop n)
  | [], vs, n, h => by unfold Reps at h; subst h; simp [Reps]
  | d :: ds, vs, 0, h => h
  | d :: ds, vs, n + 1, h => by
    unfold Reps at h
    obtain ⟨v, r, rfl, h1, h2⟩ := h
    exact Reps.drop n h2
theorem Reps.set : ∀ {ds : List D} {vs : List V} (n : Nat) {d : D} {v : V}, Reps M G ds vs → Rep M G d v → Reps M G (ds.set n d) (vs.set n v)
  | [], vs, n, _, _, h, _ => by unfold Reps at h; subst h; simp [Reps]
  | e :: ds, vs, 0, d, v, h, q => by
    unfold Reps at h
    obtain ⟨u, r, rfl, h1, h2⟩ := h
    show Reps M G (d :: ds) (v :: r)
    unfold Reps
    exact ⟨v, r, rfl, q, h2⟩
  | e :: ds, vs, n + 1, d, v, h, q => by
    unfold Reps at h
    obtain ⟨u, r, rfl, h1, h2⟩ := h
    show Reps M G (e :: ds.set n d) (u :: r.set n v)
    unfold Reps
    exact ⟨u, _, rfl, h1, Reps.set n h2 q⟩
theorem Reps.rev : ∀ {ds : List D} {vs : List V}, Reps M G ds vs → Reps M G ds.reverse vs.reverse
  | [], vs, h => by unfold Reps at h; subst h; simp [Reps]
  | d :: ds, vs, h => by
    unfold Reps at h
    obtain ⟨v, r, rfl, h1, h2⟩ := h
    rw [List.reverse_cons, List.reverse_cons]
    exact Reps.append (Reps.rev h2) (by unfold Reps; exact ⟨v, [], rfl, h1, by unfold Reps; rfl⟩)
theorem Reps.ints : ∀ {ds : List D} {vs : List V} {ns : List Int}, Reps M G ds vs → asInts ds = some ns → vs = ns.map V.int
  | [], vs, ns, h, q => by unfold Reps at h; subst h; simp [asInts] at q; subst q; rfl
  | d :: ds, vs, ns, h, q => by
    unfold Reps at h
    obtain ⟨v, r, rfl, h1, h2⟩ := h
    cases d <;> simp [asInts] at q
    obtain ⟨ms, e, rfl⟩ := q
    unfold Rep at h1
    rw [h1, Reps.ints h2 e]; rfl
theorem Reps.bools : ∀ {ds : List D} {vs : List V} {ns : List Bool}, Reps M G ds vs → asBools ds = some ns → vs = ns.map V.bl
  | [], vs, ns, h, q => by unfold Reps at h; subst h; simp [asBools] at q; subst q; rfl
  | d :: ds, vs, ns, h, q => by
    unfold Reps at h
    obtain ⟨v, r, rfl, h1, h2⟩ := h
    cases d <;> simp [asBools] at q
    obtain ⟨ms, e, rfl⟩ := q
    unfold Rep at h1
    rw [h1, Reps.bools h2 e]; rfl
theorem Reps.strs : ∀ {ds : List D} {vs : List V} {ns : List Str}, Reps M G ds vs → asStrs ds = some ns → vs = ns.map V.str
  | [], vs, ns, h, q => by unfold Reps at h; subst h; simp [asStrs] at q; subst q; rfl
  | d :: ds, vs, ns, h, q => by
    unfold Reps at h
    obtain ⟨v, r, rfl, h1, h2⟩ := h
    cases d <;> simp [asStrs] at q
    obtain ⟨ms, e, rfl⟩ := q
    unfold Rep at h1
    rw [h1, Reps.strs h2 e]; rfl
theorem Reps.ofInts : ∀ (ns : List Int), Reps M G (ns.map D.int) (ns.map V.int)
  | [] => by simp [Reps]
  | n :: ns => by
    show Reps M G (D.int n :: ns.map D.int) (V.int n :: ns.map V.int)
    unfold Reps
    exact ⟨_, _, rfl, by unfold Rep; rfl, Reps.ofInts ns⟩
theorem Reps.ofStrs : ∀ (ns : List Str), Reps M G (ns.map D.str) (ns.map V.str)
  | [] => by simp [Reps]
  | n :: ns => by
    show Reps M G (D.str n :: ns.map D.str) (V.str n :: ns.map V.str)
    unfold Reps
    exact ⟨_, _, rfl, by unfold Rep; rfl, Reps.ofStrs ns⟩
theorem Reps.flat {ds : List D} {vs : List V} (h : Reps M G ds vs) : ∀ n : Nat, Reps M G (List.replicate n ds).flatten (List.replicate n vs).flatten
  | 0 => by simp [Reps]
  | n + 1 => by
    rw [List.replicate_succ, List.replicate_succ, List.flatten_cons, List.flatten_cons]
    exact Reps.append h (Reps.flat h n)
theorem Reps.cut {ds : List D} {vs : List V} (h : Reps M G ds vs) (lo hi : Option Int) : Reps M G (cutD ds lo hi) (cutV vs lo hi) := by
  unfold cutD cutV
  rw [h.length]
  exact Reps.take _ (Reps.drop _ h)
theorem Reps.atI {ds : List D} {vs : List V} (h : Reps M G ds vs) {i : Int} {d : D} (q : L2.atI ds i = some d) : ∃ v, L2.atI vs i = some v ∧ Rep M G d v := by
  unfold L2.atI at q ⊢
  rw [h.length]
  cases e : ixN ds.length i with
  | none => rw [e] at q; simp at q
  | some j =>
    rw [e] at q
    exact Reps.get h (by simpa using q)
theorem Reps.one {ds : List D} {v : V} (h : Reps M G ds [v]) : ∃ d, ds = [d] ∧ Rep M G d v := by
  cases ds with
  | nil => unfold Reps at h; cases h
  | cons d r =>
    unfold Reps at h
    obtain ⟨v', r', e, h1, h2⟩ := h
    cases e
    cases r with
    | nil => exact ⟨d, rfl, h1⟩
    | cons _ _ => unfold Reps at h2; obtain ⟨_, _, e, _⟩ := h2; cases e
mutual
theorem Rep.dp : ∀ {d : D} {v : V} {p : PyData}, Rep M G d v → d.py = some p → Dp M.K G v p
  | .non, v, p, h, q => by unfold D.py at q; cases q; unfold Rep at h; subst h; exact .non
  | .bl b, v, p, h, q => by unfold D.py at q; cases q; unfold Rep at h; subst h; exact .bl _
  | .int b, v, p, h, q => by unfold D.py at q; cases q; unfold Rep at h; subst h; exact .int _
  | .str b, v, p, h, q => by unfold D.py at q; cases q; unfold Rep at h; subst h; exact .str _
  | .ty n, v, p, h, q => by simp [D.py] at q
  | .tup ds, v, p, h, q => by
    unfold D.py at q
    cases e : D.pys ds with
    | none => rw [e] at q; cases q
    | some ps =>
      rw [e] at q; cases q
      unfold Rep at h
      obtain ⟨a, vs, rfl, h1, h2⟩ := h
      exact .tup h1 (Reps.dp h2 e)
  | .lst ds, v, p, h, q => by
    unfold D.py at q
    cases e : D.pys ds with
    | none => rw [e] at q; cases q
    | some ps =>
      rw [e] at q; cases q
      unfold Rep at h
      obtain ⟨a, vs, rfl, h1, h2⟩ := h
      exact .lst (.inl (.inl h1)) (Reps.dp h2 e)
  | .scr ns, v, p, h, q => by
    unfold D.py at q; cases q
    unfold Rep at h
    obtain ⟨a, rfl, h1⟩ := h
    refine .lst h1 ?_
    clear h1
    induction ns with
    | nil => exact .nil
    | cons n ns ih => exact .cons (.int _) ih
  | .dct _, v, p, h, q => by simp [D.py] at q
  | .obj _ _, v, p, h, q => by simp [D.py] at q
theorem Reps.dp : ∀ {ds : List D} {vs : List V} {ps : List PyData}, Reps M G ds vs → D.pys ds = some ps → DpAll M.K G vs ps
  | [], vs, ps, h, q => by unfold D.pys at q; cases q; unfold Reps at h; subst h; exact .nil
  | d :: ds, vs, ps, h, q => by
    unfold D.pys at q
    cases e1 : D.py d with
    | none => rw [e1] at q; cases q
    | some p =>
      cases e2 : D.pys ds with
      | none => rw [e1, e2] at q; cases q
      | some ps' =>
        rw [e1, e2] at q; cases q
        unfold Reps at h
        obtain ⟨v, r, rfl, h1, h2⟩ := h
        exact .cons (Rep.dp h1 e1) (Reps.dp h2 e2)
end
end
theorem Dp.mono {K : PySem.W.Frag} {H H' : Hp} (s : Same H H') : ∀ {v : V} {p : PyData}, Dp K H v p → Dp K H' v p := by
  intro v p h
  induction h using L2.Dp.rec (motive_2 := fun vs ps _ => DpAll K H' vs ps) with
  | non => exact .non
  | bl b => exact .bl b
  | int i => exact .int i
  | str x => exact .str x
  | lst h1 _ ih => exact .lst (s.seq h1) ih
  | tup h1 _ ih => exact .tup (Same.seqT s h1) ih
  | nil => exact .nil
  | cons _ _ ih1 ih2 => exact .cons ih1 ih2
end PX

set_option Elab.async false
set_option linter.all false
set_option maxRecDepth 100000
/-! Px4: the operators by values. -/
namespace PX
open PySem PySem.Spec PyProof.Rows L2

section
variable {M : Md} {E : XK} {G H : Hp} {Q : VK}
theorem newLst {ds : List D} {vs : List V} (h : EvV M G H Q (.fr (.lst ds))) (s : Same G H) (r : Reps M G ds vs) : ∀ p, H p = none → Q (.ref p) (upd H p (.lst vs)) := fun p hp =>
  h p G _ (Ext.one s _ hp) hp (s.free hp) ⟨vs, upd_same, r⟩
theorem newTup {ds : List D} {vs : List V} (h : EvV M G H Q (.fz (.tup ds))) (s : Same G H) (r : Reps M G ds vs) : ∀ p, H p = none → Q (.ref p) (upd H p (.tup vs)) := fun p hp => by
  have x := Ext.both s (.tup vs) hp
  refine h (.ref p) _ _ x ?_
  unfold Rep
  exact ⟨p, vs, rfl, .inl (.inl upd_same), Reps.mono x.g _ _ r⟩
end

theorem mulOk_of {i j : Int} (h : lgI i + lgI j < mulLine) : IntMulOk i j := by
  have b : ∀ x : Int, Builtin.Int.intBits x ≤ x.natAbs.log2 + 1 := fun x => by
    unfold Builtin.Int.intBits
    split <;> omega
  have h1 := b i
  have h2 := b j
  unfold lgI mulLine at h
  have e : bitsLine = 134217728 := by decide
  unfold IntMulOk
  intro z
  rw [Bool.and_eq_true] at z
  have z2 := z.2
  unfold Builtin.Int.intTooBig at z2
  have z3 := of_decide_eq_true z2
  rw [e] at z3
  omega
theorem RelV.bool_iff {x : V} {v : Value} (r : RelV x v) (b : Bool) : (v == Value.bool b) = decide (x = .bl b) := by
  cases x with
  | non => cases r; rfl
  | bl c => cases r; cases b <;> cases c <;> rfl
  | int _ => obtain ⟨t, rfl⟩ := r; rfl
  | str _ => obtain ⟨t, rfl⟩ := r; rfl
  | byt _ => obtain ⟨t, rfl⟩ := r; rfl
  | flt _ => obtain ⟨t, rfl⟩ := r; rfl
  | ref _ => cases r; rfl
  | ty _ => cases r; rfl
theorem is_bool_gen {M : Model} {A : Around} {E : Value → Shared → Prop} {s : Shared} {Q : Value → Shared → Prop} {x : V} {v : Value} {b : Bool} (r : RelV x v) (h : Q (.bool (v == .bool b)) s) : wpAny M A (compareOp .Is v (.bool b)) Q E s := by
  cases x with
  | non => cases r; exact wpAny_pure h
  | bl c => cases r; exact wpAny_pure h
  | int _ => obtain ⟨t, rfl⟩ := r; exact wpAny_pure h
  | str _ => obtain ⟨t, rfl⟩ := r; exact wpAny_pure h
  | byt _ => obtain ⟨t, rfl⟩ := r; exact wpAny_pure h
  | flt _ => obtain ⟨t, rfl⟩ := r; exact wpAny_pure h
  | ref _ => cases r; exact wpAny_pure h
  | ty _ => cases r; exact wpAny_pure h
theorem isnot_bool_gen {M : Model} {A : Around} {E : Value → Shared → Prop} {s : Shared} {Q : Value → Shared → Prop} {x : V} {v : Value} {b : Bool} (r : RelV x v) (h : Q (.bool (!(v == .bool b))) s) : wpAny M A (compareOp .IsNot v (.bool b)) Q E s := by
  cases x with
  | non => cases r; exact wpAny_pure h
  | bl c => cases r; exact wpAny_pure h
  | int _ => obtain ⟨t, rfl⟩ := r; exact wpAny_pure h
  | str _ => obtain ⟨t, rfl⟩ := r; exact wpAny_pure h
  | byt _ => obtain ⟨t, rfl⟩ := r; exact wpAny_pure h
  | flt _ => obtain ⟨t, rfl⟩ := r; exact wpAny_pure h
  | ref _ => cases r; exact wpAny_pure h
  | ty _ => cases r; exact wpAny_pure h
section
variable {X : Cx}
theorem op_isB : OpR X (compareOp .Is) (fun x y H Q => ∃ b, y = .bl b ∧ Q (.bl (decide (x = .bl b))) H) := by
  intro pins s σ H x y v u Q I rx ry h
  obtain ⟨b, rfl, q⟩ := h
  cases (show u = Value.bool b from ry)
  exact is_bool_gen rx ⟨.bl _, H, I, by rw [RelV.bool_iff rx]; rfl, q⟩
theorem op_isnB : OpR X (compareOp .IsNot) (fun x y H Q => ∃ b, y = .bl b ∧ Q (.bl (!decide (x = .bl b))) H) := by
  intro pins s σ H x y v u Q I rx ry h
  obtain ⟨b, rfl, q⟩ := h
  cases (show u = Value.bool b from ry)
  exact isnot_bool_gen rx ⟨.bl _, H, I, by rw [RelV.bool_iff rx]; rfl, q⟩
theorem op_fdivG : OpR X (binaryOp .FloorDiv) (rI (fun _ j => j ≠ 0 ∧ lgI j < divLine) fun i j => .int (i.fdiv j)) := opI fun i j _ _ _ _ _ hc q =>
  floordiv_int hc.1 q (.inl (PyProof.noPylong_of_log2 hc.2))
theorem op_mulS : OpR X (binaryOp .Mult) (fun x y H Q => ∃ (z : Str) (k : Int), x = .str z ∧ y = .int k ∧ 1 ≤ k ∧ k ≤ 4000 ∧ z.length ≤ 4000 ∧ Q (.str (Txt.mul z k)) H) := by
  intro pins s σ H x y v u Q I rx ry h
  obtain ⟨z, k, rfl, rfl, h1, h2, h3, q⟩ := h
  obtain ⟨t, rfl⟩ := rx
  obtain ⟨t', rfl⟩ := ry
  have ok : MulOk z k := by
    refine ⟨?_, fun _ _ z3 => ?_, fun _ _ => ?_⟩
    · have a1 : ¬ k < -(2 ^ 63 : Int) := by omega
      have a2 : ¬ k ≥ 2 ^ 63 := by omega
      simp only [decide_eq_false a1, decide_eq_false a2, Bool.or_false]
    · have a3 : (2 ^ 63 - 1 : Int) / 4000 ≤ (2 ^ 63 - 1) / k := Int.le_ediv_of_mul_le (by omega) (by
        have := Int.mul_le_mul_of_nonneg_left h2 (show (0 : Int) ≤ (2 ^ 63 - 1) / 4000 by decide)
        exact Int.le_trans this (by decide))
      have a4 : (4000 : Int) < (2 ^ 63 - 1) / 4000 := by decide
      omega
    · have a5 : z.length * k.toNat ≤ 4000 * 4000 := Nat.mul_le_mul h3 (by omega)
      unfold Builtin.Str.tooLong
      exact decide_eq_false (by rw [sizeLine_eq]; omega)
  exact SB.mul ok fun t2 k2 => ⟨.str (Txt.mul z k), H, I.tok _, ⟨_, rfl⟩, q⟩
theorem op_mulG : OpR X (binaryOp .Mult) (rI (fun i j => lgI i + lgI j < mulLine) fun i j => .int (i * j)) := opI fun _ _ _ _ _ _ _ hc q => mul_int q (mulOk_of hc)
end

section
variable {Xs : Cx → Prop} {M : Md} {T : Tb} {W : WX} {c : Cs} {E : XK} {G H : Hp} {Q : VK} {d e : D} {v u : V}
theorem Rep.int' {i : Int} (h : Rep M G (.int i) v) : v = .int i := by unfold Rep at h; exact h
theorem Rep.str' {i : Str} (h : Rep M G (.str i) v) : v = .str i := by unfold Rep at h; exact h
theorem Rep.bl' {i : Bool} (h : Rep M G (.bl i) v) : v = .bl i := by unfold Rep at h; exact h
theorem Rep.non' (h : Rep M G .non v) : v = .non := by unfold Rep at h; exact h
theorem Rep.lst' {ds : List D} (h : Rep M G (.lst ds) v) : ∃ a vs, v = .ref a ∧ G a = some (.lst vs) ∧ Reps M G ds vs := by unfold Rep at h; exact h
theorem Rep.tup' {ds : List D} (h : Rep M G (.tup ds) v) : ∃ a vs, v = .ref a ∧ SqT M.K G a vs ∧ Reps M G ds vs := by unfold Rep at h; exact h
theorem Rep.int {i : Int} : Rep M G (.int i) (.int i) := by unfold Rep; rfl
theorem Rep.str {i : Str} : Rep M G (.str i) (.str i) := by unfold Rep; rfl
theorem Rep.bl {i : Bool} : Rep M G (.bl i) (.bl i) := by unfold Rep; rfl
theorem Rep.non : Rep M G .non .non := by unfold Rep; rfl

theorem s_bin (kx : Kx Xs M T W c) {op : Operator} (s : Same G H) (hd : Rep M G d v) (he : Rep M G e u) (h : GOk M E G H (EvV M G H Q) (opBin op d e)) : OpW Xs (binaryOp op) v u H Q := by
  unfold opBin at h
  split at h
  · obtain rfl := hd.int'
    obtain rfl := he.int'
    exact ⟨_, fun X _ => op_add, _, _, rfl, rfl, EvV.val h s Rep.int⟩
  · rename_i i j
    obtain rfl := hd.str'
    obtain rfl := he.str'
    by_cases hl : i.length + j.length ≤ sizeLine
    · rw [if_pos hl] at h
      exact ⟨_, fun X _ => op_add_str, _, _, rfl, rfl, hl, EvV.val h s Rep.str⟩
    · rw [if_neg hl] at h; exact h.elim
  · rename_i xs ys
    obtain ⟨a, vs, rfl, h1, r1⟩ := hd.lst'
    obtain ⟨b, us, rfl, h2, r2⟩ := he.lst'
    by_cases hl : xs.length + ys.length ≤ sizeLine
    · rw [if_pos hl] at h
      exact ⟨_, fun X _ => op_cat, a, b, vs, us, rfl, rfl, s _ _ h1, s _ _ h2, by rw [r1.length, r2.length]; exact hl, newLst h s (r1.append r2)⟩
    · rw [if_neg hl] at h; exact h.elim
  · rename_i xs ys
    obtain ⟨a, vs, rfl, h1, r1⟩ := hd.tup'
    obtain ⟨b, us, rfl, h2, r2⟩ := he.tup'
    by_cases hl : xs.length + ys.length ≤ sizeLine
    · rw [if_pos hl] at h
      refine ⟨rCatA M.K, fun X hX => by rw [← kx.K X hX]; exact op_catA, a, b, vs, us, rfl, rfl, Same.seqT s h1, Same.seqT s h2, by rw [r1.length, r2.length]; exact hl, fun z => ?_, fun _ z => ?_, fun _ _ => newTup h s (r1.append r2)⟩
      · subst z
        cases xs with
        | nil => exact EvV.val h s (by unfold Rep; exact ⟨b, us, rfl, h2, r2⟩)
        | cons x r => have := r1.length; simp at this
      · subst z
        cases ys with
        | nil => exact EvV.val h s (by unfold Rep; exact ⟨a, vs, rfl, h1, by rw [List.append_nil]; exact r1⟩)
        | cons x r => have := r2.length; simp at this
    · rw [if_neg hl] at h; exact h.elim
  · obtain rfl := hd.int'
    obtain rfl := he.int'
    exact ⟨_, fun X _ => op_sub, _, _, rfl, rfl, EvV.val h s Rep.int⟩
  · rename_i i j
    obtain rfl := hd.int'
    obtain rfl := he.int'
    by_cases hl : lgI i + lgI j < mulLine
    · rw [if_pos hl] at h
      exact ⟨_, fun X _ => op_mulG, _, _, rfl, rfl, hl, EvV.val h s Rep.int⟩
    · rw [if_neg hl] at h; exact h.elim
  · rename_i z k
    obtain rfl := hd.str'
    obtain rfl := he.int'
    by_cases hl : 1 ≤ k ∧ k ≤ 4000 ∧ z.length ≤ 4000
    · rw [if_pos hl] at h
      exact ⟨_, fun X _ => op_mulS, z, k, rfl, rfl, hl.1, hl.2.1, hl.2.2, EvV.val h s Rep.str⟩
    · rw [if_neg hl] at h; exact h.elim
  · rename_i xs k
    obtain ⟨a, vs, rfl, h1, r1⟩ := hd.lst'
    obtain rfl := he.int'
    by_cases hl : k < 2 ^ 63 ∧ -(2 ^ 63) ≤ k ∧ xs.length * k.toNat ≤ sizeLine
    · rw [if_pos hl] at h
      exact ⟨_, fun X _ => op_rep, a, k, vs, rfl, rfl, s _ _ h1, hl.2.1, hl.1, by rw [r1.length]; exact hl.2.2, newLst h s (r1.flat _)⟩
    · rw [if_neg hl] at h; exact h.elim
  · rename_i i j
    obtain rfl := hd.int'
    obtain rfl := he.int'
    by_cases hl : j ≠ 0 ∧ lgI j < divLine
    · rw [if_pos hl] at h
      exact ⟨_, fun X _ => op_fdivG, _, _, rfl, rfl, hl, EvV.val h s Rep.int⟩
    · rw [if_neg hl] at h; exact h.elim
  · rename_i i j
    obtain rfl := hd.int'
    obtain rfl := he.int'
    by_cases hl : j ≠ 0
    · rw [if_pos hl] at h
      exact ⟨_, fun X _ => op_modN, _, _, rfl, rfl, hl, EvV.val h s Rep.int⟩
    · rw [if_neg hl] at h; exact h.elim
  · rename_i i j
    obtain rfl := hd.int'
    obtain rfl := he.int'
    by_cases hl : 0 ≤ j ∧ j ≤ 1000000 ∧ i.natAbs < 2 ^ 64
    · rw [if_pos hl] at h
      exact ⟨_, fun X _ => op_pow, _, _, rfl, rfl, hl, EvV.val h s Rep.int⟩
    · rw [if_neg hl] at h; exact h.elim
  · exact h.elim

theorem s_eqd (kx : Kx Xs M T W c) {neg : Bool} (s : Same G H) (hd : Rep M G d v) (he : Rep M G e u) {P : Bool → Prop}
    (h : GOk M E G H P (match d.py, e.py with
      | some p, some q => if SeqAt.shaped p = true ∧ SeqAt.shaped q = true then R.ok (if neg then !PyData.eqv p q else PyData.eqv p q) else .st
      | _, _ => .st)) (hp : ∀ b, P b → Q (.bl b) H) : OpW Xs (compareOp (if neg then .NotEq else .Eq)) v u H Q := by
  cases e1 : d.py with
  | none => rw [e1] at h; exact h.elim
  | some p =>
    cases e2 : e.py with
    | none => rw [e1, e2] at h; exact h.elim
    | some q =>
      rw [e1, e2] at h
      by_cases hs : SeqAt.shaped p = true ∧ SeqAt.shaped q = true
      · simp only [if_pos hs] at h
        have d1 := Dp.mono s (hd.dp e1)
        have d2 := Dp.mono s (he.dp e2)
        cases neg with
        | true => exact ⟨rNeD M.K, fun X hX => by rw [← kx.K X hX]; exact op_neD (by have := kx.room X hX; omega), p, q, d1, d2, hs.1, hs.2, hp _ h⟩
        | false => exact ⟨rEqD M.K, fun X hX => by rw [← kx.K X hX]; exact op_eqD (by have := kx.room X hX; omega), p, q, d1, d2, hs.1, hs.2, hp _ h⟩
      · simp only [if_neg hs] at h; exact h.elim
theorem s_eq (kx : Kx Xs M T W c) {neg : Bool} (s : Same G H) (hd : Rep M G d v) (he : Rep M G e u) {P : Bool → Prop} (h : GOk M E G H P (opEq neg d e)) (hp : ∀ b, P b → Q (.bl b) H) :
    OpW Xs (compareOp (if neg then .NotEq else .Eq)) v u H Q := by
  unfold opEq at h
  split at h
  · obtain rfl := hd.int'
    obtain rfl := he.int'
    rename_i i j
    have q := hp _ h
    rw [show decide (i = j) = decide (V.int i = V.int j) by simp] at q
    cases neg with
    | true => exact ⟨_, fun X _ => op_ne, rfl, q⟩
    | false => exact ⟨_, fun X _ => op_eq, rfl, q⟩
  · obtain rfl := hd.str'
    obtain rfl := he.str'
    rename_i i j
    have q := hp _ h
    rw [show decide (i = j) = decide (V.str i = V.str j) by simp] at q
    cases neg with
    | true => exact ⟨_, fun X _ => op_ne, rfl, q⟩
    | false => exact ⟨_, fun X _ => op_eq, rfl, q⟩
  · exact s_eqd kx s hd he h hp
theorem s_is (kx : Kx Xs M T W c) {neg : Bool} (s : Same G H) (hd : Rep M G d v) (he : Rep M G e u) {P : Bool → Prop} (h : GOk M E G H P (opIs d e)) (hp : ∀ b, P b → Q (.bl (if neg then !b else b)) H) :
    OpW Xs (compareOp (if neg then .IsNot else .Is)) v u H Q := by
  unfold opIs at h
  split at h
  · obtain rfl := he.non'
    have ev : decide (v = V.non) = d.isNon := by
      cases d with
      | non => obtain rfl := hd.non'; rfl
      | bl b => obtain rfl := hd.bl'; rfl
      | int b => obtain rfl := hd.int'; rfl
      | str b => obtain rfl := hd.str'; rfl
      | ty n => unfold Rep at hd; subst hd; rfl
      | tup ds => obtain ⟨a, vs, rfl, _⟩ := hd.tup'; rfl
      | lst ds => obtain ⟨a, vs, rfl, _⟩ := hd.lst'; rfl
      | scr ds => unfold Rep at hd; obtain ⟨a, rfl, _⟩ := hd; rfl
      | dct ds => unfold Rep at hd; obtain ⟨a, _, rfl, _⟩ := hd; rfl
      | obj cc ds => unfold Rep at hd; obtain ⟨a, _, _, _, rfl, _⟩ := hd; rfl
    have q := hp _ h
    rw [← ev] at q
    cases neg with
    | true => exact ⟨_, fun X _ => op_notN, rfl, q⟩
    | false => exact ⟨_, fun X _ => op_isN, rfl, q⟩
  · rename_i b
    obtain rfl := he.bl'
    have ev : decide (v = V.bl b) = d.isBl b := by
      cases d with
      | non => obtain rfl := hd.non'; rfl
      | bl b' => obtain rfl := hd.bl'; cases b <;> cases b' <;> rfl
      | int b => obtain rfl := hd.int'; rfl
      | str b => obtain rfl := hd.str'; rfl
      | ty n => unfold Rep at hd; subst hd; rfl
      | tup ds => obtain ⟨a, vs, rfl, _⟩ := hd.tup'; rfl
      | lst ds => obtain ⟨a, vs, rfl, _⟩ := hd.lst'; rfl
      | scr ds => unfold Rep at hd; obtain ⟨a, rfl, _⟩ := hd; rfl
      | dct ds => unfold Rep at hd; obtain ⟨a, _, rfl, _⟩ := hd; rfl
      | obj cc ds => unfold Rep at hd; obtain ⟨a, _, _, _, rfl, _⟩ := hd; rfl
    have q := hp _ h
    rw [← ev] at q
    cases neg with
    | true => exact ⟨_, fun X _ => op_isnB, _, rfl, q⟩
    | false => exact ⟨_, fun X _ => op_isB, _, rfl, q⟩
  · exact h.elim
theorem s_in (kx : Kx Xs M T W c) {neg : Bool} (s : Same G H) (hd : Rep M G d v) (he : Rep M G e u) {P : Bool → Prop} (h : GOk M E G H P (opIn d e)) (hp : ∀ b, P b → Q (.bl (if neg then !b else b)) H) :
    OpW Xs (compareOp (if neg then .NotIn else .In)) v u H Q := by
  unfold opIn at h
  split at h
  · rename_i x z
    obtain rfl := hd.str'
    obtain rfl := he.str'
    by_cases hx : x.cps.size = 1
    · rw [if_pos hx] at h
      have q := hp _ h
      have ex : x = ⟨#[x.cps.getD 0 0]⟩ := by
        obtain ⟨⟨l⟩⟩ := x
        match l, hx with
        | [a], _ => rfl
      cases neg with
      | true => exact ⟨_, fun X _ => op_notIn_sign, _, _, congrArg V.str ex, rfl, q⟩
      | false => exact ⟨_, fun X _ => op_in_sign, _, _, congrArg V.str ex, rfl, q⟩
    · rw [if_neg hx] at h; exact h.elim
  · rename List D => es
    obtain ⟨a, vs, rfl, h1, h2⟩ := he.lst'
    cases e1 : d.py with
    | none => rw [e1] at h; exact h.elim
    | some p =>
      cases e2 : D.pys es with
      | none => rw [e1, e2] at h; exact h.elim
      | some qs =>
        rw [e1, e2] at h
        by_cases hs : SeqAt.shaped p = true ∧ SeqAt.shaped (.list qs) = true
        · simp only [if_pos hs] at h
          have q := hp _ h
          have d1 := Dp.mono s (hd.dp e1)
          have d2 : Dp M.K H (.ref a) (.list qs) := Dp.mono s (.lst (.inl (.inl h1)) (Reps.dp h2 e2))
          cases neg with
          | true => exact ⟨rNotInD M.K, fun X hX => by rw [← kx.K X hX]; exact op_notInD (by have := kx.room X hX; omega), p, qs, d1, d2, hs.1, hs.2, q⟩
          | false => exact ⟨rInD M.K, fun X hX => by rw [← kx.K X hX]; exact op_inD (by have := kx.room X hX; omega), p, qs, d1, d2, hs.1, hs.2, q⟩
        · simp only [if_neg hs] at h; exact h.elim
  · exact h.elim
theorem s_cmp (kx : Kx Xs M T W c) {op : CmpOp} (s : Same G H) (hd : Rep M G d v) (he : Rep M G e u) {P : Bool → Prop} (h : GOk M E G H P (opCmp op d e)) (hp : ∀ b, P b → Q (.bl b) H) : OpW Xs (compareOp op) v u H Q := by
  cases op with
  | Eq => exact s_eq (neg := false) kx s hd he h hp
  | NotEq => exact s_eq (neg := true) kx s hd he h hp
  | Lt =>
    have h : GOk M E G H P (opI2 (fun i j => decide (i < j)) d e) := h
    unfold opI2 at h
    split at h
    · obtain rfl := hd.int'
      obtain rfl := he.int'
      exact ⟨_, fun X _ => op_lt, _, _, rfl, rfl, hp _ h⟩
    · exact h.elim
  | LtE =>
    have h : GOk M E G H P (opI2 (fun i j => decide (i ≤ j)) d e) := h
    unfold opI2 at h
    split at h
    · obtain rfl := hd.int'
      obtain rfl := he.int'
      exact ⟨_, fun X _ => op_le, _, _, rfl, rfl, hp _ h⟩
    · exact h.elim
  | Gt =>
    have h : GOk M E G H P (opI2 (fun i j => decide (j < i)) d e) := h
    unfold opI2 at h
    split at h
    · obtain rfl := hd.int'
      obtain rfl := he.int'
      exact ⟨_, fun X _ => op_gt, _, _, rfl, rfl, hp _ h⟩
    · exact h.elim
  | GtE =>
    have h : GOk M E G H P (opI2 (fun i j => decide (j ≤ i)) d e) := h
    unfold opI2 at h
    split at h
    · obtain rfl := hd.int'
      obtain rfl := he.int'
      exact ⟨_, fun X _ => op_ge, _, _, rfl, rfl, hp _ h⟩
    · exact h.elim
  | Is => exact s_is (neg := false) kx s hd he h hp
  | IsNot => exact s_is (neg := true) kx s hd he (GOk.map h) (fun b q => hp _ q)
  | In => exact s_in (neg := false) kx s hd he h hp
  | NotIn => exact s_in (neg := true) kx s hd he (GOk.map h) (fun b q => hp _ q)
theorem s_ix (kx : Kx Xs M T W c) (s : Same G H) (hd : Rep M G d v) (he : Rep M G e u) (h : GOk M E G H (EvV M G H Q) (opIx d e)) : IxW Xs v u H Q := by
  unfold opIx at h
  split at h
  · obtain ⟨a, vs, rfl, h1, r1⟩ := hd.lst'
    obtain rfl := he.int'
    split at h
    · rename_i x ex
      obtain ⟨w, e1, e2⟩ := r1.atI ex
      exact ⟨rIxL M.K, fun X hX => by rw [← kx.K X hX]; exact ix_list, a, vs, _, w, rfl, rfl, .inl (.inl (s _ _ h1)), e1, EvV.val h s e2⟩
    · exact h.elim
  · obtain ⟨a, vs, rfl, h1, r1⟩ := hd.tup'
    obtain rfl := he.int'
    split at h
    · rename_i x ex
      obtain ⟨w, e1, e2⟩ := r1.atI ex
      exact ⟨rIxT M.K, fun X hX => by rw [← kx.K X hX]; exact ix_tup, a, vs, _, w, rfl, rfl, Same.seqT s h1, e1, EvV.val h s e2⟩
    · exact h.elim
  · rename_i xs i
    unfold Rep at hd
    obtain ⟨a, rfl, h1⟩ := hd
    obtain rfl := he.int'
    split at h
    · rename_i x ex
      have e1 : atI (xs.map V.int) i = some (V.int x) := by
        unfold atI at ex ⊢
        rw [List.length_map]
        cases e : ixN xs.length i with
        | none => rw [e] at ex; simp at ex
        | some j => rw [e] at ex; simp at ex; simp [ex]
      exact ⟨rIxL M.K, fun X hX => by rw [← kx.K X hX]; exact ix_list, a, _, _, _, rfl, rfl, s.seq h1, e1, EvV.val h s Rep.int⟩
    · exact h.elim
  · rename_i z i
    obtain rfl := hd.str'
    obtain rfl := he.int'
    by_cases hl : z.length ≤ sizeLine
    · rw [if_pos hl] at h
      split at h
      · rename_i x ex
        exact ⟨rIxS, fun X hX => ix_str, z, _, x, rfl, rfl, hl, ex, EvV.val h s Rep.str⟩
      · exact h.elim
    · rw [if_neg hl] at h; exact h.elim
  · exact h.elim
theorem s_sl (kx : Kx Xs M T W c) {lo hi : Option Int} (s : Same G H) (hd : Rep M G d v) (h : GOk M E G H (EvV M G H Q) (opSl d lo hi)) : SlW Xs v lo hi H Q := by
  unfold opSl at h
  split at h
  · obtain ⟨a, vs, rfl, h1, r1⟩ := hd.lst'
    exact ⟨rSlL M.K, fun X hX => by rw [← kx.K X hX]; exact sl_list, a, vs, rfl, .inl (.inl (s _ _ h1)), newLst h s (r1.cut lo hi)⟩
  · obtain ⟨a, vs, rfl, h1, r1⟩ := hd.tup'
    refine ⟨rSlA M.K, fun X hX => by rw [← kx.K X hX]; exact sl_tupA, a, vs, rfl, Same.seqT s h1, fun z => ?_, fun _ => newTup h s (r1.cut lo hi)⟩

    refine EvV.val h s ?_
    unfold Rep
    refine ⟨a, vs, rfl, h1, ?_⟩
    have ev : cutV vs lo hi = vs := by
      unfold cutV
      rw [z.1, z.2]
      simp
    have q := r1.cut lo hi
    rw [ev] at q
    exact q
  · rename_i z
    obtain rfl := hd.str'
    by_cases hl : z.length ≤ sizeLine
    · rw [if_pos hl] at h
      exact ⟨rSlS, fun X hX => sl_str, z, rfl, hl, EvV.val h s Rep.str⟩
    · rw [if_neg hl] at h; exact h.elim
  · exact h.elim
end
end PX

set_option Elab.async false
set_option linter.all false
set_option maxRecDepth 100000
/-! Px5: built-in functions and methods by values; walks. -/
namespace PX
open PySem PySem.Spec PyProof.Rows L2

section
variable {Xs : Cx → Prop} {M : Md} {T : Tb} {W : WX} {c : Cs} {E : XK} {G H : Hp} {Q : VK} {d e : D} {v u : V} {vs : List V}
theorem Reps.one' (h : Reps M G [d] vs) : ∃ v, vs = [v] ∧ Rep M G d v := by
  unfold Reps at h
  obtain ⟨v, r, rfl, h1, h2⟩ := h
  unfold Reps at h2
  subst h2
  exact ⟨v, rfl, h1⟩
theorem Reps.two' (h : Reps M G [d, e] vs) : ∃ v u, vs = [v, u] ∧ Rep M G d v ∧ Rep M G e u := by
  unfold Reps at h
  obtain ⟨v, r, rfl, h1, h2⟩ := h
  obtain ⟨u, rfl, h3⟩ := Reps.one' h2
  exact ⟨v, u, rfl, h1, h3⟩
theorem tyX_of (s : Same G H) (hd : Rep M G d v) {t : String} (h : tyName d = some t) : TyX M.K H v (.type t) := by
  cases d with
  | non => cases h; obtain rfl := hd.non'; exact .base .non
  | bl b => cases h; obtain rfl := hd.bl'; exact .base (.bl _)
  | int b => cases h; obtain rfl := hd.int'; exact .base (.int _)
  | str b => cases h; obtain rfl := hd.str'; exact .base (.str _)
  | ty n => cases h
  | tup ds =>
    cases h
    obtain ⟨a, vs, rfl, h1, _⟩ := hd.tup'
    rcases h1 with (h1 | ⟨o, h1⟩) | ⟨o, its, n, h1, h2, _⟩
    · exact .base (.tup (s _ _ h1))
    · exact .fTuple (s _ _ h1)
    · exact .kTuple h1 h2
  | lst ds =>
    cases h
    obtain ⟨a, vs, rfl, h1, _⟩ := hd.lst'
    exact .base (.lst (s _ _ h1))
  | scr ns =>
    cases h
    unfold Rep at hd
    obtain ⟨a, rfl, h1⟩ := hd
    rcases h1 with (h1 | ⟨o, h1⟩) | ⟨o, its, n, h1, h2, _⟩
    · exact .base (.lst (s _ _ h1))
    · exact .base (.frz (s _ _ h1))
    · exact .kList h1 h2
  | dct ds =>
    cases h
    unfold Rep at hd
    obtain ⟨a, _, rfl, h1, _⟩ := hd
    exact .base (.dK (s _ _ h1))
  | obj _ _ => cases h
theorem maxL_spec : ∀ {ns : List Int} {m k : Int}, maxL ns = some m → k ∈ ns → (∀ y, y ∈ ns → y ≤ k) → k = m := by
  intro ns m k h hk hm
  cases ns with
  | nil => cases h
  | cons x r =>
    unfold maxL at h
    cases h
    have key : ∀ (l : List Int) (a : Int), a ≤ l.foldl (fun a b => if a < b then b else a) a ∧ (∀ y ∈ l, y ≤ l.foldl (fun a b => if a < b then b else a) a) ∧ (l.foldl (fun a b => if a < b then b else a) a = a ∨ l.foldl (fun a b => if a < b then b else a) a ∈ l) := by
      intro l
      induction l with
      | nil => intro a; simp
      | cons z l ih =>
        intro a
        simp only [List.foldl_cons]
        obtain ⟨i1, i2, i3⟩ := ih (if a < z then z else a)
        have ha : a ≤ (if a < z then z else a) := by split <;> omega
        have hz' : z ≤ (if a < z then z else a) := by split <;> omega
        refine ⟨Int.le_trans ha i1, ?_, ?_⟩
        · intro y hy
          rcases List.mem_cons.mp hy with rfl | hy
          · exact Int.le_trans hz' i1
          · exact i2 y hy
        · rcases i3 with i3 | i3
          · by_cases hz : a < z
            · right; rw [if_pos hz] at i3 ⊢; rw [i3]; exact List.mem_cons_self
            · left; rw [if_neg hz] at i3 ⊢; exact i3
          · right; exact List.mem_cons_of_mem _ i3
    obtain ⟨k1, k2, k3⟩ := key r x
    have h1 : k ≤ r.foldl (fun a b => if a < b then b else a) x := by
      rcases List.mem_cons.mp hk with rfl | hk
      · exact k1
      · exact k2 k hk
    have h2 : r.foldl (fun a b => if a < b then b else a) x ≤ k := by
      rcases k3 with k3 | k3
      · rw [k3]; exact hm _ List.mem_cons_self
      · exact hm _ (List.mem_cons_of_mem _ k3)
    omega
theorem minL_spec : ∀ {ns : List Int} {m k : Int}, minL ns = some m → k ∈ ns → (∀ y, y ∈ ns → k ≤ y) → k = m := by
  intro ns m k h hk hm
  cases ns with
  | nil => cases h
  | cons x r =>
    unfold minL at h
    cases h
    have key : ∀ (l : List Int) (a : Int), l.foldl (fun a b => if b < a then b else a) a ≤ a ∧ (∀ y ∈ l, l.foldl (fun a b => if b < a then b else a) a ≤ y) ∧ (l.foldl (fun a b => if b < a then b else a) a = a ∨ l.foldl (fun a b => if b < a then b else a) a ∈ l) := by
      intro l
      induction l with
      | nil => intro a; simp
      | cons z l ih =>
        intro a
        simp only [List.foldl_cons]
        obtain ⟨i1, i2, i3⟩ := ih (if z < a then z else a)
        have ha : (if z < a then z else a) ≤ a := by split <;> omega
        have hz' : (if z < a then z else a) ≤ z := by split <;> omega
        refine ⟨Int.le_trans i1 ha, ?_, ?_⟩
        · intro y hy
          rcases List.mem_cons.mp hy with rfl | hy
          · exact Int.le_trans i1 hz'
          · exact i2 y hy
        · rcases i3 with i3 | i3
          · by_cases hz : z < a
            · right; rw [if_pos hz] at i3 ⊢; rw [i3]; exact List.mem_cons_self
            · left; rw [if_neg hz] at i3 ⊢; exact i3
          · right; exact List.mem_cons_of_mem _ i3
    obtain ⟨k1, k2, k3⟩ := key r x
    have h1 : r.foldl (fun a b => if b < a then b else a) x ≤ k := by
      rcases List.mem_cons.mp hk with rfl | hk
      · exact k1
      · exact k2 k hk
    have h2 : k ≤ r.foldl (fun a b => if b < a then b else a) x := by
      rcases k3 with k3 | k3
      · rw [k3]; exact hm _ List.mem_cons_self
      · exact hm _ (List.mem_cons_of_mem _ k3)
    omega
theorem cr_lcm {X : Cx} : CallR X (.builtin "math.lcm") (fun vs H Q => ∃ a b : Int, vs = [.int a, .int b] ∧ (a.natAbs < 2 ^ 64 ∧ b.natAbs < 2 ^ 64) ∧ Q (.int ((Nat.lcm a.natAbs b.natAbs : Nat) : Int)) H) := by
  intro pins s σ H vs us Q I r h
  obtain ⟨a, b, rfl, ⟨ha, hb⟩, q⟩ := h
  obtain ⟨t, u, rfl⟩ := Vals.int2 r
  have e : Nat.lcm 1 a.natAbs = a.natAbs := Nat.lcm_one_left _
  refine PySem.W.mg_lcm ha hb ?_ ?_
  · rw [e, Int.natAbs_natCast]
    have h1 : Nat.lcm a.natAbs b.natAbs ≤ a.natAbs * b.natAbs := Nat.div_le_self _ _
    have h2 : a.natAbs * b.natAbs < 2 ^ 64 * 2 ^ 64 := Nat.mul_lt_mul'' ha hb
    have h3 : Nat.lcm a.natAbs b.natAbs < 2 ^ 128 := Nat.lt_of_le_of_lt h1 (by simpa using h2)
    have := PySem.Flt.log2_lt_of (by decide : 0 < 128) h3
    have e2 : bitsLine = 134217728 := by decide
    omega
  · rw [e]
    exact ⟨.int _, H, I.tok _, ⟨_, rfl⟩, q⟩

def biVal : Bi → Value
  | .len => .builtin "len" | .abs => .builtin "abs" | .int => .type "int" | .str => .type "str" | .gcd => .builtin "math.gcd" | .lcm => .builtin "math.lcm" | .list => .type "list" | .tuple => .type "tuple" | .isI => .builtin "isinstance"
  | .max => .builtin "max" | .min => .builtin "min" | .sum => .builtin "sum" | .sorted => .builtin "sorted" | .all => .builtin "all" | .any => .builtin "any"

theorem s_bi (kx : Kx Xs M T W c) {f : Bi} (hcool : f.cool = true → c.hot = false) (s : Same G H) {ds : List D} (hr : Reps M G ds vs) (h : GOk M E G H (EvV M G H Q) (evBi f ds)) : CallW Xs (biVal f) vs H Q := by
  unfold evBi at h
  split at h
  · obtain ⟨v, rfl, r⟩ := hr.one'
    obtain ⟨a, vs, rfl, h1, r1⟩ := r.lst'
    exact ⟨fun xs H Q => ∃ p ys, xs = [V.ref p] ∧ (SqL M.K H p ys ∨ SqT M.K H p ys) ∧ Q (.int ys.length) H, fun X hX => by rw [← kx.K X hX]; exact call_len_seq, a, vs, rfl, .inl (.inl (.inl (s _ _ h1))), EvV.val h s (by rw [← r1.length]; exact Rep.int)⟩
  · obtain ⟨v, rfl, r⟩ := hr.one'
    obtain ⟨a, vs, rfl, h1, r1⟩ := r.tup'
    exact ⟨fun xs H Q => ∃ p ys, xs = [V.ref p] ∧ (SqL M.K H p ys ∨ SqT M.K H p ys) ∧ Q (.int ys.length) H, fun X hX => by rw [← kx.K X hX]; exact call_len_seq, a, vs, rfl, .inr (Same.seqT s h1), EvV.val h s (by rw [← r1.length]; exact Rep.int)⟩
  · rename_i ns
    obtain ⟨v, rfl, r⟩ := hr.one'
    unfold Rep at r
    obtain ⟨a, rfl, h1⟩ := r
    exact ⟨fun xs H Q => ∃ p ys, xs = [V.ref p] ∧ (SqL M.K H p ys ∨ SqT M.K H p ys) ∧ Q (.int ys.length) H, fun X hX => by rw [← kx.K X hX]; exact call_len_seq, a, _, rfl, .inl (s.seq h1), EvV.val h s (by rw [List.length_map]; exact Rep.int)⟩
  · rename_i z
    obtain ⟨v, rfl, r⟩ := hr.one'
    obtain rfl := r.str'
    by_cases hl : z.length ≤ sizeLine
    · rw [if_pos hl] at h
      exact ⟨_, fun X hX => call_len_str, z, rfl, hl, EvV.val h s Rep.int⟩
    · rw [if_neg hl] at h; exact h.elim
  · obtain ⟨v, rfl, r⟩ := hr.one'
    obtain rfl := r.int'
    exact ⟨_, fun X hX => call_abs, _, rfl, EvV.val h s Rep.int⟩
  · obtain ⟨v, rfl, r⟩ := hr.one'
    obtain rfl := r.int'
    exact ⟨_, fun X hX => call_int1, .inl ⟨_, rfl, EvV.val h s Rep.int⟩⟩
  · obtain ⟨v, rfl, r⟩ := hr.one'
    obtain rfl := r.bl'
    exact ⟨_, fun X hX => call_int1, .inr ⟨_, rfl, EvV.val h s Rep.int⟩⟩
  · rename_i z
    obtain ⟨v, rfl, r⟩ := hr.one'
    obtain rfl := r.str'
    split at h
    · rename_i n en
      by_cases hl : z.length ≤ 640
      · rw [if_pos hl] at h
        exact ⟨_, fun X hX => call_int_str, z, n, rfl, en, hl, EvV.val h s Rep.int⟩
      · rw [if_neg hl] at h; exact h.elim
    · exact h.elim
  · rename_i i
    obtain ⟨v, rfl, r⟩ := hr.one'
    obtain rfl := r.int'
    by_cases hl : lgI i < 1920
    · rw [if_pos hl] at h
      exact ⟨_, fun X hX => call_str_int, i, rfl, hl, EvV.val h s Rep.str⟩
    · rw [if_neg hl] at h; exact h.elim
  · obtain ⟨v, u, rfl, r1, r2⟩ := hr.two'
    obtain rfl := r1.int'
    obtain rfl := r2.int'
    exact ⟨_, fun X hX => cr_gcd, _, _, rfl, EvV.val h s Rep.int⟩
  · rename_i a b
    obtain ⟨v, u, rfl, r1, r2⟩ := hr.two'
    obtain rfl := r1.int'
    obtain rfl := r2.int'
    by_cases hl : a.natAbs < 2 ^ 64 ∧ b.natAbs < 2 ^ 64
    · rw [if_pos hl] at h
      exact ⟨_, fun X hX => cr_lcm, _, _, rfl, hl, EvV.val h s Rep.int⟩
    · rw [if_neg hl] at h; exact h.elim
  · obtain ⟨v, rfl, r⟩ := hr.one'
    obtain ⟨a, vs, rfl, h1, r1⟩ := r.lst'
    exact ⟨fun xs H Q => ∃ p ys, xs = [V.ref p] ∧ (SqL M.K H p ys ∨ SqT M.K H p ys) ∧ ∀ l, H l = none → Q (.ref l) (upd H l (.lst ys)), fun X hX => by rw [← kx.K X hX]; exact call_list_of, a, vs, rfl, .inl (.inl (.inl (s _ _ h1))), newLst h s r1⟩
  · obtain ⟨v, rfl, r⟩ := hr.one'
    obtain ⟨a, vs, rfl, h1, r1⟩ := r.tup'
    exact ⟨fun xs H Q => ∃ p ys, xs = [V.ref p] ∧ (SqL M.K H p ys ∨ SqT M.K H p ys) ∧ ∀ l, H l = none → Q (.ref l) (upd H l (.lst ys)), fun X hX => by rw [← kx.K X hX]; exact call_list_of, a, vs, rfl, .inr (Same.seqT s h1), newLst h s r1⟩
  · rename_i ns
    obtain ⟨v, rfl, r⟩ := hr.one'
    unfold Rep at r
    obtain ⟨a, rfl, h1⟩ := r
    exact ⟨fun xs H Q => ∃ p ys, xs = [V.ref p] ∧ (SqL M.K H p ys ∨ SqT M.K H p ys) ∧ ∀ l, H l = none → Q (.ref l) (upd H l (.lst ys)), fun X hX => by rw [← kx.K X hX]; exact call_list_of, a, _, rfl, .inl (s.seq h1), newLst h s (Reps.ofInts ns)⟩
  · obtain ⟨v, rfl, r⟩ := hr.one'
    obtain ⟨a, vs, rfl, h1, r1⟩ := r.lst'
    exact ⟨fun xs H Q => ∃ p ys, xs = [V.ref p] ∧ ((SqL M.K H p ys ∧ ∀ l, H l = none → Q (.ref l) (upd H l (.tup ys))) ∨ (SqT M.K H p ys ∧ Q (.ref p) H)), fun X hX => by rw [← kx.K X hX]; exact call_tuple_of, a, vs, rfl, .inl ⟨.inl (.inl (s _ _ h1)), newTup h s r1⟩⟩
  · rename_i ds
    obtain ⟨v, rfl, r⟩ := hr.one'
    obtain ⟨a, vs, rfl, h1, r1⟩ := r.tup'
    exact ⟨fun xs H Q => ∃ p ys, xs = [V.ref p] ∧ ((SqL M.K H p ys ∧ ∀ l, H l = none → Q (.ref l) (upd H l (.tup ys))) ∨ (SqT M.K H p ys ∧ Q (.ref p) H)), fun X hX => by rw [← kx.K X hX]; exact call_tuple_of, a, vs, rfl, .inr ⟨Same.seqT s h1, EvV.val h s (by unfold Rep; exact ⟨a, vs, rfl, h1, r1⟩)⟩⟩
  · obtain ⟨v, u, rfl, r1, r2⟩ := hr.two'
    unfold Rep at r2
    subst r2
    split at h
    · rename_i t et
      split at h
      · rename_i b eb
        exact ⟨rIsi M.K, fun X hX => by rw [← kx.K X hX]; exact call_isi, _, _, _, _, _, rfl, .ty _, tyX_of s r1 et, kit_ty eb, EvV.val h s Rep.bl⟩
      · exact h.elim
    · exact h.elim
  · obtain ⟨v, u, rfl, r1, r2⟩ := hr.two'
    obtain rfl := r1.int'
    obtain rfl := r2.int'
    exact ⟨_, fun X hX => call_max2 (kx.calm (hcool rfl) X hX), _, _, rfl, EvV.val h s Rep.int⟩
  · obtain ⟨v, u, rfl, r1, r2⟩ := hr.two'
    obtain rfl := r1.int'
    obtain rfl := r2.int'
    exact ⟨_, fun X hX => call_min2 (kx.calm (hcool rfl) X hX), _, _, rfl, EvV.val h s Rep.int⟩
  · obtain ⟨v, rfl, r⟩ := hr.one'
    obtain ⟨a, vs, rfl, h1, r1⟩ := r.lst'
    split at h
    · rename_i ns en
      split at h
      · rename_i m em
        have ev := r1.ints en
        subst ev
        refine ⟨rMax M.K, fun X hX => by rw [← kx.K X hX]; exact cr_max (kx.calm (hcool rfl) X hX), a, ns, rfl, .inl (.inl (s _ _ h1)), ?_, fun k hk hm => ?_⟩
        · cases ns with
          | nil => cases em
          | cons _ _ => simp
        · rw [maxL_spec em hk hm]; exact EvV.val h s Rep.int
      · exact h.elim
    · exact h.elim
  · obtain ⟨v, rfl, r⟩ := hr.one'
    obtain ⟨a, vs, rfl, h1, r1⟩ := r.lst'
    split at h
    · rename_i ns en
      split at h
      · rename_i m em
        have ev := r1.ints en
        subst ev
        refine ⟨rMin M.K, fun X hX => by rw [← kx.K X hX]; exact cr_min (kx.calm (hcool rfl) X hX), a, ns, rfl, .inl (.inl (s _ _ h1)), ?_, fun k hk hm => ?_⟩
        · cases ns with
          | nil => cases em
          | cons _ _ => simp
        · rw [minL_spec em hk hm]; exact EvV.val h s Rep.int
      · exact h.elim
    · exact h.elim
  · obtain ⟨v, rfl, r⟩ := hr.one'
    obtain ⟨a, vs, rfl, h1, r1⟩ := r.lst'
    split at h
    · rename_i ns en
      have ev := r1.ints en
      subst ev
      exact ⟨rSum M.K, fun X hX => by rw [← kx.K X hX]; exact cr_sum (kx.calm (hcool rfl) X hX), a, ns, rfl, .inl (.inl (s _ _ h1)), EvV.val h s Rep.int⟩
    · exact h.elim
  · obtain ⟨v, rfl, r⟩ := hr.one'
    obtain ⟨a, vs, rfl, h1, r1⟩ := r.lst'
    split at h
    · rename_i ns en
      have ev := r1.ints en
      subst ev
      refine ⟨rSortedI M.K, fun X hX => by rw [← kx.K X hX]; exact cr_sortedI, a, ns, rfl, .inl (.inl (s _ _ h1)), fun ns' p hp ho hn => ?_⟩
      have e1 : ns' = ns.mergeSort (fun a b => decide (a ≤ b)) := by
        refine PySem.W.ksm_same (hp.trans (List.mergeSort_perm _ _).symm) ho ?_
        have := List.pairwise_mergeSort (le := fun a b : Int => decide (a ≤ b)) (by intro a b c; simp; omega) (by intro a b; simp; omega) ns
        exact this.imp (by intro a b; simp)
      subst e1
      exact newLst h s (Reps.ofInts _) p hn
    · exact h.elim
  · obtain ⟨v, rfl, r⟩ := hr.one'
    obtain ⟨a, vs, rfl, h1, r1⟩ := r.lst'
    split at h
    · rename_i ns en
      have ev := r1.bools en
      subst ev
      exact ⟨rAll M.K, fun X hX => by rw [← kx.K X hX]; exact cr_all (kx.calm (hcool rfl) X hX), a, ns, rfl, .inl (.inl (s _ _ h1)), EvV.val h s Rep.bl⟩
    · exact h.elim
  · obtain ⟨v, rfl, r⟩ := hr.one'
    obtain ⟨a, vs, rfl, h1, r1⟩ := r.lst'
    split at h
    · rename_i ns en
      have ev := r1.bools en
      subst ev
      exact ⟨rAny M.K, fun X hX => by rw [← kx.K X hX]; exact cr_any (kx.calm (hcool rfl) X hX), a, ns, rfl, .inl (.inl (s _ _ h1)), EvV.val h s Rep.bl⟩
    · exact h.elim
  · exact h.elim

def meId : Me → String
  | .part => "str.partition" | .split => "str.split" | .join => "str.join" | .index => "str.index"
theorem s_me (kx : Kx Xs M T W c) {m : Me} {a : Str} (s : Same G H) (he : Rep M G e u) (h : GOk M E G H (EvV M G H Q) (evMe m a [e])) : MtW Xs (meId m) (.str a) [u] H Q := by
  unfold evMe at h
  split at h
  · rename_i b eb
    cases eb
    obtain rfl := he.str'
    by_cases hl : b.length ≠ 0 ∧ a.length ≤ sizeLine
    · rw [if_pos hl] at h
      refine ⟨_, fun X hX => mt_partition, a, b, rfl, rfl, by simpa using hl.1, hl.2, newTup h s ?_⟩
      unfold Reps; refine ⟨_, _, rfl, Rep.str, ?_⟩
      unfold Reps; refine ⟨_, _, rfl, Rep.str, ?_⟩
      unfold Reps; refine ⟨_, _, rfl, Rep.str, ?_⟩
      unfold Reps; rfl
    · rw [if_neg hl] at h; exact h.elim
  · rename_i b eb
    cases eb
    obtain rfl := he.str'
    by_cases hl : b.length ≠ 0 ∧ a.length + 2 ≤ sizeLine
    · rw [if_pos hl] at h
      exact ⟨_, fun X hX => mt_split, a, b, rfl, rfl, by simpa using hl.1, hl.2, newLst h s (Reps.ofStrs _)⟩
    · rw [if_neg hl] at h; exact h.elim
  · rename_i xs eb
    cases eb
    obtain ⟨p, vs, rfl, h1, r1⟩ := he.lst'
    split at h
    · rename_i ys ey
      have ev := r1.strs ey
      subst ev
      by_cases hl : (ys.map (·.length)).sum + ys.length * a.length ≤ 16777216
      · rw [if_pos hl] at h
        exact ⟨fun x xs H Q => ∃ a p, ∃ ys : List Str, x = .str a ∧ xs = [.ref p] ∧ (SqL M.K H p (ys.map V.str) ∨ SqT M.K H p (ys.map V.str)) ∧ (ys.map (·.length)).sum + ys.length * a.length ≤ 16777216 ∧ Q (.str (Txt.join a ys)) H, fun X hX => by rw [← kx.K X hX]; exact mt_join, a, p, ys, rfl, rfl, .inl (.inl (.inl (s _ _ h1))), hl, EvV.val h s Rep.str⟩
      · rw [if_neg hl] at h; exact h.elim
    · exact h.elim
  · exact h.elim
end
end PX

set_option Elab.async false
set_option linter.all false
set_option maxRecDepth 100000
/-! Px6: what a walk gives; comprehensions. -/
namespace PX
open PySem PySem.Spec PyProof.Rows L2

def isTupO : HO → Bool
  | .tup _ => true
  | .frz _ (.tup _) => true
  | _ => false
section
variable {M : Md} {G G2 : Hp}
/-- what is frozen in G, and the tuples of G2 -/
def keepT (G G2 : Hp) : Hp := fun a => match G a with
  | some o => some o
  | none => match G2 a with
    | some o => if isTupO o = true then some o else none
    | none => none
theorem keepT_old {a : Addr} {o : HO} (h : G a = some o) : keepT G G2 a = some o := by unfold keepT; rw [h]
theorem keepT_tup {a : Addr} {o : HO} (s : Same G G2) (h : G2 a = some o) (t : isTupO o = true) : keepT G G2 a = some o := by
  unfold keepT
  cases e : G a with
  | some u => have := s a u e; rw [h] at this; cases this; rfl
  | none => simp only [h, t, if_true]
theorem keepT_of (s : Same G G2) {a : Addr} {o : HO} (h : keepT G G2 a = some o) : G2 a = some o ∧ (G a = some o ∨ isTupO o = true) := by
  unfold keepT at h
  cases e : G a with
  | some u => rw [e] at h; cases h; exact ⟨s a _ e, .inl rfl⟩
  | none =>
    rw [e] at h
    cases e2 : G2 a with
    | none => rw [e2] at h; cases h
    | some u =>
      rw [e2] at h
      by_cases ht : isTupO u = true
      · simp only [ht, if_true] at h; cases h; exact ⟨rfl, .inr ht⟩
      · simp only [ht, if_false] at h; cases h
mutual
theorem Rep.kept (s : Same G G2) : ∀ (d : D) (v : V), d.lf = true → Rep M G2 d v → Rep M (keepT G G2) d v
  | .non, v, _, h => h
  | .bl _, v, _, h => h
  | .int _, v, _, h => h
  | .str _, v, _, h => h
  | .ty _, v, _, h => h
  | .tup ds, v, hl, h => by
    unfold Rep at h ⊢
    unfold D.lf at hl
    obtain ⟨a, vs, e, h1, h2⟩ := h
    refine ⟨a, vs, e, ?_, Reps.kept s ds vs hl h2⟩
    rcases h1 with (h1 | ⟨o, h1⟩) | h1
    · exact .inl (.inl (keepT_tup s h1 rfl))
    · exact .inl (.inr ⟨o, keepT_tup s h1 rfl⟩)
    · exact .inr h1
  | .lst _, v, hl, h => by unfold D.lf at hl; cases hl
  | .scr _, v, hl, h => by unfold D.lf at hl; cases hl
  | .dct _, v, hl, h => by unfold D.lf at hl; cases hl
  | .obj _ _, v, hl, h => by unfold D.lf at hl; cases hl
theorem Reps.kept (s : Same G G2) : ∀ (d : List D) (v : List V), D.lfs d = true → Reps M G2 d v → Reps M (keepT G G2) d v
  | [], v, _, h => by unfold Reps at h ⊢; exact h
  | d :: ds, v, hl, h => by
    unfold D.lfs at hl
    rw [Bool.and_eq_true] at hl
    unfold Reps at h ⊢
    obtain ⟨u, r, e, h1, h2⟩ := h
    exact ⟨u, r, e, Rep.kept s d u hl.1 h1, Reps.kept s ds r hl.2 h2⟩
end
end
/-- the walk J gives these items, while what was frozen at its start stays so -/
def Wk (M : Md) (G1 : Hp) (J : It) (items : List D) : Prop := ∀ G H, Same G1 G → Same G H →
  (∀ i, i < items.length → J.go i H) ∧ J.stop items.length H ∧ ∀ (i : Nat) (d : D), items[i]? = some d → ∀ x H', J.yld i H x H' → ∃ G', Ext G H G' H' ∧ Rep M G' d x
section
variable {M : Md} {G1 : Hp} {a b : Addr} {vs us : List V} {ds es : List D}
theorem wk_at {J : It} {n : Nat} (hn : n = ds.length) (w : ∀ H, Same G1 H → Walk J n (fun H' => H' = H) (YAt vs)) (r : Reps M G1 ds vs) : Wk M G1 J ds := fun G H s t => by
  subst hn
  have w := w H (s.trans t)
  refine ⟨fun i hi => w.goes i H hi rfl, w.stops H rfl, fun i d e x H' y => ?_⟩
  have hi : i < ds.length := by
    have := List.getElem?_eq_some_iff.mp e
    exact this.1
  obtain ⟨e1, e2⟩ := w.yields i H x H' hi rfl y
  subst e1
  obtain ⟨v, h1, h2⟩ := r.get e
  rw [h1] at e2; cases e2
  exact ⟨G, Ext.refl t, Rep.mono s _ _ h2⟩
theorem wk_list (h : G1 a = some (.lst vs)) (r : Reps M G1 ds vs) : Wk M G1 (Itl M.K a) ds :=
  wk_at (n := vs.length) r.length (fun H s => walk_list.mono (fun H' e => by rw [e]; exact .inl (.inl (s _ _ h))) fun _ _ _ _ _ _ y => y) r
theorem wk_tup (h : SqT M.K G1 a vs) (r : Reps M G1 ds vs) : Wk M G1 (Itt M.K a) ds :=
  wk_at (n := vs.length) r.length (fun H s => walk_tup.mono (fun H' e => by rw [e]; exact Same.seqT s h) fun _ _ _ _ _ _ y => y) r
theorem wk_rev (h : G1 a = some (.lst vs)) (r : Reps M G1 ds vs) : Wk M G1 (Itv M.K a vs.length) ds.reverse :=
  wk_at (n := vs.length) (by rw [List.length_reverse, r.length]) (fun H s => walk_rev.mono (fun H' e => by rw [e]; exact .inl (.inl (s _ _ h))) fun i _ x _ hi _ y => ⟨y.1, by
    rw [List.getElem?_reverse hi]; exact y.2⟩) r.rev
theorem wk_revT (h : SqT M.K G1 a vs) (r : Reps M G1 ds vs) : Wk M G1 (RT.ItvT M.K a vs.length) ds.reverse := by
  refine wk_at (n := vs.length) (by rw [List.length_reverse, r.length]) (fun H s => ?_) r.rev
  have q : SqT M.K H a vs := Same.seqT s h
  refine ⟨fun i H' hi e => ?_, fun _ _ => Nat.le_refl _, fun i H' x H2 hi e y => ?_⟩
  · subst e
    exact ⟨hi, vs, vs[vs.length - 1 - i]'(by omega), q, by simp [show vs.length - 1 - i < vs.length by omega]⟩
  · subst e
    exact ⟨y.1, by rw [List.getElem?_reverse hi]; exact y.2 vs q⟩
theorem wk_range {lo : Int} {n : Nat} : Wk M G1 (Itr lo n) ((List.range n).map fun (i : Nat) => D.int (lo + (i : Int))) := fun G H s t => by
  refine ⟨fun i hi => by simpa [Itr] using hi, by simp [Itr], fun i d e x H' y => ?_⟩
  obtain ⟨e1, e2⟩ := y
  subst e1 e2
  have hi : i < n := by
    have := (List.getElem?_eq_some_iff.mp e).1
    simpa using this
  rw [List.getElem?_map, List.getElem?_range hi] at e
  cases e
  exact ⟨G, Ext.refl t, Rep.int⟩
theorem wk_str {z : Str} : Wk M G1 (Its z) (z.cps.toList.map fun c => D.str ⟨#[c]⟩) := fun G H s t => by
  refine ⟨fun i hi => by simpa [Its] using hi, by simp [Its], fun i d e x H' y => ?_⟩
  obtain ⟨e1, c, e2, e3⟩ := walk_str.yields i H x H' (by
    have := (List.getElem?_eq_some_iff.mp e).1
    simpa using this) trivial y
  subst e1 e3
  rw [List.getElem?_map] at e
  have e4 : z.cps.toList[i]? = some c := by simpa using e2
  rw [e4] at e; cases e
  exact ⟨G, Ext.refl t, Rep.str⟩
/-- a new pair a turn -/
theorem wk_pair {J : It} {n : Nat} {items : List D} {X Y : Nat → Option V} (hn : n = items.length) (w : ∀ H, Same G1 H → Walk J n (fun H' => H' = H) (YPair X Y))
    (r : ∀ i d, items[i]? = some d → ∃ dx dy vx vy, d = .tup [dx, dy] ∧ X i = some vx ∧ Y i = some vy ∧ Rep M G1 dx vx ∧ Rep M G1 dy vy) : Wk M G1 J items := fun G H s t => by
  subst hn
  have w := w H (s.trans t)
  refine ⟨fun i hi => w.goes i H hi rfl, w.stops H rfl, fun i d e x H' y => ?_⟩
  have hi : i < items.length := (List.getElem?_eq_some_iff.mp e).1
  obtain ⟨T, u1, u2, e1, e2, e3, e4, e5⟩ := w.yields i H x H' hi rfl y
  subst e1 e3
  obtain ⟨dx, dy, vx, vy, rfl, h1, h2, h3, h4⟩ := r i d e
  rw [h1] at e4; cases e4
  rw [h2] at e5; cases e5
  have x := Ext.both t (.tup [u1, u2]) e2
  refine ⟨_, x, ?_⟩
  unfold Rep
  refine ⟨T, _, rfl, .inl (.inl upd_same), ?_⟩
  unfold Reps; refine ⟨_, _, rfl, Rep.mono (s.trans x.g) _ _ h3, ?_⟩
  unfold Reps; refine ⟨_, _, rfl, Rep.mono (s.trans x.g) _ _ h4, ?_⟩
  unfold Reps; rfl
theorem zip_get {i : Nat} {d : D} (r1 : Reps M G1 ds vs) (r2 : Reps M G1 es us) (e : ((ds.zip es).map fun p => D.tup [p.1, p.2])[i]? = some d) :
    ∃ dx dy vx vy, d = .tup [dx, dy] ∧ vs[i]? = some vx ∧ us[i]? = some vy ∧ Rep M G1 dx vx ∧ Rep M G1 dy vy := by
  rw [List.getElem?_map] at e
  cases q : (ds.zip es)[i]? with
  | none => rw [q] at e; cases e
  | some p =>
    rw [q] at e; cases e
    obtain ⟨h1, h2⟩ := List.getElem?_zip_eq_some.mp q
    obtain ⟨v1, a1, b1⟩ := r1.get h1
    obtain ⟨v2, a2, b2⟩ := r2.get h2
    exact ⟨_, _, v1, v2, rfl, a1, a2, b1, b2⟩
theorem wk_zip (h : G1 a = some (.lst vs)) (h' : G1 b = some (.lst us)) (r : Reps M G1 ds vs) (r' : Reps M G1 es us) : Wk M G1 (Itz M.K a b) ((ds.zip es).map fun p => .tup [p.1, p.2]) :=
  wk_pair (n := min vs.length us.length) (by simp [r.length, r'.length]) (fun H s => (walk_zip rfl).mono (fun H' e => by rw [e]; exact ⟨.inl (.inl (s _ _ h)), .inl (.inl (s _ _ h'))⟩) fun _ _ _ _ _ _ y => y) fun i d e => zip_get r r' e
theorem wk_zipT (h : SqT M.K G1 a vs) (h' : SqT M.K G1 b us) (r : Reps M G1 ds vs) (r' : Reps M G1 es us) : Wk M G1 (RZ.ItzT M.K a b) ((ds.zip es).map fun p => .tup [p.1, p.2]) := by
  refine wk_pair (X := fun i => vs[i]?) (Y := fun i => us[i]?) (n := min vs.length us.length) (by simp [r.length, r'.length]) (fun H s => ?_) fun i d e => zip_get r r' e
  have q : SqT M.K H a vs := Same.seqT s h
  have q' : SqT M.K H b us := Same.seqT s h'
  refine ⟨fun i H' hi e => ?_, fun H' e => ?_, fun i H' x H2 hi e y => ?_⟩
  · subst e
    have h1 : i < vs.length := by omega
    have h2 : i < us.length := by omega
    exact ⟨vs, us, vs[i], us[i], q, q', by simp [h1], by simp [h2]⟩
  · subst e
    exact ⟨vs, us, q, q', by omega⟩
  · subst e
    obtain ⟨T, x, z, h1, h2, h3, h4, h5⟩ := y
    exact ⟨T, x, z, h1, h2, h3, h4 vs q, h5 us q'⟩
theorem wk_enum (h : G1 a = some (.lst vs)) (r : Reps M G1 ds vs) : Wk M G1 (Ite M.K a) (ds.zipIdx.map fun p => .tup [.int (p.2 : Nat), p.1]) :=
  wk_pair (n := vs.length) (by simp [r.length]) (fun H s => walk_enum.mono (fun H' e => by rw [e]; exact .inl (.inl (s _ _ h))) fun _ _ _ _ _ _ y => y) fun i d e => by
    rw [List.getElem?_map, List.getElem?_zipIdx] at e
    cases q : ds[i]? with
    | none => rw [q] at e; simp at e
    | some p =>
      rw [q] at e; simp at e; subst e
      obtain ⟨v1, a1, b1⟩ := r.get q
      exact ⟨_, _, _, v1, rfl, rfl, a1, Rep.int, b1⟩
end

/-- the tuples alone -/
abbrev tupsOf (G : Hp) : Hp := keepT (fun _ => none) G
theorem none_same (G : Hp) : Same (fun _ => none) G := fun _ _ h => nomatch h
theorem SqT.kept {K : PySem.W.Frag} {G : Hp} {a : Addr} {vs : List V} (h : SqT K G a vs) : SqT K (tupsOf G) a vs := by
  rcases h with (h1 | ⟨o, h1⟩) | h1
  · exact .inl (.inl (keepT_tup (none_same G) h1 rfl))
  · exact .inl (.inr ⟨o, keepT_tup (none_same G) h1 rfl⟩)
  · exact .inr h1
/-- a walk, and that it leans on tuples alone where the data is free of lists -/
def Wk2 (M : Md) (G : Hp) (ds : List D) (J : It) (items : List D) : Prop := Wk M G J items ∧ (D.lfs ds = true → Wk M (tupsOf G) J items)
/-! ### what a for, a comprehension walks -/
theorem foldedId {e : Expr} (h : nset e = true) (env : Env) (x : Value) : foldedSetIterable e env x = pure x := by
  cases e <;> first | rfl | cases h
theorem starE {e : Expr} (h : nst e = true) (es : List Expr) (env : Env) : starEach (e :: es) env = (false, eval e env) :: starEach es env := by
  cases e <;> first | rfl | cases h
theorem starAny : ∀ {es : List Expr} (h : es.all nst = true) (env : Env) (pos : Pos), ((backTo pos (starEach es env)).any (·.1)) = false
  | [], _, _, _ => rfl
  | e :: es, h, env, pos => by
    simp only [List.all_cons, Bool.and_eq_true] at h
    rw [starE h.1]
    show (false || (backTo pos (starEach es env)).any (·.1)) = false
    rw [starAny h.2]; rfl
theorem nodb_dbg {x : Str} (h : nodb x = true) : (x == ("__debug__" : Str)) = false := by
  unfold nodb at h
  simp only [Bool.and_eq_true, Bool.not_eq_true'] at h
  exact h.1.1
theorem nodb_cls {x : Str} (h : nodb x = true) : (x == ("__classdict__" : Str)) = false := by
  unfold nodb at h
  simp only [Bool.and_eq_true, Bool.not_eq_true'] at h
  exact h.1.2
theorem nodb_name {x : Str} (h : nodb x = true) : x ≠ ("__name__" : Str) := by
  unfold nodb at h
  simp only [Bool.and_eq_true, Bool.not_eq_true'] at h
  have := h.2
  intro e
  subst e
  simp at this
section
variable {Xs : Cx → Prop} {M : Md} {T : Tb} {W : WX} {c : Cs} {E : XK} {G H : Hp}
theorem Kx.gl (kx : Kx Xs M T W c) {x : Str} (h : gloC c x = true) : ∀ X, Xs X → Gl X x := fun X hX => by
  unfold gloC at h
  simp only [Bool.and_eq_true, decide_eq_true_eq] at h
  show List.lookup x X.env.scope.names = _
  rw [kx.sc X hX]
  exact h.1
theorem glo_nodb {x : Str} (h : gloC c x = true) : nodb x = true := by
  unfold gloC at h
  simp only [Bool.and_eq_true] at h
  exact h.2
theorem blt_glo {x : Str} (h : bltC c x = true) : gloC c x = true := by
  unfold bltC at h
  simp only [Bool.and_eq_true] at h
  exact h.1
theorem Kx.blm (kx : Kx Xs M T W c) {x : Str} (h : bltC c x = true) : ∀ X, Xs X → X.mg x = none := fun X hX => by
  unfold bltC at h
  simp only [Bool.and_eq_true, decide_eq_true_eq] at h
  rw [kx.mg X hX]
  exact kx.bl x h.2

theorem s_it (kx : Kx Xs M T W c) {σ : L2.St} (s : Same G H) {f : List Expr → Bool} {fl : R (List D)} {k : ItK} {it tg : Expr} (hk : chkI c f k it tg = true)
    (hS : ∀ exs, f exs = true → SL Xs M E σ G H exs fl)
    (hV : ∀ ex, f [ex] = true → ∀ Q, GOk M E G H (fun ds => ∀ d, ds = [d] → ∀ v G' H', Ext G H G' H' → Rep M G' d v → Q v H') fl → WP Xs ex σ H Q)
    {R : It → Hp → Prop} (h : GOk M E G H (fun ds => GOk M E G H (fun items => ∀ J G' H', Ext G H G' H' → Wk2 M G' ds J items → R J H') (itemsOf k ds)) fl) : WI Xs tg it σ H R := by
  unfold chkI at hk
  split at hk
  · -- a value
    simp only [Bool.and_eq_true] at hk
    obtain ⟨⟨hf, hset⟩, hst⟩ := hk
    refine ⟨fun σ H R => iList M.K (WP Xs it) σ H R ∨ iTup M.K (WP Xs it) σ H R ∨ iStr (WP Xs it) σ H R, fun X hX => ⟨fun pins s σ H R I z => ?_⟩, ?_⟩
    · rcases z with z | z | z
      · exact (pi_list (tg := tg) (pe_w hX)).run pins s σ H R I (by rw [kx.K X hX]; exact z)
      · exact (pi_tup (tg := tg) (pe_w hX)).run pins s σ H R I (by rw [kx.K X hX]; exact z)
      · exact (pi_str (tg := tg) (pe_w hX)).run pins s σ H R I z
    · cases fl with
      | st => exact h.elim
      | ex cc fs =>
        exact .inl (hV it hf _ h)
      | ok ds =>
        have h : GOk M E G H (fun items => ∀ J G' H', Ext G H G' H' → Wk2 M G' ds J items → R J H') (itVal ds) := h
        unfold itVal at h
        split at h
        · rename_i xs
          refine .inl (hV it hf _ (fun d e v G' H' x r => ?_))
          cases e
          obtain ⟨a, vs, rfl, h1, r1⟩ := r.lst'
          exact ⟨a, rfl, ⟨vs, .inl (.inl (x.i _ _ h1))⟩, h _ G' H' x ⟨wk_list h1 r1, fun z => by simp [D.lfs, D.lf] at z⟩⟩
        · refine .inr (.inl (hV it hf _ (fun d e v G' H' x r => ?_)))
          cases e
          obtain ⟨a, vs, rfl, h1, r1⟩ := r.tup'
          exact ⟨a, rfl, ⟨vs, Same.seqT x.i h1⟩, h _ G' H' x ⟨wk_tup h1 r1, fun z => wk_tup (SqT.kept h1) (Reps.kept (none_same _) _ _ (by simpa [D.lfs, D.lf] using z) r1)⟩⟩
        · refine .inr (.inr (hV it hf _ (fun d e v G' H' x r => ?_)))
          cases e
          obtain rfl := r.str'
          exact ⟨_, rfl, h _ G' H' x ⟨wk_str, fun _ => wk_str⟩⟩
        · exact h.elim
  · -- range
    rename_i x e p pos
    simp only [Bool.and_eq_true, decide_eq_true_eq] at hk
    obtain ⟨⟨⟨ex, hb⟩, hf⟩, hst⟩ := hk
    subst ex
    refine ⟨_, fun X hX => pi_range1 (kx.gl (blt_glo hb) X hX) (kx.blm hb X hX) (pa_w hX) (starE hst _ _), (hS _ hf).use h fun ds vs G' H' z x r => ?_⟩
    have h : GOk M E G H (fun items => ∀ J G' H', Ext G H G' H' → Wk2 M G' ds J items → R J H') (itRng ds) := z
    unfold itRng at h
    split at h
    · rename_i n
      obtain ⟨v, rfl, r1⟩ := r.one'
      obtain rfl := r1.int'
      by_cases hl : n < 2 ^ 62 ∧ -(2 ^ 62) ≤ n
      · rw [if_pos hl] at h
        exact ⟨n, rfl, hl.2, hl.1, h _ G' H' x ⟨wk_range, fun _ => wk_range⟩⟩
      · rw [if_neg hl] at h; exact h.elim
    · exact h.elim
  · -- range with two ends
    rename_i x e e2 p pos
    simp only [Bool.and_eq_true, decide_eq_true_eq] at hk
    obtain ⟨⟨⟨⟨ex, hb⟩, hf⟩, hst⟩, hst2⟩ := hk
    subst ex
    refine ⟨_, fun X hX => pi_range2 (kx.gl (blt_glo hb) X hX) (kx.blm hb X hX) (pa_w hX) (by rw [starE hst, starE hst2]; rfl) (by rw [starE hst2]; rfl), (hS _ hf).use h fun ds vs G' H' z x r => ?_⟩
    have h : GOk M E G H (fun items => ∀ J G' H', Ext G H G' H' → Wk2 M G' ds J items → R J H') (itRng2 ds) := z
    unfold itRng2 at h
    split at h
    · rename_i m n
      obtain ⟨v, u, rfl, r1, r2⟩ := r.two'
      obtain rfl := r1.int'
      obtain rfl := r2.int'
      by_cases hl : n < 2 ^ 62 ∧ -(2 ^ 62) ≤ n ∧ m < 2 ^ 62 ∧ -(2 ^ 62) ≤ m
      · rw [if_pos hl] at h
        exact ⟨m, n, rfl, ⟨hl.2.2.2, hl.2.2.1, hl.2.1, hl.1⟩, h _ G' H' x ⟨wk_range, fun _ => wk_range⟩⟩
      · rw [if_neg hl] at h; exact h.elim
    · exact h.elim
  · -- zip
    rename_i x p e e2 pos
    simp only [Bool.and_eq_true, decide_eq_true_eq] at hk
    obtain ⟨⟨⟨⟨⟨ex, hb⟩, hf⟩, hst⟩, hst2⟩, htg⟩ := hk
    subst ex
    cases tg <;> first | cases htg | skip
    refine ⟨RZ.iZipA M.K (WA Xs [e, e2]), fun X hX => by rw [← kx.K X hX]; exact RZ.pi_zipA (kx.gl (blt_glo hb) X hX) (kx.blm hb X hX) (pa_w hX) (starE hst _ _) (starAny (es := [e2]) (by simp [hst2]) _ _), (hS _ hf).use h fun ds vs G' H' z x r => ?_⟩
    have h : GOk M E G H (fun items => ∀ J G' H', Ext G H G' H' → Wk2 M G' ds J items → R J H') (itZip ds) := z
    unfold itZip at h
    split at h
    · obtain ⟨v, u, rfl, r1, r2⟩ := r.two'
      obtain ⟨a, vs, rfl, h1, q1⟩ := r1.lst'
      obtain ⟨b, us, rfl, h2, q2⟩ := r2.lst'
      exact ⟨a, b, vs, us, rfl, .inl ⟨.inl (.inl (x.i _ _ h1)), .inl (.inl (x.i _ _ h2)), h _ G' H' x ⟨wk_zip h1 h2 q1 q2, fun z => by simp [D.lfs, D.lf] at z⟩⟩⟩
    · obtain ⟨v, u, rfl, r1, r2⟩ := r.two'
      obtain ⟨a, vs, rfl, h1, q1⟩ := r1.tup'
      obtain ⟨b, us, rfl, h2, q2⟩ := r2.tup'
      exact ⟨a, b, vs, us, rfl, .inr ⟨Same.seqT x.i h1, Same.seqT x.i h2, h _ G' H' x ⟨wk_zipT h1 h2 q1 q2, fun z => by
        simp only [D.lfs, D.lf, Bool.and_true, Bool.and_eq_true] at z
        exact wk_zipT (SqT.kept h1) (SqT.kept h2) (Reps.kept (none_same _) _ _ z.1 q1) (Reps.kept (none_same _) _ _ z.2 q2)⟩⟩⟩
    · exact h.elim
  · -- enumerate
    rename_i x p e pos
    simp only [Bool.and_eq_true, decide_eq_true_eq] at hk
    obtain ⟨⟨⟨⟨ex, hb⟩, hf⟩, hst⟩, htg⟩ := hk
    subst ex
    cases tg <;> first | cases htg | skip
    refine ⟨iEnum M.K (WA Xs [e]), fun X hX => by rw [← kx.K X hX]; exact pi_enum (kx.gl (blt_glo hb) X hX) (kx.blm hb X hX) (pa_w hX) (starE hst _ _), (hS _ hf).use h fun ds vs G' H' z x r => ?_⟩
    have h : GOk M E G H (fun items => ∀ J G' H', Ext G H G' H' → Wk2 M G' ds J items → R J H') (itEnm ds) := z
    unfold itEnm at h
    split at h
    · obtain ⟨v, rfl, r1⟩ := r.one'
      obtain ⟨a, vs, rfl, h1, q1⟩ := r1.lst'
      exact ⟨a, vs, rfl, .inl (.inl (x.i _ _ h1)), h _ G' H' x ⟨wk_enum h1 q1, fun z => by simp [D.lfs, D.lf] at z⟩⟩
    · exact h.elim
  · -- reversed
    rename_i x p e pos
    simp only [Bool.and_eq_true, decide_eq_true_eq] at hk
    obtain ⟨⟨⟨ex, hb⟩, hf⟩, hst⟩ := hk
    subst ex
    refine ⟨RT.iRevA M.K (WP Xs e), fun X hX => by rw [← kx.K X hX]; exact RT.pi_revA (kx.gl (blt_glo hb) X hX) (kx.blm hb X hX) (pe_w hX) (starE hst _ _), ?_⟩
    refine hV _ hf _ (h.imp fun ds z d e v G' H' x r => ?_)
    have h : GOk M E G H (fun items => ∀ J G' H', Ext G H G' H' → Wk2 M G' ds J items → R J H') (itRev ds) := z
    cases e
    unfold itRev at h
    split at h
    · rename_i e1
      cases e1
      obtain ⟨a, vs, rfl, h1, q1⟩ := r.lst'
      exact ⟨a, vs, rfl, .inl ⟨.inl (.inl (x.i _ _ h1)), h _ G' H' x ⟨wk_rev h1 q1, fun z => by simp [D.lfs, D.lf] at z⟩⟩⟩
    · rename_i e1
      cases e1
      obtain ⟨a, vs, rfl, h1, q1⟩ := r.tup'
      exact ⟨a, vs, rfl, .inr ⟨Same.seqT x.i h1, h _ G' H' x ⟨wk_revT h1 q1, fun z => wk_revT (SqT.kept h1) (Reps.kept (none_same _) _ _ (by simpa [D.lfs, D.lf] using z) q1)⟩⟩⟩
    · exact h.elim
  · cases hk
end
end PX

set_option Elab.async false
set_option linter.all false
set_option maxRecDepth 100000
/-! Px7: targets and comprehensions. -/
namespace PX
open PySem PySem.Spec PyProof.Rows L2

theorem wipe_get (σ : L2.St) (j : Nat) : ∀ vs : List Nat, (L2.wipe σ vs)[j]? = if j ∈ vs then (if j < σ.length then some none else none) else σ[j]?
  | [] => by simp [L2.wipe]
  | v :: vs => by
    unfold L2.wipe
    rw [List.getElem?_set, wipe_get σ j vs, wipe_length]
    by_cases e : v = j
    · subst e; simp
    · have : j ≠ v := Ne.symm e
      simp [e, this]
theorem wipe_set {σ : L2.St} {i : Nat} {w : Option V} {vs : List Nat} (h : i ∈ vs) : L2.wipe (σ.set i w) vs = L2.wipe σ vs := by
  apply List.ext_getElem?
  intro j
  rw [wipe_get, wipe_get, List.length_set]
  by_cases hj : j ∈ vs
  · simp [hj]
  · have : i ≠ j := fun e => hj (e ▸ h)
    simp [hj, List.getElem?_set_ne this]
theorem wipe_idem (σ : L2.St) (vs : List Nat) : L2.wipe (L2.wipe σ vs) vs = L2.wipe σ vs := by
  apply List.ext_getElem?
  intro j
  rw [wipe_get, wipe_length, wipe_get]
  by_cases hj : j ∈ vs <;> simp [hj]

def gNames : List Nat → TGs
  | [] => gNil
  | i :: is => gCons (gName i) (gNames is)
section
variable {Xs : Cx → Prop} {M : Md} {T : Tb} {W : WX} {c : Cs} {E : XK} {G0 H0 G H : Hp} {ρ : Rho} {σ : L2.St}
theorem tgC_nm (kx : Kx Xs M T W c) {i : Nat} {x : Str} {p : Pos} (h : tgC c i x = true) : ∀ X, Xs X → PG X (.Name x p) (gName i) := fun X hX => by
  unfold tgC at h
  simp only [Bool.and_eq_true, decide_eq_true_eq, Bool.or_eq_true] at h
  obtain ⟨⟨h1, h2⟩, h3⟩ := h
  refine pg_name (by rw [kx.N X hX]; exact kx.nd) (by rw [kx.N X hX]; exact h1) ?_ ?_
  · rw [kx.sc X hX]
    unfold locC at h2
    split at h2
    · rename_i e; exact .inl e
    · rename_i e; exact .inr e
    · cases h2
  · rcases h3 with h3 | h3
    · exact .inl (kx.cl X hX x h3)
    · exact .inr (by rw [kx.sc X hX]; exact h3)
theorem chkTp_pgs (kx : Kx Xs M T W c) : ∀ {is : List Nat} {es : List Expr}, chkTp c is es = true → (∀ X, Xs X → PGs X es (gNames is)) ∧ (∀ env, (assignEach es env).length = is.length) ∧ ∀ env, (assignEach es env).findIdx? (·.1) = none
  | [], [], _ => ⟨fun X hX => pgs_nil, fun _ => rfl, fun _ => rfl⟩
  | [], e :: es, h => by simp [chkTp] at h
  | i :: is, [], h => by simp [chkTp] at h
  | i :: is, e :: es, h => by
    cases e <;> simp [chkTp] at h
    obtain ⟨h1, h2⟩ := h
    obtain ⟨a1, a2, a3⟩ := chkTp_pgs kx h2
    refine ⟨fun X hX => pgs_cons (tgC_nm kx h1 X hX) (a1 X hX) (by rfl), fun env => ?_, fun env => ?_⟩
    · show (assignEach es env).length + 1 = is.length + 1
      rw [a2]
    · show List.findIdx? _ ((false, _) :: assignEach es env) = none
      rw [List.findIdx?_cons]
      simp [a3]
theorem s_tp : ∀ {is : List Nat} {ds : List D} {vs : List V} {ρ : Rho} {σ : L2.St}, Rel M G0 H0 ρ σ G H → Reps M G ds vs → ∀ {Q : L2.St → Hp → Prop}, GOk M E G H (fun ρ2 => ∀ σ2, Rel M G0 H0 ρ2 σ2 G H → (∀ own : List Nat, (∀ i ∈ is, i ∈ own) → L2.wipe σ2 own = L2.wipe σ own) → Q σ2 H) (bindTp is ds ρ) →
    gNames is vs σ H Q
  | [], [], vs, ρ, σ, r, rs, Q, h => by
    unfold Reps at rs; subst rs
    exact ⟨rfl, h σ r fun _ _ => rfl⟩
  | [], d :: ds, vs, ρ, σ, r, rs, Q, h => h.elim
  | i :: is, [], vs, ρ, σ, r, rs, Q, h => h.elim
  | i :: is, d :: ds, vs, ρ, σ, r, rs, Q, h => by
    unfold Reps at rs
    obtain ⟨v, u, rfl, r1, r2⟩ := rs
    refine ⟨v, u, rfl, ?_⟩
    refine s_tp (r.setFz i r1) r2 ?_
    refine GOk.imp h fun ρ2 q σ2 rr hw => q σ2 rr fun own ho => ?_
    rw [hw own fun j hj => ho j (List.mem_cons_of_mem _ hj)]
    exact wipe_set (ho i List.mem_cons_self)
theorem bindTp_len : ∀ {is : List Nat} {ds : List D} {ρ : Rho} {P : Rho → Prop}, GOk M E G H P (bindTp is ds ρ) → ds.length = is.length
  | [], [], _, _, _ => rfl
  | [], _ :: _, _, _, h => h.elim
  | _ :: _, [], _, _, h => h.elim
  | i :: is, d :: ds, ρ, P, h => by
    have := bindTp_len (is := is) (ds := ds) h
    simp [this]
theorem s_tg (kx : Kx Xs M T W c) {tg : Tg} {xtg : Expr} (hk : chkTg c tg xtg = true) (r : Rel M G0 H0 ρ σ G H) {d : D} {v : V} (rd : Rep M G d v) {Q : L2.St → Hp → Prop}
    (h : GOk M E G H (fun ρ2 => ∀ σ2, Rel M G0 H0 ρ2 σ2 G H → (∀ own : List Nat, (∀ i ∈ tg.is, i ∈ own) → L2.wipe σ2 own = L2.wipe σ own) → Q σ2 H) (bindT tg d ρ)) : WG Xs xtg v σ H Q := by
  unfold chkTg at hk
  split at hk
  · rename_i i x p
    refine ⟨gName i, tgC_nm kx hk, ?_⟩
    exact h _ (r.setFz i rd) fun own ho => wipe_set (ho i List.mem_cons_self)
  · rename_i is es k p
    simp only [Bool.and_eq_true, Bool.not_eq_true'] at hk
    obtain ⟨hh, hk⟩ := hk
    obtain ⟨a1, a2, a3⟩ := chkTp_pgs kx hk
    unfold bindT at h
    simp only at h
    split at h
    · obtain ⟨a, vs, rfl, h1, r1⟩ := rd.tup'
      exact ⟨gTup M.K is.length (gNames is), fun X hX => by rw [← kx.K X hX]; exact pg_tup (kx.calm hh X hX) (a1 X hX) (a2 _) (a3 _), a, vs, rfl, Same.seqT r.same h1, by rw [r1.length, bindTp_len h], s_tp r r1 h⟩
    · obtain ⟨a, vs, rfl, h1, r1⟩ := rd.lst'
      exact ⟨gLst M.K is.length (gNames is), fun X hX => by rw [← kx.K X hX]; exact pg_lst (kx.calm hh X hX) (a1 X hX) (a2 _) (a3 _), a, vs, rfl, .inl (.inl (r.same _ _ h1)), by rw [r1.length, bindTp_len h], s_tp r r1 h⟩
    · exact h.elim
  · cases hk

/-! ### a comprehension's block -/
def Bk (Xs : Cx → Prop) (scope : Scope) : Cx → Prop := fun Y => ∃ X s H C cl fp, Xs X ∧ Y = X.blk s H scope (compEnvC scope cl C X.env) fp
def csB (c : Cs) (scope : Scope) : Cs := { c with sc := relS scope c.sc, cl := fun x => scope.names.lookup x == some .cell, top := false, ex0 := [], ex1 := [] }
theorem Kx.bk (kx : Kx Xs M T W c) (hh : c.hot = false) (scope : Scope) : Kx (Bk Xs scope) M T (fun _ _ _ _ => False) (csB c scope) where
  K := fun Y ⟨X, _, _, _, _, _, hX, e⟩ => by rw [e]; exact kx.K X hX
  mg := fun Y ⟨X, _, _, _, _, _, hX, e⟩ => by rw [e]; exact kx.mg X hX
  P := fun Y ⟨X, _, _, _, _, _, hX, e⟩ => by rw [e]; exact kx.P X hX
  w := fun Y ⟨X, _, _, _, _, _, hX, e⟩ => by rw [e]; exact kx.w X hX
  base := fun Y ⟨X, _, _, _, _, _, hX, e⟩ => by rw [e]; exact kx.base X hX
  N := fun Y ⟨X, _, _, _, _, _, hX, e⟩ => by rw [e]; exact kx.N X hX
  sc := fun Y ⟨X, _, _, C, cl, _, hX, e⟩ => by
    rw [e]
    show (compEnvC scope cl C X.env).scope = relS scope c.sc
    rw [← kx.sc X hX]; rfl
  cl := fun Y ⟨X, _, _, _, _, _, hX, e⟩ x h => by rw [e]; exact h
  nd := kx.nd
  calm := fun h Y ⟨X, _, _, _, _, _, hX, e⟩ => by rw [e]; exact kx.calm h X hX
  tk := fun Y _ => takes0
  po := fun Y ⟨X, _, _, _, _, _, hX, e⟩ => by rw [e]; exact PassesOwn.never
  room := fun Y ⟨X, _, _, _, _, _, hX, e⟩ => by rw [e]; exact kx.room X hX
  bl := kx.bl
  gcd := kx.gcd
  lcm := kx.lcm
  obj := kx.obj
  hot := fun z => absurd (hh.symm.trans z) Bool.false_ne_true
  su := kx.su
  top := fun z => absurd z Bool.false_ne_true
  xn := kx.xn
  exv := kx.exv
  exm := kx.exm
  ex0 := fun C hC => absurd hC (by simp [csB])
  ex1 := fun C fs hC => absurd hC (by simp [csB])
  cst := kx.cst
  fns := fun h f hf => let ⟨k, fa, fd, ps, F, hr, q⟩ := kx.fns h f hf; ⟨k, fa, fd, ps, F, fun Y ⟨X, _, _, _, _, _, hX, e⟩ => by rw [e]; exact hr X hX, q⟩

theorem lcGo_cons {tg : Tg} {ts : Rho → R Bool} {el : Rho → R EV} {ρ : Rho} {d : D} {ds ys : List D} (h : lcGo tg ts el ρ (d :: ds) = .ok ys) :
    ∃ ρ1 b, bindT tg d ρ = .ok ρ1 ∧ ts ρ1 = .ok b ∧ (if b = true then ∃ v zs, el ρ1 = .ok v ∧ lcGo tg ts el ρ ds = .ok zs ∧ ys = v.d :: zs else lcGo tg ts el ρ ds = .ok ys) := by
  unfold lcGo at h
  cases e1 : bindT tg d ρ with
  | st => rw [e1] at h; cases h
  | ex c fs => rw [e1] at h; cases h
  | ok ρ1 =>
    rw [e1] at h
    cases e2 : ts ρ1 with
    | st => simp only [R.bind_ok, e2, R.bind_st] at h; cases h
    | ex c fs => simp only [R.bind_ok, e2, R.bind_ex] at h; cases h
    | ok b =>
      simp only [R.bind_ok, e2] at h
      refine ⟨ρ1, b, rfl, e2, ?_⟩
      cases b with
      | false => simpa using h
      | true =>
        simp only [if_pos] at h ⊢
        cases e3 : el ρ1 with
        | st => rw [e3] at h; cases h
        | ex c fs => rw [e3] at h; cases h
        | ok v =>
          rw [e3] at h
          cases e4 : lcGo tg ts el ρ ds with
          | st => rw [e4] at h; cases h
          | ex c fs => rw [e4] at h; cases h
          | ok zs =>
            rw [e4] at h
            cases h
            exact ⟨v, zs, rfl, rfl, rfl⟩
/-- a comprehension's reading -/
theorem s_lc {Xs Ys : Cx → Prop} {tg : Tg} {xtg it xel : Expr} {xifs : List Expr} {own : List Nat} {ts : Rho → R Bool} {el : Rho → R EV} {fi : R (List D)} {Q : VK}
    (r : Rel M G0 H0 ρ σ G H)
    (hi : ∀ {R : It → Hp → Prop}, GOk M E G H (fun items => ∀ J G' H', Ext G H G' H' → Wk M G' J items → R J H') fi → WI Xs xtg it σ H R)
    (ho : ∀ i ∈ tg.is, i ∈ own)
    (hg : ∀ {ρ σ G H d v Q}, Rel M G0 H0 ρ σ G H → Rep M G d v → GOk M (fun _ _ _ => False) G H (fun ρ2 => ∀ σ2, Rel M G0 H0 ρ2 σ2 G H → (∀ own : List Nat, (∀ i ∈ tg.is, i ∈ own) → L2.wipe σ2 own = L2.wipe σ own) → Q σ2 H) (bindT tg d ρ) → WG Ys xtg v σ H Q)
    (ht : ∀ {ρ σ G H Q}, Rel M G0 H0 ρ σ G H → GOk M (fun _ _ _ => False) G H (fun b => ∀ G' H', Ext G H G' H' → Q b H') (ts ρ) → WTs Ys xifs σ H Q)
    (he : ∀ {ρ σ G H}, Rel M G0 H0 ρ σ G H → SV Ys M (fun _ _ _ => False) σ G H xel (el ρ))
    (h : GOk M E G H (fun xs => GOk M E G H (EvV M G H Q) (if xs.length ≤ sizeLine then (lcGo tg ts el (wipeS ρ own) xs).nox.map fun ys => .fr (.lst ys) else .st)) fi) :
    tLc (WI Xs xtg it) (WG Ys xtg) (WTs Ys xifs) (WP Ys xel) own σ H Q := by
  refine hi (h.imp fun items hq J G1 H1 x1 wk D hD => ?_)
  have hz : items.length ≤ sizeLine := by
    by_cases hz : items.length ≤ sizeLine
    · exact hz
    · rw [if_neg hz] at hq; exact hq.elim
  rw [if_pos hz] at hq
  cases eall : lcGo tg ts el (wipeS ρ own) items with
  | st => rw [eall] at hq; exact hq.elim
  | ex cc fs => rw [eall] at hq; exact hq.elim
  | ok all =>
    rw [eall] at hq
    have hq : EvV M G H Q (.fr (.lst all)) := hq
    have r1 : Rel M G0 H0 ρ σ G1 H1 := r.later x1
    refine ⟨fun i m H2 => m = items.length - i ∧ i ≤ items.length ∧ ∃ (G2 : Hp) (vs : List V) (ds ys : List PX.D), Ext G1 H1 G2 H2 ∧ G2 D = none ∧ H2 D = some (.lst vs) ∧ Reps M G2 ds vs ∧ ds.length ≤ i ∧ lcGo tg ts el (wipeS ρ own) (items.drop i) = .ok ys ∧ all = ds ++ ys,
      ⟨items.length, by simp, Nat.zero_le _, G1, [], [], all, Ext.one x1.i _ hD, x1.i.free hD, upd_same, by unfold Reps; rfl, by simp, by simpa using eall, rfl⟩, ?_⟩
    rintro i m H2 ⟨rfl, hi, G2, vs, ds, ys, x2, gD, hD2, rds, hlen, erest, eq⟩
    obtain ⟨w1, w2, w3⟩ := wk G2 H2 x2.g x2.i
    by_cases hlt : i < items.length
    · refine .inr ⟨w1 i hlt, fun H' => i + 1 ≤ items.length ∧ ∃ (G2 : Hp) (vs : List V) (ds ys : List PX.D), Ext G1 H1 G2 H' ∧ G2 D = none ∧ H' D = some (.lst vs) ∧ Reps M G2 ds vs ∧ ds.length ≤ i + 1 ∧ lcGo tg ts el (wipeS ρ own) (items.drop (i + 1)) = .ok ys ∧ all = ds ++ ys,
        fun H' q => ⟨items.length - (i + 1), by omega, rfl, q.1, q.2⟩, fun x H' hy => ?_⟩
      have ed : items[i]? = some items[i] := by simp [hlt]
      obtain ⟨G3, x3, rx⟩ := w3 i _ ed x H' hy
      rw [List.drop_eq_getElem_cons hlt] at erest
      obtain ⟨ρ1, b, e1, e2, e3⟩ := lcGo_cons erest
      have r3 : Rel M G0 H0 (wipeS ρ own) (L2.wipe σ own) G3 H' := ((r1.wipe own).later (x2.trans x3))
      have x03 : Ext G1 H1 G3 H' := x2.trans x3
      refine hg r3 rx ?_
      rw [e1]
      intro σ2 r4 hw
      refine ⟨by rw [hw own ho, wipe_idem], ?_⟩
      refine ht r4 ?_
      rw [e2]
      intro G4 H4 x4
      have keepD : ∀ {G' H'' : Hp}, Ext G2 H2 G' H'' → G' D = none ∧ H'' D = some (.lst vs) := fun {G' H''} x => ⟨x.n D (by rw [hD2]; exact fun z => nomatch z) gD, x.h _ _ hD2⟩
      have x24 : Ext G2 H2 G4 H4 := x3.trans x4
      cases b with
      | false =>
        simp only [Bool.false_eq_true, if_false] at e3 ⊢
        obtain ⟨k1, k2⟩ := keepD x24
        exact ⟨hlt, G4, vs, ds, ys, x2.trans x24, k1, k2, Reps.mono x24.g _ _ rds, by omega, e3, eq⟩
      | true =>
        simp only [if_true] at e3 ⊢
        obtain ⟨v, zs, f1, f2, f3⟩ := e3
        refine (he (r4.later x4)).use (Z := fun y => y = v) (by rw [f1]; exact rfl) fun y u G5 H5 ey x5 ru => ?_
        subst ey
        have x25 : Ext G2 H2 G5 H5 := x24.trans x5
        obtain ⟨k1, k2⟩ := keepD x25
        refine ⟨vs, k2, ?_, hlt, G5, vs ++ [u], ds ++ [y.d], zs, ?_, k1, upd_same, Reps.append (Reps.mono x25.g _ _ rds) ?_, by simp; omega, f2, by rw [eq, f3]; simp⟩
        · rw [rds.length]; omega
        · have x15 := x2.trans x25
          refine ⟨x15.g, fun a o e => ?_, fun a o e => ?_, x15.n⟩
          · have : a ≠ D := ne_of_none e hD
            rw [upd_ne this]; exact x15.h _ _ e
          · have : a ≠ D := ne_of_none e k1
            rw [upd_ne this]; exact x15.i _ _ e
        · unfold Reps; exact ⟨u, [], rfl, ru, by unfold Reps; rfl⟩
    · have e : i = items.length := by omega
      subst e
      refine .inl ⟨w2, ?_⟩
      rw [List.drop_length] at erest
      cases erest
      rw [List.append_nil] at eq
      subst eq
      exact hq D G2 H2 (x1.trans x2) (x1.h.free hD) gD ⟨vs, hD2, rds⟩
end
end PX

set_option Elab.async false
set_option linter.all false
set_option maxRecDepth 100000
/-! Px8: a checked expression computes what evE says. -/
namespace PX
open PySem PySem.Spec PyProof.Rows L2

theorem supId {o : Expr} (h : nsup o = true) (attr : Str) (env : Env) (whole : Sem Value) : attributeBase o attr env whole = whole := by
  unfold attributeBase
  split
  · rename_i id p1 p2
    have : (id != "super") = true := by
      unfold nsup at h
      simp only [Bool.not_eq_true'] at h
      show (!(id == "super")) = true
      rw [h]; rfl
    rw [this]; rfl
  · rfl
theorem plainIx {b : Expr} (h : nslice b = true) : PlainIx b := fun o i => by
  cases b <;> first | rfl | cases h
theorem tstVal {e : Expr} (h : (match e with | .IfExp _ _ _ _ => false | .UnaryOp .Not _ _ => false | .BoolOp _ _ _ => false | .Compare _ _ _ _ => false | _ => true) = true) (env : Env) (whole : Sem Value) :
    isTrue e env whole = (do let v ← whole; standAt e.pos; holding [v] (truthy v)) := by
  cases e <;> first | rfl | (cases h; done) | skip
  rename_i op x p
  cases op <;> first | rfl | cases h
section
variable {Xs : Cx → Prop} {M : Md} {T : Tb} {W : WX} {c : Cs} {E : XK} {G0 H0 G H : Hp} {ρ : Rho} {σ : L2.St}
/-- a value's evaluation serves a test -/
theorem SV.test {ex : Expr} {f : R EV} (hv : SV Xs M E σ G H ex f) (hp : ∀ env whole, isTrue ex env whole = (do let v ← whole; standAt ex.pos; holding [v] (truthy v))) : SB Xs M E σ G H ex (f.bind asBool) := fun Q h => by
  refine ⟨tB (WP Xs ex), fun X hX => pt_val (pe_w hX) (hp X.env), ?_⟩
  refine hv.use h.bind fun x v G' H' z e r => ?_
  have z : GOk M E G H (fun b => ∀ G' H', Ext G H G' H' → Q b H') (asBool x) := z
  unfold asBool at z
  split at z
  · obtain rfl := r.bl'
    exact ⟨_, rfl, z _ _ e⟩
  · exact z.elim
theorem asBool_ok {x : EV} {P : Bool → Prop} (h : GOk M E G H P (asBool x)) : ∃ b, x.d = .bl b ∧ P b := by
  unfold asBool at h
  split at h
  · exact ⟨_, rfl, h⟩
  · exact h.elim
theorem SV.step {f : R EV} (ex : Expr) (hv : ∀ Q, GOk M E G H (EvV M G H Q) f → WP Xs ex σ H Q) : SV Xs M E σ G H ex f := hv

theorem w_name {i : Nat} {x : Str} {p : Pos} (kx : Kx Xs M T W c) (r : Rel M G0 H0 ρ σ G H) (h1 : c.N[i]? = some x) (h2 : visC c.sc x = true) (h3 : nodb x = true) : SV Xs M E σ G H (.Name x p) (match ρ[i]? with | some (.fz d) => .ok (.fz d) | _ => .st) := fun Q h => by
  split at h
  · rename_i d e
    obtain ⟨v, e1, e2⟩ := r.fz i d e
    refine ⟨tVar i, fun X hX => pe_var (by rw [kx.N X hX]; exact h1) ?_ (nodb_dbg h3) (nodb_cls h3), v, e1, EvV.val h r.same e2⟩
    rw [kx.sc X hX]
    unfold visC at h2
    split at h2
    · rename_i e; exact .inl e
    · rename_i e; exact .inr (.inl e)
    · rename_i e; exact .inr (.inr e)
    · cases h2
  · exact h.elim
theorem w_glb {x : Str} {p : Pos} (kx : Kx Xs M T W c) (s : Same G H) (h : gloC c x = true) : SV Xs M E σ G H (.Name x p) (match T.cst x with | some d => .ok (.fz d) | none => .st) := fun Q q => by
  split at q
  · rename_i d e
    obtain ⟨u, v, e1, e2, e3⟩ := kx.cst x d e
    exact ⟨tC v, fun X hX => pe_glob (kx.gl h X hX) (by rw [kx.mg X hX]; exact e1) e2 (nodb_dbg (glo_nodb h)), EvV.val q s (e3 G)⟩
  · exact q.elim
theorem w_bin {op : Operator} {xa xb : Expr} {p : Pos} {fa fb : R EV} (kx : Kx Xs M T W c) (ha : SV Xs M E σ G H xa fa) (hb : ∀ G' H', Ext G H G' H' → SV Xs M E σ G' H' xb fb) (s : Same G H) :
    SV Xs M E σ G H (.BinOp xa op xb p) (fa.bind fun x => fb.bind fun y => opBin op x.d y.d) := fun Q h => by
  refine ⟨_, fun X hX => pe_op (op_w hX) (pe_w hX) (pe_w hX), ?_⟩
  refine ha.use h.bind fun x v G1 H1 z e1 r1 => ?_
  refine (hb G1 H1 e1).use (GOk.mono (GOk.bind z) e1) fun y u G2 H2 z2 e2 r2 => ?_
  exact s_bin kx e2.i (Rep.mono e2.g _ _ r1) r2 ((GOk.mono z2 (e1.trans e2)).imp fun w hw => EvV.mono hw (e1.trans e2))
theorem w_cmp {op : CmpOp} {xa xb : Expr} {p : Pos} {fa fb : R EV} (kx : Kx Xs M T W c) (ha : SV Xs M E σ G H xa fa) (hb : ∀ G' H', Ext G H G' H' → SV Xs M E σ G' H' xb fb) (hm : behindInMarks op xb = false) :
    SV Xs M E σ G H (.Compare xa [op] [xb] p) (fa.bind fun x => fb.bind fun y => (opCmp op x.d y.d).map fun b => .fz (.bl b)) := fun Q h => by
  refine ⟨_, fun X hX => pe_cmpR (op_w hX) (pe_w hX) (pe_w hX) hm, ?_⟩
  refine ha.use h.bind fun x v G1 H1 z e1 r1 => ?_
  refine (hb G1 H1 e1).use (GOk.mono (GOk.bind z) e1) fun y u G2 H2 z2 e2 r2 => ?_
  refine s_cmp kx e2.i (Rep.mono e2.g _ _ r1) r2 (GOk.mono (GOk.map z2) (e1.trans e2)) fun b hb => ?_
  exact hb _ _ _ (e1.trans e2) Rep.bl
theorem b_cmp {op : CmpOp} {xa xb : Expr} {p : Pos} {fa fb : R EV} (kx : Kx Xs M T W c) (ha : SV Xs M E σ G H xa fa) (hb : ∀ G' H', Ext G H G' H' → SV Xs M E σ G' H' xb fb) (hm : behindInMarks op xb = false) :
    SB Xs M E σ G H (.Compare xa [op] [xb] p) ((fa.bind fun x => fb.bind fun y => (opCmp op x.d y.d).map fun b => .fz (.bl b)).bind asBool) := fun Q h => by
  refine ⟨_, fun X hX => pt_cmpR (op_w hX) (pe_w hX) (pe_w hX) hm, ?_⟩
  refine ha.use (GOk.bind (GOk.bind h)) fun x v G1 H1 z e1 r1 => ?_
  refine (hb G1 H1 e1).use (GOk.mono (GOk.bind z) e1) fun y u G2 H2 z2 e2 r2 => ?_
  refine s_cmp kx e2.i (Rep.mono e2.g _ _ r1) r2 (GOk.mono (GOk.map z2) (e1.trans e2)) fun b hb => ?_
  exact ⟨b, rfl, hb _ _ (e1.trans e2)⟩
theorem w_un {op : UnaryOp} {xa : Expr} {p : Pos} {fa : R EV} {g : EV → R EV} (ha : SV Xs M E σ G H xa fa)
    (hg : ∀ x v G' H' Q, Same G' H' → Rep M G' x.d v → GOk M E G' H' (EvV M G' H' Q) (g x) → UnW Xs (unaryOp op) v H' Q) : SV Xs M E σ G H (.UnaryOp op xa p) (fa.bind g) := fun Q h => by
  refine ⟨_, fun X hX => pe_un (un_w hX) (pe_w hX), ?_⟩
  refine ha.use h.bind fun x v G1 H1 z e1 r1 => ?_
  exact hg x v G1 H1 Q e1.i r1 ((GOk.mono z e1).imp fun w hw => EvV.mono hw e1)
theorem w_not {xa : Expr} {p : Pos} {fa : R EV} (ha : SV Xs M E σ G H xa fa) : SV Xs M E σ G H (.UnaryOp .Not xa p) (fa.bind fun x => (asBool x).map fun b => .fz (.bl (!b))) := fun Q h => by
  refine ⟨_, fun X hX => pe_not (pe_w hX), ?_⟩
  refine ha.use h.bind fun x v G1 H1 z e1 r1 => ?_
  obtain ⟨b, hb, q⟩ := asBool_ok (GOk.map z)
  rw [hb] at r1
  obtain rfl := r1.bl'
  exact ⟨b, rfl, q _ _ _ e1 Rep.bl⟩
theorem b_not {xa : Expr} {p : Pos} {fa : R EV} (ha : SB Xs M E σ G H xa (fa.bind asBool)) : SB Xs M E σ G H (.UnaryOp .Not xa p) ((fa.bind fun x => (asBool x).map fun b => .fz (.bl (!b))).bind asBool) := fun Q h => by
  refine ⟨_, fun X hX => pt_not (pt_w hX), ?_⟩
  refine ha.use (Z := fun b => ∀ G' H', Ext G H G' H' → Q (!b) H') ?_ fun b G' H' z e => z G' H' e
  refine GOk.ofBind ((GOk.bind (GOk.bind h)).imp fun x z => ?_)
  exact GOk.map z
theorem w_and {xa y : Expr} {rs : List Expr} {p : Pos} {fa fb : R EV} (ha : SV Xs M E σ G H xa fa) (hb : ∀ G' H', Ext G H G' H' → SV Xs M E σ G' H' (.BoolOp .And (y :: rs) p) fb) :
    SV Xs M E σ G H (.BoolOp .And (xa :: y :: rs) p) (fa.bind fun x => (asBool x).bind fun c => if c = true then fb else .ok (.fz (.bl false))) := fun Q h => by
  refine ⟨_, fun X hX => pe_and (pe_w hX) (pe_w hX), ?_⟩
  refine ha.use h.bind fun x v G1 H1 z e1 r1 => ?_
  obtain ⟨b, hx, q⟩ := asBool_ok (GOk.bind z)
  rw [hx] at r1
  obtain rfl := r1.bl'
  refine ⟨b, rfl, ?_⟩
  cases b with
  | true => exact hb G1 H1 e1 Q ((GOk.mono q e1).imp fun w hw => EvV.mono hw e1)
  | false => exact q _ _ _ e1 Rep.bl
theorem w_or {xa y : Expr} {rs : List Expr} {p : Pos} {fa fb : R EV} (ha : SV Xs M E σ G H xa fa) (hb : ∀ G' H', Ext G H G' H' → SV Xs M E σ G' H' (.BoolOp .Or (y :: rs) p) fb) :
    SV Xs M E σ G H (.BoolOp .Or (xa :: y :: rs) p) (fa.bind fun x => (asBool x).bind fun c => if c = true then .ok (.fz (.bl true)) else fb) := fun Q h => by
  refine ⟨_, fun X hX => pe_or (pe_w hX) (pe_w hX), ?_⟩
  refine ha.use h.bind fun x v G1 H1 z e1 r1 => ?_
  obtain ⟨b, hx, q⟩ := asBool_ok (GOk.bind z)
  rw [hx] at r1
  obtain rfl := r1.bl'
  refine ⟨b, rfl, ?_⟩
  cases b with
  | false => exact hb G1 H1 e1 Q ((GOk.mono q e1).imp fun w hw => EvV.mono hw e1)
  | true => exact q _ _ _ e1 Rep.bl
theorem w_one {op : BoolOp} {y : Expr} {p : Pos} {f : R EV} (h : SV Xs M E σ G H y f) : SV Xs M E σ G H (.BoolOp op [y] p) f := fun Q q => ⟨_, fun X hX => pe_one (pe_w hX), h Q q⟩
/-- a test, whatever its whole is -/
def SW (Xs : Cx → Prop) (M : Md) (E : XK) (σ : L2.St) (G H : Hp) (ex : Expr) (f : R Bool) : Prop := ∀ Q, GOk M E G H (fun b => ∀ G' H', Ext G H G' H' → Q b H') f → WW Xs ex σ H Q
theorem SW.sb {ex : Expr} {f : R Bool} (h : SW Xs M E σ G H ex f) : SB Xs M E σ G H ex f := fun Q q => by
  obtain ⟨t, a, b⟩ := h Q q
  exact ⟨t, fun X hX => (a X hX).pt, b⟩
theorem b_and {xa y : Expr} {rs : List Expr} {p : Pos} {fa fb : R EV} (ha : SB Xs M E σ G H xa (fa.bind asBool)) (hb : ∀ G' H', Ext G H G' H' → SW Xs M E σ G' H' (.BoolOp .And (y :: rs) p) (fb.bind asBool)) :
    SW Xs M E σ G H (.BoolOp .And (xa :: y :: rs) p) ((fa.bind fun x => (asBool x).bind fun c => if c = true then fb else .ok (.fz (.bl false))).bind asBool) := fun Q h => by
  refine ⟨_, fun X hX => pw_and (pt_w hX) (pw_w hX), ?_⟩
  refine ha.use (Z := fun b => GOk M E G H (fun b => ∀ G' H', Ext G H G' H' → Q b H') ((if b = true then fb else .ok (.fz (.bl false))).bind asBool)) ?_ fun b G1 H1 z e1 => ?_
  · exact GOk.ofBind ((GOk.bind (GOk.bind h)).imp fun x z => (GOk.bind z).imp fun b q => GOk.ofBind q)
  · cases b with
    | true => exact hb G1 H1 e1 Q ((GOk.mono z e1).imp fun b q G' H' x => q G' H' (e1.trans x))
    | false => exact z _ _ e1
theorem b_or {xa y : Expr} {rs : List Expr} {p : Pos} {fa fb : R EV} (ha : SB Xs M E σ G H xa (fa.bind asBool)) (hb : ∀ G' H', Ext G H G' H' → SW Xs M E σ G' H' (.BoolOp .Or (y :: rs) p) (fb.bind asBool)) :
    SW Xs M E σ G H (.BoolOp .Or (xa :: y :: rs) p) ((fa.bind fun x => (asBool x).bind fun c => if c = true then .ok (.fz (.bl true)) else fb).bind asBool) := fun Q h => by
  refine ⟨_, fun X hX => pw_or (pt_w hX) (pw_w hX), ?_⟩
  refine ha.use (Z := fun b => GOk M E G H (fun b => ∀ G' H', Ext G H G' H' → Q b H') ((if b = true then .ok (.fz (.bl true)) else fb).bind asBool)) ?_ fun b G1 H1 z e1 => ?_
  · exact GOk.ofBind ((GOk.bind (GOk.bind h)).imp fun x z => (GOk.bind z).imp fun b q => GOk.ofBind q)
  · cases b with
    | false => exact hb G1 H1 e1 Q ((GOk.mono z e1).imp fun b q G' H' x => q G' H' (e1.trans x))
    | true => exact z _ _ e1
theorem b_and1 {y : Expr} {p : Pos} {f : R Bool} (h : SB Xs M E σ G H y f) : SW Xs M E σ G H (.BoolOp .And [y] p) f := fun Q q => ⟨_, fun X hX => pw_and1 (pt_w hX), h Q q⟩
theorem b_or1 {y : Expr} {p : Pos} {f : R Bool} (h : SB Xs M E σ G H y f) : SW Xs M E σ G H (.BoolOp .Or [y] p) f := fun Q q => ⟨_, fun X hX => pw_or1 (pt_w hX), h Q q⟩
theorem w_ite {xt xa xb : Expr} {p : Pos} {ft fa fb : R EV} (ht : SB Xs M E σ G H xt (ft.bind asBool)) (ha : ∀ G' H', Ext G H G' H' → SV Xs M E σ G' H' xa fa) (hb : ∀ G' H', Ext G H G' H' → SV Xs M E σ G' H' xb fb) :
    SV Xs M E σ G H (.IfExp xt xa xb p) (ft.bind fun x => (asBool x).bind fun c => if c = true then fa else fb) := fun Q h => by
  refine ⟨_, fun X hX => pe_ifExp (pt_w hX) (pe_w hX) (pe_w hX), ?_⟩
  refine ht.use (Z := fun b => GOk M E G H (EvV M G H Q) (if b = true then fa else fb)) ?_ fun b G1 H1 z e1 => ?_
  · exact GOk.ofBind ((GOk.bind h).imp fun x z => GOk.bind z)
  · cases b with
    | true => exact ha G1 H1 e1 Q ((GOk.mono z e1).imp fun w hw => EvV.mono hw e1)
    | false => exact hb G1 H1 e1 Q ((GOk.mono z e1).imp fun w hw => EvV.mono hw e1)
theorem w_call {f : Str} {e : Expr} {es : List Expr} {p p2 : Pos} {fl : R (List D)} (kx : Kx Xs M T W c) (hh : c.hot = false) (hf : f ∈ c.fns) (hg : gloC c f = true) (hall : (e :: es).all nst = true) (ha : SL Xs M (fun cls d H' => W cls d σ H') σ G H (e :: es) fl) :
    SV Xs M (fun cls d H' => W cls d σ H') σ G H (.Call (.Name f p) (e :: es) [] p2) (fl.bind fun ds => T.call f ds) := fun Q h => by
  simp only [List.all_cons, Bool.and_eq_true] at hall
  obtain ⟨k, fa, fd, ps, F, hr, hm, hk, hb, hlen⟩ := kx.fns hh f hf
  refine ⟨tCallSD (spOf M ps.length (T.call f)) [] (fun σ => WE W σ) (WA Xs (e :: es)), fun X hX => ?_, ?_⟩
  · refine pe_callSD (k := k) (f := fa) (fd := fd) (ps := ps) (CX := L2.CX X.prog X.w) ?_ (hr X hX) (kx.gl hg X hX) (by rw [kx.mg X hX]; exact hm) (by rw [kx.K X hX]; exact hk) (by rw [kx.K X hX]; exact hb) .nil (fun σ => passAt (kx.tk X hX) σ) (pa_w hX) (nodb_dbg (glo_nodb hg)) (starE hall.1 _ _) (starAny hall.2 _ _)
    rw [kx.P X hX, kx.w X hX, kx.K X hX, kx.mg X hX, kx.base X hX]
    exact F
  · refine ha.use h.bind fun ds vs G1 H1 z e1 r1 => ?_
    have hl : ds.length = ps.length := by
      by_cases hl : ds.length = ps.length
      · exact hl
      · rw [hlen ds hl] at z; exact z.elim
    rw [List.append_nil]
    exact ⟨by rw [r1.length, hl], G1, ds, e1.i, r1, (GOk.mono z e1).imp fun w hw => EvV.mono hw e1⟩
theorem Bi.boot (f : Bi) (h : f.math = false) : bootBuiltins f.name = some (biVal f) := by
  cases f <;> first | (cases h; done) | decide +kernel
theorem w_bi {f : Bi} {e : Expr} {es : List Expr} {p p2 : Pos} {fl : R (List D)} (kx : Kx Xs M T W c) (hg : (if f.math then gloC c f.name && decide (f.name ∈ c.im) else bltC c f.name) = true) (hcool : f.cool = true → c.hot = false) (hall : (e :: es).all nst = true)
    (ha : SL Xs M E σ G H (e :: es) fl) : SV Xs M E σ G H (.Call (.Name f.name p) (e :: es) [] p2) (fl.bind fun ds => evBi f ds) := fun Q h => by
  simp only [List.all_cons, Bool.and_eq_true] at hall
  have key : WA Xs (e :: es) σ H fun vs H1 => CallW Xs (biVal f) vs H1 Q := by
    refine ha.use h.bind fun ds vs G1 H1 z e1 r1 => ?_
    exact s_bi kx hcool e1.i r1 ((GOk.mono z e1).imp fun w hw => EvV.mono hw e1)
  cases hm : f.math with
  | true =>
    rw [hm] at hg
    simp only [if_true, Bool.and_eq_true, decide_eq_true_eq] at hg
    obtain ⟨hg, him⟩ := hg
    cases f <;> first | (cases hm; done) | skip
    · exact ⟨_, fun X hX => pe_callBfun (call_w hX) (kx.gl hg X hX) (by rw [kx.mg X hX]; exact kx.gcd him) (pa_w hX) (nodb_dbg (glo_nodb hg)) (starE hall.1 _ _) (starAny hall.2 _ _), key⟩
    · exact ⟨_, fun X hX => pe_callBfun (call_w hX) (kx.gl hg X hX) (by rw [kx.mg X hX]; exact kx.lcm him) (pa_w hX) (nodb_dbg (glo_nodb hg)) (starE hall.1 _ _) (starAny hall.2 _ _), key⟩
  | false =>
    rw [hm] at hg
    simp only [Bool.false_eq_true, if_false] at hg
    have hb := Bi.boot f hm
    have hn := glo_nodb (blt_glo hg)
    cases f <;> first
      | (cases hm; done)
      | exact ⟨_, fun X hX => pe_callB (call_w hX) (kx.gl (blt_glo hg) X hX) (kx.blm hg X hX) hb (pa_w hX) (nodb_name hn) (nodb_dbg hn) (starE hall.1 _ _) (starAny hall.2 _ _), key⟩
      | exact ⟨_, fun X hX => pe_callTy (call_w hX) (kx.gl (blt_glo hg) X hX) (kx.blm hg X hX) hb (pa_w hX) (nodb_name hn) (nodb_dbg hn) (starE hall.1 _ _) (starAny hall.2 _ _), key⟩
theorem w_me {m : Me} {xo e : Expr} {ap p : Pos} {fo fe : R EV} (kx : Kx Xs M T W c) (hn : nst e = true) (hs : nsup xo = true) (hp : ap.endLine = p.line)
    (ho : SV Xs M E σ G H xo fo) (he : ∀ G' H', Ext G H G' H' → SV Xs M E σ G' H' e fe) :
    SV Xs M E σ G H (.Call (.Attribute xo m.name ap) [e] [] p) (fo.bind fun x => match x.d with | .str a => (fe.bind fun y => .ok [y.d]).bind fun ds => evMe m a ds | _ => .st) := fun Q h => by
  have hl : (ap.endLine == p.line) = true := by rw [hp]; exact beq_self_eq_true _
  have key : tM1 (MtW Xs (meId m)) (WP Xs xo) (WP Xs e) σ H Q := by
    refine ho.use h.bind fun x v G1 H1 z e1 r1 => ?_
    split at z
    · rename_i a ea
      rw [ea] at r1
      obtain rfl := r1.str'
      refine ⟨⟨a, rfl⟩, ?_⟩
      refine (he G1 H1 e1).use (GOk.mono (GOk.bind (GOk.bind z)) e1) fun y u G2 H2 z2 e2 r2 => ?_
      exact s_me kx e2.i r2 ((GOk.mono (show GOk M E G H (EvV M G H Q) (evMe m a [y.d]) from z2) (e1.trans e2)).imp fun w hw => EvV.mono hw (e1.trans e2))
    · exact z.elim
  cases m with
  | part => exact ⟨_, fun X hX => pe_m1 F.slot_str_partition F.type_str_partition (mt_w hX) (pe_w hX) (pe_w hX) (by rw [starE hn]; rfl) (supId hs _ _ _) hl, key⟩
  | split => exact ⟨_, fun X hX => pe_m1 F.slot_str_split F.type_str_split (mt_w hX) (pe_w hX) (pe_w hX) (by rw [starE hn]; rfl) (supId hs _ _ _) hl, key⟩
  | join => exact ⟨_, fun X hX => pe_m1 F.slot_str_join F.type_str_join (mt_w hX) (pe_w hX) (pe_w hX) (by rw [starE hn]; rfl) (supId hs _ _ _) hl, key⟩
  | index => exact ⟨_, fun X hX => pe_m1 F.slot_str_index F.type_str_index (mt_w hX) (pe_w hX) (pe_w hX) (by rw [starE hn]; rfl) (supId hs _ _ _) hl, key⟩
theorem w_ix {xa xb : Expr} {p : Pos} {fa fb : R EV} (kx : Kx Xs M T W c) (ha : SV Xs M E σ G H xa fa) (hb : ∀ G' H', Ext G H G' H' → SV Xs M E σ G' H' xb fb) (hn : nslice xb = true) :
    SV Xs M E σ G H (.Subscript xa xb p) (fa.bind fun x => fb.bind fun y => opIx x.d y.d) := fun Q h => by
  refine ⟨_, fun X hX => pe_ix (ix_w hX) (pe_w hX) (pe_w hX) (plainIx hn), ?_⟩
  refine ha.use h.bind fun x v G1 H1 z e1 r1 => ?_
  refine (hb G1 H1 e1).use (GOk.mono (GOk.bind z) e1) fun y u G2 H2 z2 e2 r2 => ?_
  exact s_ix kx e2.i (Rep.mono e2.g _ _ r1) r2 ((GOk.mono z2 (e1.trans e2)).imp fun w hw => EvV.mono hw (e1.trans e2))
/-- a bound of a slice, written or not -/
def SO (Xs : Cx → Prop) (M : Md) (E : XK) (σ : L2.St) (G H : Hp) (ex : Option Expr) (f : R (Option Int)) : Prop :=
  ∀ Q, GOk M E G H (fun b => ∀ G' H', Ext G H G' H' → Q b H') f → WO Xs ex σ H Q
theorem o_none (s : Same G H) : SO Xs M E σ G H none (.ok none) := fun Q h => ⟨_, fun X hX => po_none, h G H (Ext.refl s)⟩
theorem o_some {ex : Expr} {f : R EV} (h : SV Xs M E σ G H ex f) : SO Xs M E σ G H (some ex) (f.bind fun l => slB l.d) := fun Q q => by
  refine ⟨_, fun X hX => po_some (pe_w hX), ?_⟩
  refine h.use (GOk.bind q) fun x v G1 H1 z e1 r1 => ?_
  unfold slB at z
  split at z
  · rename_i e
    rw [e] at r1
    obtain rfl := r1.int'
    exact ⟨_, rfl, z _ _ e1⟩
  · exact z.elim
theorem w_sl {xa : Expr} {l u : Option Expr} {p p2 : Pos} {fa : R EV} {fl fu : R (Option Int)} (kx : Kx Xs M T W c) (ha : SV Xs M E σ G H xa fa) (hl : ∀ G' H', Ext G H G' H' → SO Xs M E σ G' H' l fl) (hu : ∀ G' H', Ext G H G' H' → SO Xs M E σ G' H' u fu) :
    SV Xs M E σ G H (.Subscript xa (.Slice l u none p2) p) (fa.bind fun x => fl.bind fun l => fu.bind fun h => opSl x.d l h) := fun Q h => by
  refine ⟨_, fun X hX => pe_slice (sl_w hX) (pe_w hX) (po_w hX) (po_w hX), ?_⟩
  refine ha.use h.bind fun x v G1 H1 z e1 r1 => ?_
  refine hl G1 H1 e1 _ (GOk.mono ((GOk.bind z).imp fun lo z3 G2 H2 e2 => ?_) e1)
  refine hu G2 H2 (e1.trans e2) _ (GOk.mono ((GOk.bind z3).imp fun hi z5 G3 H3 e3 => ?_) (e1.trans e2))
  exact s_sl kx e3.i (Rep.mono (e2.g.trans e3.g) _ _ r1) ((GOk.mono z5 ((e1.trans e2).trans e3)).imp fun w hw => EvV.mono hw ((e1.trans e2).trans e3))
theorem w_tup {xs : List Expr} {k : Nat} {p : Pos} {fl : R (List D)} (ha : SL Xs M E σ G H xs fl) : SV Xs M E σ G H (.Tuple xs k p) (fl.bind fun ds => if ds.length ≤ sizeLine then .ok (.fz (.tup ds)) else .st) := fun Q h => by
  refine ⟨_, fun X hX => pe_tup (pa_w hX), ?_⟩
  refine ha.use h.bind fun ds vs G1 H1 z e1 r1 => ?_
  by_cases hl : ds.length ≤ sizeLine
  · rw [if_pos hl] at z
    exact ⟨by rw [r1.length]; exact hl, newTup (EvV.mono z e1) e1.i r1⟩
  · rw [if_neg hl] at z; exact z.elim
theorem w_ls {xs : List Expr} {p : Pos} {fl : R (List D)} (ha : SL Xs M E σ G H xs fl) : SV Xs M E σ G H (.List xs p) (fl.bind fun ds => if ds.length ≤ sizeLine then .ok (.fr (.lst ds)) else .st) := fun Q h => by
  refine ⟨_, fun X hX => pe_lst (pa_w hX), ?_⟩
  refine ha.use h.bind fun ds vs G1 H1 z e1 r1 => ?_
  by_cases hl : ds.length ≤ sizeLine
  · rw [if_pos hl] at z
    exact ⟨by rw [r1.length]; exact hl, newLst (EvV.mono z e1) e1.i r1⟩
  · rw [if_neg hl] at z; exact z.elim
theorem l_nil (s : Same G H) : SL Xs M E σ G H [] (.ok []) := fun Q h => ⟨_, fun X hX => pa_nil, h [] G H (Ext.refl s) (by unfold Reps; rfl)⟩
theorem l_cons {x : Expr} {xs : List Expr} {f : R EV} {fl : R (List D)} (hn : nst x = true) (ha : SV Xs M E σ G H x f) (hb : ∀ G' H', Ext G H G' H' → SL Xs M E σ G' H' xs fl) :
    SL Xs M E σ G H (x :: xs) (f.bind fun x => fl.map (x.d :: ·)) := fun Q h => by
  refine ⟨_, fun X hX => pa_cons (pe_w hX) (pa_w hX) (starE hn _ _), ?_⟩
  refine ha.use h.bind fun x v G1 H1 z e1 r1 => ?_
  refine (hb G1 H1 e1).use (GOk.mono (GOk.map z) e1) fun ds vs G2 H2 z2 e2 r2 => ?_
  exact z2 _ _ _ (e1.trans e2) (by unfold Reps; exact ⟨v, vs, rfl, Rep.mono e2.g _ _ r1, r2⟩)
/-- an f-string's part gives a text -/
def SJ (Xs : Cx → Prop) (M : Md) (E : XK) (σ : L2.St) (G H : Hp) (xs : List Expr) (acc : Str) (f : R Str) : Prop :=
  ∀ Q : Str → Hp → Prop, GOk M E G H (fun z => ∀ G' H', Ext G H G' H' → Q z H') f → tJs (xs.map (WP Xs)) acc σ H Q
theorem pj_w {X : Cx} (hX : Xs X) : ∀ xs : List Expr, PJ X xs (xs.map (WP Xs))
  | [] => .nil
  | x :: xs => .cons (pe_w hX) (pj_w hX xs)
theorem j_nil (s : Same G H) {acc : Str} : SJ Xs M E σ G H [] acc (.ok acc) := fun Q h => h G H (Ext.refl s)
theorem j_cons {x : Expr} {xs : List Expr} {acc : Str} {f : R EV} {fj : Str → R Str} (hx : ∀ Q : VK, GOk M E G H (fun x => ∀ y, strOf x.d = some y → ∀ G' H', Ext G H G' H' → Q (.str y) H') (f.bind fun x => match strOf x.d with | some _ => .ok x | none => .st) → WP Xs x σ H Q)
    (hj : ∀ y G' H', Ext G H G' H' → SJ Xs M E σ G' H' xs (acc ++ y) (fj (acc ++ y))) :
    SJ Xs M E σ G H (x :: xs) acc (f.bind fun x => match strOf x.d with | some y => if (acc ++ y).length ≤ sizeLine then fj (acc ++ y) else .st | none => .st) := fun Q h => by
  show WP Xs x σ H fun v H1 => ∃ y : Str, v = .str y ∧ (acc ++ y).length ≤ sizeLine ∧ tJs (xs.map (WP Xs)) (acc ++ y) σ H1 Q
  refine hx _ (GOk.ofBind ((GOk.bind h).imp fun x z => ?_))
  cases e : strOf x.d with
  | none => rw [e] at z; exact z.elim
  | some y =>
    rw [e] at z
    intro y' e' G1 H1 e1
    rw [e] at e'; cases e'
    by_cases hl : (acc ++ y).length ≤ sizeLine
    · simp only [if_pos hl] at z
      exact ⟨y, rfl, hl, hj y G1 H1 e1 Q ((GOk.mono z e1).imp fun w q G' H' e2 => q G' H' (e1.trans e2))⟩
    · simp only [if_neg hl] at z; exact z.elim
theorem j_fmt {x : Expr} {p : Pos} {f : R EV} (hv : SV Xs M E σ G H x f) : ∀ Q : VK, GOk M E G H (fun x => ∀ y, strOf x.d = some y → ∀ G' H', Ext G H G' H' → Q (.str y) H') (f.bind fun x => match strOf x.d with | some _ => .ok x | none => .st) → WP Xs (.FormattedValue x (-1) none p) σ H Q := fun Q h => by
  refine ⟨_, fun X hX => pe_fmt (pe_w hX), ?_⟩
  refine hv.use (GOk.bind h) fun x v G1 H1 z e1 r1 => ?_
  cases e : strOf x.d with
  | none => rw [e] at z; exact z.elim
  | some y =>
    rw [e] at z
    have q := z y e
    cases ed : x.d <;> rw [ed] at e r1 <;> simp only [strOf] at e <;> first | (cases e; done) | skip
    · rename_i i
      obtain rfl := r1.int'
      by_cases hl : lgI i < 1920
      · rw [if_pos hl] at e; cases e
        exact .inr ⟨i, rfl, hl, q _ _ e1⟩
      · rw [if_neg hl] at e; cases e
    · rename_i w
      obtain rfl := r1.str'
      by_cases hl : w.length ≤ sizeLine
      · rw [if_pos hl] at e; cases e
        exact .inl ⟨_, rfl, hl, q _ _ e1⟩
      · rw [if_neg hl] at e; cases e
theorem j_str {s : Str} {k : Nat} {p : Pos} (sm : Same G H) : ∀ Q : VK, GOk M E G H (fun (x : EV) => ∀ y, strOf x.d = some y → ∀ G' H', Ext G H G' H' → Q (.str y) H') (R.bind (R.ok (EV.fz (D.str s))) fun (x : EV) => match strOf x.d with | some _ => R.ok x | none => R.st) → WP Xs (.Constant (.str s) k p) σ H Q := fun Q h => by
  refine ⟨_, fun X hX => pe_str, ?_⟩
  have h := GOk.bind h
  cases e : strOf (EV.fz (.str s)).d with
  | none => simp only [GOk, e] at h
  | some y =>
    have e2 : y = s := by
      unfold strOf at e
      simp only [EV.d_fz] at e
      split at e <;> cases e
      rfl
    subst e2
    simp only [GOk, e] at h
    exact h _ rfl G H (Ext.refl sm)
theorem w_fst {v1 v2 : Expr} {vs : List Expr} {p : Pos} {f : R Str} (h : SJ Xs M E σ G H (v1 :: v2 :: vs) Str.empty f) : SV Xs M E σ G H (.JoinedStr (v1 :: v2 :: vs) p) (f.map fun s => .fz (.str s)) := fun Q q => by
  refine ⟨_, fun X hX => pe_joined (pj_w hX _), ?_⟩
  refine h _ ((GOk.map q).imp fun z hz G' H' e => ?_)
  exact hz _ _ _ e Rep.str
end
end PX

set_option Elab.async false
set_option linter.all false
set_option maxRecDepth 100000
/-! Px9: a checked expression computes what evE says: the whole. -/
namespace PX
open PySem PySem.Spec PyProof.Rows L2

def plainTst : Expr → Bool
  | .IfExp _ _ _ _ => false
  | .UnaryOp .Not _ _ => false
  | .BoolOp _ _ _ => false
  | .Compare _ _ _ _ => false
  | _ => true
theorem plainTst_val {e : Expr} (h : plainTst e = true) (env : Env) (whole : Sem Value) : isTrue e env whole = (do let v ← whole; standAt e.pos; holding [v] (truthy v)) := by
  cases e <;> first | rfl | (cases h; done) | skip
  rename_i op x p
  cases op <;> first | rfl | cases h
set_option maxHeartbeats 4000000
section
variable {M : Md} {T : Tb} {G0 H0 : Hp}
/-- as a value and, where the rules know how its truth is asked, as a test -/
def SE (Xs : Cx → Prop) (M : Md) (E : XK) (σ : L2.St) (G H : Hp) (ex : Expr) (f : R EV) : Prop := SV Xs M E σ G H ex f ∧ (tstOk ex = true → SB Xs M E σ G H ex (f.bind asBool))
abbrev WK (W : WX) (σ : L2.St) : XK := fun cls d H' => W cls d σ H'
theorem SE.plain {Xs : Cx → Prop} {E : XK} {σ : L2.St} {G H : Hp} {ex : Expr} {f : R EV} (h : SV Xs M E σ G H ex f) (hp : plainTst ex = true) : SE Xs M E σ G H ex f :=
  ⟨h, fun _ => SV.test h fun env whole => plainTst_val hp env whole⟩
theorem RepF.look {G : Hp} {d : D} {f : Str} : ∀ {fs : List (Str × D)} {ws : List (Str × V)}, RepF M G fs ws → fs.lookup f = some d → ∃ v, ws.lookup f = some v ∧ Rep M G d v := by
  intro fs
  induction fs with
  | nil => intro ws _ h; cases h
  | cons q fs ih =>
    intro ws hw h
    obtain ⟨k, d'⟩ := q
    unfold RepF at hw
    obtain ⟨v, r, rfl, r1, r2⟩ := hw
    rw [List.lookup_cons] at h ⊢
    cases hk : (f == k) with
    | true => rw [hk] at h; cases h; exact ⟨v, rfl, r1⟩
    | false => rw [hk] at h; exact ih r2 h
theorem w_fld {Xs : Cx → Prop} {W : WX} {c : Cs} {E : XK} {σ : L2.St} {G H : Hp} {xo : Expr} {f : Str} {p : Pos} {fo : R EV} (kx : Kx Xs M T W c) (ho : SV Xs M E σ G H xo fo) (hs : nsup xo = true) (hf : f ∈ c.flds) :
    SV Xs M E σ G H (.Attribute xo f p) (fo.bind fun x => match x.d with | .obj cl fs => (match fs.lookup f, T.oc cl with | some d, true => .ok (.fz d) | _, _ => .st) | _ => .st) := fun Q h => by
  refine ⟨tFld M.K (WP Xs xo) f, fun X hX => by rw [← kx.K X hX]; exact pe_fld (pe_w hX) (supId hs _ _ _), ?_⟩
  refine ho.use h.bind fun x v G1 H1 z e1 r1 => ?_
  cases ed : x.d <;> rw [ed] at z r1 <;> first | exact z.elim | skip
  rename_i cl fs
  unfold Rep at r1
  obtain ⟨a, C, dx, ws, rfl, k1, k2, k3, k4⟩ := r1
  cases el : fs.lookup f with
  | none => simp only [el] at z; exact z.elim
  | some d =>
   cases eo : T.oc cl with
   | false => simp only [el, eo] at z; exact z.elim
   | true =>
    simp only [el, eo] at z
    obtain ⟨v, e1', e2'⟩ := RepF.look k4 el
    obtain ⟨hC, hN⟩ := kx.obj cl C f eo k1 hf
    exact ⟨a, C, dx, ws, v, rfl, e1.i _ _ k2, hC, hN, e1', EvV.val (EvV.mono z e1) e1.i e2'⟩
theorem w_nameX {Xs : Cx → Prop} {W : WX} {c : Cs} {σ : L2.St} {G H : Hp} {i : Nat} {x : Str} {p : Pos} {v : V} {Q : VK} (kx : Kx Xs M T W c) (h1 : c.N[i]? = some x) (h2 : visC c.sc x = true) (h3 : nodb x = true) (e : σ[i]? = some (some v)) (q : Q v H) : WP Xs (.Name x p) σ H Q := by
  refine ⟨tVar i, fun X hX => pe_var (by rw [kx.N X hX]; exact h1) ?_ (nodb_dbg h3) (nodb_cls h3), v, e, q⟩
  rw [kx.sc X hX]
  unfold visC at h2
  split at h2
  · rename_i e; exact .inl e
  · rename_i e; exact .inr (.inl e)
  · rename_i e; exact .inr (.inr e)
  · cases h2
theorem w_isE {Xs : Cx → Prop} {W : WX} {c : Cs} {E : XK} {ρ : Rho} {σ : L2.St} {G H : Hp} {i : Nat} {x C : Str} {p1 p2 p3 p4 : Pos} (kx : Kx Xs M T W c) (r : Rel M G0 H0 ρ σ G H) (h0 : c.hot = true) (h1 : bltC c "isinstance" = true) (h2 : gloC c C = true) (h3 : c.N[i]? = some x) (h4 : visC c.sc x = true) (h5 : nodb x = true) :
    SV Xs M E σ G H (.Call (.Name "isinstance" p1) [.Name x p2, .Name C p3] [] p4) (match ρ[i]? with | some (.xc cc _) => (match T.sub cc C with | some b => .ok (.fz (.bl b)) | none => .st) | _ => .st) := fun Q h => by
  split at h
  · rename_i cc fs e
    obtain ⟨v, e1, a, D, d, m1, rfl, m2, m3⟩ := r.xc i cc fs e
    split at h
    · rename_i b eb
      obtain ⟨a', D', d', cc', m1', m2', hsu⟩ := kx.hot h0
      rw [m1] at m1'; cases m1'
      obtain ⟨cv, u, hu, hu2, hm, hc⟩ := (kx.su a D d cc m2 Xs hsu).1 cc C b eb m2
      have hn := glo_nodb (blt_glo h1)
      refine ⟨tCB (CallW Xs (.builtin "isinstance")) (tCons (WP Xs (.Name x p2)) (tCons (tC cv) tNil)), fun X hX => ?_, ?_⟩
      · refine pe_callB (call_w hX) (kx.gl (blt_glo h1) X hX) (kx.blm h1 X hX) (by decide +kernel) (pa_cons (pe_w hX) (pa_cons ?_ pa_nil)) (nodb_name hn) (nodb_dbg hn)
        rcases hm with hm | ⟨hm, hb⟩
        · exact pe_glob (kx.gl h2 X hX) (by rw [kx.mg X hX]; exact hm) hu (nodb_dbg (glo_nodb h2))
        · exact pe_bltn (kx.gl h2 X hX) (by rw [kx.mg X hX]; exact hm) hb hu (nodb_name (glo_nodb h2)) (nodb_dbg (glo_nodb h2))
      · refine w_nameX (G := G) kx h3 h4 h5 e1 ?_
        have q : Q (.bl b) H := EvV.val h r.same Rep.bl
        by_cases hX : ∃ X, Xs X
        · obtain ⟨X, hX⟩ := hX
          exact hc X hX H Q (m3.imp (fun z => z.2) fun ⟨e', ws, z1, z2, _⟩ => ⟨e', ws, z1, r.same _ _ z2⟩) q
        · exact ⟨fun _ _ _ => True, fun X z => absurd ⟨X, z⟩ hX, trivial⟩
    · exact h.elim
  · exact h.elim
theorem w_exf {Xs : Cx → Prop} {W : WX} {c : Cs} {E : XK} {ρ : Rho} {σ : L2.St} {G H : Hp} {i : Nat} {x f : Str} {p1 p2 : Pos} (kx : Kx Xs M T W c) (r : Rel M G0 H0 ρ σ G H) (h0 : c.hot = true) (h3 : c.N[i]? = some x) (h4 : visC c.sc x = true) (h5 : nodb x = true) (h6 : f ∈ c.xfl) :
    SV Xs M E σ G H (.Attribute (.Name x p1) f p2) (match ρ[i]? with | some (.xc c fs) => (match fs.lookup f, T.sub c c with | some d, some _ => .ok (.fz d) | _, _ => .st) | _ => .st) := fun Q h => by
  split at h
  · rename_i cc fs e
    obtain ⟨v, e1, a, D, d, m1, rfl, m2, m3⟩ := r.xc i cc fs e
    split at h
    · rename_i dd sb ed es
      rcases m3 with ⟨rfl, _⟩ | ⟨q, ws, rfl, m4, m5⟩
      · cases ed
      · obtain ⟨w, e2, e3⟩ := RepF.look m5 ed
        obtain ⟨a', D', d', cc', m1', m2', hsu⟩ := kx.hot h0
        rw [m1] at m1'; cases m1'
        refine ⟨_, fun X hX => (kx.su a D _ cc m2 Xs hsu).2 cc sb es m2 f h6 X hX (.Name x p1) p2 rfl, ?_⟩
        refine w_nameX (G := G) kx h3 h4 h5 e1 ⟨rfl, q, ws, w, rfl, r.same _ _ m4, e2, EvV.val h r.same e3⟩
    · exact h.elim
  · exact h.elim
/-- what a for, a comprehension walks -/
theorem sndI2 {k : ItK} {as : List E} {Xs : Cx → Prop} {W : WX} {c : Cs} (kx : Kx Xs M T W c) {it xtg : Expr} (h3 : chkI c (fun exs => chkL as c exs && exs.all nst) k it xtg = true) {ρ : Rho} {σ : L2.St} {G H : Hp} (r : Rel M G0 H0 ρ σ G H)
    (hL : ∀ xs, chkL as c xs = true → xs.all nst = true → SL Xs M (WK W σ) σ G H xs (evL T ρ as))
    (hA : ∀ ex, chkL as c [ex] = true → ∀ Q : VK, GOk M (WK W σ) G H (fun ds => ∀ d, ds = [d] → ∀ v G' H', Ext G H G' H' → Rep M G' d v → Q v H') (evL T ρ as) → WP Xs ex σ H Q)
    {R : It → Hp → Prop} (h : GOk M (WK W σ) G H (fun ds => GOk M (WK W σ) G H (fun items => ∀ J G' H', Ext G H G' H' → Wk2 M G' ds J items → R J H') (itemsOf k ds)) (evL T ρ as)) : WI Xs xtg it σ H R := by
  refine s_it kx r.same h3 (fun exs hf => ?_) (fun ex hf Q hq => ?_) h
  · rw [Bool.and_eq_true] at hf
    exact hL exs hf.1 hf.2
  · rw [Bool.and_eq_true] at hf
    exact hA ex hf.1 Q hq
theorem sndI {k : ItK} {as : List E} {Xs : Cx → Prop} {W : WX} {c : Cs} (kx : Kx Xs M T W c) {it xtg : Expr} (h3 : chkI c (fun exs => chkL as c exs && exs.all nst) k it xtg = true) {ρ : Rho} {σ : L2.St} {G H : Hp} (r : Rel M G0 H0 ρ σ G H)
    (hL : ∀ xs, chkL as c xs = true → xs.all nst = true → SL Xs M (WK W σ) σ G H xs (evL T ρ as))
    (hA : ∀ ex, chkL as c [ex] = true → ∀ Q : VK, GOk M (WK W σ) G H (fun ds => ∀ d, ds = [d] → ∀ v G' H', Ext G H G' H' → Rep M G' d v → Q v H') (evL T ρ as) → WP Xs ex σ H Q)
    {R : It → Hp → Prop} (h : GOk M (WK W σ) G H (fun items => ∀ J G' H', Ext G H G' H' → Wk M G' J items → R J H') ((evL T ρ as).bind (itemsOf k))) : WI Xs xtg it σ H R :=
  sndI2 kx h3 r hL hA ((GOk.bind h).imp fun ds z => z.imp fun items q J G' H' x w => q J G' H' x w.1)
/-- a comprehension -/
theorem sndC {own : List Nat} {tg : Tg} {k : ItK} {as ifs : List E} {el : E} {Xs : Cx → Prop} {W : WX} {c : Cs} (kx : Kx Xs M T W c) {scope : Scope} {it xtg xel : Expr} {xifs : List Expr} (h1 : c.hot = false) (h5 : chkTg (csB c scope) tg xtg = true)
    (h6 : tg.is.all (fun i => decide (i ∈ own)) = true) {ρ : Rho} {σ : L2.St} {G H : Hp} (r : Rel M G0 H0 ρ σ G H)
    (hi : ∀ {R : It → Hp → Prop}, GOk M (WK W σ) G H (fun items => ∀ J G' H', Ext G H G' H' → Wk M G' J items → R J H') ((evL T ρ as).bind (itemsOf k)) → WI Xs xtg it σ H R)
    (ht : ∀ {ρ σ G H Q}, Rel M G0 H0 ρ σ G H → GOk M (fun _ _ _ => False) G H (fun b => ∀ G' H', Ext G H G' H' → Q b H') (evT T ρ ifs) → WTs (Bk Xs scope) xifs σ H Q)
    (he : ∀ {ρ σ G H}, Rel M G0 H0 ρ σ G H → SV (Bk Xs scope) M (fun _ _ _ => False) σ G H xel (evE T ρ el)) (Q : VK)
    (h : GOk M (WK W σ) G H (EvV M G H Q) ((evL T ρ as).bind fun ds => (itemsOf k ds).bind fun xs => if xs.length ≤ sizeLine then (lcGo tg (fun ρ1 => evT T ρ1 ifs) (fun ρ1 => evE T ρ1 el) (wipeS ρ own) xs).nox.map fun ys => .fr (.lst ys) else .st)) :
    tLc (WI Xs xtg it) (WG (Bk Xs scope) xtg) (WTs (Bk Xs scope) xifs) (WP (Bk Xs scope) xel) own σ H Q := by
  have kb := kx.bk h1 scope
  refine s_lc (ts := fun ρ1 => evT T ρ1 ifs) (el := fun ρ1 => evE T ρ1 el) (fi := (evL T ρ as).bind (itemsOf k)) r hi (fun i hi => by have := List.all_eq_true.mp h6 i hi; exact of_decide_eq_true this)
    (fun r rd hq => s_tg kb h5 r rd hq) (fun {ρ σ G H Q} r hq => ht r hq) (fun {ρ σ G H} r => he r) ?_
  refine GOk.ofBind ?_
  exact (GOk.bind h).imp fun ds z => GOk.bind z
mutual
theorem sndE : ∀ (e : E) {Xs : Cx → Prop} {W : WX} {c : Cs} (kx : Kx Xs M T W c) (ex : Expr), chkE e c ex = true → ∀ {ρ : Rho} {σ : L2.St} {G H : Hp}, Rel M G0 H0 ρ σ G H → SE Xs M (WK W σ) σ G H ex (evE T ρ e)
  | .var i, Xs, W, c, kx, ex, hk, ρ, σ, G, H, r => by
    unfold chkE at hk
    split at hk <;> first | (cases hk; done) | skip
    simp only [Bool.and_eq_true, decide_eq_true_eq, Bool.not_eq_true'] at hk
    unfold evE
    exact SE.plain (w_name kx r hk.1.1 hk.1.2 hk.2) rfl
  | .non, Xs, W, c, kx, ex, hk, ρ, σ, G, H, r => by
    unfold chkE at hk
    split at hk <;> first | (cases hk; done) | skip
    unfold evE
    exact SE.plain (fun Q h => ⟨tC .non, fun X hX => pe_non, EvV.val h r.same Rep.non⟩) rfl
  | .bl b, Xs, W, c, kx, ex, hk, ρ, σ, G, H, r => by
    unfold chkE at hk
    split at hk <;> first | (cases hk; done) | skip
    have e := eq_of_beq hk
    subst e
    unfold evE
    exact SE.plain (fun Q h => ⟨tC (.bl _), fun X hX => pe_bl, EvV.val h r.same Rep.bl⟩) rfl
  | .int b, Xs, W, c, kx, ex, hk, ρ, σ, G, H, r => by
    unfold chkE at hk
    split at hk <;> first | (cases hk; done) | skip
    have e := of_decide_eq_true hk
    subst e
    unfold evE
    exact SE.plain (fun Q h => ⟨tC (.int _), fun X hX => pe_int, EvV.val h r.same Rep.int⟩) rfl
  | .str b, Xs, W, c, kx, ex, hk, ρ, σ, G, H, r => by
    unfold chkE at hk
    split at hk <;> first | (cases hk; done) | skip
    have e := of_decide_eq_true hk
    subst e
    unfold evE
    exact SE.plain (fun Q h => ⟨tC (.str _), fun X hX => pe_str, EvV.val h r.same Rep.str⟩) rfl
  | .glb x, Xs, W, c, kx, ex, hk, ρ, σ, G, H, r => by
    unfold chkE at hk
    split at hk <;> first | (cases hk; done) | skip
    simp only [Bool.and_eq_true, decide_eq_true_eq, Bool.not_eq_true'] at hk
    obtain ⟨rfl, hk⟩ := hk
    unfold evE
    exact SE.plain (w_glb kx r.same hk) rfl
  | .tyn x T', Xs, W, c, kx, ex, hk, ρ, σ, G, H, r => by
    unfold chkE at hk
    split at hk <;> first | (cases hk; done) | skip
    simp only [Bool.and_eq_true, decide_eq_true_eq, Bool.not_eq_true'] at hk
    obtain ⟨⟨rfl, hk⟩, hb⟩ := hk
    unfold evE
    have hn := glo_nodb (blt_glo hk)
    exact SE.plain (fun Q h => ⟨tC (.ty T'), fun X hX => pe_bltn (kx.gl (blt_glo hk) X hX) (kx.blm hk X hX) hb rfl (nodb_name hn) (nodb_dbg hn), EvV.val h r.same (by unfold Rep; rfl)⟩) rfl
  | .bin op a b, Xs, W, c, kx, ex, hk, ρ, σ, G, H, r => by
    unfold chkE at hk
    split at hk <;> first | (cases hk; done) | skip
    simp only [Bool.and_eq_true, decide_eq_true_eq, Bool.not_eq_true'] at hk
    obtain ⟨⟨rfl, h1⟩, h2⟩ := hk
    unfold evE
    exact SE.plain (w_bin kx (sndE a kx _ h1 r).1 (fun G' H' e => (sndE b kx _ h2 (r.later e)).1) r.same) rfl
  | .neg a, Xs, W, c, kx, ex, hk, ρ, σ, G, H, r => by
    unfold chkE at hk
    split at hk <;> first | (cases hk; done) | skip
    unfold evE
    refine SE.plain (w_un (sndE a kx _ hk r).1 fun x v G' H' Q s rx h => ?_) rfl
    cases ed : x.d <;> rw [ed] at h rx <;> first | exact h.elim | skip
    obtain rfl := rx.int'
    exact ⟨_, fun X hX => un_neg, _, rfl, EvV.val h s Rep.int⟩
  | .nt a, Xs, W, c, kx, ex, hk, ρ, σ, G, H, r => by
    unfold chkE at hk
    split at hk <;> first | (cases hk; done) | skip
    simp only [Bool.and_eq_true, decide_eq_true_eq, Bool.not_eq_true'] at hk
    have ih := sndE a kx _ hk.1 r
    unfold evE
    exact ⟨w_not ih.1, fun _ => b_not (ih.2 hk.2)⟩
  | .cmp op a b, Xs, W, c, kx, ex, hk, ρ, σ, G, H, r => by
    unfold chkE at hk
    split at hk <;> first | (cases hk; done) | skip
    simp only [Bool.and_eq_true, decide_eq_true_eq, Bool.not_eq_true'] at hk
    obtain ⟨⟨⟨rfl, h1⟩, h2⟩, h3⟩ := hk
    unfold evE
    exact ⟨w_cmp kx (sndE a kx _ h1 r).1 (fun G' H' e => (sndE b kx _ h2 (r.later e)).1) h3, fun _ => b_cmp kx (sndE a kx _ h1 r).1 (fun G' H' e => (sndE b kx _ h2 (r.later e)).1) h3⟩
  | .and a b, Xs, W, c, kx, ex, hk, ρ, σ, G, H, r => by
    unfold chkE at hk
    split at hk <;> first | (cases hk; done) | skip
    simp only [Bool.and_eq_true, decide_eq_true_eq, Bool.not_eq_true'] at hk
    obtain ⟨⟨h1, h2⟩, h3⟩ := hk
    have ih := sndE a kx _ h1 r
    unfold evE
    split at h3
    · simp only [Bool.and_eq_true] at h3
      exact ⟨w_and ih.1 fun G' H' e => w_one (sndE b kx _ h3.1 (r.later e)).1, fun _ => (b_and (ih.2 h2) fun G' H' e => b_and1 ((sndE b kx _ h3.1 (r.later e)).2 h3.2)).sb⟩
    · exact ⟨w_and ih.1 fun G' H' e => (sndE b kx _ h3 (r.later e)).1, fun _ => (b_and (ih.2 h2) fun G' H' e => sndW b kx h3 (r.later e)).sb⟩
  | .or a b, Xs, W, c, kx, ex, hk, ρ, σ, G, H, r => by
    unfold chkE at hk
    split at hk <;> first | (cases hk; done) | skip
    simp only [Bool.and_eq_true, decide_eq_true_eq, Bool.not_eq_true'] at hk
    obtain ⟨⟨h1, h2⟩, h3⟩ := hk
    have ih := sndE a kx _ h1 r
    unfold evE
    split at h3
    · simp only [Bool.and_eq_true] at h3
      exact ⟨w_or ih.1 fun G' H' e => w_one (sndE b kx _ h3.1 (r.later e)).1, fun _ => (b_or (ih.2 h2) fun G' H' e => b_or1 ((sndE b kx _ h3.1 (r.later e)).2 h3.2)).sb⟩
    · exact ⟨w_or ih.1 fun G' H' e => (sndE b kx _ h3 (r.later e)).1, fun _ => (b_or (ih.2 h2) fun G' H' e => sndW b kx h3 (r.later e)).sb⟩
  | .ite t a b, Xs, W, c, kx, ex, hk, ρ, σ, G, H, r => by
    unfold chkE at hk
    split at hk <;> first | (cases hk; done) | skip
    simp only [Bool.and_eq_true, decide_eq_true_eq, Bool.not_eq_true'] at hk
    obtain ⟨⟨⟨h1, h2⟩, h3⟩, h4⟩ := hk
    unfold evE
    exact ⟨w_ite ((sndE t kx _ h1 r).2 h2) (fun G' H' e => (sndE a kx _ h3 (r.later e)).1) (fun G' H' e => (sndE b kx _ h4 (r.later e)).1), fun z => by cases z⟩
  | .call f as, Xs, W, c, kx, ex, hk, ρ, σ, G, H, r => by
    unfold chkE at hk
    split at hk <;> first | (cases hk; done) | skip
    simp only [Bool.and_eq_true, decide_eq_true_eq, Bool.not_eq_true'] at hk
    obtain ⟨⟨⟨⟨⟨h1, rfl⟩, h2⟩, h3⟩, h4⟩, h5⟩ := hk
    unfold evE
    exact SE.plain (w_call kx h1 h2 h3 h5 (sndL as kx _ h4 h5 r)) rfl
  | .bi f as, Xs, W, c, kx, ex, hk, ρ, σ, G, H, r => by
    unfold chkE at hk
    split at hk <;> first | (cases hk; done) | skip
    simp only [Bool.and_eq_true, decide_eq_true_eq, Bool.or_eq_true, Bool.not_eq_true'] at hk
    obtain ⟨⟨⟨⟨rfl, h2⟩, h3⟩, h4⟩, h5⟩ := hk
    unfold evE
    refine SE.plain (w_bi kx ?_ (fun z => ?_) h5 (sndL as kx _ h4 h5 r)) rfl
    · cases hm : f.math <;> simp only [hm, if_true, Bool.false_eq_true, if_false, Bool.and_eq_true, decide_eq_true_eq] at h2 ⊢ <;> exact h2
    · rcases h3 with h3 | h3
      · exact h3
      · rw [h3] at z; cases z
  | .me m o as, Xs, W, c, kx, ex, hk, ρ, σ, G, H, r => by
    unfold chkE at hk
    split at hk <;> first | (cases hk; done) | skip
    simp only [Bool.and_eq_true, decide_eq_true_eq, Bool.not_eq_true'] at hk
    obtain ⟨⟨⟨⟨⟨⟨h0, rfl⟩, h1⟩, h2⟩, h3⟩, h4⟩, h5⟩ := hk
    rename_i e
    have q := w_me (m := m) kx h3 h4 h5 (sndE o kx _ h1 r).1 fun G' H' x => (sndE e kx _ h2 (r.later x)).1
    unfold evE
    simp only [evL, R.map_ok]
    exact SE.plain q rfl
  | .ix a b, Xs, W, c, kx, ex, hk, ρ, σ, G, H, r => by
    unfold chkE at hk
    split at hk <;> first | (cases hk; done) | skip
    simp only [Bool.and_eq_true, decide_eq_true_eq, Bool.not_eq_true'] at hk
    obtain ⟨⟨h1, h2⟩, h3⟩ := hk
    unfold evE
    exact SE.plain (w_ix kx (sndE a kx _ h1 r).1 (fun G' H' e => (sndE b kx _ h2 (r.later e)).1) h3) rfl
  | .sl a lo hi, Xs, W, c, kx, ex, hk, ρ, σ, G, H, r => by
    unfold chkE at hk
    split at hk <;> first | (cases hk; done) | skip
    simp only [Bool.and_eq_true, decide_eq_true_eq, Bool.not_eq_true'] at hk
    obtain ⟨⟨h1, h2⟩, h3⟩ := hk
    unfold evE
    refine SE.plain (w_sl kx (sndE a kx _ h1 r).1 (fun G' H' e => ?_) (fun G' H' e => ?_)) rfl
    · split at h2
      · rw [if_pos h2]; exact o_none e.i
      · simp only [Bool.and_eq_true, Bool.not_eq_true'] at h2
        rw [if_neg (by rw [h2.1]; exact Bool.false_ne_true)]
        exact o_some (sndE lo kx _ h2.2 (r.later e)).1
    · split at h3
      · rw [if_pos h3]; exact o_none e.i
      · simp only [Bool.and_eq_true, Bool.not_eq_true'] at h3
        rw [if_neg (by rw [h3.1]; exact Bool.false_ne_true)]
        exact o_some (sndE hi kx _ h3.2 (r.later e)).1
  | .tup es, Xs, W, c, kx, ex, hk, ρ, σ, G, H, r => by
    unfold chkE at hk
    split at hk <;> first | (cases hk; done) | skip
    simp only [Bool.and_eq_true, decide_eq_true_eq, Bool.not_eq_true'] at hk
    unfold evE
    exact SE.plain (w_tup (sndL es kx _ hk.1 hk.2 r)) rfl
  | .ls es, Xs, W, c, kx, ex, hk, ρ, σ, G, H, r => by
    unfold chkE at hk
    split at hk <;> first | (cases hk; done) | skip
    simp only [Bool.and_eq_true, decide_eq_true_eq, Bool.not_eq_true'] at hk
    unfold evE
    exact SE.plain (w_ls (sndL es kx _ hk.1 hk.2 r)) rfl
  | .lc own tg k as ifs el, Xs, W, c, kx, ex, hk, ρ, σ, G, H, r => by
    unfold chkE at hk
    split at hk <;> first | (cases hk; done) | skip
    rename_i xel xtg it xifs scope p
    have hk' := hk
    simp only [Bool.and_eq_true, decide_eq_true_eq, Bool.not_eq_true'] at hk'
    obtain ⟨⟨⟨⟨⟨⟨⟨⟨⟨h1, h2⟩, h3⟩, h4⟩, h5⟩, h6⟩, h7⟩, h8⟩, h9⟩, h10⟩ := hk'
    have kb := kx.bk h1 scope
    refine SE.plain (fun Q h => ?_) rfl
    have own' : (own.map fun i => (c.N.getD i "", i)).map (·.2) = own := by rw [List.map_map]; exact List.map_id' own
    refine ⟨_, fun X hX => pe_lc (kx.calm h1 X hX) (by rw [kx.N X hX]; exact kx.nd) (pi_w hX) (own := own.map fun i => (c.N.getD i "", i)) (by rw [kx.N X hX, kx.sc X hX]; exact blkOk_by h2)
      (fun s H C cl fp => pg_w (Xs := Bk Xs scope) ⟨X, s, H, C, cl, fp, hX, rfl⟩) (fun s H C cl fp => pts_w (Xs := Bk Xs scope) ⟨X, s, H, C, cl, fp, hX, rfl⟩) (fun s H C cl fp => pe_w (Xs := Bk Xs scope) ⟨X, s, H, C, cl, fp, hX, rfl⟩) (foldedId h4 _), ?_⟩
    rw [own']
    exact sndC kx h1 h5 h6 r (fun hR => sndI kx h3 r (fun xs a b => sndL as kx xs a b r) (fun x a Q q => sndA as kx x a r Q q) hR) (fun r q => sndTs ifs kb _ h7 h8 h9 r q) (fun r => (sndE el kb _ h10 r).1) Q (by unfold evE at h; exact h)
  | .fst ps, Xs, W, c, kx, ex, hk, ρ, σ, G, H, r => by
    unfold chkE at hk
    split at hk <;> first | (cases hk; done) | skip
    unfold evE
    exact SE.plain (w_fst (sndJ ps kx _ hk r)) rfl
  | .fld o f, Xs, W, c, kx, ex, hk, ρ, σ, G, H, r => by
    unfold chkE at hk
    split at hk <;> first | (cases hk; done) | skip
    simp only [Bool.and_eq_true, decide_eq_true_eq, Bool.not_eq_true'] at hk
    obtain ⟨⟨⟨rfl, h1⟩, h2⟩, h3⟩ := hk
    unfold evE
    exact SE.plain (w_fld kx (sndE o kx _ h1 r).1 h2 h3) rfl
  | .isE i C, Xs, W, c, kx, ex, hk, ρ, σ, G, H, r => by
    unfold chkE at hk
    split at hk <;> first | (cases hk; done) | skip
    simp only [Bool.and_eq_true, decide_eq_true_eq, Bool.not_eq_true'] at hk
    obtain ⟨⟨⟨⟨⟨⟨⟨h0, rfl⟩, h1⟩, rfl⟩, h2⟩, h3⟩, h4⟩, h5⟩ := hk
    rename_i p1 x p2 C p3 p4
    have q := w_isE (p1 := p1) (p2 := p2) (p3 := p3) (p4 := p4) (E := WK W σ) kx r h0 h1 h2 h3 h4 h5
    unfold evE
    exact SE.plain q rfl
  | .exf i f, Xs, W, c, kx, ex, hk, ρ, σ, G, H, r => by
    unfold chkE at hk
    split at hk <;> first | (cases hk; done) | skip
    simp only [Bool.and_eq_true, decide_eq_true_eq, Bool.not_eq_true'] at hk
    obtain ⟨⟨⟨⟨⟨h0, rfl⟩, h1⟩, h2⟩, h3⟩, h4⟩ := hk
    rename_i x p1 p2
    have q := w_exf (p1 := p1) (p2 := p2) (E := WK W σ) kx r h0 h1 h2 h3 h4
    unfold evE
    exact SE.plain q rfl
/-- the rest of an n-ary and, or as a test -/
theorem sndW : ∀ (e : E) {Xs : Cx → Prop} {W : WX} {c : Cs} (kx : Kx Xs M T W c) {op : BoolOp} {y z : Expr} {rs : List Expr} {p : Pos}, chkE e c (.BoolOp op (y :: z :: rs) p) = true → ∀ {ρ : Rho} {σ : L2.St} {G H : Hp}, Rel M G0 H0 ρ σ G H → SW Xs M (WK W σ) σ G H (.BoolOp op (y :: z :: rs) p) ((evE T ρ e).bind asBool)
  | .and a b, Xs, W, c, kx, op, y, z, rs, p, hk, ρ, σ, G, H, r => by
    unfold chkE at hk
    cases op <;> first | (cases hk; done) | skip
    simp only [Bool.and_eq_true, decide_eq_true_eq, Bool.not_eq_true'] at hk
    obtain ⟨⟨h1, h2⟩, h3⟩ := hk
    have ih := sndE a kx _ h1 r
    unfold evE
    split at h3
    · simp only [Bool.and_eq_true] at h3
      exact b_and (ih.2 h2) fun G' H' e => b_and1 ((sndE b kx _ h3.1 (r.later e)).2 h3.2)
    · exact b_and (ih.2 h2) fun G' H' e => sndW b kx h3 (r.later e)
  | .or a b, Xs, W, c, kx, op, y, z, rs, p, hk, ρ, σ, G, H, r => by
    unfold chkE at hk
    cases op <;> first | (cases hk; done) | skip
    simp only [Bool.and_eq_true, decide_eq_true_eq, Bool.not_eq_true'] at hk
    obtain ⟨⟨h1, h2⟩, h3⟩ := hk
    have ih := sndE a kx _ h1 r
    unfold evE
    split at h3
    · simp only [Bool.and_eq_true] at h3
      exact b_or (ih.2 h2) fun G' H' e => b_or1 ((sndE b kx _ h3.1 (r.later e)).2 h3.2)
    · exact b_or (ih.2 h2) fun G' H' e => sndW b kx h3 (r.later e)
  | .var i, Xs, W, c, kx, op, y, z, rs, p, hk, ρ, σ, G, H, r => by unfold chkE at hk; cases hk
  | .non, Xs, W, c, kx, op, y, z, rs, p, hk, ρ, σ, G, H, r => by unfold chkE at hk; cases hk
  | .bl b, Xs, W, c, kx, op, y, z, rs, p, hk, ρ, σ, G, H, r => by unfold chkE at hk; cases hk
  | .int i, Xs, W, c, kx, op, y, z, rs, p, hk, ρ, σ, G, H, r => by unfold chkE at hk; cases hk
  | .str s, Xs, W, c, kx, op, y, z, rs, p, hk, ρ, σ, G, H, r => by unfold chkE at hk; cases hk
  | .glb x, Xs, W, c, kx, op, y, z, rs, p, hk, ρ, σ, G, H, r => by unfold chkE at hk; cases hk
  | .tyn x T', Xs, W, c, kx, op, y, z, rs, p, hk, ρ, σ, G, H, r => by unfold chkE at hk; cases hk
  | .bin op' a b, Xs, W, c, kx, op, y, z, rs, p, hk, ρ, σ, G, H, r => by unfold chkE at hk; cases hk
  | .neg a, Xs, W, c, kx, op, y, z, rs, p, hk, ρ, σ, G, H, r => by unfold chkE at hk; cases hk
  | .nt a, Xs, W, c, kx, op, y, z, rs, p, hk, ρ, σ, G, H, r => by unfold chkE at hk; cases hk
  | .cmp op' a b, Xs, W, c, kx, op, y, z, rs, p, hk, ρ, σ, G, H, r => by unfold chkE at hk; cases hk
  | .ite t a b, Xs, W, c, kx, op, y, z, rs, p, hk, ρ, σ, G, H, r => by unfold chkE at hk; cases hk
  | .call f as, Xs, W, c, kx, op, y, z, rs, p, hk, ρ, σ, G, H, r => by unfold chkE at hk; cases hk
  | .bi f as, Xs, W, c, kx, op, y, z, rs, p, hk, ρ, σ, G, H, r => by unfold chkE at hk; cases hk
  | .me m o as, Xs, W, c, kx, op, y, z, rs, p, hk, ρ, σ, G, H, r => by unfold chkE at hk; cases hk
  | .ix a b, Xs, W, c, kx, op, y, z, rs, p, hk, ρ, σ, G, H, r => by unfold chkE at hk; cases hk
  | .sl a lo hi, Xs, W, c, kx, op, y, z, rs, p, hk, ρ, σ, G, H, r => by unfold chkE at hk; cases hk
  | .tup es, Xs, W, c, kx, op, y, z, rs, p, hk, ρ, σ, G, H, r => by unfold chkE at hk; cases hk
  | .ls es, Xs, W, c, kx, op, y, z, rs, p, hk, ρ, σ, G, H, r => by unfold chkE at hk; cases hk
  | .lc own tg k as ifs el, Xs, W, c, kx, op, y, z, rs, p, hk, ρ, σ, G, H, r => by unfold chkE at hk; cases hk
  | .fst ps, Xs, W, c, kx, op, y, z, rs, p, hk, ρ, σ, G, H, r => by unfold chkE at hk; cases hk
  | .isE i C, Xs, W, c, kx, op, y, z, rs, p, hk, ρ, σ, G, H, r => by unfold chkE at hk; cases hk
  | .exf i f, Xs, W, c, kx, op, y, z, rs, p, hk, ρ, σ, G, H, r => by unfold chkE at hk; cases hk
  | .fld o f, Xs, W, c, kx, op, y, z, rs, p, hk, ρ, σ, G, H, r => by unfold chkE at hk; cases hk
/-- a comprehension's tests -/
theorem sndTs : ∀ (ifs : List E) {Xs : Cx → Prop} {W : WX} {c : Cs} (kx : Kx Xs M T W c) (xifs : List Expr), chkL ifs c xifs = true → ifs.length ≤ 1 → xifs.all tstOk = true → ∀ {ρ : Rho} {σ : L2.St} {G H : Hp}, Rel M G0 H0 ρ σ G H → ∀ {Q : Bool → Hp → Prop}, GOk M (WK W σ) G H (fun b => ∀ G' H', Ext G H G' H' → Q b H') (evT T ρ ifs) → WTs Xs xifs σ H Q
  | [], Xs, W, c, kx, xs, hk, hl, hn, ρ, σ, G, H, r, Q, hq => by
    unfold chkL at hk
    cases xs with
    | cons _ _ => cases hk
    | nil =>
      unfold evT at hq
      exact ⟨_, fun X hX => pts_nil, hq _ _ (Ext.refl r.same)⟩
  | e :: es, Xs, W, c, kx, xs, hk, hl, hn, ρ, σ, G, H, r, Q, hq => by
    unfold chkL at hk
    split at hk <;> first | (cases hk; done) | skip
    rw [Bool.and_eq_true] at hk
    rw [List.all_cons, Bool.and_eq_true] at hn
    cases es with
    | cons _ _ => simp at hl
    | nil =>
      have h2 := hk.2
      unfold chkL at h2
      rename_i x xs'
      cases xs' with
      | cons _ _ => cases h2
      | nil =>
        have hb := (sndE e kx _ hk.1 r).2 hn.1
        refine ⟨_, fun X hX => pts_one (pt_w hX), hb _ ?_⟩
        unfold evT at hq
        refine GOk.ofBind ((GOk.bind hq).imp fun x z => ?_)
        refine (GOk.bind z).imp fun b z2 => ?_
        cases b with
        | true => simp only [if_true] at z2; unfold evT at z2; exact z2
        | false => exact z2
/-- a list of one -/
theorem sndA : ∀ (as : List E) {Xs : Cx → Prop} {W : WX} {c : Cs} (kx : Kx Xs M T W c) (ex : Expr), chkL as c [ex] = true → ∀ {ρ : Rho} {σ : L2.St} {G H : Hp}, Rel M G0 H0 ρ σ G H →
    ∀ Q : VK, GOk M (WK W σ) G H (fun ds => ∀ d, ds = [d] → ∀ v G' H', Ext G H G' H' → Rep M G' d v → Q v H') (evL T ρ as) → WP Xs ex σ H Q
  | [], Xs, W, c, kx, ex, hf, ρ, σ, G, H, r, Q, hq => by unfold chkL at hf; cases hf
  | e :: es, Xs, W, c, kx, ex, hf, ρ, σ, G, H, r, Q, hq => by
    unfold chkL at hf
    rw [Bool.and_eq_true] at hf
    cases es with
    | cons _ _ =>
      have := hf.2
      unfold chkL at this
      cases this
    | nil =>
      refine (sndE e kx _ hf.1 r).1.use (Z := fun x => ∀ d, [x.d] = [d] → ∀ v G' H', Ext G H G' H' → Rep M G' d v → Q v H') ?_ fun x v G' H' z e' rr => z _ rfl v G' H' e' rr
      unfold evL at hq
      exact (GOk.bind hq)
theorem sndL : ∀ (es : List E) {Xs : Cx → Prop} {W : WX} {c : Cs} (kx : Kx Xs M T W c) (xs : List Expr), chkL es c xs = true → xs.all nst = true → ∀ {ρ : Rho} {σ : L2.St} {G H : Hp}, Rel M G0 H0 ρ σ G H → SL Xs M (WK W σ) σ G H xs (evL T ρ es)
  | [], Xs, W, c, kx, xs, hk, hn, ρ, σ, G, H, r => by
    unfold chkL at hk
    cases xs with
    | cons _ _ => cases hk
    | nil =>
      unfold evL
      exact l_nil r.same
  | e :: es, Xs, W, c, kx, xs, hk, hn, ρ, σ, G, H, r => by
    unfold chkL at hk
    split at hk <;> first | (cases hk; done) | skip
    rw [Bool.and_eq_true] at hk
    rw [List.all_cons, Bool.and_eq_true] at hn
    unfold evL
    exact l_cons hn.1 (sndE e kx _ hk.1 r).1 fun G' H' x => sndL es kx _ hk.2 hn.2 (r.later x)
theorem sndJ : ∀ (es : List E) {Xs : Cx → Prop} {W : WX} {c : Cs} (kx : Kx Xs M T W c) (xs : List Expr), chkP es c xs = true → ∀ {ρ : Rho} {σ : L2.St} {G H : Hp} {acc : Str}, Rel M G0 H0 ρ σ G H → SJ Xs M (WK W σ) σ G H xs acc (evJ T ρ es acc)
  | [], Xs, W, c, kx, xs, hk, ρ, σ, G, H, acc, r => by
    unfold chkP at hk
    cases xs with
    | cons _ _ => cases hk
    | nil =>
      unfold evJ
      exact j_nil r.same
  | e :: es, Xs, W, c, kx, xs, hk, ρ, σ, G, H, acc, r => by
    unfold chkP at hk
    split at hk <;> first | (cases hk; done) | skip
    · simp only [Bool.and_eq_true] at hk
      unfold evJ
      exact j_cons (fj := fun z => evJ T ρ es z) (j_fmt (sndE e kx _ hk.1 r).1) fun y G' H' x => sndJ es kx _ hk.2 (r.later x)
    · rw [Bool.and_eq_true] at hk
      obtain ⟨h1, h2⟩ := hk
      split at h1 <;> first | (cases h1; done) | skip
      have h1 := of_decide_eq_true h1
      subst h1
      unfold evJ
      refine j_cons (fj := fun z => evJ T ρ es z) (fun Q q => ?_) fun y G' H' x => sndJ es kx _ h2 (r.later x)
      unfold evE at q
      exact j_str r.same Q q
end
end
end PX

set_option Elab.async false
set_option linter.all false
set_option maxRecDepth 100000
set_option maxHeartbeats 1000000
/-! Px10: an expression within a statement: what is owned stays so where the value cannot reach it. -/
namespace PX
open PySem PySem.Spec PyProof.Rows L2

section
variable {M : Md} {T : Tb} {W : WX} {G0 H0 G H G1 H1 G2 H2 : Hp} {ρ : Rho} {σ : L2.St}
theorem RepO.notTup {B : Hp} {p : Addr} {o : OD} {u : HO} (r : RepO M B G H p o) (e : H p = Option.some u) : isTupO u = false ∧ ∀ x, u ≠ .own x := by
  cases o with
  | lst ds => obtain ⟨vs, h, _⟩ := r; rw [h] at e; cases e; exact ⟨rfl, fun x z => by cases z⟩
  | dct ds => obtain ⟨vs, h, _⟩ := r; rw [h] at e; cases e; exact ⟨rfl, fun x z => by cases z⟩
  | obj c fs => obtain ⟨C, dx, ws, _, h, _⟩ := r; rw [h] at e; cases e; exact ⟨rfl, fun x z => by cases z⟩
theorem frzS_rel (r : Rel M G0 H0 ρ σ G H) : ∀ us : List Nat, ∃ G', Same G G' ∧ (∀ a o, G' a = some o → G a = some o ∨ isTupO o = false) ∧ Rel M G0 H0 (frzS ρ us) σ G' H
  | [] => ⟨G, Same.refl _, fun _ _ h => .inl h, r⟩
  | i :: us => by
    obtain ⟨G1, s1, t1, r1⟩ := frzS_rel r us
    cases e : (frzS ρ us)[i]? with
    | none => exact ⟨G1, s1, t1, by unfold frzS; rw [e]; exact r1⟩
    | some sl =>
      cases sl with
      | un => exact ⟨G1, s1, t1, by unfold frzS; rw [e]; exact r1⟩
      | fz d => exact ⟨G1, s1, t1, by unfold frzS; rw [e]; exact r1⟩
      | xc c fs => exact ⟨G1, s1, t1, by unfold frzS; rw [e]; exact r1⟩
      | ow o =>
        obtain ⟨p, e1, e2, e3, e4⟩ := r1.ow i o e
        obtain ⟨G2, a1, a2, a3, a4⟩ := freeze_obj r1.same e3 e4
        refine ⟨G2, s1.trans a1, fun a u h => ?_, ?_⟩
        · rcases a3 a (by rw [h]; exact fun z => nomatch z) with q | q | q
          · cases q2 : G1 a with
            | none => exact absurd q2 q
            | some w =>
              have : w = u := by have := a1 a w q2; rw [h] at this; exact (Option.some.inj this).symm
              subst this
              exact t1 a w q2
          · subst q
            exact .inr (e4.notTup (a2 _ _ h)).1
          · have := a2 _ _ h
            rw [q.2] at this; cases this
            exact .inr rfl
        · unfold frzS
          rw [e]
          show Rel M G0 H0 ((frzS ρ us).set i (.fz o.d)) σ G2 H
          have hi : i < (frzS ρ us).length := (List.getElem?_eq_some_iff.mp e).1
          have nonew : ∀ a, H0 a ≠ none ∨ (∃ u, H a = some u ∧ (∀ x, u ≠ .own x) ∧ a ≠ p) ∨ (∃ x, H a = some (.own x) ∧ x ≠ p) → G1 a = none → G2 a = none := fun a ha hg => by
            cases q : G2 a with
            | none => rfl
            | some w =>
              exfalso
              rcases a3 a (by rw [q]; exact fun z => nomatch z) with z | z | z
              · exact z hg
              · rcases ha with ha | ⟨u, h1, h2, h3⟩ | ⟨x, h1, h2⟩
                · subst z; exact ha e2
                · exact h3 z
                · subst z
                  exact (e4.notTup h1).2 x rfl
              · rcases ha with ha | ⟨u, h1, h2, h3⟩ | ⟨x, h1, h2⟩
                · exact ha z.1
                · rw [z.2] at h1; cases h1; exact h2 _ rfl
                · rw [z.2] at h1; cases h1; exact h2 rfl
          refine ⟨⟨r1.ext.g.trans a1, r1.ext.h, a2, fun a h g => nonew a (.inl h) (r1.ext.n a h g)⟩, by rw [List.length_set]; exact r1.len, fun j d hj => ?_, fun j oj hj => ?_, fun j c fs hj => ?_, fun j k oj ok q h1 h2 h3 h4 => ?_⟩
          · by_cases hij : i = j
            · subst hij
              rw [List.getElem?_set_self hi] at hj; cases hj
              exact ⟨_, e1, a4⟩
            · rw [List.getElem?_set_ne hij] at hj
              obtain ⟨v, h1, h2⟩ := r1.fz j d hj
              exact ⟨v, h1, Rep.mono a1 _ _ h2⟩
          · by_cases hij : i = j
            · subst hij
              rw [List.getElem?_set_self hi] at hj; cases hj
            · rw [List.getElem?_set_ne hij] at hj
              obtain ⟨q, h1, h2, h3, h4⟩ := r1.ow j oj hj
              have nq : q ≠ p := fun z => hij (r1.ap i j o oj p e hj e1 (z ▸ h1))
              refine ⟨q, h1, h2, ?_, ?_⟩
              · cases hq : H q with
                | none => exact absurd hq h4.some
                | some u => exact nonew q (.inr (.inl ⟨u, hq, (h4.notTup hq).2, nq⟩)) h3
              · cases oj with
                | lst ds => obtain ⟨vs, b1, b2⟩ := h4; exact ⟨vs, b1, Reps.mono a1 _ _ b2⟩
                | dct ds => obtain ⟨vs, b1, b2⟩ := h4; exact ⟨vs, b1, RepK.mono a1 _ _ b2⟩
                | obj c fs =>
                  obtain ⟨C, dx, ws, k, b1, b2, b3, b4, b5⟩ := h4
                  exact ⟨C, dx, ws, k, b1, b2, nonew dx (.inr (.inr ⟨q, b2, nq⟩)) b3, b4, RepF.mono a1 _ _ b5⟩
          · by_cases hij : i = j
            · subst hij
              rw [List.getElem?_set_self hi] at hj; cases hj
            · rw [List.getElem?_set_ne hij] at hj
              obtain ⟨v, h1, h2⟩ := r1.xc j c fs hj
              exact ⟨v, h1, h2.mono a1⟩
          · by_cases hij : i = j
            · subst hij
              rw [List.getElem?_set_self hi] at h1; cases h1
            · by_cases hik : i = k
              · subst hik
                rw [List.getElem?_set_self hi] at h2; cases h2
              · rw [List.getElem?_set_ne hij] at h1
                rw [List.getElem?_set_ne hik] at h2
                exact r1.ap j k oj ok q h1 h2 h3 h4

/-! ### back to what was owned -/
/-- the expression was evaluated with G1 frozen, some owned things among it; these are owned again -/
theorem keep_ext (s0 : Same G H) (s1 : Same G G1) (t : ∀ a o, G1 a = some o → G a = some o ∨ isTupO o = false) (x : Ext G1 H G2 H2) : Ext G H (keepT G G2) H2 := by
  have s2 : Same G G2 := s1.trans x.g
  refine ⟨fun a o h => keepT_old h, x.h, fun a o h => x.i _ _ (keepT_of s2 h).1, fun a ha hg => ?_⟩
  cases e : keepT G G2 a with
  | none => rfl
  | some o =>
    exfalso
    obtain ⟨h2, h3⟩ := keepT_of s2 e
    rcases h3 with h3 | h3
    · rw [hg] at h3; cases h3
    · cases e1 : G1 a with
      | none => rw [x.n a ha e1] at h2; cases h2
      | some u =>
        have : u = o := by have := x.g a u e1; rw [h2] at this; exact (Option.some.inj this).symm
        subst this
        rcases t a u e1 with z | z
        · rw [hg] at z; cases z
        · rw [z] at h3; cases h3
theorem drop_ext (s0 : Same G H) (x : Ext G1 H G2 H2) : Ext G H G H2 := ⟨Same.refl _, x.h, s0.trans x.h, fun _ _ z => z⟩

/-! ### how a statement ends -/
def SOk (M : Md) (W : WX) (G0 H0 : Hp) (De : Ends) : RS → Prop
  | .ok (.nx ρ) => ∀ σ G H, Rel M G0 H0 ρ σ G H → De.nx σ H
  | .ok (.bk ρ) => ∀ σ G H, Rel M G0 H0 ρ σ G H → De.bk σ H
  | .ok (.ct ρ) => ∀ σ G H, Rel M G0 H0 ρ σ G H → De.ct σ H
  | .ok (.rt v) => EvV M G0 H0 De.rt v
  | .ex c fs ρ => ∀ cls d σ G H, Rel M G0 H0 ρ σ G H → ExRep M G H c fs cls d → W cls d σ H
  | .st => False
/-- what an expression within a statement has given -/
def Got (M : Md) (G0 H0 : Hp) (σ : L2.St) (v : EV) (ρ : Rho) (u : V) (H : Hp) : Prop :=
  match v with
  | .fz d => ∃ G, Rel M G0 H0 ρ σ G H ∧ Rep M G d u
  | .fr o => ∃ G a, u = .ref a ∧ Rel M G0 H0 ρ σ G H ∧ H0 a = none ∧ G a = none ∧ RepO M H0 G H a o ∧ ∀ (j : Nat) (oj : OD), ρ[j]? = some (.ow oj) → σ[j]? ≠ some (some (.ref a))
theorem Rel.none0 (r : Rel M G0 H0 ρ σ G H) {a : Addr} (h : H a = none) : H0 a = none := r.ext.sub h
theorem Rel.notOw (r : Rel M G0 H0 ρ σ G H) {a : Addr} (h : H a = none) : ∀ (j : Nat) (oj : OD), ρ[j]? = some (.ow oj) → σ[j]? ≠ some (some (.ref a)) := fun j oj hj e => by
  obtain ⟨p, e1, _, _, e4⟩ := r.ow j oj hj
  rw [e1] at e
  cases e
  exact e4.some h
theorem s_evX {e : E} {us : List Nat} {f : EV → Rho → RS} {De : Ends} {Rd : VK → Prop} {Q : VK} (r : Rel M G0 H0 ρ σ G H) (hv : ∀ ρ G, Rel M G0 H0 ρ σ G H → ∀ Q, GOk M (WK W σ) G H (EvV M G H Q) (evE T ρ e) → Rd Q)
    (h : SOk M W G0 H0 De (evX T ρ us e f)) (k : ∀ v ρ' u H', Got M G0 H0 σ v ρ' u H' → SOk M W G0 H0 De (f v ρ') → Q u H') : Rd Q := by
  unfold evX at h
  by_cases ha : anyOw ρ us = true
  · rw [if_pos ha] at h
    obtain ⟨G1, s1, t1, r1⟩ := frzS_rel r us
    refine hv _ G1 r1 Q ?_
    cases ev : evE T (frzS ρ us) e with
    | st => rw [ev] at h; exact h.elim
    | ex c fs => rw [ev] at h; exact fun cls d G' H' x er => h cls d σ G' H' (r1.later x) er
    | ok v =>
      rw [ev] at h
      simp only [R.on_ok] at h
      by_cases hl : v.lf = true
      · rw [if_pos hl] at h
        cases v with
        | fz d => exact fun u G' H' x rep => k (.fz d) ρ u H' ⟨_, r.later (keep_ext r.same s1 t1 x), Rep.kept (s1.trans x.g) _ _ hl rep⟩ h
        | fr o =>
          intro p G' H' x a b ro
          have x' := keep_ext r.same s1 t1 x
          refine k (.fr o) ρ (.ref p) H' ⟨_, p, rfl, r.later x', r.none0 a, ?_, ?_, r.notOw a⟩ h
          · cases e2 : keepT G G' p with
            | none => rfl
            | some w => rw [(keepT_of (s1.trans x.g) e2).1] at b; cases b
          · cases o with
            | lst ds => obtain ⟨vs, b1, b2⟩ := ro; exact ⟨vs, b1, Reps.kept (s1.trans x.g) _ _ hl b2⟩
            | dct ds => cases hl
            | obj c fs => cases hl
      · rw [if_neg hl] at h
        cases v with
        | fz d => exact fun u G' H' x rep => k (.fz d) (frzS ρ us) u H' ⟨_, r1.later x, rep⟩ h
        | fr o => exact fun p G' H' x a b ro => k (.fr o) (frzS ρ us) (.ref p) H' ⟨_, p, rfl, r1.later x, r1.none0 a, b, ro.base r1.ext.h, r1.notOw a⟩ h
  · rw [if_neg ha] at h
    refine hv ρ G r Q ?_
    cases ev : evE T ρ e with
    | st => rw [ev] at h; exact h.elim
    | ex c fs => rw [ev] at h; exact fun cls d G' H' x er => h cls d σ G' H' (r.later x) er
    | ok v =>
      rw [ev] at h
      simp only [R.on_ok] at h
      cases v with
      | fz d => exact fun u G' H' x rep => k (.fz d) ρ u H' ⟨_, r.later x, rep⟩ h
      | fr o => exact fun p G' H' x a b ro => k (.fr o) ρ (.ref p) H' ⟨_, p, rfl, r.later x, r.none0 a, b, ro.base r.ext.h, r.notOw a⟩ h
/-- a list of expressions within a statement -/
theorem s_evXL {es : List E} {us : List Nat} {f : List D → Rho → RS} {De : Ends} {Rd : (List V → Hp → Prop) → Prop} {Q : List V → Hp → Prop} (r : Rel M G0 H0 ρ σ G H)
    (hv : ∀ ρ G, Rel M G0 H0 ρ σ G H → ∀ Q : List V → Hp → Prop, GOk M (WK W σ) G H (fun ds => ∀ vs G' H', Ext G H G' H' → Reps M G' ds vs → Q vs H') (evL T ρ es) → Rd Q)
    (h : SOk M W G0 H0 De (evXL T ρ us es f)) (k : ∀ ds ρ' vs G' H', Rel M G0 H0 ρ' σ G' H' → Reps M G' ds vs → SOk M W G0 H0 De (f ds ρ') → Q vs H') : Rd Q := by
  unfold evXL at h
  by_cases ha : anyOw ρ us = true
  · rw [if_pos ha] at h
    obtain ⟨G1, s1, t1, r1⟩ := frzS_rel r us
    refine hv _ G1 r1 Q ?_
    cases ev : evL T (frzS ρ us) es with
    | st => rw [ev] at h; exact h.elim
    | ex c fs => rw [ev] at h; exact fun cls d G' H' x er => h cls d σ G' H' (r1.later x) er
    | ok v =>
      rw [ev] at h
      simp only [R.on_ok] at h
      by_cases hl : D.lfs v = true
      · rw [if_pos hl] at h
        exact fun u G' H' x rep => k v ρ u _ H' (r.later (keep_ext r.same s1 t1 x)) (Reps.kept (s1.trans x.g) _ _ hl rep) h
      · rw [if_neg hl] at h
        exact fun u G' H' x rep => k v (frzS ρ us) u _ H' (r1.later x) rep h
  · rw [if_neg ha] at h
    refine hv ρ G r Q ?_
    cases ev : evL T ρ es with
    | st => rw [ev] at h; exact h.elim
    | ex c fs => rw [ev] at h; exact fun cls d G' H' x er => h cls d σ G' H' (r.later x) er
    | ok v =>
      rw [ev] at h
      exact fun u G' H' x rep => k v ρ u _ H' (r.later x) rep h
theorem Wk.mono {J : It} {items : List D} (s : Same G1 G2) (w : Wk M G1 J items) : Wk M G2 J items := fun G H a b => w G H (s.trans a) b
theorem tups_keep (s : Same G G2) : Same (tupsOf G2) (keepT G G2) := fun a o h => by
  obtain ⟨h1, h2⟩ := keepT_of (none_same G2) h
  rcases h2 with h2 | h2
  · cases h2
  · exact keepT_tup s h1 h2
theorem itemsOf_noex {k : ItK} {ds : List D} {c : Str} {fs : List (Str × D)} : itemsOf k ds ≠ .ex c fs := by
  cases k
  · show itVal ds ≠ _; unfold itVal; split <;> exact fun z => nomatch z
  · show itRng ds ≠ _; unfold itRng; split
    · split <;> exact fun z => nomatch z
    · exact fun z => nomatch z
  · show itRng2 ds ≠ _; unfold itRng2; split
    · split <;> exact fun z => nomatch z
    · exact fun z => nomatch z
  · show itZip ds ≠ _; unfold itZip; split <;> exact fun z => nomatch z
  · show itEnm ds ≠ _; unfold itEnm; split <;> exact fun z => nomatch z
  · show itRev ds ≠ _; unfold itRev; split <;> exact fun z => nomatch z
/-- what a for walks, within a statement -/
theorem s_evXI {es : List E} {us : List Nat} {k : ItK} {f : List D → Rho → RS} {De : Ends} {Rd : (It → Hp → Prop) → Prop} {R : It → Hp → Prop} (r : Rel M G0 H0 ρ σ G H)
    (hv : ∀ ρ G, Rel M G0 H0 ρ σ G H → ∀ R : It → Hp → Prop, GOk M (WK W σ) G H (fun ds => GOk M (WK W σ) G H (fun items => ∀ J G' H', Ext G H G' H' → Wk2 M G' ds J items → R J H') (itemsOf k ds)) (evL T ρ es) → Rd R)
    (h : SOk M W G0 H0 De (evXL T ρ us es fun ds ρ1 => (itemsOf k ds).on ρ1 fun xs => f xs ρ1)) (kk : ∀ items ρ' J G' H', Rel M G0 H0 ρ' σ G' H' → Wk M G' J items → SOk M W G0 H0 De (f items ρ') → R J H') : Rd R := by
  unfold evXL at h
  by_cases ha : anyOw ρ us = true
  · rw [if_pos ha] at h
    obtain ⟨G1, s1, t1, r1⟩ := frzS_rel r us
    refine hv _ G1 r1 R ?_
    cases ev : evL T (frzS ρ us) es with
    | st => rw [ev] at h; exact h.elim
    | ex c fs => rw [ev] at h; exact fun cls d G' H' x er => h cls d σ G' H' (r1.later x) er
    | ok v =>
      rw [ev] at h
      simp only [PX.R.on_ok] at h
      show GOk M (WK W σ) G1 H _ (itemsOf k v)
      by_cases hl : D.lfs v = true
      · rw [if_pos hl] at h
        cases ei : itemsOf k v with
        | st => rw [ei] at h; exact h.elim
        | ex c fs => exact absurd ei itemsOf_noex
        | ok items =>
          rw [ei] at h
          simp only [PX.R.on_ok] at h
          exact fun J G' H' x w => kk items ρ J _ H' (r.later (keep_ext r.same s1 t1 x)) ((w.2 hl).mono (tups_keep (s1.trans x.g))) h
      · rw [if_neg hl] at h
        cases ei : itemsOf k v with
        | st => rw [ei] at h; exact h.elim
        | ex c fs => rw [ei] at h; exact fun cls d G' H' x er => h cls d σ G' H' (r1.later x) er
        | ok items =>
          rw [ei] at h
          simp only [PX.R.on_ok] at h
          exact fun J G' H' x w => kk items (frzS ρ us) J _ H' (r1.later x) w.1 h
  · rw [if_neg ha] at h
    refine hv ρ G r R ?_
    cases ev : evL T ρ es with
    | st => rw [ev] at h; exact h.elim
    | ex c fs => rw [ev] at h; exact fun cls d G' H' x er => h cls d σ G' H' (r.later x) er
    | ok v =>
      rw [ev] at h
      simp only [PX.R.on_ok] at h
      show GOk M (WK W σ) G H _ (itemsOf k v)
      cases ei : itemsOf k v with
      | st => rw [ei] at h; exact h.elim
      | ex c fs => rw [ei] at h; exact fun cls d G' H' x er => h cls d σ G' H' (r.later x) er
      | ok items =>
        rw [ei] at h
        simp only [PX.R.on_ok] at h
        exact fun J G' H' x w => kk items ρ J _ H' (r.later x) w.1 h
/-- a test within a statement -/
theorem s_evXB {e : E} {us : List Nat} {f : Bool → RS} {De : Ends} {Rd : (Bool → Hp → Prop) → Prop} {Q : Bool → Hp → Prop} (r : Rel M G0 H0 ρ σ G H)
    (hv : ∀ ρ G, Rel M G0 H0 ρ σ G H → ∀ Q : Bool → Hp → Prop, GOk M (WK W σ) G H (fun b => ∀ G' H', Ext G H G' H' → Q b H') ((evE T ρ e).bind asBool) → Rd Q)
    (h : SOk M W G0 H0 De (evXB T ρ us e f)) (k : ∀ b G' H', Rel M G0 H0 ρ σ G' H' → SOk M W G0 H0 De (f b) → Q b H') : Rd Q := by
  unfold evXB at h
  obtain ⟨G1, s1, t1, r1⟩ := frzS_rel r us
  refine hv _ G1 r1 Q ?_
  cases ev : (evE T (frzS ρ us) e).bind asBool with
  | st => rw [ev] at h; exact h.elim
  | ex c fs => rw [ev] at h; exact fun cls d G' H' x er => h cls d σ G' H' (r1.later x) er
  | ok b =>
    rw [ev] at h
    exact fun G' H' x => k b G H' (r.later (drop_ext r.same x)) h
end
end PX

set_option Elab.async false
set_option linter.all false
set_option maxRecDepth 100000
set_option maxHeartbeats 1000000
/-! Px11: statements, one by one. -/
namespace PX
open PySem PySem.Spec PyProof.Rows L2

theorem sw_eq {env : Env} {c : Cs} {xe : Expr} {x : Str} {px : Pos} {l : Nat} (hs : env.scope = c.sc) (hk : c.sc.kind = .function) (h : nSD xe = true) :
    swapsWith xe (some (.Name x px)) l env = pure (swC c xe x px) := by
  have e1 : env.blockKind = .function := by
    unfold Env.blockKind
    rw [hs, hk]; rfl
  cases xe <;> first | rfl | (cases h; done) | skip
  show (pure (env.blockKind == .function && env.kindOf x == some .local && px.line == _ && !_) : Sem Bool) = _
  rw [e1]
  unfold Env.kindOf swC
  rw [hs]
  congr 1
  congr 1
  congr 1
  show (true && _) = _
  rw [Bool.true_and]
  cases hh : c.sc.names.lookup x with
  | none => rfl
  | some k => cases k <;> rfl
theorem swTup {xe : Expr} {l : Nat} {env : Env} {es : List Expr} {k : Nat} {p : Pos} : swapsWithSole [.Tuple es k p] xe l env = pure false := by
  show swapsWith xe (some (.Tuple es k p)) l env = pure false
  cases xe <;> rfl
theorem swSub {xe : Expr} {l : Nat} {env : Env} {a b : Expr} {p : Pos} : swapsWithSole [.Subscript a b p] xe l env = pure false := by
  show swapsWith xe (some (.Subscript a b p)) l env = pure false
  cases xe <;> rfl
theorem stTup {xe : Expr} {env : Env} {tg : Expr} (h : nTup xe = true) : swappedStores [tg] xe env = pure none := by
  cases tg <;> cases xe <;> first | rfl | (cases h; done)
theorem stSub {xe : Expr} {env : Env} {a b : Expr} {p : Pos} : swappedStores [.Subscript a b p] xe env = pure none := by
  cases xe <;> rfl
theorem swPar {env : Env} {c : Cs} {x y : Str} {px py pt pt2 : Pos} {kt k2 : Nat} {a b : Expr} (hs : env.scope = c.sc) (hk : c.sc.kind = .function) (hx : c.sc.names.lookup x = some .local) (hy : c.sc.names.lookup y = some .local)
    (ha : nst a = true) (hb : nst b = true) (hl : px.line = py.line) (hne : (x == y) = false) (h1 : [a, b].all (foldedForSure 8) = false) (h2 : [a, b].all (constantsAlone 8) = false) :
    swappedStores [.Tuple [.Name x px, .Name y py] kt pt] (.Tuple [a, b] k2 pt2) env = pure (some [x, y]) := by
  have e1 : env.blockKind = .function := by
    unfold Env.blockKind
    rw [hs, hk]; rfl
  have e2 : env.kindOf x = some .local := by unfold Env.kindOf; rw [hs]; exact hx
  have e3 : env.kindOf y = some .local := by unfold Env.kindOf; rw [hs]; exact hy
  have e4 : ([a, b].any fun | .Starred .. => true | _ => false) = false := by
    cases a <;> cases b <;> first | rfl | (cases ha; done) | (cases hb; done)
  unfold swappedStores
  simp only [List.length_cons, List.length_nil, e1, e4]
  have e5 : ([Expr.Name x px, Expr.Name y py].filterMap fun | .Name id pos => if env.kindOf id == some .local && pos.line == px.line then some id else none | _ => none) = [x, y] := by
    simp [List.filterMap, e2, e3, hl]
  simp [Expr.pos, e5, e4, h1, h2, hne, e2, e3, hl]
  have e6 : [x, y].eraseDups = [x, y] := by
    have : (y == x) = false := by
      cases h : (y == x) with
      | false => rfl
      | true => rw [eq_of_beq h] at hne; simp at hne
    simp [List.eraseDups_cons, this]
  rw [e6]
  cases a <;> cases b <;> first | rfl | (cases ha; done) | (cases hb; done)
section
variable {Xs : Cx → Prop} {M : Md} {T : Tb} {W : WX} {c : Cs} {G0 H0 G H : Hp} {ρ : Rho} {σ : L2.St} {De : Ends}
theorem freeze_new {p : Addr} {o : OD} (r1 : Rel M G0 H0 ρ σ G H) (e2 : H0 p = none) (e3 : G p = none) (e4 : RepO M H0 G H p o) (nw : ∀ (j : Nat) (oj : OD), ρ[j]? = some (.ow oj) → σ[j]? ≠ some (some (.ref p))) :
    ∃ G', Same G G' ∧ Rel M G0 H0 ρ σ G' H ∧ Rep M G' o.d (.ref p) := by
  obtain ⟨G2, a1, a2, a3, a4⟩ := freeze_obj r1.same e3 e4
  refine ⟨G2, a1, ?_, a4⟩
  have nonew : ∀ a, H0 a ≠ none ∨ (∃ u, H a = some u ∧ (∀ x, u ≠ .own x) ∧ a ≠ p) ∨ (∃ x, H a = some (.own x) ∧ x ≠ p) → G a = none → G2 a = none := fun a ha hg => by
    cases q : G2 a with
    | none => rfl
    | some w =>
      exfalso
      rcases a3 a (by rw [q]; exact fun z => nomatch z) with z | z | z
      · exact z hg
      · rcases ha with ha | ⟨u, h1, h2, h3⟩ | ⟨x, h1, h2⟩
        · subst z; exact ha e2
        · exact h3 z
        · subst z
          exact (e4.notTup h1).2 x rfl
      · rcases ha with ha | ⟨u, h1, h2, h3⟩ | ⟨x, h1, h2⟩
        · exact ha z.1
        · rw [z.2] at h1; cases h1; exact h2 _ rfl
        · rw [z.2] at h1; cases h1; exact h2 rfl
  refine ⟨⟨r1.ext.g.trans a1, r1.ext.h, a2, fun a h g => nonew a (.inl h) (r1.ext.n a h g)⟩, r1.len, fun j d hj => ?_, fun j oj hj => ?_, fun j c fs hj => ?_, r1.ap⟩
  · obtain ⟨v, h1, h2⟩ := r1.fz j d hj
    exact ⟨v, h1, Rep.mono a1 _ _ h2⟩
  · obtain ⟨q, h1, h2, h3, h4⟩ := r1.ow j oj hj
    have nq : q ≠ p := fun z => nw j oj hj (z ▸ h1)
    refine ⟨q, h1, h2, ?_, ?_⟩
    · cases hq : H q with
      | none => exact absurd hq h4.some
      | some u => exact nonew q (.inr (.inl ⟨u, hq, (h4.notTup hq).2, nq⟩)) h3
    · cases oj with
      | lst ds => obtain ⟨vs, b1, b2⟩ := h4; exact ⟨vs, b1, Reps.mono a1 _ _ b2⟩
      | dct ds => obtain ⟨vs, b1, b2⟩ := h4; exact ⟨vs, b1, RepK.mono a1 _ _ b2⟩
      | obj c fs =>
        obtain ⟨C, dx, ws, k, b1, b2, b3, b4, b5⟩ := h4
        exact ⟨C, dx, ws, k, b1, b2, nonew dx (.inr (.inr ⟨q, b2, nq⟩)) b3, b4, RepF.mono a1 _ _ b5⟩
  · obtain ⟨v, h1, h2⟩ := r1.xc j c fs hj
    exact ⟨v, h1, h2.mono a1⟩
/-- the value, shared -/
theorem Got.use {v : EV} {u : V} (g : Got M G0 H0 σ v ρ u H) : ∃ G, Rel M G0 H0 ρ σ G H ∧ Rep M G v.d u := by
  cases v with
  | fz d => exact g
  | fr o =>
    obtain ⟨G, a, rfl, r, h0, hg, ro, nw⟩ := g
    obtain ⟨G', _, r', q⟩ := freeze_new r h0 hg ro nw
    exact ⟨G', r', q⟩
/-- an owned list is changed -/
theorem Rel.change (r : Rel M G0 H0 ρ σ G H) {i : Nat} {o o' : OD} {p : Addr} (hi : ρ[i]? = some (.ow o)) (hp : σ[i]? = some (some (.ref p))) (ho : HO) (hn : RepO M H0 G (upd H p ho) p o') : Rel M G0 H0 (ρ.set i (.ow o')) σ G (upd H p ho) := by
  obtain ⟨p', e1, e2, e3, e4⟩ := r.ow i o hi
  rw [hp] at e1; cases e1
  have hlt : i < ρ.length := (List.getElem?_eq_some_iff.mp hi).1
  have sm : Same G (upd H p ho) := fun a u h => by
    have : a ≠ p := ne_of_none h e3
    rw [upd_ne this]; exact r.same _ _ h
  refine ⟨⟨r.ext.g, fun a u h => by
      have : a ≠ p := ne_of_none h e2
      rw [upd_ne this]; exact r.ext.h _ _ h, sm, r.ext.n⟩, by rw [List.length_set]; exact r.len, fun j d hj => ?_, fun j oj hj => ?_, fun j c fs hj => ?_, fun j k oj ok q h1 h2 h3 h4 => ?_⟩
  · by_cases hij : i = j
    · subst hij; rw [List.getElem?_set_self hlt] at hj; cases hj
    · rw [List.getElem?_set_ne hij] at hj; exact r.fz j d hj
  · by_cases hij : i = j
    · subst hij; rw [List.getElem?_set_self hlt] at hj; cases hj
      exact ⟨p, hp, e2, e3, hn⟩
    · rw [List.getElem?_set_ne hij] at hj
      obtain ⟨q, h1, h2, h3, h4⟩ := r.ow j oj hj
      have nq : q ≠ p := fun z => hij (r.ap i j o oj p hi hj hp (z ▸ h1))
      refine ⟨q, h1, h2, h3, ?_⟩
      cases oj with
      | lst ds => obtain ⟨vs, b1, b2⟩ := h4; exact ⟨vs, by rw [upd_ne nq]; exact b1, b2⟩
      | dct ds => obtain ⟨vs, b1, b2⟩ := h4; exact ⟨vs, by rw [upd_ne nq]; exact b1, b2⟩
      | obj c fs =>
        obtain ⟨C, dx, ws, k, b1, b2, b3, b4, b5⟩ := h4
        have nd : dx ≠ p := by
          intro z
          subst z
          exact (e4.notTup b2).2 _ rfl
        exact ⟨C, dx, ws, k, by rw [upd_ne nq]; exact b1, by rw [upd_ne nd]; exact b2, b3, b4, b5⟩
  · by_cases hij : i = j
    · subst hij; rw [List.getElem?_set_self hlt] at hj; cases hj
    · rw [List.getElem?_set_ne hij] at hj; exact r.xc j c fs hj
  · by_cases hij : i = j
    · by_cases hik : i = k
      · rw [← hij, ← hik]
      · rw [List.getElem?_set_ne hik] at h2
        exact r.ap j k o ok q (hij ▸ hi) h2 h3 h4
    · rw [List.getElem?_set_ne hij] at h1
      by_cases hik : i = k
      · exact r.ap j k oj o q h1 (hik ▸ hi) h3 h4
      · rw [List.getElem?_set_ne hik] at h2
        exact r.ap j k oj ok q h1 h2 h3 h4
/-- a name takes a value -/
theorem s_set {i : Nat} {v : EV} {u : V} {ρ' : Rho} (g : Got M G0 H0 σ v ρ' u H) (h : SOk M W G0 H0 De ((bindE (.nm i) v ρ').on ρ' fun ρ2 => .ok (.nx ρ2))) : De.nx (σ.set i (some u)) H := by
  cases v with
  | fz d =>
    obtain ⟨G, r, rd⟩ := g
    exact h _ G H (r.setFz i rd)
  | fr o =>
    obtain ⟨G, a, rfl, r, h0, hg, ro, nw⟩ := g
    exact h _ G H (r.setOw i h0 hg ro fun j oj _ hj => nw j oj hj)
/-- a target takes a value -/
theorem s_store {tg : Tg} {xtg : Expr} {v : EV} {u : V} {ρ' : Rho} (kx : Kx Xs M T W c) (hk : chkTg c tg xtg = true) (g : Got M G0 H0 σ v ρ' u H) (h : SOk M W G0 H0 De ((bindE tg v ρ').on ρ' fun ρ2 => .ok (.nx ρ2))) : WG Xs xtg u σ H De.nx := by
  have tpCase : ∀ is, tg = .tp is → WG Xs xtg u σ H De.nx := fun is e => by
    subst e
    obtain ⟨G, r, rd⟩ := g.use
    refine s_tg (E := WK W σ) kx hk r rd ?_
    have h : SOk M W G0 H0 De ((bindT (.tp is) v.d ρ').on ρ' fun ρ2 => .ok (.nx ρ2)) := h
    cases e2 : bindT (.tp is) v.d ρ' with
    | st => rw [e2] at h; exact h.elim
    | ex c fs => rw [e2] at h; exact fun cls d G' H' x er => h cls d σ G' H' (r.later x) er
    | ok ρ2 => rw [e2] at h; exact fun σ2 r2 _ => h σ2 G H r2
  cases tg with
  | tp is => exact tpCase is rfl
  | nm i =>
    unfold chkTg at hk
    split at hk
    · rename_i i' x p e
      cases e
      exact ⟨gName i, tgC_nm kx hk, s_set g h⟩
    · rename_i e; cases e
    · cases hk

/-! ### loops -/
theorem Ext.baseG {G0 G1 H0 G H : Hp} (s : Same G0 G1) (n : ∀ a, H0 a ≠ none → G0 a = none → G1 a = none) (x : Ext G1 H0 G H) : Ext G0 H0 G H := ⟨s.trans x.g, x.h, x.i, fun a h g => x.n a h (n a h g)⟩
theorem Rel.baseG {G1 : Hp} (s : Same G0 G1) (n : ∀ a, H0 a ≠ none → G0 a = none → G1 a = none) (r : Rel M G1 H0 ρ σ G H) : Rel M G0 H0 ρ σ G H := ⟨r.ext.baseG s n, r.len, r.fz, r.ow, r.xc, r.ap⟩
theorem Rel.rebase (r : Rel M G0 H0 ρ σ G H) : Rel M G H0 ρ σ G H := ⟨⟨Same.refl _, r.ext.h, r.ext.i, fun _ _ z => z⟩, r.len, r.fz, r.ow, r.xc, r.ap⟩
theorem SOk.baseG {G1 : Hp} (s : Same G0 G1) (n : ∀ a, H0 a ≠ none → G0 a = none → G1 a = none) {x : RS} (h : SOk M W G0 H0 De x) : SOk M W G1 H0 De x := by
  match x, h with
  | .ok (.nx ρ), h => exact fun σ G H r => h σ G H (r.baseG s n)
  | .ok (.bk ρ), h => exact fun σ G H r => h σ G H (r.baseG s n)
  | .ok (.ct ρ), h => exact fun σ G H r => h σ G H (r.baseG s n)
  | .ok (.rt (.fz d)), h => exact fun v G' H' x r => h v G' H' (x.baseG s n) r
  | .ok (.rt (.fr o)), h => exact fun p G' H' x a b r => h p G' H' (x.baseG s n) a b r
  | .ex c fs ρ, h => exact fun cls d σ G H r er => h cls d σ G H (r.baseG s n) er
  | .st, h => exact h
/-- the statements' own property -/
def SSs (Xs : Cx → Prop) (M : Md) (W : WX) (st : List Stmt) (b : Rho → RS) : Prop := ∀ {G0 H0 G H ρ σ De}, Rel M G0 H0 ρ σ G H → SOk M W G0 H0 De (b ρ) → WSs Xs st De σ H
theorem s_for (kx : Kx Xs M T W c) {tg : Tg} {xtg : Expr} {xb : List Stmt} {b : Rho → RS} (hk : chkTg c tg xtg = true) (hb : SSs Xs M W xb b) {J : It} {items : List D} (r0 : Rel M G0 H0 ρ σ G H) (wk : Wk M G J items)
    (h : SOk M W G0 H0 De (forGo tg b items ρ)) : ∃ W' : Nat → Nat → L2.St → Hp → Prop, (∃ m, W' 0 m σ H) ∧ ∀ i m σ H, W' i m σ H → (J.stop i H ∧ De.nx σ H) ∨
      (J.go i H ∧ ∃ N : L2.St → Hp → Prop, (∀ σ' H', N σ' H' → ∃ m', m' < m ∧ W' (i + 1) m' σ' H') ∧ ∀ x H', J.yld i H x H' → WG Xs xtg x σ H' fun σ2 H2 => WSs Xs xb { De with nx := N, ct := N, bk := De.nx } σ2 H2) := by
  have r1 := r0.rebase
  have h1 : SOk M W G H0 De (forGo tg b items ρ) := h.baseG r0.ext.g r0.ext.n
  refine ⟨fun i m σ H => m = items.length - i ∧ i ≤ items.length ∧ ∃ ρ G', Rel M G H0 ρ σ G' H ∧ SOk M W G H0 De (forGo tg b (items.drop i) ρ), ⟨_, rfl, Nat.zero_le _, ρ, G, r1, by simpa using h1⟩, ?_⟩
  rintro i m σ2 H2 ⟨rfl, hi, ρ2, G2, r2, h2⟩
  obtain ⟨w1, w2, w3⟩ := wk G2 H2 r2.ext.g r2.same
  by_cases hlt : i < items.length
  · refine .inr ⟨w1 i hlt, fun σ' H' => i + 1 ≤ items.length ∧ ∃ ρ G', Rel M G H0 ρ σ' G' H' ∧ SOk M W G H0 De (forGo tg b (items.drop (i + 1)) ρ), fun σ' H' q => ⟨items.length - (i + 1), by omega, rfl, q.1, q.2⟩, fun x H3 hy => ?_⟩
    have ed : items[i]? = some items[i] := by simp [hlt]
    obtain ⟨G3, x3, rx⟩ := w3 i _ ed x H3 hy
    rw [List.drop_eq_getElem_cons hlt] at h2
    have h2 : SOk M W G H0 De ((bindT tg items[i] ρ2).on ρ2 fun ρ1 => (b ρ1).turn (forGo tg b (items.drop (i + 1)))) := h2
    refine s_tg (E := WK W σ2) kx hk (r2.later x3) rx ?_
    cases e2 : bindT tg items[i] ρ2 with
    | st => rw [e2] at h2; exact h2.elim
    | ex c fs => rw [e2] at h2; exact fun cls d G' H' x er => h2 cls d σ2 G' H' (r2.later (x3.trans x)) er
    | ok ρ3 =>
      rw [e2] at h2
      simp only [R.on_ok] at h2
      intro σ3 r3 _
      refine hb r3 ?_
      match e4 : b ρ3, h2 with
      | .ok (.nx ρ4), h2 => exact fun σ' G' H' r => ⟨hlt, ρ4, G', r, h2⟩
      | .ok (.ct ρ4), h2 => exact fun σ' G' H' r => ⟨hlt, ρ4, G', r, h2⟩
      | .ok (.bk ρ4), h2 => exact h2
      | .ok (.rt v), h2 => exact h2
      | .ex c fs ρ4, h2 => exact h2
      | .st, h2 => exact h2
  · have e : i = items.length := by omega
    subst e
    rw [List.drop_length] at h2
    exact .inl ⟨w2, h2 σ2 G2 H2 r2⟩
theorem s_while {xt : Expr} {xb : List Stmt} {us : List Nat} {t : E} {b : Rho → RS} (hb : SSs Xs M W xb b)
    (ht : ∀ {ρ σ G H}, Rel M G0 H0 ρ σ G H → ∀ Q : Bool → Hp → Prop, GOk M (WK W σ) G H (fun b => ∀ G' H', Ext G H G' H' → Q b H') ((evE T ρ t).bind asBool) → WT Xs xt σ H Q) (n : Nat) (r0 : Rel M G0 H0 ρ σ G H)
    (h : SOk M W G0 H0 De (whileGo (fun ρ f => evXB T ρ us t f) b n ρ)) : tWhile (WT Xs xt) (WSs Xs xb) De σ H := by
  refine ⟨fun m σ H => ∃ ρ G', Rel M G0 H0 ρ σ G' H ∧ SOk M W G0 H0 De (whileGo (fun ρ f => evXB T ρ us t f) b m ρ), ⟨n, ρ, G, r0, h⟩, ?_⟩
  rintro m σ2 H2 ⟨ρ2, G2, r2, h2⟩
  cases m with
  | zero => exact h2.elim
  | succ m =>
    have h2 : SOk M W G0 H0 De (evXB T ρ2 us t fun k => if k = true then (b ρ2).turn (whileGo (fun ρ f => evXB T ρ us t f) b m) else .ok (.nx ρ2)) := h2
    refine s_evXB (Rd := fun Q => WT Xs xt σ2 H2 Q) r2 (fun ρ G r Q q => ht r Q q) h2 fun k G3 H3 r3 h3 => ?_
    cases k with
    | false => exact h3 σ2 G3 H3 r3
    | true =>
      simp only [if_true] at h3 ⊢
      refine ⟨fun σ H => ∃ ρ G', Rel M G0 H0 ρ σ G' H ∧ SOk M W G0 H0 De (whileGo (fun ρ f => evXB T ρ us t f) b m ρ), fun σ' H' q => ⟨m, Nat.lt_succ_self _, q⟩, ?_⟩
      refine hb r3 ?_
      match e4 : b ρ2, h3 with
      | .ok (.nx ρ4), h3 => exact fun σ' G' H' r => ⟨ρ4, G', r, h3⟩
      | .ok (.ct ρ4), h3 => exact fun σ' G' H' r => ⟨ρ4, G', r, h3⟩
      | .ok (.bk ρ4), h3 => exact h3
      | .ok (.rt v), h3 => exact h3
      | .ex c fs ρ4, h3 => exact h3
      | .st, h3 => exact h3
end
end PX

set_option Elab.async false
set_option linter.all false
set_option maxRecDepth 100000
set_option maxHeartbeats 4000000
/-! Px12: statements, the whole: exceptions, blocks. -/
namespace PX
open PySem PySem.Spec PyProof.Rows L2

/-! ### the exception that is being handled does not matter for data -/
def Md.wx (M : Md) (x : Option (Addr × Addr × Option Addr)) : Md := { M with x := x }
mutual
theorem Rep.wx {M : Md} {x} {G : Hp} : ∀ (d : D) (v : V), Rep M G d v ↔ Rep (M.wx x) G d v
  | .non, v => Iff.rfl
  | .bl _, v => Iff.rfl
  | .int _, v => Iff.rfl
  | .str _, v => Iff.rfl
  | .ty _, v => Iff.rfl
  | .tup ds, v => by
    unfold Rep
    exact ⟨fun ⟨a, vs, e, h1, h2⟩ => ⟨a, vs, e, h1, (Reps.wx ds vs).1 h2⟩, fun ⟨a, vs, e, h1, h2⟩ => ⟨a, vs, e, h1, (Reps.wx ds vs).2 h2⟩⟩
  | .lst ds, v => by
    unfold Rep
    exact ⟨fun ⟨a, vs, e, h1, h2⟩ => ⟨a, vs, e, h1, (Reps.wx ds vs).1 h2⟩, fun ⟨a, vs, e, h1, h2⟩ => ⟨a, vs, e, h1, (Reps.wx ds vs).2 h2⟩⟩
  | .scr ns, v => by unfold Rep; exact Iff.rfl
  | .dct kvs, v => by
    unfold Rep
    exact ⟨fun ⟨a, vs, e, h1, h2⟩ => ⟨a, vs, e, h1, (RepK.wx kvs vs).1 h2⟩, fun ⟨a, vs, e, h1, h2⟩ => ⟨a, vs, e, h1, (RepK.wx kvs vs).2 h2⟩⟩
  | .obj c fs, v => by
    unfold Rep
    exact ⟨fun ⟨a, C, dx, ws, e, k, h1, h2, h3⟩ => ⟨a, C, dx, ws, e, k, h1, h2, (RepF.wx fs ws).1 h3⟩, fun ⟨a, C, dx, ws, e, k, h1, h2, h3⟩ => ⟨a, C, dx, ws, e, k, h1, h2, (RepF.wx fs ws).2 h3⟩⟩
theorem Reps.wx {M : Md} {x} {G : Hp} : ∀ (d : List D) (v : List V), Reps M G d v ↔ Reps (M.wx x) G d v
  | [], v => by unfold Reps; exact Iff.rfl
  | d :: ds, v => by
    unfold Reps
    exact ⟨fun ⟨u, r, e, h1, h2⟩ => ⟨u, r, e, (Rep.wx d u).1 h1, (Reps.wx ds r).1 h2⟩, fun ⟨u, r, e, h1, h2⟩ => ⟨u, r, e, (Rep.wx d u).2 h1, (Reps.wx ds r).2 h2⟩⟩
theorem RepK.wx {M : Md} {x} {G : Hp} : ∀ (d : List (Key × D)) (v : List (Key × V)), RepK M G d v ↔ RepK (M.wx x) G d v
  | [], v => by unfold RepK; exact Iff.rfl
  | (k, d) :: ds, v => by
    unfold RepK
    exact ⟨fun ⟨u, r, e, h1, h2⟩ => ⟨u, r, e, (Rep.wx d u).1 h1, (RepK.wx ds r).1 h2⟩, fun ⟨u, r, e, h1, h2⟩ => ⟨u, r, e, (Rep.wx d u).2 h1, (RepK.wx ds r).2 h2⟩⟩
theorem RepF.wx {M : Md} {x} {G : Hp} : ∀ (d : List (Str × D)) (v : List (Str × V)), RepF M G d v ↔ RepF (M.wx x) G d v
  | [], v => by unfold RepF; exact Iff.rfl
  | (k, d) :: ds, v => by
    unfold RepF
    exact ⟨fun ⟨u, r, e, h1, h2⟩ => ⟨u, r, e, (Rep.wx d u).1 h1, (RepF.wx ds r).1 h2⟩, fun ⟨u, r, e, h1, h2⟩ => ⟨u, r, e, (Rep.wx d u).2 h1, (RepF.wx ds r).2 h2⟩⟩
end
theorem RepO.wx {M : Md} {x} {B G H : Hp} {p : Addr} : ∀ {o : OD}, RepO M B G H p o ↔ RepO (M.wx x) B G H p o
  | .lst ds => ⟨fun ⟨vs, a, b⟩ => ⟨vs, a, (Reps.wx _ _).1 b⟩, fun ⟨vs, a, b⟩ => ⟨vs, a, (Reps.wx _ _).2 b⟩⟩
  | .dct ds => ⟨fun ⟨vs, a, b⟩ => ⟨vs, a, (RepK.wx _ _).1 b⟩, fun ⟨vs, a, b⟩ => ⟨vs, a, (RepK.wx _ _).2 b⟩⟩
  | .obj c fs => ⟨fun ⟨C, dx, ws, a, b, c, d, e, f⟩ => ⟨C, dx, ws, a, b, c, d, e, (RepF.wx _ _).1 f⟩, fun ⟨C, dx, ws, a, b, c, d, e, f⟩ => ⟨C, dx, ws, a, b, c, d, e, (RepF.wx _ _).2 f⟩⟩
section
variable {Xs : Cx → Prop} {M : Md} {T : Tb} {W : WX} {c : Cs} {G0 H0 G H : Hp} {ρ : Rho} {σ : L2.St} {De : Ends}
/-- no exception among the slots: another one may be handled -/
theorem Rel.wx {x} (r : Rel M G0 H0 ρ σ G H) (h : ∀ (i : Nat) (c : Str) (fs : List (Str × D)), ρ[i]? ≠ some (Sl.xc c fs)) : Rel (M.wx x) G0 H0 ρ σ G H :=
  ⟨r.ext, r.len, fun i d e => let ⟨v, a, b⟩ := r.fz i d e; ⟨v, a, (Rep.wx _ _).1 b⟩, fun i o e => let ⟨p, a, b, c, d⟩ := r.ow i o e; ⟨p, a, b, c, RepO.wx.1 d⟩, fun i c fs e => absurd e (h i c fs), r.ap⟩
theorem Rel.unwx {x} (r : Rel (M.wx x) G0 H0 ρ σ G H) (h : ∀ (i : Nat) (c : Str) (fs : List (Str × D)), ρ[i]? ≠ some (Sl.xc c fs)) : Rel M G0 H0 ρ σ G H :=
  ⟨r.ext, r.len, fun i d e => let ⟨v, a, b⟩ := r.fz i d e; ⟨v, a, (Rep.wx _ _).2 b⟩, fun i o e => let ⟨p, a, b, c, d⟩ := r.ow i o e; ⟨p, a, b, c, RepO.wx.2 d⟩, fun i c fs e => absurd e (h i c fs), r.ap⟩
theorem clX_none (i : Nat) (cc : Str) (fs : List (Str × D)) : (clX ρ)[i]? ≠ some (.xc cc fs) := by
  unfold clX
  rw [List.getElem?_map]
  cases ρ[i]? with
  | none => exact fun z => nomatch z
  | some s => cases s <;> exact fun z => nomatch z
theorem clX_get {i : Nat} {s : Sl} (h : (clX ρ)[i]? = some s) (hu : s ≠ .un) : ρ[i]? = some s := by
  unfold clX at h
  rw [List.getElem?_map] at h
  cases e : ρ[i]? with
  | none => rw [e] at h; cases h
  | some t => rw [e] at h; cases t <;> first | exact h | (cases h; exact absurd rfl hu)
theorem Rel.cl (r : Rel M G0 H0 ρ σ G H) : Rel M G0 H0 (clX ρ) σ G H :=
  ⟨r.ext, by unfold clX; rw [List.length_map]; exact r.len, fun i d e => r.fz i d (clX_get e (fun z => nomatch z)), fun i o e => r.ow i o (clX_get e (fun z => nomatch z)), fun i c fs e => absurd e (clX_none i c fs),
    fun i j oi oj p a b => r.ap i j oi oj p (clX_get a (fun z => nomatch z)) (clX_get b (fun z => nomatch z))⟩
theorem Rel.noXc (r : Rel M G0 H0 ρ σ G H) (h : M.x = none) (i : Nat) (cc : Str) (fs : List (Str × D)) : ρ[i]? ≠ some (.xc cc fs) := fun e => by
  obtain ⟨v, _, a, C, d, m, _⟩ := r.xc i cc fs e
  rw [h] at m; cases m
theorem Rel.setXc (r : Rel M G0 H0 ρ σ G H) {cc : Str} {fs : List (Str × D)} {v : V} (i : Nat) (hd : XcAt M G cc fs v) : Rel M G0 H0 (ρ.set i (.xc cc fs)) (σ.set i (some v)) G H := by
  have q := r.setUn i (some v)
  have key : ∀ (j : Nat) (s : Sl), (ρ.set i (.xc cc fs))[j]? = some s → (∀ c' f', s ≠ .xc c' f') → (ρ.set i .un)[j]? = some s ∨ s = .xc cc fs := fun j s h _ => by
    by_cases hj : i = j
    · subst hj
      by_cases hl : i < ρ.length
      · rw [List.getElem?_set_self hl] at h; cases h; exact .inr rfl
      · rw [List.getElem?_eq_none (by simpa using hl)] at h; cases h
    · rw [List.getElem?_set_ne hj] at h ⊢; exact .inl h
  refine ⟨q.ext, by simp [r.len], fun j d h => ?_, fun j o h => ?_, fun j c' f' h => ?_, fun j k oj ok p h1 h2 h3 h4 => ?_⟩
  · rcases key j _ h (fun _ _ z => nomatch z) with z | z
    · exact q.fz j d z
    · cases z
  · rcases key j _ h (fun _ _ z => nomatch z) with z | z
    · exact q.ow j o z
    · cases z
  · by_cases hj : i = j
    · subst hj
      by_cases hl : i < ρ.length
      · rw [List.getElem?_set_self hl] at h; cases h
        exact ⟨v, by rw [List.getElem?_set_self (by rw [r.len]; exact hl)], hd⟩
      · rw [List.getElem?_eq_none (by simpa using hl)] at h; cases h
    · rw [List.getElem?_set_ne hj] at h ⊢; exact r.xc j c' f' h
  · rcases key j _ h1 (fun _ _ z => nomatch z) with z1 | z
    · rcases key k _ h2 (fun _ _ z => nomatch z) with z2 | z
      · exact q.ap j k oj ok p z1 z2 h3 h4
      · cases z
    · cases z
theorem EvV.wx {x} {Q : VK} {v : EV} (h : EvV M G H Q v) : EvV (M.wx x) G H Q v := by
  cases v with
  | fz d => exact fun u G' H' e r => h u G' H' e ((Rep.wx _ _).2 r)
  | fr o => exact fun p G' H' e a b r => h p G' H' e a b (RepO.wx.2 r)

/-! ### the contexts of a try's body and of an except suite -/
def TrF (Xs : Cx → Prop) (W : WX) : Cx → Prop := fun Y => ∃ X pn xe, Xs X ∧ Y = X.tr pn xe ∧ Takes Y W ∧ PassesOwn (model Y.prog Y.w) Y.A Y.env Y.xe
def SuC (Xs : Cx → Prop) (a : Addr) (cls : Value) (d : Option Addr) : Cx → Prop := fun Y => ∃ X oe pn, Xs X ∧ Y = X.suite a ((a, oe) :: pn) ∧ Zc cls d oe ∧ ∃ vs, oe.data = .fields vs
theorem Kx.tr (kx : Kx Xs M T W c) (hh : c.hot = false) (W' : WX) : Kx (TrF Xs W') M T W' c where
  K := fun Y ⟨X, _, _, hX, e, _⟩ => by rw [e]; exact kx.K X hX
  mg := fun Y ⟨X, _, _, hX, e, _⟩ => by rw [e]; exact kx.mg X hX
  P := fun Y ⟨X, _, _, hX, e, _⟩ => by rw [e]; exact kx.P X hX
  w := fun Y ⟨X, _, _, hX, e, _⟩ => by rw [e]; exact kx.w X hX
  base := fun Y ⟨X, _, _, hX, e, _⟩ => by rw [e]; exact kx.base X hX
  N := fun Y ⟨X, _, _, hX, e, _⟩ => by rw [e]; exact kx.N X hX
  sc := fun Y ⟨X, _, _, hX, e, _⟩ => by rw [e]; exact kx.sc X hX
  cl := fun Y ⟨X, _, _, hX, e, _⟩ => by rw [e]; exact kx.cl X hX
  nd := kx.nd
  calm := fun h Y ⟨X, _, _, hX, e, _⟩ => by rw [e]; exact kx.calm h X hX
  tk := fun Y ⟨X, _, _, hX, e, t, _⟩ => t
  po := fun Y ⟨X, _, _, hX, e, _, p⟩ => p
  room := fun Y ⟨X, _, _, hX, e, _⟩ => by rw [e]; exact kx.room X hX
  bl := kx.bl
  gcd := kx.gcd
  lcm := kx.lcm
  hot := fun z => absurd (hh.symm.trans z) Bool.false_ne_true
  su := kx.su
  top := fun h Y ⟨X, _, _, hX, e, _⟩ => by rw [e]; exact kx.top h X hX
  xn := kx.xn
  exv := kx.exv
  exm := kx.exm
  ex0 := kx.ex0
  ex1 := fun C fs h => by
    obtain ⟨D, hD, q⟩ := kx.ex1 C fs h
    refine ⟨D, hD, fun X a1 a2 a3 a4 a5 ⟨Y, ⟨Z, pn, xe, hZ, e, _⟩, a6⟩ => q X a1 a2 a3 a4 a5 ⟨Z, hZ, by rw [a6, e]⟩⟩
  obj := kx.obj
  cst := kx.cst
  fns := fun h f hf => let ⟨k, fa, fd, ps, F, hr, q⟩ := kx.fns h f hf; ⟨k, fa, fd, ps, F, fun Y ⟨X, _, _, hX, e, _⟩ => by rw [e]; exact hr X hX, q⟩
def csH (c : Cs) : Cs := { c with hot := true, ex0 := [], ex1 := [] }
theorem Kx.suite (kx : Kx Xs M T W c) {a C : Addr} {d : Option Addr} {cc : Str} (hc : M.cls cc C) : Kx (SuC Xs a (.ref C) d) (M.wx (some (a, C, d))) T (fun _ _ _ _ => False) (csH c) where
  K := fun Y ⟨X, _, _, hX, e, _⟩ => by rw [e]; exact kx.K X hX
  mg := fun Y ⟨X, _, _, hX, e, _⟩ => by rw [e]; exact kx.mg X hX
  P := fun Y ⟨X, _, _, hX, e, _⟩ => by rw [e]; exact kx.P X hX
  w := fun Y ⟨X, _, _, hX, e, _⟩ => by rw [e]; exact kx.w X hX
  base := fun Y ⟨X, _, _, hX, e, _⟩ => by rw [e]; exact kx.base X hX
  N := fun Y ⟨X, _, _, hX, e, _⟩ => by rw [e]; exact kx.N X hX
  sc := fun Y ⟨X, _, _, hX, e, _⟩ => by rw [e]; exact kx.sc X hX
  cl := fun Y ⟨X, _, _, hX, e, _⟩ => by rw [e]; exact kx.cl X hX
  nd := kx.nd
  calm := fun h => by cases h
  tk := fun Y _ => takes0
  po := fun Y ⟨X, _, _, hX, e, _⟩ => by rw [e]; exact PassesOwn.never
  room := fun Y ⟨X, _, _, hX, e, _⟩ => by rw [e]; exact kx.room X hX
  bl := kx.bl
  gcd := kx.gcd
  lcm := kx.lcm
  hot := fun _ => ⟨a, C, d, cc, rfl, hc, fun Y ⟨X, oe, pn, hX, e, hz, hf⟩ => ⟨X, oe, pn, e, kx.K X hX, kx.mg X hX, hz, hf⟩⟩
  su := kx.su
  top := fun h Y ⟨X, _, _, hX, e, _⟩ => by rw [e]; exact kx.top h X hX
  xn := fun h => by cases h
  exv := kx.exv
  exm := kx.exm
  ex0 := fun C hC => absurd hC (by simp [csH])
  ex1 := fun C fs hC => absurd hC (by simp [csH])
  obj := kx.obj
  cst := fun x d h => let ⟨u, v, a, b, q⟩ := kx.cst x d h; ⟨u, v, a, b, fun G => (Rep.wx _ _).1 (q G)⟩
  fns := fun h => by cases h

theorem names_eq {u u' : Value} {C : Str} (h : M.mg C = some u ∨ (M.mg C = none ∧ bootBuiltins C = some u)) (h' : M.mg C = some u' ∨ (M.mg C = none ∧ bootBuiltins C = some u')) : u = u' := by
  rcases h with h | ⟨h, k⟩ <;> rcases h' with h' | ⟨h', k'⟩
  · rw [h] at h'; exact Option.some.inj h'
  · rw [h] at h'; cases h'
  · rw [h] at h'; cases h'
  · rw [k] at k'; exact Option.some.inj k'
theorem SOk.wish {W' : WX} {f : Fl} (h : SOk M W G0 H0 De (.ok f)) : SOk M W' G0 H0 De (.ok f) := by
  cases f <;> exact h
def unR : Option Nat → Rho → Rho
  | some i, ρ => ρ.set i .un
  | none, ρ => ρ
def unS : Option Nat → L2.St → L2.St
  | some i, σ => σ.set i none
  | none, σ => σ
def stS : Option Nat → Addr → L2.St → L2.St
  | some i, a, σ => σ.set i (some (.ref a))
  | none, _, σ => σ
/-- how a suite's end is taken up -/
def triEnd (nm : Option Nat) : RS → RS
  | .ok (.nx ρ2) => .ok (.nx (clX (unR nm ρ2)))
  | .ok (.bk ρ2) => .ok (.bk (clX (unR nm ρ2)))
  | .ok (.ct ρ2) => .ok (.ct (clX (unR nm ρ2)))
  | .ok (.rt v) => .ok (.rt v)
  | _ => .st
def triSet : Option Nat → Str → List (Str × D) → Rho → Rho
  | some i, cc, fs, ρ => ρ.set i (.xc cc fs)
  | none, _, _, ρ => ρ
theorem exec_tri {b h : List S} {C : Str} {nm : Option Nat} : exec T (.tri b C nm h) ρ = match execs T b ρ with
    | .ex cc fs ρ1 => match T.sub cc C with
      | some true => triEnd nm (execs T h (triSet nm cc fs ρ1))
      | some false => .ex cc fs ρ1
      | none => .st
    | y => y := by
  unfold exec
  cases execs T b ρ with
  | ok f => rfl
  | st => rfl
  | ex cc fs ρ1 =>
    simp only
    cases T.sub cc C with
    | none => rfl
    | some k =>
      cases k with
      | false => rfl
      | true =>
        cases nm with
        | none => simp only [triSet]; cases execs T h ρ1 with
          | ok f => cases f <;> rfl
          | ex _ _ _ => rfl
          | st => rfl
        | some i => simp only [triSet]; cases execs T h (ρ1.set i (.xc cc fs)) with
          | ok f => cases f <;> rfl
          | ex _ _ _ => rfl
          | st => rfl
/-- a suite's end, out of the end in its own context -/
theorem suite_end {x} {y : RS} {nm : Option Nat} (h : SOk M W G0 H0 De (triEnd nm y)) :
    SOk (M.wx x) (fun _ _ _ _ => False) G0 H0 { nx := fun σ' H' => De.nx (unS nm σ') H', rt := De.rt, bk := fun σ' H' => De.bk (unS nm σ') H', ct := fun σ' H' => De.ct (unS nm σ') H' } y := by
  have back : ∀ {ρ2 : Rho} {σ : L2.St} {G H : Hp}, Rel (M.wx x) G0 H0 ρ2 σ G H → Rel M G0 H0 (clX (unR nm ρ2)) (unS nm σ) G H := fun {ρ2 σ G H} r => by
    cases nm with
    | none => exact r.cl.unwx fun i c fs => clX_none i c fs
    | some i => exact (r.setUn i none).cl.unwx fun i c fs => clX_none i c fs
  match y, h with
  | .ok (.nx ρ2), h => exact fun σ G H r => h _ G H (back r)
  | .ok (.bk ρ2), h => exact fun σ G H r => h _ G H (back r)
  | .ok (.ct ρ2), h => exact fun σ G H r => h _ G H (back r)
  | .ok (.rt v), h => exact EvV.wx h
  | .ex _ _ _, h => exact h.elim
  | .st, h => exact h.elim
theorem s_try (kx : Kx Xs M T W c) (hh : c.hot = false) (ht : c.top = true) {C : Str} {nm : Option Nat} {nm' : Option Str} {b h : List S} {xb suite : List Stmt} {b0 : Stmt} {np p1 p2 : Pos} (hg : gloC c C = true) (hl : C ∈ c.exl)
    (hn : (match nm, nm' with | some i, some x => decide (c.N[i]? = some x) && decide (c.sc.names.lookup x = some .local) | none, none => true | _, _ => false) = true)
    (hb : ∀ W', SSs (TrF Xs W') M W' xb (execs T b)) (hs : ∀ a D d cc, M.cls cc D → SSs (SuC Xs a (.ref D) d) (M.wx (some (a, D, d))) (fun _ _ _ _ => False) (b0 :: suite) (execs T h))
    (r : Rel M G0 H0 ρ σ G H) (hq : SOk M W G0 H0 De (exec T (.tri b C nm h) ρ)) : WS Xs (.Try xb [.ExceptHandler (some (.Name C np)) nm' (b0 :: suite) p1] [] [] p2) De σ H := by
  obtain ⟨u, hu⟩ := kx.exv C hl
  rw [exec_tri] at hq
  have hN : ∀ X, Xs X → Names X C u := fun X hX => ⟨kx.gl hg X hX, nodb_dbg (glo_nodb hg), by
    rw [kx.mg X hX]
    rcases hu with hu | ⟨h1, h2⟩
    · exact .inl hu
    · exact .inr ⟨h1, h2, nodb_name (glo_nodb hg)⟩⟩
  -- the reading of the suite
  have key : ∀ (cls : Value) (d : Option Addr) (cc : Str) (fs : List (Str × D)) (ρ1 : Rho) (σ' : L2.St) (G' H' : Hp), Rel M G0 H0 ρ1 σ' G' H' → ExRep M G' H' cc fs cls d →
      SOk M W G0 H0 De (match T.sub cc C with | some true => triEnd nm (execs T h (triSet nm cc fs ρ1)) | some false => .ex cc fs ρ1 | none => .st) →
      ∃ k, PySem.W.exmOne M.K cls u = some k ∧ (k = true → ∀ a, H' a = none → WSs (SuC Xs a cls d) (b0 :: suite) { nx := fun σ' H' => De.nx (unS nm σ') H', rt := De.rt, bk := fun σ' H' => De.bk (unS nm σ') H', ct := fun σ' H' => De.ct (unS nm σ') H' } (stS nm a σ') H') ∧ (k = false → W cls d σ' H') := by
    intro cls d cc fs ρ1 σ' G' H' r1 er hq
    have er0 := er
    obtain ⟨D, hD, rfl, hfd⟩ := er
    cases e : T.sub cc C with
    | none => rw [e] at hq; exact hq.elim
    | some k =>
      obtain ⟨u', hu', hm⟩ := kx.exm cc C k e D hD
      have := names_eq hu hu'
      subst this
      refine ⟨k, hm, fun hk a ha => ?_, fun hk => ?_⟩
      · subst hk
        rw [e] at hq
        refine hs a D d cc hD (ρ := triSet nm cc fs ρ1) (G := G') ?_ (suite_end hq)
        have nx := r1.noXc (kx.xn hh)
        have r2 : Rel (M.wx (some (a, D, d))) G0 H0 ρ1 σ' G' H' := r1.wx nx
        cases nm with
        | none => exact r2
        | some i =>
          refine r2.setXc i ⟨a, D, d, rfl, rfl, hD, ?_⟩
          rcases hfd with hfd | ⟨e2, ws, h1, h2, h3⟩
          · exact .inl hfd
          · exact .inr ⟨e2, ws, h1, h2, (RepF.wx _ _).1 h3⟩
      · subst hk
        rw [e] at hq
        exact hq _ _ σ' G' H' r1 er0
  cases nm with
  | none =>
    cases nm' with
    | some x => cases hn
    | none =>
      refine ⟨fun D σ H => WSs (TrF Xs (wOnly M.K u (fun a cls d => WSs (SuC Xs a cls d) (b0 :: suite)) W D)) xb D σ H, fun X hX => ?_, ?_⟩
      · have R := ps_try_only (X := X) (x := C) (c := u) (body := xb) (suite := suite) (b₀ := b0) (np := np) (pos := p2) (pos' := p1) (tb := fun W' => WSs (TrF Xs W') xb) (ts := fun a cls d => WSs (SuC Xs a cls d) (b0 :: suite)) (Wout := W) (kx.top ht X hX).1 (kx.top ht X hX).2 (hN X hX) (kx.tk X hX)
          (fun W' pn xe t p => pss_w ⟨X, pn, xe, hX, rfl, t, p⟩) (fun a oe cls d pn z f => pss_w ⟨X, oe, pn, hX, rfl, z, f⟩)
        rw [kx.K X hX] at R
        exact R
      · refine hb _ r ?_
        match e : execs T b ρ, hq with
        | .ok f, hq => exact SOk.wish hq
        | .st, hq => exact hq.elim
        | .ex cc fs ρ1, hq => exact fun cls d σ' G' H' r1 er => key cls d cc fs ρ1 σ' G' H' r1 er hq
  | some i =>
    cases nm' with
    | none => cases hn
    | some x =>
      simp only [Bool.and_eq_true, decide_eq_true_eq] at hn
      refine ⟨fun D σ H => WSs (TrF Xs (wAs M.K u i (fun a cls d => WSs (SuC Xs a cls d) (b0 :: suite)) W D)) xb D σ H, fun X hX => ?_, ?_⟩
      · have R := ps_try_as (X := X) (x := C) (n := x) (c := u) (i := i) (body := xb) (suite := suite) (b₀ := b0) (np := np) (pos := p2) (pos' := p1) (tb := fun W' => WSs (TrF Xs W') xb) (ts := fun a cls d => WSs (SuC Xs a cls d) (b0 :: suite)) (Wout := W) (kx.top ht X hX).1 (kx.top ht X hX).2
          (by rw [kx.N X hX]; exact kx.nd) (by rw [kx.N X hX]; exact hn.1) (by show List.lookup x X.env.scope.names = _; rw [kx.sc X hX]; exact hn.2) (hN X hX) (kx.tk X hX)
          (fun W' pn xe t p => pss_w ⟨X, pn, xe, hX, rfl, t, p⟩) (fun a oe cls d pn z f => pss_w ⟨X, oe, pn, hX, rfl, z, f⟩)
        rw [kx.K X hX] at R
        exact R
      · refine hb _ r ?_
        match e : execs T b ρ, hq with
        | .ok f, hq => exact SOk.wish hq
        | .st, hq => exact hq.elim
        | .ex cc fs ρ1, hq => exact fun cls d σ' G' H' r1 er => key cls d cc fs ρ1 σ' G' H' r1 er hq
end
end PX

set_option Elab.async false
set_option linter.all false
set_option maxRecDepth 100000
set_option maxHeartbeats 4000000
/-! Px13: a checked block does what execs says; a checked def keeps its promise. -/
namespace PX
open PySem PySem.Spec PyProof.Rows L2

section
variable {Xs : Cx → Prop} {M : Md} {T : Tb} {W : WX} {c : Cs} {G0 H0 G H : Hp} {ρ : Rho} {σ : L2.St} {De : Ends}
theorem nm_pe (kx : Kx Xs M T W c) {i : Nat} {x : Str} {p : Pos} (h : nmC c i x = true) : ∀ X, Xs X → PE X (.Name x p) (tVar i) := fun X hX => by
  unfold nmC at h
  simp only [Bool.and_eq_true, decide_eq_true_eq] at h
  obtain ⟨⟨h1, h2⟩, h3⟩ := h
  refine pe_var (by rw [kx.N X hX]; exact h1) ?_ (nodb_dbg h3) (nodb_cls h3)
  rw [kx.sc X hX]
  unfold visC at h2
  split at h2
  · rename_i e; exact .inl e
  · rename_i e; exact .inr (.inl e)
  · rename_i e; exact .inr (.inr e)
  · cases h2
/-- a comprehension's reading, as it stands in a store -/
theorem sndLc {own : List Nat} {tg : Tg} {k : ItK} {as ifs : List E} {el : E} (kx : Kx Xs M T W c) {xel xtg it : Expr} {xifs : List Expr} {scope : Scope} {p : Pos} (hk : chkE (.lc own tg k as ifs el) c (.ListComp xel [⟨xtg, it, xifs, 0⟩] scope p) = true)
    (r : Rel M G0 H0 ρ σ G H) (Q : VK) (h : GOk M (WK W σ) G H (EvV M G H Q) (evE T ρ (.lc own tg k as ifs el))) : tLc (WI Xs xtg it) (WG (Bk Xs scope) xtg) (WTs (Bk Xs scope) xifs) (WP (Bk Xs scope) xel) own σ H Q ∧
      c.hot = false ∧ blkC c.N c.sc scope (own.map fun i => (c.N.getD i "", i)) = true ∧ nset it = true := by
  unfold chkE at hk
  simp only [Bool.and_eq_true, decide_eq_true_eq, Bool.not_eq_true'] at hk
  obtain ⟨⟨⟨⟨⟨⟨⟨⟨⟨h1, h2⟩, h3⟩, h4⟩, h5⟩, h6⟩, h7⟩, h8⟩, h9⟩, h10⟩ := hk
  have kb := kx.bk h1 scope
  exact ⟨sndC kx h1 h5 h6 r (fun hR => sndI kx h3 r (fun xs a b => sndL as kx xs a b r) (fun x a Q q => sndA as kx x a r Q q) hR) (fun r q => sndTs ifs kb _ h7 h8 h9 r q) (fun r => (sndE el kb _ h10 r).1) Q (by unfold evE at h; exact h), h1, h2, h4⟩
theorem t_asg {tg : Tg} {e : E} {us : List Nat} {xtg xe : Expr} {p : Pos} (kx : Kx Xs M T W c) (h1 : chkE e c xe = true) (h2 : chkTg c tg xtg = true) (h3 : c.sc.kind = .function)
    (h4 : asgOk c e xtg xe = true) (r : Rel M G0 H0 ρ σ G H) (h : SOk M W G0 H0 De (exec T (.asg tg e us) ρ)) : WS Xs (.Assign [xtg] xe p) De σ H := by
  unfold exec at h
  have hv : ∀ ρ G, Rel M G0 H0 ρ σ G H → ∀ Q, GOk M (WK W σ) G H (EvV M G H Q) (evE T ρ e) → WP Xs xe σ H Q := fun ρ G r Q q => (sndE e kx _ h1 r).1 Q q
  cases xtg with
  | Name x px =>
    cases tg with
    | tp is => unfold chkTg at h2; cases h2
    | nm i =>
      have h2 : tgC c i x = true := h2
      unfold tgC at h2
      simp only [Bool.and_eq_true, decide_eq_true_eq, Bool.or_eq_true] at h2
      obtain ⟨⟨k1, k2⟩, k3⟩ := h2
      have h4 : (nSD xe && (!swC c xe x px || (isLc e && isXLc xe && c.top))) = true := h4
      simp only [Bool.and_eq_true, Bool.or_eq_true, Bool.not_eq_true'] at h4
      obtain ⟨h5, h6⟩ := h4
      cases hsw : swC c xe x px with
      | false =>
        refine ⟨tAsg (WP Xs xe) (gName i), fun X hX => ps_set (by rw [kx.N X hX]; exact kx.nd) (by rw [kx.N X hX]; exact k1) ?_ (pe_w hX) (by rw [sw_eq (kx.sc X hX) h3 h5, hsw]) ?_, ?_⟩
        · rw [kx.sc X hX]
          unfold locC at k2
          split at k2
          · rename_i e; exact .inl e
          · rename_i e; exact .inr e
          · cases k2
        · rcases k3 with k3 | k3
          · exact .inl (kx.cl X hX _ k3)
          · exact .inr (by rw [kx.sc X hX]; exact k3)
        · exact s_evX (Rd := fun Q => WP Xs xe σ H Q) r hv h fun v ρ' u H' g q => s_set g q
      | true =>
        rcases h6 with h6 | ⟨⟨h6, h7⟩, h8⟩
        · rw [hsw] at h6; cases h6
        · cases e <;> first | (cases h6; done) | skip
          rename_i own tg' k as ifs el
          cases xe <;> first | (cases h7; done) | skip
          rename_i xel gens scope pos
          match gens, h7 with
          | [⟨xtg', it, xifs, asy⟩], _ =>
            have ha : asy = 0 := by
              unfold chkE at h1
              split at h1
              · rename_i e1; cases e1; rfl
              · cases h1
            subst ha
            have hswe : ∀ X, Xs X → swapsWith (.ListComp xel [⟨xtg', it, xifs, 0⟩] scope pos) (some (.Name x px)) p.line X.env = pure true := fun X hX => by rw [sw_eq (kx.sc X hX) h3 h5, hsw]
            have hloc : c.sc.names.lookup x = some .local := by
              unfold swC at hsw
              simp only [Bool.and_eq_true, decide_eq_true_eq] at hsw
              exact hsw.1.1
            have own' : (own.map fun i => (c.N.getD i "", i)).map (·.2) = own := by rw [List.map_map]; exact List.map_id' own
            have hh : c.hot = false ∧ blkC c.N c.sc scope (own.map fun i => (c.N.getD i "", i)) = true ∧ nset it = true := by
              unfold chkE at h1
              simp only [Bool.and_eq_true, decide_eq_true_eq, Bool.not_eq_true'] at h1
              exact ⟨h1.1.1.1.1.1.1.1.1.1, h1.1.1.1.1.1.1.1.1.2, h1.1.1.1.1.1.1.2⟩
            refine ⟨_, fun X hX => ps_setLc (i := i) (kx.calm hh.1 X hX) (by rw [kx.N X hX]; exact kx.nd) (by rw [kx.N X hX]; exact k1) (by rw [kx.sc X hX]; exact hloc) (hswe X hX) (pi_w hX) (own := own.map fun i => (c.N.getD i "", i)) (by rw [kx.N X hX, kx.sc X hX]; exact blkOk_by hh.2.1)
              (fun s H C cl fp => pg_w (Xs := Bk Xs scope) ⟨X, s, H, C, cl, fp, hX, rfl⟩) (fun s H C cl fp => pts_w (Xs := Bk Xs scope) ⟨X, s, H, C, cl, fp, hX, rfl⟩) (fun s H C cl fp => pe_w (Xs := Bk Xs scope) ⟨X, s, H, C, cl, fp, hX, rfl⟩) (foldedId hh.2.2 _), ?_⟩
            rw [own']
            show tLc (WI Xs xtg' it) (WG (Bk Xs scope) xtg') (WTs (Bk Xs scope) xifs) (WP (Bk Xs scope) xel) own σ H fun x H1 => gName i x σ H1 De.nx
            exact s_evX (Rd := fun Q => tLc (WI Xs xtg' it) (WG (Bk Xs scope) xtg') (WTs (Bk Xs scope) xifs) (WP (Bk Xs scope) xel) own σ H Q) r (fun ρ G r Q q => (sndLc kx h1 r Q q).1) h fun v ρ' u H' g q => s_set g q
  | Tuple es k q =>
    refine ⟨_, fun X hX => ps_asg (pe_w hX) (pg_w hX) swTup (stTup h4) rfl, ?_⟩
    exact s_evX (Rd := fun Q => WP Xs xe σ H Q) r hv h fun v ρ' u H' g q => s_store kx h2 g q
  | _ => cases tg <;> (unfold chkTg at h2; cases h2)
theorem t_par {i j : Nat} {a b : E} {us : List Nat} {x y : Str} {px py pt pt2 p : Pos} {kt k2 : Nat} {xa xb : Expr} (kx : Kx Xs M T W c) (h0 : c.hot = false) (h1 : c.N[i]? = some x) (h2 : c.N[j]? = some y) (hij : i ≠ j) (h3 : c.sc.names.lookup x = some .local) (h4 : c.sc.names.lookup y = some .local)
    (h5 : chkE a c xa = true) (h6 : chkE b c xb = true) (h7 : nst xa = true) (h8 : nst xb = true) (h9 : c.sc.kind = .function) (h10 : px.line = py.line) (h11 : (x == y) = false) (h12 : [xa, xb].all (foldedForSure 8) = false) (h13 : [xa, xb].all (constantsAlone 8) = false)
    (r : Rel M G0 H0 ρ σ G H) (h : SOk M W G0 H0 De (exec T (.par i j a b us) ρ)) : WS Xs (.Assign [.Tuple [.Name x px, .Name y py] kt pt] (.Tuple [xa, xb] k2 pt2) p) De σ H := by
  unfold exec at h
  refine ⟨tPar i j (WA Xs [xa, xb]), fun X hX => ps_par (kx.calm h0 X hX) (by rw [kx.N X hX]; exact kx.nd) (by rw [kx.N X hX]; exact h1) (by rw [kx.N X hX]; exact h2) hij (by rw [kx.sc X hX]; exact h3) (by rw [kx.sc X hX]; exact h4) (pa_w hX) (swPar (kx.sc X hX) h9 h3 h4 h7 h8 h10 h11 h12 h13) swTup, ?_⟩
  have hl : chkL [a, b] c [xa, xb] = true := by simp [chkL, h5, h6]
  have hn : [xa, xb].all nst = true := by simp [h7, h8]
  refine s_evXL (Rd := fun Q => WA Xs [xa, xb] σ H Q) r (fun ρ G r Q q => sndL [a, b] kx _ hl hn r Q q) h fun ds ρ' vs G' H' r' rs q => ?_
  match ds, q with
  | [dx, dy], q =>
    obtain ⟨v, u, rfl, r1, r2⟩ := rs.two'
    exact ⟨v, u, rfl, q _ G' H' ((r'.setFz i r1).setFz j r2)⟩
  | [], q => exact q.elim
  | [_], q => exact q.elim
  | _ :: _ :: _ :: _, q => exact q.elim
theorem t_aug {i : Nat} {op : Operator} {e : E} {us : List Nat} {x : Str} {px p : Pos} {xe : Expr} (kx : Kx Xs M T W c) (hop : op = .Add ∨ op = .Sub) (h1 : tgC c i x = true) (h2 : chkE e c xe = true) (r : Rel M G0 H0 ρ σ G H) (h : SOk M W G0 H0 De (exec T (.aug i op e us) ρ)) :
    WS Xs (.AugAssign (.Name x px) op xe p) De σ H := by
  unfold exec at h
  unfold tgC at h1
  simp only [Bool.and_eq_true, decide_eq_true_eq, Bool.or_eq_true] at h1
  obtain ⟨⟨k1, k2⟩, k3⟩ := h1
  have hloc : L2.Loc c.sc x := by
    unfold locC at k2
    split at k2
    · rename_i e; exact .inl e
    · rename_i e; exact .inr e
    · cases k2
  have hfn : ∀ X, Xs X → X.fn x = true ∨ X.env.scope.names.lookup x = some .local := fun X hX => by
    rcases k3 with k3 | k3
    · exact .inl (kx.cl X hX _ k3)
    · exact .inr (by rw [kx.sc X hX]; exact k3)
  cases ex : ρ[i]? with
  | none => rw [ex] at h; exact h.elim
  | some s =>
    rw [ex] at h
    cases s with
    | un => exact h.elim
    | ow _ => exact h.elim
    | xc _ _ => exact h.elim
    | fz dx =>
      obtain ⟨v, ev, rv⟩ := r.fz i dx ex
      simp only at h
      have key : ∀ f : Int → Int → Int, (∀ a b (ρ1 : Rho), (op = .Add ∧ f a b = a + b) ∨ (op = .Sub ∧ f a b = a - b)) → WP Xs xe σ H fun y H1 => (ipI f) v y H1 fun z H2 => De.nx (σ.set i (some z)) H2 := fun f hf => by
        refine s_evX (Rd := fun Q => WP Xs xe σ H Q) r (fun ρ G r Q q => (sndE e kx _ h2 r).1 Q q) h fun w ρ' u H' g q => ?_
        obtain ⟨G', r', rw'⟩ := g.use
        rcases hf 0 0 ρ with ⟨rfl, _⟩ | ⟨rfl, _⟩
        · split at q
          · rename_i a b e1 e2
            rw [e2] at rw'
            obtain rfl := rv.int'
            obtain rfl := rw'.int'
            have := hf a b ρ
            rcases this with ⟨_, hfab⟩ | ⟨z, _⟩
            · exact ⟨a, b, rfl, rfl, by rw [hfab]; exact q _ G' H' (r'.setFz i Rep.int)⟩
            · cases z
          · rename_i z _; cases z
          · exact q.elim
        · split at q
          · rename_i z _; cases z
          · rename_i a b e1 e2
            rw [e2] at rw'
            obtain rfl := rv.int'
            obtain rfl := rw'.int'
            have := hf a b ρ
            rcases this with ⟨z, _⟩ | ⟨_, hfab⟩
            · cases z
            · exact ⟨a, b, rfl, rfl, by rw [hfab]; exact q _ G' H' (r'.setFz i Rep.int)⟩
          · exact q.elim
      rcases hop with rfl | rfl
      · exact ⟨_, fun X hX => ps_aug (by rw [kx.N X hX]; exact kx.nd) (by rw [kx.N X hX]; exact k1) (by rw [kx.sc X hX]; exact hloc) (pe_w hX) ip_add (hfn X hX), v, ev, key (fun i j => i + j) fun a b _ => .inl ⟨rfl, rfl⟩⟩
      · exact ⟨_, fun X hX => ps_aug (by rw [kx.N X hX]; exact kx.nd) (by rw [kx.N X hX]; exact k1) (by rw [kx.sc X hX]; exact hloc) (pe_w hX) ip_sub (hfn X hX), v, ev, key (fun i j => i - j) fun a b _ => .inr ⟨rfl, rfl⟩⟩
theorem asgSub {x : Str} {px p' : Pos} {xi : Expr} (h : nslice xi = true) (env : Env) (v : Value) : assign ((Expr.Name x px).Subscript xi p') env v = (do
    let ov ← holding [v] (eval (.Name x px) env)
    let iv ← holding [v, ov] (eval xi env)
    standAt p'
    holding [v, ov, iv] (setItem ov iv v)
    release [v, ov, iv] []) := by
  cases xi <;> first | rfl | cases h
theorem t_stix {i : Nat} {ix e : E} {us : List Nat} {x : Str} {px p' p : Pos} {xi xe : Expr} (kx : Kx Xs M T W c) (h1 : nmC c i x = true) (h2 : chkE ix c xi = true) (h3 : chkE e c xe = true) (h4 : nslice xi = true) (r : Rel M G0 H0 ρ σ G H) (h : SOk M W G0 H0 De (exec T (.stix i ix e us) ρ)) :
    WS Xs (.Assign [.Subscript (.Name x px) xi p'] xe p) De σ H := by
  unfold exec at h
  split at h
  · rename_i ds0 e0
    obtain ⟨p0, ep, _⟩ := r.ow i _ e0
    refine ⟨tAsg (WP Xs xe) (gSub (tVar i) (WP Xs xi) rSetL), fun X hX => ps_asg (pe_w hX) (pg_sub (nm_pe kx h1 X hX) (pe_w hX) set_list (fun v => asgSub h4 _ v)) swSub stSub rfl, ?_⟩
    refine s_evX (Rd := fun Q => WP Xs xe σ H Q) r (fun ρ G r Q q => (sndE e kx _ h3 r).1 Q q) h fun v ρ1 u H1 g q => ?_
    obtain ⟨G1, r1, rv⟩ := g.use
    refine ⟨.ref p0, ep, ?_⟩
    have r1' := r1.rebase
    have q' := q.baseG r1.ext.g r1.ext.n
    refine s_evX (Rd := fun Q => WP Xs xi σ H1 Q) r1' (fun ρ G r Q q => (sndE ix kx _ h2 r).1 Q q) q' fun k ρ2 w H2 g2 q2 => ?_
    obtain ⟨G2, r2, rw2⟩ := g2.use
    split at q2
    · rename_i o eo
      obtain ⟨p, e1, e2, e3, e4⟩ := r2.ow i o eo
      rw [ep] at e1; cases e1
      unfold storeIx at q2
      cases o with
      | dct _ => exact q2.elim
      | obj _ _ => exact q2.elim
      | lst ds =>
        cases ek : k.d <;> rw [ek] at q2 rw2 <;> first | exact q2.elim | skip
        rename_i n
        obtain rfl := rw2.int'
        obtain ⟨vs, b1, b2⟩ := e4
        cases ej : ixN ds.length n with
        | none => simp only [ej] at q2; exact q2.elim
        | some j =>
          simp only [ej, R.on_ok] at q2
          exact ⟨p0, vs, n, j, rfl, rfl, b1, by rw [b2.length]; exact ej, q2 σ G2 _ (r2.change eo ep _ ⟨_, upd_same, Reps.set j b2 (Rep.mono r2.ext.g _ _ rv)⟩)⟩
    · exact q2.elim
  · exact h.elim
theorem t_app {i : Nat} {e : E} {us : List Nat} {x : Str} {px ap cp p : Pos} {xe : Expr} (kx : Kx Xs M T W c) (h1 : nmC c i x = true) (h2 : chkE e c xe = true) (h3 : nst xe = true) (h4 : ap.endLine = cp.line) (r : Rel M G0 H0 ρ σ G H) (h : SOk M W G0 H0 De (exec T (.app i e us) ρ)) :
    WS Xs (.Expr (.Call (.Attribute (.Name x px) "append" ap) [xe] [] cp) p) De σ H := by
  unfold exec at h
  split at h
  · rename_i ds0 e0
    obtain ⟨p0, ep, z2, z3, vs0, z4, z5⟩ := r.ow i _ e0
    refine ⟨tDrop (tBM M.K "list" rAppend (tVar i) (tCons (WP Xs xe) tNil)), fun X hX => ps_expr ?_, ?_⟩
    · rw [← kx.K X hX]
      exact pe_bm PySem.F.plainAttrs_list PySem.F.slot_list_append PySem.F.type_list_append mt_append (nm_pe kx h1 X hX) (pa_cons (pe_w hX) pa_nil (starE h3 _ _)) (by rfl) (by rw [starE h3]; rfl) (by rw [h4]; exact beq_self_eq_true _) (starE h3 _ _) (by rfl)
    · refine ⟨.ref p0, ep, .inl ⟨rfl, _, .inl (.inl z4)⟩, ?_⟩
      refine s_evX (Rd := fun Q => WP Xs xe σ H Q) r (fun ρ G r Q q => (sndE e kx _ h2 r).1 Q q) h fun v ρ1 u H1 g q => ?_
      obtain ⟨G1, r1, rv⟩ := g.use
      split at q
      · rename_i ds eo
        obtain ⟨p', e1, e2, e3, vs, b1, b2⟩ := r1.ow i _ eo
        rw [ep] at e1; cases e1
        by_cases hl : ds.length < sizeLine
        · rw [if_pos hl] at q
          exact ⟨p0, vs, u, rfl, rfl, b1, by rw [b2.length]; exact hl, q σ G1 _ (r1.change eo ep _ ⟨_, upd_same, Reps.append b2 (by unfold Reps; exact ⟨u, [], rfl, rv, by unfold Reps; rfl⟩)⟩)⟩
        · rw [if_neg hl] at q; exact q.elim
      · exact q.elim
  · exact h.elim
theorem t_expr {e : E} {us : List Nat} {p : Pos} {xe : Expr} (kx : Kx Xs M T W c) (h2 : chkE e c xe = true) (h3 : isComp xe = false) (r : Rel M G0 H0 ρ σ G H) (h : SOk M W G0 H0 De (exec T (.expr e us) ρ)) : WS Xs (.Expr xe p) De σ H := by
  unfold exec at h
  refine ⟨tDrop (WP Xs xe), fun X hX => ps_expr (pe_w hX) ?_, ?_⟩
  · cases xe <;> first | rfl | cases h3
  · refine s_evX (Rd := fun Q => WP Xs xe σ H Q) r (fun ρ G r Q q => (sndE e kx _ h2 r).1 Q q) h fun v ρ1 u H1 g q => ?_
    obtain ⟨G1, r1, rv⟩ := g.use
    exact q σ G1 H1 r1
theorem t_ret {e : E} {us : List Nat} {p : Pos} {xe : Expr} (kx : Kx Xs M T W c) (h2 : chkE e c xe = true) (r : Rel M G0 H0 ρ σ G H) (h : SOk M W G0 H0 De (exec T (.ret e us) ρ)) : WS Xs (.Return (some xe) p) De σ H := by
  unfold exec at h
  refine ⟨tRet (WP Xs xe), fun X hX => ps_ret (pe_w hX), ?_⟩
  refine s_evX (Rd := fun Q => WP Xs xe σ H Q) r (fun ρ G r Q q => (sndE e kx _ h2 r).1 Q q) h fun v ρ1 u H1 g q => ?_
  cases v with
  | fz d =>
    obtain ⟨G1, r1, rv⟩ := g
    exact q u G1 H1 r1.ext rv
  | fr o =>
    obtain ⟨G1, a, rfl, r1, h0, hg, ro, nw⟩ := g
    exact q a G1 H1 r1.ext h0 hg ro
theorem t_retv {i : Nat} {x : Str} {px p : Pos} (kx : Kx Xs M T W c) (h1 : nmC c i x = true) (r : Rel M G0 H0 ρ σ G H) (h : SOk M W G0 H0 De (exec T (.retv i) ρ)) : WS Xs (.Return (some (.Name x px)) p) De σ H := by
  unfold exec at h
  split at h
  · rename_i d e
    obtain ⟨v, e1, e2⟩ := r.fz i d e
    exact ⟨tRet (tVar i), fun X hX => ps_ret (nm_pe kx h1 X hX), v, e1, h v G H r.ext e2⟩
  · rename_i o e
    obtain ⟨q, e1, e2, e3, e4⟩ := r.ow i o e
    exact ⟨tRet (tVar i), fun X hX => ps_ret (nm_pe kx h1 X hX), _, e1, h q G H r.ext e2 e3 e4⟩
  · exact h.elim
theorem t_raise0 {C : Str} {us : List Nat} {m : Str} {k : Nat} {p1 p2 p3 p4 : Pos} (kx : Kx Xs M T W c) (h0 : c.hot = false) (hg : gloC c C = true) (hC : C ∈ c.ex0) (r : Rel M G0 H0 ρ σ G H) (h : SOk M W G0 H0 De (exec T (.rais C [] [] us) ρ)) :
    WS Xs (.Raise (some (.Call (.Name C p1) [.Constant (.str m) k p2] [] p3)) none p4) De σ H := by
  have h : SOk M W G0 H0 De (.ex C [] ρ) := by
    unfold exec evXL at h
    by_cases ha : anyOw ρ us = true
    · rw [if_pos ha] at h
      simpa [evL, D.lfs] using h
    · rw [if_neg ha] at h
      simpa [evL] using h
  obtain ⟨D, hD, hp⟩ := kx.ex0 C hC
  exact ⟨_, fun X hX => ps_raise (kx.calm h0 X hX) (kx.tk X hX) (hp X (kx.K X hX) (kx.mg X hX) (kx.gl hg X hX) (nodb_dbg (glo_nodb hg)) _ _ _ _ _), h _ _ σ G H r ⟨D, hD, rfl, .inl ⟨rfl, rfl⟩⟩⟩
theorem RepF.zip : ∀ {fs : List Str} {ds : List D} {vs : List V}, Reps M G ds vs → RepF M G (fs.zip ds) (fs.zip vs)
  | [], ds, vs, _ => by unfold List.zip; simp [RepF]
  | f :: fs, [], vs, h => by unfold Reps at h; subst h; simp [RepF]
  | f :: fs, d :: ds, vs, h => by
    unfold Reps at h
    obtain ⟨v, r, rfl, h1, h2⟩ := h
    show RepF M G ((f, d) :: fs.zip ds) ((f, v) :: fs.zip r)
    unfold RepF
    exact ⟨v, _, rfl, h1, RepF.zip h2⟩
theorem t_raise1 {C : Str} {as : List E} {fs : List Str} {us : List Nat} {x : Expr} {xs : List Expr} {p1 p3 p4 : Pos} (kx : Kx Xs M T W c) (h0 : c.hot = false) (hg : gloC c C = true) (hC : (C, fs) ∈ c.ex1) (h2 : chkL as c (x :: xs) = true) (h3 : (x :: xs).all nst = true) (h4 : (x :: xs).length = fs.length)
    (r : Rel M G0 H0 ρ σ G H) (h : SOk M W G0 H0 De (exec T (.rais C as fs us) ρ)) : WS Xs (.Raise (some (.Call (.Name C p1) (x :: xs) [] p3)) none p4) De σ H := by
  unfold exec at h
  obtain ⟨D, hD, hp⟩ := kx.ex1 C fs hC
  refine ⟨_, fun X hX => ps_raise (kx.calm h0 X hX) (kx.tk X hX) (hp X (kx.K X hX) (kx.mg X hX) (kx.P X hX) (kx.w X hX) (kx.base X hX) ⟨X, hX, rfl⟩ (kx.gl hg X hX) (nodb_dbg (glo_nodb hg)) _ _ _ _ _ h3 h4 (pa_w hX)), ?_⟩
  refine s_evXL (Rd := fun Q => WA Xs (x :: xs) σ H Q) r (fun ρ G r Q q => sndL as kx _ h2 h3 r Q q) h fun ds ρ' vs G' H' r' rs q => ?_
  by_cases hl : fs.length = ds.length
  · rw [if_pos hl] at q
    refine ⟨by rw [rs.length, hl], fun d hd => ?_⟩
    have x' := Ext.both r'.same (.xd (fs.zip vs)) hd
    exact q _ _ σ _ _ (r'.later x') ⟨D, hD, rfl, .inr ⟨d, _, rfl, upd_same, RepF.zip (Reps.mono x'.g _ _ rs)⟩⟩
  · rw [if_neg hl] at q; exact q.elim
end

section
variable {T : Tb}
set_option maxHeartbeats 8000000
mutual
theorem sndS : ∀ (s : S) {Xs : Cx → Prop} {M : Md} {W : WX} {c : Cs} (kx : Kx Xs M T W c) (st : Stmt), chkS s c st = true → ∀ {G0 H0 G H : Hp} {ρ : Rho} {σ : L2.St} {De : Ends}, Rel M G0 H0 ρ σ G H → SOk M W G0 H0 De (exec T s ρ) → WS Xs st De σ H
  | .asg tg e us, Xs, M, W, c, kx, st, hk, G0, H0, G, H, ρ, σ, De, r, h => by
    unfold chkS at hk
    split at hk <;> first | (cases hk; done) | skip
    simp only [Bool.and_eq_true, decide_eq_true_eq] at hk
    exact t_asg kx hk.1.1.1 hk.1.1.2 hk.1.2 hk.2 r h
  | .par i j a b us, Xs, M, W, c, kx, st, hk, G0, H0, G, H, ρ, σ, De, r, h => by
    unfold chkS at hk
    split at hk <;> first | (cases hk; done) | skip
    simp only [Bool.and_eq_true, decide_eq_true_eq, Bool.not_eq_true'] at hk
    obtain ⟨⟨⟨⟨⟨⟨⟨⟨⟨⟨⟨⟨⟨⟨a0, a1⟩, a2⟩, a3⟩, a4⟩, a5⟩, a6⟩, a7⟩, a8⟩, a9⟩, a10⟩, a11⟩, a12⟩, a13⟩, a14⟩ := hk
    exact t_par kx a0 a1 a2 a3 a4 a5 a6 a7 a8 a9 a10 a11 a12 a13 a14 r h
  | .aug i op e us, Xs, M, W, c, kx, st, hk, G0, H0, G, H, ρ, σ, De, r, h => by
    unfold chkS at hk
    split at hk <;> first | (cases hk; done) | skip
    simp only [Bool.and_eq_true, decide_eq_true_eq, Bool.or_eq_true] at hk
    obtain ⟨⟨⟨rfl, a1⟩, a2⟩, a3⟩ := hk
    exact t_aug kx a1 a2 a3 r h
  | .stix i ix e us, Xs, M, W, c, kx, st, hk, G0, H0, G, H, ρ, σ, De, r, h => by
    unfold chkS at hk
    split at hk <;> first | (cases hk; done) | skip
    simp only [Bool.and_eq_true] at hk
    exact t_stix kx hk.1.1.1 hk.1.1.2 hk.1.2 hk.2 r h
  | .app i e us, Xs, M, W, c, kx, st, hk, G0, H0, G, H, ρ, σ, De, r, h => by
    unfold chkS at hk
    split at hk <;> first | (cases hk; done) | skip
    simp only [Bool.and_eq_true, decide_eq_true_eq] at hk
    obtain ⟨⟨⟨⟨rfl, a1⟩, a2⟩, a3⟩, a4⟩ := hk
    exact t_app kx a1 a2 a3 a4 r h
  | .expr e us, Xs, M, W, c, kx, st, hk, G0, H0, G, H, ρ, σ, De, r, h => by
    unfold chkS at hk
    split at hk <;> first | (cases hk; done) | skip
    simp only [Bool.and_eq_true, Bool.not_eq_true'] at hk
    exact t_expr kx hk.1 hk.2 r h
  | .iff t a b us, Xs, M, W, c, kx, st, hk, G0, H0, G, H, ρ, σ, De, r, h => by
    unfold chkS at hk
    split at hk <;> first | (cases hk; done) | skip
    rename_i xt xa xb p
    simp only [Bool.and_eq_true] at hk
    unfold exec at h
    refine ⟨_, fun X hX => ps_if (pt_w hX) (pss_w hX) (pss_w hX), ?_⟩
    refine s_evXB (Rd := fun Q => WT Xs xt σ H Q) r (fun ρ G r Q q => (sndE t kx _ hk.1.1.1 r).2 hk.1.1.2 Q q) h fun k G' H' r' q => ?_
    cases k with
    | true => exact sndSs a kx _ hk.1.2 r' q
    | false => exact sndSs b kx _ hk.2 r' q
  | .whl t b us, Xs, M, W, c, kx, st, hk, G0, H0, G, H, ρ, σ, De, r, h => by
    unfold chkS at hk
    split at hk <;> first | (cases hk; done) | skip
    simp only [Bool.and_eq_true] at hk
    unfold exec at h
    refine ⟨_, fun X hX => ps_while (kx.po X hX) (pt_w hX) (pss_w hX), ?_⟩
    exact s_while (fun r q => sndSs b kx _ hk.2 r q) (fun r Q q => (sndE t kx _ hk.1.1 r).2 hk.1.2 Q q) T.fuel r h
  | .for tg k as b us, Xs, M, W, c, kx, st, hk, G0, H0, G, H, ρ, σ, De, r, h => by
    unfold chkS at hk
    split at hk <;> first | (cases hk; done) | skip
    rename_i xtg it xb p
    simp only [Bool.and_eq_true, Bool.not_eq_true'] at hk
    obtain ⟨⟨⟨⟨h0, h1⟩, h2⟩, h3⟩, h4⟩ := hk
    unfold exec at h
    refine ⟨_, fun X hX => ps_for (kx.po X hX) (kx.calm h0 X hX) (pi_w hX) (pg_w hX) (pss_w hX) (foldedId h2 _), ?_⟩
    refine s_evXI (Rd := fun R => WI Xs xtg it σ H R) r (fun ρ G r R q => sndI2 kx h1 r (fun xs a b => sndL as kx xs a b r) (fun x a Q q => sndA as kx x a r Q q) q) h fun items ρ' J G' H' r' wk q => ?_
    exact s_for kx h3 (fun r q => sndSs b kx _ h4 r q) r' wk q
  | .ret e us, Xs, M, W, c, kx, st, hk, G0, H0, G, H, ρ, σ, De, r, h => by
    unfold chkS at hk
    split at hk <;> first | (cases hk; done) | skip
    exact t_ret kx hk r h
  | .retv i, Xs, M, W, c, kx, st, hk, G0, H0, G, H, ρ, σ, De, r, h => by
    unfold chkS at hk
    split at hk <;> first | (cases hk; done) | skip
    exact t_retv kx hk r h
  | .retN, Xs, M, W, c, kx, st, hk, G0, H0, G, H, ρ, σ, De, r, h => by
    unfold chkS at hk
    split at hk <;> first | (cases hk; done) | skip
    unfold exec at h
    exact ⟨tRetN, fun X hX => ps_retN, h _ G H r.ext Rep.non⟩
  | .brk, Xs, M, W, c, kx, st, hk, G0, H0, G, H, ρ, σ, De, r, h => by
    unfold chkS at hk
    split at hk <;> first | (cases hk; done) | skip
    unfold exec at h
    exact ⟨tBreak, fun X hX => ps_break, h σ G H r⟩
  | .cont, Xs, M, W, c, kx, st, hk, G0, H0, G, H, ρ, σ, De, r, h => by
    unfold chkS at hk
    split at hk <;> first | (cases hk; done) | skip
    unfold exec at h
    exact ⟨tCont, fun X hX => ps_continue, h σ G H r⟩
  | .pass, Xs, M, W, c, kx, st, hk, G0, H0, G, H, ρ, σ, De, r, h => by
    unfold chkS at hk
    split at hk <;> first | (cases hk; done) | skip
    unfold exec at h
    exact ⟨tNext, fun X hX => ps_pass, h σ G H r⟩
  | .rais C as fs us, Xs, M, W, c, kx, st, hk, G0, H0, G, H, ρ, σ, De, r, h => by
    unfold chkS at hk
    split at hk <;> first | (cases hk; done) | skip
    rename_i C' p1 x xs p2 p3
    rw [Bool.and_eq_true, Bool.and_eq_true, Bool.and_eq_true, Bool.or_eq_true] at hk
    obtain ⟨⟨⟨h0, h1⟩, h2⟩, h3⟩ := hk
    have h0 : c.hot = false := by simpa using h0
    have h1 := of_decide_eq_true h1
    subst h1
    rcases h3 with h3 | h3
    · simp only [Bool.and_eq_true, decide_eq_true_eq] at h3
      obtain ⟨⟨⟨⟨a1, a2⟩, a3⟩, a4⟩, a5⟩ := h3
      cases as <;> first | (cases a1; done) | skip
      cases fs <;> first | (cases a2; done) | skip
      cases xs <;> first | (cases a3; done) | skip
      split at a4 <;> first | (cases a4; done) | skip
      exact t_raise0 kx h0 h2 a5 r h
    · rw [Bool.and_eq_true, Bool.and_eq_true, Bool.and_eq_true] at h3
      exact t_raise1 kx h0 h2 (of_decide_eq_true h3.1.2) h3.1.1.1 h3.1.1.2 (of_decide_eq_true h3.2) r h
  | .tri b C nm hs, Xs, M, W, c, kx, st, hk, G0, H0, G, H, ρ, σ, De, r, h => by
    unfold chkS at hk
    split at hk <;> first | (cases hk; done) | skip
    simp only [Bool.and_eq_true, decide_eq_true_eq, Bool.not_eq_true'] at hk
    obtain ⟨⟨⟨⟨⟨⟨⟨a0, a1⟩, rfl⟩, a3⟩, a4⟩, a5⟩, a6⟩, a7⟩ := hk
    exact s_try kx a0 a1 a3 a4 a5 (fun W' => fun r q => sndSs b (kx.tr a0 W') _ a6 r q) (fun a D d cc hD => fun r q => sndSs hs (kx.suite hD) _ a7 r q) r h
theorem sndSs : ∀ (ss : List S) {Xs : Cx → Prop} {M : Md} {W : WX} {c : Cs} (kx : Kx Xs M T W c) (sts : List Stmt), chkSs ss c sts = true → ∀ {G0 H0 G H : Hp} {ρ : Rho} {σ : L2.St} {De : Ends}, Rel M G0 H0 ρ σ G H → SOk M W G0 H0 De (execs T ss ρ) → WSs Xs sts De σ H
  | [], Xs, M, W, c, kx, sts, hk, G0, H0, G, H, ρ, σ, De, r, h => by
    unfold chkSs at hk
    cases sts with
    | cons _ _ => cases hk
    | nil =>
      unfold execs at h
      exact ⟨tNext, fun X hX => pss_nil, h σ G H r⟩
  | s :: ss, Xs, M, W, c, kx, sts, hk, G0, H0, G, H, ρ, σ, De, r, h => by
    unfold chkSs at hk
    split at hk <;> first | (cases hk; done) | skip
    rename_i x xs
    rw [Bool.and_eq_true] at hk
    unfold execs at h
    refine ⟨_, fun X hX => pss_cons (ps_w hX) (pss_w hX), ?_⟩
    show WS Xs x { De with nx := WSs Xs xs De } σ H
    refine sndS s kx _ hk.1 r ?_
    cases e : exec T s ρ with
    | st => rw [e] at h; exact h.elim
    | ex cc fs ρ1 => rw [e] at h; exact h
    | ok f =>
      rw [e] at h
      cases f with
      | nx ρ1 => exact fun σ' G' H' r' => sndSs ss kx _ hk.2 r' h
      | rt v => exact h
      | bk ρ1 => exact h
      | ct ρ1 => exact h
end
end
end PX

set_option Elab.async false
set_option linter.all false
set_option maxRecDepth 100000
set_option maxHeartbeats 4000000
/-! Px14: programs of checked defs: every def keeps the promise that its evaluation gives. -/
namespace PX
open PySem PySem.Spec PyProof.Rows L2

/-- a def: its name, the names of its slots (the first k are its parameters), its body, the program's own statement -/
structure DefS where
  name : Str
  N : List Str
  k : Nat
  body : List S
  st : Stmt
structure Prg where
  defs : List DefS
  cst : Str → Option D
  sub : Str → Str → Option Bool
  oc : Str → Bool
  fuel : Nat
def Prg.call (p : Prg) : Nat → Str → List D → R EV
  | 0 => fun _ _ => .st
  | n + 1 => fun f ds => match p.defs.find? (fun d => d.name == f) with
    | some d => evDef ⟨p.call n, p.cst, p.sub, p.oc, p.fuel⟩ d.N.length d.k d.body ds
    | none => .st
def Prg.tb (p : Prg) (n : Nat) : Tb := ⟨p.call n, p.cst, p.sub, p.oc, p.fuel⟩
/-- what a def gives when n levels of calls are allowed -/
def Prg.val (p : Prg) (d : DefS) : Nat → List D → R EV
  | 0 => fun _ => .st
  | n + 1 => fun ds => evDef (p.tb n) d.N.length d.k d.body ds
/-- the names that the checks may lean on -/
structure Nm where
  bl : List Str
  im : List Str
  fns : List Str
  flds : List Str
  xfl : List Str
  ex0 : List Str
  ex1 : List (Str × List Str)
  exl : List Str
def csOf (nm : Nm) (d : DefS) : Cs where
  N := d.N
  sc := defScope d.st
  cl := fun _ => true
  hot := false
  bl := nm.bl
  im := nm.im
  fns := nm.fns
  flds := nm.flds
  xfl := nm.xfl
  top := true
  ex0 := nm.ex0
  ex1 := nm.ex1
  exl := nm.exl
def scB (N ps : List Str) (sc : Scope) : Bool :=
  decide (sc.kind = .function) && (!sc.isCoroutine && (!sc.isGenerator && (decide N.Nodup && (decide (N.take ps.length = ps) &&
    (ps.all (fun x => locC sc x) && sc.names.all fun y => decide (y.2 ≠ .free))))))
theorem scB_ok {N ps : List Str} {sc : Scope} (h : scB N ps sc = true) : FnScope N ps sc := by
  unfold scB at h
  simp only [Bool.and_eq_true, decide_eq_true_eq, Bool.not_eq_true', List.all_eq_true] at h
  obtain ⟨h1, h2, h3, h4, h5, h6, h7⟩ := h
  refine ⟨h1, h2, h3, h4, h5, fun x hx => ?_, fun y hy => h7 y hy⟩
  have q := h6 x hx
  unfold locC at q
  split at q
  · rename_i e; exact .inl e
  · rename_i e; exact .inr e
  · cases q
def DefS.ps (d : DefS) : List Str := d.N.take d.k
def chkD (nm : Nm) (d : DefS) : Bool := chkSs d.body (csOf nm d) (defBody d.st) && (scB d.N d.ps (defScope d.st) && decide (d.k ≤ d.N.length))
/-- a name of a class: a global or a built-in one -/
def NameIs (M : Md) (C : Str) (u : Value) : Prop := M.mg C = some u ∨ (M.mg C = none ∧ bootBuiltins C = some u)
/-- what is known of the program's names -/
structure Fx (p : Prg) (nm : Nm) (M : Md) : Prop where
  x : M.x = none
  chk : ∀ d, d ∈ p.defs → chkD nm d = true
  fd : ∀ d, d ∈ p.defs → ∃ fa fd, FunD M.K d.name d.name (defArgs d.st) (defBody d.st) (defScope d.st) [] [] fa fd ∧ M.mg d.name = some (.ref fa) ∧ Binds M.K fd d.ps []
  fns : ∀ f, f ∈ nm.fns → (p.defs.find? fun d => d.name == f).isSome = true
  bl : ∀ x, x ∈ nm.bl → M.mg x = none
  gcd : ("gcd" : Str) ∈ nm.im → M.mg "gcd" = some (.builtin "math.gcd")
  lcm : ("lcm" : Str) ∈ nm.im → M.mg "lcm" = some (.builtin "math.lcm")
  cst : ∀ x d, p.cst x = some d → ∃ u v, M.mg x = some u ∧ RelV v u ∧ ∀ G, Rep M G d v
  obj : ∀ cl C f, p.oc cl = true → M.cls cl C → f ∈ nm.flds → Cls M.K C ∧ NoAttr M.K C f
  xc : ∀ cc C b, p.sub cc C = some b → ∀ D, M.cls cc D → ExcC M.K D ∧ ∃ (cv : V) (u : Value), RelV cv u ∧ (∀ u', RelV cv u' → u' = u) ∧ NameIs M C u ∧ PySem.W.exmOne M.K (.ref D) u = some b ∧ PySem.W.kitOne M.K (.ref D) u = some b
  xf : ∀ cc b, p.sub cc cc = some b → ∀ D, M.cls cc D → ∀ f, f ∈ nm.xfl → XfC M.K D ∧ PySem.W.findIn M.K (.ref D) f = some none
  exv : ∀ C, C ∈ nm.exl → ∃ u, NameIs M C u
  ex0 : ∀ C, C ∈ nm.ex0 → ∃ D, M.cls C D ∧ PySem.W.excIn M.K D He.veBase "ValueError.__new__" = true ∧ PySem.W.keepIn M.K (.ref D) = true ∧ PySem.W.subIn M.K (.ref D) (.type "BaseException") = some true ∧ PySem.W.typeIn M.K (.ref D) = some (.type "type")
  ex1 : ∀ C fs, (C, fs) ∈ nm.ex1 → ∃ D, M.cls C D ∧ ∀ X : Cx, X.K = M.K → X.mg = M.mg → X.prog = M.P → X.w = M.w → X.base = M.base → Room 1 X.A → Gl X C → (C == ("__debug__" : Str)) = false → ∀ e es p pos ta, (e :: es).all nst = true → (e :: es).length = fs.length → PA X (e :: es) ta →
    PMk X (.Call (.Name C p) (e :: es) [] pos) (fun σ H Q => ta σ H fun vs H1 => vs.length = fs.length ∧ ∀ d, H1 d = none → Q (.ref D) (some d) (upd H1 d (.xd (fs.zip vs))))

section
variable {p : Prg} {nm : Nm} {M : Md}
theorem Fx.call_eq (F : Fx p nm M) {f : Str} {d : DefS} (h : (p.defs.find? fun d => d.name == f) = some d) : ∀ n, p.call n f = p.val d n
  | 0 => rfl
  | n + 1 => by
    funext ds
    show (match p.defs.find? (fun d => d.name == f) with
      | some d => evDef ⟨p.call n, p.cst, p.sub, p.oc, p.fuel⟩ d.N.length d.k d.body ds
      | none => .st) = _
    rw [h]
    rfl
theorem call_isEx {X : Cx} {a D : Addr} {oe : Obj} {d : Option Addr} {pn : List (Addr × Obj)} (C : ExcC X.K D) (hz : Zc (.ref D) d oe) (hf : ∃ vs, oe.data = .fields vs) :
    CallR (X.suite a ((a, oe) :: pn)) (.builtin "isinstance") (fun xs H Q => (d = none ∨ ∃ e ws, d = some e ∧ H e = some (.xd ws)) ∧ rIsE X.K D a xs H Q) := by
  intro pins s σ H xs us Q I r h
  obtain ⟨hd, c, cv, b, rfl, hcv, e, q⟩ := h
  obtain ⟨u1, u2, rfl, rx, rt⟩ := vals2 r
  cases rx
  have ec := hcv _ rt
  subst ec
  obtain ⟨hget, _⟩ := I.pin (a, oe) (List.mem_append.mpr (.inl List.mem_cons_self))
  obtain ⟨vs, hv⟩ := hf
  have J : ∃ od, PySem.W.InstAt s.heap a oe D od := by
    obtain ⟨oc, od, oda, osl⟩ := oe
    obtain ⟨h1, h2⟩ := hz
    dsimp only at h1 h2 hv
    subst h1 h2 hv
    rcases hd with rfl | ⟨e', ws, rfl, ew⟩
    · exact ⟨none, hget, rfl, rfl, trivial⟩
    · have hx : ObjOk X.prog X.w H s.heap e' (.xd ws) := I.hok e' _ ew
      obtain ⟨mA, hns, _⟩ := hx
      obtain ⟨o2, ho, _⟩ := lookIn_ns hns
      exact ⟨some o2, hget, rfl, rfl, ho⟩
  obtain ⟨od, J⟩ := J
  have hcl : (PySem.W.clsIn X.K D).isSome = true := by
    obtain ⟨cd, hc, _⟩ := PySem.W.any_some C.hd
    rw [hc]; rfl
  exact PySem.W.kia_one (PySem.W.kitx_exc (od := od) hcl C.hg C.hk C.hs C.ha C.hn C.ht C.hm) I.kIn J e (fun z => nomatch z) fun tk => ⟨.bl b, H, I.kept (t' := tk) fun _ _ z => z, rfl, q⟩

/-- a reading with what follows from it -/
theorem pe_wider {X : Cx} {e : Expr} {t : TE} (h : PE X e t) : PE X e (fun σ H Q => ∃ Q0 : VK, (∀ v H, Q0 v H → Q v H) ∧ t σ H Q0) := ⟨fun pins s σ H Q I ⟨Q0, k, z⟩ => thn (h.run pins s σ H Q0 I z) fun u s' ⟨v, H', I', r, q⟩ => ⟨v, H', I', r, k v H' q⟩⟩
/-- a def's own context -/
theorem Fx.kx (F : Fx p nm M) {n : Nat} (hn : ∀ d, d ∈ p.defs → ∃ fa fd, FnOk M.P M.w M.K M.mg M.base (L2.CX M.P M.w) (n + 1) fa fd d.ps (spOf M d.ps.length (p.val d n)) ∧ M.mg d.name = some (.ref fa) ∧ PySem.W.keepIn M.K (.ref fa) = true ∧ Binds M.K fd d.ps [])
    {d : DefS} (hd : d ∈ p.defs) (S : FnScope d.N d.ps (defScope d.st)) {f : Addr} {cdv : Value} {A : Around} {outer : List Env} {s : Shared} {H : Hp} {E : XK} (hr : Room (n + 1) (A.deeper (envOfC d.name (defScope d.st) s.heap.objs.size f cdv))) :
    Kx (fun X => X = cxOf (L2.CX M.P M.w) M.P M.w M.K M.mg M.base d.N d.name (defScope d.st) f cdv A outer s H E) M (p.tb n) (fun cls dx _ H' => E cls dx H') (csOf nm d) where
  K := by rintro X rfl; rfl
  mg := by rintro X rfl; rfl
  P := by rintro X rfl; rfl
  w := by rintro X rfl; rfl
  base := by rintro X rfl; rfl
  N := by rintro X rfl; rfl
  sc := by rintro X rfl; rfl
  cl := by rintro X rfl; exact fun _ _ => rfl
  nd := S.nd
  calm := by rintro _ X rfl; rfl
  tk := by rintro X rfl; exact takes_of rfl rfl rfl rfl
  po := by rintro X rfl; exact passes_of rfl
  room := by rintro X rfl; have := hr.un; show (A.deeper _).units + 70 < cLine; omega
  bl := F.bl
  gcd := F.gcd
  lcm := F.lcm
  hot := fun h => by cases h
  su := fun a C dx cc hc Zs hZ => by
    refine ⟨fun cc' C' b hs hc' => ?_, fun cc' b hs hc' g hg X hX e ep hse => ?_⟩
    · obtain ⟨hC, cv, u, h1, h2, h3, h4, h5⟩ := F.xc cc' C' b hs C hc'
      refine ⟨cv, u, h1, h2, h3, fun X hX H Q hp q => ?_⟩
      by_cases ht : True
      · refine ⟨fun xs H Q => (dx = none ∨ ∃ e ws, dx = some e ∧ H e = some (.xd ws)) ∧ rIsE M.K C a xs H Q, fun Y hY => ?_, hp, cv, u, b, rfl, h2, h5, q⟩
        obtain ⟨Z, oe, pn, rfl, hK, hm, hz, hf⟩ := hZ Y hY
        rw [← hK]
        exact call_isEx (by rw [hK]; exact hC) hz hf
      · exact absurd trivial ht
    · obtain ⟨hx, hno⟩ := F.xf cc' b hs C hc' g hg
      obtain ⟨Z, oe, pn, rfl, hK, hm, hz, hf⟩ := hZ X hX
      have q := pe_xf (X := Z) (a := a) (C := C) (pos := ep) (n := g) (by rw [hK]; exact hx) (by rw [hK]; exact hno) hz hf (pe_wider (pe_w (e := e) hX)) (supId hse _ _ _)
      exact ⟨fun pins s σ H Q I h => q.run pins s σ H Q I ⟨_, fun v H1 z => ⟨z.1, rfl, z.2⟩, h⟩⟩
  top := by rintro _ X rfl; exact ⟨rfl, rfl⟩
  xn := fun _ => F.x
  exv := F.exv
  exm := fun cc C b hs D hD => by
    obtain ⟨_, cv, u, _, _, h3, h4, _⟩ := F.xc cc C b hs D hD
    exact ⟨u, h3, h4⟩
  ex0 := fun C hC => by
    obtain ⟨D, h1, h2, h3, h4, h5⟩ := F.ex0 C hC
    refine ⟨D, h1, fun X hK hm hg hdb m j ep ep2 pos => ?_⟩
    exact pmk_own PySem.F.excBase_ValueError (by rw [hK]; exact h2) (by rw [hm]; exact h1) (by rw [hK]; exact h3) (raises_own (by rw [hK]; exact h4) (by rw [hK]; exact h5)) hg hdb
  ex1 := fun C fs hC => by
    obtain ⟨D, h1, h2⟩ := F.ex1 C fs hC
    refine ⟨D, h1, fun X a1 a2 a3 a4 a5 ⟨Y, hY, a6⟩ => h2 X a1 a2 a3 a4 a5 (by rw [a6, hY]; exact hr.mono (by omega))⟩
  obj := F.obj
  cst := F.cst
  fns := fun _ f hf => by
    obtain ⟨d', hd'⟩ := Option.isSome_iff_exists.mp (F.fns f hf)
    have hm := List.mem_of_find?_eq_some hd'
    have he : d'.name = f := by have := List.find?_some hd'; simpa using this
    obtain ⟨fa, fd, h1, h2, h3, h4⟩ := hn d' hm
    have hk : d'.k ≤ d'.N.length := by
      have := F.chk d' hm
      unfold chkD at this
      simp only [Bool.and_eq_true, decide_eq_true_eq] at this
      exact this.2.2
    have hpl : d'.ps.length = d'.k := by unfold DefS.ps; rw [List.length_take]; omega
    refine ⟨n + 1, fa, fd, d'.ps, ?_, by rintro X rfl; exact hr, by rw [← he]; exact h2, h3, h4, fun ds hds => ?_⟩
    · show FnOk _ _ _ _ _ _ _ _ _ _ (spOf M _ (p.call n f))
      rw [F.call_eq hd' n]; exact h1
    · show p.call n f ds = .st
      rw [F.call_eq hd' n]
      cases n with
      | zero => rfl
      | succ n => 
        show evDef _ _ _ _ ds = _
        unfold evDef
        rw [if_neg (by rw [← hpl]; exact hds)]
theorem start_rel {G H : Hp} {ds : List D} {vs : List V} {N : List Str} (s : Same G H) (r : Reps M G ds vs) : Rel M G H (startS N.length ds) (L2.start N vs) G H where
  ext := Ext.refl s
  len := by unfold startS L2.start; simp [r.length]
  fz := fun i d e => by
    unfold startS at e
    unfold L2.start
    by_cases hi : i < ds.length
    · rw [List.getElem?_append_left (by simpa using hi), List.getElem?_map] at e
      obtain ⟨d', e1, e2⟩ := Option.map_eq_some_iff.mp e
      cases e2
      obtain ⟨v, e3, e4⟩ := r.get e1
      exact ⟨v, by rw [List.getElem?_append_left (by simpa [r.length] using hi), List.getElem?_map, e3]; rfl, e4⟩
    · rw [List.getElem?_append_right (by simpa using Nat.le_of_not_lt hi)] at e
      have := List.mem_of_getElem? e
      rw [List.mem_replicate] at this
      cases this.2
  ow := fun i o e => by
    exfalso
    have := List.mem_of_getElem? e
    unfold startS at this
    rcases List.mem_append.mp this with h | h
    · obtain ⟨_, _, z⟩ := List.mem_map.mp h; cases z
    · rw [List.mem_replicate] at h; cases h.2
  xc := fun i c fs e => by
    exfalso
    have := List.mem_of_getElem? e
    unfold startS at this
    rcases List.mem_append.mp this with h | h
    · obtain ⟨_, _, z⟩ := List.mem_map.mp h; cases z
    · rw [List.mem_replicate] at h; cases h.2
  ap := fun i j oi oj q e => by
    exfalso
    have := List.mem_of_getElem? e
    unfold startS at this
    rcases List.mem_append.mp this with h | h
    · obtain ⟨_, _, z⟩ := List.mem_map.mp h; cases z
    · rw [List.mem_replicate] at h; cases h.2
theorem body_ok {Q : VK} {E : XK} {G H : Hp} {x : RS} (h : GOk M E G H (EvV M G H Q) (match x with
    | .ok (.nx _) => R.ok (EV.fz .non)
    | .ok (.rt v) => .ok v
    | .ex c fs _ => .ex c fs
    | _ => .st)) : SOk M (fun cls d _ H' => E cls d H') G H { nx := fun _ H' => Q .non H', rt := Q } x := by
  cases x with
  | st => exact h.elim
  | ex c fs ρ => exact fun cls d σ G' H' r q => h cls d G' H' r.ext q
  | ok f =>
    cases f with
    | nx ρ => exact fun σ G' H' r => h _ G' H' r.ext Rep.non
    | rt v => exact h
    | bk ρ => exact h.elim
    | ct ρ => exact h.elim
/-- one def, of which the depth below is known -/
theorem Fx.one (F : Fx p nm M) {n : Nat} (hn : ∀ d, d ∈ p.defs → ∃ fa fd, FnOk M.P M.w M.K M.mg M.base (L2.CX M.P M.w) (n + 1) fa fd d.ps (spOf M d.ps.length (p.val d n)) ∧ M.mg d.name = some (.ref fa) ∧ PySem.W.keepIn M.K (.ref fa) = true ∧ Binds M.K fd d.ps [])
    {d : DefS} (hd : d ∈ p.defs) {fa : Addr} {fd : FuncData} (h1 : FunD M.K d.name d.name (defArgs d.st) (defBody d.st) (defScope d.st) [] [] fa fd) :
    FnOk M.P M.w M.K M.mg M.base (L2.CX M.P M.w) (n + 2) fa fd d.ps (spOf M d.ps.length (p.val d (n + 1))) := by
  have hc := F.chk d hd
  unfold chkD at hc
  simp only [Bool.and_eq_true, decide_eq_true_eq] at hc
  obtain ⟨hc1, hc2, hc3⟩ := hc
  have S := scB_ok hc2
  refine FunD.ok h1 S (fun vs H Q E h => h.1) (fun cdv A outer s H vs Q E hr h => ?_)
  obtain ⟨hl, G, ds, sm, r, h⟩ := h
  have kx := F.kx hn hd S (f := fa) (cdv := cdv) (outer := outer) (H := H) (E := E) hr
  have hpl : d.ps.length = d.k := by unfold DefS.ps; rw [List.length_take]; omega
  have h' : GOk M E G H (EvV M G H Q) (evDef (p.tb n) d.N.length d.k d.body ds) := h
  unfold evDef at h'
  rw [if_pos (by rw [← r.length, hl, hpl])] at h'
  refine ⟨_, ?_, sndSs d.body kx _ hc1 (start_rel sm r) (body_ok h')⟩
  exact pss_w (Xs := fun X => X = cxOf (L2.CX M.P M.w) M.P M.w M.K M.mg M.base d.N d.name (defScope d.st) fa cdv A outer s H E) rfl
/-- THE RULE: every def of the program keeps its promise, at every depth of calls -/
theorem Fx.all (F : Fx p nm M) : ∀ n, ∀ d, d ∈ p.defs → ∃ fa fd, FnOk M.P M.w M.K M.mg M.base (L2.CX M.P M.w) (n + 1) fa fd d.ps (spOf M d.ps.length (p.val d n)) ∧ M.mg d.name = some (.ref fa) ∧ PySem.W.keepIn M.K (.ref fa) = true ∧ Binds M.K fd d.ps []
  | 0, d, hd => by
    obtain ⟨fa, fd, h1, h2, h3⟩ := F.fd d hd
    exact ⟨fa, fd, ⟨fun vs H Q E h => h.1, fun A outer s H args us vs Q E hr e0 hb hv h => by
      obtain ⟨_, G, ds, _, _, z⟩ := h
      exact z.elim⟩, h2, h1.kp, h3⟩
  | n + 1, d, hd => by
    obtain ⟨fa, fd, h1, h2, h3⟩ := F.fd d hd
    exact ⟨fa, fd, F.one (Fx.all F n) hd h1, h2, h1.kp, h3⟩
end
/-- exceptions told more weakly -/
theorem fnok_cx {P : Program} {w : World} {K : PySem.W.Frag} {mg : Str → Option Value} {base : Heap} {CX CX' : CXT} {k : Nat} {f : Addr} {fd : FuncData} {ps : List Str} {sp : Sp} (F : FnOk P w K mg base CX k f fd ps sp)
    (h : ∀ outer H s E u s', CX outer H s E u s' → CX' outer H s E u s') : FnOk P w K mg base CX' k f fd ps sp :=
  ⟨F.len, fun A outer s H args us vs Q E hr e0 hb hv hs => codeAny_mono (F.run A outer s H args us vs Q E hr e0 hb hv hs) fun r s' q => by
    cases r with
    | error e => exact h _ _ _ _ _ _ q
    | ok fl => cases fl <;> exact q⟩
/-- some exception is wished for -/
def CXs : CXT := fun _ _ _ E _ _ => ∃ cls d H, E cls d H
theorem cxs_of {P : Program} {w : World} : ∀ outer H s E u s', L2.CX P w outer H s E u s' → CXs outer H s E u s' := fun outer H s E u s' h => by
  obtain ⟨_, _, _, _, _, _, _, _, _, _, _, _, z⟩ := h
  exact ⟨_, _, _, z⟩
end PX

set_option Elab.async false
set_option linter.all false
set_option maxRecDepth 100000
set_option maxHeartbeats 4000000
/-! Px15: what the head has to say of the program's names, as one Bool. -/
namespace PX
open PySem PySem.Spec PyProof.Rows L2

/-- the tables of a program: names that are free, constants, exception classes (class, class, is it below) -/
structure Hd where
  bl : List Str
  gl : Bool
  cs : List (Str × D)
  xs : List ((Str × Str) × Bool)
  ex0 : List Str
  xfl : List Str
  oc : List Str
  flds : List Str
def gvB (K : PySem.W.Frag) (x : Str) (v : Value) : Bool := He.eqO (PySem.W.nsIn K mainGlobals x) (some (some v))
def gfB (K : PySem.W.Frag) (x : Str) : Bool := He.eqO (PySem.W.nsIn K mainGlobals x) (some none)
def glB (K : PySem.W.Frag) (x : Str) : Bool := gvB K x (.ref (He.ga K x))
def csB1 (K : PySem.W.Frag) (x : Str) : D → Bool
  | .int i => (He.Fa.int x i).ok K
  | .str s => (He.Fa.str x s).ok K
  | _ => false
def excB (K : PySem.W.Frag) (D : Addr) : Bool :=
  He.eqO (PySem.W.findIn K (.ref D) "__getattribute__") (some (some (.builtin "BaseException.__getattribute__"))) && (He.eqO (PySem.W.findIn K (.ref D) "__getattr__") (some none) &&
  (decide (PySem.W.subIn K (.ref D) (.type "BaseException") = some true) && (PySem.W.hasDictIn K D && (He.eqO (PySem.W.findIn K (.ref D) "__class__") (some (some (.builtin "object.__class__"))) &&
  (He.eqO (PySem.W.specialIn K (.builtin "object.__class__") "__get__") (some (some (.builtin "getset_descriptor.__get__"))) && (decide (PySem.W.takesIn K (.builtin "object.__class__") = some true) && decide (PySem.W.mroIn K D (.type "object") = some true)))))))
theorem excB_ok {K : PySem.W.Frag} {D : Addr} (h : excB K D = true) : ExcC K D := by
  unfold excB at h
  simp only [Bool.and_eq_true, decide_eq_true_eq] at h
  obtain ⟨h1, h2, h3, h4, h5, h6, h7, h8⟩ := h
  exact ⟨He.eqO_ok h1, He.eqO_ok h2, h3, h4, He.eqO_ok h5, He.eqO_ok h6, h7, h8⟩
def valB (K : PySem.W.Frag) (cc : Str) (u : Value) (b : Bool) : Bool :=
  decide (PySem.W.exmOne K (.ref (He.ga K cc)) u = some b) && decide (PySem.W.kitOne K (.ref (He.ga K cc)) u = some b)
def xcB1 (K : PySem.W.Frag) (cc C : Str) (b : Bool) : Bool :=
  glB K cc && (excB K (He.ga K cc) && ((glB K C && valB K cc (.ref (He.ga K C)) b) || (gfB K C && (decide (bootBuiltins C = some (.type C.toString)) && valB K cc (.type C.toString) b))))
def ex0B (K : PySem.W.Frag) (C : Str) : Bool := glB K C && (He.Fa.exc C).ok K
def xfB1 (K : PySem.W.Frag) (cc f : Str) : Bool := xfB K (He.ga K cc) && He.eqO (PySem.W.findIn K (.ref (He.ga K cc)) f) (some none)
def ocB1 (K : PySem.W.Frag) (cl f : Str) : Bool := glB K cl && ((He.Fa.cls cl).ok K && (He.Fa.noat cl f).ok K)
def Hd.ok (t : Hd) (fs : List Str) (K : PySem.W.Frag) : Bool :=
  fs.all (glB K) && (t.bl.all (gfB K) && ((!t.gl || (gvB K "gcd" (.builtin "math.gcd") && gvB K "lcm" (.builtin "math.lcm"))) && (t.cs.all (fun q => csB1 K q.1 q.2) &&
    (t.xs.all (fun q => xcB1 K q.1.1 q.1.2 q.2 && (!(decide (q.1.1 = q.1.2)) || t.xfl.all (xfB1 K q.1.1))) && (t.ex0.all (ex0B K) && t.oc.all fun c => t.flds.all fun f => ocB1 K c f)))))
/-- the Hook: the defs, and one Bool more -/
def defD (d : DefS) : He.DefD := ⟨(d.name, none), d.name, d.name, defArgs d.st, defBody d.st, defScope d.st, [], []⟩
abbrev AlP : Type := He.AlD × Bool
def obsP (fn : List He.DefD) (ck : PySem.W.Frag → Bool) (K : PySem.W.Frag) : AlP := (He.obsD [] fn K, ck K)
def obsPG (n : Nat) (fn : List He.DefD) (ck : PySem.W.Frag → Bool) (g : Addr → Option Obj) : AlP := obsP fn ck (He.frG g (He.asD g n))
def hookP (n : Nat) (fn : List He.DefD) (ck : PySem.W.Frag → Bool) : PySem.W.Hook where
  α := AlP
  obs := fun s => obsPG n fn ck s.heap.get?
  val := fun _ => (He.valD fn, true)
  says := fun _ h => ∃ K : PySem.W.Frag, K.In h ∧ He.SaysD [] fn K ∧ ck K = true
  of := fun _ _ e => ⟨_, He.frG_in, congrArg (fun z : AlP => z.1) e, congrArg (fun z : AlP => z.2) e⟩
  keeps := fun _ _ _ ⟨K, hK, c⟩ k => ⟨K, PySem.W.Frag.In.keeps hK k, c⟩
theorem obsPG_eq {n : Nat} {fn : List He.DefD} {ck : PySem.W.Frag → Bool} {g : Addr → Option Obj} {s : Shared} (h : ∀ a, g a = s.heap.get? a) : obsPG n fn ck g = (hookP n fn ck).obs s := by
  have e : g = s.heap.get? := funext h
  rw [e] <;> rfl
theorem lookup_in {α β : Type} [BEq α] [LawfulBEq α] {a : α} {b : β} : ∀ {l : List (α × β)}, l.lookup a = some b → (a, b) ∈ l
  | [], h => by cases h
  | (c, d) :: r, h => by
    rw [List.lookup_cons] at h
    split at h
    · rename_i e
      cases h
      rw [eq_of_beq e]; exact List.mem_cons_self
    · exact List.mem_cons_of_mem _ (lookup_in h)
section
variable {p : Prg} {nm : Nm} {t : Hd} {fs : List Str} {K : PySem.W.Frag} {h : Heap} {mg : Str → Option Value}
theorem gv_ok (X : K.In h) (G : h.Ns mainGlobals mg) {x : Str} {v : Value} (c : gvB K x v = true) : mg x = some v := PySem.W.mg_of X G (He.eqO_ok c)
theorem gf_ok (X : K.In h) (G : h.Ns mainGlobals mg) {x : Str} (c : gfB K x = true) : mg x = none := PySem.W.mg_none_of X G (He.eqO_ok c)
theorem ref_inj {a b : Addr} {x : Str} (h1 : mg x = some (.ref a)) (h2 : mg x = some (.ref b)) : a = b := by rw [h1] at h2; cases h2; rfl
/-- a program's facts out of the head's -/
theorem fx_of (X : K.In h) (G : h.Ns mainGlobals mg) (c : He.SaysD [] (p.defs.map defD) K) (c2 : t.ok (p.defs.map (·.name)) K = true) (P : Program) (w : World) (base : Heap)
    (chk : ∀ d, d ∈ p.defs → chkD nm d = true)
    (hb : ∀ d, d ∈ p.defs → ∀ (kV doc pm : Value) (an : Option Addr) (cdv ct : Value) (us : List Value), us.length = d.ps.length → bindArgs (PySem.W.fnOf d.name d.name (defArgs d.st) (defBody d.st) (defScope d.st) .none kV doc pm an cdv ct) ⟨us, []⟩ = pure (d.ps.zip us))
    (fns : ∀ f, f ∈ nm.fns → (p.defs.find? fun d => d.name == f).isSome = true)
    (bl : nm.bl = t.bl) (im : t.gl = true ∨ nm.im = []) (hcs : p.cst = fun x => t.cs.lookup x) (hxs : p.sub = fun a b => t.xs.lookup (a, b)) (hx0 : nm.ex0 = t.ex0) (hfl : nm.flds = t.flds) (hxf : nm.xfl = t.xfl) (hoc : p.oc = fun c => t.oc.contains c)
    (hxl : ∀ C, C ∈ nm.exl → ∃ b, ((C, C), b) ∈ t.xs)
    (ex1 : ∀ C fs, (C, fs) ∈ nm.ex1 → ∃ D, mg C = some (.ref D) ∧ ∀ X : Cx, X.K = K → X.mg = mg → X.prog = P → X.w = w → X.base = base → Room 1 X.A → Gl X C → (C == ("__debug__" : Str)) = false → ∀ e es p pos ta, (e :: es).all nst = true → (e :: es).length = fs.length → PA X (e :: es) ta →
      PMk X (.Call (.Name C p) (e :: es) [] pos) (fun σ H Q => ta σ H fun vs H1 => vs.length = fs.length ∧ ∀ d, H1 d = none → Q (.ref D) (some d) (upd H1 d (.xd (fs.zip vs))))) :
    Fx p nm ⟨K, mg, P, w, base, none⟩ := by
  unfold Hd.ok at c2
  simp only [Bool.and_eq_true, List.all_eq_true, Bool.or_eq_true, Bool.not_eq_true', decide_eq_false_iff_not] at c2
  obtain ⟨k1, k2, k3, k4, k5, k6, k7⟩ := c2
  have gl : ∀ {x : Str}, glB K x = true → mg x = some (.ref (He.ga K x)) := fun {x} q => gv_ok X G q
  refine ⟨rfl, chk, fun d hd => ?_, fns, fun x hx => gf_ok X G (k2 x (bl ▸ hx)), fun hx => ?_, fun hx => ?_, fun x d hx => ?_, fun cl C f h1 h2 h3 => ?_, fun cc C b h1 D h2 => ?_, fun cc b h1 D h2 f hf => ?_, fun C hC => ?_, fun C hC => ?_, ex1⟩
  · obtain ⟨i, hi, e⟩ := List.mem_iff_getElem.mp hd
    obtain ⟨fd, F⟩ := c.def_ i (d := defD d) (by rw [List.getElem?_map, List.getElem?_eq_getElem hi, e]; rfl)
    have F : FunD K d.name d.name (defArgs d.st) (defBody d.st) (defScope d.st) [] [] (He.ga K d.name) fd := F
    exact ⟨He.ga K d.name, fd, F, gl (k1 _ (List.mem_map.mpr ⟨d, hd, rfl⟩)), F.bindsN (hb d hd)⟩
  · rcases im with im | im
    · rcases k3 with k3 | k3
      · rw [im] at k3; cases k3
      · exact gv_ok X G k3.1
    · rw [im] at hx; cases hx
  · rcases im with im | im
    · rcases k3 with k3 | k3
      · rw [im] at k3; cases k3
      · exact gv_ok X G k3.2
    · rw [im] at hx; cases hx
  · rw [hcs] at hx
    have q := k4 _ (lookup_in hx)
    cases d with
    | int i =>
      obtain ⟨tk, e⟩ := He.int_ok X G (show (He.Fa.int x i).ok K = true from q)
      exact ⟨_, .int i, e, ⟨tk, rfl⟩, fun _ => Rep.int⟩
    | str s =>
      obtain ⟨tk, e⟩ := He.str_ok X G (show (He.Fa.str x s).ok K = true from q)
      exact ⟨_, .str s, e, ⟨tk, rfl⟩, fun _ => Rep.str⟩
    | _ => cases q
  · rw [hoc] at h1
    have h2 : mg cl = some (.ref C) := h2
    have q := k7 cl (by simpa using h1) f (hfl ▸ h3)
    unfold ocB1 at q
    simp only [Bool.and_eq_true] at q
    obtain ⟨q1, q2, q3⟩ := q
    obtain rfl := ref_inj h2 (gl q1)
    exact ⟨He.cls_ok q2, He.noat_ok q3⟩
  · rw [hxs] at h1
    have h2 : mg cc = some (.ref D) := h2
    have q := (k5 _ (lookup_in h1)).1
    unfold xcB1 at q
    simp only [Bool.and_eq_true, Bool.or_eq_true] at q
    obtain ⟨q1, q2, q3⟩ := q
    obtain rfl := ref_inj h2 (gl q1)
    refine ⟨excB_ok q2, ?_⟩
    rcases q3 with ⟨q3, q4⟩ | ⟨q3, q4, q5⟩
    · unfold valB at q4
      simp only [Bool.and_eq_true, decide_eq_true_eq] at q4
      exact ⟨.ref (He.ga K C), _, rfl, fun u' z => z, .inl (gl q3), q4.1, q4.2⟩
    · unfold valB at q5
      simp only [Bool.and_eq_true, decide_eq_true_eq] at q4 q5
      exact ⟨.ty C.toString, _, rfl, fun u' z => z, .inr ⟨gf_ok X G q3, q4⟩, q5.1, q5.2⟩
  · rw [hxs] at h1
    have h2 : mg cc = some (.ref D) := h2
    have q := k5 _ (lookup_in h1)
    have q1 := q.1
    unfold xcB1 at q1
    simp only [Bool.and_eq_true] at q1
    obtain rfl := ref_inj h2 (gl q1.1)
    rcases q.2 with z | z
    · exact absurd rfl z
    · have z2 := z f (hxf ▸ hf)
      unfold xfB1 at z2
      rw [Bool.and_eq_true] at z2
      exact ⟨xfB_ok z2.1, He.eqO_ok z2.2⟩
  · obtain ⟨b, hb⟩ := hxl C hC
    have q := (k5 _ hb).1
    unfold xcB1 at q
    simp only [Bool.and_eq_true] at q
    exact ⟨_, .inl (gl q.1)⟩
  · have q := k6 C (hx0 ▸ hC)
    unfold ex0B at q
    rw [Bool.and_eq_true] at q
    obtain ⟨e1, e2, e3, e4⟩ := He.exc_ok q.2
    exact ⟨_, gl q.1, e1, e2, e3, e4⟩
end
/-- the law: what its evaluation gives is what the law asks -/
theorem law_sp {M : Md} {F : List D → R EV} {H : Hp} {a : Addr} {ns : List Int} (hS : SqL M.K H a (ns.map V.int)) {Q : VK} {E : XK} (hQ : ∀ H, Q (.bl true) H) (h : F [.scr ns] = .ok (.fz (.bl true))) : spOf M 1 F [.ref a] H Q E := by
  refine ⟨rfl, H, [.scr ns], Same.refl _, ?_, ?_⟩
  · unfold Reps
    exact ⟨.ref a, [], rfl, by unfold Rep; exact ⟨a, rfl, hS⟩, by unfold Reps; rfl⟩
  · rw [h]
    intro v G' H' _ r
    unfold Rep at r
    rw [r]
    exact hQ H'
/-- as walk_ofE, the script's numbers being of a million bits at most -/
theorem walk_px {l : PySem.W.OpenLaw} {n k : Nat} {q : Program} {loose : List Str} {XP : (Str → Option Value) → Heap → Prop} {YP : World → Heap → Prop} {d : DefRec} {CX : CXT} {x : Str}
    (hn : l.most = some n) (hn2 : n ≤ sizeLine) (hdf : d.params.defaults = []) (hr : Room k callerA)
    (F : ∀ (w : World) (mg : Str → Option Value) (fa : Addr) (h : Heap), YP w h → h.Ns mainGlobals mg → mg d.name = some (.ref fa) →
      ∃ (K : PySem.W.Frag) (fd : FuncData) (sp : Sp), K.In h ∧ (∀ (s : Shared) (u : Value), BindsTo s fd ⟨[u], []⟩ [(x, u)]) ∧
        (∀ (H : Hp) (a : Addr) (ns : List Int), ns.length ≤ n → (∀ k, k ∈ ns → Builtin.Int.intBits k ≤ 1048576) → Only H → SqL K H a (ns.map V.int) → sp [.ref a] H (fun v _ => v = .bl true) fun _ _ _ => False) ∧
        ∀ base : Heap, K.In base → base.Ns mainGlobals mg → FnOk l.prog w K mg base CX k fa fd [x] sp)
    (hCX : ∀ (H : Hp) (s : Shared) (e : Value) (s' : Shared), CX [] H s (fun _ _ _ => False) e s' → False) :
    PySem.W.WalkO q loose XP YP l.row.toRowW d [] (fun f vs => PySem.call f vs) := by
  refine Att.attach_callB hn hdf fun w s₀ s₁ mg mb fa o pm cd doc a vs ns G Y ho hd hcd hmg hobj hints hlen hbits hg => ?_
  obtain ⟨K, fd, sp, KX, hb, hsp, hF⟩ := F w mg fa _ Y G.T.g hmg
  have hl2 := Nat.le_trans hlen hn2
  exact law_call KX G.T.g G.T.b G.T.builtins G.T.nolimit hg hobj hints hl2 hr hF hb (fun H hO hS => hsp H a ns hlen hbits hO hS)
    fun H e s' => hCX H s₁ e s'
/-- the law's part of the head: what walk_ofE asks -/
theorem law_walk {p : Prg} {nm : Nm} {P : Program} {K : PySem.W.Frag} {h : Heap} {mg : Str → Option Value} {w : World} {d : DefS} {i n m : Nat} {x : Str} {fa : Addr} (X : K.In h) (G : h.Ns mainGlobals mg) (c : He.SaysD [] (p.defs.map defD) K)
    (hi : p.defs[i]? = some d) (hx : d.ps = [x]) (hg : glB K d.name = true) (hfa : mg d.name = some (.ref fa)) (hF : ∀ base : Heap, K.In base → base.Ns mainGlobals mg → Fx p nm ⟨K, mg, P, w, base, none⟩)
    (hb : ∀ (kV doc pm : Value) (an : Option Addr) (cdv ct : Value) (us : List Value), us.length = d.ps.length → bindArgs (PySem.W.fnOf d.name d.name (defArgs d.st) (defBody d.st) (defScope d.st) .none kV doc pm an cdv ct) ⟨us, []⟩ = pure (d.ps.zip us))
    (hlaw : ∀ ns : List Int, ns.length ≤ m → (∀ k, k ∈ ns → Builtin.Int.intBits k ≤ 1048576) → p.val d (n + 1) [.scr ns] = .ok (.fz (.bl true))) :
    ∃ (K : PySem.W.Frag) (fd : FuncData) (sp : Sp), K.In h ∧ (∀ (s : Shared) (u : Value), BindsTo s fd ⟨[u], []⟩ [(x, u)]) ∧
      (∀ (H : Hp) (a : Addr) (ns : List Int), ns.length ≤ m → (∀ k, k ∈ ns → Builtin.Int.intBits k ≤ 1048576) → Only H → SqL K H a (ns.map V.int) → sp [.ref a] H (fun v _ => v = .bl true) fun _ _ _ => False) ∧
      ∀ base : Heap, K.In base → base.Ns mainGlobals mg → FnOk P w K mg base CXs (n + 2) fa fd [x] sp := by
  obtain ⟨fd, F⟩ := c.def_ i (d := defD d) (by rw [List.getElem?_map, hi]; rfl)
  have F : FunD K d.name d.name (defArgs d.st) (defBody d.st) (defScope d.st) [] [] (He.ga K d.name) fd := F
  have e := ref_inj hfa (gv_ok X G hg)
  subst e
  refine ⟨K, fd, fun vs H Q _ => ∃ (a : Addr) (ns : List Int), vs = [.ref a] ∧ (ns.length ≤ m ∧ ∀ k, k ∈ ns → Builtin.Int.intBits k ≤ 1048576) ∧ SqL K H a (ns.map V.int) ∧ ∀ H', Q (.bl true) H', X, fun s u => ?_, fun H a ns hl hk _ hS => ⟨a, ns, rfl, ⟨hl, hk⟩, hS, fun _ => rfl⟩, fun base KX GX => ?_⟩
  · have q := FunD.bindsA (ps := d.ps) F hb s [u] (by rw [hx]; rfl)
    rw [hx] at q
    exact q
  · have Z := hF base KX GX
    have q := Z.one (Z.all n) (List.mem_of_getElem? hi) F
    rw [hx] at q
    have q2 : FnOk P w K mg base (L2.CX P w) (n + 2) (He.ga K d.name) fd [x] (spOf ⟨K, mg, P, w, base, none⟩ 1 (p.val d (n + 1))) := q
    refine fnok_cx (q2.imp fun vs H Q E z => ?_) cxs_of
    obtain ⟨a, ns, rfl, hl, hS, hQ⟩ := z
    exact law_sp (M := ⟨K, mg, P, w, base, none⟩) hS hQ (hlaw ns hl.1 hl.2)
end PX

set_option Elab.async false
set_option linter.all false
set_option maxRecDepth 100000
/-! Bx: bodies. -/
namespace Bx
open PySem PySem.Spec PX
/-- ratio: 3 slots, 2 parameters -/
def ratio : List S := [
  .iff (.cmp .Eq (.var 1) (.int 0)) [.rais "ZeroBottom" [] [] []] [] [1],
  .iff (.cmp .Lt (.var 1) (.int 0)) [.par 0 1 (.neg (.var 0)) (.neg (.var 1)) [0, 1]] [] [1],
  .asg (.nm 2) (.bi .gcd [.var 0, .var 1]) [0, 1],
  .iff (.cmp .Eq (.var 2) (.var 1)) [.ret (.bin .FloorDiv (.var 0) (.var 2)) [0, 2]] [] [1, 2],
  .ret (.tup [.bin .FloorDiv (.var 0) (.var 2), .bin .FloorDiv (.var 1) (.var 2)]) [0, 1, 2]]
/-- is_whole: 1 slots, 1 parameters -/
def is_whole : List S := [
  .ret (.nt (.bi .isI [.var 0, .tyn "tuple" "tuple"])) [0]]
/-- top_of: 1 slots, 1 parameters -/
def top_of : List S := [
  .iff (.bi .isI [.var 0, .tyn "tuple" "tuple"]) [.ret (.ix (.var 0) (.int 0)) [0]] [] [0],
  .retv 0]
/-- bottom_of: 1 slots, 1 parameters -/
def bottom_of : List S := [
  .iff (.bi .isI [.var 0, .tyn "tuple" "tuple"]) [.ret (.ix (.var 0) (.int 1)) [0]] [] [0],
  .ret (.int 1) []]
/-- plus: 2 slots, 2 parameters -/
def plus : List S := [
  .iff (.and (.call "is_whole" [.var 0]) (.call "is_whole" [.var 1])) [.ret (.bin .Add (.var 0) (.var 1)) [0, 1]] [] [0, 1],
  .ret (.call "ratio" [.bin .Add (.bin .Mult (.call "top_of" [.var 0]) (.call "bottom_of" [.var 1])) (.bin .Mult (.call "top_of" [.var 1]) (.call "bottom_of" [.var 0])), .bin .Mult (.call "bottom_of" [.var 0]) (.call "bottom_of" [.var 1])]) [0, 1]]
/-- minus: 2 slots, 2 parameters -/
def minus : List S := [
  .iff (.and (.call "is_whole" [.var 0]) (.call "is_whole" [.var 1])) [.ret (.bin .Sub (.var 0) (.var 1)) [0, 1]] [] [0, 1],
  .ret (.call "ratio" [.bin .Sub (.bin .Mult (.call "top_of" [.var 0]) (.call "bottom_of" [.var 1])) (.bin .Mult (.call "top_of" [.var 1]) (.call "bottom_of" [.var 0])), .bin .Mult (.call "bottom_of" [.var 0]) (.call "bottom_of" [.var 1])]) [0, 1]]
/-- times: 2 slots, 2 parameters -/
def times : List S := [
  .iff (.and (.call "is_whole" [.var 0]) (.call "is_whole" [.var 1])) [.ret (.bin .Mult (.var 0) (.var 1)) [0, 1]] [] [0, 1],
  .ret (.call "ratio" [.bin .Mult (.call "top_of" [.var 0]) (.call "top_of" [.var 1]), .bin .Mult (.call "bottom_of" [.var 0]) (.call "bottom_of" [.var 1])]) [0, 1]]
/-- over: 2 slots, 2 parameters -/
def over : List S := [
  .iff (.cmp .Eq (.call "top_of" [.var 1]) (.int 0)) [.rais "ZeroBottom" [] [] []] [] [1],
  .ret (.call "ratio" [.bin .Mult (.call "top_of" [.var 0]) (.call "bottom_of" [.var 1]), .bin .Mult (.call "bottom_of" [.var 0]) (.call "top_of" [.var 1])]) [0, 1]]
/-- less: 2 slots, 2 parameters -/
def less : List S := [
  .ret (.cmp .Lt (.bin .Mult (.call "top_of" [.var 0]) (.call "bottom_of" [.var 1])) (.bin .Mult (.call "top_of" [.var 1]) (.call "bottom_of" [.var 0]))) [0, 1]]
/-- floor_of: 1 slots, 1 parameters -/
def floor_of : List S := [
  .ret (.bin .FloorDiv (.call "top_of" [.var 0]) (.call "bottom_of" [.var 0])) [0]]
/-- ceiling_of: 1 slots, 1 parameters -/
def ceiling_of : List S := [
  .ret (.neg (.bin .FloorDiv (.neg (.call "top_of" [.var 0])) (.call "bottom_of" [.var 0]))) [0]]
/-- nearest: 1 slots, 1 parameters -/
def nearest : List S := [
  .ret (.bin .FloorDiv (.bin .Add (.bin .Mult (.int 2) (.call "top_of" [.var 0])) (.call "bottom_of" [.var 0])) (.bin .Mult (.int 2) (.call "bottom_of" [.var 0]))) [0]]
def common_bottom_b1 : List S := [.asg (.nm 1) (.bi .lcm [.var 1, .call "bottom_of" [.var 2]]) [1, 2]]
/-- common_bottom: 3 slots, 1 parameters -/
def common_bottom : List S := [
  .asg (.nm 1) (.int 1) [],
  .for (.nm 2) .val [.var 0] Bx.common_bottom_b1 [0],
  .retv 1]
def least_of_b1 : List S := [.iff (.or (.cmp .Is (.var 1) (.non)) (.call "less" [.var 2, .var 1])) [.asg (.nm 1) (.var 2) [2]] [] [1, 2]]
/-- least_of: 3 slots, 1 parameters -/
def least_of : List S := [
  .asg (.nm 1) (.non) [],
  .for (.nm 2) .val [.var 0] Bx.least_of_b1 [0],
  .retv 1]
def greatest_of_b1 : List S := [.iff (.or (.cmp .Is (.var 1) (.non)) (.call "less" [.var 1, .var 2])) [.asg (.nm 1) (.var 2) [2]] [] [1, 2]]
/-- greatest_of: 3 slots, 1 parameters -/
def greatest_of : List S := [
  .asg (.nm 1) (.non) [],
  .for (.nm 2) .val [.var 0] Bx.greatest_of_b1 [0],
  .retv 1]
/-- number_text: 1 slots, 1 parameters -/
def number_text : List S := [
  .iff (.call "is_whole" [.var 0]) [.ret (.bi .str [.var 0]) [0]] [] [0],
  .ret (.fst [.ix (.var 0) (.int 0), .str "/", .ix (.var 0) (.int 1)]) [0]]
def read_numeral_b1 : List S := [.iff (.cmp .NotIn (.var 1) (.glb "DIGITS")) [.rais "BadText" [] [] []] [] [1]]
/-- read_numeral: 2 slots, 1 parameters -/
def read_numeral : List S := [
  .iff (.or (.cmp .Eq (.var 0) (.str "")) (.cmp .Gt (.bi .len [.var 0]) (.glb "MOST_DIGITS"))) [.rais "BadText" [] [] []] [] [0],
  .for (.nm 1) .val [.var 0] Bx.read_numeral_b1 [0],
  .ret (.bi .int [.var 0]) [0]]
/-- read_number: 8 slots, 1 parameters -/
def read_number : List S := [
  .asg (.nm 1) (.ite (.cmp .Eq (.sl (.var 0) (.non) (.int 1)) (.str "-")) (.sl (.var 0) (.int 1) (.non)) (.var 0)) [0],
  .asg (.tp [2, 3, 4]) (.me .part (.var 1) [.str "/"]) [1],
  .asg (.nm 5) (.call "read_numeral" [.var 2]) [2],
  .asg (.nm 6) (.ite (.cmp .Eq (.var 3) (.str "/")) (.call "read_numeral" [.var 4]) (.int 1)) [3, 4],
  .iff (.cmp .Eq (.var 6) (.int 0)) [.rais "BadText" [] [] []] [] [6],
  .asg (.nm 7) (.call "ratio" [.ite (.cmp .Eq (.sl (.var 0) (.non) (.int 1)) (.str "-")) (.neg (.var 5)) (.var 5), .var 6]) [0, 5, 6],
  .iff (.cmp .NotEq (.call "number_text" [.var 7]) (.var 0)) [.rais "BadText" [] [] []] [] [0, 7],
  .retv 7]
end Bx

set_option Elab.async false
set_option linter.all false
set_option maxRecDepth 100000
/-! Bl: bodies of helpers of the laws. -/
namespace Bl
open PySem PySem.Spec PX
def _law_numbers_b1 : List S := [.app 4 (.bin .Mod (.bi .int [.var 3]) (.int 10007)) [3], .asg (.nm 3) (.bin .FloorDiv (.var 3) (.int 10007)) [3]]
def _law_numbers_b2 : List S := [.asg (.nm 6) (.bin .Mod (.bi .int [.bin .Add (.bin .Add (.bin .Mult (.var 3) (.int 48271)) (.bin .Mult (.int 69621) (.var 5))) (.int 11)]) (.int 2147483647)) [3, 5], .app 4 (.bin .Mod (.bi .int [.bin .Add (.bin .Mult (.bin .FloorDiv (.var 6) (.int 16)) (.int 7919)) (.var 5)]) (.int 10007)) [5, 6]]
/-- _law_numbers: 7 slots, 3 parameters -/
def _law_numbers : List S := [
  .asg (.nm 3) (.bi .abs [.call "_law_cell" [.var 0, .var 1]]) [0, 1],
  .asg (.nm 4) (.ls []) [],
  .iff (.cmp .GtE (.var 3) (.bin .Pow (.int 10) (.int 18))) [.for (.nm 5) .rng [.var 2] Bl._law_numbers_b1 [2], .retv 4] [] [3],
  .for (.nm 5) .rng [.var 2] Bl._law_numbers_b2 [2],
  .retv 4]
def _law_gcd_b1 : List S := [.iff (.cmp .Eq (.var 1) (.int 0)) [.brk] [] [1], .par 0 1 (.var 1) (.bin .Mod (.bi .int [.var 0]) (.var 1)) [0, 1]]
/-- _law_gcd: 3 slots, 2 parameters -/
def _law_gcd : List S := [
  .asg (.nm 0) (.bi .abs [.var 0]) [0],
  .asg (.nm 1) (.bi .abs [.var 1]) [1],
  .for (.nm 2) .rng [.int 2000] Bl._law_gcd_b1 [],
  .retv 0]
/-- _law_make: 3 slots, 2 parameters -/
def _law_make : List S := [
  .asg (.nm 2) (.call "_law_gcd" [.var 0, .var 1]) [0, 1],
  .iff (.cmp .Lt (.var 1) (.int 0)) [.asg (.nm 2) (.neg (.var 2)) [2]] [] [1],
  .iff (.cmp .Eq (.bin .FloorDiv (.var 1) (.var 2)) (.int 1)) [.ret (.bin .FloorDiv (.var 0) (.var 2)) [0, 2]] [] [1, 2],
  .ret (.tup [.bin .FloorDiv (.var 0) (.var 2), .bin .FloorDiv (.var 1) (.var 2)]) [0, 1, 2]]
/-- _law_top: 1 slots, 1 parameters -/
def _law_top : List S := [
  .iff (.bi .isI [.var 0, .tyn "tuple" "tuple"]) [.ret (.ix (.var 0) (.int 0)) [0]] [] [0],
  .retv 0]
/-- _law_bottom: 1 slots, 1 parameters -/
def _law_bottom : List S := [
  .iff (.bi .isI [.var 0, .tyn "tuple" "tuple"]) [.ret (.ix (.var 0) (.int 1)) [0]] [] [0],
  .ret (.int 1) []]
/-- _law_is_int: 1 slots, 1 parameters -/
def _law_is_int : List S := [
  .ret (.and (.bi .isI [.var 0, .tyn "int" "int"]) (.nt (.bi .isI [.var 0, .tyn "bool" "bool"]))) [0]]
/-- _law_is_number: 1 slots, 1 parameters -/
def _law_is_number : List S := [
  .iff (.call "_law_is_int" [.var 0]) [.ret (.bl true) []] [] [0],
  .iff (.or (.nt (.bi .isI [.var 0, .tyn "tuple" "tuple"])) (.or (.cmp .NotEq (.bi .len [.var 0]) (.int 2)) (.or (.nt (.call "_law_is_int" [.ix (.var 0) (.int 0)])) (.nt (.call "_law_is_int" [.ix (.var 0) (.int 1)]))))) [.ret (.bl false) []] [] [0],
  .ret (.and (.cmp .GtE (.ix (.var 0) (.int 1)) (.int 2)) (.cmp .Eq (.call "_law_gcd" [.ix (.var 0) (.int 0), .ix (.var 0) (.int 1)]) (.int 1))) [0]]
/-- _law_cell: 2 slots, 2 parameters -/
def _law_cell : List S := [
  .iff (.cmp .Lt (.var 1) (.bi .len [.var 0])) [.ret (.ix (.var 0) (.var 1)) [0, 1]] [] [0, 1],
  .iff (.cmp .Gt (.bi .len [.var 0]) (.int 0)) [.ret (.bin .Mod (.bi .int [.bin .Add (.bin .Mult (.ix (.var 0) (.int 0)) (.int 7919)) (.bin .Mult (.int 48271) (.var 1))]) (.int 2147483647)) [0, 1]] [] [0],
  .retv 1]
/-- _law_plus: 3 slots, 2 parameters -/
def _law_plus : List S := [
  .asg (.nm 2) (.bin .Add (.bin .Mult (.call "_law_top" [.var 0]) (.call "_law_bottom" [.var 1])) (.bin .Mult (.call "_law_top" [.var 1]) (.call "_law_bottom" [.var 0]))) [0, 1],
  .ret (.call "_law_make" [.var 2, .bin .Mult (.call "_law_bottom" [.var 0]) (.call "_law_bottom" [.var 1])]) [0, 1, 2]]
/-- _law_times: 2 slots, 2 parameters -/
def _law_times : List S := [
  .ret (.call "_law_make" [.bin .Mult (.call "_law_top" [.var 0]) (.call "_law_top" [.var 1]), .bin .Mult (.call "_law_bottom" [.var 0]) (.call "_law_bottom" [.var 1])]) [0, 1]]
/-- _law_less: 2 slots, 2 parameters -/
def _law_less : List S := [
  .ret (.cmp .Lt (.bin .Mult (.call "_law_top" [.var 0]) (.call "_law_bottom" [.var 1])) (.bin .Mult (.call "_law_top" [.var 1]) (.call "_law_bottom" [.var 0]))) [0, 1]]
def _law_dot_b1 : List S := [.asg (.nm 2) (.call "_law_plus" [.var 2, .call "_law_times" [.ix (.var 0) (.var 3), .ix (.var 1) (.var 3)]]) [0, 1, 2, 3]]
/-- _law_dot: 4 slots, 2 parameters -/
def _law_dot : List S := [
  .asg (.nm 2) (.int 0) [],
  .for (.nm 3) .rng [.bi .len [.var 0]] Bl._law_dot_b1 [0],
  .retv 2]
def _law_like_b1 : List S := [.iff (.nt (.call "_law_like" [.ix (.var 0) (.var 2), .ix (.var 1) (.var 2)])) [.ret (.bl false) []] [] [0, 1, 2]]
/-- _law_like: 3 slots, 2 parameters -/
def _law_like : List S := [
  .iff (.cmp .Is (.var 1) (.non)) [.ret (.cmp .Is (.var 0) (.non)) [0]] [] [1],
  .iff (.cmp .Is (.var 1) (.bl true)) [.ret (.cmp .Is (.var 0) (.bl true)) [0]] [] [1],
  .iff (.cmp .Is (.var 1) (.bl false)) [.ret (.cmp .Is (.var 0) (.bl false)) [0]] [] [1],
  .iff (.bi .isI [.var 1, .tyn "str" "str"]) [.ret (.and (.bi .isI [.var 0, .tyn "str" "str"]) (.cmp .Eq (.var 0) (.var 1))) [0, 1]] [] [1],
  .iff (.or (.cmp .NotEq (.bi .isI [.var 1, .tyn "list" "list"]) (.bi .isI [.var 0, .tyn "list" "list"])) (.cmp .NotEq (.bi .isI [.var 1, .tyn "tuple" "tuple"]) (.bi .isI [.var 0, .tyn "tuple" "tuple"]))) [.ret (.bl false) []] [] [0, 1],
  .iff (.and (.nt (.bi .isI [.var 1, .tyn "list" "list"])) (.nt (.bi .isI [.var 1, .tyn "tuple" "tuple"]))) [.ret (.and (.call "_law_is_int" [.var 0]) (.cmp .Eq (.var 0) (.var 1))) [0, 1]] [] [1],
  .iff (.cmp .NotEq (.bi .len [.var 0]) (.bi .len [.var 1])) [.ret (.bl false) []] [] [0, 1],
  .for (.nm 2) .rng [.bi .len [.var 1]] Bl._law_like_b1 [1],
  .ret (.bl true) []]
def _law_support_t1 : List E := [.cmp .NotEq (.ix (.var 0) (.var 1)) (.int 0)]
def _law_support_e1 : E := .var 1
/-- _law_support: 2 slots, 1 parameters -/
def _law_support : List S := [
  .ret (.lc [1] (.nm 1) .rng [.bi .len [.var 0]] Bl._law_support_t1 Bl._law_support_e1) [0]]
end Bl

set_option Elab.async false
set_option linter.all false
set_option maxRecDepth 100000
set_option maxHeartbeats 0
/-! A: the defs of the law as data, their checks. -/
namespace K00
open PySem PySem.Spec PyProof.Rows L2 PX
def tp (i : Nat) : Stmt :=
  PySem.Challenge.pw_fineststep_k00_exact_numbers.main.body.getD i (.Pass ⟨0, 0, 0, 0⟩)
def d_ratio : DefS where
  name := "ratio"
  N := ["top", "bottom", "common"]
  k := 2
  body := Bx.ratio
  st := tp 8
def d_is_whole : DefS where
  name := "is_whole"
  N := ["number"]
  k := 1
  body := Bx.is_whole
  st := tp 9
def d_top_of : DefS where
  name := "top_of"
  N := ["number"]
  k := 1
  body := Bx.top_of
  st := tp 10
def d_bottom_of : DefS where
  name := "bottom_of"
  N := ["number"]
  k := 1
  body := Bx.bottom_of
  st := tp 11
def d_plus : DefS where
  name := "plus"
  N := ["x", "y"]
  k := 2
  body := Bx.plus
  st := tp 12
def d_minus : DefS where
  name := "minus"
  N := ["x", "y"]
  k := 2
  body := Bx.minus
  st := tp 13
def d_times : DefS where
  name := "times"
  N := ["x", "y"]
  k := 2
  body := Bx.times
  st := tp 14
def d_over : DefS where
  name := "over"
  N := ["x", "y"]
  k := 2
  body := Bx.over
  st := tp 15
def d_less : DefS where
  name := "less"
  N := ["x", "y"]
  k := 2
  body := Bx.less
  st := tp 16
def d_floor_of : DefS where
  name := "floor_of"
  N := ["number"]
  k := 1
  body := Bx.floor_of
  st := tp 17
def d_ceiling_of : DefS where
  name := "ceiling_of"
  N := ["number"]
  k := 1
  body := Bx.ceiling_of
  st := tp 18
def d_nearest : DefS where
  name := "nearest"
  N := ["number"]
  k := 1
  body := Bx.nearest
  st := tp 19
def d_common_bottom : DefS where
  name := "common_bottom"
  N := ["numbers", "common", "number"]
  k := 1
  body := Bx.common_bottom
  st := tp 20
def d_least_of : DefS where
  name := "least_of"
  N := ["numbers", "best", "number"]
  k := 1
  body := Bx.least_of
  st := tp 21
def d_greatest_of : DefS where
  name := "greatest_of"
  N := ["numbers", "best", "number"]
  k := 1
  body := Bx.greatest_of
  st := tp 22
def d_number_text : DefS where
  name := "number_text"
  N := ["number"]
  k := 1
  body := Bx.number_text
  st := tp 23
def d_read_numeral : DefS where
  name := "read_numeral"
  N := ["text", "char"]
  k := 1
  body := Bx.read_numeral
  st := tp 24
def d_read_number : DefS where
  name := "read_number"
  N := ["text", "body", "top_text", "slash", "bottom_text", "top", "bottom", "number"]
  k := 1
  body := Bx.read_number
  st := tp 25
def b__law_cell : List S := [
  .iff (.cmp .Lt (.var 1) (.bi .len [.var 0])) [.ret (.ix (.var 0) (.var 1)) [0, 1]] [] [0, 1],
  .ret (.int 0) []]
def d__law_cell : DefS where
  name := "_law_cell"
  N := ["_law_script", "_law_k"]
  k := 2
  body := K00.b__law_cell
  st := tp 27
def d__law_numbers : DefS where
  name := "_law_numbers"
  N := ["_law_script", "_law_k", "_law_many", "_law_cell_here", "_law_row", "_law_j", "_law_mixed"]
  k := 3
  body := Bl._law_numbers
  st := tp 28
def d__law_gcd : DefS where
  name := "_law_gcd"
  N := ["_law_one", "_law_other", "_law_k"]
  k := 2
  body := Bl._law_gcd
  st := tp 29
def d__law_make : DefS where
  name := "_law_make"
  N := ["_law_top_here", "_law_bottom_here", "_law_common"]
  k := 2
  body := Bl._law_make
  st := tp 30
def d__law_top : DefS where
  name := "_law_top"
  N := ["_law_x"]
  k := 1
  body := Bl._law_top
  st := tp 31
def d__law_bottom : DefS where
  name := "_law_bottom"
  N := ["_law_x"]
  k := 1
  body := Bl._law_bottom
  st := tp 32
def d__law_is_int : DefS where
  name := "_law_is_int"
  N := ["_law_x"]
  k := 1
  body := Bl._law_is_int
  st := tp 33
def d__law_is_number : DefS where
  name := "_law_is_number"
  N := ["_law_x"]
  k := 1
  body := Bl._law_is_number
  st := tp 34
def b__law_stands : List S := [
  .ret (.and (.call "_law_is_number" [.var 0]) (.cmp .Eq (.bin .Mult (.call "_law_top" [.var 0]) (.var 2)) (.bin .Mult (.var 1) (.call "_law_bottom" [.var 0])))) [0, 1, 2]]
def d__law_stands : DefS where
  name := "_law_stands"
  N := ["_law_x", "_law_top_here", "_law_bottom_here"]
  k := 3
  body := K00.b__law_stands
  st := tp 35
def b__law_drawn : List S := [
  .asg (.nm 3) (.bin .Sub (.ix (.var 0) (.var 1)) (.int 5003)) [0, 1],
  .iff (.var 2) [.asg (.nm 3) (.bin .Mult (.var 3) (.bin .Add (.bin .Pow (.int 10) (.int 9)) (.int 7))) [3]] [] [2],
  .ret (.call "_law_make" [.var 3, .bin .Add (.int 1) (.bin .Mod (.bi .int [.ix (.var 0) (.bin .Add (.var 1) (.int 1))]) (.int 60))]) [0, 1, 3]]
def d__law_drawn : DefS where
  name := "_law_drawn"
  N := ["_law_numbers_here", "_law_k", "_law_large", "_law_top_here"]
  k := 3
  body := K00.b__law_drawn
  st := tp 36
def b__law_no_text : List S := [
  .tri [.expr (.call "read_number" [.var 0]) [0]] "BadText" (some 1) [.ret (.and (.isE 1 "BookError") (.and (.isE 1 "ValueError") (.nt (.isE 1 "ZeroBottom")))) []],
  .ret (.bl false) []]
def d__law_no_text : DefS where
  name := "_law_no_text"
  N := ["_law_text", "_law_e"]
  k := 1
  body := K00.b__law_no_text
  st := tp 37
def b__law_no_ratio : List S := [
  .tri [.expr (.call "ratio" [.var 0, .int 0]) [0]] "ZeroBottom" (some 1) [.ret (.and (.isE 1 "BookError") (.and (.isE 1 "ValueError") (.nt (.isE 1 "BadText")))) []],
  .ret (.bl false) []]
def d__law_no_ratio : DefS where
  name := "_law_no_ratio"
  N := ["_law_top_here", "_law_e"]
  k := 1
  body := K00.b__law_no_ratio
  st := tp 38
def b__law_no_quotient : List S := [
  .tri [.expr (.call "over" [.var 0, .int 0]) [0]] "BookError" (some 1) [.ret (.isE 1 "ZeroBottom") []],
  .ret (.bl false) []]
def d__law_no_quotient : DefS where
  name := "_law_no_quotient"
  N := ["_law_x", "_law_e"]
  k := 1
  body := K00.b__law_no_quotient
  st := tp 39
def b__law_texts : List S := [
  .asg (.nm 1) (.bi .str [.call "_law_top" [.var 0]]) [0],
  .iff (.cmp .NotEq (.call "_law_bottom" [.var 0]) (.int 1)) [.asg (.nm 1) (.bin .Add (.bin .Add (.var 1) (.str "/")) (.bi .str [.call "_law_bottom" [.var 0]])) [0, 1]] [] [0],
  .asg (.nm 2) (.call "number_text" [.var 0]) [0],
  .iff (.or (.nt (.bi .isI [.var 2, .tyn "str" "str"])) (.cmp .NotEq (.var 2) (.var 1))) [.ret (.bl false) []] [] [1, 2],
  .asg (.nm 3) (.call "read_number" [.var 1]) [1],
  .ret (.and (.call "_law_is_number" [.var 3]) (.cmp .Eq (.var 3) (.var 0))) [0, 3]]
def d__law_texts : DefS where
  name := "_law_texts"
  N := ["_law_x", "_law_due", "_law_told", "_law_back"]
  k := 1
  body := K00.b__law_texts
  st := tp 40
def b__law_values : List S := [
  .asg (.nm 2) (.call "_law_top" [.var 0]) [0],
  .asg (.nm 3) (.call "_law_bottom" [.var 0]) [0],
  .asg (.nm 4) (.call "_law_top" [.var 1]) [1],
  .asg (.nm 5) (.call "_law_bottom" [.var 1]) [1],
  .iff (.or (.nt (.call "_law_stands" [.call "plus" [.var 0, .var 1], .bin .Add (.bin .Mult (.var 2) (.var 5)) (.bin .Mult (.var 4) (.var 3)), .bin .Mult (.var 3) (.var 5)])) (.nt (.call "_law_stands" [.call "minus" [.var 0, .var 1], .bin .Sub (.bin .Mult (.var 2) (.var 5)) (.bin .Mult (.var 4) (.var 3)), .bin .Mult (.var 3) (.var 5)]))) [.ret (.bl false) []] [] [0, 1, 2, 3, 4, 5],
  .iff (.nt (.call "_law_stands" [.call "times" [.var 0, .var 1], .bin .Mult (.var 2) (.var 4), .bin .Mult (.var 3) (.var 5)])) [.ret (.bl false) []] [] [0, 1, 2, 3, 4, 5],
  .iff (.and (.cmp .NotEq (.var 4) (.int 0)) (.nt (.call "_law_stands" [.call "over" [.var 0, .var 1], .bin .Mult (.var 2) (.var 5), .bin .Mult (.var 3) (.var 4)]))) [.ret (.bl false) []] [] [0, 1, 2, 3, 4, 5],
  .iff (.or (.cmp .NotEq (.cmp .Is (.call "less" [.var 0, .var 1]) (.bl true)) (.cmp .Lt (.bin .Mult (.var 2) (.var 5)) (.bin .Mult (.var 4) (.var 3)))) (.cmp .NotEq (.cmp .Is (.call "less" [.var 0, .var 1]) (.bl false)) (.cmp .GtE (.bin .Mult (.var 2) (.var 5)) (.bin .Mult (.var 4) (.var 3))))) [.ret (.bl false) []] [] [0, 1, 2, 3, 4, 5],
  .iff (.or (.nt (.call "_law_is_int" [.call "top_of" [.var 0]])) (.or (.nt (.call "_law_is_int" [.call "bottom_of" [.var 0]])) (.or (.cmp .NotEq (.call "top_of" [.var 0]) (.var 2)) (.cmp .NotEq (.call "bottom_of" [.var 0]) (.var 3))))) [.ret (.bl false) []] [] [0, 2, 3],
  .iff (.or (.cmp .NotEq (.cmp .Is (.call "is_whole" [.var 0]) (.bl true)) (.cmp .Eq (.var 3) (.int 1))) (.cmp .NotEq (.cmp .Is (.call "is_whole" [.var 0]) (.bl false)) (.cmp .NotEq (.var 3) (.int 1)))) [.ret (.bl false) []] [] [0, 3],
  .asg (.nm 6) (.call "floor_of" [.var 0]) [0],
  .asg (.nm 7) (.call "ceiling_of" [.var 0]) [0],
  .asg (.nm 8) (.call "nearest" [.var 0]) [0],
  .iff (.or (.nt (.call "_law_is_int" [.var 6])) (.or (.nt (.call "_law_is_int" [.var 7])) (.nt (.call "_law_is_int" [.var 8])))) [.ret (.bl false) []] [] [6, 7, 8],
  .iff (.or (.cmp .Gt (.bin .Mult (.var 6) (.var 3)) (.var 2)) (.or (.cmp .LtE (.bin .Mult (.bin .Add (.var 6) (.int 1)) (.var 3)) (.var 2)) (.or (.cmp .Lt (.bin .Mult (.var 7) (.var 3)) (.var 2)) (.cmp .GtE (.bin .Mult (.bin .Sub (.var 7) (.int 1)) (.var 3)) (.var 2))))) [.ret (.bl false) []] [] [2, 3, 6, 7],
  .ret (.and (.cmp .LtE (.bin .Mult (.bin .Sub (.bin .Mult (.int 2) (.var 8)) (.int 1)) (.var 3)) (.bin .Mult (.int 2) (.var 2))) (.cmp .Lt (.bin .Mult (.int 2) (.var 2)) (.bin .Mult (.bin .Add (.bin .Mult (.int 2) (.var 8)) (.int 1)) (.var 3)))) [2, 3, 8]]
def d__law_values : DefS where
  name := "_law_values"
  N := ["_law_x", "_law_y", "_law_a", "_law_b", "_law_c", "_law_e", "_law_low", "_law_high", "_law_near"]
  k := 2
  body := K00.b__law_values
  st := tp 41
def _law_lists_b1 : List S := [.asg (.nm 1) (.bin .FloorDiv (.bin .Mult (.var 1) (.call "_law_bottom" [.var 2])) (.call "_law_gcd" [.var 1, .call "_law_bottom" [.var 2]])) [1, 2]]
def _law_lists_b2 : List S := [.iff (.cmp .Lt (.bin .Mult (.call "_law_top" [.var 2]) (.call "_law_bottom" [.var 4])) (.bin .Mult (.call "_law_top" [.var 4]) (.call "_law_bottom" [.var 2]))) [.ret (.bl false) []] [] [2, 4], .iff (.cmp .Lt (.bin .Mult (.call "_law_top" [.var 5]) (.call "_law_bottom" [.var 2])) (.bin .Mult (.call "_law_top" [.var 2]) (.call "_law_bottom" [.var 5]))) [.ret (.bl false) []] [] [2, 5]]
def b__law_lists : List S := [
  .asg (.nm 1) (.int 1) [],
  .for (.nm 2) .val [.var 0] K00._law_lists_b1 [0],
  .asg (.nm 3) (.call "common_bottom" [.bi .list [.var 0]]) [0],
  .iff (.or (.nt (.call "_law_is_int" [.var 3])) (.cmp .NotEq (.var 3) (.var 1))) [.ret (.bl false) []] [] [1, 3],
  .asg (.nm 4) (.call "least_of" [.bi .list [.var 0]]) [0],
  .asg (.nm 5) (.call "greatest_of" [.bi .list [.var 0]]) [0],
  .iff (.cmp .Eq (.bi .len [.var 0]) (.int 0)) [.ret (.and (.cmp .Is (.var 4) (.non)) (.cmp .Is (.var 5) (.non))) [4, 5]] [] [0],
  .iff (.or (.nt (.call "_law_is_number" [.var 4])) (.or (.nt (.call "_law_is_number" [.var 5])) (.or (.cmp .NotIn (.var 4) (.var 0)) (.cmp .NotIn (.var 5) (.var 0))))) [.ret (.bl false) []] [] [0, 4, 5],
  .for (.nm 2) .val [.var 0] K00._law_lists_b2 [0],
  .ret (.bl true) []]
def d__law_lists : DefS where
  name := "_law_lists"
  N := ["_law_row", "_law_due", "_law_x", "_law_told", "_law_least", "_law_most"]
  k := 1
  body := K00.b__law_lists
  st := tp 42
def law_e1 : E := .call "_law_drawn" [.var 7, .bin .Mult (.int 2) (.var 9), .var 2]
def law_b1 : List S := [.iff (.nt (.call "_law_texts" [.var 10])) [.ret (.bl false) []] [] [10]]
def law_b2 : List S := [.asg (.nm 12) (.bin .Mult (.var 12) (.int 10)) [12]]
def b_law : List S := [
  .asg (.nm 1) (.call "_law_numbers" [.var 0, .int 0, .int 8]) [0],
  .asg (.nm 2) (.cmp .Eq (.bin .Mod (.bi .int [.ix (.var 1) (.int 6)]) (.int 4)) (.int 1)) [1],
  .asg (.nm 3) (.call "_law_drawn" [.var 1, .int 0, .var 2]) [1, 2],
  .asg (.nm 4) (.call "_law_drawn" [.var 1, .int 2, .and (.var 2) (.cmp .Eq (.bin .Mod (.bi .int [.ix (.var 1) (.int 6)]) (.int 3)) (.int 1))]) [1, 2],
  .asg (.nm 5) (.bin .Sub (.ix (.var 1) (.int 0)) (.int 5003)) [1],
  .asg (.nm 6) (.bin .Add (.int 1) (.bin .Mod (.bi .int [.ix (.var 1) (.int 4)]) (.int 60))) [1],
  .iff (.cmp .Eq (.bin .Mod (.bi .int [.ix (.var 1) (.int 4)]) (.int 2)) (.int 1)) [.asg (.nm 6) (.neg (.var 6)) [6]] [] [1],
  .iff (.or (.nt (.call "_law_stands" [.call "ratio" [.var 5, .var 6], .var 5, .var 6])) (.or (.nt (.call "_law_no_ratio" [.var 5])) (.nt (.call "_law_no_quotient" [.var 3])))) [.ret (.bl false) []] [] [3, 5, 6],
  .iff (.or (.nt (.call "_law_values" [.var 3, .var 4])) (.or (.nt (.call "_law_values" [.var 4, .var 3])) (.nt (.call "_law_values" [.var 3, .var 3])))) [.ret (.bl false) []] [] [3, 4],
  .asg (.nm 7) (.call "_law_numbers" [.var 0, .int 1, .int 14]) [0],
  .asg (.nm 8) (.lc [9] (.nm 9) .rng [.bin .Mod (.bi .int [.ix (.var 1) (.int 5)]) (.int 7)] [] K00.law_e1) [1, 2, 7],
  .iff (.nt (.call "_law_lists" [.var 8])) [.ret (.bl false) []] [] [8],
  .for (.nm 10) .val [.bin .Add (.var 8) (.ls [.var 3, .var 4])] K00.law_b1 [3, 4, 8],
  .asg (.nm 11) (.ls [.str "", .str "+3", .str "03", .str "-0", .str "3/1", .str "2/4", .str "1/0", .str "0/5", .str "1/-2", .str " 3", .str "3 ", .str "a", .str "-", .str "/2", .str "3/", .str "1/2/3", .str "--3"]) [],
  .asg (.nm 11) (.bin .Add (.var 11) (.ls [.str "1/02", .str "1 /2", .str "-", .str "1//2", .str "00", .str "0x1", .str "1.0", .str "3\n", .bin .Add (.str "1") (.bin .Mult (.str "0") (.int 400)), .bin .Add (.str "1/1") (.bin .Mult (.str "0") (.int 400))])) [11],
  .iff (.or (.nt (.call "_law_no_text" [.ix (.var 11) (.bin .Mod (.bi .int [.ix (.var 1) (.int 7)]) (.bi .len [.var 11]))])) (.nt (.call "_law_no_text" [.bin .Add (.call "number_text" [.var 3]) (.str "/7/9")]))) [.ret (.bl false) []] [] [1, 3, 11],
  .asg (.nm 12) (.int 1) [],
  .for (.nm 9) .rng [.int 399] K00.law_b2 [],
  .ret (.cmp .Eq (.call "read_number" [.bin .Add (.str "1") (.bin .Mult (.str "0") (.int 399))]) (.var 12)) [12]]
def d_law : DefS where
  name := "law"
  N := ["_law_script", "_law_numbers_here", "_law_large", "_law_x", "_law_y", "_law_a", "_law_b", "_law_more", "_law_row", "_law_k", "_law_z", "_law_bad", "_law_due"]
  k := 1
  body := K00.b_law
  st := tp 43
def defs : List DefS := ([d_ratio,
  d_is_whole,
  d_top_of,
  d_bottom_of,
  d_plus,
  d_minus,
  d_times,
  d_over,
  d_less,
  d_floor_of,
  d_ceiling_of,
  d_nearest,
  d_common_bottom,
  d_least_of,
  d_greatest_of,
  d_number_text,
  d_read_numeral,
  d_read_number,
  d__law_cell,
  d__law_numbers] : List DefS) ++ ([d__law_gcd,
  d__law_make,
  d__law_top,
  d__law_bottom,
  d__law_is_int,
  d__law_is_number,
  d__law_stands,
  d__law_drawn,
  d__law_no_text,
  d__law_no_ratio,
  d__law_no_quotient,
  d__law_texts,
  d__law_values,
  d__law_lists,
  d_law] : List DefS)
def nm : Nm where
  bl := ["ValueError", "abs", "all", "any", "bool", "dict", "enumerate", "int", "isinstance", "len", "list", "max", "min", "range", "reversed", "sorted", "str", "sum", "tuple", "zip"]
  im := ["gcd", "lcm"]
  fns := (["ratio", "is_whole", "top_of", "bottom_of", "plus", "minus", "times", "over", "less", "floor_of", "ceiling_of", "nearest", "common_bottom", "least_of", "greatest_of", "number_text", "read_numeral", "read_number", "_law_cell", "_law_numbers"] : List Str) ++ (["_law_gcd", "_law_make", "_law_top", "_law_bottom", "_law_is_int", "_law_is_number", "_law_stands", "_law_drawn", "_law_no_text", "_law_no_ratio", "_law_no_quotient", "_law_texts", "_law_values", "_law_lists", "law"] : List Str)
  flds := []
  xfl := []
  ex0 := ["BadText", "ZeroBottom"]
  ex1 := []
  exl := ["BadText", "BookError", "ZeroBottom"]
theorem c_ratio : chkD nm d_ratio = true := by decide +kernel
theorem c_is_whole : chkD nm d_is_whole = true := by decide +kernel
theorem c_top_of : chkD nm d_top_of = true := by decide +kernel
theorem c_bottom_of : chkD nm d_bottom_of = true := by decide +kernel
theorem c_plus : chkD nm d_plus = true := by decide +kernel
theorem c_minus : chkD nm d_minus = true := by decide +kernel
theorem c_times : chkD nm d_times = true := by decide +kernel
theorem c_over : chkD nm d_over = true := by decide +kernel
theorem c_less : chkD nm d_less = true := by decide +kernel
theorem c_floor_of : chkD nm d_floor_of = true := by decide +kernel
theorem c_ceiling_of : chkD nm d_ceiling_of = true := by decide +kernel
theorem c_nearest : chkD nm d_nearest = true := by decide +kernel
theorem c_common_bottom : chkD nm d_common_bottom = true := by decide +kernel
theorem c_least_of : chkD nm d_least_of = true := by decide +kernel
theorem c_greatest_of : chkD nm d_greatest_of = true := by decide +kernel
theorem c_number_text : chkD nm d_number_text = true := by decide +kernel
theorem c_read_numeral : chkD nm d_read_numeral = true := by decide +kernel
theorem c_read_number : chkD nm d_read_number = true := by decide +kernel
theorem c__law_cell : chkD nm d__law_cell = true := by decide +kernel
theorem c__law_numbers : chkD nm d__law_numbers = true := by decide +kernel
theorem c__law_gcd : chkD nm d__law_gcd = true := by decide +kernel
theorem c__law_make : chkD nm d__law_make = true := by decide +kernel
theorem c__law_top : chkD nm d__law_top = true := by decide +kernel
theorem c__law_bottom : chkD nm d__law_bottom = true := by decide +kernel
theorem c__law_is_int : chkD nm d__law_is_int = true := by decide +kernel
theorem c__law_is_number : chkD nm d__law_is_number = true := by decide +kernel
theorem c__law_stands : chkD nm d__law_stands = true := by decide +kernel
theorem c__law_drawn : chkD nm d__law_drawn = true := by decide +kernel
theorem c__law_no_text : chkD nm d__law_no_text = true := by decide +kernel
theorem c__law_no_ratio : chkD nm d__law_no_ratio = true := by decide +kernel
theorem c__law_no_quotient : chkD nm d__law_no_quotient = true := by decide +kernel
theorem c__law_texts : chkD nm d__law_texts = true := by decide +kernel
theorem c__law_values : chkD nm d__law_values = true := by decide +kernel
theorem c__law_lists : chkD nm d__law_lists = true := by decide +kernel
theorem c_law : chkD nm d_law = true := by decide +kernel
theorem chk : ∀ d, d ∈ defs → chkD nm d = true := fun d hd => by
  unfold defs at hd
  simp only [List.cons_append, List.nil_append, List.mem_cons, List.not_mem_nil, or_false] at hd
  rcases hd with rfl | rfl | rfl | rfl | rfl | rfl | rfl | rfl | rfl | rfl | rfl | rfl | rfl | rfl | rfl | rfl | rfl | rfl | rfl | rfl | rfl | rfl | rfl | rfl | rfl | rfl | rfl | rfl | rfl | rfl | rfl | rfl | rfl | rfl | rfl
  · exact c_ratio
  · exact c_is_whole
  · exact c_top_of
  · exact c_bottom_of
  · exact c_plus
  · exact c_minus
  · exact c_times
  · exact c_over
  · exact c_less
  · exact c_floor_of
  · exact c_ceiling_of
  · exact c_nearest
  · exact c_common_bottom
  · exact c_least_of
  · exact c_greatest_of
  · exact c_number_text
  · exact c_read_numeral
  · exact c_read_number
  · exact c__law_cell
  · exact c__law_numbers
  · exact c__law_gcd
  · exact c__law_make
  · exact c__law_top
  · exact c__law_bottom
  · exact c__law_is_int
  · exact c__law_is_number
  · exact c__law_stands
  · exact c__law_drawn
  · exact c__law_no_text
  · exact c__law_no_ratio
  · exact c__law_no_quotient
  · exact c__law_texts
  · exact c__law_values
  · exact c__law_lists
  · exact c_law
end K00

set_option Elab.async false
set_option linter.all false
set_option maxRecDepth 100000
set_option maxHeartbeats 0
/-! B: the head of the law. -/
namespace K00
open PySem PySem.Spec PyProof.Rows L2 PX
def csts : List (Str × D) :=
  ([("DIGITS", .str "0123456789"), ("MOST_DIGITS", .int 400)] : List (Str × D))
def xs : List ((Str × Str) × Bool) :=
  ([(("BadText", "BadText"), true), (("BadText", "BookError"), true), (("BadText", "ValueError"), true), (("BadText", "ZeroBottom"), false), (("BookError", "BadText"), false), (("BookError", "BookError"), true), (("BookError", "ValueError"), true), (("BookError", "ZeroBottom"), false), (("ZeroBottom", "BadText"), false), (("ZeroBottom", "BookError"), true), (("ZeroBottom", "ValueError"), true), (("ZeroBottom", "ZeroBottom"), true)] : List ((Str × Str) × Bool))
def hd : Hd where
  bl := nm.bl
  gl := true
  cs := csts
  xs := xs
  ex0 := nm.ex0
  xfl := []
  oc := []
  flds := []
def prg : Prg where
  defs := defs
  cst := fun x => hd.cs.lookup x
  sub := fun a b => hd.xs.lookup (a, b)
  oc := fun c => hd.oc.contains c
  fuel := 0
def ck (K : PySem.W.Frag) : Bool :=
  hd.ok (prg.defs.map (·.name)) K
abbrev hk : PySem.W.Hook :=
  hookP 5 (prg.defs.map defD) ck
def ob (s : PySem.W.SharedT) : AlP :=
  obsPG 5 (prg.defs.map defD) ck (HandSHeadRun.getT s)
theorem ob_eq (s : PySem.W.SharedT) : ob s = hk.obs s.abs := obsPG_eq (HandSHeadRun.getT_eq s)
def loose : List Str :=
  (["BookError", "ZeroBottom", "BadText", "DIGITS", "MOST_DIGITS", "ratio", "is_whole", "top_of", "bottom_of", "plus", "minus", "times", "over", "less", "floor_of", "ceiling_of", "nearest", "common_bottom", "least_of", "greatest_of"] : List Str) ++ (["number_text", "read_numeral", "read_number", "_law_cell", "_law_numbers", "_law_gcd", "_law_make", "_law_top", "_law_bottom", "_law_is_int", "_law_is_number", "_law_stands", "_law_drawn", "_law_no_text", "_law_no_ratio", "_law_no_quotient", "_law_texts", "_law_values", "_law_lists"] : List Str)
abbrev R : PySem.W.OpenRow :=
  PySem.W.OpenLaw.row PySem.Challenge.rw_fineststep_k00_exact_numbers
theorem run (w : World) : HandSHeadRun.RunEqI R (PySem.W.view R.prog [0, 43]) hk ob 20000 loose w := by
  unfold HandSHeadRun.RunEqI
  kernel_rfl
theorem ba_ratio (kV doc pm : Value) (an : Option Addr) (cdv ct : Value) (us : List Value) (hl : us.length = 2) :
    bindArgs (PySem.W.fnOf d_ratio.name d_ratio.name (defArgs d_ratio.st) (defBody d_ratio.st) (defScope d_ratio.st) .none kV doc pm an cdv ct) ⟨us, []⟩ = pure (d_ratio.ps.zip us) :=
  match us, hl with
  | [_, _], _ => rfl
theorem ba_is_whole (kV doc pm : Value) (an : Option Addr) (cdv ct : Value) (us : List Value) (hl : us.length = 1) :
    bindArgs (PySem.W.fnOf d_is_whole.name d_is_whole.name (defArgs d_is_whole.st) (defBody d_is_whole.st) (defScope d_is_whole.st) .none kV doc pm an cdv ct) ⟨us, []⟩ = pure (d_is_whole.ps.zip us) :=
  match us, hl with
  | [_], _ => rfl
theorem ba_top_of (kV doc pm : Value) (an : Option Addr) (cdv ct : Value) (us : List Value) (hl : us.length = 1) :
    bindArgs (PySem.W.fnOf d_top_of.name d_top_of.name (defArgs d_top_of.st) (defBody d_top_of.st) (defScope d_top_of.st) .none kV doc pm an cdv ct) ⟨us, []⟩ = pure (d_top_of.ps.zip us) :=
  match us, hl with
  | [_], _ => rfl
theorem ba_bottom_of (kV doc pm : Value) (an : Option Addr) (cdv ct : Value) (us : List Value) (hl : us.length = 1) :
    bindArgs (PySem.W.fnOf d_bottom_of.name d_bottom_of.name (defArgs d_bottom_of.st) (defBody d_bottom_of.st) (defScope d_bottom_of.st) .none kV doc pm an cdv ct) ⟨us, []⟩ = pure (d_bottom_of.ps.zip us) :=
  match us, hl with
  | [_], _ => rfl
theorem ba_plus (kV doc pm : Value) (an : Option Addr) (cdv ct : Value) (us : List Value) (hl : us.length = 2) :
    bindArgs (PySem.W.fnOf d_plus.name d_plus.name (defArgs d_plus.st) (defBody d_plus.st) (defScope d_plus.st) .none kV doc pm an cdv ct) ⟨us, []⟩ = pure (d_plus.ps.zip us) :=
  match us, hl with
  | [_, _], _ => rfl
theorem ba_minus (kV doc pm : Value) (an : Option Addr) (cdv ct : Value) (us : List Value) (hl : us.length = 2) :
    bindArgs (PySem.W.fnOf d_minus.name d_minus.name (defArgs d_minus.st) (defBody d_minus.st) (defScope d_minus.st) .none kV doc pm an cdv ct) ⟨us, []⟩ = pure (d_minus.ps.zip us) :=
  match us, hl with
  | [_, _], _ => rfl
theorem ba_times (kV doc pm : Value) (an : Option Addr) (cdv ct : Value) (us : List Value) (hl : us.length = 2) :
    bindArgs (PySem.W.fnOf d_times.name d_times.name (defArgs d_times.st) (defBody d_times.st) (defScope d_times.st) .none kV doc pm an cdv ct) ⟨us, []⟩ = pure (d_times.ps.zip us) :=
  match us, hl with
  | [_, _], _ => rfl
theorem ba_over (kV doc pm : Value) (an : Option Addr) (cdv ct : Value) (us : List Value) (hl : us.length = 2) :
    bindArgs (PySem.W.fnOf d_over.name d_over.name (defArgs d_over.st) (defBody d_over.st) (defScope d_over.st) .none kV doc pm an cdv ct) ⟨us, []⟩ = pure (d_over.ps.zip us) :=
  match us, hl with
  | [_, _], _ => rfl
theorem ba_less (kV doc pm : Value) (an : Option Addr) (cdv ct : Value) (us : List Value) (hl : us.length = 2) :
    bindArgs (PySem.W.fnOf d_less.name d_less.name (defArgs d_less.st) (defBody d_less.st) (defScope d_less.st) .none kV doc pm an cdv ct) ⟨us, []⟩ = pure (d_less.ps.zip us) :=
  match us, hl with
  | [_, _], _ => rfl
theorem ba_floor_of (kV doc pm : Value) (an : Option Addr) (cdv ct : Value) (us : List Value) (hl : us.length = 1) :
    bindArgs (PySem.W.fnOf d_floor_of.name d_floor_of.name (defArgs d_floor_of.st) (defBody d_floor_of.st) (defScope d_floor_of.st) .none kV doc pm an cdv ct) ⟨us, []⟩ = pure (d_floor_of.ps.zip us) :=
  match us, hl with
  | [_], _ => rfl
theorem ba_ceiling_of (kV doc pm : Value) (an : Option Addr) (cdv ct : Value) (us : List Value) (hl : us.length = 1) :
    bindArgs (PySem.W.fnOf d_ceiling_of.name d_ceiling_of.name (defArgs d_ceiling_of.st) (defBody d_ceiling_of.st) (defScope d_ceiling_of.st) .none kV doc pm an cdv ct) ⟨us, []⟩ = pure (d_ceiling_of.ps.zip us) :=
  match us, hl with
  | [_], _ => rfl
theorem ba_nearest (kV doc pm : Value) (an : Option Addr) (cdv ct : Value) (us : List Value) (hl : us.length = 1) :
    bindArgs (PySem.W.fnOf d_nearest.name d_nearest.name (defArgs d_nearest.st) (defBody d_nearest.st) (defScope d_nearest.st) .none kV doc pm an cdv ct) ⟨us, []⟩ = pure (d_nearest.ps.zip us) :=
  match us, hl with
  | [_], _ => rfl
theorem ba_common_bottom (kV doc pm : Value) (an : Option Addr) (cdv ct : Value) (us : List Value) (hl : us.length = 1) :
    bindArgs (PySem.W.fnOf d_common_bottom.name d_common_bottom.name (defArgs d_common_bottom.st) (defBody d_common_bottom.st) (defScope d_common_bottom.st) .none kV doc pm an cdv ct) ⟨us, []⟩ = pure (d_common_bottom.ps.zip us) :=
  match us, hl with
  | [_], _ => rfl
theorem ba_least_of (kV doc pm : Value) (an : Option Addr) (cdv ct : Value) (us : List Value) (hl : us.length = 1) :
    bindArgs (PySem.W.fnOf d_least_of.name d_least_of.name (defArgs d_least_of.st) (defBody d_least_of.st) (defScope d_least_of.st) .none kV doc pm an cdv ct) ⟨us, []⟩ = pure (d_least_of.ps.zip us) :=
  match us, hl with
  | [_], _ => rfl
theorem ba_greatest_of (kV doc pm : Value) (an : Option Addr) (cdv ct : Value) (us : List Value) (hl : us.length = 1) :
    bindArgs (PySem.W.fnOf d_greatest_of.name d_greatest_of.name (defArgs d_greatest_of.st) (defBody d_greatest_of.st) (defScope d_greatest_of.st) .none kV doc pm an cdv ct) ⟨us, []⟩ = pure (d_greatest_of.ps.zip us) :=
  match us, hl with
  | [_], _ => rfl
theorem ba_number_text (kV doc pm : Value) (an : Option Addr) (cdv ct : Value) (us : List Value) (hl : us.length = 1) :
    bindArgs (PySem.W.fnOf d_number_text.name d_number_text.name (defArgs d_number_text.st) (defBody d_number_text.st) (defScope d_number_text.st) .none kV doc pm an cdv ct) ⟨us, []⟩ = pure (d_number_text.ps.zip us) :=
  match us, hl with
  | [_], _ => rfl
theorem ba_read_numeral (kV doc pm : Value) (an : Option Addr) (cdv ct : Value) (us : List Value) (hl : us.length = 1) :
    bindArgs (PySem.W.fnOf d_read_numeral.name d_read_numeral.name (defArgs d_read_numeral.st) (defBody d_read_numeral.st) (defScope d_read_numeral.st) .none kV doc pm an cdv ct) ⟨us, []⟩ = pure (d_read_numeral.ps.zip us) :=
  match us, hl with
  | [_], _ => rfl
theorem ba_read_number (kV doc pm : Value) (an : Option Addr) (cdv ct : Value) (us : List Value) (hl : us.length = 1) :
    bindArgs (PySem.W.fnOf d_read_number.name d_read_number.name (defArgs d_read_number.st) (defBody d_read_number.st) (defScope d_read_number.st) .none kV doc pm an cdv ct) ⟨us, []⟩ = pure (d_read_number.ps.zip us) :=
  match us, hl with
  | [_], _ => rfl
theorem ba__law_cell (kV doc pm : Value) (an : Option Addr) (cdv ct : Value) (us : List Value) (hl : us.length = 2) :
    bindArgs (PySem.W.fnOf d__law_cell.name d__law_cell.name (defArgs d__law_cell.st) (defBody d__law_cell.st) (defScope d__law_cell.st) .none kV doc pm an cdv ct) ⟨us, []⟩ = pure (d__law_cell.ps.zip us) :=
  match us, hl with
  | [_, _], _ => rfl
theorem ba__law_numbers (kV doc pm : Value) (an : Option Addr) (cdv ct : Value) (us : List Value) (hl : us.length = 3) :
    bindArgs (PySem.W.fnOf d__law_numbers.name d__law_numbers.name (defArgs d__law_numbers.st) (defBody d__law_numbers.st) (defScope d__law_numbers.st) .none kV doc pm an cdv ct) ⟨us, []⟩ = pure (d__law_numbers.ps.zip us) :=
  match us, hl with
  | [_, _, _], _ => rfl
theorem ba__law_gcd (kV doc pm : Value) (an : Option Addr) (cdv ct : Value) (us : List Value) (hl : us.length = 2) :
    bindArgs (PySem.W.fnOf d__law_gcd.name d__law_gcd.name (defArgs d__law_gcd.st) (defBody d__law_gcd.st) (defScope d__law_gcd.st) .none kV doc pm an cdv ct) ⟨us, []⟩ = pure (d__law_gcd.ps.zip us) :=
  match us, hl with
  | [_, _], _ => rfl
theorem ba__law_make (kV doc pm : Value) (an : Option Addr) (cdv ct : Value) (us : List Value) (hl : us.length = 2) :
    bindArgs (PySem.W.fnOf d__law_make.name d__law_make.name (defArgs d__law_make.st) (defBody d__law_make.st) (defScope d__law_make.st) .none kV doc pm an cdv ct) ⟨us, []⟩ = pure (d__law_make.ps.zip us) :=
  match us, hl with
  | [_, _], _ => rfl
theorem ba__law_top (kV doc pm : Value) (an : Option Addr) (cdv ct : Value) (us : List Value) (hl : us.length = 1) :
    bindArgs (PySem.W.fnOf d__law_top.name d__law_top.name (defArgs d__law_top.st) (defBody d__law_top.st) (defScope d__law_top.st) .none kV doc pm an cdv ct) ⟨us, []⟩ = pure (d__law_top.ps.zip us) :=
  match us, hl with
  | [_], _ => rfl
theorem ba__law_bottom (kV doc pm : Value) (an : Option Addr) (cdv ct : Value) (us : List Value) (hl : us.length = 1) :
    bindArgs (PySem.W.fnOf d__law_bottom.name d__law_bottom.name (defArgs d__law_bottom.st) (defBody d__law_bottom.st) (defScope d__law_bottom.st) .none kV doc pm an cdv ct) ⟨us, []⟩ = pure (d__law_bottom.ps.zip us) :=
  match us, hl with
  | [_], _ => rfl
theorem ba__law_is_int (kV doc pm : Value) (an : Option Addr) (cdv ct : Value) (us : List Value) (hl : us.length = 1) :
    bindArgs (PySem.W.fnOf d__law_is_int.name d__law_is_int.name (defArgs d__law_is_int.st) (defBody d__law_is_int.st) (defScope d__law_is_int.st) .none kV doc pm an cdv ct) ⟨us, []⟩ = pure (d__law_is_int.ps.zip us) :=
  match us, hl with
  | [_], _ => rfl
theorem ba__law_is_number (kV doc pm : Value) (an : Option Addr) (cdv ct : Value) (us : List Value) (hl : us.length = 1) :
    bindArgs (PySem.W.fnOf d__law_is_number.name d__law_is_number.name (defArgs d__law_is_number.st) (defBody d__law_is_number.st) (defScope d__law_is_number.st) .none kV doc pm an cdv ct) ⟨us, []⟩ = pure (d__law_is_number.ps.zip us) :=
  match us, hl with
  | [_], _ => rfl
theorem ba__law_stands (kV doc pm : Value) (an : Option Addr) (cdv ct : Value) (us : List Value) (hl : us.length = 3) :
    bindArgs (PySem.W.fnOf d__law_stands.name d__law_stands.name (defArgs d__law_stands.st) (defBody d__law_stands.st) (defScope d__law_stands.st) .none kV doc pm an cdv ct) ⟨us, []⟩ = pure (d__law_stands.ps.zip us) :=
  match us, hl with
  | [_, _, _], _ => rfl
theorem ba__law_drawn (kV doc pm : Value) (an : Option Addr) (cdv ct : Value) (us : List Value) (hl : us.length = 3) :
    bindArgs (PySem.W.fnOf d__law_drawn.name d__law_drawn.name (defArgs d__law_drawn.st) (defBody d__law_drawn.st) (defScope d__law_drawn.st) .none kV doc pm an cdv ct) ⟨us, []⟩ = pure (d__law_drawn.ps.zip us) :=
  match us, hl with
  | [_, _, _], _ => rfl
theorem ba__law_no_text (kV doc pm : Value) (an : Option Addr) (cdv ct : Value) (us : List Value) (hl : us.length = 1) :
    bindArgs (PySem.W.fnOf d__law_no_text.name d__law_no_text.name (defArgs d__law_no_text.st) (defBody d__law_no_text.st) (defScope d__law_no_text.st) .none kV doc pm an cdv ct) ⟨us, []⟩ = pure (d__law_no_text.ps.zip us) :=
  match us, hl with
  | [_], _ => rfl
theorem ba__law_no_ratio (kV doc pm : Value) (an : Option Addr) (cdv ct : Value) (us : List Value) (hl : us.length = 1) :
    bindArgs (PySem.W.fnOf d__law_no_ratio.name d__law_no_ratio.name (defArgs d__law_no_ratio.st) (defBody d__law_no_ratio.st) (defScope d__law_no_ratio.st) .none kV doc pm an cdv ct) ⟨us, []⟩ = pure (d__law_no_ratio.ps.zip us) :=
  match us, hl with
  | [_], _ => rfl
theorem ba__law_no_quotient (kV doc pm : Value) (an : Option Addr) (cdv ct : Value) (us : List Value) (hl : us.length = 1) :
    bindArgs (PySem.W.fnOf d__law_no_quotient.name d__law_no_quotient.name (defArgs d__law_no_quotient.st) (defBody d__law_no_quotient.st) (defScope d__law_no_quotient.st) .none kV doc pm an cdv ct) ⟨us, []⟩ = pure (d__law_no_quotient.ps.zip us) :=
  match us, hl with
  | [_], _ => rfl
theorem ba__law_texts (kV doc pm : Value) (an : Option Addr) (cdv ct : Value) (us : List Value) (hl : us.length = 1) :
    bindArgs (PySem.W.fnOf d__law_texts.name d__law_texts.name (defArgs d__law_texts.st) (defBody d__law_texts.st) (defScope d__law_texts.st) .none kV doc pm an cdv ct) ⟨us, []⟩ = pure (d__law_texts.ps.zip us) :=
  match us, hl with
  | [_], _ => rfl
theorem ba__law_values (kV doc pm : Value) (an : Option Addr) (cdv ct : Value) (us : List Value) (hl : us.length = 2) :
    bindArgs (PySem.W.fnOf d__law_values.name d__law_values.name (defArgs d__law_values.st) (defBody d__law_values.st) (defScope d__law_values.st) .none kV doc pm an cdv ct) ⟨us, []⟩ = pure (d__law_values.ps.zip us) :=
  match us, hl with
  | [_, _], _ => rfl
theorem ba__law_lists (kV doc pm : Value) (an : Option Addr) (cdv ct : Value) (us : List Value) (hl : us.length = 1) :
    bindArgs (PySem.W.fnOf d__law_lists.name d__law_lists.name (defArgs d__law_lists.st) (defBody d__law_lists.st) (defScope d__law_lists.st) .none kV doc pm an cdv ct) ⟨us, []⟩ = pure (d__law_lists.ps.zip us) :=
  match us, hl with
  | [_], _ => rfl
theorem ba_law (kV doc pm : Value) (an : Option Addr) (cdv ct : Value) (us : List Value) (hl : us.length = 1) :
    bindArgs (PySem.W.fnOf d_law.name d_law.name (defArgs d_law.st) (defBody d_law.st) (defScope d_law.st) .none kV doc pm an cdv ct) ⟨us, []⟩ = pure (d_law.ps.zip us) :=
  match us, hl with
  | [_], _ => rfl
theorem hb : ∀ d, d ∈ prg.defs → ∀ (kV doc pm : Value) (an : Option Addr) (cdv ct : Value) (us : List Value), us.length = d.ps.length →
    bindArgs (PySem.W.fnOf d.name d.name (defArgs d.st) (defBody d.st) (defScope d.st) .none kV doc pm an cdv ct) ⟨us, []⟩ = pure (d.ps.zip us) := fun d hd => by
  unfold prg defs at hd
  simp only [List.cons_append, List.nil_append, List.mem_cons, List.not_mem_nil, or_false] at hd
  rcases hd with rfl | rfl | rfl | rfl | rfl | rfl | rfl | rfl | rfl | rfl | rfl | rfl | rfl | rfl | rfl | rfl | rfl | rfl | rfl | rfl | rfl | rfl | rfl | rfl | rfl | rfl | rfl | rfl | rfl | rfl | rfl | rfl | rfl | rfl | rfl
  · exact ba_ratio
  · exact ba_is_whole
  · exact ba_top_of
  · exact ba_bottom_of
  · exact ba_plus
  · exact ba_minus
  · exact ba_times
  · exact ba_over
  · exact ba_less
  · exact ba_floor_of
  · exact ba_ceiling_of
  · exact ba_nearest
  · exact ba_common_bottom
  · exact ba_least_of
  · exact ba_greatest_of
  · exact ba_number_text
  · exact ba_read_numeral
  · exact ba_read_number
  · exact ba__law_cell
  · exact ba__law_numbers
  · exact ba__law_gcd
  · exact ba__law_make
  · exact ba__law_top
  · exact ba__law_bottom
  · exact ba__law_is_int
  · exact ba__law_is_number
  · exact ba__law_stands
  · exact ba__law_drawn
  · exact ba__law_no_text
  · exact ba__law_no_ratio
  · exact ba__law_no_quotient
  · exact ba__law_texts
  · exact ba__law_values
  · exact ba__law_lists
  · exact ba_law
theorem fns : ∀ f, f ∈ nm.fns → (prg.defs.find? fun d => d.name == f).isSome = true := by
  have h : (nm.fns.all fun f => (prg.defs.find? fun d => d.name == f).isSome) = true := by decide +kernel
  exact fun f hf => List.all_eq_true.mp h f hf
theorem hxl : ∀ C, C ∈ nm.exl → ∃ b, ((C, C), b) ∈ hd.xs := by
  have h : (nm.exl.all fun C => hd.xs.contains ((C, C), true)) = true := by decide +kernel
  exact fun C hC => ⟨true, by have := List.all_eq_true.mp h C hC; simpa using this⟩
theorem holds (hlaw : ∀ ns : List Int, ns.length ≤ 63 → (∀ k, k ∈ ns → Builtin.Int.intBits k ≤ 1048576) → prg.val d_law 13 [.scr ns] = .ok (.fz (.bl true))) : PySem.Challenge.rw_fineststep_k00_exact_numbers.Holds := by
  w_on; o_law
  refine HandSHeadRun.head_imp (r := R) (q := PySem.W.view R.prog [0, 43]) (H := hk) (ob := ob) (M := 20000) (loose := loose) (d := HandSHeadRun.topDef R.prog 43) (kwd := []) ob_eq
    run (by kernel_rfl) (by kernel_rfl) (by kernel_rfl) (by rfl) (by first | assumption | decide +kernel) (by decide +kernel) ⟨rfl, rfl, rfl, rfl, rfl, by decide +kernel⟩ ?hw ?hc
  case hw => w_witness2
  case hc =>
    refine walk_px (l := PySem.Challenge.rw_fineststep_k00_exact_numbers) (n := 63) (k := 14) (x := "_law_script") (CX := CXs) rfl (by decide) (by kernel_rfl) ⟨rfl, by decide, by decide⟩ ?F (fun _ _ _ _ z => by obtain ⟨_, _, _, z⟩ := z; exact z)
    intro w mg fa h Y G hmg0
    obtain ⟨K, KX, c, c2⟩ := Y
    have hmg : mg d_law.name = some (.ref fa) := by
      have e : (HandSHeadRun.topDef R.prog 43).name = d_law.name := by kernel_rfl
      rw [← e]
      exact hmg0
    have hg : glB K d_law.name = true := by
      have c3 := c2
      unfold ck Hd.ok at c3
      exact List.all_eq_true.mp (Bool.and_eq_true_iff.mp c3).1 _ (List.mem_map.mpr ⟨d_law, List.mem_of_getElem? (i := 34) rfl, rfl⟩)
    exact law_walk (p := prg) (nm := nm) (d := d_law) (i := 34) KX G c rfl rfl hg hmg (fun base KB GB => fx_of KB GB c c2 PySem.Challenge.rw_fineststep_k00_exact_numbers.prog w base chk hb fns rfl (.inl rfl) rfl rfl rfl rfl rfl rfl hxl (fun C fs hC => by cases hC)) (hb d_law (List.mem_of_getElem? (i := 34) rfl)) hlaw
end K00

set_option Elab.async false
set_option linter.all false
set_option maxRecDepth 100000
/-! EXa: exact numbers, as the evaluation has them. -/
namespace PX
open PySem PySem.Spec PyProof.Rows L2

/-- a def of the program, by its body -/
structure HasF (p : Prg) (f : Str) (n k : Nat) (b : List S) : Prop where
  eq : ∀ m, p.call (m + 1) f = fun ds => evDef (p.tb m) n k b ds
theorem HasF.run {p : Prg} {f : Str} {n k : Nat} {b : List S} (h : HasF p f n k b) (m : Nat) (ds : List D) : p.call (m + 1) f ds = evDef (p.tb m) n k b ds := by rw [h.eq]
@[simp] theorem tb_call (p : Prg) (m : Nat) : (p.tb m).call = p.call m := rfl
@[simp] theorem tb_cst (p : Prg) (m : Nat) : (p.tb m).cst = p.cst := rfl
@[simp] theorem tb_sub (p : Prg) (m : Nat) : (p.tb m).sub = p.sub := rfl
@[simp] theorem tb_oc (p : Prg) (m : Nat) : (p.tb m).oc = p.oc := rfl
@[simp] theorem tb_fuel (p : Prg) (m : Nat) : (p.tb m).fuel = p.fuel := rfl
@[simp] theorem kb_int_tuple : kitB "int" "tuple" = some false := by decide +kernel
@[simp] theorem kb_tuple_tuple : kitB "tuple" "tuple" = some true := by decide +kernel
@[simp] theorem kb_none_tuple : kitB "NoneType" "tuple" = some false := by decide +kernel
@[simp] theorem kb_str_tuple : kitB "str" "tuple" = some false := by decide +kernel
@[simp] theorem kb_list_tuple : kitB "list" "tuple" = some false := by decide +kernel
@[simp] theorem kb_bool_tuple : kitB "bool" "tuple" = some false := by decide +kernel
@[simp] theorem kb_int_int : kitB "int" "int" = some true := by decide +kernel
@[simp] theorem kb_int_bool : kitB "int" "bool" = some false := by decide +kernel
@[simp] theorem kb_int_str : kitB "int" "str" = some false := by decide +kernel
@[simp] theorem kb_int_list : kitB "int" "list" = some false := by decide +kernel
@[simp] theorem kb_bool_int : kitB "bool" "int" = some true := by decide +kernel
@[simp] theorem kb_bool_bool : kitB "bool" "bool" = some true := by decide +kernel
@[simp] theorem kb_tuple_int : kitB "tuple" "int" = some false := by decide +kernel
@[simp] theorem kb_tuple_bool : kitB "tuple" "bool" = some false := by decide +kernel
@[simp] theorem kb_str_str : kitB "str" "str" = some true := by decide +kernel
@[simp] theorem kb_str_int : kitB "str" "int" = some false := by decide +kernel
@[simp] theorem kb_list_list : kitB "list" "list" = some true := by decide +kernel
@[simp] theorem kb_list_int : kitB "list" "int" = some false := by decide +kernel
@[simp] theorem kb_none_int : kitB "NoneType" "int" = some false := by decide +kernel
@[simp] theorem asBool_bl (b : Bool) : asBool (.fz (.bl b)) = .ok b := rfl
@[simp] theorem non_int (i : Int) : E.non? (.int i) = false := rfl
@[simp] theorem sub_step : (2 : Nat) ≤ sizeLine := by rw [sizeLine_eq]; decide

section
variable {i j : Int}
@[simp] theorem ob_add : opBin .Add (.int i) (.int j) = .ok (.fz (.int (i + j))) := rfl
@[simp] theorem ob_sub : opBin .Sub (.int i) (.int j) = .ok (.fz (.int (i - j))) := rfl
@[simp] theorem ob_mul (h : lgI i + lgI j < mulLine) : opBin .Mult (.int i) (.int j) = .ok (.fz (.int (i * j))) := if_pos h
@[simp] theorem ob_div (h : j ≠ 0) (h2 : lgI j < divLine) : opBin .FloorDiv (.int i) (.int j) = .ok (.fz (.int (i.fdiv j))) := if_pos ⟨h, h2⟩
@[simp] theorem ob_mod (h : j ≠ 0) : opBin .Mod (.int i) (.int j) = .ok (.fz (.int (i.fmod j))) := if_pos h
@[simp] theorem bi_len_l (xs : List D) : evBi .len [.lst xs] = .ok (.fz (.int xs.length)) := rfl
@[simp] theorem bi_len_t (xs : List D) : evBi .len [.tup xs] = .ok (.fz (.int xs.length)) := rfl
@[simp] theorem bi_len_s (xs : List Int) : evBi .len [.scr xs] = .ok (.fz (.int xs.length)) := rfl
@[simp] theorem bi_len_x {z : Str} (h : z.length ≤ sizeLine) : evBi .len [.str z] = .ok (.fz (.int z.length)) := if_pos h
@[simp] theorem bi_abs : evBi .abs [.int i] = .ok (.fz (.int (if i < 0 then -i else i))) := rfl
@[simp] theorem bi_int : evBi .int [.int i] = .ok (.fz (.int i)) := rfl
@[simp] theorem bi_gcd : evBi .gcd [.int i, .int j] = .ok (.fz (.int ((Nat.gcd i.natAbs j.natAbs : Nat) : Int))) := rfl
@[simp] theorem bi_lcm (h : i.natAbs < 2 ^ 64) (h2 : j.natAbs < 2 ^ 64) : evBi .lcm [.int i, .int j] = .ok (.fz (.int ((Nat.lcm i.natAbs j.natAbs : Nat) : Int))) := if_pos ⟨h, h2⟩
@[simp] theorem bi_list_l (xs : List D) : evBi .list [.lst xs] = .ok (.fr (.lst xs)) := rfl
@[simp] theorem bi_list_t (xs : List D) : evBi .list [.tup xs] = .ok (.fr (.lst xs)) := rfl
@[simp] theorem bi_tuple_l (xs : List D) : evBi .tuple [.lst xs] = .ok (.fz (.tup xs)) := rfl
@[simp] theorem bi_isI_int (T : String) : evBi .isI [.int i, .ty T] = match kitB "int" T with | some b => .ok (.fz (.bl b)) | none => .st := rfl
@[simp] theorem bi_isI_str (s : Str) (T : String) : evBi .isI [.str s, .ty T] = match kitB "str" T with | some b => .ok (.fz (.bl b)) | none => .st := rfl
@[simp] theorem bi_isI_tup (s : List D) (T : String) : evBi .isI [.tup s, .ty T] = match kitB "tuple" T with | some b => .ok (.fz (.bl b)) | none => .st := rfl
@[simp] theorem bi_isI_lst (s : List D) (T : String) : evBi .isI [.lst s, .ty T] = match kitB "list" T with | some b => .ok (.fz (.bl b)) | none => .st := rfl
@[simp] theorem bi_isI_bl (s : Bool) (T : String) : evBi .isI [.bl s, .ty T] = match kitB "bool" T with | some b => .ok (.fz (.bl b)) | none => .st := rfl
@[simp] theorem bi_isI_non (T : String) : evBi .isI [.non, .ty T] = match kitB "NoneType" T with | some b => .ok (.fz (.bl b)) | none => .st := rfl
@[simp] theorem ix_lst (xs : List D) : opIx (.lst xs) (.int i) = match atI xs i with | some x => .ok (.fz x) | none => .st := rfl
@[simp] theorem ix_tup (xs : List D) : opIx (.tup xs) (.int i) = match atI xs i with | some x => .ok (.fz x) | none => .st := rfl
@[simp] theorem ix_scr (xs : List Int) : opIx (.scr xs) (.int i) = match atI xs i with | some x => .ok (.fz (.int x)) | none => .st := rfl
@[simp] theorem eq_int : opEq false (.int i) (.int j) = .ok (decide (i = j)) := rfl
@[simp] theorem ne_int : opEq true (.int i) (.int j) = .ok (!decide (i = j)) := rfl
@[simp] theorem items_val (ds : List D) : itemsOf .val ds = itVal ds := rfl
@[simp] theorem itVal_l (xs : List D) : itVal [.lst xs] = .ok xs := rfl
@[simp] theorem itVal_t (xs : List D) : itVal [.tup xs] = .ok xs := rfl
@[simp] theorem oi_non (d : D) : opIs d .non = .ok d.isNon := rfl
@[simp] theorem oi_bl (d : D) (b : Bool) : opIs d (.bl b) = .ok (d.isBl b) := rfl
@[simp] theorem in_non : D.isNon .non = true := rfl
@[simp] theorem in_int : D.isNon (.int i) = false := rfl
@[simp] theorem in_str (s : Str) : D.isNon (.str s) = false := rfl
@[simp] theorem in_tup (s : List D) : D.isNon (.tup s) = false := rfl
@[simp] theorem in_lst (s : List D) : D.isNon (.lst s) = false := rfl
@[simp] theorem in_bl (s : Bool) : D.isNon (.bl s) = false := rfl
@[simp] theorem ib_bl (s b : Bool) : D.isBl b (.bl s) = decide (s = b) := rfl
@[simp] theorem ib_non (b : Bool) : D.isBl b .non = false := rfl
@[simp] theorem ob_cat {xs ys : List D} (h : xs.length + ys.length ≤ sizeLine) : opBin .Add (.lst xs) (.lst ys) = .ok (.fr (.lst (xs ++ ys))) := if_pos h
@[simp] theorem ob_strs {a b : Str} (h : a.length + b.length ≤ sizeLine) : opBin .Add (.str a) (.str b) = .ok (.fz (.str (a ++ b))) := if_pos h
end
/-- how a def ends -/
def RS.out (x : RS) : R EV := match x with
  | .ok (.nx _) => .ok (.fz .non)
  | .ok (.rt v) => .ok v
  | .ex c fs _ => .ex c fs
  | _ => .st
@[simp] theorem out_nx (ρ : Rho) : RS.out (.ok (.nx ρ)) = .ok (.fz .non) := rfl
@[simp] theorem out_rt (v : EV) : RS.out (.ok (.rt v)) = .ok v := rfl
@[simp] theorem out_ex (c fs ρ) : RS.out (.ex c fs ρ) = .ex c fs := rfl
theorem evDef_out {T : Tb} {n k : Nat} {b : List S} {ds : List D} (h : ds.length = k) : evDef T n k b ds = (execs T b (startS n ds)).out := by
  unfold evDef
  rw [if_pos h]
  rfl
/-! ### how long numbers are -/
theorem lg_lt {i : Int} {k : Nat} (h : i.natAbs < 2 ^ k) (hk : 0 < k) : lgI i < k := by
  unfold lgI
  by_cases h0 : i.natAbs = 0
  · rw [h0]; simpa using hk
  · exact (Nat.log2_lt h0).2 h
theorem pw_le {a k l : Nat} (h : a < 2 ^ k) (hl : k ≤ l) : a < 2 ^ l := Nat.lt_of_lt_of_le h (Nat.pow_le_pow_right (by decide) hl)
theorem pw_mul {a b k l : Nat} (ha : a < 2 ^ k) (hb : b < 2 ^ l) : a * b < 2 ^ (k + l) := by
  rw [Nat.pow_add]
  exact Nat.mul_lt_mul'' ha hb
theorem pw_imul {a b : Int} {k l : Nat} (ha : a.natAbs < 2 ^ k) (hb : b.natAbs < 2 ^ l) : (a * b).natAbs < 2 ^ (k + l) := by
  rw [Int.natAbs_mul]; exact pw_mul ha hb
theorem pw_add {a b k : Nat} (ha : a < 2 ^ k) (hb : b < 2 ^ k) : a + b < 2 ^ (k + 1) := by
  rw [Nat.pow_succ]; omega
theorem pw_iadd {a b : Int} {k : Nat} (ha : a.natAbs < 2 ^ k) (hb : b.natAbs < 2 ^ k) : (a + b).natAbs < 2 ^ (k + 1) := by
  have := pw_add ha hb
  omega
theorem pw_isub {a b : Int} {k : Nat} (ha : a.natAbs < 2 ^ k) (hb : b.natAbs < 2 ^ k) : (a - b).natAbs < 2 ^ (k + 1) := by
  have := pw_add ha hb
  omega
/-- a number of at most k bits above and below -/
structure Bd (k : Nat) (x : Rat) : Prop where
  n : x.num.natAbs < 2 ^ k
  d : x.den < 2 ^ k
theorem Bd.le {k l : Nat} {x : Rat} (h : Bd k x) (hl : k ≤ l) : Bd l x := ⟨pw_le h.n hl, pw_le h.d hl⟩
theorem Bd.pos {k : Nat} {x : Rat} (h : Bd k x) : 0 < k := by
  rcases Nat.eq_zero_or_pos k with e | e
  · subst e; have := h.d; have := x.den_pos; simp at *; omega
  · exact e
theorem Bd.di {k : Nat} {x : Rat} (h : Bd k x) : ((x.den : Int)).natAbs < 2 ^ k := by simpa using h.d
theorem bd_divInt {a b : Int} {k : Nat} (ha : a.natAbs < 2 ^ k) (hb : b.natAbs < 2 ^ k) (h0 : b ≠ 0) : Bd k (Rat.divInt a b) where
  n := by
    rw [Rat.num_divInt]
    refine Nat.lt_of_le_of_lt ?_ ha
    rw [Int.natAbs_ediv_of_dvd (Int.dvd_trans (Int.gcd_dvd_right ..) (Int.dvd_mul_left ..)), Int.natAbs_mul, Int.natAbs_sign_of_ne_zero h0]
    simpa using Nat.div_le_self _ _
  d := by
    rw [Rat.den_divInt, if_neg h0]
    exact Nat.lt_of_le_of_lt (Nat.div_le_self _ _) hb
theorem add_divInt (x y : Rat) : x + y = Rat.divInt (x.num * y.den + y.num * x.den) ((x.den : Int) * y.den) := by
  rw [Rat.add_def', ← Rat.divInt_ofNat]; simp
theorem sub_divInt (x y : Rat) : x - y = Rat.divInt (x.num * y.den - y.num * x.den) ((x.den : Int) * y.den) := by
  rw [Rat.sub_def', ← Rat.divInt_ofNat]; simp
theorem mul_divInt (x y : Rat) : x * y = Rat.divInt (x.num * y.num) ((x.den : Int) * y.den) := by
  rw [Rat.mul_def', ← Rat.divInt_ofNat]; simp
theorem div_divInt (x y : Rat) : x / y = Rat.divInt (x.num * y.den) ((x.den : Int) * y.num) := by
  rw [Rat.div_def, Rat.inv_def, ← Rat.num_divInt_den x, Rat.divInt_mul_divInt]
  simp [Rat.num_divInt_den]
theorem den_nz (x : Rat) : (x.den : Int) ≠ 0 := by have := x.den_pos; omega
theorem dens_nz (x y : Rat) : (x.den : Int) * y.den ≠ 0 := Int.mul_ne_zero (den_nz x) (den_nz y)
theorem Bd.add {k : Nat} {x y : Rat} (h : Bd k x) (q : Bd k y) : Bd (2 * k + 1) (x + y) := by
  rw [add_divInt, show 2 * k + 1 = k + k + 1 by omega]
  exact bd_divInt (pw_iadd (pw_imul h.n q.di) (pw_imul q.n h.di)) (pw_le (pw_imul h.di q.di) (by omega)) (dens_nz x y)
theorem Bd.sub {k : Nat} {x y : Rat} (h : Bd k x) (q : Bd k y) : Bd (2 * k + 1) (x - y) := by
  rw [sub_divInt, show 2 * k + 1 = k + k + 1 by omega]
  exact bd_divInt (pw_isub (pw_imul h.n q.di) (pw_imul q.n h.di)) (pw_le (pw_imul h.di q.di) (by omega)) (dens_nz x y)
theorem Bd.mul {k : Nat} {x y : Rat} (h : Bd k x) (q : Bd k y) : Bd (2 * k) (x * y) := by
  rw [mul_divInt, show 2 * k = k + k by omega]
  exact bd_divInt (pw_imul h.n q.n) (pw_imul h.di q.di) (dens_nz x y)

/-- the one form of a number -/
def enc (x : Rat) : D := if x.den = 1 then .int x.num else .tup [.int x.num, .int x.den]
theorem enc_one {x : Rat} (h : x.den = 1) : enc x = .int x.num := if_pos h
theorem enc_two {x : Rat} (h : x.den ≠ 1) : enc x = .tup [.int x.num, .int x.den] := if_neg h
@[simp] theorem enc_isNon (x : Rat) : (enc x).isNon = false := by
  unfold enc
  split <;> rfl
theorem enc_int (i : Int) : enc (i : Rat) = .int i := enc_one rfl

section
variable {p : Prg} {m : Nat}
theorem isI_tup (x : Rat) : evBi .isI [enc x, .ty "tuple"] = .ok (.fz (.bl (decide (x.den ≠ 1)))) := by
  by_cases h : x.den = 1
  · rw [enc_one h]; simp [h]
  · rw [enc_two h]; simp [h]
theorem at0 {α : Type} (a : α) (l : List α) : atI (a :: l) 0 = some a := by simp [atI, ixN]
theorem at1 {α : Type} (a b : α) (l : List α) : atI (a :: b :: l) 1 = some b := by
  have h : (1 : Int) < (l.length : Int) + 1 + 1 := by omega
  simp [atI, ixN, h]
theorem enc_at0 {x : Rat} (h : x.den ≠ 1) : opIx (enc x) (.int 0) = .ok (.fz (.int x.num)) := by rw [enc_two h]; simp [at0]
theorem enc_at1 {x : Rat} (h : x.den ≠ 1) : opIx (enc x) (.int 1) = .ok (.fz (.int x.den)) := by rw [enc_two h]; simp [at1]
theorem sp_is_whole (h : HasF p "is_whole" 1 1 Bx.is_whole) (x : Rat) : p.call (m + 1) "is_whole" [enc x] = .ok (.fz (.bl (decide (x.den = 1)))) := by
  rw [h.run]
  by_cases hx : x.den = 1
  · simp [evDef, startS, PX.execs, PX.exec, evX, evXB, evXL, frzS, anyOw, evE, evL, evJ, evT, bindE, bindT, bindTp, opCmp, opI2, storeIx, E.non?, slB, Bx.is_whole, hx, enc_one hx]
  · simp [evDef, startS, PX.execs, PX.exec, evX, evXB, evXL, frzS, anyOw, evE, evL, evJ, evT, bindE, bindT, bindTp, opCmp, opI2, storeIx, E.non?, slB, Bx.is_whole, hx, enc_two hx]
theorem sp_top_of (h : HasF p "top_of" 1 1 Bx.top_of) (x : Rat) : p.call (m + 1) "top_of" [enc x] = .ok (.fz (.int x.num)) := by
  rw [h.run]
  by_cases hx : x.den = 1
  · simp [evDef, startS, PX.execs, PX.exec, evX, evXB, evXL, frzS, anyOw, evE, evL, evJ, evT, bindE, bindT, bindTp, opCmp, opI2, storeIx, E.non?, slB, Bx.top_of, hx, enc_one hx]
  · simp [evDef, startS, PX.execs, PX.exec, evX, evXB, evXL, frzS, anyOw, evE, evL, evJ, evT, bindE, bindT, bindTp, opCmp, opI2, storeIx, E.non?, slB, Bx.top_of, hx, enc_two hx, at0]
theorem sp_bottom_of (h : HasF p "bottom_of" 1 1 Bx.bottom_of) (x : Rat) : p.call (m + 1) "bottom_of" [enc x] = .ok (.fz (.int x.den)) := by
  rw [h.run]
  by_cases hx : x.den = 1
  · simp [evDef, startS, PX.execs, PX.exec, evX, evXB, evXL, frzS, anyOw, evE, evL, evJ, evT, bindE, bindT, bindTp, opCmp, opI2, storeIx, E.non?, slB, Bx.bottom_of, hx, enc_one hx]
  · simp [evDef, startS, PX.execs, PX.exec, evX, evXB, evXL, frzS, anyOw, evE, evL, evJ, evT, bindE, bindT, bindTp, opCmp, opI2, storeIx, E.non?, slB, Bx.bottom_of, hx, enc_two hx, at1]
theorem ratio_pos {a b : Int} (h : 0 < b) : enc (Rat.divInt a b) = if (Nat.gcd a.natAbs b.natAbs : Int) = b then .int (a.fdiv (Nat.gcd a.natAbs b.natAbs : Nat)) else .tup [.int (a.fdiv (Nat.gcd a.natAbs b.natAbs : Nat)), .int (b.fdiv (Nat.gcd a.natAbs b.natAbs : Nat))] := by
  have hg : 0 < Nat.gcd a.natAbs b.natAbs := Nat.gcd_pos_of_pos_right _ (by omega)
  have e1 : (Rat.divInt a b).num = a.fdiv (Nat.gcd a.natAbs b.natAbs : Nat) := by
    rw [Rat.num_divInt, Int.sign_eq_one_of_pos h, Int.one_mul, Int.fdiv_eq_ediv_of_nonneg _ (by omega)]
    rw [show b.gcd a = Nat.gcd a.natAbs b.natAbs from Nat.gcd_comm ..]
  have e2 : ((Rat.divInt a b).den : Int) = b.fdiv (Nat.gcd a.natAbs b.natAbs : Nat) := by
    rw [Rat.den_divInt, if_neg (by omega), Int.fdiv_eq_ediv_of_nonneg _ (by omega)]
    rw [show b.gcd a = Nat.gcd a.natAbs b.natAbs from Nat.gcd_comm ..]
    rw [Int.natCast_ediv]
    rw [Int.natAbs_of_nonneg (by omega)]
  have e3 : (Rat.divInt a b).den = 1 ↔ (Nat.gcd a.natAbs b.natAbs : Int) = b := by
    rw [Rat.den_divInt, if_neg (by omega)]
    rw [show b.gcd a = Nat.gcd a.natAbs b.natAbs from Nat.gcd_comm ..]
    have hd : Nat.gcd a.natAbs b.natAbs ∣ b.natAbs := Nat.gcd_dvd_right ..
    constructor
    · intro z
      have := Nat.eq_mul_of_div_eq_right hd z
      omega
    · intro z
      have : b.natAbs = Nat.gcd a.natAbs b.natAbs := by omega
      rw [← this]
      exact Nat.div_self (by omega)
  unfold enc
  rw [← e1, ← e2]
  by_cases q : (Rat.divInt a b).den = 1
  · rw [if_pos q, if_pos (e3.1 q)]
  · rw [if_neg q, if_neg (fun z => q (e3.2 z))]
theorem gcd_lg {a b : Int} (hb : b ≠ 0) (h : b.natAbs < 2 ^ 9000) : (Nat.gcd a.natAbs b.natAbs : Int) ≠ 0 ∧ lgI (Nat.gcd a.natAbs b.natAbs : Nat) < divLine := by
  have hg : 0 < Nat.gcd a.natAbs b.natAbs := Nat.gcd_pos_of_pos_right _ (by omega)
  refine ⟨by omega, lg_lt (k := 9000) ?_ (by decide)⟩
  have : Nat.gcd a.natAbs b.natAbs ≤ b.natAbs := Nat.le_of_dvd (by omega) (Nat.gcd_dvd_right ..)
  simp only [Int.natAbs_natCast]
  omega
theorem sp_ratio (h : HasF p "ratio" 3 2 Bx.ratio) {a b : Int} (hb : b ≠ 0) (hl : b.natAbs < 2 ^ 9000) : p.call (m + 1) "ratio" [.int a, .int b] = .ok (.fz (enc (Rat.divInt a b))) := by
  rw [h.run]
  obtain ⟨g1, g2⟩ := gcd_lg (a := a) hb hl
  by_cases h1 : b < 0
  · rw [← Rat.neg_divInt_neg, ratio_pos (show 0 < -b by omega)]
    have e : (-b).natAbs = b.natAbs := by omega
    have e' : (-a).natAbs = a.natAbs := by omega
    simp only [e, e']
    by_cases h2 : (Nat.gcd a.natAbs b.natAbs : Int) = -b
    · rw [h2] at g1 g2
      simp [evDef, startS, PX.execs, PX.exec, evX, evXB, evXL, frzS, anyOw, evE, evL, evJ, evT, bindE, bindT, bindTp, opCmp, opI2, storeIx, E.non?, slB, Bx.ratio, hb, h1, h2, g1, g2]
    · simp [evDef, startS, PX.execs, PX.exec, evX, evXB, evXL, frzS, anyOw, evE, evL, evJ, evT, bindE, bindT, bindTp, opCmp, opI2, storeIx, E.non?, slB, Bx.ratio, hb, h1, h2, g1, g2]
  · rw [ratio_pos (show 0 < b by omega)]
    by_cases h2 : (Nat.gcd a.natAbs b.natAbs : Int) = b
    · rw [h2] at g1 g2
      simp [evDef, startS, PX.execs, PX.exec, evX, evXB, evXL, frzS, anyOw, evE, evL, evJ, evT, bindE, bindT, bindTp, opCmp, opI2, storeIx, E.non?, slB, Bx.ratio, hb, h1, h2, g1, g2]
    · simp [evDef, startS, PX.execs, PX.exec, evX, evXB, evXL, frzS, anyOw, evE, evL, evJ, evT, bindE, bindT, bindTp, opCmp, opI2, storeIx, E.non?, slB, Bx.ratio, hb, h1, h2, g1, g2]
theorem sp_ratio0 (h : HasF p "ratio" 3 2 Bx.ratio) {a : Int} : p.call (m + 1) "ratio" [.int a, .int 0] = .ex "ZeroBottom" [] := by
  rw [h.run]
  simp [evDef, startS, PX.execs, PX.exec, evX, evXB, evXL, frzS, anyOw, evE, evL, evJ, evT, bindE, bindT, bindTp, opCmp, opI2, storeIx, E.non?, slB, Bx.ratio]
theorem lg_mul {a b : Int} {k l : Nat} (ha : a.natAbs < 2 ^ k) (hb : b.natAbs < 2 ^ l) (h : k + l ≤ 100000) (hk : 0 < k) (hl : 0 < l) : lgI a + lgI b < mulLine := by
  have := lg_lt ha hk
  have := lg_lt hb hl
  unfold mulLine
  omega
/-- the functions of the program's exact numbers -/
structure HasX (p : Prg) : Prop where
  ratio : HasF p "ratio" 3 2 Bx.ratio
  is_whole : HasF p "is_whole" 1 1 Bx.is_whole
  top_of : HasF p "top_of" 1 1 Bx.top_of
  bottom_of : HasF p "bottom_of" 1 1 Bx.bottom_of
theorem whole_of {x : Rat} (h : x.den = 1) : x = (x.num : Rat) := by
  refine Rat.ext rfl ?_
  rw [h]; rfl
theorem sp_plus (h : HasX p) (hp : HasF p "plus" 2 2 Bx.plus) {x y : Rat} {k : Nat} (bx : Bd k x) (b2 : Bd k y) (hk : k ≤ 4000) : p.call (m + 2) "plus" [enc x, enc y] = .ok (.fz (enc (x + y))) := by
  rw [hp.run]
  have l1 : lgI x.num + lgI (y.den : Int) < mulLine := lg_mul bx.n b2.di (by omega) bx.pos bx.pos
  have l2 : lgI y.num + lgI (x.den : Int) < mulLine := lg_mul b2.n bx.di (by omega) bx.pos bx.pos
  have l3 : lgI (x.den : Int) + lgI (y.den : Int) < mulLine := lg_mul bx.di b2.di (by omega) bx.pos bx.pos
  have r : p.call (m + 1) "ratio" [.int (x.num * y.den + y.num * x.den), .int ((x.den : Int) * y.den)] = .ok (.fz (enc (x + y))) := by
    rw [add_divInt]
    exact sp_ratio h.ratio (dens_nz x y) (pw_le (pw_imul bx.di b2.di) (by omega))
  have w1 := sp_is_whole (m := m) h.is_whole x
  have w2 := sp_is_whole (m := m) h.is_whole y
  by_cases hx : x.den = 1
  · rw [decide_eq_true hx] at w1
    by_cases hy : y.den = 1
    · rw [decide_eq_true hy] at w2
      have e : enc (x + y) = .int (x.num + y.num) := by
        rw [whole_of hx, whole_of hy, ← Rat.intCast_add, enc_int]; rfl
      rw [e]
      simp [evDef, startS, PX.execs, PX.exec, evX, evXB, evXL, frzS, anyOw, evE, evL, evJ, evT, bindE, bindT, bindTp, opCmp, opI2, storeIx, E.non?, slB, Bx.plus, w1, w2]
      simp [enc_one hx, enc_one hy]
    · rw [decide_eq_false hy] at w2
      simp [evDef, startS, PX.execs, PX.exec, evX, evXB, evXL, frzS, anyOw, evE, evL, evJ, evT, bindE, bindT, bindTp, opCmp, opI2, storeIx, E.non?, slB, Bx.plus, w1, w2, sp_top_of h.top_of, sp_bottom_of h.bottom_of, l1, l2, l3, r]
  · rw [decide_eq_false hx] at w1
    simp [evDef, startS, PX.execs, PX.exec, evX, evXB, evXL, frzS, anyOw, evE, evL, evJ, evT, bindE, bindT, bindTp, opCmp, opI2, storeIx, E.non?, slB, Bx.plus, w1, sp_top_of h.top_of, sp_bottom_of h.bottom_of, l1, l2, l3, r]
end
end PX

set_option Elab.async false
set_option linter.all false
set_option maxRecDepth 100000
/-! EXb: exact numbers, the rest of the functions on numbers. -/
namespace PX
open PySem PySem.Spec PyProof.Rows L2
structure HasY (p : Prg) : Prop extends HasX p where
  plus : HasF p "plus" 2 2 Bx.plus
  minus : HasF p "minus" 2 2 Bx.minus
  times : HasF p "times" 2 2 Bx.times
  over : HasF p "over" 2 2 Bx.over
  less : HasF p "less" 2 2 Bx.less
  floor_of : HasF p "floor_of" 1 1 Bx.floor_of
  ceiling_of : HasF p "ceiling_of" 1 1 Bx.ceiling_of
  nearest : HasF p "nearest" 1 1 Bx.nearest
  common_bottom : HasF p "common_bottom" 3 1 Bx.common_bottom
  least_of : HasF p "least_of" 3 1 Bx.least_of
  greatest_of : HasF p "greatest_of" 3 1 Bx.greatest_of
section
variable {p : Prg} {m : Nat}
theorem sp_minus (h : HasY p) {x y : Rat} {k : Nat} (bx : Bd k x) (b2 : Bd k y) (hk : k ≤ 4000) : p.call (m + 2) "minus" [enc x, enc y] = .ok (.fz (enc (x - y))) := by
  rw [h.minus.run]
  have l1 : lgI x.num + lgI (y.den : Int) < mulLine := lg_mul bx.n b2.di (by omega) bx.pos bx.pos
  have l2 : lgI y.num + lgI (x.den : Int) < mulLine := lg_mul b2.n bx.di (by omega) bx.pos bx.pos
  have l3 : lgI (x.den : Int) + lgI (y.den : Int) < mulLine := lg_mul bx.di b2.di (by omega) bx.pos bx.pos
  have r : p.call (m + 1) "ratio" [.int (x.num * y.den - y.num * x.den), .int ((x.den : Int) * y.den)] = .ok (.fz (enc (x - y))) := by
    rw [sub_divInt]
    exact sp_ratio h.ratio (dens_nz x y) (pw_le (pw_imul bx.di b2.di) (by omega))
  have w1 := sp_is_whole (m := m) h.is_whole x
  have w2 := sp_is_whole (m := m) h.is_whole y
  by_cases hx : x.den = 1
  · rw [decide_eq_true hx] at w1
    by_cases hy : y.den = 1
    · rw [decide_eq_true hy] at w2
      have e : enc (x - y) = .int (x.num - y.num) := by
        rw [whole_of hx, whole_of hy, ← Rat.intCast_sub, enc_int]; rfl
      rw [e]
      simp [evDef, startS, PX.execs, PX.exec, evX, evXB, evXL, frzS, anyOw, evE, evL, evJ, evT, bindE, bindT, bindTp, opCmp, opI2, storeIx, E.non?, slB, Bx.minus, w1, w2]
      simp [enc_one hx, enc_one hy]
    · rw [decide_eq_false hy] at w2
      simp [evDef, startS, PX.execs, PX.exec, evX, evXB, evXL, frzS, anyOw, evE, evL, evJ, evT, bindE, bindT, bindTp, opCmp, opI2, storeIx, E.non?, slB, Bx.minus, w1, w2, sp_top_of h.top_of, sp_bottom_of h.bottom_of, l1, l2, l3, r]
  · rw [decide_eq_false hx] at w1
    simp [evDef, startS, PX.execs, PX.exec, evX, evXB, evXL, frzS, anyOw, evE, evL, evJ, evT, bindE, bindT, bindTp, opCmp, opI2, storeIx, E.non?, slB, Bx.minus, w1, sp_top_of h.top_of, sp_bottom_of h.bottom_of, l1, l2, l3, r]
theorem sp_times (h : HasY p) {x y : Rat} {k : Nat} (bx : Bd k x) (b2 : Bd k y) (hk : k ≤ 4000) : p.call (m + 2) "times" [enc x, enc y] = .ok (.fz (enc (x * y))) := by
  rw [h.times.run]
  have l1 : lgI x.num + lgI y.num < mulLine := lg_mul bx.n b2.n (by omega) bx.pos bx.pos
  have l3 : lgI (x.den : Int) + lgI (y.den : Int) < mulLine := lg_mul bx.di b2.di (by omega) bx.pos bx.pos
  have r : p.call (m + 1) "ratio" [.int (x.num * y.num), .int ((x.den : Int) * y.den)] = .ok (.fz (enc (x * y))) := by
    rw [mul_divInt]
    exact sp_ratio h.ratio (dens_nz x y) (pw_le (pw_imul bx.di b2.di) (by omega))
  have w1 := sp_is_whole (m := m) h.is_whole x
  have w2 := sp_is_whole (m := m) h.is_whole y
  by_cases hx : x.den = 1
  · rw [decide_eq_true hx] at w1
    by_cases hy : y.den = 1
    · rw [decide_eq_true hy] at w2
      have e : enc (x * y) = .int (x.num * y.num) := by
        rw [whole_of hx, whole_of hy, ← Rat.intCast_mul, enc_int]; rfl
      rw [e]
      simp [evDef, startS, PX.execs, PX.exec, evX, evXB, evXL, frzS, anyOw, evE, evL, evJ, evT, bindE, bindT, bindTp, opCmp, opI2, storeIx, E.non?, slB, Bx.times, w1, w2]
      simp [enc_one hx, enc_one hy, l1]
    · rw [decide_eq_false hy] at w2
      simp [evDef, startS, PX.execs, PX.exec, evX, evXB, evXL, frzS, anyOw, evE, evL, evJ, evT, bindE, bindT, bindTp, opCmp, opI2, storeIx, E.non?, slB, Bx.times, w1, w2, sp_top_of h.top_of, sp_bottom_of h.bottom_of, l1, l3, r]
  · rw [decide_eq_false hx] at w1
    simp [evDef, startS, PX.execs, PX.exec, evX, evXB, evXL, frzS, anyOw, evE, evL, evJ, evT, bindE, bindT, bindTp, opCmp, opI2, storeIx, E.non?, slB, Bx.times, w1, sp_top_of h.top_of, sp_bottom_of h.bottom_of, l1, l3, r]
theorem num_nz {x : Rat} (h : x ≠ 0) : x.num ≠ 0 := fun z => h (Rat.num_eq_zero.1 z)
theorem sp_over (h : HasY p) {x y : Rat} {k : Nat} (bx : Bd k x) (b2 : Bd k y) (hy : y ≠ 0) (hk : k ≤ 4000) : p.call (m + 2) "over" [enc x, enc y] = .ok (.fz (enc (x / y))) := by
  rw [h.over.run]
  have l1 : lgI x.num + lgI (y.den : Int) < mulLine := lg_mul bx.n b2.di (by omega) bx.pos bx.pos
  have l3 : lgI (x.den : Int) + lgI y.num < mulLine := lg_mul bx.di b2.n (by omega) bx.pos bx.pos
  have n0 := num_nz hy
  have r : p.call (m + 1) "ratio" [.int (x.num * y.den), .int ((x.den : Int) * y.num)] = .ok (.fz (enc (x / y))) := by
    rw [div_divInt]
    exact sp_ratio h.ratio (Int.mul_ne_zero (den_nz x) n0) (pw_le (pw_imul bx.di b2.n) (by omega))
  simp [evDef, startS, PX.execs, PX.exec, evX, evXB, evXL, frzS, anyOw, evE, evL, evJ, evT, bindE, bindT, bindTp, opCmp, opI2, storeIx, E.non?, slB, Bx.over, sp_top_of h.top_of, sp_bottom_of h.bottom_of, l1, l3, r, n0]
theorem sp_over0 (h : HasY p) {x : Rat} : p.call (m + 2) "over" [enc x, enc 0] = .ex "ZeroBottom" [] := by
  rw [h.over.run]
  simp [evDef, startS, PX.execs, PX.exec, evX, evXB, evXL, frzS, anyOw, evE, evL, evJ, evT, bindE, bindT, bindTp, opCmp, opI2, storeIx, E.non?, slB, Bx.over, sp_top_of h.top_of]
theorem sp_less (h : HasY p) {x y : Rat} {k : Nat} (bx : Bd k x) (b2 : Bd k y) (hk : k ≤ 4000) : p.call (m + 2) "less" [enc x, enc y] = .ok (.fz (.bl (decide (x < y)))) := by
  rw [h.less.run]
  have l1 : lgI x.num + lgI (y.den : Int) < mulLine := lg_mul bx.n b2.di (by omega) bx.pos bx.pos
  have l2 : lgI y.num + lgI (x.den : Int) < mulLine := lg_mul b2.n bx.di (by omega) bx.pos bx.pos
  have e : decide (x < y) = decide (x.num * y.den < y.num * x.den) := by
    simp only [Rat.lt_iff]
  simp [evDef, startS, PX.execs, PX.exec, evX, evXB, evXL, frzS, anyOw, evE, evL, evJ, evT, bindE, bindT, bindTp, opCmp, opI2, storeIx, E.non?, slB, Bx.less, sp_top_of h.top_of, sp_bottom_of h.bottom_of, l1, l2, e]
theorem lg_div {i : Int} {k : Nat} (h : i.natAbs < 2 ^ k) (hk : 0 < k) (hl : k ≤ 9000) : lgI i < divLine := Nat.lt_of_lt_of_le (lg_lt h hk) hl
theorem sp_floor (h : HasY p) {x : Rat} {k : Nat} (bx : Bd k x) (hk : k ≤ 4000) : p.call (m + 2) "floor_of" [enc x] = .ok (.fz (.int x.floor)) := by
  rw [h.floor_of.run]
  have l1 : lgI (x.den : Int) < divLine := lg_div bx.di bx.pos (by omega)
  rw [Rat.floor_def, ← Int.fdiv_eq_ediv_of_nonneg _ (by omega)]
  simp [evDef, startS, PX.execs, PX.exec, evX, evXB, evXL, frzS, anyOw, evE, evL, evJ, evT, bindE, bindT, bindTp, opCmp, opI2, storeIx, E.non?, slB, Bx.floor_of, sp_top_of h.top_of, sp_bottom_of h.bottom_of, l1, den_nz x, x.den_nz]
theorem sp_ceiling (h : HasY p) {x : Rat} {k : Nat} (bx : Bd k x) (hk : k ≤ 4000) : p.call (m + 2) "ceiling_of" [enc x] = .ok (.fz (.int (-(-x).floor))) := by
  rw [h.ceiling_of.run]
  have l1 : lgI (x.den : Int) < divLine := lg_div bx.di bx.pos (by omega)
  rw [Rat.floor_def, ← Int.fdiv_eq_ediv_of_nonneg _ (by omega)]
  simp [evDef, startS, PX.execs, PX.exec, evX, evXB, evXL, frzS, anyOw, evE, evL, evJ, evT, bindE, bindT, bindTp, opCmp, opI2, storeIx, E.non?, slB, Bx.ceiling_of, sp_top_of h.top_of, sp_bottom_of h.bottom_of, l1, den_nz x, x.den_nz]
theorem sp_nearest (h : HasY p) {x : Rat} {k : Nat} (bx : Bd k x) (hk : k ≤ 4000) : p.call (m + 2) "nearest" [enc x] = .ok (.fz (.int ((2 * x.num + x.den).fdiv (2 * x.den)))) := by
  rw [h.nearest.run]
  have t2 : (2 : Int).natAbs < 2 ^ 2 := by decide
  have l1 : lgI 2 + lgI x.num < mulLine := lg_mul t2 bx.n (by omega) (by decide) bx.pos
  have l2 : lgI 2 + lgI (x.den : Int) < mulLine := lg_mul t2 bx.di (by omega) (by decide) bx.pos
  have l3 : lgI (2 * (x.den : Int)) < divLine := lg_div (pw_imul t2 bx.di) (by omega) (by omega)
  have n0 : 2 * (x.den : Int) ≠ 0 := by have := den_nz x; omega
  simp [evDef, startS, PX.execs, PX.exec, evX, evXB, evXL, frzS, anyOw, evE, evL, evJ, evT, bindE, bindT, bindTp, opCmp, opI2, storeIx, E.non?, slB, Bx.nearest, sp_top_of h.top_of, sp_bottom_of h.bottom_of, l1, l2, l3, n0, x.den_nz]
end
end PX

set_option Elab.async false
set_option linter.all false
set_option maxRecDepth 100000
/-! EXc: exact numbers, the functions on lists of numbers. -/
namespace PX
open PySem PySem.Spec PyProof.Rows L2
section
variable {p : Prg} {m : Nat}
theorem forGo_nil {tg : Tg} {b : Rho → RS} {ρ : Rho} : forGo tg b [] ρ = .ok (.nx ρ) := by rw [forGo]
theorem forGo_cons {tg : Tg} {b : Rho → RS} {ρ : Rho} {d : D} {ds : List D} : forGo tg b (d :: ds) ρ = (bindT tg d ρ).on ρ fun ρ1 => (b ρ1).turn (forGo tg b ds) := by rw [forGo]
/-- the least common multiple of the bottoms -/
def lcmG (c : Nat) : List Rat → Nat
  | [] => c
  | x :: r => lcmG (Nat.lcm c x.den) r
theorem lcm_le {a b : Nat} : Nat.lcm a b ≤ a * b := by
  unfold Nat.lcm
  exact Nat.div_le_self _ _
theorem lcm_loop (h : HasY p) {B : Nat} (hB : 0 < B) : ∀ (xs : List Rat) (c : Nat) (a s : Sl), (∀ x, x ∈ xs → x.den ≤ B) → c * B ^ xs.length < 2 ^ 64 → B < 2 ^ 64 →
    ∃ s', forGo (.nm 2) (fun ρ => execs (p.tb (m + 1)) Bx.common_bottom_b1 ρ) (xs.map enc) [a, .fz (.int c), s] = .ok (.nx [a, .fz (.int (lcmG c xs)), s'])
  | [], c, a, s, _, _, _ => ⟨s, forGo_nil⟩
  | x :: xs, c, a, s, hx, hl, hb => by
    have d1 : x.den ≤ B := hx x List.mem_cons_self
    have d2 : x.den < 2 ^ 64 := by omega
    have d3 : c < 2 ^ 64 := Nat.lt_of_le_of_lt (Nat.le_mul_of_pos_right c (Nat.pow_pos hB)) hl
    have d4 : Nat.lcm c x.den * B ^ xs.length < 2 ^ 64 := by
      refine Nat.lt_of_le_of_lt ?_ hl
      rw [List.length_cons, Nat.pow_succ, Nat.mul_comm (B ^ xs.length) B, ← Nat.mul_assoc]
      exact Nat.mul_le_mul_right _ (Nat.le_trans lcm_le (Nat.mul_le_mul_left c d1))
    obtain ⟨s', e⟩ := lcm_loop h hB xs (Nat.lcm c x.den) a (.fz (enc x)) (fun y hy => hx y (List.mem_cons_of_mem _ hy)) d4 hb
    refine ⟨s', ?_⟩
    rw [List.map_cons, forGo_cons]
    have z : execs (p.tb (m + 1)) Bx.common_bottom_b1 [a, .fz (.int c), .fz (enc x)] = .ok (.nx [a, .fz (.int (Nat.lcm c x.den)), .fz (enc x)]) := by
      cases a <;> simp [evDef, startS, PX.execs, PX.exec, evX, evXB, evXL, frzS, anyOw, evE, evL, evJ, evT, bindE, bindT, bindTp, opCmp, opI2, storeIx, E.non?, slB, Bx.common_bottom_b1, sp_bottom_of h.bottom_of, d2, d3]
    simp only [bindT, R.on_ok, List.set]
    rw [z, RS.turn_nx]
    exact e
theorem sp_common (h : HasY p) {B : Nat} (hB : 0 < B) {xs : List Rat} (hx : ∀ x, x ∈ xs → x.den ≤ B) (hl : B ^ xs.length < 2 ^ 64) (hb : B < 2 ^ 64) : p.call (m + 2) "common_bottom" [.lst (xs.map enc)] = .ok (.fz (.int (lcmG 1 xs))) := by
  rw [h.common_bottom.run]
  obtain ⟨s', e⟩ := lcm_loop (m := m) h hB xs 1 (.fz (.lst (xs.map enc))) .un hx (by rw [Nat.one_mul]; exact hl) hb
  simp [evDef, startS, PX.execs, PX.exec, evX, evXB, evXL, frzS, anyOw, evE, evL, evJ, evT, bindE, bindT, bindTp, opCmp, opI2, storeIx, E.non?, slB, Bx.common_bottom]
  rw [show (1 : Int) = ((1 : Nat) : Int) from rfl, e]
  simp
def leastG : Option Rat → List Rat → Option Rat
  | b, [] => b
  | none, x :: r => leastG (some x) r
  | some b, x :: r => leastG (some (if x < b then x else b)) r
def mostG : Option Rat → List Rat → Option Rat
  | b, [] => b
  | none, x :: r => mostG (some x) r
  | some b, x :: r => mostG (some (if b < x then x else b)) r
def encO : Option Rat → D
  | none => .non
  | some x => enc x
theorem least_loop (h : HasY p) {k : Nat} (hk : k ≤ 4000) : ∀ (xs : List Rat) (o : Option Rat) (a s : Sl), (∀ x, x ∈ xs → Bd k x) → (∀ x, o = some x → Bd k x) →
    ∃ s', forGo (.nm 2) (fun ρ => execs (p.tb (m + 2)) Bx.least_of_b1 ρ) (xs.map enc) [a, .fz (encO o), s] = .ok (.nx [a, .fz (encO (leastG o xs)), s'])
  | [], o, a, s, _, _ => ⟨s, by cases o <;> exact forGo_nil⟩
  | x :: xs, o, a, s, hx, ho => by
    have bx := hx x List.mem_cons_self
    rw [List.map_cons, forGo_cons]
    simp only [bindT, R.on_ok, List.set]
    cases o with
    | none =>
      obtain ⟨s', e⟩ := least_loop h hk xs (some x) a (.fz (enc x)) (fun y hy => hx y (List.mem_cons_of_mem _ hy)) (fun y hy => by cases hy; exact bx)
      refine ⟨s', ?_⟩
      have z : execs (p.tb (m + 2)) Bx.least_of_b1 [a, .fz (encO none), .fz (enc x)] = .ok (.nx [a, .fz (encO (some x)), .fz (enc x)]) := by
        simp [evDef, startS, PX.execs, PX.exec, evX, evXB, evXL, frzS, anyOw, evE, evL, evJ, evT, bindE, bindT, bindTp, opCmp, opI2, storeIx, E.non?, slB, Bx.least_of_b1, encO]
      rw [z, RS.turn_nx]
      exact e
    | some y =>
      have by' := ho y rfl
      obtain ⟨s', e⟩ := least_loop h hk xs (some (if x < y then x else y)) a (.fz (enc x)) (fun y hy => hx y (List.mem_cons_of_mem _ hy)) (fun z hz => by cases hz; split; exact bx; exact by')
      refine ⟨s', ?_⟩
      have z : execs (p.tb (m + 2)) Bx.least_of_b1 [a, .fz (encO (some y)), .fz (enc x)] = .ok (.nx [a, .fz (encO (some (if x < y then x else y))), .fz (enc x)]) := by
        have l := sp_less (m := m) h bx by' hk
        by_cases c : x < y
        · rw [decide_eq_true c] at l
          simp [evDef, startS, PX.execs, PX.exec, evX, evXB, evXL, frzS, anyOw, evE, evL, evJ, evT, bindE, bindT, bindTp, opCmp, opI2, storeIx, E.non?, slB, Bx.least_of_b1, encO, l, enc_isNon, c]
        · rw [decide_eq_false c] at l
          simp [evDef, startS, PX.execs, PX.exec, evX, evXB, evXL, frzS, anyOw, evE, evL, evJ, evT, bindE, bindT, bindTp, opCmp, opI2, storeIx, E.non?, slB, Bx.least_of_b1, encO, l, enc_isNon, c]
      rw [z, RS.turn_nx]
      exact e
theorem sp_least (h : HasY p) {k : Nat} (hk : k ≤ 4000) {xs : List Rat} (hx : ∀ x, x ∈ xs → Bd k x) : p.call (m + 3) "least_of" [.lst (xs.map enc)] = .ok (.fz (encO (leastG none xs))) := by
  rw [h.least_of.run]
  obtain ⟨s', e⟩ := least_loop (m := m) h hk xs none (.fz (.lst (xs.map enc))) .un hx (fun _ z => by cases z)
  simp [evDef, startS, PX.execs, PX.exec, evX, evXB, evXL, frzS, anyOw, evE, evL, evJ, evT, bindE, bindT, bindTp, opCmp, opI2, storeIx, E.non?, slB, Bx.least_of]
  rw [show D.non = encO none from rfl, e]
  simp
theorem most_loop (h : HasY p) {k : Nat} (hk : k ≤ 4000) : ∀ (xs : List Rat) (o : Option Rat) (a s : Sl), (∀ x, x ∈ xs → Bd k x) → (∀ x, o = some x → Bd k x) →
    ∃ s', forGo (.nm 2) (fun ρ => execs (p.tb (m + 2)) Bx.greatest_of_b1 ρ) (xs.map enc) [a, .fz (encO o), s] = .ok (.nx [a, .fz (encO (mostG o xs)), s'])
  | [], o, a, s, _, _ => ⟨s, by cases o <;> exact forGo_nil⟩
  | x :: xs, o, a, s, hx, ho => by
    have bx := hx x List.mem_cons_self
    rw [List.map_cons, forGo_cons]
    simp only [bindT, R.on_ok, List.set]
    cases o with
    | none =>
      obtain ⟨s', e⟩ := most_loop h hk xs (some x) a (.fz (enc x)) (fun y hy => hx y (List.mem_cons_of_mem _ hy)) (fun y hy => by cases hy; exact bx)
      refine ⟨s', ?_⟩
      have z : execs (p.tb (m + 2)) Bx.greatest_of_b1 [a, .fz (encO none), .fz (enc x)] = .ok (.nx [a, .fz (encO (some x)), .fz (enc x)]) := by
        simp [evDef, startS, PX.execs, PX.exec, evX, evXB, evXL, frzS, anyOw, evE, evL, evJ, evT, bindE, bindT, bindTp, opCmp, opI2, storeIx, E.non?, slB, Bx.greatest_of_b1, encO]
      rw [z, RS.turn_nx]
      exact e
    | some y =>
      have by' := ho y rfl
      obtain ⟨s', e⟩ := most_loop h hk xs (some (if y < x then x else y)) a (.fz (enc x)) (fun y hy => hx y (List.mem_cons_of_mem _ hy)) (fun z hz => by cases hz; split; exact bx; exact by')
      refine ⟨s', ?_⟩
      have z : execs (p.tb (m + 2)) Bx.greatest_of_b1 [a, .fz (encO (some y)), .fz (enc x)] = .ok (.nx [a, .fz (encO (some (if y < x then x else y))), .fz (enc x)]) := by
        have l := sp_less (m := m) h by' bx hk
        by_cases c : y < x
        · rw [decide_eq_true c] at l
          simp [evDef, startS, PX.execs, PX.exec, evX, evXB, evXL, frzS, anyOw, evE, evL, evJ, evT, bindE, bindT, bindTp, opCmp, opI2, storeIx, E.non?, slB, Bx.greatest_of_b1, encO, l, enc_isNon, c]
        · rw [decide_eq_false c] at l
          simp [evDef, startS, PX.execs, PX.exec, evX, evXB, evXL, frzS, anyOw, evE, evL, evJ, evT, bindE, bindT, bindTp, opCmp, opI2, storeIx, E.non?, slB, Bx.greatest_of_b1, encO, l, enc_isNon, c]
      rw [z, RS.turn_nx]
      exact e
theorem sp_most (h : HasY p) {k : Nat} (hk : k ≤ 4000) {xs : List Rat} (hx : ∀ x, x ∈ xs → Bd k x) : p.call (m + 3) "greatest_of" [.lst (xs.map enc)] = .ok (.fz (encO (mostG none xs))) := by
  rw [h.greatest_of.run]
  obtain ⟨s', e⟩ := most_loop (m := m) h hk xs none (.fz (.lst (xs.map enc))) .un hx (fun _ z => by cases z)
  simp [evDef, startS, PX.execs, PX.exec, evX, evXB, evXL, frzS, anyOw, evE, evL, evJ, evT, bindE, bindT, bindTp, opCmp, opI2, storeIx, E.non?, slB, Bx.greatest_of]
  rw [show D.non = encO none from rfl, e]
  simp
/-! what they are -/
theorem leastG_some : ∀ (xs : List Rat) (b : Rat), ∃ r, leastG (some b) xs = some r ∧ (r = b ∨ r ∈ xs) ∧ r ≤ b ∧ ∀ x, x ∈ xs → r ≤ x
  | [], b => ⟨b, rfl, .inl rfl, Rat.le_refl, fun x hx => by cases hx⟩
  | x :: xs, b => by
    obtain ⟨r, e1, e2, e3, e4⟩ := leastG_some xs (if x < b then x else b)
    refine ⟨r, e1, ?_, ?_, ?_⟩
    · rcases e2 with e2 | e2
      · split at e2
        · exact .inr (e2 ▸ List.mem_cons_self)
        · exact .inl e2
      · exact .inr (List.mem_cons_of_mem _ e2)
    · split at e3
      · rename_i c; exact Rat.le_trans e3 (Rat.le_of_lt c)
      · exact e3
    · intro y hy
      rcases List.mem_cons.mp hy with rfl | hy
      · split at e3
        · exact e3
        · rename_i c; exact Rat.le_trans e3 (Rat.not_lt.1 c)
      · exact e4 y hy
theorem mostG_some : ∀ (xs : List Rat) (b : Rat), ∃ r, mostG (some b) xs = some r ∧ (r = b ∨ r ∈ xs) ∧ b ≤ r ∧ ∀ x, x ∈ xs → x ≤ r
  | [], b => ⟨b, rfl, .inl rfl, Rat.le_refl, fun x hx => by cases hx⟩
  | x :: xs, b => by
    obtain ⟨r, e1, e2, e3, e4⟩ := mostG_some xs (if b < x then x else b)
    refine ⟨r, e1, ?_, ?_, ?_⟩
    · rcases e2 with e2 | e2
      · split at e2
        · exact .inr (e2 ▸ List.mem_cons_self)
        · exact .inl e2
      · exact .inr (List.mem_cons_of_mem _ e2)
    · split at e3
      · rename_i c; exact Rat.le_trans (Rat.le_of_lt c) e3
      · exact e3
    · intro y hy
      rcases List.mem_cons.mp hy with rfl | hy
      · split at e3
        · exact e3
        · rename_i c; exact Rat.le_trans (Rat.not_lt.1 c) e3
      · exact e4 y hy
end
end PX

set_option Elab.async false
set_option linter.all false
set_option maxRecDepth 100000
/-! EXd: texts of numbers. -/
namespace PX
open PySem PySem.Spec PyProof.Rows L2 PySem.NumText

/-- a text by its signs -/
def tx (l : List Nat) : Str := ⟨l.toArray⟩
@[simp] theorem tx_list (l : List Nat) : (tx l).cps.toList = l := by simp [tx]
theorem tx_of (s : Str) : tx s.cps.toList = s := by cases s; simp [tx]
@[simp] theorem tx_len (l : List Nat) : (tx l).length = l.length := by simp [tx, Str.length]
theorem tx_app (a b : List Nat) : tx a ++ tx b = tx (a ++ b) := by
  rw [← tx_of (tx a ++ tx b)]
  congr 1
  show ((tx a).cps ++ (tx b).cps).toList = _
  rw [Array.toList_append, tx_list, tx_list]
theorem tx_inj {a b : List Nat} : tx a = tx b ↔ a = b := ⟨fun h => by rw [← tx_list a, h, tx_list], fun h => by rw [h]⟩
def dg (n : Nat) : List Nat := (Nat.toDigits 10 n).map Char.toNat
theorem dg_all (n : Nat) : AllDigits (dg n) := by
  intro c hc
  obtain ⟨ch, hch, e⟩ := List.mem_map.mp hc
  have r := digit_range (Nat.isDigit_of_mem_toDigits (by decide) (by decide) hch)
  rw [← e]
  exact r
theorem dg_val (n : Nat) : digitsVal (dg n) = n := PySem.W.KIN.val_back n
theorem dg_ne (n : Nat) : dg n ≠ [] := by
  intro e
  have h := PySem.W.KIN.signs_num n
  have h2 : (Nat.toDigits 10 n).length = 0 := by
    have := congrArg List.length (List.map_eq_nil_iff.mp e)
    simpa using this
  have := @Nat.length_toDigits_pos 10 n
  omega
def intL (i : Int) : List Nat := if i < 0 then 45 :: dg i.natAbs else dg i.natAbs
theorem toS (i : Int) : (toString i : Str) = tx (intL i) := by
  rw [← tx_of (Str.ofString (toString i))]
  congr 1
  unfold intL
  split
  · rename_i h
    obtain ⟨m, rfl⟩ : ∃ m, i = Int.negSucc m := Int.eq_negSucc_of_lt_zero h
    rw [signs_ofString]
    show ("-" ++ Nat.repr (m + 1)).toList.map Char.toNat = 45 :: dg (m + 1)
    rw [String.toList_append, List.map_append, Nat.toList_repr]
    rfl
  · rename_i h
    obtain ⟨m, rfl⟩ := Int.eq_ofNat_of_zero_le (show 0 ≤ i by omega)
    exact PySem.W.KIN.signs_num m
theorem slash_eq : ("/" : Str) = tx [47] := by decide +kernel
theorem dash_eq : ("-" : Str) = tx [45] := by decide +kernel
theorem none_eq : ("" : Str) = tx [] := by decide +kernel
theorem digs_eq : ("0123456789" : Str) = tx [48, 49, 50, 51, 52, 53, 54, 55, 56, 57] := by decide +kernel
theorem part_no {l : List Nat} (h : 47 ∉ l) : Txt.partition (tx l) (tx [47]) = (tx l, tx [], tx []) := by
  unfold Txt.partition
  rcases StrLaws.occ_head (tx l) (tx [47]) 1 (Nat.le_refl 1) with ⟨e, _⟩ | ⟨i, r, e, hi, _⟩
  · rw [e]; rfl
  · exfalso
    have hm := (StrLaws.subAt_one (tx l) 47 i).mp hi
    rw [tx_list] at hm
    exact h (List.mem_of_getElem? hm)
theorem part_at {a b : List Nat} (h : 47 ∉ a) : Txt.partition (tx (a ++ 47 :: b)) (tx [47]) = (tx a, tx [47], tx b) := by
  unfold Txt.partition
  have hat : (a ++ 47 :: b)[a.length]? = some 47 := by simp
  rcases StrLaws.occ_head (tx (a ++ 47 :: b)) (tx [47]) 1 (Nat.le_refl 1) with ⟨e, hn⟩ | ⟨i, r, e, hi, hn⟩
  · exfalso
    exact hn a.length ((StrLaws.subAt_one _ 47 a.length).mpr (by rw [tx_list]; exact hat))
  · have hm := (StrLaws.subAt_one _ 47 i).mp hi
    rw [tx_list] at hm
    have hia : i = a.length := by
      rcases Nat.lt_trichotomy i a.length with q | q | q
      · exfalso
        rw [List.getElem?_append_left q] at hm
        exact h (List.mem_of_getElem? hm)
      · exact q
      · exfalso
        exact hn a.length q ((StrLaws.subAt_one _ 47 a.length).mpr (by rw [tx_list]; exact hat))
    subst hia
    rw [e]
    have e1 : Builtin.Str.strSub (tx (a ++ 47 :: b)) 0 a.length = tx a := by
      rw [← tx_of (Builtin.Str.strSub _ _ _), StrLaws.strSub_toList, tx_list]
      simp
    have e2 : Builtin.Str.strSub (tx (a ++ 47 :: b)) (a.length + (tx [47]).length) (tx (a ++ 47 :: b)).length = tx b := by
      rw [← tx_of (Builtin.Str.strSub _ _ _), StrLaws.strSub_toList, tx_list]
      simp [List.drop_append]
      rw [show a.length + (b.length + 1) - (a.length + 1) = b.length by omega, List.take_of_length_le (by simp), List.drop_of_length_le (by omega)]
      rfl
    show (_, _, _) = _
    rw [e1, e2]
theorem cut_from (l : List Nat) : cutS (tx l) (some 1) none = tx (l.drop 1) := by
  unfold cutS
  rw [tx_list, tx_len]
  cases l with
  | nil => rfl
  | cons c l => simp [HT.sIx, tx]
theorem cut_to (l : List Nat) : cutS (tx l) none (some 1) = tx (l.take 1) := by
  unfold cutS
  rw [tx_list, tx_len]
  cases l with
  | nil => rfl
  | cons c l => simp [HT.sIx, tx]

structure HasT (p : Prg) : Prop extends HasY p where
  number_text : HasF p "number_text" 1 1 Bx.number_text
  read_numeral : HasF p "read_numeral" 2 1 Bx.read_numeral
  read_number : HasF p "read_number" 8 1 Bx.read_number
  digits : p.cst "DIGITS" = some (.str (tx [48, 49, 50, 51, 52, 53, 54, 55, 56, 57]))
  most : p.cst "MOST_DIGITS" = some (.int 400)
/-- the written form -/
def numL (x : Rat) : List Nat := intL x.num ++ if x.den = 1 then [] else 47 :: dg x.den
theorem dg_len {n k : Nat} (h : n < 10 ^ k) (hk : 0 < k) : (dg n).length ≤ k := by
  unfold dg
  rw [List.length_map]
  exact (Nat.length_toDigits_le_iff (by decide) hk).2 h
section
variable {p : Prg} {m : Nat}
theorem strOf_str {s : Str} (h : s.length ≤ sizeLine) : strOf (.str s) = some s := if_pos h
theorem strOf_int {i : Int} (h : lgI i < 1920) : strOf (.int i) = some (tx (intL i)) := by
  show (if lgI i < 1920 then _ else _) = _
  rw [if_pos h, toS]
theorem evStr {i : Int} (h : lgI i < 1920) : evBi .str [.int i] = .ok (.fz (.str (tx (intL i)))) := by
  show (if lgI i < 1920 then _ else _) = _
  rw [if_pos h, toS]
theorem intL_len {i : Int} {k : Nat} (h : i.natAbs < 10 ^ k) (hk : 0 < k) : (intL i).length ≤ k + 1 := by
  have := dg_len h hk
  unfold intL
  split
  · rw [List.length_cons]; omega
  · omega
theorem sizeBig : (100000 : Nat) ≤ sizeLine := by rw [sizeLine_eq]; decide
theorem sp_number_text (h : HasT p) {x : Rat} {k : Nat} (bx : Bd k x) (hk : k ≤ 1900) : p.call (m + 2) "number_text" [enc x] = .ok (.fz (.str (tx (numL x)))) := by
  rw [h.number_text.run]
  have w1 := sp_is_whole (m := m) h.is_whole x
  have l1 : lgI x.num < 1920 := Nat.lt_of_lt_of_le (lg_lt bx.n bx.pos) (by omega)
  have l2 : lgI (x.den : Int) < 1920 := Nat.lt_of_lt_of_le (lg_lt bx.di bx.pos) (by omega)
  have t2 : 2 ^ k ≤ 10 ^ 1900 := Nat.le_trans (Nat.pow_le_pow_right (by decide) hk) (Nat.pow_le_pow_left (by decide) 1900)
  have z1 : (intL x.num).length ≤ 1901 := intL_len (Nat.lt_of_lt_of_le bx.n t2) (by decide)
  have z2 : (dg x.den).length ≤ 1900 := dg_len (Nat.lt_of_lt_of_le bx.d t2) (by decide)
  have sb := sizeBig
  have id2 : intL (x.den : Int) = dg x.den := by
    unfold intL
    rw [if_neg (by omega)]
    rfl
  by_cases hx : x.den = 1
  · rw [decide_eq_true hx] at w1
    have e : numL x = intL x.num := by unfold numL; rw [if_pos hx, List.append_nil]
    rw [e]
    have es : evBi .str [enc x] = .ok (.fz (.str (tx (intL x.num)))) := by rw [enc_one hx]; exact evStr l1
    simp [evDef, startS, PX.execs, PX.exec, evX, evXB, evXL, frzS, anyOw, evE, evL, evJ, evT, bindE, bindT, bindTp, opCmp, opI2, storeIx, E.non?, slB, Bx.number_text, w1, es]
  · rw [decide_eq_false hx] at w1
    have e : numL x = intL x.num ++ 47 :: dg x.den := by unfold numL; rw [if_neg hx]
    rw [e]
    have s0 : strOf (.str "/") = some (tx [47]) := by
      rw [slash_eq]
      exact strOf_str (by rw [tx_len]; simp; omega)
    have a1 : Str.empty ++ tx (intL x.num) = tx (intL x.num) := by
      show tx [] ++ _ = _
      rw [tx_app]; rfl
    have c1 : (intL x.num).length ≤ sizeLine := by omega
    have c2 : (intL x.num).length + 1 ≤ sizeLine := by omega
    have c3 : (intL x.num).length + ((dg x.den).length + 1) ≤ sizeLine := by omega
    simp [evDef, startS, PX.execs, PX.exec, evX, evXB, evXL, frzS, anyOw, evE, evL, evJ, evT, bindE, bindT, bindTp, opCmp, opI2, storeIx, E.non?, slB, Bx.number_text, w1, enc_at0 hx, enc_at1 hx, strOf_int l1, strOf_int l2, s0, a1, c1, c2, c3, tx_app, id2]

theorem in_digits (c : Nat) : decide (c ∈ [48, 49, 50, 51, 52, 53, 54, 55, 56, 57]) = decide (48 ≤ c ∧ c ≤ 57) := by
  apply decide_eq_decide.mpr
  simp only [List.mem_cons, List.not_mem_nil, or_false]
  omega
def chL (l : List Nat) : List D := l.map fun c => .str ⟨#[c]⟩
theorem dig_step (h : HasT p) (a : Sl) (c : Nat) : execs (p.tb m) Bx.read_numeral_b1 [a, .fz (.str ⟨#[c]⟩)] = if 48 ≤ c ∧ c ≤ 57 then .ok (.nx [a, .fz (.str ⟨#[c]⟩)]) else .ex "BadText" [] [a, .fz (.str ⟨#[c]⟩)] := by
  have q : opIn (.str ⟨#[c]⟩) (.str (tx [48, 49, 50, 51, 52, 53, 54, 55, 56, 57])) = .ok (decide (48 ≤ c ∧ c ≤ 57)) := by
    rw [← in_digits]
    show (if (#[c] : Array Nat).size = 1 then R.ok (decide ((#[c] : Array Nat).getD 0 0 ∈ (tx [48, 49, 50, 51, 52, 53, 54, 55, 56, 57]).cps.toList)) else R.st) = _
    rw [if_pos (show (#[c] : Array Nat).size = 1 from rfl), tx_list]
    rfl
  by_cases hc : 48 ≤ c ∧ c ≤ 57
  · rw [if_pos hc, decide_eq_true hc] at *
    simp [evDef, startS, PX.execs, PX.exec, evX, evXB, evXL, frzS, anyOw, evE, evL, evJ, evT, bindE, bindT, bindTp, opCmp, opI2, storeIx, E.non?, slB, Bx.read_numeral_b1, h.digits, q]
  · rw [if_neg hc, decide_eq_false hc] at *
    simp [evDef, startS, PX.execs, PX.exec, evX, evXB, evXL, frzS, anyOw, evE, evL, evJ, evT, bindE, bindT, bindTp, opCmp, opI2, storeIx, E.non?, slB, Bx.read_numeral_b1, h.digits, q]
theorem dig_loop (h : HasT p) (a : Sl) : ∀ (l : List Nat) (s : Sl), (AllDigits l → ∃ s', forGo (.nm 1) (fun ρ => execs (p.tb m) Bx.read_numeral_b1 ρ) (chL l) [a, s] = .ok (.nx [a, s'])) ∧
    (¬ AllDigits l → ∃ ρ, forGo (.nm 1) (fun ρ => execs (p.tb m) Bx.read_numeral_b1 ρ) (chL l) [a, s] = .ex "BadText" [] ρ)
  | [], s => ⟨fun _ => ⟨s, forGo_nil⟩, fun z => absurd (fun c hc => by cases hc) z⟩
  | c :: l, s => by
    have e := dig_step (m := m) h a c
    obtain ⟨i1, i2⟩ := dig_loop h a l (.fz (.str ⟨#[c]⟩))
    have st : forGo (.nm 1) (fun ρ => execs (p.tb m) Bx.read_numeral_b1 ρ) (chL (c :: l)) [a, s] = (execs (p.tb m) Bx.read_numeral_b1 [a, .fz (.str ⟨#[c]⟩)]).turn (forGo (.nm 1) (fun ρ => execs (p.tb m) Bx.read_numeral_b1 ρ) (chL l)) := by
      show forGo _ _ (_ :: chL l) _ = _
      rw [forGo_cons]
      simp only [bindT, R.on_ok, List.set]
    rw [st, e]
    refine ⟨fun z => ?_, fun z => ?_⟩
    · rw [if_pos z.head, RS.turn_nx]
      exact i1 z.tail
    · by_cases hc : 48 ≤ c ∧ c ≤ 57
      · rw [if_pos hc, RS.turn_nx]
        refine i2 fun y => z fun d hd => ?_
        rcases List.mem_cons.mp hd with rfl | hd
        · exact hc
        · exact y d hd
      · rw [if_neg hc]
        exact ⟨_, rfl⟩
theorem opEq_str (a b : List Nat) : opEq false (.str (tx a)) (.str (tx b)) = .ok (decide (a = b)) := by
  show R.ok (if false = true then _ else decide (tx a = tx b)) = _
  rw [if_neg Bool.false_ne_true]
  congr 1
  exact decide_eq_decide.mpr tx_inj
theorem opNe_str (a b : List Nat) : opEq true (.str (tx a)) (.str (tx b)) = .ok (!decide (a = b)) := by
  show R.ok (if true = true then !decide (tx a = tx b) else _) = _
  rw [if_pos rfl]
  congr 2
  exact decide_eq_decide.mpr tx_inj
theorem itVal_str (l : List Nat) : itVal [.str (tx l)] = .ok (chL l) := by
  show R.ok _ = _
  rw [tx_list]
  rfl
theorem bi_int_str {l : List Nat} (h : AllDigits l) (h1 : l ≠ []) (h2 : l.length ≤ 640) : evBi .int [.str (tx l)] = .ok (.fz (.int (digitsVal l))) := by
  have e : intText? (tx l) = some ((digitsVal l : Nat) : Int) := by
    have := intText_digits (x := tx l) (by rw [tx_list]; exact h) (by rw [tx_list]; exact h1) (by rw [tx_len]; omega)
    rw [tx_list] at this
    exact this
  show (match intText? (tx l) with | some n => _ | none => _) = _
  rw [e]
  exact if_pos (by rw [tx_len]; exact h2)
theorem sp_numeral (h : HasT p) {l : List Nat} (hd : AllDigits l) (h1 : l ≠ []) (h2 : l.length ≤ 400) : p.call (m + 1) "read_numeral" [.str (tx l)] = .ok (.fz (.int (digitsVal l))) := by
  rw [h.read_numeral.run]
  have sb := sizeBig
  obtain ⟨s', e⟩ := (dig_loop (m := m) h (.fz (.str (tx l))) l .un).1 hd
  have c0 : l.length ≤ sizeLine := by omega
  have c1 : ¬ (400 : Int) < (l.length : Int) := by omega
  have q := opEq_str l []
  rw [decide_eq_false h1] at q
  rw [← none_eq] at q
  simp only [Bx.read_numeral, evDef, execs, exec]
  simp [evDef, startS, PX.execs, PX.exec, evX, evXB, evXL, frzS, anyOw, evE, evL, evJ, evT, bindE, bindT, bindTp, opCmp, opI2, storeIx, E.non?, slB, h.most, opCmp, q, c0, c1, itVal_str]
  rw [e]
  simp [evDef, startS, PX.execs, PX.exec, evX, evXB, evXL, frzS, anyOw, evE, evL, evJ, evT, bindE, bindT, bindTp, opCmp, opI2, storeIx, E.non?, slB, bi_int_str hd h1 (show l.length ≤ 640 by omega)]
theorem sp_numeral_bad (h : HasT p) {l : List Nat} (hb : ¬ (AllDigits l ∧ l ≠ [] ∧ l.length ≤ 400)) (h2 : l.length ≤ 100000) : p.call (m + 1) "read_numeral" [.str (tx l)] = .ex "BadText" [] := by
  rw [h.read_numeral.run]
  have sb := sizeBig
  have c0 : l.length ≤ sizeLine := by omega
  have q := opEq_str l []
  by_cases h1 : l = []
  · rw [decide_eq_true h1] at q
    rw [← none_eq] at q
    simp only [Bx.read_numeral, evDef, execs, exec]
    simp [evDef, startS, PX.execs, PX.exec, evX, evXB, evXL, frzS, anyOw, evE, evL, evJ, evT, bindE, bindT, bindTp, opCmp, opI2, storeIx, E.non?, slB, h.most, opCmp, q, c0, itVal_str]
  · rw [decide_eq_false h1] at q
    rw [← none_eq] at q
    by_cases h3 : l.length ≤ 400
    · have c1 : ¬ (400 : Int) < (l.length : Int) := by omega
      obtain ⟨ρ, e⟩ := (dig_loop (m := m) h (.fz (.str (tx l))) l .un).2 (fun z => hb ⟨z, h1, h3⟩)
      simp only [Bx.read_numeral, evDef, execs, exec]
      simp [evDef, startS, PX.execs, PX.exec, evX, evXB, evXL, frzS, anyOw, evE, evL, evJ, evT, bindE, bindT, bindTp, opCmp, opI2, storeIx, E.non?, slB, h.most, opCmp, q, c0, c1, itVal_str]
      rw [e]
      simp
    · have c1 : (400 : Int) < (l.length : Int) := by omega
      simp only [Bx.read_numeral, evDef, execs, exec]
      simp [evDef, startS, PX.execs, PX.exec, evX, evXB, evXL, frzS, anyOw, evE, evL, evJ, evT, bindE, bindT, bindTp, opCmp, opI2, storeIx, E.non?, slB, h.most, opCmp, q, c0, c1, itVal_str]
/-- the text's body ahead of the sign -/
def bodyL (l : List Nat) : List Nat := if l.take 1 = [45] then l.drop 1 else l
theorem opSl_from (l : List Nat) (h : l.length ≤ sizeLine) : opSl (.str (tx l)) (some 1) none = .ok (.fz (.str (tx (l.drop 1)))) := by
  show (if _ ≤ sizeLine then _ else _) = _
  rw [if_pos (by rw [tx_len]; exact h), cut_from]
theorem opSl_to (l : List Nat) (h : l.length ≤ sizeLine) : opSl (.str (tx l)) none (some 1) = .ok (.fz (.str (tx (l.take 1)))) := by
  show (if _ ≤ sizeLine then _ else _) = _
  rw [if_pos (by rw [tx_len]; exact h), cut_to]
theorem me_part_no {l : List Nat} (h : 47 ∉ l) (hl : l.length ≤ sizeLine) : evMe .part (tx l) [.str "/"] = .ok (.fz (.tup [.str (tx l), .str (tx []), .str (tx [])])) := by
  rw [slash_eq]
  show (if _ ∧ _ then _ else _) = _
  rw [if_pos ⟨by rw [tx_len]; decide, by rw [tx_len]; exact hl⟩, part_no h]
theorem me_part_at {a b : List Nat} (h : 47 ∉ a) (hl : (a ++ 47 :: b).length ≤ sizeLine) : evMe .part (tx (a ++ 47 :: b)) [.str "/"] = .ok (.fz (.tup [.str (tx a), .str (tx [47]), .str (tx b)])) := by
  rw [slash_eq]
  show (if _ ∧ _ then _ else _) = _
  rw [if_pos ⟨by rw [tx_len]; decide, by rw [tx_len]; exact hl⟩, part_at h]
/-- a numeral -/
def isNum (l : List Nat) : Prop := AllDigits l ∧ l ≠ [] ∧ l.length ≤ 400
theorem digits_lt : ∀ (l : List Nat) (a : Nat), AllDigits l → l.foldl (fun acc c => acc * 10 + (c - 48)) a < (a + 1) * 10 ^ l.length
  | [], a, _ => by simp
  | c :: l, a, h => by
    have hc := h.head
    have q := digits_lt l (a * 10 + (c - 48)) h.tail
    rw [List.foldl_cons, List.length_cons, Nat.pow_succ]
    refine Nat.lt_of_lt_of_le q ?_
    rw [Nat.mul_comm (10 ^ l.length) 10, ← Nat.mul_assoc]
    exact Nat.mul_le_mul_right _ (by omega)
theorem isNum.lt {l : List Nat} (h : isNum l) : digitsVal l < 2 ^ 1400 := by
  have q := digits_lt l 0 h.1
  have q2 : 10 ^ l.length ≤ 10 ^ 400 := Nat.pow_le_pow_right (by decide) h.2.2
  have q3 : (10 : Nat) ^ 400 < 2 ^ 1400 := by decide +kernel
  unfold digitsVal
  omega
theorem execs_cons {T : Tb} {s : S} {ss : List S} {ρ : Rho} : execs T (s :: ss) ρ = (exec T s ρ).then (execs T ss) := by rw [execs]
/-- the sign put ahead -/
def sgn (l : List Nat) (n : Nat) : Int := if l.take 1 = [45] then -(n : Int) else n
theorem sgn_abs (l : List Nat) (n : Nat) : (sgn l n).natAbs = n := by
  unfold sgn
  split <;> omega
/-- the text's parts -/
inductive Parts (l : List Nat) : List Nat → Option (List Nat) → Prop
  | one (h : 47 ∉ bodyL l) : Parts l (bodyL l) none
  | two (a b : List Nat) (h : 47 ∉ a) (e : bodyL l = a ++ 47 :: b) : Parts l a (some b)
theorem body_len (l : List Nat) : (bodyL l).length ≤ l.length := by
  unfold bodyL
  split
  · rw [List.length_drop]; omega
  · exact Nat.le_refl _
def slL : Option (List Nat) → List Nat
  | none => []
  | some _ => [47]
theorem read_pre (h : HasT p) {l : List Nat} (hl : l.length ≤ 100000) {a : List Nat} {ob : Option (List Nat)} (q : Parts l a ob) :
    execs (p.tb (m + 2)) Bx.read_number [.fz (.str (tx l)), .un, .un, .un, .un, .un, .un, .un] =
      execs (p.tb (m + 2)) (Bx.read_number.drop 2) [.fz (.str (tx l)), .fz (.str (tx (bodyL l))), .fz (.str (tx a)), .fz (.str (tx (slL ob))), .fz (.str (tx (ob.getD []))), .un, .un, .un] := by
  have sb := sizeBig
  have c0 : l.length ≤ sizeLine := by omega
  have c1 : (bodyL l).length ≤ sizeLine := by have := body_len l; omega
  have o1 := opSl_from l c0
  have o2 := opSl_to l c0
  have o3 := opEq_str (l.take 1) [45]
  rw [← dash_eq] at o3
  have e1 : exec (p.tb (m + 2)) (Bx.read_number.getD 0 .pass) [.fz (.str (tx l)), .un, .un, .un, .un, .un, .un, .un] = .ok (.nx [.fz (.str (tx l)), .fz (.str (tx (bodyL l))), .un, .un, .un, .un, .un, .un]) := by
    unfold bodyL
    by_cases hs : l.take 1 = [45]
    · rw [decide_eq_true hs] at o3
      rw [if_pos hs]
      simp [evDef, startS, PX.execs, PX.exec, evX, evXB, evXL, frzS, anyOw, evE, evL, evJ, evT, bindE, bindT, bindTp, opCmp, opI2, storeIx, E.non?, slB, Bx.read_number, slB, o1, o2, opCmp, o3]
    · rw [decide_eq_false hs] at o3
      rw [if_neg hs]
      simp [evDef, startS, PX.execs, PX.exec, evX, evXB, evXL, frzS, anyOw, evE, evL, evJ, evT, bindE, bindT, bindTp, opCmp, opI2, storeIx, E.non?, slB, Bx.read_number, slB, o1, o2, opCmp, o3]
  show execs _ (Bx.read_number.getD 0 .pass :: Bx.read_number.getD 1 .pass :: Bx.read_number.drop 2) _ = _
  rw [execs_cons, e1, RS.then_nx, execs_cons]
  have e2 : exec (p.tb (m + 2)) (Bx.read_number.getD 1 .pass) [.fz (.str (tx l)), .fz (.str (tx (bodyL l))), .un, .un, .un, .un, .un, .un] = .ok (.nx [.fz (.str (tx l)), .fz (.str (tx (bodyL l))), .fz (.str (tx a)), .fz (.str (tx (slL ob))), .fz (.str (tx (ob.getD []))), .un, .un, .un]) := by
    cases q with
    | one hn =>
      have o4 := me_part_no hn c1
      simp [evDef, startS, PX.execs, PX.exec, evX, evXB, evXL, frzS, anyOw, evE, evL, evJ, evT, bindE, bindT, bindTp, opCmp, opI2, storeIx, E.non?, slB, Bx.read_number, o4, slL]
    | two a b hn e =>
      have o4 := me_part_at (b := b) hn (by rw [← e]; exact c1)
      rw [e]
      simp [evDef, startS, PX.execs, PX.exec, evX, evXB, evXL, frzS, anyOw, evE, evL, evJ, evT, bindE, bindT, bindTp, opCmp, opI2, storeIx, E.non?, slB, Bx.read_number, o4, slL]
  rw [e2, RS.then_nx]
def botV : Option (List Nat) → Nat
  | none => 1
  | some b => digitsVal b
/-- the slots behind the parts -/
def st0 (l a : List Nat) (ob : Option (List Nat)) : Rho := [.fz (.str (tx l)), .fz (.str (tx (bodyL l))), .fz (.str (tx a)), .fz (.str (tx (slL ob))), .fz (.str (tx (ob.getD []))), .un, .un, .un]
theorem Parts.len {l a : List Nat} {ob : Option (List Nat)} (q : Parts l a ob) : a.length ≤ l.length ∧ (ob.getD []).length ≤ l.length := by
  have := body_len l
  cases q with
  | one h => exact ⟨this, Nat.zero_le _⟩
  | two a b h e =>
    rw [e, List.length_append, List.length_cons] at this
    exact ⟨by omega, by show b.length ≤ _; omega⟩
theorem read_start (h : HasT p) {l : List Nat} (hl : l.length ≤ 100000) {a : List Nat} {ob : Option (List Nat)} (q : Parts l a ob) :
    p.call (m + 3) "read_number" [.str (tx l)] = (execs (p.tb (m + 2)) (Bx.read_number.drop 2) (st0 l a ob)).out := by
  rw [h.read_number.run]
  rw [evDef_out (show [D.str (tx l)].length = 1 from rfl)]
  rw [show startS 8 [D.str (tx l)] = [.fz (.str (tx l)), .un, .un, .un, .un, .un, .un, .un] from rfl, read_pre h hl q]
  rfl
theorem sp_read_bad (h : HasT p) {l : List Nat} (hl : l.length ≤ 100000) {a : List Nat} {ob : Option (List Nat)} (q : Parts l a ob) (hb : ¬ isNum a ∨ (∃ b, ob = some b ∧ ¬ isNum b) ∨ botV ob = 0) :
    p.call (m + 3) "read_number" [.str (tx l)] = .ex "BadText" [] := by
  rw [read_start h hl q]
  obtain ⟨l1, l2⟩ := q.len
  by_cases ha : isNum a
  · have o1 := sp_numeral (m := m + 1) h ha.1 ha.2.1 ha.2.2
    cases ob with
    | none =>
      rcases hb with z | ⟨b, z, _⟩ | z
      · exact absurd ha z
      · cases z
      · cases z
    | some b =>
      have sl : opEq false (.str (tx [47])) (.str "/") = .ok true := by rw [slash_eq, opEq_str]; rfl
      by_cases hb' : isNum b
      · have z : digitsVal b = 0 := by
          rcases hb with z | ⟨b', e, z⟩ | z
          · exact absurd ha z
          · cases e; exact absurd hb' z
          · exact z
        have o2 := sp_numeral (m := m + 1) h hb'.1 hb'.2.1 hb'.2.2
        rw [z] at o2
        simp [evDef, startS, PX.execs, PX.exec, evX, evXB, evXL, frzS, anyOw, evE, evL, evJ, evT, bindE, bindT, bindTp, opCmp, opI2, storeIx, E.non?, slB, Bx.read_number, st0, o1, slL, opCmp, sl, o2]
      · have o2 := sp_numeral_bad (m := m + 1) h (l := b) hb' (by have : b.length ≤ l.length := l2; omega)
        simp [evDef, startS, PX.execs, PX.exec, evX, evXB, evXL, frzS, anyOw, evE, evL, evJ, evT, bindE, bindT, bindTp, opCmp, opI2, storeIx, E.non?, slB, Bx.read_number, st0, o1, slL, opCmp, sl, o2]
  · have o1 := sp_numeral_bad (m := m + 1) h ha (by omega)
    simp [evDef, startS, PX.execs, PX.exec, evX, evXB, evXL, frzS, anyOw, evE, evL, evJ, evT, bindE, bindT, bindTp, opCmp, opI2, storeIx, E.non?, slB, Bx.read_number, st0, o1]
theorem sp_read (h : HasT p) {l : List Nat} (hl : l.length ≤ 100000) {a : List Nat} {ob : Option (List Nat)} (q : Parts l a ob) (ha : isNum a) (hb : ∀ b, ob = some b → isNum b) (h0 : botV ob ≠ 0) :
    p.call (m + 3) "read_number" [.str (tx l)] = if numL (Rat.divInt (sgn l (digitsVal a)) (botV ob)) = l then .ok (.fz (enc (Rat.divInt (sgn l (digitsVal a)) (botV ob)))) else .ex "BadText" [] := by
  rw [read_start h hl q]
  have sb := sizeBig
  have c0 : l.length ≤ sizeLine := by omega
  have o1 := sp_numeral (m := m + 1) h ha.1 ha.2.1 ha.2.2
  have d1 := ha.lt
  have d2 : botV ob < 2 ^ 1400 := by
    cases ob with
    | none => show 1 < _; decide +kernel
    | some b => exact (hb b rfl).lt
  have bd : Bd 1400 (Rat.divInt (sgn l (digitsVal a)) (botV ob)) := bd_divInt (by rw [sgn_abs]; exact d1) (by simpa using d2) (by omega)
  have o3 := sp_ratio (m := m + 1) h.ratio (a := sgn l (digitsVal a)) (b := (botV ob : Int)) (by omega) (pw_le (k := 1400) (by simpa using d2) (by decide))
  have o4 := sp_number_text (m := m) h bd (by decide)
  have o5 := opNe_str (numL (Rat.divInt (sgn l (digitsVal a)) (botV ob))) l
  have o6 := opSl_to l c0
  have o7 := opEq_str (l.take 1) [45]
  rw [← dash_eq] at o7
  have o8 : evE (p.tb (m + 2)) (st0 l a ob |>.set 5 (.fz (.int (digitsVal a)))) (.ite (.cmp .Eq (.var 3) (.str "/")) (.call "read_numeral" [.var 4]) (.int 1)) = .ok (.fz (.int (botV ob))) := by
    cases ob with
    | none =>
      have sl : opEq false (.str (tx [])) (.str "/") = .ok false := by rw [slash_eq, opEq_str]; rfl
      simp [evDef, startS, PX.execs, PX.exec, evX, evXB, evXL, frzS, anyOw, evE, evL, evJ, evT, bindE, bindT, bindTp, opCmp, opI2, storeIx, E.non?, slB, st0, slL, opCmp, sl, botV]
    | some b =>
      have sl : opEq false (.str (tx [47])) (.str "/") = .ok true := by rw [slash_eq, opEq_str]; rfl
      have hb' := hb b rfl
      have o2 := sp_numeral (m := m + 1) h hb'.1 hb'.2.1 hb'.2.2
      simp [evDef, startS, PX.execs, PX.exec, evX, evXB, evXL, frzS, anyOw, evE, evL, evJ, evT, bindE, bindT, bindTp, opCmp, opI2, storeIx, E.non?, slB, st0, slL, opCmp, sl, botV, o2]
  have h0' : ¬ (botV ob : Int) = 0 := by omega
  generalize hn : Rat.divInt (sgn l (digitsVal a)) (botV ob) = x at *
  show (execs (p.tb (m + 2)) (Bx.read_number.getD 2 .pass :: .asg (.nm 6) (.ite (.cmp .Eq (.var 3) (.str "/")) (.call "read_numeral" [.var 4]) (.int 1)) [3, 4] :: Bx.read_number.drop 4) (st0 l a ob)).out = _
  rw [execs_cons]
  have e1 : exec (p.tb (m + 2)) (Bx.read_number.getD 2 .pass) (st0 l a ob) = .ok (.nx ((st0 l a ob).set 5 (.fz (.int (digitsVal a))))) := by
    simp [evDef, startS, PX.execs, PX.exec, evX, evXB, evXL, frzS, anyOw, evE, evL, evJ, evT, bindE, bindT, bindTp, opCmp, opI2, storeIx, E.non?, slB, Bx.read_number, st0, o1]
  rw [e1, RS.then_nx, execs_cons]
  have e2 : exec (p.tb (m + 2)) (.asg (.nm 6) (.ite (.cmp .Eq (.var 3) (.str "/")) (.call "read_numeral" [.var 4]) (.int 1)) [3, 4]) ((st0 l a ob).set 5 (.fz (.int (digitsVal a)))) = .ok (.nx (((st0 l a ob).set 5 (.fz (.int (digitsVal a)))).set 6 (.fz (.int (botV ob))))) := by
    unfold exec evX
    rw [if_neg (by simp [anyOw, st0]), o8]
    simp [bindE, bindT, st0]
  rw [e2, RS.then_nx]
  have hv : ∀ (k : Bool), decide (l.take 1 = [45]) = k → sgn l (digitsVal a) = if k = true then -(digitsVal a : Int) else (digitsVal a : Int) := fun k hk => by
    subst hk
    unfold sgn
    simp
  cases hk : decide (l.take 1 = [45]) with
  | true =>
    rw [hk] at o7
    rw [hv _ hk, if_pos rfl] at o3
    by_cases hx : numL x = l
    · rw [if_pos hx]
      rw [decide_eq_true hx, Bool.not_true] at o5
      simp [evDef, startS, PX.execs, PX.exec, evX, evXB, evXL, frzS, anyOw, evE, evL, evJ, evT, bindE, bindT, bindTp, opCmp, opI2, storeIx, E.non?, slB, Bx.read_number, st0, o3, o4, o5, o6, o7, opCmp, h0, h0']
    · rw [if_neg hx]
      rw [decide_eq_false hx, Bool.not_false] at o5
      simp [evDef, startS, PX.execs, PX.exec, evX, evXB, evXL, frzS, anyOw, evE, evL, evJ, evT, bindE, bindT, bindTp, opCmp, opI2, storeIx, E.non?, slB, Bx.read_number, st0, o3, o4, o5, o6, o7, opCmp, h0, h0']
  | false =>
    rw [hk] at o7
    rw [hv _ hk, if_neg Bool.false_ne_true] at o3
    by_cases hx : numL x = l
    · rw [if_pos hx]
      rw [decide_eq_true hx, Bool.not_true] at o5
      simp [evDef, startS, PX.execs, PX.exec, evX, evXB, evXL, frzS, anyOw, evE, evL, evJ, evT, bindE, bindT, bindTp, opCmp, opI2, storeIx, E.non?, slB, Bx.read_number, st0, o3, o4, o5, o6, o7, opCmp, h0, h0']
    · rw [if_neg hx]
      rw [decide_eq_false hx, Bool.not_false] at o5
      simp [evDef, startS, PX.execs, PX.exec, evX, evXB, evXL, frzS, anyOw, evE, evL, evJ, evT, bindE, bindT, bindTp, opCmp, opI2, storeIx, E.non?, slB, Bx.read_number, st0, o3, o4, o5, o6, o7, opCmp, h0, h0']
end
end PX

set_option Elab.async false
set_option linter.all false
set_option maxRecDepth 100000
/-! EXe: a number's text is read back. -/
namespace PX
open PySem PySem.Spec PyProof.Rows L2 PySem.NumText
theorem dg_no {c n : Nat} (h : c < 48) : c ∉ dg n := fun z => by have := dg_all n c z; omega
theorem num_head {n : Nat} {r : List Nat} : (dg n ++ r).take 1 ≠ [45] := by
  have h := dg_ne n
  have q := dg_all n
  cases e : dg n with
  | nil => exact absurd e h
  | cons c l =>
    rw [e] at q
    have := q.head
    intro z
    have : c = 45 := by simpa using z
    omega
/-- what stands behind the sign -/
def restL (x : Rat) : List Nat := dg x.num.natAbs ++ if x.den = 1 then [] else 47 :: dg x.den
theorem numL_neg {x : Rat} (h : x.num < 0) : numL x = 45 :: restL x := by
  unfold numL intL restL
  rw [if_pos h]
  rfl
theorem numL_pos {x : Rat} (h : ¬ x.num < 0) : numL x = restL x := by
  unfold numL intL restL
  rw [if_neg h]
theorem body_num (x : Rat) : bodyL (numL x) = restL x := by
  by_cases h : x.num < 0
  · rw [numL_neg h]; unfold bodyL; rw [if_pos (by simp)]; rfl
  · rw [numL_pos h]; unfold bodyL restL; rw [if_neg num_head]
theorem sgn_num (x : Rat) : sgn (numL x) x.num.natAbs = x.num := by
  unfold sgn
  by_cases h : x.num < 0
  · rw [numL_neg h, if_pos (by simp)]; omega
  · rw [numL_pos h, restL, if_neg num_head]; omega
def botL (x : Rat) : Option (List Nat) := if x.den = 1 then none else some (dg x.den)
theorem parts_num (x : Rat) : Parts (numL x) (dg x.num.natAbs) (botL x) := by
  have e := body_num x
  unfold botL
  by_cases h : x.den = 1
  · rw [if_pos h]
    have e2 : bodyL (numL x) = dg x.num.natAbs := by rw [e, restL, if_pos h, List.append_nil]
    have := Parts.one (l := numL x) (by rw [e2]; exact dg_no (by decide))
    rw [e2] at this
    exact this
  · rw [if_neg h]
    exact .two _ _ (dg_no (by decide)) (by rw [e, restL, if_neg h])
theorem bot_num (x : Rat) : botV (botL x) = x.den := by
  unfold botL
  by_cases h : x.den = 1
  · rw [if_pos h, h]; rfl
  · rw [if_neg h]; exact dg_val _
theorem isNum_dg {n : Nat} (h : n < 10 ^ 400) : isNum (dg n) := ⟨dg_all n, dg_ne n, dg_len h (by decide)⟩
theorem numL_len {x : Rat} (hn : x.num.natAbs < 10 ^ 400) (hd : x.den < 10 ^ 400) : (numL x).length ≤ 802 := by
  have a := intL_len hn (by decide)
  have b := dg_len hd (by decide)
  unfold numL
  rw [List.length_append]
  split
  · simp; omega
  · rw [List.length_cons]; omega
theorem sp_read_back {p : Prg} {m : Nat} (h : HasT p) {x : Rat} (hn : x.num.natAbs < 10 ^ 400) (hd : x.den < 10 ^ 400) : p.call (m + 3) "read_number" [.str (tx (numL x))] = .ok (.fz (enc x)) := by
  have q := sp_read (m := m) h (by have := numL_len hn hd; omega) (parts_num x) (isNum_dg hn) (fun b hb => by
    unfold botL at hb
    split at hb
    · cases hb
    · cases hb; exact isNum_dg hd) (by rw [bot_num]; exact x.den_nz)
  rw [bot_num, dg_val, sgn_num, Rat.num_divInt_den, if_pos rfl] at q
  exact q
end PX

set_option Elab.async false
set_option linter.all false
set_option maxRecDepth 100000
/-! LHa: helpers of the laws: drawn numbers, greatest common divisors. -/
namespace PX
open PySem PySem.Spec PyProof.Rows L2
/-- the numbers below n -/
def rngI (n : Nat) : List Int := (List.range n).map fun (i : Nat) => (0 + (i : Int))
def rngD (n : Nat) : List D := (rngI n).map D.int
theorem rngI_len (n : Nat) : (rngI n).length = n := by simp [rngI]
theorem items_rng : itemsOf .rng = itRng := rfl
theorem items_nat {n : Nat} (h : n ≤ 1000000) : itemsOf .rng [.int (n : Int)] = .ok (rngD n) := by
  have h1 : (n : Int) < 2 ^ 62 ∧ -(2 ^ 62) ≤ (n : Int) := by
    have : (2 : Nat) ^ 62 = 4611686018427387904 := by decide
    omega
  rw [items_rng]
  simp only [itRng]
  rw [if_pos h1, Int.toNat_natCast]
  unfold rngD rngI
  rw [List.map_map]
  rfl
theorem ex_for_of {T : Tb} {ρ : Rho} {tg : Tg} {k : ItK} {as : List E} {b : List S} {us : List Nat} {ds xs : List D} (h0 : anyOw ρ us = false) (h1 : evL T ρ as = .ok ds) (h2 : itemsOf k ds = .ok xs) :
    exec T (.for tg k as b us) ρ = forGo tg (fun ρ => execs T b ρ) xs ρ := by
  rw [exec]
  unfold evXL
  rw [h0, if_neg Bool.false_ne_true, h1, R.on_ok]
  show (itemsOf k ds).on ρ _ = _
  rw [h2, R.on_ok]
@[simp] theorem ob_pow {i j : Int} (h : 0 ≤ j) (h2 : j ≤ 1000000) (h3 : i.natAbs < 2 ^ 64) : opBin .Pow (.int i) (.int j) = .ok (.fz (.int (i ^ j.toNat))) := if_pos ⟨h, h2, h3⟩
/-- a remainder -/
def inR (r : Int) : Prop := 0 ≤ r ∧ r < 10007
section
variable {p : Prg} {m : Nat}
theorem num_loop1 (a0 a1 a2 s6 : Sl) : ∀ (js : List Int) (c : Int) (acc : List Int) (s5 : Sl), acc.length + js.length ≤ 1000 →
    ∃ c' new s', forGo (.nm 5) (fun ρ => execs (p.tb m) Bl._law_numbers_b1 ρ) (js.map D.int) [a0, a1, a2, .fz (.int c), .ow (.lst (acc.map D.int)), s5, s6] =
      .ok (.nx [a0, a1, a2, .fz (.int c'), .ow (.lst ((acc ++ new).map D.int)), s', s6]) ∧ new.length = js.length ∧ ∀ r, r ∈ new → inR r
  | [], c, acc, s5, _ => ⟨c, [], s5, by rw [List.append_nil]; exact forGo_nil, rfl, fun r hr => by cases hr⟩
  | j :: js, c, acc, s5, hl => by
    rw [List.length_cons] at hl
    have sb := sizeBig
    obtain ⟨c', new, s', e1, e2, e3⟩ := num_loop1 a0 a1 a2 s6 js (c.fdiv 10007) (acc ++ [c.fmod 10007]) (.fz (.int j)) (by simp; omega)
    refine ⟨c', c.fmod 10007 :: new, s', ?_, by simp [e2], fun r hr => ?_⟩
    · rw [List.map_cons, forGo_cons]
      simp only [bindT, R.on_ok, List.set]
      have h10 : (10007 : Int) ≠ 0 := by decide
      have hlg : lgI 10007 < divLine := by decide
      have hln : acc.length < sizeLine := by omega
      have z : execs (p.tb m) Bl._law_numbers_b1 [a0, a1, a2, .fz (.int c), .ow (.lst (acc.map D.int)), .fz (.int j), s6] = .ok (.nx [a0, a1, a2, .fz (.int (c.fdiv 10007)), .ow (.lst ((acc ++ [c.fmod 10007]).map D.int)), .fz (.int j), s6]) := by
        simp [evDef, startS, PX.execs, PX.exec, evX, evXB, evXL, frzS, anyOw, evE, evL, evJ, evT, bindE, bindT, bindTp, opCmp, opI2, storeIx, E.non?, slB, Bl._law_numbers_b1, h10, hlg, hln]
      rw [z, RS.turn_nx]
      rw [show acc ++ c.fmod 10007 :: new = acc ++ [c.fmod 10007] ++ new by simp]
      exact e1
    · rcases List.mem_cons.mp hr with rfl | hr
      · exact ⟨Int.fmod_nonneg_of_pos _ (by decide), Int.fmod_lt_of_pos _ (by decide)⟩
      · exact e3 r hr
theorem num_loop2 (a0 a1 a2 : Sl) {c : Int} (hc : c.natAbs < 2 ^ 60) : ∀ (js : List Int) (acc : List Int) (s5 s6 : Sl), acc.length + js.length ≤ 1000 → (∀ j, j ∈ js → j.natAbs < 2 ^ 60) →
    ∃ new s' s'', forGo (.nm 5) (fun ρ => execs (p.tb m) Bl._law_numbers_b2 ρ) (js.map D.int) [a0, a1, a2, .fz (.int c), .ow (.lst (acc.map D.int)), s5, s6] =
      .ok (.nx [a0, a1, a2, .fz (.int c), .ow (.lst ((acc ++ new).map D.int)), s', s'']) ∧ new.length = js.length ∧ ∀ r, r ∈ new → inR r
  | [], acc, s5, s6, _, _ => ⟨[], s5, s6, by rw [List.append_nil]; exact forGo_nil, rfl, fun r hr => by cases hr⟩
  | j :: js, acc, s5, s6, hl, hj => by
    rw [List.length_cons] at hl
    have sb := sizeBig
    have j1 := hj j List.mem_cons_self
    generalize hM : (c * 48271 + 69621 * j + 11).fmod 2147483647 = M
    have m0 : 0 ≤ M := hM ▸ Int.fmod_nonneg_of_pos _ (by decide)
    have m1 : M < 2147483647 := hM ▸ Int.fmod_lt_of_pos _ (by decide)
    have d0 : 0 ≤ M.fdiv 16 := Int.fdiv_nonneg m0 (by decide)
    have d1 : M.fdiv 16 ≤ M := by
      rw [Int.fdiv_eq_ediv_of_nonneg _ (by decide)]
      exact Int.ediv_le_self _ m0
    obtain ⟨new, s', s'', e1, e2, e3⟩ := num_loop2 a0 a1 a2 hc js (acc ++ [(M.fdiv 16 * 7919 + j).fmod 10007]) (.fz (.int j)) (.fz (.int M)) (by simp; omega) (fun k hk => hj k (List.mem_cons_of_mem _ hk))
    refine ⟨(M.fdiv 16 * 7919 + j).fmod 10007 :: new, s', s'', ?_, by simp [e2], fun r hr => ?_⟩
    · rw [List.map_cons, forGo_cons]
      simp only [bindT, R.on_ok, List.set]
      have h10 : (10007 : Int) ≠ 0 := by decide
      have h11 : (2147483647 : Int) ≠ 0 := by decide
      have h12 : (16 : Int) ≠ 0 := by decide
      have hlg : lgI 16 < divLine := by decide
      have hln : acc.length < sizeLine := by omega
      have g1 : lgI c + lgI 48271 < mulLine := lg_mul hc (show (48271 : Int).natAbs < 2 ^ 60 by decide) (by decide) (by decide) (by decide)
      have g2 : lgI 69621 + lgI j < mulLine := lg_mul (show (69621 : Int).natAbs < 2 ^ 60 by decide) j1 (by decide) (by decide) (by decide)
      have g3a : (M.fdiv 16).natAbs < 2 ^ 60 := by
        have : (2 : Nat) ^ 60 = 1152921504606846976 := by decide
        omega
      have g3 : lgI (M.fdiv 16) + lgI 7919 < mulLine := lg_mul g3a (show (7919 : Int).natAbs < 2 ^ 60 by decide) (by decide) (by decide) (by decide)
      have z : execs (p.tb m) Bl._law_numbers_b2 [a0, a1, a2, .fz (.int c), .ow (.lst (acc.map D.int)), .fz (.int j), s6] = .ok (.nx [a0, a1, a2, .fz (.int c), .ow (.lst ((acc ++ [(M.fdiv 16 * 7919 + j).fmod 10007]).map D.int)), .fz (.int j), .fz (.int M)]) := by
        simp [evDef, startS, PX.execs, PX.exec, evX, evXB, evXL, frzS, anyOw, evE, evL, evJ, evT, bindE, bindT, bindTp, opCmp, opI2, storeIx, E.non?, slB, Bl._law_numbers_b2, h10, h11, h12, hlg, hln, g1, g2, g3, hM]
      rw [z, RS.turn_nx]
      rw [show acc ++ (M.fdiv 16 * 7919 + j).fmod 10007 :: new = acc ++ [(M.fdiv 16 * 7919 + j).fmod 10007] ++ new by simp]
      exact e1
    · rcases List.mem_cons.mp hr with rfl | hr
      · exact ⟨Int.fmod_nonneg_of_pos _ (by decide), Int.fmod_lt_of_pos _ (by decide)⟩
      · exact e3 r hr
theorem rng_small {n : Nat} (h : n ≤ 1000) : ∀ j, j ∈ rngI n → j.natAbs < 2 ^ 60 := fun j hj => by
  obtain ⟨i, hi, rfl⟩ := List.mem_map.mp hj
  have := List.mem_range.mp hi
  have : (2 : Nat) ^ 60 = 1152921504606846976 := by decide
  omega
theorem pw18 : (10 : Int) ^ 18 = 1000000000000000000 := by decide
theorem pow18 : opBin .Pow (.int 10) (.int 18) = .ok (.fz (.int 1000000000000000000)) := by
  rw [ob_pow (by decide) (by decide) (by decide)]
  rw [show (18 : Int).toNat = 18 from rfl, pw18]
theorem sp_numbers (h : HasF p "_law_numbers" 7 3 Bl._law_numbers) {ns : List Int} {k : Int} {n : Nat} {c : Int} (hn : n ≤ 1000) (hc : p.call (m + 1) "_law_cell" [.scr ns, .int k] = .ok (.fz (.int c))) :
    ∃ row : List Int, p.call (m + 2) "_law_numbers" [.scr ns, .int k, .int n] = .ok (.fr (.lst (row.map D.int))) ∧ row.length = n ∧ ∀ r, r ∈ row → inR r := by
  rw [h.run]
  have sb := sizeBig
  have hr := items_nat (n := n) (by omega)
  have z0 : (0 : Nat) ≤ sizeLine := Nat.zero_le _
  generalize hcc : (if c < 0 then -c else c) = cc
  have cn : cc.natAbs = cc := by rw [← hcc]; split <;> omega
  rw [evDef_out (show [D.scr ns, D.int k, D.int n].length = 3 from rfl)]
  have e0 : execs (p.tb (m + 1)) Bl._law_numbers (startS 7 [D.scr ns, D.int k, D.int n]) = execs (p.tb (m + 1)) (Bl._law_numbers.drop 2) [.fz (.scr ns), .fz (.int k), .fz (.int n), .fz (.int cc), .ow (.lst []), .un, .un] := by
    show execs (p.tb (m + 1)) (Bl._law_numbers.getD 0 .pass :: Bl._law_numbers.getD 1 .pass :: Bl._law_numbers.drop 2) [.fz (.scr ns), .fz (.int k), .fz (.int n), .un, .un, .un, .un] = _
    have e1 : exec (p.tb (m + 1)) (Bl._law_numbers.getD 0 .pass) [.fz (.scr ns), .fz (.int k), .fz (.int n), .un, .un, .un, .un] = .ok (.nx [.fz (.scr ns), .fz (.int k), .fz (.int n), .fz (.int cc), .un, .un, .un]) := by
      simp [evDef, startS, PX.execs, PX.exec, evX, evXB, evXL, frzS, anyOw, evE, evL, evJ, evT, bindE, bindT, bindTp, opCmp, opI2, storeIx, E.non?, slB, Bl._law_numbers, hc, hcc]
    have e2 : exec (p.tb (m + 1)) (Bl._law_numbers.getD 1 .pass) [.fz (.scr ns), .fz (.int k), .fz (.int n), .fz (.int cc), .un, .un, .un] = .ok (.nx [.fz (.scr ns), .fz (.int k), .fz (.int n), .fz (.int cc), .ow (.lst []), .un, .un]) := by
      simp [evDef, startS, PX.execs, PX.exec, evX, evXB, evXL, frzS, anyOw, evE, evL, evJ, evT, bindE, bindT, bindTp, opCmp, opI2, storeIx, E.non?, slB, Bl._law_numbers]
    rw [execs_cons, e1, RS.then_nx, execs_cons, e2, RS.then_nx]
  rw [e0]
  have e3 : ∀ b : Bool, decide ((1000000000000000000 : Int) ≤ cc) = b → evXB (p.tb (m + 1)) [.fz (.scr ns), .fz (.int k), .fz (.int n), .fz (.int cc), .ow (.lst []), .un, .un] [3] (.cmp .GtE (.var 3) (.bin .Pow (.int 10) (.int 18))) = fun f => f b := fun b hb => by
    funext f
    simp [evDef, startS, PX.execs, PX.exec, evX, evXB, evXL, frzS, anyOw, evE, evL, evJ, evT, bindE, bindT, bindTp, opCmp, opI2, storeIx, E.non?, slB, pow18, hb]
  by_cases hb : (1000000000000000000 : Int) ≤ cc
  · obtain ⟨c', new, s', e1, e2, e4⟩ := num_loop1 (p := p) (m := m + 1) (.fz (.scr ns)) (.fz (.int k)) (.fz (.int n)) .un (rngI n) cc [] .un (by rw [rngI_len]; simpa using hn)
    rw [rngI_len] at e2
    refine ⟨new, ?_, e2, e4⟩
    have e5 : exec (p.tb (m + 1)) (Bl._law_numbers.getD 2 .pass) [.fz (.scr ns), .fz (.int k), .fz (.int n), .fz (.int cc), .ow (.lst []), .un, .un] = .ok (.rt (.fr (.lst (new.map D.int)))) := by
      show exec (p.tb (m + 1)) (.iff (.cmp .GtE (.var 3) (.bin .Pow (.int 10) (.int 18))) [.for (.nm 5) .rng [.var 2] Bl._law_numbers_b1 [2], .retv 4] [] [3]) _ = _
      rw [exec, e3 _ (decide_eq_true hb)]
      simp only [↓reduceIte]
      have e6 : exec (p.tb (m + 1)) (.for (.nm 5) .rng [.var 2] Bl._law_numbers_b1 [2]) [.fz (.scr ns), .fz (.int k), .fz (.int n), .fz (.int cc), .ow (.lst []), .un, .un] = forGo (.nm 5) (fun ρ => execs (p.tb (m + 1)) Bl._law_numbers_b1 ρ) (rngD n) [.fz (.scr ns), .fz (.int k), .fz (.int n), .fz (.int cc), .ow (.lst []), .un, .un] :=
        ex_for_of (by simp [anyOw]) (by simp [evDef, startS, PX.execs, PX.exec, evX, evXB, evXL, frzS, anyOw, evE, evL, evJ, evT, bindE, bindT, bindTp, opCmp, opI2, storeIx, E.non?, slB]) hr
      rw [execs_cons, e6]
      rw [show rngD n = (rngI n).map D.int from rfl, show ([] : List D) = ([] : List Int).map D.int from rfl, e1]
      simp [evDef, startS, PX.execs, PX.exec, evX, evXB, evXL, frzS, anyOw, evE, evL, evJ, evT, bindE, bindT, bindTp, opCmp, opI2, storeIx, E.non?, slB]
    show (execs (p.tb (m + 1)) (Bl._law_numbers.getD 2 .pass :: Bl._law_numbers.drop 3) _).out = _
    rw [execs_cons, e5]
    rfl
  · have c60 : cc.natAbs < 2 ^ 60 := by
      have : (2 : Nat) ^ 60 = 1152921504606846976 := by decide
      omega
    obtain ⟨new, s', s'', e1, e2, e4⟩ := num_loop2 (p := p) (m := m + 1) (.fz (.scr ns)) (.fz (.int k)) (.fz (.int n)) c60 (rngI n) [] .un .un (by rw [rngI_len]; simpa using hn) (rng_small hn)
    rw [rngI_len] at e2
    refine ⟨new, ?_, e2, e4⟩
    have e5 : exec (p.tb (m + 1)) (Bl._law_numbers.getD 2 .pass) [.fz (.scr ns), .fz (.int k), .fz (.int n), .fz (.int cc), .ow (.lst []), .un, .un] = .ok (.nx [.fz (.scr ns), .fz (.int k), .fz (.int n), .fz (.int cc), .ow (.lst []), .un, .un]) := by
      show exec (p.tb (m + 1)) (.iff (.cmp .GtE (.var 3) (.bin .Pow (.int 10) (.int 18))) [.for (.nm 5) .rng [.var 2] Bl._law_numbers_b1 [2], .retv 4] [] [3]) _ = _
      rw [exec, e3 _ (decide_eq_false hb)]
      simp only [Bool.false_eq_true, ↓reduceIte]
      rw [execs]
    show (execs (p.tb (m + 1)) (Bl._law_numbers.getD 2 .pass :: .for (.nm 5) .rng [.var 2] Bl._law_numbers_b2 [2] :: Bl._law_numbers.drop 4) _).out = _
    rw [execs_cons, e5, RS.then_nx, execs_cons]
    have e6 : exec (p.tb (m + 1)) (.for (.nm 5) .rng [.var 2] Bl._law_numbers_b2 [2]) [.fz (.scr ns), .fz (.int k), .fz (.int n), .fz (.int cc), .ow (.lst []), .un, .un] = forGo (.nm 5) (fun ρ => execs (p.tb (m + 1)) Bl._law_numbers_b2 ρ) (rngD n) [.fz (.scr ns), .fz (.int k), .fz (.int n), .fz (.int cc), .ow (.lst []), .un, .un] :=
      ex_for_of (by simp [anyOw]) (by simp [evDef, startS, PX.execs, PX.exec, evX, evXB, evXL, frzS, anyOw, evE, evL, evJ, evT, bindE, bindT, bindTp, opCmp, opI2, storeIx, E.non?, slB]) hr
    rw [e6, show rngD n = (rngI n).map D.int from rfl, show ([] : List D) = ([] : List Int).map D.int from rfl, e1]
    simp [evDef, startS, PX.execs, PX.exec, evX, evXB, evXL, frzS, anyOw, evE, evL, evJ, evT, bindE, bindT, bindTp, opCmp, opI2, storeIx, E.non?, slB, Bl._law_numbers]
/-! ### greatest common divisors -/
theorem gcd_loop : ∀ (k : Nat) (is : List D) (a b : Nat) (s : Sl), k + 1 ≤ is.length → b ≤ a → a * b < 2 ^ k →
    ∃ s', forGo (.nm 2) (fun ρ => execs (p.tb m) Bl._law_gcd_b1 ρ) is [.fz (.int a), .fz (.int b), s] = .ok (.nx [.fz (.int (Nat.gcd a b)), .fz (.int 0), s'])
  | k, [], a, b, s, hl, _, _ => by simp at hl
  | k, i :: is, a, b, s, hl, hab, hp => by
    rw [forGo_cons]
    simp only [bindT, R.on_ok, List.set]
    by_cases hb : b = 0
    · subst hb
      refine ⟨.fz i, ?_⟩
      have z : execs (p.tb m) Bl._law_gcd_b1 [.fz (.int a), .fz (.int (0 : Nat)), .fz i] = .ok (.bk [.fz (.int a), .fz (.int 0), .fz i]) := by
        simp [evDef, startS, PX.execs, PX.exec, evX, evXB, evXL, frzS, anyOw, evE, evL, evJ, evT, bindE, bindT, bindTp, opCmp, opI2, storeIx, E.non?, slB, Bl._law_gcd_b1]
      rw [z, RS.turn_bk, Nat.gcd_zero_right]
    · cases k with
      | zero =>
        exfalso
        have h1 : 0 < a * b := Nat.mul_pos (by omega) (by omega)
        rw [Nat.pow_zero] at hp
        omega
      | succ k =>
        rw [List.length_cons] at hl
        have hr : a % b < b := Nat.mod_lt _ (by omega)
        have hp2 : b * (a % b) < 2 ^ k := by
          have h2 : 2 * (a % b) ≤ a := by
            have e1 := Nat.div_add_mod a b
            have e2 : 1 ≤ a / b := (Nat.one_le_div_iff (by omega)).2 hab
            have e3 : b * 1 ≤ b * (a / b) := Nat.mul_le_mul_left b e2
            omega
          have h3 : b * (2 * (a % b)) ≤ b * a := Nat.mul_le_mul_left b h2
          rw [Nat.pow_succ] at hp
          have e4 : b * (2 * (a % b)) = 2 * (b * (a % b)) := by rw [← Nat.mul_assoc, Nat.mul_comm b 2, Nat.mul_assoc]
          rw [Nat.mul_comm a b] at hp
          omega
        obtain ⟨s', e⟩ := gcd_loop k is b (a % b) (.fz i) (by omega) (Nat.le_of_lt hr) hp2
        refine ⟨s', ?_⟩
        have hb' : ¬ (b : Int) = 0 := by omega
        have ef : (a : Int).fmod (b : Int) = ((a % b : Nat) : Int) := by
          rw [Int.fmod_eq_emod_of_nonneg _ (by omega)]
          omega
        have z : execs (p.tb m) Bl._law_gcd_b1 [.fz (.int a), .fz (.int b), .fz i] = .ok (.nx [.fz (.int b), .fz (.int ((a % b : Nat) : Int)), .fz i]) := by
          rw [← ef]
          simp [evDef, startS, PX.execs, PX.exec, evX, evXB, evXL, frzS, anyOw, evE, evL, evJ, evT, bindE, bindT, bindTp, opCmp, opI2, storeIx, E.non?, slB, Bl._law_gcd_b1, hb, hb']
        rw [z, RS.turn_nx, Nat.gcd_comm, Nat.gcd_rec]
        rw [Nat.gcd_comm] at e
        exact e
theorem sp_gcd (h : HasF p "_law_gcd" 3 2 Bl._law_gcd) {a b : Int} {k : Nat} (ha : a.natAbs < 2 ^ k) (hb : b.natAbs < 2 ^ k) (hk : k ≤ 990) : p.call (m + 1) "_law_gcd" [.int a, .int b] = .ok (.fz (.int (Nat.gcd a.natAbs b.natAbs : Nat))) := by
  rw [h.run, evDef_out (show [D.int a, D.int b].length = 2 from rfl)]
  have a1 : (if a < 0 then -a else a) = (a.natAbs : Int) := by split <;> omega
  have b1 : (if b < 0 then -b else b) = (b.natAbs : Int) := by split <;> omega
  show (execs (p.tb m) (Bl._law_gcd.getD 0 .pass :: Bl._law_gcd.getD 1 .pass :: .for (.nm 2) .rng [.int 2000] Bl._law_gcd_b1 [] :: [.retv 0]) [.fz (.int a), .fz (.int b), .un]).out = _
  have e1 : exec (p.tb m) (Bl._law_gcd.getD 0 .pass) [.fz (.int a), .fz (.int b), .un] = .ok (.nx [.fz (.int a.natAbs), .fz (.int b), .un]) := by
    simp [evDef, startS, PX.execs, PX.exec, evX, evXB, evXL, frzS, anyOw, evE, evL, evJ, evT, bindE, bindT, bindTp, opCmp, opI2, storeIx, E.non?, slB, Bl._law_gcd, a1]
  have e2 : exec (p.tb m) (Bl._law_gcd.getD 1 .pass) [.fz (.int a.natAbs), .fz (.int b), .un] = .ok (.nx [.fz (.int a.natAbs), .fz (.int b.natAbs), .un]) := by
    simp [evDef, startS, PX.execs, PX.exec, evX, evXB, evXL, frzS, anyOw, evE, evL, evJ, evT, bindE, bindT, bindTp, opCmp, opI2, storeIx, E.non?, slB, Bl._law_gcd, b1]
  have e3 : exec (p.tb m) (.for (.nm 2) .rng [.int 2000] Bl._law_gcd_b1 []) [.fz (.int a.natAbs), .fz (.int b.natAbs), .un] = forGo (.nm 2) (fun ρ => execs (p.tb m) Bl._law_gcd_b1 ρ) (rngD 2000) [.fz (.int a.natAbs), .fz (.int b.natAbs), .un] :=
    ex_for_of (by simp [anyOw]) (by simp [evDef, startS, PX.execs, PX.exec, evX, evXB, evXL, frzS, anyOw, evE, evL, evJ, evT, bindE, bindT, bindTp, opCmp, opI2, storeIx, E.non?, slB]) (items_nat (n := 2000) (by decide))
  rw [execs_cons, e1, RS.then_nx, execs_cons, e2, RS.then_nx, execs_cons, e3]
  have big : ∀ {x y : Nat}, x < 2 ^ k → y < 2 ^ k → x * y < 2 ^ 1980 := fun hx hy => Nat.lt_of_lt_of_le (pw_mul hx hy) (Nat.pow_le_pow_right (by decide) (by omega))
  have hl : ∀ n : Nat, (rngD n).length = n := fun n => by unfold rngD; rw [List.length_map, rngI_len]
  by_cases hab : b.natAbs ≤ a.natAbs
  · obtain ⟨s', e⟩ := gcd_loop (p := p) (m := m) 1980 (rngD 2000) a.natAbs b.natAbs .un (by rw [hl]; decide) hab (big ha hb)
    rw [e]
    simp [evDef, startS, PX.execs, PX.exec, evX, evXB, evXL, frzS, anyOw, evE, evL, evJ, evT, bindE, bindT, bindTp, opCmp, opI2, storeIx, E.non?, slB]
  · have hd : rngD 2000 = (.int 0) :: (rngD 2000).drop 1 := by
      unfold rngD rngI
      rw [show (2000 : Nat) = 1999 + 1 from rfl, List.range_succ_eq_map]
      rfl
    have hl2 : ((rngD 2000).drop 1).length = 1999 := by rw [List.length_drop, hl]
    obtain ⟨s', e⟩ := gcd_loop (p := p) (m := m) 1980 ((rngD 2000).drop 1) b.natAbs a.natAbs (.fz (.int 0)) (by rw [hl2]; decide) (by omega) (big hb ha)
    rw [hd, forGo_cons]
    simp only [bindT, R.on_ok, List.set]
    have hb' : ¬ (b.natAbs : Int) = 0 := by omega
    have ef : ((a.natAbs : Nat) : Int).fmod (b.natAbs : Int) = ((a.natAbs : Nat) : Int) := by
      rw [Int.fmod_eq_emod_of_nonneg _ (by omega), Int.emod_eq_of_lt (by omega) (by omega)]
    have z : execs (p.tb m) Bl._law_gcd_b1 [.fz (.int a.natAbs), .fz (.int b.natAbs), .fz (.int 0)] = .ok (.nx [.fz (.int b.natAbs), .fz (.int a.natAbs), .fz (.int 0)]) := by
      have hb2 : b.natAbs ≠ 0 := by omega
      have mo := ob_mod (i := ((a.natAbs : Nat) : Int)) hb'
      rw [ef] at mo
      generalize a.natAbs = A at *
      generalize b.natAbs = B at *
      simp [evDef, startS, PX.execs, PX.exec, evX, evXB, evXL, frzS, anyOw, evE, evL, evJ, evT, bindE, bindT, bindTp, opCmp, opI2, storeIx, E.non?, slB, Bl._law_gcd_b1, hb2, hb', mo]
    rw [z, RS.turn_nx, e]
    rw [Nat.gcd_comm]
    simp [evDef, startS, PX.execs, PX.exec, evX, evXB, evXL, frzS, anyOw, evE, evL, evJ, evT, bindE, bindT, bindTp, opCmp, opI2, storeIx, E.non?, slB]
/-- the functions that the laws share -/
structure HasL (p : Prg) : Prop where
  gcd : HasF p "_law_gcd" 3 2 Bl._law_gcd
  make : HasF p "_law_make" 3 2 Bl._law_make
  top : HasF p "_law_top" 1 1 Bl._law_top
  bottom : HasF p "_law_bottom" 1 1 Bl._law_bottom
  is_int : HasF p "_law_is_int" 1 1 Bl._law_is_int
  is_number : HasF p "_law_is_number" 1 1 Bl._law_is_number
theorem sp_ltop (h : HasL p) (x : Rat) : p.call (m + 1) "_law_top" [enc x] = .ok (.fz (.int x.num)) := by
  rw [h.top.run]
  by_cases hx : x.den = 1
  · simp [evDef, startS, PX.execs, PX.exec, evX, evXB, evXL, frzS, anyOw, evE, evL, evJ, evT, bindE, bindT, bindTp, opCmp, opI2, storeIx, E.non?, slB, Bl._law_top, hx, enc_one hx]
  · simp [evDef, startS, PX.execs, PX.exec, evX, evXB, evXL, frzS, anyOw, evE, evL, evJ, evT, bindE, bindT, bindTp, opCmp, opI2, storeIx, E.non?, slB, Bl._law_top, hx, enc_two hx, at0]
theorem sp_lbottom (h : HasL p) (x : Rat) : p.call (m + 1) "_law_bottom" [enc x] = .ok (.fz (.int x.den)) := by
  rw [h.bottom.run]
  by_cases hx : x.den = 1
  · simp [evDef, startS, PX.execs, PX.exec, evX, evXB, evXL, frzS, anyOw, evE, evL, evJ, evT, bindE, bindT, bindTp, opCmp, opI2, storeIx, E.non?, slB, Bl._law_bottom, hx, enc_one hx]
  · simp [evDef, startS, PX.execs, PX.exec, evX, evXB, evXL, frzS, anyOw, evE, evL, evJ, evT, bindE, bindT, bindTp, opCmp, opI2, storeIx, E.non?, slB, Bl._law_bottom, hx, enc_two hx, at1]
theorem sp_is_int (h : HasL p) (i : Int) : p.call (m + 1) "_law_is_int" [.int i] = .ok (.fz (.bl true)) := by
  rw [h.is_int.run]
  simp [evDef, startS, PX.execs, PX.exec, evX, evXB, evXL, frzS, anyOw, evE, evL, evJ, evT, bindE, bindT, bindTp, opCmp, opI2, storeIx, E.non?, slB, Bl._law_is_int]
theorem sp_is_int_t (h : HasL p) (l : List D) : p.call (m + 1) "_law_is_int" [.tup l] = .ok (.fz (.bl false)) := by
  rw [h.is_int.run]
  simp [evDef, startS, PX.execs, PX.exec, evX, evXB, evXL, frzS, anyOw, evE, evL, evJ, evT, bindE, bindT, bindTp, opCmp, opI2, storeIx, E.non?, slB, Bl._law_is_int]
theorem sp_is_number (h : HasL p) {x : Rat} {k : Nat} (bx : Bd k x) (hk : k ≤ 990) : p.call (m + 2) "_law_is_number" [enc x] = .ok (.fz (.bl true)) := by
  rw [h.is_number.run]
  by_cases hx : x.den = 1
  · have e1 := sp_is_int (m := m) h x.num
    rw [enc_one hx]
    simp [evDef, startS, PX.execs, PX.exec, evX, evXB, evXL, frzS, anyOw, evE, evL, evJ, evT, bindE, bindT, bindTp, opCmp, opI2, storeIx, E.non?, slB, Bl._law_is_number, e1]
  · have e1 := sp_is_int (m := m) h x.num
    have e2 := sp_is_int (m := m) h x.den
    have e3 := sp_is_int_t (m := m) h [.int x.num, .int x.den]
    have e4 := sp_gcd (m := m) h.gcd bx.n bx.di hk
    have e5 : (Nat.gcd x.num.natAbs ((x.den : Int)).natAbs : Int) = 1 := by
      have := x.reduced
      rw [Int.natAbs_natCast]
      exact congrArg Nat.cast this
    rw [e5] at e4
    have e6 : (2 : Int) ≤ (x.den : Int) := by have := x.den_pos; omega
    rw [enc_two hx]
    simp [evDef, startS, PX.execs, PX.exec, evX, evXB, evXL, frzS, anyOw, evE, evL, evJ, evT, bindE, bindT, bindTp, opCmp, opI2, storeIx, E.non?, slB, Bl._law_is_number, e1, e2, e3, e4, e6, at0, at1]
end
end PX

set_option Elab.async false
set_option linter.all false
set_option maxRecDepth 100000
/-! LHb: the laws' own numbers. -/
namespace PX
open PySem PySem.Spec PyProof.Rows L2
section
variable {p : Prg} {m : Nat}
theorem make_pos {a b : Int} (h : 0 < b) : enc (Rat.divInt a b) = if b.fdiv (Nat.gcd a.natAbs b.natAbs : Nat) = 1 then .int (a.fdiv (Nat.gcd a.natAbs b.natAbs : Nat)) else .tup [.int (a.fdiv (Nat.gcd a.natAbs b.natAbs : Nat)), .int (b.fdiv (Nat.gcd a.natAbs b.natAbs : Nat))] := by
  rw [ratio_pos h]
  have hg : 0 < Nat.gcd a.natAbs b.natAbs := Nat.gcd_pos_of_pos_right _ (by omega)
  have hd : (Nat.gcd a.natAbs b.natAbs : Int) ∣ b := by
    have : Nat.gcd a.natAbs b.natAbs ∣ b.natAbs := Nat.gcd_dvd_right ..
    exact Int.ofNat_dvd_left.2 this
  generalize Nat.gcd a.natAbs b.natAbs = g at *
  have e : (b.fdiv (g : Int) = 1) ↔ (g : Int) = b := by
    rw [Int.fdiv_eq_ediv_of_nonneg _ (by omega)]
    constructor
    · intro z
      have := Int.ediv_mul_cancel hd
      rw [z] at this
      omega
    · intro z
      rw [z]
      exact Int.ediv_self (by omega)
  by_cases q : (g : Int) = b
  · rw [if_pos q, if_pos (e.2 q)]
  · rw [if_neg q, if_neg (fun z => q (e.1 z))]
theorem sp_make (h : HasL p) {a b : Int} {k : Nat} (ha : a.natAbs < 2 ^ k) (hb : b.natAbs < 2 ^ k) (hk : k ≤ 990) (h0 : b ≠ 0) : p.call (m + 2) "_law_make" [.int a, .int b] = .ok (.fz (enc (Rat.divInt a b))) := by
  rw [h.make.run]
  have e1 := sp_gcd (m := m) h.gcd ha hb hk
  obtain ⟨g1, g2⟩ := gcd_lg (a := a) h0 (pw_le hb (by omega))
  by_cases h1 : b < 0
  · have e2 : enc (Rat.divInt a b) = if b.fdiv (-(Nat.gcd a.natAbs b.natAbs : Nat)) = 1 then .int (a.fdiv (-(Nat.gcd a.natAbs b.natAbs : Nat))) else .tup [.int (a.fdiv (-(Nat.gcd a.natAbs b.natAbs : Nat))), .int (b.fdiv (-(Nat.gcd a.natAbs b.natAbs : Nat)))] := by
      rw [← Rat.neg_divInt_neg, make_pos (show 0 < -b by omega)]
      have e : (-b).natAbs = b.natAbs := by omega
      have e' : (-a).natAbs = a.natAbs := by omega
      rw [e, e']
      generalize (Nat.gcd a.natAbs b.natAbs : Int) = g
      have f : ∀ x : Int, (-x).fdiv g = x.fdiv (-g) := fun x => by
        rw [← Int.neg_fdiv_neg x (-g), Int.neg_neg]
      rw [f, f]
    have g3 : lgI (-(Nat.gcd a.natAbs b.natAbs : Nat)) < divLine := by
      unfold lgI at g2 ⊢
      rw [Int.natAbs_neg]; exact g2
    have g4 : -(Nat.gcd a.natAbs b.natAbs : Int) ≠ 0 := by omega
    rw [e2]
    generalize (Nat.gcd a.natAbs b.natAbs : Int) = g at *
    have g1' : ¬ g = 0 := g1
    by_cases q : b.fdiv (-g) = 1
    · rw [if_pos q]
      simp [evDef, startS, PX.execs, PX.exec, evX, evXB, evXL, frzS, anyOw, evE, evL, evJ, evT, bindE, bindT, bindTp, opCmp, opI2, storeIx, E.non?, slB, Bl._law_make, e1, h1, q, g3, g4, g1']
    · rw [if_neg q]
      simp [evDef, startS, PX.execs, PX.exec, evX, evXB, evXL, frzS, anyOw, evE, evL, evJ, evT, bindE, bindT, bindTp, opCmp, opI2, storeIx, E.non?, slB, Bl._law_make, e1, h1, q, g3, g4, g1']
  · rw [make_pos (show 0 < b by omega)]
    generalize (Nat.gcd a.natAbs b.natAbs : Int) = g at *
    have g1' : ¬ g = 0 := g1
    by_cases q : b.fdiv g = 1
    · rw [if_pos q]
      simp [evDef, startS, PX.execs, PX.exec, evX, evXB, evXL, frzS, anyOw, evE, evL, evJ, evT, bindE, bindT, bindTp, opCmp, opI2, storeIx, E.non?, slB, Bl._law_make, e1, h1, q, g2, g1']
    · rw [if_neg q]
      simp [evDef, startS, PX.execs, PX.exec, evX, evXB, evXL, frzS, anyOw, evE, evL, evJ, evT, bindE, bindT, bindTp, opCmp, opI2, storeIx, E.non?, slB, Bl._law_make, e1, h1, q, g2, g1']
theorem eq_enc (x : Rat) : opEq false (enc x) (enc x) = .ok true := by
  by_cases h : x.den = 1
  · rw [enc_one h]; simp
  · rw [enc_two h]
    have s1 : SeqAt.shaped (.tuple [.int x.num, .int x.den]) = true := by first | rfl | decide | simp [SeqAt.shaped]
    have s2 : PyData.eqv (.tuple [.int x.num, .int x.den]) (.tuple [.int x.num, .int x.den]) = true := by first | rfl | simp [PyData.eqv, PyData.eqvAll]
    show (if SeqAt.shaped (.tuple [.int x.num, .int x.den]) = true ∧ SeqAt.shaped (.tuple [.int x.num, .int x.den]) = true then R.ok (if false = true then _ else PyData.eqv (.tuple [.int x.num, .int x.den]) (.tuple [.int x.num, .int x.den])) else .st) = _
    rw [if_pos ⟨s1, s1⟩, if_neg Bool.false_ne_true, s2]
theorem eq_bl (a b : Bool) : opEq false (.bl a) (.bl b) = .ok (decide (a = b)) := by cases a <;> cases b <;> rfl
theorem ne_bl (a b : Bool) : opEq true (.bl a) (.bl b) = .ok (!decide (a = b)) := by cases a <;> cases b <;> rfl
/-- membership of a number in a list of numbers -/
theorem py_enc (x : Rat) : (enc x).py = some (if x.den = 1 then .int x.num else .tuple [.int x.num, .int x.den]) := by
  unfold enc
  split <;> rfl
end
end PX

set_option Elab.async false
set_option linter.all false
set_option maxRecDepth 100000
/-! K00C: the law's own defs. -/
namespace K00
open PySem PySem.Spec PyProof.Rows L2 PX
theorem hasT : HasT prg where
  ratio := ⟨fun m => by kernel_rfl⟩
  is_whole := ⟨fun m => by kernel_rfl⟩
  top_of := ⟨fun m => by kernel_rfl⟩
  bottom_of := ⟨fun m => by kernel_rfl⟩
  plus := ⟨fun m => by kernel_rfl⟩
  minus := ⟨fun m => by kernel_rfl⟩
  times := ⟨fun m => by kernel_rfl⟩
  over := ⟨fun m => by kernel_rfl⟩
  less := ⟨fun m => by kernel_rfl⟩
  floor_of := ⟨fun m => by kernel_rfl⟩
  ceiling_of := ⟨fun m => by kernel_rfl⟩
  nearest := ⟨fun m => by kernel_rfl⟩
  common_bottom := ⟨fun m => by kernel_rfl⟩
  least_of := ⟨fun m => by kernel_rfl⟩
  greatest_of := ⟨fun m => by kernel_rfl⟩
  number_text := ⟨fun m => by kernel_rfl⟩
  read_numeral := ⟨fun m => by kernel_rfl⟩
  read_number := ⟨fun m => by kernel_rfl⟩
  digits := by kernel_rfl
  most := by kernel_rfl
theorem hasL : HasL prg where
  gcd := ⟨fun m => by kernel_rfl⟩
  make := ⟨fun m => by kernel_rfl⟩
  top := ⟨fun m => by kernel_rfl⟩
  bottom := ⟨fun m => by kernel_rfl⟩
  is_int := ⟨fun m => by kernel_rfl⟩
  is_number := ⟨fun m => by kernel_rfl⟩
theorem h_numbers : HasF prg "_law_numbers" 7 3 Bl._law_numbers := ⟨fun m => by kernel_rfl⟩
theorem h_cell : HasF prg "_law_cell" 2 2 K00.b__law_cell := ⟨fun m => by kernel_rfl⟩
theorem h_stands : HasF prg "_law_stands" 3 3 K00.b__law_stands := ⟨fun m => by kernel_rfl⟩
theorem h_drawn : HasF prg "_law_drawn" 4 3 K00.b__law_drawn := ⟨fun m => by kernel_rfl⟩
theorem h_no_text : HasF prg "_law_no_text" 2 1 K00.b__law_no_text := ⟨fun m => by kernel_rfl⟩
theorem h_no_ratio : HasF prg "_law_no_ratio" 2 1 K00.b__law_no_ratio := ⟨fun m => by kernel_rfl⟩
theorem h_no_quotient : HasF prg "_law_no_quotient" 2 1 K00.b__law_no_quotient := ⟨fun m => by kernel_rfl⟩
theorem h_texts : HasF prg "_law_texts" 4 1 K00.b__law_texts := ⟨fun m => by kernel_rfl⟩
theorem h_values : HasF prg "_law_values" 9 2 K00.b__law_values := ⟨fun m => by kernel_rfl⟩
theorem h_lists : HasF prg "_law_lists" 6 1 K00.b__law_lists := ⟨fun m => by kernel_rfl⟩
section
variable {m : Nat}
theorem sp_cell (ns : List Int) (k : Nat) : ∃ c, prg.call (m + 1) "_law_cell" [.scr ns, .int k] = .ok (.fz (.int c)) := by
  rw [h_cell.run]
  by_cases hk : k < ns.length
  · refine ⟨ns[k], ?_⟩
    have e : atI ns (k : Int) = some ns[k] := by
      unfold atI ixN
      rw [if_pos (by omega), if_pos (by omega)]
      simp [hk]
    have hk' : (k : Int) < (ns.length : Int) := by omega
    simp [evDef, startS, PX.execs, PX.exec, evX, evXB, evXL, frzS, anyOw, evE, evL, evJ, evT, bindE, bindT, bindTp, opCmp, opI2, storeIx, E.non?, slB, K00.b__law_cell, hk, e]
  · refine ⟨0, ?_⟩
    simp [evDef, startS, PX.execs, PX.exec, evX, evXB, evXL, frzS, anyOw, evE, evL, evJ, evT, bindE, bindT, bindTp, opCmp, opI2, storeIx, E.non?, slB, K00.b__law_cell, hk]
theorem sp_stands {x : Rat} {A B : Int} {k : Nat} (bx : Bd k x) (ha : A.natAbs < 2 ^ k) (hb : B.natAbs < 2 ^ k) (hk : k ≤ 990) (h : x.num * B = A * x.den) :
    prg.call (m + 3) "_law_stands" [enc x, .int A, .int B] = .ok (.fz (.bl true)) := by
  rw [h_stands.run]
  have e1 := sp_is_number (m := m) hasL bx hk
  have e2 := sp_ltop (m := m + 1) hasL x
  have e3 := sp_lbottom (m := m + 1) hasL x
  have l1 : lgI x.num + lgI B < mulLine := lg_mul bx.n hb (by omega) bx.pos bx.pos
  have l2 : lgI A + lgI (x.den : Int) < mulLine := lg_mul ha bx.di (by omega) bx.pos bx.pos
  simp [evDef, startS, PX.execs, PX.exec, evX, evXB, evXL, frzS, anyOw, evE, evL, evJ, evT, bindE, bindT, bindTp, opCmp, opI2, storeIx, E.non?, slB, K00.b__law_stands, e1, e2, e3, l1, l2, h]
/-- sums and the like that stand -/
theorem st_div {a b : Int} (h : b ≠ 0) : (Rat.divInt a b).num * b = a * (Rat.divInt a b).den := by
  have := Rat.num_divInt_den (Rat.divInt a b)
  have d := den_nz (Rat.divInt a b)
  rw [Rat.divInt_eq_divInt_iff d h] at this
  exact this
theorem sp_no_ratio (a : Int) : prg.call (m + 2) "_law_no_ratio" [.int a] = .ok (.fz (.bl true)) := by
  rw [h_no_ratio.run]
  have e := sp_ratio0 (m := m) hasT.ratio (a := a)
  have s1 : prg.sub "ZeroBottom" "ZeroBottom" = some true := by kernel_rfl
  have s2 : prg.sub "ZeroBottom" "BookError" = some true := by kernel_rfl
  have s3 : prg.sub "ZeroBottom" "ValueError" = some true := by kernel_rfl
  have s4 : prg.sub "ZeroBottom" "BadText" = some false := by kernel_rfl
  simp [evDef, startS, PX.execs, PX.exec, evX, evXB, evXL, frzS, anyOw, evE, evL, evJ, evT, bindE, bindT, bindTp, opCmp, opI2, storeIx, E.non?, slB, K00.b__law_no_ratio, e, s1, s2, s3, s4]
theorem sp_no_quotient (x : Rat) : prg.call (m + 3) "_law_no_quotient" [enc x] = .ok (.fz (.bl true)) := by
  rw [h_no_quotient.run]
  have e : prg.call (m + 2) "over" [enc x, .int 0] = .ex "ZeroBottom" [] := sp_over0 hasT.toHasY
  have s1 : prg.sub "ZeroBottom" "ZeroBottom" = some true := by kernel_rfl
  have s2 : prg.sub "ZeroBottom" "BookError" = some true := by kernel_rfl
  simp [evDef, startS, PX.execs, PX.exec, evX, evXB, evXL, frzS, anyOw, evE, evL, evJ, evT, bindE, bindT, bindTp, opCmp, opI2, storeIx, E.non?, slB, K00.b__law_no_quotient, e, s1, s2]
theorem sp_no_text {l : List Nat} (h : prg.call (m + 3) "read_number" [.str (tx l)] = .ex "BadText" []) : prg.call (m + 4) "_law_no_text" [.str (tx l)] = .ok (.fz (.bl true)) := by
  rw [h_no_text.run]
  have s1 : prg.sub "BadText" "BadText" = some true := by kernel_rfl
  have s2 : prg.sub "BadText" "BookError" = some true := by kernel_rfl
  have s3 : prg.sub "BadText" "ValueError" = some true := by kernel_rfl
  have s4 : prg.sub "BadText" "ZeroBottom" = some false := by kernel_rfl
  simp [evDef, startS, PX.execs, PX.exec, evX, evXB, evXL, frzS, anyOw, evE, evL, evJ, evT, bindE, bindT, bindTp, opCmp, opI2, storeIx, E.non?, slB, K00.b__law_no_text, h, s1, s2, s3, s4]
end
end K00

set_option Elab.async false
set_option linter.all false
set_option maxRecDepth 100000
/-! K00D: drawn numbers, texts, values. -/
namespace K00
open PySem PySem.Spec PyProof.Rows L2 PX
theorem pw9 : (10 : Int) ^ 9 = 1000000000 := by decide
theorem pow9 : opBin .Pow (.int 10) (.int 9) = .ok (.fz (.int 1000000000)) := by
  rw [ob_pow (by decide) (by decide) (by decide)]
  rw [show (9 : Int).toNat = 9 from rfl, pw9]
/-- a number as the law draws it -/
structure Dr (x : Rat) : Prop where
  b : Bd 44 x
  d : x.den ≤ 60
section
variable {m : Nat}
theorem at_map (row : List Int) (k : Nat) (h : k < row.length) : atI (row.map D.int) (k : Int) = some (.int row[k]) := by
  unfold atI ixN
  rw [if_pos (by omega), if_pos (by rw [List.length_map]; omega)]
  simp [h]
theorem sp_drawn {row : List Int} (hr : ∀ r, r ∈ row → inR r) {k : Nat} (hk : k + 1 < row.length) (large : Bool) : ∃ x, prg.call (m + 3) "_law_drawn" [.lst (row.map D.int), .int k, .bl large] = .ok (.fz (enc x)) ∧ Dr x := by
  have i0 := hr row[k] (List.getElem_mem _)
  have i1 := hr row[k + 1] (List.getElem_mem _)
  have a0 := at_map row k (by omega)
  have a1 := at_map row (k + 1) hk
  have hf0 : 0 ≤ (row[k + 1]).fmod 60 := Int.fmod_nonneg_of_pos _ (by decide)
  have hf1 : (row[k + 1]).fmod 60 < 60 := Int.fmod_lt_of_pos _ (by decide)
  have h60 : (60 : Int) ≠ 0 := by decide
  have ac : ((k + 1 : Nat) : Int) = (k : Int) + 1 := by omega
  rw [ac] at a1
  generalize hT : row[k] = t at *
  generalize hU : (row[k + 1]).fmod 60 = u at *
  obtain ⟨t0, t1⟩ := i0
  have p44 : (2 : Nat) ^ 44 = 17592186044416 := by decide
  have ub : (1 + u).natAbs < 2 ^ 44 := by omega
  have u0 : 1 + u ≠ 0 := by omega
  have dle : ∀ a : Int, (Rat.divInt a (1 + u)).den ≤ 60 := fun a => by
    rw [Rat.den_divInt, if_neg u0]
    have := Nat.div_le_self (1 + u).natAbs ((1 + u).gcd a)
    omega
  cases large with
  | false =>
    have tb : (t - 5003).natAbs < 2 ^ 44 := by omega
    have e := sp_make (m := m) hasL tb ub (by decide) u0
    refine ⟨Rat.divInt (t - 5003) (1 + u), ?_, bd_divInt tb ub u0, dle _⟩
    rw [h_drawn.run]
    simp [evDef, startS, PX.execs, PX.exec, evX, evXB, evXL, frzS, anyOw, evE, evL, evJ, evT, bindE, bindT, bindTp, opCmp, opI2, storeIx, E.non?, slB, K00.b__law_drawn, a0, a1, hU, e]
  | true =>
    have tb : ((t - 5003) * 1000000007).natAbs < 2 ^ 44 := by omega
    have e := sp_make (m := m) hasL tb ub (by decide) u0
    have l1 : lgI (t - 5003) + lgI 1000000007 < mulLine := lg_mul (k := 44) (l := 44) (by omega) (by decide) (by decide) (by decide) (by decide)
    refine ⟨Rat.divInt ((t - 5003) * 1000000007) (1 + u), ?_, bd_divInt tb ub u0, dle _⟩
    rw [h_drawn.run]
    simp [evDef, startS, PX.execs, PX.exec, evX, evXB, evXL, frzS, anyOw, evE, evL, evJ, evT, bindE, bindT, bindTp, opCmp, opI2, storeIx, E.non?, slB, K00.b__law_drawn, a0, a1, hU, e, pow9, l1]
theorem Dr.n400 {x : Rat} (h : Dr x) : x.num.natAbs < 10 ^ 400 := Nat.lt_of_lt_of_le h.b.n (by decide +kernel)
theorem Dr.d400 {x : Rat} (h : Dr x) : x.den < 10 ^ 400 := Nat.lt_of_lt_of_le h.b.d (by decide +kernel)
theorem sp_texts {x : Rat} (h : Dr x) : prg.call (m + 4) "_law_texts" [enc x] = .ok (.fz (.bl true)) := by
  rw [h_texts.run]
  have e1 := sp_ltop (m := m + 2) hasL x
  have e2 := sp_lbottom (m := m + 2) hasL x
  have e3 := sp_number_text (m := m + 1) hasT h.b (by decide)
  have e4 := sp_read_back (m := m) hasT h.n400 h.d400
  have e5 := sp_is_number (m := m + 1) hasL h.b (by decide)
  have l1 : lgI x.num < 1920 := Nat.lt_of_lt_of_le (lg_lt h.b.n (by decide)) (by decide)
  have l2 : lgI (x.den : Int) < 1920 := Nat.lt_of_lt_of_le (lg_lt h.b.di (by decide)) (by decide)
  have s1 := evStr l1
  have s2 := evStr l2
  have z1 : (intL x.num).length ≤ 401 := intL_len h.n400 (by decide)
  have z2 : (dg x.den).length ≤ 400 := dg_len h.d400 (by decide)
  have sb := sizeBig
  have id2 : intL (x.den : Int) = dg x.den := by
    unfold intL
    rw [if_neg (by omega)]
    rfl
  rw [id2] at s2
  have e6 := opNe_str (numL x) (numL x)
  rw [decide_eq_true rfl] at e6
  by_cases hx : x.den = 1
  · have hn : numL x = intL x.num := by unfold numL; rw [if_pos hx, List.append_nil]
    rw [hn] at e3 e4 e6
    have hx' : (x.den : Int) = 1 := by omega
    simp [evDef, startS, PX.execs, PX.exec, evX, evXB, evXL, frzS, anyOw, evE, evL, evJ, evT, bindE, bindT, bindTp, opCmp, opI2, storeIx, E.non?, slB, K00.b__law_texts, e1, e2, e3, e4, e5, e6, s1, hx, eq_enc]
  · have hn : numL x = intL x.num ++ [47] ++ dg x.den := by unfold numL; rw [if_neg hx]; simp
    have o1 : opBin .Add (.str (tx (intL x.num))) (.str "/") = .ok (.fz (.str (tx (intL x.num ++ [47])))) := by
      rw [slash_eq, ob_strs (by rw [tx_len, tx_len]; simp; omega), tx_app]
    have o2 : opBin .Add (.str (tx (intL x.num ++ [47]))) (.str (tx (dg x.den))) = .ok (.fz (.str (tx (numL x)))) := by
      rw [ob_strs (by rw [tx_len, tx_len]; simp; omega), tx_app, hn]
    have hx' : ¬ (x.den : Int) = 1 := by omega
    simp [evDef, startS, PX.execs, PX.exec, evX, evXB, evXL, frzS, anyOw, evE, evL, evJ, evT, bindE, bindT, bindTp, opCmp, opI2, storeIx, E.non?, slB, K00.b__law_texts, e1, e2, e3, e4, e5, e6, s1, s2, o1, o2, hx, hx', eq_enc]
end
end K00

set_option Elab.async false
set_option linter.all false
set_option maxRecDepth 100000
/-! K00E: values. -/
namespace K00
open PySem PySem.Spec PyProof.Rows L2 PX
theorem quo_bd {q n d : Int} (hd : 0 < d) (h1 : q * d ≤ n) (h2 : n < (q + 1) * d) : q.natAbs ≤ n.natAbs + 1 := by
  rcases Int.lt_or_le q 0 with h | h
  · have h3 : (q + 1) * d ≤ (q + 1) * 1 := Int.mul_le_mul_of_nonpos_left (by omega) (by omega)
    omega
  · have h3 : q * 1 ≤ q * d := Int.mul_le_mul_of_nonneg_left (by omega) h
    omega
theorem floor_1 (x : Rat) : x.floor * x.den ≤ x.num := by
  rw [Rat.floor_def]
  exact Int.ediv_mul_le _ (den_nz x)
theorem floor_2 (x : Rat) : x.num < (x.floor + 1) * x.den := by
  rw [Rat.floor_def]
  have := Int.lt_ediv_add_one_mul_self x.num (show 0 < (x.den : Int) by have := x.den_pos; omega)
  exact this
theorem floor_bd {x : Rat} {k : Nat} (h : Bd k x) : x.floor.natAbs < 2 ^ (k + 1) := by
  have := quo_bd (show 0 < (x.den : Int) by have := x.den_pos; omega) (floor_1 x) (floor_2 x)
  have := h.n
  rw [Nat.pow_succ]
  omega
theorem neg_bd {x : Rat} {k : Nat} (h : Bd k x) : Bd k (-x) := ⟨by rw [Rat.neg_num, Int.natAbs_neg]; exact h.n, by rw [Rat.neg_den]; exact h.d⟩
def nearG (x : Rat) : Int := (2 * x.num + x.den).fdiv (2 * x.den)
theorem near_1 (x : Rat) : (2 * nearG x - 1) * x.den ≤ 2 * x.num := by
  have d0 : 0 < (x.den : Int) := by have := x.den_pos; omega
  unfold nearG
  rw [Int.fdiv_eq_ediv_of_nonneg _ (by omega)]
  have h := Int.ediv_mul_le (2 * x.num + x.den) (show (2 * (x.den : Int)) ≠ 0 by omega)
  generalize (2 * x.num + (x.den : Int)) / (2 * (x.den : Int)) = q at *
  have e : (2 * q - 1) * (x.den : Int) = q * (2 * x.den) - x.den := by rw [Int.sub_mul, Int.one_mul, Int.mul_comm 2 q, Int.mul_assoc]
  omega
theorem near_2 (x : Rat) : 2 * x.num < (2 * nearG x + 1) * x.den := by
  have d0 : 0 < (x.den : Int) := by have := x.den_pos; omega
  unfold nearG
  rw [Int.fdiv_eq_ediv_of_nonneg _ (by omega)]
  have h := Int.lt_ediv_add_one_mul_self (2 * x.num + x.den) (show 0 < (2 * (x.den : Int)) by omega)
  generalize (2 * x.num + (x.den : Int)) / (2 * (x.den : Int)) = q at *
  have e : (2 * q + 1) * (x.den : Int) = (q + 1) * (2 * x.den) - x.den := by
    rw [Int.add_mul, Int.one_mul, Int.add_mul, Int.one_mul, Int.mul_comm 2 q, Int.mul_assoc]; omega
  omega
theorem near_bd {x : Rat} {k : Nat} (h : Bd k x) : (nearG x).natAbs < 2 ^ (k + 3) := by
  have d0 : 0 < (x.den : Int) := by have := x.den_pos; omega
  have q := quo_bd (q := nearG x) (n := 2 * x.num + x.den) (d := 2 * x.den) (by omega) (by
    unfold nearG
    rw [Int.fdiv_eq_ediv_of_nonneg _ (by omega)]
    exact Int.ediv_mul_le _ (by omega)) (by
    unfold nearG
    rw [Int.fdiv_eq_ediv_of_nonneg _ (by omega)]
    exact Int.lt_ediv_add_one_mul_self _ (by omega))
  have h1 := h.n
  have h2 := h.d
  have e : 2 ^ (k + 3) = 8 * 2 ^ k := by rw [Nat.pow_add]; omega
  omega
theorem execs_app {T : Tb} : ∀ {a b : List S} {ρ : Rho}, PX.execs T (a ++ b) ρ = (PX.execs T a ρ).then (PX.execs T b)
  | [], b, ρ => by
    rw [List.nil_append]
    rw [show PX.execs T [] ρ = .ok (.nx ρ) by rw [PX.execs], RS.then_nx]
  | s :: a, b, ρ => by
    rw [List.cons_append, PX.execs_cons, PX.execs_cons]
    cases h : PX.exec T s ρ with
    | ok f =>
      cases f with
      | nx ρ1 => rw [RS.then_nx, RS.then_nx]; exact execs_app
      | rt v => rfl
      | bk v => rfl
      | ct v => rfl
    | ex c fs ρ1 => rfl
    | st => rfl
section
variable {m : Nat}
def execs' (m : Nat) (b : List S) (ρ : Rho) : RS := PX.execs (prg.tb (m + 3)) b ρ
def st6 (x y : Rat) : Rho := [.fz (enc x), .fz (enc y), .fz (.int x.num), .fz (.int x.den), .fz (.int y.num), .fz (.int y.den), .un, .un, .un]
theorem sp_values {x y : Rat} (hx : Dr x) (hy : Dr y) : prg.call (m + 4) "_law_values" [enc x, enc y] = .ok (.fz (.bl true)) := by
  have bx := hx.b
  have b2 := hy.b
  have hY := hasT.toHasY
  have hX := hasT.toHasX
  have t1 := sp_ltop (m := m + 2) hasL x
  have t2 := sp_lbottom (m := m + 2) hasL x
  have t3 := sp_ltop (m := m + 2) hasL y
  have t4 := sp_lbottom (m := m + 2) hasL y
  have l1 : lgI x.num + lgI (y.den : Int) < mulLine := lg_mul bx.n b2.di (by decide) (by decide) (by decide)
  have l2 : lgI y.num + lgI (x.den : Int) < mulLine := lg_mul b2.n bx.di (by decide) (by decide) (by decide)
  have l3 : lgI (x.den : Int) + lgI (y.den : Int) < mulLine := lg_mul bx.di b2.di (by decide) (by decide) (by decide)
  have l4 : lgI x.num + lgI y.num < mulLine := lg_mul bx.n b2.n (by decide) (by decide) (by decide)
  have l5 : lgI (x.den : Int) + lgI y.num < mulLine := lg_mul bx.di b2.n (by decide) (by decide) (by decide)
  have m1 : (x.num * (y.den : Int)).natAbs < 2 ^ 88 := pw_imul bx.n b2.di
  have m2 : (y.num * (x.den : Int)).natAbs < 2 ^ 88 := pw_imul b2.n bx.di
  have m3 : ((x.den : Int) * (y.den : Int)).natAbs < 2 ^ 88 := pw_imul bx.di b2.di
  have m4 : (x.num * y.num).natAbs < 2 ^ 88 := pw_imul bx.n b2.n
  have m5 : ((x.den : Int) * y.num).natAbs < 2 ^ 88 := pw_imul bx.di b2.n
  have c1 := sp_plus (m := m + 1) hX hY.plus bx b2 (by decide)
  have c2 := sp_minus (m := m + 1) hY bx b2 (by decide)
  have c3 := sp_times (m := m + 1) hY bx b2 (by decide)
  have c4 := sp_less (m := m + 1) hY bx b2 (by decide)
  have c5 := sp_top_of (m := m + 2) hX.top_of x
  have c6 := sp_bottom_of (m := m + 2) hX.bottom_of x
  have c7 := sp_is_whole (m := m + 2) hX.is_whole x
  have c8 := sp_floor (m := m + 1) hY bx (by decide)
  have c9 := sp_ceiling (m := m + 1) hY bx (by decide)
  have c10 : prg.call (m + 1 + 2) "nearest" [enc x] = .ok (.fz (.int (nearG x))) := sp_nearest (m := m + 1) hY bx (by decide)
  have s1 := sp_stands (m := m) (x := x + y) (A := x.num * y.den + y.num * x.den) (B := (x.den : Int) * y.den) (k := 100) ((bx.add b2).le (by decide)) (pw_le (pw_iadd m1 m2) (by decide)) (pw_le m3 (by decide)) (by decide) (by rw [add_divInt]; exact st_div (dens_nz x y))
  have s2 := sp_stands (m := m) (x := x - y) (A := x.num * y.den - y.num * x.den) (B := (x.den : Int) * y.den) (k := 100) ((bx.sub b2).le (by decide)) (pw_le (pw_isub m1 m2) (by decide)) (pw_le m3 (by decide)) (by decide) (by rw [sub_divInt]; exact st_div (dens_nz x y))
  have s3 := sp_stands (m := m) (x := x * y) (A := x.num * y.num) (B := (x.den : Int) * y.den) (k := 100) ((bx.mul b2).le (by decide)) (pw_le m4 (by decide)) (pw_le m3 (by decide)) (by decide) (by rw [mul_divInt]; exact st_div (dens_nz x y))
  have i1 := sp_is_int (m := m + 2) hasL x.num
  have i2 := sp_is_int (m := m + 2) hasL (x.den : Int)
  have i3 := sp_is_int (m := m + 2) hasL x.floor
  have i4 := sp_is_int (m := m + 2) hasL (-(-x).floor)
  have i5 := sp_is_int (m := m + 2) hasL (nearG x)
  have fl := floor_bd bx
  have fc := floor_bd (neg_bd bx)
  have fn := near_bd bx
  have one44 : (1 : Int).natAbs < 2 ^ 45 := by decide
  have g1 : lgI x.floor + lgI (x.den : Int) < mulLine := lg_mul fl bx.di (by decide) (by decide) (by decide)
  have g2 : lgI (x.floor + 1) + lgI (x.den : Int) < mulLine := lg_mul (pw_iadd fl one44) bx.di (by decide) (by decide) (by decide)
  have fc' : (-(-x).floor).natAbs < 2 ^ 45 := by rw [Int.natAbs_neg]; exact fc
  have g3 : lgI (-(-x).floor) + lgI (x.den : Int) < mulLine := lg_mul fc' bx.di (by decide) (by decide) (by decide)
  have g4 : lgI (-(-x).floor - 1) + lgI (x.den : Int) < mulLine := lg_mul (pw_isub fc' one44) bx.di (by decide) (by decide) (by decide)
  have two : (2 : Int).natAbs < 2 ^ 2 := by decide
  have g5 : lgI 2 + lgI (nearG x) < mulLine := lg_mul two fn (by decide) (by decide) (by decide)
  have n2 : (2 * nearG x).natAbs < 2 ^ 49 := pw_imul two fn
  have g6 : lgI (2 * nearG x - 1) + lgI (x.den : Int) < mulLine := lg_mul (pw_isub n2 (show (1 : Int).natAbs < 2 ^ 49 by decide)) bx.di (by decide) (by decide) (by decide)
  have g7 : lgI (2 * nearG x + 1) + lgI (x.den : Int) < mulLine := lg_mul (pw_iadd n2 (show (1 : Int).natAbs < 2 ^ 49 by decide)) bx.di (by decide) (by decide) (by decide)
  have g8 : lgI 2 + lgI x.num < mulLine := lg_mul two bx.n (by decide) (by decide) (by decide)
  have f1 : ¬ x.num < x.floor * (x.den : Int) := by have := floor_1 x; omega
  have f2 : ¬ (x.floor + 1) * (x.den : Int) ≤ x.num := by have := floor_2 x; omega
  have k1 := floor_1 (-x)
  have k2 := floor_2 (-x)
  rw [Rat.neg_den, Rat.neg_num] at k1 k2
  have f3 : ¬ -(-x).floor * (x.den : Int) < x.num := by rw [Int.neg_mul]; omega
  have f4 : ¬ x.num ≤ (-(-x).floor - 1) * (x.den : Int) := by
    rw [show -(-x).floor - 1 = -((-x).floor + 1) by omega, Int.neg_mul]; omega
  have f5 := near_1 x
  have f6 := near_2 x
  have e1 : decide (x < y) = decide (x.num * y.den < y.num * x.den) := by simp only [Rat.lt_iff]
  have e2 : decide (y.num * (x.den : Int) ≤ x.num * y.den) = !decide (x.num * y.den < y.num * x.den) := by
    by_cases h : x.num * (y.den : Int) < y.num * x.den
    · rw [decide_eq_true h, decide_eq_false (by omega)]; rfl
    · rw [decide_eq_false h, decide_eq_true (by omega)]; rfl
  rw [e1] at c4
  generalize hL : decide (x.num * (y.den : Int) < y.num * x.den) = L at *
  have q0 : execs' m (K00.b__law_values.take 4) [.fz (enc x), .fz (enc y), .un, .un, .un, .un, .un, .un, .un] = .ok (.nx (st6 x y)) := by
    unfold execs' st6
    simp [evDef, startS, PX.execs, PX.exec, evX, evXB, evXL, frzS, anyOw, evE, evL, evJ, evT, bindE, bindT, bindTp, opCmp, opI2, storeIx, E.non?, slB, K00.b__law_values, t1, t2, t3, t4]
  have q4 : PX.exec (prg.tb (m + 3)) (K00.b__law_values.getD 4 .pass) (st6 x y) = .ok (.nx (st6 x y)) := by
    unfold st6
    simp [evDef, startS, PX.execs, PX.exec, evX, evXB, evXL, frzS, anyOw, evE, evL, evJ, evT, bindE, bindT, bindTp, opCmp, opI2, storeIx, E.non?, slB, K00.b__law_values, l1, l2, l3, c1, c2, s1, s2]
  have q5 : PX.exec (prg.tb (m + 3)) (K00.b__law_values.getD 5 .pass) (st6 x y) = .ok (.nx (st6 x y)) := by
    unfold st6
    simp [evDef, startS, PX.execs, PX.exec, evX, evXB, evXL, frzS, anyOw, evE, evL, evJ, evT, bindE, bindT, bindTp, opCmp, opI2, storeIx, E.non?, slB, K00.b__law_values, l4, l3, c3, s3]
  have q6 : PX.exec (prg.tb (m + 3)) (K00.b__law_values.getD 6 .pass) (st6 x y) = .ok (.nx (st6 x y)) := by
    by_cases h0 : y.num = 0
    · unfold st6
      simp [evDef, startS, PX.execs, PX.exec, evX, evXB, evXL, frzS, anyOw, evE, evL, evJ, evT, bindE, bindT, bindTp, opCmp, opI2, storeIx, E.non?, slB, K00.b__law_values, h0]
    · have hy0 : y ≠ 0 := fun z => h0 (by rw [z]; rfl)
      have c11 := sp_over (m := m + 1) hY bx b2 hy0 (by decide)
      have n5 : (x.den : Int) * y.num ≠ 0 := Int.mul_ne_zero (den_nz x) h0
      have s4 := sp_stands (m := m) (x := x / y) (A := x.num * y.den) (B := (x.den : Int) * y.num) (k := 100) (by rw [div_divInt]; exact bd_divInt (pw_le m1 (by decide)) (pw_le m5 (by decide)) n5) (pw_le m1 (by decide)) (pw_le m5 (by decide)) (by decide) (by rw [div_divInt]; exact st_div n5)
      unfold st6
      simp [evDef, startS, PX.execs, PX.exec, evX, evXB, evXL, frzS, anyOw, evE, evL, evJ, evT, bindE, bindT, bindTp, opCmp, opI2, storeIx, E.non?, slB, K00.b__law_values, h0, l1, l5, c11, s4]
  have q7 : PX.exec (prg.tb (m + 3)) (K00.b__law_values.getD 7 .pass) (st6 x y) = .ok (.nx (st6 x y)) := by
    unfold st6
    cases L with
    | true =>
      have hL' := of_decide_eq_true hL
      have hL2 : ¬ y.num * (x.den : Int) ≤ x.num * y.den := by omega
      simp [evDef, startS, PX.execs, PX.exec, evX, evXB, evXL, frzS, anyOw, evE, evL, evJ, evT, bindE, bindT, bindTp, opCmp, opI2, storeIx, E.non?, slB, K00.b__law_values, l1, l2, c4, ne_bl, hL', hL2]
    | false =>
      have hL' := of_decide_eq_false hL
      have hL2 : y.num * (x.den : Int) ≤ x.num * y.den := by omega
      simp [evDef, startS, PX.execs, PX.exec, evX, evXB, evXL, frzS, anyOw, evE, evL, evJ, evT, bindE, bindT, bindTp, opCmp, opI2, storeIx, E.non?, slB, K00.b__law_values, l1, l2, c4, ne_bl, hL', hL2]
  have q8 : PX.exec (prg.tb (m + 3)) (K00.b__law_values.getD 8 .pass) (st6 x y) = .ok (.nx (st6 x y)) := by
    unfold st6
    simp [evDef, startS, PX.execs, PX.exec, evX, evXB, evXL, frzS, anyOw, evE, evL, evJ, evT, bindE, bindT, bindTp, opCmp, opI2, storeIx, E.non?, slB, K00.b__law_values, c5, c6, i1, i2]
  have q9 : PX.exec (prg.tb (m + 3)) (K00.b__law_values.getD 9 .pass) (st6 x y) = .ok (.nx (st6 x y)) := by
    unfold st6
    by_cases hd : x.den = 1
    · rw [decide_eq_true hd] at c7
      simp [evDef, startS, PX.execs, PX.exec, evX, evXB, evXL, frzS, anyOw, evE, evL, evJ, evT, bindE, bindT, bindTp, opCmp, opI2, storeIx, E.non?, slB, K00.b__law_values, c7, ne_bl, hd]
    · rw [decide_eq_false hd] at c7
      have hd' : ¬ (x.den : Int) = 1 := by omega
      simp [evDef, startS, PX.execs, PX.exec, evX, evXB, evXL, frzS, anyOw, evE, evL, evJ, evT, bindE, bindT, bindTp, opCmp, opI2, storeIx, E.non?, slB, K00.b__law_values, c7, ne_bl, hd, hd']
  have q10 : (PX.execs (prg.tb (m + 3)) (K00.b__law_values.drop 10) (st6 x y)).out = .ok (.fz (.bl true)) := by
    unfold st6
    simp [evDef, startS, PX.execs, PX.exec, evX, evXB, evXL, frzS, anyOw, evE, evL, evJ, evT, bindE, bindT, bindTp, opCmp, opI2, storeIx, E.non?, slB, K00.b__law_values, c8, c9, c10, i3, i4, i5, g1, g2, g3, g4, g5, g6, g7, g8, f1, f2, f3, f4, f5, f6]
  rw [h_values.run, evDef_out (show [enc x, enc y].length = 2 from rfl)]
  show (PX.execs (prg.tb (m + 3)) (K00.b__law_values.take 4 ++ (K00.b__law_values.getD 4 .pass :: K00.b__law_values.getD 5 .pass :: K00.b__law_values.getD 6 .pass :: K00.b__law_values.getD 7 .pass :: K00.b__law_values.getD 8 .pass :: K00.b__law_values.getD 9 .pass :: K00.b__law_values.drop 10)) [.fz (enc x), .fz (enc y), .un, .un, .un, .un, .un, .un, .un]).out = _
  unfold execs' at q0
  rw [execs_app, q0, RS.then_nx, PX.execs_cons, q4, RS.then_nx, PX.execs_cons, q5, RS.then_nx, PX.execs_cons, q6, RS.then_nx, PX.execs_cons, q7, RS.then_nx, PX.execs_cons, q8, RS.then_nx, PX.execs_cons, q9, RS.then_nx, q10]
end
end K00

set_option Elab.async false
set_option linter.all false
set_option maxRecDepth 100000
/-! K00F: lists. -/
namespace PX
open PySem PySem.Spec PyProof.Rows L2
def pyE (x : Rat) : PyData := if x.den = 1 then .int x.num else .tuple [.int x.num, .int x.den]
theorem enc_py (x : Rat) : (enc x).py = some (pyE x) := py_enc x
theorem encs_py : ∀ xs : List Rat, D.pys (xs.map enc) = some (xs.map pyE)
  | [] => rfl
  | x :: xs => by
    rw [List.map_cons, D.pys, enc_py, encs_py xs]
    rfl
theorem lay_pyE (x : Rat) : (pyE x).canLay0 = true := by
  unfold pyE
  split <;> simp [PyData.canLay0, PyData.canLayAll0]
theorem lay_pyEs : ∀ xs : List Rat, PyData.canLayAll0 (xs.map pyE) = true
  | [] => by simp [PyData.canLayAll0]
  | x :: xs => by
    rw [List.map_cons]
    simp [PyData.canLayAll0, lay_pyE, lay_pyEs xs]
theorem dep_pyE (x : Rat) : (pyE x).depth ≤ 2 := by
  unfold pyE
  split <;> simp [PyData.depth, PyData.depthAll]
theorem dep_pyEs : ∀ xs : List Rat, PyData.depthAll (xs.map pyE) ≤ 2
  | [] => by simp [PyData.depthAll]
  | x :: xs => by
    rw [List.map_cons]
    have := dep_pyE x
    have := dep_pyEs xs
    simp only [PyData.depthAll]
    omega
theorem eqv_pyE (x : Rat) : PyData.eqv (pyE x) (pyE x) = true := by
  unfold pyE
  split <;> simp [PyData.eqv, PyData.eqvAll]
theorem in_encs {x : Rat} {xs : List Rat} (h : x ∈ xs) : opIn (enc x) (.lst (xs.map enc)) = .ok true := by
  have s1 : SeqAt.shaped (pyE x) = true := by
    unfold SeqAt.shaped
    rw [lay_pyE, Bool.true_and]
    exact decide_eq_true (by have := dep_pyE x; omega)
  have s2 : SeqAt.shaped (.list (xs.map pyE)) = true := by
    unfold SeqAt.shaped
    rw [show (PyData.list (xs.map pyE)).canLay0 = PyData.canLayAll0 (xs.map pyE) by simp [PyData.canLay0], lay_pyEs, Bool.true_and]
    exact decide_eq_true (by have := dep_pyEs xs; simp only [PyData.depth]; omega)
  have a : (xs.map pyE).any (fun z => PyData.eqv z (pyE x)) = true := List.any_eq_true.2 ⟨pyE x, List.mem_map.2 ⟨x, h, rfl⟩, eqv_pyE x⟩
  have e : opIn (enc x) (.lst (xs.map enc)) = match (enc x).py, D.pys (xs.map enc) with
      | some p, some qs => if SeqAt.shaped p = true ∧ SeqAt.shaped (.list qs) = true then .ok (qs.any fun z => PyData.eqv z p) else .st
      | _, _ => .st := by
    by_cases hx : x.den = 1
    · rw [enc_one hx]; rfl
    · rw [enc_two hx]; rfl
  rw [e, enc_py, encs_py]
  show (if SeqAt.shaped (pyE x) = true ∧ SeqAt.shaped (.list (xs.map pyE)) = true then R.ok ((xs.map pyE).any fun z => PyData.eqv z (pyE x)) else .st) = _
  rw [if_pos ⟨s1, s2⟩, a]
end PX
namespace K00
open PySem PySem.Spec PyProof.Rows L2 PX
section
variable {m : Nat}
theorem due_step {c : Nat} {x : Rat} (hc : c < 2 ^ 60) (hx : Dr x) (h0 : 0 < c) (a s3 s4 s5 : Sl) :
    PX.execs (prg.tb (m + 2)) K00._law_lists_b1 [a, .fz (.int c), .fz (enc x), s3, s4, s5] = .ok (.nx [a, .fz (.int (Nat.lcm c x.den : Nat)), .fz (enc x), s3, s4, s5]) := by
  have e1 := sp_lbottom (m := m + 1) hasL x
  have hd : ((x.den : Int)).natAbs < 2 ^ 60 := pw_le hx.b.di (by decide)
  have hc' : ((c : Int)).natAbs < 2 ^ 60 := by simpa using hc
  have e2 := sp_gcd (m := m + 1) hasL.gcd hc' hd (by decide)
  have l1 : lgI (c : Int) + lgI (x.den : Int) < mulLine := lg_mul hc' hd (by decide) (by decide) (by decide)
  obtain ⟨g1, g2⟩ := gcd_lg (a := (c : Int)) (den_nz x) (pw_le hd (by decide))
  have g1' : ¬ (Nat.gcd ((c : Int)).natAbs ((x.den : Int)).natAbs : Int) = 0 := g1
  have e3 : ((c : Int) * (x.den : Int)).fdiv (Nat.gcd ((c : Int)).natAbs ((x.den : Int)).natAbs : Nat) = ((Nat.lcm c x.den : Nat) : Int) := by
    rw [Int.fdiv_eq_ediv_of_nonneg _ (by omega)]
    unfold Nat.lcm
    rw [Int.natAbs_natCast, Int.natAbs_natCast]
    norm_cast
  simp only [Int.natAbs_natCast] at e2 g1' g2 e3
  have g0 : c.gcd x.den ≠ 0 := by omega
  generalize c.gcd x.den = G at *
  generalize c.lcm x.den = M at *
  have d0 := ob_div (i := (c : Int) * x.den) g1' g2
  rw [e3] at d0
  simp [evDef, startS, PX.execs, PX.exec, evX, evXB, evXL, frzS, anyOw, evE, evL, evJ, evT, bindE, bindT, bindTp, opCmp, opI2, storeIx, E.non?, slB, K00._law_lists_b1, e1, e2, l1, d0]
theorem due_loop : ∀ (xs : List Rat) (c : Nat) (a s s3 s4 s5 : Sl), (∀ x, x ∈ xs → Dr x) → 0 < c → c * 60 ^ xs.length < 2 ^ 60 →
    ∃ s', forGo (.nm 2) (fun ρ => PX.execs (prg.tb (m + 2)) K00._law_lists_b1 ρ) (xs.map enc) [a, .fz (.int c), s, s3, s4, s5] = .ok (.nx [a, .fz (.int (lcmG c xs)), s', s3, s4, s5])
  | [], c, a, s, s3, s4, s5, _, _, _ => ⟨s, forGo_nil⟩
  | x :: xs, c, a, s, s3, s4, s5, hx, h0, hl => by
    have dx := hx x List.mem_cons_self
    have hc : c < 2 ^ 60 := Nat.lt_of_le_of_lt (Nat.le_mul_of_pos_right c (Nat.pow_pos (by decide))) hl
    have d4 : Nat.lcm c x.den * 60 ^ xs.length < 2 ^ 60 := by
      refine Nat.lt_of_le_of_lt ?_ hl
      rw [List.length_cons, Nat.pow_succ, Nat.mul_comm (60 ^ xs.length) 60, ← Nat.mul_assoc]
      exact Nat.mul_le_mul_right _ (Nat.le_trans lcm_le (Nat.mul_le_mul_left c dx.d))
    obtain ⟨s', e⟩ := due_loop xs (Nat.lcm c x.den) a (.fz (enc x)) s3 s4 s5 (fun y hy => hx y (List.mem_cons_of_mem _ hy)) (Nat.lcm_pos h0 x.den_pos) d4
    refine ⟨s', ?_⟩
    rw [List.map_cons, forGo_cons]
    simp only [bindT, R.on_ok, List.set]
    rw [due_step hc dx h0, RS.turn_nx]
    exact e
theorem cmp_loop {lo hi : Rat} (hlo : Dr lo) (hhi : Dr hi) : ∀ (xs : List Rat) (a s1 s2 s3 : Sl), (∀ x, x ∈ xs → Dr x ∧ lo ≤ x ∧ x ≤ hi) →
    ∃ s', forGo (.nm 2) (fun ρ => PX.execs (prg.tb (m + 2)) K00._law_lists_b2 ρ) (xs.map enc) [a, s1, s2, s3, .fz (enc lo), .fz (enc hi)] = .ok (.nx [a, s1, s', s3, .fz (enc lo), .fz (enc hi)])
  | [], a, s1, s2, s3, _ => ⟨s2, forGo_nil⟩
  | x :: xs, a, s1, s2, s3, hx => by
    obtain ⟨dx, h1, h2⟩ := hx x List.mem_cons_self
    obtain ⟨s', e⟩ := cmp_loop hlo hhi xs a s1 (.fz (enc x)) s3 (fun y hy => hx y (List.mem_cons_of_mem _ hy))
    refine ⟨s', ?_⟩
    rw [List.map_cons, forGo_cons]
    simp only [bindT, R.on_ok, List.set]
    have t1 := sp_ltop (m := m + 1) hasL x
    have t2 := sp_lbottom (m := m + 1) hasL x
    have t3 := sp_ltop (m := m + 1) hasL lo
    have t4 := sp_lbottom (m := m + 1) hasL lo
    have t5 := sp_ltop (m := m + 1) hasL hi
    have t6 := sp_lbottom (m := m + 1) hasL hi
    have l1 : lgI x.num + lgI (lo.den : Int) < mulLine := lg_mul dx.b.n hlo.b.di (by decide) (by decide) (by decide)
    have l2 : lgI lo.num + lgI (x.den : Int) < mulLine := lg_mul hlo.b.n dx.b.di (by decide) (by decide) (by decide)
    have l3 : lgI hi.num + lgI (x.den : Int) < mulLine := lg_mul hhi.b.n dx.b.di (by decide) (by decide) (by decide)
    have l4 : lgI x.num + lgI (hi.den : Int) < mulLine := lg_mul dx.b.n hhi.b.di (by decide) (by decide) (by decide)
    have f1 : ¬ x.num * (lo.den : Int) < lo.num * x.den := by
      have := Rat.le_iff lo x |>.1 h1
      omega
    have f2 : ¬ hi.num * (x.den : Int) < x.num * hi.den := by
      have := Rat.le_iff x hi |>.1 h2
      omega
    have z : PX.execs (prg.tb (m + 2)) K00._law_lists_b2 [a, s1, .fz (enc x), s3, .fz (enc lo), .fz (enc hi)] = .ok (.nx [a, s1, .fz (enc x), s3, .fz (enc lo), .fz (enc hi)]) := by
      simp [evDef, startS, PX.execs, PX.exec, evX, evXB, evXL, frzS, anyOw, evE, evL, evJ, evT, bindE, bindT, bindTp, opCmp, opI2, storeIx, E.non?, slB, K00._law_lists_b2, t1, t2, t3, t4, t5, t6, l1, l2, l3, l4, f1, f2]
    rw [z, RS.turn_nx]
    exact e
end
end K00

set_option Elab.async false
set_option linter.all false
set_option maxRecDepth 100000
/-! K00G: the law's lists. -/
namespace K00
open PySem PySem.Spec PyProof.Rows L2 PX
section
variable {m : Nat}
theorem sp_lists {xs : List Rat} (hx : ∀ x, x ∈ xs → Dr x) (hl : xs.length ≤ 6) : prg.call (m + 4) "_law_lists" [.lst (xs.map enc)] = .ok (.fz (.bl true)) := by
  have hY := hasT.toHasY
  have p6 : 60 ^ xs.length ≤ 60 ^ 6 := Nat.pow_le_pow_right (by decide) hl
  have p60 : (60 : Nat) ^ 6 < 2 ^ 60 := by decide
  have p64 : (60 : Nat) ^ 6 < 2 ^ 64 := by decide
  obtain ⟨s1, e1⟩ := due_loop (m := m + 1) xs 1 (.fz (.lst (xs.map enc))) .un .un .un .un hx (by decide) (by omega)
  have c1 := sp_common (m := m + 1) hY (B := 60) (by decide) (xs := xs) (fun x h => (hx x h).d) (by omega) (by decide)
  have c2 := sp_least (m := m) hY (k := 44) (by decide) (xs := xs) (fun x h => (hx x h).b)
  have c3 := sp_most (m := m) hY (k := 44) (by decide) (xs := xs) (fun x h => (hx x h).b)
  have i1 := sp_is_int (m := m + 2) hasL (lcmG 1 xs : Nat)
  rw [h_lists.run, evDef_out (show [D.lst (xs.map enc)].length = 1 from rfl)]
  have q0 : PX.exec (prg.tb (m + 3)) (K00.b__law_lists.getD 0 .pass) [.fz (.lst (xs.map enc)), .un, .un, .un, .un, .un] = .ok (.nx [.fz (.lst (xs.map enc)), .fz (.int (1 : Nat)), .un, .un, .un, .un]) := by
    simp [evDef, startS, PX.execs, PX.exec, evX, evXB, evXL, frzS, anyOw, evE, evL, evJ, evT, bindE, bindT, bindTp, opCmp, opI2, storeIx, E.non?, slB, K00.b__law_lists]
  have q1 : PX.exec (prg.tb (m + 3)) (K00.b__law_lists.getD 1 .pass) [.fz (.lst (xs.map enc)), .fz (.int (1 : Nat)), .un, .un, .un, .un] = .ok (.nx [.fz (.lst (xs.map enc)), .fz (.int (lcmG 1 xs)), s1, .un, .un, .un]) := by
    rw [← e1]
    exact ex_for_of (ds := [.lst (xs.map enc)]) (by simp [anyOw]) (by simp [evDef, startS, PX.execs, PX.exec, evX, evXB, evXL, frzS, anyOw, evE, evL, evJ, evT, bindE, bindT, bindTp, opCmp, opI2, storeIx, E.non?, slB]) rfl
  generalize hM : lcmG 1 xs = M at *
  have q2 : PX.execs (prg.tb (m + 3)) ((K00.b__law_lists.drop 2).take 4) [.fz (.lst (xs.map enc)), .fz (.int M), s1, .un, .un, .un] = .ok (.nx [.fz (.lst (xs.map enc)), .fz (.int M), s1, .fz (.int M), .fz (encO (leastG none xs)), .fz (encO (mostG none xs))]) := by
    simp [evDef, startS, PX.execs, PX.exec, evX, evXB, evXL, frzS, anyOw, evE, evL, evJ, evT, bindE, bindT, bindTp, opCmp, opI2, storeIx, E.non?, slB, K00.b__law_lists, c1, c2, c3, i1, D.lf, D.lfs]
  show (PX.execs (prg.tb (m + 3)) (K00.b__law_lists.getD 0 .pass :: K00.b__law_lists.getD 1 .pass :: ((K00.b__law_lists.drop 2).take 4 ++ K00.b__law_lists.drop 6)) [.fz (.lst (xs.map enc)), .un, .un, .un, .un, .un]).out = _
  rw [PX.execs_cons, q0, RS.then_nx, PX.execs_cons, q1, RS.then_nx, execs_app, q2, RS.then_nx]
  cases xs with
  | nil =>
    simp [evDef, startS, PX.execs, PX.exec, evX, evXB, evXL, frzS, anyOw, evE, evL, evJ, evT, bindE, bindT, bindTp, opCmp, opI2, storeIx, E.non?, slB, K00.b__law_lists, leastG, mostG, encO]
  | cons x r =>
    obtain ⟨lo, a1, a2, a3, a4⟩ := leastG_some r x
    obtain ⟨hi, b1, b2, b3, b4⟩ := mostG_some r x
    have ml : lo ∈ x :: r := by rcases a2 with rfl | a2; exact List.mem_cons_self; exact List.mem_cons_of_mem _ a2
    have mh : hi ∈ x :: r := by rcases b2 with rfl | b2; exact List.mem_cons_self; exact List.mem_cons_of_mem _ b2
    have dl := hx lo ml
    have dh := hx hi mh
    rw [show leastG none (x :: r) = some lo from a1, show mostG none (x :: r) = some hi from b1]
    have n1 := sp_is_number (m := m + 1) hasL dl.b (by decide)
    have n2 := sp_is_number (m := m + 1) hasL dh.b (by decide)
    have o1 := in_encs ml
    have o2 := in_encs mh
    have hb : ∀ y, y ∈ x :: r → Dr y ∧ lo ≤ y ∧ y ≤ hi := fun y hy => ⟨hx y hy, by
      rcases List.mem_cons.mp hy with rfl | hy
      · exact a3
      · exact a4 y hy, by
      rcases List.mem_cons.mp hy with rfl | hy
      · exact b3
      · exact b4 y hy⟩
    obtain ⟨s2, e2⟩ := cmp_loop (m := m + 1) dl dh (x :: r) (.fz (.lst ((x :: r).map enc))) (.fz (.int M)) s1 (.fz (.int M)) hb
    have hne : ¬ (((x :: r).map enc).length : Int) = 0 := by simp; omega
    generalize (x :: r).map enc = X at *
    have q6 : PX.execs (prg.tb (m + 3)) ((K00.b__law_lists.drop 6).take 2) [.fz (.lst X), .fz (.int M), s1, .fz (.int M), .fz (encO (some lo)), .fz (encO (some hi))] = .ok (.nx [.fz (.lst X), .fz (.int M), s1, .fz (.int M), .fz (enc lo), .fz (enc hi)]) := by
      have hne2 : ¬ X = [] := fun z => hne (by rw [z]; rfl)
      simp [evDef, startS, PX.execs, PX.exec, evX, evXB, evXL, frzS, anyOw, evE, evL, evJ, evT, bindE, bindT, bindTp, opCmp, opI2, storeIx, E.non?, slB, K00.b__law_lists, encO, n1, n2, o1, o2, hne, hne2]
    have q8 : PX.exec (prg.tb (m + 3)) (K00.b__law_lists.getD 8 .pass) [.fz (.lst X), .fz (.int M), s1, .fz (.int M), .fz (enc lo), .fz (enc hi)] = .ok (.nx [.fz (.lst X), .fz (.int M), s2, .fz (.int M), .fz (enc lo), .fz (enc hi)]) := by
      rw [← e2]
      exact ex_for_of (ds := [.lst X]) (by simp [anyOw]) (by simp [evDef, startS, PX.execs, PX.exec, evX, evXB, evXL, frzS, anyOw, evE, evL, evJ, evT, bindE, bindT, bindTp, opCmp, opI2, storeIx, E.non?, slB]) rfl
    show (PX.execs (prg.tb (m + 3)) ((K00.b__law_lists.drop 6).take 2 ++ (K00.b__law_lists.getD 8 .pass :: K00.b__law_lists.drop 9)) _).out = _
    rw [execs_app, q6, RS.then_nx, PX.execs_cons, q8, RS.then_nx]
    simp [evDef, startS, PX.execs, PX.exec, evX, evXB, evXL, frzS, anyOw, evE, evL, evJ, evT, bindE, bindT, bindTp, opCmp, opI2, storeIx, E.non?, slB, K00.b__law_lists]
end
end K00

set_option Elab.async false
set_option linter.all false
set_option maxRecDepth 100000
/-! K00H: the bad texts. -/
namespace K00
open PySem PySem.Spec PyProof.Rows L2 PX
def bad1 : List Str := ["", "+3", "03", "-0", "3/1", "2/4", "1/0", "0/5", "1/-2", " 3", "3 ", "a", "-", "/2", "3/", "1/2/3", "--3"]
def bad2 : List Str := ["1/02", "1 /2", "-", "1//2", "00", "0x1", "1.0", "3\n", "1" ++ Txt.mul "0" 400, "1/1" ++ Txt.mul "0" 400]
def isBad (s : Str) : Prop := prg.call 11 "read_number" [.str s] = .ex "BadText" []
theorem bad_1 : ∀ s, s ∈ bad1 → isBad s := by
  have h : isBad "" ∧ isBad "+3" ∧ isBad "03" ∧ isBad "-0" ∧ isBad "3/1" ∧ isBad "2/4" ∧ isBad "1/0" ∧ isBad "0/5" ∧ isBad "1/-2" ∧ isBad " 3" ∧ isBad "3 " ∧ isBad "a" ∧ isBad "-" ∧ isBad "/2" ∧ isBad "3/" ∧ isBad "1/2/3" ∧ isBad "--3" := by
    unfold isBad
    refine ⟨?_, ?_, ?_, ?_, ?_, ?_, ?_, ?_, ?_, ?_, ?_, ?_, ?_, ?_, ?_, ?_, ?_⟩ <;> kernel_rfl
  unfold bad1
  simpa using h
theorem bad_2 : ∀ s, s ∈ bad2 → isBad s := by
  have h : isBad "1/02" ∧ isBad "1 /2" ∧ isBad "-" ∧ isBad "1//2" ∧ isBad "00" ∧ isBad "0x1" ∧ isBad "1.0" ∧ isBad "3\n" ∧ isBad ("1" ++ Txt.mul "0" 400) ∧ isBad ("1/1" ++ Txt.mul "0" 400) := by
    unfold isBad
    refine ⟨?_, ?_, ?_, ?_, ?_, ?_, ?_, ?_, ?_, ?_⟩ <;> kernel_rfl
  unfold bad2
  simpa using h
theorem no_text {s : Str} (h : isBad s) : prg.call 12 "_law_no_text" [.str s] = .ok (.fz (.bl true)) := by
  have h' : prg.call (8 + 3) "read_number" [.str (tx s.cps.toList)] = .ex "BadText" [] := by rw [tx_of]; exact h
  have q := sp_no_text (m := 8) h'
  rw [tx_of] at q
  exact q
theorem bad_all : ∀ s, s ∈ bad1 ++ bad2 → isBad s := fun s hs => by
  rcases List.mem_append.mp hs with h | h
  · exact bad_1 s h
  · exact bad_2 s h
/-- a number's text with more behind it -/
theorem no_more {m : Nat} {x : Rat} (h : Dr x) : prg.call (m + 4) "_law_no_text" [.str (tx (numL x ++ [47, 55, 47, 57]))] = .ok (.fz (.bl true)) := by
  refine sp_no_text ?_
  have hl : (numL x ++ [47, 55, 47, 57]).length ≤ 100000 := by
    have := numL_len h.n400 h.d400
    rw [List.length_append]
    simp
    omega
  have hb : bodyL (numL x ++ [47, 55, 47, 57]) = restL x ++ [47, 55, 47, 57] := by
    by_cases hn : x.num < 0
    · rw [numL_neg hn]; unfold bodyL; rw [if_pos (by simp)]; rfl
    · rw [numL_pos hn]; unfold bodyL restL; rw [List.append_assoc, if_neg num_head]
  by_cases hd : x.den = 1
  · have e : restL x = dg x.num.natAbs := by unfold restL; rw [if_pos hd, List.append_nil]
    refine sp_read_bad hasT hl (a := dg x.num.natAbs) (ob := some [55, 47, 57]) (.two _ _ (dg_no (by decide)) (by rw [hb, e])) (.inr (.inl ⟨_, rfl, fun z => ?_⟩))
    have := z.1 47 (by simp)
    omega
  · have e : restL x = dg x.num.natAbs ++ 47 :: dg x.den := by unfold restL; rw [if_neg hd]
    refine sp_read_bad hasT hl (a := dg x.num.natAbs) (ob := some (dg x.den ++ [47, 55, 47, 57])) (.two _ _ (dg_no (by decide)) (by rw [hb, e]; simp)) (.inr (.inl ⟨_, rfl, fun z => ?_⟩))
    have := z.1 47 (by simp)
    omega
end K00

set_option Elab.async false
set_option linter.all false
set_option maxRecDepth 100000
/-! K00I: the law. -/
namespace K00
open PySem PySem.Spec PyProof.Rows L2 PX
theorem lf_enc (x : Rat) : (enc x).lf = true := by
  unfold enc
  split <;> simp [D.lf, D.lfs]
theorem lfs_encs : ∀ xs : List Rat, D.lfs (xs.map enc) = true
  | [] => rfl
  | x :: xs => by rw [List.map_cons, D.lfs, lf_enc, lfs_encs xs]; rfl
theorem lfs_ints : ∀ xs : List Int, D.lfs (xs.map D.int) = true
  | [] => rfl
  | x :: xs => by rw [List.map_cons, D.lfs, lfs_ints xs]; rfl
@[simp] theorem lf_fz_enc (x : Rat) : (EV.fz (enc x)).lf = true := lf_enc x
@[simp] theorem lf_fz_bl (b : Bool) : (EV.fz (.bl b)).lf = true := rfl
@[simp] theorem lf_fz_int (b : Int) : (EV.fz (.int b)).lf = true := rfl
section
/-- the slots behind the first row -/
def sA (ns : List Int) (row : List Int) (r : List Sl) : Rho := .fz (.scr ns) :: .ow (.lst (row.map D.int)) :: r
theorem la {ns row : List Int} (hl : row.length = 8) (hr : ∀ r, r ∈ row → inR r) : ∃ (large : Bool) (x y : Rat), Dr x ∧ Dr y ∧
    PX.execs (prg.tb 12) ((K00.b_law.drop 1).take 3) (sA ns row (List.replicate 11 .un)) = .ok (.nx (sA ns row ([.fz (.bl large), .fz (enc x), .fz (enc y)] ++ List.replicate 8 .un))) := by
  have a6 := at_map row 6 (by omega)
  generalize hv : row[6] = v at *
  obtain ⟨x, e1, dx⟩ := sp_drawn (m := 9) hr (k := 0) (by omega) (decide (v.fmod 4 = 1))
  obtain ⟨y, e2, dy⟩ := sp_drawn (m := 9) hr (k := 2) (by omega) (decide (v.fmod 4 = 1) && decide (v.fmod 3 = 1))
  have h4 : (4 : Int) ≠ 0 := by decide
  have h3 : (3 : Int) ≠ 0 := by decide
  refine ⟨decide (v.fmod 4 = 1), x, y, dx, dy, ?_⟩
  have a6' : atI (row.map D.int) 6 = some (.int v) := a6
  have e1' : prg.call 12 "_law_drawn" [.lst (row.map D.int), .int 0, .bl (decide (v.fmod 4 = 1))] = .ok (.fz (enc x)) := e1
  have e2' : prg.call 12 "_law_drawn" [.lst (row.map D.int), .int 2, .bl (decide (v.fmod 4 = 1) && decide (v.fmod 3 = 1))] = .ok (.fz (enc y)) := e2
  generalize hL : decide (v.fmod 4 = 1) = L at *
  generalize hM : decide (v.fmod 3 = 1) = M at *
  unfold sA
  cases L with
  | true => 
    rw [Bool.true_and] at e2'
    simp [evDef, startS, PX.execs, PX.exec, evX, evXB, evXL, frzS, anyOw, evE, evL, evJ, evT, bindE, bindT, bindTp, opCmp, opI2, storeIx, E.non?, slB, K00.b_law, a6', h4, h3, e1', e2', hL, hM]
  | false =>
    rw [Bool.false_and] at e2'
    simp [evDef, startS, PX.execs, PX.exec, evX, evXB, evXL, frzS, anyOw, evE, evL, evJ, evT, bindE, bindT, bindTp, opCmp, opI2, storeIx, E.non?, slB, K00.b_law, a6', h4, h3, e1', e2', hL, hM]
theorem lb {ns row : List Int} (hl : row.length = 8) (hr : ∀ r, r ∈ row → inR r) {large : Bool} {x y : Rat} (dx : Dr x) (dy : Dr y) : ∃ a b : Int,
    PX.execs (prg.tb 12) ((K00.b_law.drop 4).take 5) (sA ns row ([.fz (.bl large), .fz (enc x), .fz (enc y)] ++ List.replicate 8 .un)) = .ok (.nx (sA ns row ([.fz (.bl large), .fz (enc x), .fz (enc y), .fz (.int a), .fz (.int b)] ++ List.replicate 6 .un))) := by
  have a0 := at_map row 0 (by omega)
  have a4 := at_map row 4 (by omega)
  have i0 := hr row[0] (List.getElem_mem _)
  generalize hu : row[0] = u at *
  generalize hv : row[4] = v at *
  have a0' : atI (row.map D.int) 0 = some (.int u) := a0
  have a4' : atI (row.map D.int) 4 = some (.int v) := a4
  have h60 : (60 : Int) ≠ 0 := by decide
  have h2 : (2 : Int) ≠ 0 := by decide
  have f0 : 0 ≤ v.fmod 60 := Int.fmod_nonneg_of_pos _ (by decide)
  have f1 : v.fmod 60 < 60 := Int.fmod_lt_of_pos _ (by decide)
  obtain ⟨u0, u1⟩ := i0
  have p44 : (2 : Nat) ^ 44 = 17592186044416 := by decide
  have v1 : prg.call 12 "_law_values" [enc x, enc y] = .ok (.fz (.bl true)) := sp_values (m := 8) dx dy
  have v2 : prg.call 12 "_law_values" [enc y, enc x] = .ok (.fz (.bl true)) := sp_values (m := 8) dy dx
  have v3 : prg.call 12 "_law_values" [enc x, enc x] = .ok (.fz (.bl true)) := sp_values (m := 8) dx dx
  have w1 : prg.call 12 "_law_no_ratio" [.int (u - 5003)] = .ok (.fz (.bl true)) := sp_no_ratio (m := 10) _
  have w2 : prg.call 12 "_law_no_quotient" [enc x] = .ok (.fz (.bl true)) := sp_no_quotient (m := 9) _
  generalize hw : v.fmod 60 = w at *
  have key : ∀ b : Int, b ≠ 0 → b.natAbs < 2 ^ 44 → prg.call 12 "ratio" [.int (u - 5003), .int b] = .ok (.fz (enc (Rat.divInt (u - 5003) b))) ∧ prg.call 12 "_law_stands" [enc (Rat.divInt (u - 5003) b), .int (u - 5003), .int b] = .ok (.fz (.bl true)) := fun b hb hb2 =>
    ⟨sp_ratio (m := 11) hasT.ratio hb (pw_le hb2 (by decide)), sp_stands (m := 9) (k := 44) (bd_divInt (by omega) hb2 hb) (by omega) hb2 (by decide) (st_div hb)⟩
  by_cases hn : v.fmod 2 = 1
  · obtain ⟨k1, k2⟩ := key (-(1 + w)) (by omega) (by omega)
    refine ⟨u - 5003, -(1 + w), ?_⟩
    generalize hB : -(1 + w) = B at *
    unfold sA
    simp [evDef, startS, PX.execs, PX.exec, evX, evXB, evXL, frzS, anyOw, evE, evL, evJ, evT, bindE, bindT, bindTp, opCmp, opI2, storeIx, E.non?, slB, K00.b_law, a0', a4', h60, h2, hn, hw, hB, k1, k2, v1, v2, v3, w1, w2]
  · obtain ⟨k1, k2⟩ := key (1 + w) (by omega) (by omega)
    refine ⟨u - 5003, 1 + w, ?_⟩
    generalize hB : 1 + w = B at *
    unfold sA
    simp [evDef, startS, PX.execs, PX.exec, evX, evXB, evXL, frzS, anyOw, evE, evL, evJ, evT, bindE, bindT, bindTp, opCmp, opI2, storeIx, E.non?, slB, K00.b_law, a0', a4', h60, h2, hn, hw, hB, k1, k2, v1, v2, v3, w1, w2]
end
end K00

set_option Elab.async false
set_option linter.all false
set_option maxRecDepth 100000
/-! K00J: the law's drawn list. -/
namespace K00
open PySem PySem.Spec PyProof.Rows L2 PX
theorem lc_go {row2 : List Int} (hl : row2.length = 14) (hr : ∀ r, r ∈ row2 → inR r) (large : Bool) (c0 c1 c3 c4 c5 c6 c8 c9 c10 c11 c12 : Sl) : ∀ ks : List Nat, (∀ k, k ∈ ks → k ≤ 6) →
    ∃ xs : List Rat, (∀ x, x ∈ xs → Dr x) ∧ xs.length = ks.length ∧ lcGo (.nm 9) (fun ρ1 => evT (prg.tb 12) ρ1 []) (fun ρ1 => evE (prg.tb 12) ρ1 K00.law_e1) [c0, c1, .fz (.bl large), c3, c4, c5, c6, .fz (.lst (row2.map D.int)), c8, c9, c10, c11, c12] (ks.map fun (k : Nat) => D.int (k : Int)) = .ok (xs.map enc)
  | [], _ => by
    refine ⟨[], fun x hx => ?_, rfl, ?_⟩
    · cases hx
    · show lcGo _ _ _ _ [] = _
      rw [lcGo]
      rfl
  | k :: ks, hk => by
    obtain ⟨xs, h1, h2, h3⟩ := lc_go hl hr large c0 c1 c3 c4 c5 c6 c8 c9 c10 c11 c12 ks (fun j hj => hk j (List.mem_cons_of_mem _ hj))
    have k6 := hk k List.mem_cons_self
    obtain ⟨x, e, dx⟩ := sp_drawn (m := 9) hr (k := 2 * k) (by omega) large
    refine ⟨x :: xs, fun z hz => ?_, by simp [h2], ?_⟩
    · rcases List.mem_cons.mp hz with rfl | hz
      · exact dx
      · exact h1 z hz
    · have k10 : ((k : Int)).natAbs < 2 ^ 10 := by
        have : (2 : Nat) ^ 10 = 1024 := by decide
        omega
      have l2 : lgI 2 + lgI (k : Int) < mulLine := lg_mul (k := 10) (l := 10) (by decide) k10 (by decide) (by decide) (by decide)
      have e' : prg.call 12 "_law_drawn" [.lst (row2.map D.int), .int (2 * (k : Int)), .bl large] = .ok (.fz (enc x)) := by
        rw [show 2 * (k : Int) = ((2 * k : Nat) : Int) by omega]
        exact e
      have zt : evT (prg.tb 12) [c0, c1, .fz (.bl large), c3, c4, c5, c6, .fz (.lst (row2.map D.int)), c8, .fz (.int k), c10, c11, c12] [] = .ok true := by rw [evT]
      have ze : evE (prg.tb 12) [c0, c1, .fz (.bl large), c3, c4, c5, c6, .fz (.lst (row2.map D.int)), c8, .fz (.int k), c10, c11, c12] K00.law_e1 = .ok (.fz (enc x)) := by
        simp [evDef, startS, PX.execs, PX.exec, evX, evXB, evXL, frzS, anyOw, evE, evL, evJ, evT, bindE, bindT, bindTp, opCmp, opI2, storeIx, E.non?, slB, K00.law_e1, l2, e']
      rw [List.map_cons, lcGo]
      simp only [bindT, R.bind_ok, List.set, zt, ze, h3, ↓reduceIte, R.map_ok]
      rfl
end K00

set_option Elab.async false
set_option linter.all false
set_option maxRecDepth 100000
/-! K00K: the law, the rest. -/
namespace K00
open PySem PySem.Spec PyProof.Rows L2 PX
theorem texts_loop (r : List Sl) (hr : r.length = 2) (c0 c1 c2 c3 c4 c5 c6 c7 c8 c9 : Sl) : ∀ (xs : List Rat) (s : Sl), (∀ x, x ∈ xs → Dr x) →
    ∃ s', forGo (.nm 10) (fun ρ => PX.execs (prg.tb 12) K00.law_b1 ρ) (xs.map enc) ([c0, c1, c2, c3, c4, c5, c6, c7, c8, c9, s] ++ r) = .ok (.nx ([c0, c1, c2, c3, c4, c5, c6, c7, c8, c9, s'] ++ r))
  | [], s, _ => ⟨s, forGo_nil⟩
  | x :: xs, s, hx => by
    obtain ⟨s', e⟩ := texts_loop r hr c0 c1 c2 c3 c4 c5 c6 c7 c8 c9 xs (.fz (enc x)) (fun y hy => hx y (List.mem_cons_of_mem _ hy))
    refine ⟨s', ?_⟩
    have t : prg.call 12 "_law_texts" [enc x] = .ok (.fz (.bl true)) := sp_texts (m := 8) (hx x List.mem_cons_self)
    rw [List.map_cons, forGo_cons]
    simp only [bindT, R.on_ok, List.cons_append, List.nil_append, List.set]
    have z : PX.execs (prg.tb 12) K00.law_b1 (c0 :: c1 :: c2 :: c3 :: c4 :: c5 :: c6 :: c7 :: c8 :: c9 :: .fz (enc x) :: r) = .ok (.nx (c0 :: c1 :: c2 :: c3 :: c4 :: c5 :: c6 :: c7 :: c8 :: c9 :: .fz (enc x) :: r)) := by
      simp [evDef, startS, PX.execs, PX.exec, evX, evXB, evXL, frzS, anyOw, evE, evL, evJ, evT, bindE, bindT, bindTp, opCmp, opI2, storeIx, E.non?, slB, K00.law_b1, t]
    rw [z, RS.turn_nx]
    exact e
theorem ten_loop (c0 c1 c2 c3 c4 c5 c6 c7 c8 c10 c11 : Sl) : ∀ (is : List D) (n : Nat) (s : Sl), n + is.length ≤ 400 →
    ∃ s', forGo (.nm 9) (fun ρ => PX.execs (prg.tb 12) K00.law_b2 ρ) is [c0, c1, c2, c3, c4, c5, c6, c7, c8, s, c10, c11, .fz (.int ((10 ^ n : Nat) : Int))] = .ok (.nx [c0, c1, c2, c3, c4, c5, c6, c7, c8, s', c10, c11, .fz (.int ((10 ^ (n + is.length) : Nat) : Int))])
  | [], n, s, _ => ⟨s, forGo_nil⟩
  | i :: is, n, s, h => by
    rw [List.length_cons] at h
    obtain ⟨s', e⟩ := ten_loop c0 c1 c2 c3 c4 c5 c6 c7 c8 c10 c11 is (n + 1) (.fz i) (by omega)
    refine ⟨s', ?_⟩
    have b1 : (((10 ^ n : Nat) : Int)).natAbs < 2 ^ 1600 := by
      rw [Int.natAbs_natCast]
      exact Nat.lt_of_le_of_lt (Nat.pow_le_pow_right (by decide) (show n ≤ 400 by omega)) (by decide +kernel)
    have l1 := lg_mul (l := 10) b1 (show (10 : Int).natAbs < 2 ^ 10 by decide) (by decide) (by decide) (by decide)
    have e2 : ((10 ^ n : Nat) : Int) * 10 = ((10 ^ (n + 1) : Nat) : Int) := by
      rw [Nat.pow_succ, Int.natCast_mul]
      rfl
    have o := ob_mul l1
    rw [e2] at o
    rw [forGo_cons]
    simp only [bindT, R.on_ok, List.set]
    generalize ((10 ^ n : Nat) : Int) = A at *
    rw [show n + (i :: is).length = n + 1 + is.length by simp; omega]
    generalize ((10 ^ (n + 1) : Nat) : Int) = B at *
    have z : PX.execs (prg.tb 12) K00.law_b2 [c0, c1, c2, c3, c4, c5, c6, c7, c8, .fz i, c10, c11, .fz (.int A)] = .ok (.nx [c0, c1, c2, c3, c4, c5, c6, c7, c8, .fz i, c10, c11, .fz (.int B)]) := by
      simp [evDef, startS, PX.execs, PX.exec, evX, evXB, evXL, frzS, anyOw, evE, evL, evJ, evT, bindE, bindT, bindTp, opCmp, opI2, storeIx, E.non?, slB, K00.law_b2, o]
    rw [z, RS.turn_nx]
    exact e
end K00

set_option Elab.async false
set_option linter.all false
set_option maxRecDepth 100000
/-! K00L: the law, its lists. -/
namespace K00
open PySem PySem.Spec PyProof.Rows L2 PX
/-- the slots: the script, the row, large, x, y, a, b, and what follows -/
def sB (ns row : List Int) (large : Bool) (x y : Rat) (a b : Int) (r : List Sl) : Rho := sA ns row ([.fz (.bl large), .fz (enc x), .fz (enc y), .fz (.int a), .fz (.int b)] ++ r)
theorem lc9 {ns row row2 : List Int} {large : Bool} {x y : Rat} {a b : Int} (h : prg.call 12 "_law_numbers" [.scr ns, .int 1, .int 14] = .ok (.fr (.lst (row2.map D.int)))) :
    PX.exec (prg.tb 12) (K00.b_law.getD 9 .pass) (sB ns row large x y a b (List.replicate 6 .un)) = .ok (.nx (sB ns row large x y a b (.ow (.lst (row2.map D.int)) :: List.replicate 5 .un))) := by
  unfold sB sA
  simp [evDef, startS, PX.execs, PX.exec, evX, evXB, evXL, frzS, anyOw, evE, evL, evJ, evT, bindE, bindT, bindTp, opCmp, opI2, storeIx, E.non?, slB, K00.b_law, h]
theorem lc10 {ns row row2 : List Int} (hl0 : row.length = 8) (hr0 : ∀ r, r ∈ row → inR r) (hl : row2.length = 14) (hr : ∀ r, r ∈ row2 → inR r) {large : Bool} {x y : Rat} {a b : Int} :
    ∃ xs : List Rat, (∀ x, x ∈ xs → Dr x) ∧ xs.length ≤ 6 ∧
    PX.exec (prg.tb 12) (K00.b_law.getD 10 .pass) (sB ns row large x y a b (.ow (.lst (row2.map D.int)) :: List.replicate 5 .un)) = .ok (.nx (sB ns row large x y a b (.ow (.lst (row2.map D.int)) :: .ow (.lst (xs.map enc)) :: List.replicate 4 .un))) := by
  have a5 := at_map row 5 (by omega)
  generalize hv : row[5] = v at *
  have a5' : atI (row.map D.int) 5 = some (.int v) := a5
  have f0 : 0 ≤ v.fmod 7 := Int.fmod_nonneg_of_pos _ (by decide)
  have f1 : v.fmod 7 < 7 := Int.fmod_lt_of_pos _ (by decide)
  obtain ⟨n, hn⟩ := Int.eq_ofNat_of_zero_le f0
  have it := items_nat (n := n) (by omega)
  have hd : rngD n = (List.range n).map fun (k : Nat) => D.int (k : Int) := by
    unfold rngD rngI
    rw [List.map_map]
    exact List.map_congr_left fun k _ => congrArg D.int (Int.zero_add (k : Int))
  obtain ⟨xs, h1, h2, h3⟩ := lc_go hl hr large (.fz (.scr ns)) (.fz (.lst (row.map D.int))) (.fz (enc x)) (.fz (enc y)) (.fz (.int a)) (.fz (.int b)) .un .un .un .un .un (List.range n) (fun k hk => by have := List.mem_range.mp hk; omega)
  refine ⟨xs, h1, by rw [h2, List.length_range]; omega, ?_⟩
  rw [← hd] at h3
  have h7 : (7 : Int) ≠ 0 := by decide
  have sb := sizeBig
  have hlen : (rngD n).length ≤ sizeLine := by
    unfold rngD
    rw [List.length_map, rngI_len]
    omega
  have lf : (EV.fr (.lst (xs.map enc))).lf = true := lfs_encs xs
  have eL : evL (prg.tb 12) [.fz (.scr ns), .fz (.lst (row.map D.int)), .fz (.bl large), .fz (enc x), .fz (enc y), .fz (.int a), .fz (.int b), .fz (.lst (row2.map D.int)), .un, .un, .un, .un, .un] [.bin .Mod (.bi .int [.ix (.var 1) (.int 5)]) (.int 7)] = .ok [.int (n : Int)] := by
    simp [evL, evE, a5', h7, hn]
  have eE : evE (prg.tb 12) [.fz (.scr ns), .fz (.lst (row.map D.int)), .fz (.bl large), .fz (enc x), .fz (enc y), .fz (.int a), .fz (.int b), .fz (.lst (row2.map D.int)), .un, .un, .un, .un, .un] (.lc [9] (.nm 9) .rng [.bin .Mod (.bi .int [.ix (.var 1) (.int 5)]) (.int 7)] [] K00.law_e1) = .ok (.fr (.lst (xs.map enc))) := by
    rw [evE, eL, R.bind_ok, it, R.bind_ok, if_pos hlen]
    rw [show wipeS [Sl.fz (.scr ns), .fz (.lst (row.map D.int)), .fz (.bl large), .fz (enc x), .fz (enc y), .fz (.int a), .fz (.int b), .fz (.lst (row2.map D.int)), .un, .un, .un, .un, .un] [9] = [Sl.fz (.scr ns), .fz (.lst (row.map D.int)), .fz (.bl large), .fz (enc x), .fz (enc y), .fz (.int a), .fz (.int b), .fz (.lst (row2.map D.int)), .un, .un, .un, .un, .un] from rfl, h3]
    rfl
  have sn : K00.b_law.getD 10 .pass = .asg (.nm 8) (.lc [9] (.nm 9) .rng [.bin .Mod (.bi .int [.ix (.var 1) (.int 5)]) (.int 7)] [] K00.law_e1) [1, 2, 7] := rfl
  rw [sn, PX.exec]
  unfold sB sA evX
  have fz : frzS [.fz (.scr ns), .ow (.lst (row.map D.int)), .fz (.bl large), .fz (enc x), .fz (enc y), .fz (.int a), .fz (.int b), .ow (.lst (row2.map D.int)), .un, .un, .un, .un, .un] [1, 2, 7] = [.fz (.scr ns), .fz (.lst (row.map D.int)), .fz (.bl large), .fz (enc x), .fz (enc y), .fz (.int a), .fz (.int b), .fz (.lst (row2.map D.int)), .un, .un, .un, .un, .un] := by simp [frzS]
  have ao : anyOw [.fz (.scr ns), .ow (.lst (row.map D.int)), .fz (.bl large), .fz (enc x), .fz (enc y), .fz (.int a), .fz (.int b), .ow (.lst (row2.map D.int)), .un, .un, .un, .un, .un] [1, 2, 7] = true := by simp [anyOw]
  simp only [List.cons_append, List.nil_append, List.replicate]
  rw [ao, if_pos rfl, fz, eE, R.on_ok, if_pos lf]
  simp [bindE]
end K00

set_option Elab.async false
set_option linter.all false
set_option maxRecDepth 100000
/-! K00M: the law, its texts. -/
namespace K00
open PySem PySem.Spec PyProof.Rows L2 PX
/-- what the statements 11 and 12 find: the list in slot 8 -/
theorem st11 {ns row row2 : List Int} {large : Bool} {x y : Rat} {a b : Int} {xs : List Rat} (hx : ∀ x, x ∈ xs → Dr x) (hl : xs.length ≤ 6) :
    PX.exec (prg.tb 12) (K00.b_law.getD 11 .pass) (sB ns row large x y a b (.ow (.lst (row2.map D.int)) :: .ow (.lst (xs.map enc)) :: List.replicate 4 .un)) = .ok (.nx (sB ns row large x y a b (.ow (.lst (row2.map D.int)) :: .ow (.lst (xs.map enc)) :: List.replicate 4 .un))) := by
  have e : prg.call 12 "_law_lists" [.lst (xs.map enc)] = .ok (.fz (.bl true)) := sp_lists (m := 8) hx hl
  unfold sB sA
  generalize xs.map enc = X at *
  simp [evDef, startS, PX.execs, PX.exec, evX, evXB, evXL, frzS, anyOw, evE, evL, evJ, evT, bindE, bindT, bindTp, opCmp, opI2, storeIx, E.non?, slB, K00.b_law, e]
theorem st12 {ns row row2 : List Int} {large : Bool} {x y : Rat} {a b : Int} {xs : List Rat} (hx : ∀ x, x ∈ xs → Dr x) (hl : xs.length ≤ 6) (dx : Dr x) (dy : Dr y) :
    ∃ s10 : Sl, PX.exec (prg.tb 12) (K00.b_law.getD 12 .pass) (sB ns row large x y a b (.ow (.lst (row2.map D.int)) :: .ow (.lst (xs.map enc)) :: List.replicate 4 .un)) = .ok (.nx (sB ns row large x y a b [.ow (.lst (row2.map D.int)), .fz (.lst (xs.map enc)), .un, s10, .un, .un])) := by
  have sb := sizeBig
  have hs : (xs.map enc).length + [enc x, enc y].length ≤ sizeLine := by
    rw [List.length_map]
    show xs.length + 2 ≤ _
    omega
  have oc := ob_cat hs
  have hm : xs.map enc ++ [enc x, enc y] = (xs ++ [x, y]).map enc := by rw [List.map_append]; rfl
  rw [hm] at oc
  obtain ⟨s10, e⟩ := texts_loop [.un, .un] rfl (.fz (.scr ns)) (.ow (.lst (row.map D.int))) (.fz (.bl large)) (.fz (enc x)) (.fz (enc y)) (.fz (.int a)) (.fz (.int b)) (.ow (.lst (row2.map D.int))) (.fz (.lst (xs.map enc))) .un (xs ++ [x, y]) .un (fun z hz => by
    rcases List.mem_append.mp hz with h | h
    · exact hx z h
    · rcases List.mem_cons.mp h with rfl | h
      · exact dx
      · rw [List.mem_singleton.mp h]; exact dy)
  refine ⟨s10, ?_⟩
  have h2 : (2 : Nat) ≤ sizeLine := by omega
  have sn : K00.b_law.getD 12 .pass = .for (.nm 10) .val [.bin .Add (.var 8) (.ls [.var 3, .var 4])] K00.law_b1 [3, 4, 8] := rfl
  rw [sn, PX.exec]
  unfold sB sA evXL
  simp only [List.cons_append, List.nil_append, List.replicate]
  have fz : frzS [.fz (.scr ns), .ow (.lst (row.map D.int)), .fz (.bl large), .fz (enc x), .fz (enc y), .fz (.int a), .fz (.int b), .ow (.lst (row2.map D.int)), .ow (.lst (xs.map enc)), .un, .un, .un, .un] [3, 4, 8] = [.fz (.scr ns), .ow (.lst (row.map D.int)), .fz (.bl large), .fz (enc x), .fz (enc y), .fz (.int a), .fz (.int b), .ow (.lst (row2.map D.int)), .fz (.lst (xs.map enc)), .un, .un, .un, .un] := by simp [frzS]
  have ao : anyOw [.fz (.scr ns), .ow (.lst (row.map D.int)), .fz (.bl large), .fz (enc x), .fz (enc y), .fz (.int a), .fz (.int b), .ow (.lst (row2.map D.int)), .ow (.lst (xs.map enc)), .un, .un, .un, .un] [3, 4, 8] = true := by simp [anyOw]
  have eL : evL (prg.tb 12) [.fz (.scr ns), .ow (.lst (row.map D.int)), .fz (.bl large), .fz (enc x), .fz (enc y), .fz (.int a), .fz (.int b), .ow (.lst (row2.map D.int)), .fz (.lst (xs.map enc)), .un, .un, .un, .un] [.bin .Add (.var 8) (.ls [.var 3, .var 4])] = .ok [.lst ((xs ++ [x, y]).map enc)] := by
    generalize xs.map enc = X at *
    generalize (xs ++ [x, y]).map enc = Y at *
    simp [evL, evE, h2, oc]
  rw [ao, if_pos rfl, fz, eL, R.on_ok, if_neg (by simp [D.lfs, D.lf])]
  show (R.ok ((xs ++ [x, y]).map enc)).on _ _ = _
  rw [R.on_ok]
  exact e
end K00

set_option Elab.async false
set_option linter.all false
set_option maxRecDepth 100000
/-! K00N: the law, its end. -/
namespace K00
open PySem PySem.Spec PyProof.Rows L2 PX
theorem ob_mulS {z : Str} {k : Int} (h : 1 ≤ k ∧ k ≤ 4000 ∧ z.length ≤ 4000) : opBin .Mult (.str z) (.int k) = .ok (.fz (.str (Txt.mul z k))) := if_pos h
theorem at_strs (row : List Str) (k : Nat) (h : k < row.length) : atI (row.map D.str) (k : Int) = some (.str row[k]) := by
  unfold atI ixN
  rw [if_pos (by omega), if_pos (by rw [List.length_map]; omega)]
  simp [h]
def bads : List Str := bad1 ++ bad2
theorem bads_len : bads.length = 27 := rfl
theorem st0 (ns : List Int) : ∃ row : List Int, row.length = 8 ∧ (∀ r, r ∈ row → inR r) ∧
    PX.exec (prg.tb 12) (K00.b_law.getD 0 .pass) (startS 13 [.scr ns]) = .ok (.nx (sA ns row (List.replicate 11 .un))) := by
  obtain ⟨c, hc⟩ := sp_cell (m := 10) ns 0
  obtain ⟨row, e, h1, h2⟩ := sp_numbers (m := 10) h_numbers (n := 8) (by decide) hc
  refine ⟨row, h1, h2, ?_⟩
  have e' : prg.call 12 "_law_numbers" [.scr ns, .int 0, .int 8] = .ok (.fr (.lst (row.map D.int))) := e
  unfold sA
  simp [evDef, startS, PX.execs, PX.exec, evX, evXB, evXL, frzS, anyOw, evE, evL, evJ, evT, bindE, bindT, bindTp, opCmp, opI2, storeIx, E.non?, slB, K00.b_law, e']
section
variable {ns row row2 : List Int} {large : Bool} {x y : Rat} {a b : Int} {X : List D} {s10 : Sl}
/-- the slots behind the loop of texts -/
def sC (ns row : List Int) (large : Bool) (x y : Rat) (a b : Int) (row2 : List Int) (X : List D) (s9 s10 s11 s12 : Sl) : Rho :=
  sB ns row large x y a b [.ow (.lst (row2.map D.int)), .fz (.lst X), s9, s10, s11, s12]
theorem st13 : PX.exec (prg.tb 12) (K00.b_law.getD 13 .pass) (sC ns row large x y a b row2 X .un s10 .un .un) = .ok (.nx (sC ns row large x y a b row2 X .un s10 (.ow (.lst (bad1.map D.str))) .un)) := by kernel_rfl
theorem st14 : PX.exec (prg.tb 12) (K00.b_law.getD 14 .pass) (sC ns row large x y a b row2 X .un s10 (.ow (.lst (bad1.map D.str))) .un) = .ok (.nx (sC ns row large x y a b row2 X .un s10 (.ow (.lst (bads.map D.str))) .un)) := by kernel_rfl
theorem more_eq : ("/7/9" : Str) = tx [47, 55, 47, 57] := by decide +kernel
theorem st15 (hl : row.length = 8) (dx : Dr x) : PX.exec (prg.tb 12) (K00.b_law.getD 15 .pass) (sC ns row large x y a b row2 X .un s10 (.ow (.lst (bads.map D.str))) .un) = .ok (.nx (sC ns row large x y a b row2 X .un s10 (.ow (.lst (bads.map D.str))) .un)) := by
  have a7 := at_map row 7 (by omega)
  generalize hv : row[7] = v at *
  have a7' : atI (row.map D.int) 7 = some (.int v) := a7
  have f0 : 0 ≤ v.fmod 27 := Int.fmod_nonneg_of_pos _ (by decide)
  have f1 : v.fmod 27 < 27 := Int.fmod_lt_of_pos _ (by decide)
  obtain ⟨n, hn⟩ := Int.eq_ofNat_of_zero_le f0
  have hn' : n < bads.length := by rw [bads_len]; omega
  have ab := at_strs bads n hn'
  have nb : prg.call 12 "_law_no_text" [.str bads[n]] = .ok (.fz (.bl true)) := no_text (bad_all _ (List.getElem_mem _))
  generalize bads[n] = z at *
  have t1 : prg.call 12 "number_text" [enc x] = .ok (.fz (.str (tx (numL x)))) := sp_number_text (m := 10) hasT dx.b (by decide)
  have t2 : prg.call 12 "_law_no_text" [.str (tx (numL x ++ [47, 55, 47, 57]))] = .ok (.fz (.bl true)) := no_more (m := 8) dx
  have sb := sizeBig
  have t3 : opBin .Add (.str (tx (numL x))) (.str "/7/9") = .ok (.fz (.str (tx (numL x ++ [47, 55, 47, 57])))) := by
    rw [more_eq, ob_strs (by rw [tx_len, tx_len]; have := numL_len dx.n400 dx.d400; simp; omega), tx_app]
  have bl : ((bads.map D.str).length : Int) = 27 := by rw [List.length_map, bads_len]; rfl
  have h27 : (27 : Int) ≠ 0 := by decide
  generalize bads.map D.str = B at *
  unfold sC sB sA
  have e1 : evBi .len [.lst B] = .ok (.fz (.int 27)) := by rw [bi_len_l, bl]
  simp [evDef, startS, PX.execs, PX.exec, evX, evXB, evXL, frzS, anyOw, evE, evL, evJ, evT, bindE, bindT, bindTp, opCmp, opI2, storeIx, E.non?, slB, K00.b_law, a7', e1, h27, hn, ab, nb, t1, t2, t3]
theorem st16 {s11 : Sl} : PX.exec (prg.tb 12) (K00.b_law.getD 16 .pass) (sC ns row large x y a b row2 X .un s10 s11 .un) = .ok (.nx (sC ns row large x y a b row2 X .un s10 s11 (.fz (.int ((10 ^ 0 : Nat) : Int))))) := by
  unfold sC sB sA
  simp [evDef, startS, PX.execs, PX.exec, evX, evXB, evXL, frzS, anyOw, evE, evL, evJ, evT, bindE, bindT, bindTp, opCmp, opI2, storeIx, E.non?, slB, K00.b_law]
theorem st17 {s11 : Sl} : ∃ s9, PX.exec (prg.tb 12) (K00.b_law.getD 17 .pass) (sC ns row large x y a b row2 X .un s10 s11 (.fz (.int ((10 ^ 0 : Nat) : Int)))) = .ok (.nx (sC ns row large x y a b row2 X s9 s10 s11 (.fz (.int ((10 ^ 399 : Nat) : Int))))) := by
  have hl : (rngD 399).length = 399 := by unfold rngD; rw [List.length_map, rngI_len]
  obtain ⟨s', e⟩ := ten_loop (.fz (.scr ns)) (.ow (.lst (row.map D.int))) (.fz (.bl large)) (.fz (enc x)) (.fz (enc y)) (.fz (.int a)) (.fz (.int b)) (.ow (.lst (row2.map D.int))) (.fz (.lst X)) s10 s11 (rngD 399) 0 .un (by rw [hl]; decide)
  refine ⟨s', ?_⟩
  rw [hl, Nat.zero_add] at e
  have e6 : PX.exec (prg.tb 12) (.for (.nm 9) .rng [.int 399] K00.law_b2 []) (sC ns row large x y a b row2 X .un s10 s11 (.fz (.int ((10 ^ 0 : Nat) : Int)))) = forGo (.nm 9) (fun ρ => PX.execs (prg.tb 12) K00.law_b2 ρ) (rngD 399) (sC ns row large x y a b row2 X .un s10 s11 (.fz (.int ((10 ^ 0 : Nat) : Int)))) :=
    ex_for_of (by simp [anyOw]) (by simp [evDef, startS, PX.execs, PX.exec, evX, evXB, evXL, frzS, anyOw, evE, evL, evJ, evT, bindE, bindT, bindTp, opCmp, opI2, storeIx, E.non?, slB]) (items_nat (n := 399) (by decide))
  have sn : K00.b_law.getD 17 .pass = .for (.nm 9) .rng [.int 399] K00.law_b2 [] := rfl
  rw [sn, e6]
  exact e
theorem dg_ten {n : Nat} (h : 0 < n) : dg (10 * n) = dg n ++ [48] := by
  unfold dg
  rw [Nat.toDigits_of_base_le (by decide) (by omega), Nat.mul_div_cancel_left n (by decide), Nat.mul_mod_right, List.map_append]
  rfl
theorem dg_pow : ∀ k : Nat, dg (10 ^ k) = 49 :: List.replicate k 48
  | 0 => by decide +kernel
  | k + 1 => by
    rw [Nat.pow_succ, Nat.mul_comm, dg_ten (Nat.pow_pos (by decide)), dg_pow k, List.replicate_succ', List.cons_append]
theorem one_eq : ("1" : Str) = tx [49] := by decide +kernel
theorem mul_eq : Txt.mul "0" 399 = tx (List.replicate 399 48) := by decide +kernel
theorem big_read {k : Nat} (hk : k < 400) : prg.call 12 "read_number" [.str (tx (49 :: List.replicate k 48))] = .ok (.fz (.int ((10 ^ k : Nat) : Int))) := by
  have hp : (10 : Nat) ^ k < 10 ^ 400 := Nat.pow_lt_pow_right (by decide) hk
  have en : ((((10 ^ k : Nat) : Int) : Rat)).num = ((10 ^ k : Nat) : Int) := rfl
  have ed : ((((10 ^ k : Nat) : Int) : Rat)).den = 1 := rfl
  have q := sp_read_back (m := 9) hasT (x := (((10 ^ k : Nat) : Int) : Rat)) (by rw [en, Int.natAbs_natCast]; exact hp) (by rw [ed]; exact Nat.one_lt_pow (by decide) (by decide))
  have el : numL ((((10 ^ k : Nat) : Int) : Rat)) = 49 :: List.replicate k 48 := by
    unfold numL intL
    have e0 : ¬ ((((10 ^ k : Nat) : Int) : Rat)).num < 0 := by rw [en]; exact Int.not_lt.mpr (Int.natCast_nonneg _)
    rw [if_neg e0, if_pos ed, List.append_nil, en, Int.natAbs_natCast, dg_pow]
  rw [el, enc_int] at q
  exact q
theorem st18' {s9 s11 : Sl} {Y Z : Str} {N : Int} (m1 : opBin .Mult (.str "0") (.int 399) = .ok (.fz (.str Y))) (m2 : opBin .Add (.str "1") (.str Y) = .ok (.fz (.str Z))) (br : prg.call 12 "read_number" [.str Z] = .ok (.fz (.int N))) :
    PX.exec (prg.tb 12) (K00.b_law.getD 18 .pass) (sC ns row large x y a b row2 X s9 s10 s11 (.fz (.int N))) = .ok (.rt (.fz (.bl true))) := by
  unfold sC sB sA
  simp [evDef, startS, PX.execs, PX.exec, evX, evXB, evXL, frzS, anyOw, evE, evL, evJ, evT, bindE, bindT, bindTp, opCmp, opI2, storeIx, E.non?, slB, K00.b_law, m1, m2, br]
theorem st18 {s9 s11 : Sl} : PX.exec (prg.tb 12) (K00.b_law.getD 18 .pass) (sC ns row large x y a b row2 X s9 s10 s11 (.fz (.int ((10 ^ 399 : Nat) : Int)))) = .ok (.rt (.fz (.bl true))) := by
  have sb := sizeBig
  refine st18' (ob_mulS (by decide)) ?_ (big_read (by decide))
  rw [one_eq, mul_eq, ob_strs (by rw [tx_len, tx_len, List.length_replicate, List.length_singleton]; omega), tx_app]
  rfl
end
theorem law_true (ns : List Int) : prg.val d_law 13 [.scr ns] = .ok (.fz (.bl true)) := by
  obtain ⟨row, hl, hr, e0⟩ := st0 ns
  obtain ⟨large, x, y, dx, dy, e1⟩ := la (ns := ns) hl hr
  obtain ⟨a, b, e4⟩ := lb (ns := ns) hl hr (large := large) dx dy
  obtain ⟨c, hc⟩ := sp_cell (m := 10) ns 1
  obtain ⟨row2, n2, l2, r2⟩ := sp_numbers (m := 10) h_numbers (n := 14) (by decide) hc
  have e9 := lc9 (ns := ns) (row := row) (large := large) (x := x) (y := y) (a := a) (b := b) n2
  obtain ⟨xs, hx, hxl, e10⟩ := lc10 (ns := ns) hl hr l2 r2 (large := large) (x := x) (y := y) (a := a) (b := b)
  have e11 := st11 (ns := ns) (row := row) (row2 := row2) (large := large) (x := x) (y := y) (a := a) (b := b) hx hxl
  obtain ⟨s10, e12⟩ := st12 (ns := ns) (row := row) (row2 := row2) (large := large) (x := x) (y := y) (a := a) (b := b) hx hxl dx dy
  have e13 := st13 (ns := ns) (row := row) (row2 := row2) (large := large) (x := x) (y := y) (a := a) (b := b) (X := xs.map enc) (s10 := s10)
  have e14 := st14 (ns := ns) (row := row) (row2 := row2) (large := large) (x := x) (y := y) (a := a) (b := b) (X := xs.map enc) (s10 := s10)
  have e15 := st15 (ns := ns) (row := row) (row2 := row2) (large := large) (x := x) (y := y) (a := a) (b := b) (X := xs.map enc) (s10 := s10) hl dx
  have e16 := st16 (ns := ns) (row := row) (row2 := row2) (large := large) (x := x) (y := y) (a := a) (b := b) (X := xs.map enc) (s10 := s10) (s11 := .ow (.lst (bads.map D.str)))
  obtain ⟨s9, e17⟩ := st17 (ns := ns) (row := row) (row2 := row2) (large := large) (x := x) (y := y) (a := a) (b := b) (X := xs.map enc) (s10 := s10) (s11 := .ow (.lst (bads.map D.str)))
  have e18 := st18 (ns := ns) (row := row) (row2 := row2) (large := large) (x := x) (y := y) (a := a) (b := b) (X := xs.map enc) (s10 := s10) (s9 := s9) (s11 := .ow (.lst (bads.map D.str)))
  have v : prg.val d_law 13 [.scr ns] = evDef (prg.tb 12) 13 1 K00.b_law [.scr ns] := rfl
  rw [v, evDef_out (show [D.scr ns].length = 1 from rfl)]
  have sp : K00.b_law = K00.b_law.getD 0 .pass :: ((K00.b_law.drop 1).take 3 ++ ((K00.b_law.drop 4).take 5 ++ (K00.b_law.getD 9 .pass :: K00.b_law.getD 10 .pass :: K00.b_law.getD 11 .pass :: K00.b_law.getD 12 .pass :: K00.b_law.getD 13 .pass :: K00.b_law.getD 14 .pass :: K00.b_law.getD 15 .pass :: K00.b_law.getD 16 .pass :: K00.b_law.getD 17 .pass :: K00.b_law.getD 18 .pass :: []))) := rfl
  rw [sp, PX.execs_cons, e0, RS.then_nx, execs_app, e1, RS.then_nx, execs_app, e4, RS.then_nx]
  have e9' : PX.exec (prg.tb 12) (K00.b_law.getD 9 .pass) (sA ns row ([.fz (.bl large), .fz (enc x), .fz (enc y), .fz (.int a), .fz (.int b)] ++ List.replicate 6 .un)) = _ := e9
  rw [PX.execs_cons, e9', RS.then_nx, PX.execs_cons, e10, RS.then_nx]
  rw [PX.execs_cons, e11, RS.then_nx, PX.execs_cons, e12, RS.then_nx]
  have f13 : PX.exec (prg.tb 12) (K00.b_law.getD 13 .pass) (sB ns row large x y a b [.ow (.lst (row2.map D.int)), .fz (.lst (xs.map enc)), .un, s10, .un, .un]) = _ := e13
  rw [PX.execs_cons, f13, RS.then_nx, PX.execs_cons, e14, RS.then_nx, PX.execs_cons, e15, RS.then_nx, PX.execs_cons, e16, RS.then_nx, PX.execs_cons, e17, RS.then_nx, PX.execs_cons, e18]
  rfl
end K00

theorem PySem.Challenge.cw_fineststep_k00_exact_numbers_holds : PySem.Challenge.rw_fineststep_k00_exact_numbers.Holds := by
  exact K00.holds fun ns _ _ => K00.law_true ns
