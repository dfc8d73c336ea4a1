import PyProof.Rows.All
import Wide.All
import OpenK.AllK
import Wide.FinOn
import HandS.ForMost
import HandS.Exc
import HandS.ExcOwn
import HandS.ExcInit
import HandS.TryOnly
import HandS.WordsExc
import HandS.CallSlots
import HandS.Wide
import HandS.Gcd
import HandS.IsInst
import HandS.Walk
import HandS.Deep
import HandS.TupAny
import HandS.FStr
import HandS.Zip
import HandS.Rev
import HandS.Codes
import HandS.SortInts
import HandS.Style
import KE.KMathG
import PyProof.StrBlock2
import KE.KSortedM
import HandS.ForDict
import HandS.ExcField
import HandS.Defaults
import HandS.Head0
import HandS.Head1
import HandS.Head2
import HandS.HeadEnd
import HandS.HeadHook1
import HandS.HeadHook2
import HandS.ExcIs
import KE.KExcIs
import HandS.EndBits
import HandS.Head3
import PySem.Challenge.RW_fineststep_k03_rows_and_lists
import KE.KIntText
import KE.IntTextText
import PyProof.Rows.StrFromFirst
set_option Elab.async false
set_option linter.all false
set_option maxRecDepth 100000
/-! Px0: data, what stands for it in a heap, and what a computation gives. -/
namespace PX
open PySem PySem.Spec PyProof.Rows L2

/-- pure data -/
inductive D where
  | non | bl (b : Bool) | int (i : Int) | str (s : Str) | ty (n : String)
  | tup (ds : List D) | lst (ds : List D) | scr (ns : List Int)
  | dct (kvs : List (Key × D)) | obj (c : Str) (fs : List (Str × D))

/-- a mutable thing that one slot alone holds -/
inductive OD where
  | lst (ds : List D) | dct (kvs : List (Key × D)) | obj (c : Str) (fs : List (Str × D))
def OD.d : OD → D
  | .lst ds => .lst ds | .dct kvs => .dct kvs | .obj c fs => .obj c fs

/-- a value: shared for good, or new and held by nobody else -/
inductive EV where
  | fz (d : D) | fr (o : OD)
def EV.d : EV → D
  | .fz d => d | .fr o => o.d

/-- what a computation gives: a value, an exception of an own class with its fields, or nothing that is known -/
inductive R (α : Type) where
  | ok (a : α) | ex (c : Str) (fs : List (Str × D)) | st
def R.bind {α β : Type} : R α → (α → R β) → R β
  | .ok a, f => f a
  | .ex c fs, _ => .ex c fs
  | .st, _ => .st
def R.map {α β : Type} (f : α → β) : R α → R β
  | .ok a => .ok (f a)
  | .ex c fs => .ex c fs
  | .st => .st
/-- where no exception may be -/
def R.nox {α : Type} : R α → R α
  | .ok a => .ok a
  | _ => .st
instance : Monad R where
  pure := .ok
  bind := R.bind
@[simp] theorem R.bind_ok {α β : Type} (a : α) (f : α → R β) : R.bind (.ok a) f = f a := rfl
@[simp] theorem R.bind_ex {α β : Type} (c fs) (f : α → R β) : R.bind (.ex c fs) f = .ex c fs := rfl
@[simp] theorem R.bind_st {α β : Type} (f : α → R β) : R.bind .st f = .st := rfl
@[simp] theorem R.bind_eq {α β : Type} (x : R α) (f : α → R β) : (x >>= f) = R.bind x f := rfl
@[simp] theorem R.pure_eq {α : Type} (a : α) : (pure a : R α) = .ok a := rfl
@[simp] theorem R.map_ok {α β : Type} (f : α → β) (a : α) : R.map f (.ok a) = .ok (f a) := rfl
@[simp] theorem R.map_ex {α β : Type} (f : α → β) (c fs) : R.map f (.ex c fs) = .ex c fs := rfl
@[simp] theorem R.map_st {α β : Type} (f : α → β) : R.map f .st = .st := rfl
@[simp] theorem R.nox_ok {α : Type} (a : α) : R.nox (.ok a) = .ok a := rfl
@[simp] theorem R.nox_ex {α : Type} (c fs) : R.nox (.ex c fs : R α) = .st := rfl
@[simp] theorem R.nox_st {α : Type} : R.nox (.st : R α) = .st := rfl
@[simp] theorem EV.d_fz (d : D) : (EV.fz d).d = d := rfl
@[simp] theorem EV.d_fr (o : OD) : (EV.fr o).d = o.d := rfl
@[simp] theorem OD.d_lst (ds : List D) : (OD.lst ds).d = .lst ds := rfl
@[simp] theorem OD.d_obj (c fs) : (OD.obj c fs).d = .obj c fs := rfl
@[simp] theorem OD.d_dct (k) : (OD.dct k).d = .dct k := rfl

/-- where the written part stands, what the module's names hold -/
structure Md where
  K : PySem.W.Frag
  mg : Str → Option Value
  P : Program
  w : World
  base : Heap
  /-- the exception that is being handled: its address, its class, its own dict -/
  x : Option (Addr × Addr × Option Addr)
/-- the class with this name -/
def Md.cls (M : Md) (c : Str) (C : Addr) : Prop := M.mg c = some (.ref C)

mutual
/-- v stands for d in the heap G -/
def Rep (M : Md) (G : Hp) : D → V → Prop
  | .non, v => v = .non
  | .bl b, v => v = .bl b
  | .int i, v => v = .int i
  | .str s, v => v = .str s
  | .ty n, v => v = .ty n
  | .tup ds, v => ∃ a vs, v = .ref a ∧ SqT M.K G a vs ∧ Reps M G ds vs
  | .lst ds, v => ∃ a vs, v = .ref a ∧ G a = some (.lst vs) ∧ Reps M G ds vs
  | .scr ns, v => ∃ a, v = .ref a ∧ SqL M.K G a (ns.map V.int)
  | .dct kvs, v => ∃ a ws, v = .ref a ∧ G a = some (.dK ws) ∧ RepK M G kvs ws
  | .obj c fs, v => ∃ a C dx ws, v = .ref a ∧ M.cls c C ∧ G a = some (.ins C dx ws) ∧ G dx = some (.own a) ∧ RepF M G fs ws
def Reps (M : Md) (G : Hp) : List D → List V → Prop
  | [], vs => vs = []
  | d :: ds, vs => ∃ v r, vs = v :: r ∧ Rep M G d v ∧ Reps M G ds r
def RepK (M : Md) (G : Hp) : List (Key × D) → List (Key × V) → Prop
  | [], vs => vs = []
  | (k, d) :: ds, vs => ∃ v r, vs = (k, v) :: r ∧ Rep M G d v ∧ RepK M G ds r
def RepF (M : Md) (G : Hp) : List (Str × D) → List (Str × V) → Prop
  | [], vs => vs = []
  | (k, d) :: ds, vs => ∃ v r, vs = (k, v) :: r ∧ Rep M G d v ∧ RepF M G ds r
end

theorem Same.seqT {K : PySem.W.Frag} {H H' : Hp} {a : Addr} {xs : List V} (e : Same H H') (h : SqT K H a xs) : SqT K H' a xs := by
  rcases h with (h | ⟨o, h⟩) | h
  · exact .inl (.inl (e _ _ h))
  · exact .inl (.inr ⟨o, e _ _ h⟩)
  · exact .inr h

mutual
theorem Rep.mono {M : Md} {G G' : Hp} (s : Same G G') : ∀ (d : D) (v : V), Rep M G d v → Rep M G' d v
  | .non, _, h => h
  | .bl _, _, h => h
  | .int _, _, h => h
  | .str _, _, h => h
  | .ty _, _, h => h
  | .tup ds, v, h => by
    unfold Rep at h ⊢
    obtain ⟨a, vs, e, q, r⟩ := h
    exact ⟨a, vs, e, Same.seqT s q, Reps.mono s ds vs r⟩
  | .lst ds, v, h => by
    unfold Rep at h ⊢
    obtain ⟨a, vs, e, q, r⟩ := h
    exact ⟨a, vs, e, s _ _ q, Reps.mono s ds vs r⟩
  | .scr ns, v, h => by
    unfold Rep at h ⊢
    obtain ⟨a, e, q⟩ := h
    exact ⟨a, e, s.seq q⟩
  | .dct kvs, v, h => by
    unfold Rep at h ⊢
    obtain ⟨a, ws, e, q, r⟩ := h
    exact ⟨a, ws, e, s _ _ q, RepK.mono s kvs ws r⟩
  | .obj c fs, v, h => by
    unfold Rep at h ⊢
    obtain ⟨a, C, dx, ws, e, k, q, q2, r⟩ := h
    exact ⟨a, C, dx, ws, e, k, s _ _ q, s _ _ q2, RepF.mono s fs ws r⟩
theorem Reps.mono {M : Md} {G G' : Hp} (s : Same G G') : ∀ (d : List D) (v : List V), Reps M G d v → Reps M G' d v
  | [], _, h => by unfold Reps at h ⊢; exact h
  | d :: ds, vs, h => by
    unfold Reps at h ⊢
    obtain ⟨v, r, e, h1, h2⟩ := h
    exact ⟨v, r, e, Rep.mono s d v h1, Reps.mono s ds r h2⟩
theorem RepK.mono {M : Md} {G G' : Hp} (s : Same G G') : ∀ (d : List (Key × D)) (v : List (Key × V)), RepK M G d v → RepK M G' d v
  | [], _, h => by unfold RepK at h ⊢; exact h
  | (k, d) :: ds, vs, h => by
    unfold RepK at h ⊢
    obtain ⟨v, r, e, h1, h2⟩ := h
    exact ⟨v, r, e, Rep.mono s d v h1, RepK.mono s ds r h2⟩
theorem RepF.mono {M : Md} {G G' : Hp} (s : Same G G') : ∀ (d : List (Str × D)) (v : List (Str × V)), RepF M G d v → RepF M G' d v
  | [], _, h => by unfold RepF at h ⊢; exact h
  | (k, d) :: ds, vs, h => by
    unfold RepF at h ⊢
    obtain ⟨v, r, e, h1, h2⟩ := h
    exact ⟨v, r, e, Rep.mono s d v h1, RepF.mono s ds r h2⟩
end

/-- what stands at an address for an owned thing, new since B -/
def RepO (M : Md) (B G H : Hp) (p : Addr) : OD → Prop
  | .lst ds => ∃ vs, H p = some (.lst vs) ∧ Reps M G ds vs
  | .dct kvs => ∃ ws, H p = some (.dK ws) ∧ RepK M G kvs ws
  | .obj c fs => ∃ C dx ws, M.cls c C ∧ H p = some (.ins C dx ws) ∧ H dx = some (.own p) ∧ G dx = none ∧ B dx = none ∧ RepF M G fs ws
theorem RepO.mono {M : Md} {B G G' H H' : Hp} {p : Addr} (s : Same G G') (t : Same H H') (nw : ∀ a, H a ≠ none → G a = none → G' a = none) : ∀ (o : OD), RepO M B G H p o → RepO M B G' H' p o
  | .lst ds, ⟨vs, h1, h2⟩ => ⟨vs, t _ _ h1, Reps.mono s _ _ h2⟩
  | .dct ds, ⟨vs, h1, h2⟩ => ⟨vs, t _ _ h1, RepK.mono s _ _ h2⟩
  | .obj c fs, ⟨C, dx, ws, k, h1, h2, h3, hb, h4⟩ => ⟨C, dx, ws, k, t _ _ h1, t _ _ h2, nw _ (by rw [h2]; exact fun z => nomatch z) h3, hb, RepF.mono s _ _ h4⟩
theorem RepO.base {M : Md} {B B' G H : Hp} {p : Addr} (s : Same B' B) : ∀ (o : OD), RepO M B G H p o → RepO M B' G H p o
  | .lst ds, h => h
  | .dct ds, h => h
  | .obj c fs, ⟨C, dx, ws, k, h1, h2, h3, hb, h4⟩ => ⟨C, dx, ws, k, h1, h2, h3, s.free hb, h4⟩

/-- the frozen part G within the heap H, and what comes later -/
structure Ext (G H G' H' : Hp) : Prop where
  g : Same G G'
  h : Same H H'
  i : Same G' H'
  n : ∀ a, H a ≠ none → G a = none → G' a = none
theorem Ext.refl {G H : Hp} (s : Same G H) : Ext G H G H := ⟨Same.refl _, Same.refl _, s, fun _ _ z => z⟩
theorem Ext.trans {G H G1 H1 G2 H2 : Hp} (a : Ext G H G1 H1) (b : Ext G1 H1 G2 H2) : Ext G H G2 H2 :=
  ⟨a.g.trans b.g, a.h.trans b.h, b.i, fun x h g => b.n x (by
    intro z
    cases q : H x with
    | none => exact h q
    | some o => rw [a.h x o q] at z; cases z) (a.n x h g)⟩
theorem Ext.sub {G H G' H' : Hp} (a : Ext G H G' H') {p : Addr} (h : H' p = none) : H p = none := a.h.free h

theorem upd_sameOf {H : Hp} {p : Addr} {o : HO} (h : H p = none) : Same H (upd H p o) := fun b x e => by
  rw [upd_ne (ne_of_none e h)]
  exact e
/-- a new thing, frozen at once -/
theorem Ext.both {G H : Hp} (s : Same G H) {p : Addr} (o : HO) (h : H p = none) : Ext G H (upd G p o) (upd H p o) := by
  have hg : G p = none := s.free h
  refine ⟨upd_sameOf hg, upd_sameOf h, fun b x e => ?_, fun a ha hga => ?_⟩
  · by_cases hb : b = p
    · subst hb; rw [upd_same] at e ⊢; exact e
    · rw [upd_ne hb] at e ⊢; exact s _ _ e
  · have : a ≠ p := fun z => ha (z ▸ h)
    rw [upd_ne this]; exact hga
/-- a new thing, not frozen -/
theorem Ext.one {G H : Hp} (s : Same G H) {p : Addr} (o : HO) (h : H p = none) : Ext G H G (upd H p o) :=
  ⟨Same.refl _, upd_sameOf h, s.trans (upd_sameOf h), fun _ _ z => z⟩
/-- what is held by nobody is frozen -/
theorem Ext.freeze {G H : Hp} (s : Same G H) {p : Addr} {o : HO} (hg : G p = none) (h : H p = some o) : Same G (upd G p o) ∧ Same (upd G p o) H := by
  refine ⟨upd_sameOf hg, fun b x e => ?_⟩
  by_cases hb : b = p
  · subst hb; rw [upd_same] at e; cases e; exact h
  · rw [upd_ne hb] at e; exact s _ _ e
end PX

set_option Elab.async false
set_option linter.all false
set_option maxRecDepth 100000
/-! Px1: the small syntax, its check against the program's own syntax, its evaluation on pure data. -/
namespace PX
open PySem PySem.Spec PyProof.Rows L2

/-! ### syntax -/
inductive ItK where
  | val | rng | rng2 | zip | enm | rev
  deriving DecidableEq
inductive Tg where
  | nm (i : Nat) | tp (is : List Nat)
  deriving DecidableEq
inductive Bi where
  | len | abs | int | str | gcd | lcm | list | tuple | isI | min | max | sum | sorted | all | any
  deriving DecidableEq
inductive Me where
  | part | split | join | index
  deriving DecidableEq
inductive E where
  | var (i : Nat) | non | bl (b : Bool) | int (i : Int) | str (s : Str) | glb (x : Str) | tyn (x : Str) (T : String)
  | bin (op : Operator) (a b : E) | neg (a : E) | nt (a : E)
  | cmp (op : CmpOp) (a b : E)
  | and (a b : E) | or (a b : E) | ite (c a b : E)
  | call (f : Str) (as : List E) | bi (f : Bi) (as : List E) | me (m : Me) (o : E) (as : List E)
  | ix (a b : E) | sl (a lo hi : E)
  | tup (es : List E) | ls (es : List E) | lc (own : List Nat) (tg : Tg) (k : ItK) (as ifs : List E) (el : E)
  | fst (ps : List E) | fld (o : E) (f : Str) | isE (i : Nat) (C : Str) | exf (i : Nat) (f : Str)
inductive S where
  | asg (tg : Tg) (e : E) (us : List Nat)
  | par (i j : Nat) (a b : E) (us : List Nat)
  | aug (i : Nat) (op : Operator) (e : E) (us : List Nat)
  | stix (i : Nat) (ix e : E) (us : List Nat)
  | app (i : Nat) (e : E) (us : List Nat)
  | expr (e : E) (us : List Nat)
  | iff (c : E) (a b : List S) (us : List Nat)
  | whl (c : E) (b : List S) (us : List Nat)
  | for (tg : Tg) (k : ItK) (as : List E) (b : List S) (us : List Nat)
  | ret (e : E) (us : List Nat) | retv (i : Nat) | retN | brk | cont | pass
  | rais (c : Str) (as : List E) (fs : List Str) (us : List Nat)
  | tri (b : List S) (c : Str) (nm : Option Nat) (h : List S)

/-! ### operations on data -/
def smallD : D → Bool
  | .lst ds => decide (ds.length ≤ sizeLine)
  | .tup ds => decide (ds.length ≤ sizeLine)
  | _ => true
mutual
/-- no list, dict or object in it -/
def D.lf : D → Bool
  | .tup ds => D.lfs ds
  | .lst _ => false | .dct _ => false | .obj _ _ => false | .scr _ => false
  | _ => true
def D.lfs : List D → Bool
  | [] => true
  | d :: ds => D.lf d && D.lfs ds
end
def EV.lf : EV → Bool
  | .fz d => d.lf
  | .fr (.lst ds) => D.lfs ds
  | _ => false
mutual
def D.py : D → Option PyData
  | .non => some .none
  | .bl b => some (.bool b)
  | .int i => some (.int i)
  | .str s => some (.str s)
  | .tup ds => (D.pys ds).map .tuple
  | .lst ds => (D.pys ds).map .list
  | .scr ns => some (.list (ns.map .int))
  | _ => none
def D.pys : List D → Option (List PyData)
  | [] => some []
  | d :: ds => match D.py d, D.pys ds with
    | some p, some ps => some (p :: ps)
    | _, _ => none
end
def opEq (neg : Bool) (d e : D) : R Bool :=
  match d, e with
  | .int i, .int j => .ok (if neg then !decide (i = j) else decide (i = j))
  | .str i, .str j => .ok (if neg then !decide (i = j) else decide (i = j))
  | d, e => match d.py, e.py with
    | some p, some q => if SeqAt.shaped p = true ∧ SeqAt.shaped q = true then .ok (if neg then !PyData.eqv p q else PyData.eqv p q) else .st
    | _, _ => .st
def D.isNon : D → Bool
  | .non => true
  | _ => false
def D.isBl (b : Bool) : D → Bool
  | .bl c => decide (c = b)
  | _ => false
def opIs (d e : D) : R Bool :=
  match e with
  | .non => .ok d.isNon
  | .bl b => .ok (d.isBl b)
  | _ => .st
def opIn (d e : D) : R Bool :=
  match d, e with
  | .str x, .str z => if x.cps.size = 1 then .ok (decide (x.cps.getD 0 0 ∈ z.cps.toList)) else .st
  | d, .lst es => match d.py, D.pys es with
    | some p, some qs => if SeqAt.shaped p = true ∧ SeqAt.shaped (.list qs) = true then .ok (qs.any fun z => PyData.eqv z p) else .st
    | _, _ => .st
  | _, _ => .st
def opI2 (f : Int → Int → Bool) (d e : D) : R Bool :=
  match d, e with
  | .int i, .int j => .ok (f i j)
  | _, _ => .st
def opCmp (op : CmpOp) (d e : D) : R Bool :=
  match op with
  | .Eq => opEq false d e
  | .NotEq => opEq true d e
  | .Lt => opI2 (fun i j => decide (i < j)) d e
  | .LtE => opI2 (fun i j => decide (i ≤ j)) d e
  | .Gt => opI2 (fun i j => decide (j < i)) d e
  | .GtE => opI2 (fun i j => decide (j ≤ i)) d e
  | .Is => opIs d e
  | .IsNot => (opIs d e).map (!·)
  | .In => opIn d e
  | .NotIn => (opIn d e).map (!·)
def lgI (i : Int) : Nat := i.natAbs.log2
def mulLine : Nat := 100000000
def divLine : Nat := 9000
def opBin (op : Operator) (d e : D) : R EV :=
  match op, d, e with
  | .Add, .int i, .int j => .ok (.fz (.int (i + j)))
  | .Add, .str i, .str j => if i.length + j.length ≤ sizeLine then .ok (.fz (.str (i ++ j))) else .st
  | .Add, .lst xs, .lst ys => if xs.length + ys.length ≤ sizeLine then .ok (.fr (.lst (xs ++ ys))) else .st
  | .Add, .tup xs, .tup ys => if xs.length + ys.length ≤ sizeLine then .ok (.fz (.tup (xs ++ ys))) else .st
  | .Sub, .int i, .int j => .ok (.fz (.int (i - j)))
  | .Mult, .int i, .int j => if lgI i + lgI j < mulLine then .ok (.fz (.int (i * j))) else .st
  | .Mult, .str z, .int k => if 1 ≤ k ∧ k ≤ 4000 ∧ z.length ≤ 4000 then .ok (.fz (.str (Txt.mul z k))) else .st
  | .Mult, .lst xs, .int k => if k < 2 ^ 63 ∧ -(2 ^ 63) ≤ k ∧ xs.length * k.toNat ≤ sizeLine then .ok (.fr (.lst (List.replicate k.toNat xs).flatten)) else .st
  | .FloorDiv, .int i, .int j => if j ≠ 0 ∧ lgI j < divLine then .ok (.fz (.int (i.fdiv j))) else .st
  | .Mod, .int i, .int j => if j ≠ 0 then .ok (.fz (.int (i.fmod j))) else .st
  | .Pow, .int i, .int j => if 0 ≤ j ∧ j ≤ 1000000 ∧ i.natAbs < 2 ^ 64 then .ok (.fz (.int (i ^ j.toNat))) else .st
  | _, _, _ => .st
def tyName : D → Option String
  | .non => some "NoneType" | .bl _ => some "bool" | .int _ => some "int" | .str _ => some "str"
  | .tup _ => some "tuple" | .lst _ => some "list" | .scr _ => some "list" | .dct _ => some "dict"
  | _ => none
def asInts : List D → Option (List Int)
  | [] => some []
  | .int i :: r => (asInts r).map (i :: ·)
  | _ => none
def asBools : List D → Option (List Bool)
  | [] => some []
  | .bl i :: r => (asBools r).map (i :: ·)
  | _ => none
def asStrs : List D → Option (List Str)
  | [] => some []
  | .str i :: r => (asStrs r).map (i :: ·)
  | _ => none
def maxL : List Int → Option Int
  | [] => none
  | x :: r => some (r.foldl (fun a b => if a < b then b else a) x)
def minL : List Int → Option Int
  | [] => none
  | x :: r => some (r.foldl (fun a b => if b < a then b else a) x)
def evBi (f : Bi) (ds : List D) : R EV :=
  match f, ds with
  | .len, [.lst xs] => .ok (.fz (.int xs.length))
  | .len, [.tup xs] => .ok (.fz (.int xs.length))
  | .len, [.scr xs] => .ok (.fz (.int xs.length))
  | .len, [.str z] => if z.length ≤ sizeLine then .ok (.fz (.int z.length)) else .st
  | .abs, [.int i] => .ok (.fz (.int (if i < 0 then -i else i)))
  | .int, [.int i] => .ok (.fz (.int i))
  | .int, [.bl k] => .ok (.fz (.int (if k then 1 else 0)))
  | .int, [.str z] => match PySem.intText? z with
    | some n => if z.length ≤ 640 then .ok (.fz (.int n)) else .st
    | none => .st
  | .str, [.int i] => if lgI i < 1920 then .ok (.fz (.str (toString i))) else .st
  | .gcd, [.int a, .int b] => .ok (.fz (.int ((Nat.gcd a.natAbs b.natAbs : Nat) : Int)))
  | .lcm, [.int a, .int b] => if a.natAbs < 2 ^ 64 ∧ b.natAbs < 2 ^ 64 then .ok (.fz (.int ((Nat.lcm a.natAbs b.natAbs : Nat) : Int))) else .st
  | .list, [.lst xs] => .ok (.fr (.lst xs))
  | .list, [.tup xs] => .ok (.fr (.lst xs))
  | .list, [.scr xs] => .ok (.fr (.lst (xs.map .int)))
  | .tuple, [.lst xs] => .ok (.fz (.tup xs))
  | .tuple, [.tup xs] => .ok (.fz (.tup xs))
  | .isI, [d, .ty T] => match tyName d with
    | some t => match kitB t T with
      | some b => .ok (.fz (.bl b))
      | none => .st
    | none => .st
  | .max, [.int i, .int j] => .ok (.fz (.int (if j > i then j else i)))
  | .min, [.int i, .int j] => .ok (.fz (.int (if j < i then j else i)))
  | .max, [.lst xs] => match asInts xs with
    | some ns => match maxL ns with
      | some m => .ok (.fz (.int m))
      | none => .st
    | none => .st
  | .min, [.lst xs] => match asInts xs with
    | some ns => match minL ns with
      | some m => .ok (.fz (.int m))
      | none => .st
    | none => .st
  | .sum, [.lst xs] => match asInts xs with
    | some ns => .ok (.fz (.int ns.sum))
    | none => .st
  | .sorted, [.lst xs] => match asInts xs with
    | some ns => .ok (.fr (.lst ((ns.mergeSort (fun a b => decide (a ≤ b))).map .int)))
    | none => .st
  | .all, [.lst xs] => match asBools xs with
    | some ns => .ok (.fz (.bl (ns.all id)))
    | none => .st
  | .any, [.lst xs] => match asBools xs with
    | some ns => .ok (.fz (.bl (ns.any id)))
    | none => .st
  | _, _ => .st
def evMe (m : Me) (a : Str) (ds : List D) : R EV :=
  match m, ds with
  | .part, [.str b] => if b.length ≠ 0 ∧ a.length ≤ sizeLine then .ok (.fz (.tup [.str (Txt.partition a b).1, .str (Txt.partition a b).2.1, .str (Txt.partition a b).2.2])) else .st
  | .split, [.str b] => if b.length ≠ 0 ∧ a.length + 2 ≤ sizeLine then .ok (.fr (.lst ((Txt.split a b).map .str))) else .st
  | .join, [.lst xs] => match asStrs xs with
    | some ys => if (ys.map (·.length)).sum + ys.length * a.length ≤ 16777216 then .ok (.fz (.str (Txt.join a ys))) else .st
    | none => .st
  | _, _ => .st
def opIx (d i : D) : R EV :=
  match d, i with
  | .lst xs, .int i => match atI xs i with | some x => .ok (.fz x) | none => .st
  | .tup xs, .int i => match atI xs i with | some x => .ok (.fz x) | none => .st
  | .scr xs, .int i => match atI xs i with | some x => .ok (.fz (.int x)) | none => .st
  | .str z, .int i => if z.length ≤ sizeLine then (match atI z.cps.toList i with | some c => .ok (.fz (.str ⟨#[c]⟩)) | none => .st) else .st
  | _, _ => .st
/-- a bound of a slice -/
def slB : D → R (Option Int)
  | .int i => .ok (some i)
  | _ => .st
def E.non? : E → Bool
  | .non => true
  | _ => false
def cutD (xs : List D) (lo hi : Option Int) : List D := (xs.drop (HT.sIx xs.length 0 lo)).take (HT.sIx xs.length xs.length hi - HT.sIx xs.length 0 lo)
def opSl (d : D) (lo hi : Option Int) : R EV :=
  match d with
  | .lst xs => .ok (.fr (.lst (cutD xs lo hi)))
  | .tup xs => .ok (.fz (.tup (cutD xs lo hi)))
  | .str z => if z.length ≤ sizeLine then .ok (.fz (.str (cutS z lo hi))) else .st
  | _ => .st
/-- the items that a walk gives -/
def itVal : List D → R (List D)
  | [.lst xs] => .ok xs
  | [.tup xs] => .ok xs
  | [.str z] => .ok (z.cps.toList.map fun c => .str ⟨#[c]⟩)
  | _ => .st
def itRng : List D → R (List D)
  | [.int n] => if n < 2 ^ 62 ∧ -(2 ^ 62) ≤ n then .ok ((List.range n.toNat).map fun (i : Nat) => D.int (0 + (i : Int))) else .st
  | _ => .st
def itRng2 : List D → R (List D)
  | [.int m, .int n] => if n < 2 ^ 62 ∧ -(2 ^ 62) ≤ n ∧ m < 2 ^ 62 ∧ -(2 ^ 62) ≤ m then .ok ((List.range (n - m).toNat).map fun (i : Nat) => D.int (m + (i : Int))) else .st
  | _ => .st
def itZip : List D → R (List D)
  | [.lst xs, .lst ys] => .ok ((xs.zip ys).map fun p => .tup [p.1, p.2])
  | [.tup xs, .tup ys] => .ok ((xs.zip ys).map fun p => .tup [p.1, p.2])
  | _ => .st
def itEnm : List D → R (List D)
  | [.lst xs] => .ok (xs.zipIdx.map fun p => .tup [.int (p.2 : Nat), p.1])
  | _ => .st
def itRev : List D → R (List D)
  | [.lst xs] => .ok xs.reverse
  | [.tup xs] => .ok xs.reverse
  | _ => .st
def itemsOf : ItK → List D → R (List D)
  | .val => itVal
  | .rng => itRng
  | .rng2 => itRng2
  | .zip => itZip
  | .enm => itEnm
  | .rev => itRev
def asBool : EV → R Bool
  | .fz (.bl b) => .ok b
  | _ => .st
/-- the text of an f-string's part -/
def strOf : D → Option Str
  | .str s => if s.length ≤ sizeLine then some s else none
  | .int i => if lgI i < 1920 then some (toString i : Str) else none
  | _ => none

/-! ### evaluation -/
inductive Sl where
  | un | fz (d : D) | ow (o : OD) | xc (c : Str) (fs : List (Str × D))
abbrev Rho := List Sl
structure Tb where
  call : Str → List D → R EV
  cst : Str → Option D
  /-- is the one exception class below the other one -/
  sub : Str → Str → Option Bool
  /-- is this a class whose instances' fields are read -/
  oc : Str → Bool
  fuel : Nat
/-- the slots of a comprehension's own names forgotten -/
def wipeS (ρ : Rho) : List Nat → Rho
  | [] => ρ
  | v :: vs => (wipeS ρ vs).set v .un
def bindTp : List Nat → List D → Rho → R Rho
  | [], [], ρ => .ok ρ
  | i :: is, d :: ds, ρ => bindTp is ds (ρ.set i (.fz d))
  | _, _, _ => .st
/-- a frozen value is stored -/
def bindT (tg : Tg) (d : D) (ρ : Rho) : R Rho :=
  match tg with
  | .nm i => .ok (ρ.set i (.fz d))
  | .tp is => match d with
    | .tup ds => bindTp is ds ρ
    | .lst ds => bindTp is ds ρ
    | _ => .st
/-- a value is stored -/
def bindE (tg : Tg) (v : EV) (ρ : Rho) : R Rho :=
  match tg, v with
  | .nm i, .fr o => .ok (ρ.set i (.ow o))
  | tg, v => bindT tg v.d ρ
def lcGo (tg : Tg) (ts : Rho → R Bool) (el : Rho → R EV) (ρ : Rho) : List D → R (List D)
  | [] => .ok []
  | d :: ds => (bindT tg d ρ).bind fun ρ1 => (ts ρ1).bind fun b =>
    if b = true then (el ρ1).bind fun v => (lcGo tg ts el ρ ds).map (v.d :: ·) else lcGo tg ts el ρ ds
mutual
def evE (T : Tb) (ρ : Rho) : E → R EV
  | .var i => match ρ[i]? with
    | some (.fz d) => .ok (.fz d)
    | _ => .st
  | .non => .ok (.fz .non)
  | .bl b => .ok (.fz (.bl b))
  | .int i => .ok (.fz (.int i))
  | .str s => .ok (.fz (.str s))
  | .glb x => match T.cst x with
    | some d => .ok (.fz d)
    | none => .st
  | .tyn _ t => .ok (.fz (.ty t))
  | .bin op a b => (evE T ρ a).bind fun x => (evE T ρ b).bind fun y => opBin op x.d y.d
  | .neg a => (evE T ρ a).bind fun x => match x.d with
    | .int i => .ok (.fz (.int (-i)))
    | _ => .st
  | .nt a => (evE T ρ a).bind fun x => (asBool x).map fun b => .fz (.bl (!b))
  | .cmp op a b => (evE T ρ a).bind fun x => (evE T ρ b).bind fun y => (opCmp op x.d y.d).map fun b => .fz (.bl b)
  | .and a b => (evE T ρ a).bind fun x => (asBool x).bind fun c => if c = true then evE T ρ b else .ok (.fz (.bl false))
  | .or a b => (evE T ρ a).bind fun x => (asBool x).bind fun c => if c = true then .ok (.fz (.bl true)) else evE T ρ b
  | .ite c a b => (evE T ρ c).bind fun x => (asBool x).bind fun c => if c = true then evE T ρ a else evE T ρ b
  | .call f as => (evL T ρ as).bind fun ds => T.call f ds
  | .bi f as => (evL T ρ as).bind fun ds => evBi f ds
  | .me m o as => (evE T ρ o).bind fun x => match x.d with
    | .str a => (evL T ρ as).bind fun ds => evMe m a ds
    | _ => .st
  | .ix a b => (evE T ρ a).bind fun x => (evE T ρ b).bind fun y => opIx x.d y.d
  | .sl a lo hi => (evE T ρ a).bind fun x => (if lo.non? = true then .ok none else (evE T ρ lo).bind fun l => slB l.d).bind fun l => (if hi.non? = true then .ok none else (evE T ρ hi).bind fun h => slB h.d).bind fun h => opSl x.d l h
  | .tup es => (evL T ρ es).bind fun ds => if ds.length ≤ sizeLine then .ok (.fz (.tup ds)) else .st
  | .ls es => (evL T ρ es).bind fun ds => if ds.length ≤ sizeLine then .ok (.fr (.lst ds)) else .st
  | .lc own tg k as ifs el => (evL T ρ as).bind fun ds => (itemsOf k ds).bind fun xs =>
      if xs.length ≤ sizeLine then
        (lcGo tg (fun ρ1 => evT T ρ1 ifs) (fun ρ1 => evE T ρ1 el) (wipeS ρ own) xs).nox.map fun ys => .fr (.lst ys)
      else .st
  | .fst ps => (evJ T ρ ps Str.empty).map fun s => .fz (.str s)
  | .fld o f => (evE T ρ o).bind fun x => match x.d with
    | .obj cl fs => match fs.lookup f, T.oc cl with
      | some d, true => .ok (.fz d)
      | _, _ => .st
    | _ => .st
  | .isE i C => match ρ[i]? with
    | some (.xc c _) => match T.sub c C with
      | some b => .ok (.fz (.bl b))
      | none => .st
    | _ => .st
  | .exf i f => match ρ[i]? with
    | some (.xc c fs) => match fs.lookup f, T.sub c c with
      | some d, some _ => .ok (.fz d)
      | _, _ => .st
    | _ => .st
def evL (T : Tb) (ρ : Rho) : List E → R (List D)
  | [] => .ok []
  | e :: es => (evE T ρ e).bind fun x => (evL T ρ es).map (x.d :: ·)
/-- the parts of an f-string -/
def evJ (T : Tb) (ρ : Rho) : List E → Str → R Str
  | [], acc => .ok acc
  | e :: es, acc => (evE T ρ e).bind fun x => match strOf x.d with
    | some y => if (acc ++ y).length ≤ sizeLine then evJ T ρ es (acc ++ y) else .st
    | none => .st
/-- a comprehension's tests -/
def evT (T : Tb) (ρ : Rho) : List E → R Bool
  | [] => .ok true
  | e :: es => (evE T ρ e).bind fun x => (asBool x).bind fun b => if b = true then evT T ρ es else .ok false
end

/-- the owned things among these slots are shared from now on -/
def frzS (ρ : Rho) : List Nat → Rho
  | [] => ρ
  | i :: is => match (frzS ρ is)[i]? with
    | some (.ow o) => (frzS ρ is).set i (.fz o.d)
    | _ => frzS ρ is
def anyOw (ρ : Rho) (us : List Nat) : Bool := us.any fun i => match ρ[i]? with | some (.ow _) => true | _ => false
/-- how a statement ends -/
inductive Fl where
  | nx (ρ : Rho) | rt (v : EV) | bk (ρ : Rho) | ct (ρ : Rho)
inductive RS where
  | ok (f : Fl) | ex (c : Str) (fs : List (Str × D)) (ρ : Rho) | st
/-- an end taken up by a statement -/
def R.on {α : Type} (x : R α) (ρ : Rho) (f : α → RS) : RS :=
  match x with
  | .ok a => f a
  | .ex c fs => .ex c fs ρ
  | .st => .st
/-- an expression's value and the slots behind it: what is owned among us stays so if the value cannot reach it -/
def evX (T : Tb) (ρ : Rho) (us : List Nat) (e : E) (f : EV → Rho → RS) : RS :=
  if anyOw ρ us = true then (evE T (frzS ρ us) e).on (frzS ρ us) fun v => if v.lf = true then f v ρ else f v (frzS ρ us)
  else (evE T ρ e).on ρ fun v => f v ρ
/-- a test -/
def evXB (T : Tb) (ρ : Rho) (us : List Nat) (e : E) (f : Bool → RS) : RS := ((evE T (frzS ρ us) e).bind asBool).on (frzS ρ us) f
/-- a list of expressions -/
def evXL (T : Tb) (ρ : Rho) (us : List Nat) (es : List E) (f : List D → Rho → RS) : RS :=
  if anyOw ρ us = true then (evL T (frzS ρ us) es).on (frzS ρ us) fun v => if D.lfs v = true then f v ρ else f v (frzS ρ us)
  else (evL T ρ es).on ρ fun v => f v ρ
def RS.then (x : RS) (f : Rho → RS) : RS :=
  match x with
  | .ok (.nx ρ) => f ρ
  | y => y
/-- the turn of a loop: go on with f, or leave -/
def RS.turn (x : RS) (f : Rho → RS) : RS :=
  match x with
  | .ok (.nx ρ) => f ρ
  | .ok (.ct ρ) => f ρ
  | .ok (.bk ρ) => .ok (.nx ρ)
  | y => y
@[simp] theorem R.on_ok {α} (a : α) (ρ f) : R.on (.ok a) ρ f = f a := rfl
@[simp] theorem R.on_ex {α} (c fs ρ) (f : α → RS) : R.on (.ex c fs) ρ f = .ex c fs ρ := rfl
@[simp] theorem R.on_st {α} (ρ) (f : α → RS) : R.on .st ρ f = .st := rfl
@[simp] theorem RS.then_nx (ρ f) : RS.then (.ok (.nx ρ)) f = f ρ := rfl
@[simp] theorem RS.then_rt (v f) : RS.then (.ok (.rt v)) f = .ok (.rt v) := rfl
@[simp] theorem RS.then_bk (v f) : RS.then (.ok (.bk v)) f = .ok (.bk v) := rfl
@[simp] theorem RS.then_ct (v f) : RS.then (.ok (.ct v)) f = .ok (.ct v) := rfl
@[simp] theorem RS.then_ex (c fs ρ f) : RS.then (.ex c fs ρ) f = .ex c fs ρ := rfl
@[simp] theorem RS.then_st (f) : RS.then .st f = .st := rfl
@[simp] theorem RS.turn_nx (ρ f) : RS.turn (.ok (.nx ρ)) f = f ρ := rfl
@[simp] theorem RS.turn_rt (v f) : RS.turn (.ok (.rt v)) f = .ok (.rt v) := rfl
@[simp] theorem RS.turn_bk (v f) : RS.turn (.ok (.bk v)) f = .ok (.nx v) := rfl
@[simp] theorem RS.turn_ct (v f) : RS.turn (.ok (.ct v)) f = f v := rfl
@[simp] theorem RS.turn_ex (c fs ρ f) : RS.turn (.ex c fs ρ) f = .ex c fs ρ := rfl
@[simp] theorem RS.turn_st (f) : RS.turn .st f = .st := rfl
def forGo (tg : Tg) (b : Rho → RS) : List D → Rho → RS
  | [], ρ => .ok (.nx ρ)
  | d :: ds, ρ => (bindT tg d ρ).on ρ fun ρ1 => (b ρ1).turn (forGo tg b ds)
def whileGo (c : Rho → (Bool → RS) → RS) (b : Rho → RS) : Nat → Rho → RS
  | 0, _ => .st
  | n + 1, ρ => c ρ fun k => if k = true then (b ρ).turn (whileGo c b n) else .ok (.nx ρ)
/-- the exceptions are forgotten -/
def clX (ρ : Rho) : Rho := ρ.map fun s => match s with
  | .xc _ _ => .un
  | s => s
def storeIx (o : OD) (i d : D) : R OD :=
  match o, i with
  | .lst ds, .int k => match ixN ds.length k with
    | some j => .ok (.lst (ds.set j d))
    | none => .st
  | _, _ => .st
mutual
def exec (T : Tb) : S → Rho → RS
  | .asg tg e us, ρ => evX T ρ us e fun v ρ1 => (bindE tg v ρ1).on ρ1 fun ρ2 => .ok (.nx ρ2)
  | .par i j a b us, ρ => evXL T ρ us [a, b] fun ds ρ1 => match ds with
    | [x, y] => .ok (.nx ((ρ1.set i (.fz x)).set j (.fz y)))
    | _ => .st
  | .aug i op e us, ρ => match ρ[i]? with
    | some (.fz x) => evX T ρ us e fun v ρ1 => match op, x, v.d with
      | .Add, .int a, .int b => .ok (.nx (ρ1.set i (.fz (.int (a + b)))))
      | .Sub, .int a, .int b => .ok (.nx (ρ1.set i (.fz (.int (a - b)))))
      | _, _, _ => .st
    | _ => .st
  | .stix i ix e us, ρ => match ρ[i]? with
    | some (.ow (.lst _)) => evX T ρ us e fun v ρ1 => evX T ρ1 us ix fun k ρ2 => match ρ2[i]? with
      | some (.ow o) => (storeIx o k.d v.d).on ρ2 fun o1 => .ok (.nx (ρ2.set i (.ow o1)))
      | _ => .st
    | _ => .st
  | .app i e us, ρ => match ρ[i]? with
    | some (.ow (.lst _)) => evX T ρ us e fun v ρ1 => match ρ1[i]? with
      | some (.ow (.lst ds)) => if ds.length < sizeLine then .ok (.nx (ρ1.set i (.ow (.lst (ds ++ [v.d]))))) else .st
      | _ => .st
    | _ => .st
  | .expr e us, ρ => evX T ρ us e fun _ ρ1 => .ok (.nx ρ1)
  | .iff c a b us, ρ => evXB T ρ us c fun k => if k = true then execs T a ρ else execs T b ρ
  | .whl c b us, ρ => whileGo (fun ρ f => evXB T ρ us c f) (fun ρ => execs T b ρ) T.fuel ρ
  | .for tg k as b us, ρ => evXL T ρ us as fun ds ρ1 => (itemsOf k ds).on ρ1 fun xs => forGo tg (fun ρ => execs T b ρ) xs ρ1
  | .ret e us, ρ => evX T ρ us e fun v _ => .ok (.rt v)
  | .retv i, ρ => match ρ[i]? with
    | some (.fz d) => .ok (.rt (.fz d))
    | some (.ow o) => .ok (.rt (.fr o))
    | _ => .st
  | .retN, ρ => .ok (.rt (.fz .non))
  | .brk, ρ => .ok (.bk ρ)
  | .cont, ρ => .ok (.ct ρ)
  | .pass, ρ => .ok (.nx ρ)
  | .rais c as fs us, ρ => evXL T ρ us as fun ds ρ1 => if fs.length = ds.length then .ex c (fs.zip ds) ρ1 else .st
  | .tri b c nm h, ρ => match execs T b ρ with
    | .ex cc fs ρ1 => match T.sub cc c with
      | some true => (match nm with
        | some i => (match execs T h (ρ1.set i (.xc cc fs)) with
          | .ok (.nx ρ2) => .ok (.nx (clX (ρ2.set i .un)))
          | .ok (.bk ρ2) => .ok (.bk (clX (ρ2.set i .un)))
          | .ok (.ct ρ2) => .ok (.ct (clX (ρ2.set i .un)))
          | .ok (.rt v) => .ok (.rt v)
          | _ => .st)
        | none => (match execs T h ρ1 with
          | .ok (.nx ρ2) => .ok (.nx (clX ρ2))
          | .ok (.bk ρ2) => .ok (.bk (clX ρ2))
          | .ok (.ct ρ2) => .ok (.ct (clX ρ2))
          | .ok (.rt v) => .ok (.rt v)
          | _ => .st))
      | some false => .ex cc fs ρ1
      | none => .st
    | y => y
def execs (T : Tb) : List S → Rho → RS
  | [], ρ => .ok (.nx ρ)
  | s :: ss, ρ => (exec T s ρ).then (execs T ss)
end
/-- a def called: its slots at the start, its body, what it gives -/
def startS (n : Nat) (ds : List D) : Rho := ds.map .fz ++ List.replicate (n - ds.length) .un
def evDef (T : Tb) (n k : Nat) (b : List S) (ds : List D) : R EV :=
  if ds.length = k then
    match execs T b (startS n ds) with
    | .ok (.nx _) => .ok (.fz .non)
    | .ok (.rt v) => .ok v
    | .ex c fs _ => .ex c fs
    | _ => .st
  else .st
end PX

set_option Elab.async false
set_option linter.all false
set_option maxRecDepth 100000
/-! Px2: readings chosen late, over a family of contexts; what a pure computation asks of a continuation. -/
namespace PX
open PySem PySem.Spec PyProof.Rows L2

/-! ### readings chosen late -/
section
variable (Xs : Cx → Prop)
def WP (e : Expr) : TE := fun σ H Q => ∃ t, (∀ X, Xs X → PE X e t) ∧ t σ H Q
def WT (e : Expr) : TT := fun σ H Q => ∃ t, (∀ X, Xs X → PT X e t) ∧ t σ H Q
def WW (e : Expr) : TT := fun σ H Q => ∃ t, (∀ X, Xs X → PW X e t) ∧ t σ H Q
def WA (es : List Expr) : TA := fun σ H Q => ∃ t, (∀ X, Xs X → PA X es t) ∧ t σ H Q
def WO (e : Option Expr) : TO := fun σ H Q => ∃ t, (∀ X, Xs X → PO X e t) ∧ t σ H Q
def WI (tg it : Expr) : TI := fun σ H Q => ∃ t, (∀ X, Xs X → PI X tg it t) ∧ t σ H Q
def WG (tg : Expr) : TG := fun v σ H Q => ∃ t, (∀ X, Xs X → PG X tg t) ∧ t v σ H Q
def WTs (es : List Expr) : TT := fun σ H Q => ∃ t, (∀ X, Xs X → PTs X es t) ∧ t σ H Q
def WS (e : Stmt) : TS := fun D σ H => ∃ t, (∀ X, Xs X → PS X e t) ∧ t D σ H
def WSs (e : List Stmt) : TS := fun D σ H => ∃ t, (∀ X, Xs X → PSs X e t) ∧ t D σ H
def OpW (f : Value → Value → Sem Value) : R2 := fun x y H Q => ∃ r, (∀ X, Xs X → OpR X f r) ∧ r x y H Q
def IxW : R2 := fun x y H Q => ∃ r, (∀ X, Xs X → IxR X r) ∧ r x y H Q
def UnW (f : Value → Sem Value) : V → Hp → VK → Prop := fun x H Q => ∃ r, (∀ X, Xs X → UnR X f r) ∧ r x H Q
def SlW : V → Option Int → Option Int → Hp → VK → Prop := fun x l h H Q => ∃ r, (∀ X, Xs X → SlR X r) ∧ r x l h H Q
def CallW (f : Value) : List V → Hp → VK → Prop := fun vs H Q => ∃ r, (∀ X, Xs X → CallR X f r) ∧ r vs H Q
def MtW (id : String) : V → List V → Hp → VK → Prop := fun x vs H Q => ∃ r, (∀ X, Xs X → MtR X id r) ∧ r x vs H Q
end
section
variable {Xs : Cx → Prop} {X : Cx} (hX : Xs X)
include hX
theorem pe_w {e : Expr} : PE X e (WP Xs e) := ⟨fun pins s σ H Q I ⟨t, p, h⟩ => (p X hX).run pins s σ H Q I h⟩
theorem pt_w {e : Expr} : PT X e (WT Xs e) := ⟨fun pins s σ H Q I ⟨t, p, h⟩ => (p X hX).run pins s σ H Q I h⟩
theorem pw_w {e : Expr} : PW X e (WW Xs e) := ⟨fun wh pins s σ H Q I ⟨t, p, h⟩ => (p X hX).run wh pins s σ H Q I h⟩
theorem pa_w {e : List Expr} : PA X e (WA Xs e) := ⟨fun pos pins s σ H Q I ⟨t, p, h⟩ => (p X hX).run pos pins s σ H Q I h⟩
theorem pi_w {e f : Expr} : PI X e f (WI Xs e f) := ⟨fun pins s σ H Q I ⟨t, p, h⟩ => (p X hX).run pins s σ H Q I h⟩
theorem pg_w {e : Expr} : PG X e (WG Xs e) := ⟨fun pins s σ H v u Q I r ⟨t, p, h⟩ => (p X hX).run pins s σ H v u Q I r h⟩
theorem pts_w {e : List Expr} : PTs X e (WTs Xs e) := ⟨fun pins s σ H Q I ⟨t, p, h⟩ => (p X hX).run pins s σ H Q I h⟩
theorem ps_w {e : Stmt} : PS X e (WS Xs e) := ⟨fun pins s σ H D I ⟨t, p, h⟩ => (p X hX).run pins s σ H D I h⟩
theorem pss_w {e : List Stmt} : PSs X e (WSs Xs e) := ⟨fun pins s σ H D I ⟨t, p, h⟩ => (p X hX).run pins s σ H D I h⟩
theorem op_w {f : Value → Value → Sem Value} : OpR X f (OpW Xs f) := fun pins s σ H x y v u Q I rx ry ⟨r, p, h⟩ => p X hX pins s σ H x y v u Q I rx ry h
theorem ix_w : IxR X (IxW Xs) := fun va sl pins s σ H x y v u Q I rx ry ⟨r, p, h⟩ e => p X hX va sl pins s σ H x y v u Q I rx ry h e
theorem un_w {f : Value → Sem Value} : UnR X f (UnW Xs f) := by
  intro pins s σ H x v Q I rx h
  obtain ⟨r, p, h⟩ := h
  exact p X hX pins s σ H x v Q I rx h
theorem call_w {f : Value} : CallR X f (CallW Xs f) := fun pins s σ H vs us Q I r ⟨t, p, h⟩ => p X hX pins s σ H vs us Q I r h
end
section
variable {Xs : Cx → Prop} {X : Cx} (hX : Xs X)
include hX
theorem sl_w : SlR X (SlW Xs) := by
  intro pins s σ H x v vl vu lo hi sl Q I rx h1 h2 h3 h
  obtain ⟨r, p, h⟩ := h
  exact p X hX pins s σ H x v vl vu lo hi sl Q I rx h1 h2 h3 h
theorem mt_w {id : String} : MtR X id (MtW Xs id) := by
  intro pins s σ H x xs v us Q I rx ry h
  obtain ⟨r, p, h⟩ := h
  exact p X hX pins s σ H x xs v us Q I rx ry h
theorem po_w {e : Option Expr} : PO X e (WO Xs e) := ⟨fun pins s σ H Q I ⟨t, p, h⟩ => (p X hX).run pins s σ H Q I h⟩
end
/-! ### what is asked of a continuation -/
/-- an exception of the class named c with these fields -/
def ExRep (M : Md) (G H : Hp) (c : Str) (fs : List (Str × D)) (cls : Value) (d : Option Addr) : Prop :=
  ∃ C, M.cls c C ∧ cls = .ref C ∧ ((fs = [] ∧ d = none) ∨ ∃ a ws, d = some a ∧ G a = some (.xd ws) ∧ RepF M G fs ws)
def GOk (M : Md) (E : XK) (G H : Hp) {α : Type} (P : α → Prop) : R α → Prop
  | .ok a => P a
  | .ex c fs => ∀ cls d G' H', Ext G H G' H' → ExRep M G' H' c fs cls d → E cls d H'
  | .st => False
def EvV (M : Md) (G H : Hp) (Q : VK) : EV → Prop
  | .fz d => ∀ v G' H', Ext G H G' H' → Rep M G' d v → Q v H'
  | .fr o => ∀ p G' H', Ext G H G' H' → H p = none → G' p = none → RepO M H G' H' p o → Q (.ref p) H'
section
variable {M : Md} {E : XK} {G H G' H' : Hp}
theorem GOk.imp {α : Type} {P P' : α → Prop} {f : R α} (h : GOk M E G H P f) (k : ∀ a, P a → P' a) : GOk M E G H P' f := by
  cases f with
  | ok a => exact k a h
  | ex c fs => exact h
  | st => exact h
theorem GOk.mono {α : Type} {P : α → Prop} {f : R α} (h : GOk M E G H P f) (x : Ext G H G' H') : GOk M E G' H' P f := by
  cases f with
  | ok a => exact h
  | ex c fs => exact fun cls d G2 H2 y r => h cls d G2 H2 (x.trans y) r
  | st => exact h
theorem GOk.bind {α β : Type} {P : β → Prop} {f : R α} {g : α → R β} (h : GOk M E G H P (f.bind g)) : GOk M E G H (fun a => GOk M E G H P (g a)) f := by
  cases f with
  | ok a => exact h
  | ex c fs => exact h
  | st => exact h
theorem GOk.ofBind {α β : Type} {P : β → Prop} {f : R α} {g : α → R β} (h : GOk M E G H (fun a => GOk M E G H P (g a)) f) : GOk M E G H P (f.bind g) := by
  cases f with
  | ok a => exact h
  | ex c fs => exact h
  | st => exact h
theorem GOk.map {α β : Type} {P : β → Prop} {f : R α} {g : α → β} (h : GOk M E G H P (f.map g)) : GOk M E G H (fun a => P (g a)) f := by
  cases f with
  | ok a => exact h
  | ex c fs => exact h
  | st => exact h
theorem GOk.ofMap {α β : Type} {P : β → Prop} {f : R α} {g : α → β} (h : GOk M E G H (fun a => P (g a)) f) : GOk M E G H P (f.map g) := by
  cases f with
  | ok a => exact h
  | ex c fs => exact h
  | st => exact h
theorem EvV.mono {Q : VK} {v : EV} (h : EvV M G H Q v) (x : Ext G H G' H') : EvV M G' H' Q v := by
  cases v with
  | fz d => exact fun u G2 H2 y r => h u G2 H2 (x.trans y) r
  | fr o => exact fun p G2 H2 y a b r => h p G2 H2 (x.trans y) (x.sub a) b (r.base x.h)
/-- an owned thing is shared from now on -/
theorem freeze_obj {B : Hp} {p : Addr} {o : OD} (s : Same G H) (hg : G p = none) (r : RepO M B G H p o) :
    ∃ G', Same G G' ∧ Same G' H ∧ (∀ a, G' a ≠ none → G a ≠ none ∨ a = p ∨ (B a = none ∧ H a = some (.own p))) ∧ Rep M G' o.d (.ref p) := by
  cases o with
  | lst ds =>
    obtain ⟨vs, h1, h2⟩ := r
    obtain ⟨a1, a2⟩ := Ext.freeze s hg h1
    refine ⟨_, a1, a2, fun a ha => ?_, ?_⟩
    · by_cases e : a = p
      · exact .inr (.inl e)
      · rw [upd_ne e] at ha; exact .inl ha
    · show Rep M _ (.lst ds) _
      unfold Rep
      exact ⟨p, vs, rfl, upd_same, Reps.mono a1 _ _ h2⟩
  | dct kvs =>
    obtain ⟨vs, h1, h2⟩ := r
    obtain ⟨a1, a2⟩ := Ext.freeze s hg h1
    refine ⟨_, a1, a2, fun a ha => ?_, ?_⟩
    · by_cases e : a = p
      · exact .inr (.inl e)
      · rw [upd_ne e] at ha; exact .inl ha
    · show Rep M _ (.dct kvs) _
      unfold Rep
      exact ⟨p, vs, rfl, upd_same, RepK.mono a1 _ _ h2⟩
  | obj c fs =>
    obtain ⟨C, dx, ws, k, h1, h2, h3, hb, h4⟩ := r
    have ne : p ≠ dx := ne_of h1 h2 (by intro z; cases z)
    obtain ⟨a1, a2⟩ := Ext.freeze s h3 h2
    have hg2 : upd G dx (.own p) p = none := by rw [upd_ne ne]; exact hg
    obtain ⟨b1, b2⟩ := Ext.freeze a2 hg2 h1
    refine ⟨_, a1.trans b1, b2, fun a ha => ?_, ?_⟩
    · by_cases e : a = p
      · exact .inr (.inl e)
      · rw [upd_ne e] at ha
        by_cases e2 : a = dx
        · subst e2; exact .inr (.inr ⟨hb, h2⟩)
        · rw [upd_ne e2] at ha; exact .inl ha
    · show Rep M _ (.obj c fs) _
      unfold Rep
      exact ⟨p, C, dx, ws, rfl, k, upd_same, b1 _ _ upd_same, RepF.mono (a1.trans b1) _ _ h4⟩
theorem EvV.frz {Q : VK} {v : EV} (h : EvV M G H Q (.fz v.d)) : EvV M G H Q v := by
  cases v with
  | fz d => exact h
  | fr o =>
    intro p G1 H1 x a b r
    obtain ⟨G2, s1, s2, nw, r2⟩ := freeze_obj x.i b r
    refine h _ G2 H1 ⟨x.g.trans s1, x.h, s2, fun q hq hg => ?_⟩ r2
    cases e : G2 q with
    | none => rfl
    | some w =>
      rcases nw q (by rw [e]; exact fun z => nomatch z) with z | z | z
      · exact absurd (x.n q hq hg) z
      · subst z; exact absurd a hq
      · exact absurd z.1 hq
end

/-! ### the slots -/
def XcAt (M : Md) (G : Hp) (c : Str) (fs : List (Str × D)) (v : V) : Prop :=
  ∃ a C d, M.x = some (a, C, d) ∧ v = .ref a ∧ M.cls c C ∧ ((fs = [] ∧ d = none) ∨ ∃ e ws, d = some e ∧ G e = some (.xd ws) ∧ RepF M G fs ws)
theorem XcAt.mono {M : Md} {G G' : Hp} {c : Str} {fs : List (Str × D)} {v : V} (s : Same G G') (h : XcAt M G c fs v) : XcAt M G' c fs v := by
  obtain ⟨a, C, d, h1, h2, h3, h4⟩ := h
  refine ⟨a, C, d, h1, h2, h3, ?_⟩
  rcases h4 with h4 | ⟨e, ws, h4, h5, h6⟩
  · exact .inl h4
  · exact .inr ⟨e, ws, h4, s _ _ h5, RepF.mono s _ _ h6⟩
structure Rel (M : Md) (G0 H0 : Hp) (ρ : Rho) (σ : L2.St) (G H : Hp) : Prop where
  ext : Ext G0 H0 G H
  len : σ.length = ρ.length
  fz : ∀ (i : Nat) (d : D), ρ[i]? = some (.fz d) → ∃ v, σ[i]? = some (some v) ∧ Rep M G d v
  ow : ∀ (i : Nat) (o : OD), ρ[i]? = some (.ow o) → ∃ p, σ[i]? = some (some (.ref p)) ∧ H0 p = none ∧ G p = none ∧ RepO M H0 G H p o
  xc : ∀ (i : Nat) (c : Str) (fs : List (Str × D)), ρ[i]? = some (.xc c fs) → ∃ v, σ[i]? = some (some v) ∧ XcAt M G c fs v
  ap : ∀ (i j : Nat) (oi oj : OD) (p : Addr), ρ[i]? = some (.ow oi) → ρ[j]? = some (.ow oj) → σ[i]? = some (some (.ref p)) → σ[j]? = some (some (.ref p)) → i = j
section
variable {M : Md} {G0 H0 G H G' H' : Hp} {ρ : Rho} {σ : L2.St}
theorem RepO.some {B : Hp} {p : Addr} {o : OD} (r : RepO M B G H p o) : H p ≠ none := by
  cases o with
  | lst ds => obtain ⟨vs, h, _⟩ := r; rw [h]; exact fun z => nomatch z
  | dct ds => obtain ⟨vs, h, _⟩ := r; rw [h]; exact fun z => nomatch z
  | obj c fs => obtain ⟨C, dx, ws, _, h, _⟩ := r; rw [h]; exact fun z => nomatch z
theorem Rel.same (r : Rel M G0 H0 ρ σ G H) : Same G H := r.ext.i
theorem Rel.later (r : Rel M G0 H0 ρ σ G H) (x : Ext G H G' H') : Rel M G0 H0 ρ σ G' H' where
  ext := r.ext.trans x
  len := r.len
  fz := fun i d e => let ⟨v, h1, h2⟩ := r.fz i d e; ⟨v, h1, Rep.mono x.g d v h2⟩
  ow := fun i o e => let ⟨p, h1, h2, h3, h4⟩ := r.ow i o e; ⟨p, h1, h2, x.n p h4.some h3, RepO.mono x.g x.h x.n o h4⟩
  xc := fun i c fs e => let ⟨v, h1, h2⟩ := r.xc i c fs e; ⟨v, h1, h2.mono x.g⟩
  ap := r.ap
/-- a slot takes a shared value -/
theorem Rel.setFz (r : Rel M G0 H0 ρ σ G H) {d : D} {v : V} (i : Nat) (hd : Rep M G d v) : Rel M G0 H0 (ρ.set i (.fz d)) (σ.set i (some v)) G H where
  ext := r.ext
  len := by simp [r.len]
  fz := fun j e h => by
    by_cases hj : i = j
    · subst hj
      by_cases hl : i < ρ.length
      · rw [List.getElem?_set_self hl] at h; cases h
        exact ⟨v, by rw [List.getElem?_set_self (by rw [r.len]; exact hl)], hd⟩
      · rw [List.getElem?_eq_none (by simpa using hl)] at h; cases h
    · rw [List.getElem?_set_ne hj] at h ⊢
      exact r.fz j e h
  ow := fun j o h => by
    by_cases hj : i = j
    · subst hj
      by_cases hl : i < ρ.length
      · rw [List.getElem?_set_self hl] at h; cases h
      · rw [List.getElem?_eq_none (by simpa using hl)] at h; cases h
    · rw [List.getElem?_set_ne hj] at h ⊢
      exact r.ow j o h
  xc := fun j c fs h => by
    by_cases hj : i = j
    · subst hj
      by_cases hl : i < ρ.length
      · rw [List.getElem?_set_self hl] at h; cases h
      · rw [List.getElem?_eq_none (by simpa using hl)] at h; cases h
    · rw [List.getElem?_set_ne hj] at h ⊢
      exact r.xc j c fs h
  ap := fun j k oj ok p h1 h2 h3 h4 => by
    by_cases hj : i = j
    · subst hj
      by_cases hl : i < ρ.length
      · rw [List.getElem?_set_self hl] at h1; cases h1
      · rw [List.getElem?_eq_none (by simpa using hl)] at h1; cases h1
    · by_cases hk : i = k
      · subst hk
        by_cases hl : i < ρ.length
        · rw [List.getElem?_set_self hl] at h2; cases h2
        · rw [List.getElem?_eq_none (by simpa using hl)] at h2; cases h2
      · rw [List.getElem?_set_ne hj] at h1 h3
        rw [List.getElem?_set_ne hk] at h2 h4
        exact r.ap j k oj ok p h1 h2 h3 h4
/-- a slot takes a new thing that nobody else holds -/
theorem Rel.setOw (r : Rel M G0 H0 ρ σ G H) {o : OD} {p : Addr} (i : Nat) (h0 : H0 p = none) (hg : G p = none) (ho : RepO M H0 G H p o) (nw : ∀ (j : Nat) (oj : OD), j ≠ i → ρ[j]? = some (.ow oj) → σ[j]? ≠ some (some (.ref p))) :
    Rel M G0 H0 (ρ.set i (.ow o)) (σ.set i (some (.ref p))) G H where
  ext := r.ext
  len := by simp [r.len]
  fz := fun j e h => by
    by_cases hj : i = j
    · subst hj
      by_cases hl : i < ρ.length
      · rw [List.getElem?_set_self hl] at h; cases h
      · rw [List.getElem?_eq_none (by simpa using hl)] at h; cases h
    · rw [List.getElem?_set_ne hj] at h ⊢
      exact r.fz j e h
  ow := fun j o' h => by
    by_cases hj : i = j
    · subst hj
      by_cases hl : i < ρ.length
      · rw [List.getElem?_set_self hl] at h; cases h
        exact ⟨p, by rw [List.getElem?_set_self (by rw [r.len]; exact hl)], h0, hg, ho⟩
      · rw [List.getElem?_eq_none (by simpa using hl)] at h; cases h
    · rw [List.getElem?_set_ne hj] at h ⊢
      exact r.ow j o' h
  xc := fun j c fs h => by
    by_cases hj : i = j
    · subst hj
      by_cases hl : i < ρ.length
      · rw [List.getElem?_set_self hl] at h; cases h
      · rw [List.getElem?_eq_none (by simpa using hl)] at h; cases h
    · rw [List.getElem?_set_ne hj] at h ⊢
      exact r.xc j c fs h
  ap := fun j k oj ok q h1 h2 h3 h4 => by
    by_cases hj : i = j
    · by_cases hk : i = k
      · rw [← hj, ← hk]
      · subst hj
        by_cases hl : i < ρ.length
        · rw [List.getElem?_set_self (by rw [r.len]; exact hl)] at h3; cases h3
          rw [List.getElem?_set_ne hk] at h2 h4
          exact absurd h4 (nw k ok (Ne.symm hk) h2)
        · rw [List.getElem?_eq_none (by simpa using hl)] at h1; cases h1
    · by_cases hk : i = k
      · subst hk
        by_cases hl : i < ρ.length
        · rw [List.getElem?_set_self (by rw [r.len]; exact hl)] at h4; cases h4
          rw [List.getElem?_set_ne hj] at h1 h3
          exact absurd h3 (nw j oj (Ne.symm hj) h1)
        · rw [List.getElem?_eq_none (by simpa using hl)] at h2; cases h2
      · rw [List.getElem?_set_ne hj] at h1 h3
        rw [List.getElem?_set_ne hk] at h2 h4
        exact r.ap j k oj ok q h1 h2 h3 h4
/-- a slot's value is forgotten -/
theorem Rel.setUn (r : Rel M G0 H0 ρ σ G H) (i : Nat) (w : Option V) : Rel M G0 H0 (ρ.set i .un) (σ.set i w) G H where
  ext := r.ext
  len := by simp [r.len]
  fz := fun j e h => by
    by_cases hj : i = j
    · subst hj
      by_cases hl : i < ρ.length
      · rw [List.getElem?_set_self hl] at h; cases h
      · rw [List.getElem?_eq_none (by simpa using hl)] at h; cases h
    · rw [List.getElem?_set_ne hj] at h ⊢
      exact r.fz j e h
  ow := fun j o h => by
    by_cases hj : i = j
    · subst hj
      by_cases hl : i < ρ.length
      · rw [List.getElem?_set_self hl] at h; cases h
      · rw [List.getElem?_eq_none (by simpa using hl)] at h; cases h
    · rw [List.getElem?_set_ne hj] at h ⊢
      exact r.ow j o h
  xc := fun j c fs h => by
    by_cases hj : i = j
    · subst hj
      by_cases hl : i < ρ.length
      · rw [List.getElem?_set_self hl] at h; cases h
      · rw [List.getElem?_eq_none (by simpa using hl)] at h; cases h
    · rw [List.getElem?_set_ne hj] at h ⊢
      exact r.xc j c fs h
  ap := fun j k oj ok p h1 h2 h3 h4 => by
    by_cases hj : i = j
    · subst hj
      by_cases hl : i < ρ.length
      · rw [List.getElem?_set_self hl] at h1; cases h1
      · rw [List.getElem?_eq_none (by simpa using hl)] at h1; cases h1
    · by_cases hk : i = k
      · subst hk
        by_cases hl : i < ρ.length
        · rw [List.getElem?_set_self hl] at h2; cases h2
        · rw [List.getElem?_eq_none (by simpa using hl)] at h2; cases h2
      · rw [List.getElem?_set_ne hj] at h1 h3
        rw [List.getElem?_set_ne hk] at h2 h4
        exact r.ap j k oj ok p h1 h2 h3 h4
theorem Rel.wipe (r : Rel M G0 H0 ρ σ G H) : ∀ vs : List Nat, Rel M G0 H0 (wipeS ρ vs) (L2.wipe σ vs) G H
  | [] => r
  | v :: vs => (Rel.wipe r vs).setUn v none
end
end PX

set_option Elab.async false
set_option linter.all false
set_option maxRecDepth 100000
/-! Px3: the check of the small syntax against the program's; contexts; operators. -/
namespace PX
open PySem PySem.Spec PyProof.Rows L2

/-! ### the check -/
structure Cs where
  N : List Str
  sc : Scope
  cl : Str → Bool
  hot : Bool
  bl : List Str
  im : List Str
  fns : List Str
  flds : List Str
  /-- the fields of exceptions -/
  xfl : List Str
  /-- a def's own body -/
  top : Bool
  /-- exception classes without and with fields -/
  ex0 : List Str
  ex1 : List (Str × List Str)
  /-- classes in except clauses -/
  exl : List Str
/-- the slots that a target stores to -/
def Tg.is : Tg → List Nat
  | .nm i => [i]
  | .tp is => is
def visC (sc : Scope) (x : Str) : Bool := match sc.names.lookup x with | some .local => true | some .cell => true | some .free => true | _ => false
def locC (sc : Scope) (x : Str) : Bool := match sc.names.lookup x with | some .local => true | some .cell => true | _ => false
def nodb (x : Str) : Bool := !(x == ("__debug__" : Str)) && !(x == ("__classdict__" : Str)) && !(x == ("__name__" : Str))
def gloC (c : Cs) (x : Str) : Bool := decide (c.sc.names.lookup x = some .globalImplicit) && nodb x
def bltC (c : Cs) (x : Str) : Bool := gloC c x && decide (x ∈ c.bl)
def nst : Expr → Bool
  | .Starred _ _ => false
  | _ => true
def nset : Expr → Bool
  | .Set _ _ _ => false
  | _ => true
def nsup : Expr → Bool
  | .Call (.Name id _) [] [] _ => !(id == ("super" : Str))
  | _ => true
def nslice : Expr → Bool
  | .Slice _ _ _ _ => false
  | _ => true
def isTupTg : Expr → Bool
  | .Tuple _ _ _ => true
  | _ => false
inductive BK where
  | b (id : String) | t (T : String) | m (id : String)
def Bi.name : Bi → Str
  | .len => "len" | .abs => "abs" | .int => "int" | .str => "str" | .gcd => "gcd" | .lcm => "lcm" | .list => "list" | .tuple => "tuple" | .isI => "isinstance"
  | .max => "max" | .min => "min" | .sum => "sum" | .sorted => "sorted" | .all => "all" | .any => "any"
def Bi.math : Bi → Bool
  | .gcd => true | .lcm => true | _ => false
/-- the rules that ask that nothing is being handled -/
def Bi.cool : Bi → Bool
  | .max => true | .min => true | .sum => true | .all => true | .any => true | _ => false
def Me.name : Me → Str
  | .part => "partition" | .split => "split" | .join => "join" | .index => "index"
def tgC (c : Cs) (i : Nat) (x : Str) : Bool := decide (c.N[i]? = some x) && locC c.sc x && (c.cl x || decide (c.sc.names.lookup x = some .local))
def chkTp (c : Cs) : List Nat → List Expr → Bool
  | [], [] => true
  | i :: is, .Name x _ :: es => tgC c i x && chkTp c is es
  | _, _ => false
def chkTg (c : Cs) (tg : Tg) (ex : Expr) : Bool :=
  match tg, ex with
  | .nm i, .Name x _ => tgC c i x
  | .tp is, .Tuple es _ _ => !c.hot && chkTp c is es
  | _, _ => false
def chkI (c : Cs) (f : List Expr → Bool) (k : ItK) (it tg : Expr) : Bool :=
  match k, it with
  | .val, it => f [it] && nset it && nst it
  | .rng, .Call (.Name x _) [e] [] _ => decide (x = ("range" : Str)) && bltC c x && f [e] && nst e
  | .rng2, .Call (.Name x _) [e, e2] [] _ => decide (x = ("range" : Str)) && bltC c x && f [e, e2] && nst e && nst e2
  | .zip, .Call (.Name x _) [e, e2] [] _ => decide (x = ("zip" : Str)) && bltC c x && f [e, e2] && nst e && nst e2 && isTupTg tg
  | .enm, .Call (.Name x _) [e] [] _ => decide (x = ("enumerate" : Str)) && bltC c x && f [e] && nst e && isTupTg tg
  | .rev, .Call (.Name x _) [e] [] _ => decide (x = ("reversed" : Str)) && bltC c x && f [e] && nst e
  | _, _ => false
/-- a test of which the rules know how truth is asked: no conditional expression -/
def tstOk : Expr → Bool
  | .IfExp _ _ _ _ => false
  | _ => true
mutual
def chkE : E → Cs → Expr → Bool
  | .var i, c, ex => match ex with
    | .Name x _ => decide (c.N[i]? = some x) && visC c.sc x && nodb x
    | _ => false
  | .non, _, ex => match ex with
    | .Constant .none _ _ => true
    | _ => false
  | .bl b, _, ex => match ex with
    | .Constant (.bool b') _ _ => b == b'
    | _ => false
  | .int i, _, ex => match ex with
    | .Constant (.int i') _ _ => decide (i = i')
    | _ => false
  | .str s, _, ex => match ex with
    | .Constant (.str s') _ _ => decide (s = s')
    | _ => false
  | .glb x, c, ex => match ex with
    | .Name x' _ => decide (x = x') && gloC c x
    | _ => false
  | .tyn x T, c, ex => match ex with
    | .Name x' _ => decide (x = x') && bltC c x && decide (bootBuiltins x = some (.type T))
    | _ => false
  | .bin op a b, c, ex => match ex with
    | .BinOp x op' y _ => decide (op = op') && chkE a c x && chkE b c y
    | _ => false
  | .neg a, c, ex => match ex with
    | .UnaryOp .USub x _ => chkE a c x
    | _ => false
  | .nt a, c, ex => match ex with
    | .UnaryOp .Not x _ => chkE a c x && tstOk x
    | _ => false
  | .cmp op a b, c, ex => match ex with
    | .Compare x [op'] [y] _ => decide (op = op') && chkE a c x && chkE b c y && !behindInMarks op y
    | _ => false
  | .and a b, c, ex => match ex with
    | .BoolOp .And (x :: y :: r) p => chkE a c x && tstOk x && (match r with
      | [] => chkE b c y && tstOk y
      | z :: r => chkE b c (.BoolOp .And (y :: z :: r) p))
    | _ => false
  | .or a b, c, ex => match ex with
    | .BoolOp .Or (x :: y :: r) p => chkE a c x && tstOk x && (match r with
      | [] => chkE b c y && tstOk y
      | z :: r => chkE b c (.BoolOp .Or (y :: z :: r) p))
    | _ => false
  | .ite t a b, c, ex => match ex with
    | .IfExp xt xa xb _ => chkE t c xt && tstOk xt && chkE a c xa && chkE b c xb
    | _ => false
  | .call f as, c, ex => match ex with
    | .Call (.Name x _) (e :: es) [] _ => !c.hot && decide (x = f) && decide (f ∈ c.fns) && gloC c x && chkL as c (e :: es) && (e :: es).all nst
    | _ => false
  | .bi f as, c, ex => match ex with
    | .Call (.Name x _) (e :: es) [] _ => decide (x = f.name) && (if f.math then gloC c f.name && decide (f.name ∈ c.im) else bltC c f.name) && (!c.hot || !f.cool) && chkL as c (e :: es) && (e :: es).all nst
    | _ => false
  | .me m o as, c, ex => match ex, as with
    | .Call (.Attribute xo nm ap) [x] [] p, [e] => !c.hot && decide (nm = m.name) && chkE o c xo && chkE e c x && nst x && nsup xo && decide (ap.endLine = p.line)
    | _, _ => false
  | .ix a b, c, ex => match ex with
    | .Subscript x y _ => chkE a c x && chkE b c y && nslice y
    | _ => false
  | .sl a lo hi, c, ex => match ex with
    | .Subscript x (.Slice l h none _) _ => chkE a c x && (match l with | none => lo.non? | some y => !lo.non? && chkE lo c y) && (match h with | none => hi.non? | some y => !hi.non? && chkE hi c y)
    | _ => false
  | .tup es, c, ex => match ex with
    | .Tuple xs _ _ => chkL es c xs && xs.all nst
    | _ => false
  | .ls es, c, ex => match ex with
    | .List xs _ => chkL es c xs && xs.all nst
    | _ => false
  | .lc own tg k as ifs el, c, ex => match ex with
    | .ListComp xel [⟨xtg, it, xifs, 0⟩] scope _ =>
      !c.hot && blkC c.N c.sc scope (own.map fun i => (c.N.getD i "", i)) && chkI c (fun exs => chkL as c exs && exs.all nst) k it xtg && nset it &&
        chkTg { c with sc := relS scope c.sc, cl := fun x => scope.names.lookup x == some .cell, top := false, ex0 := [], ex1 := [] } tg xtg && tg.is.all (fun i => decide (i ∈ own)) &&
        chkL ifs { c with sc := relS scope c.sc, cl := fun x => scope.names.lookup x == some .cell, top := false, ex0 := [], ex1 := [] } xifs && decide (ifs.length ≤ 1) && xifs.all tstOk &&
        chkE el { c with sc := relS scope c.sc, cl := fun x => scope.names.lookup x == some .cell, top := false, ex0 := [], ex1 := [] } xel
    | _ => false
  | .fst ps, c, ex => match ex with
    | .JoinedStr (v1 :: v2 :: vs) _ => chkP ps c (v1 :: v2 :: vs)
    | _ => false
  | .fld o f, c, ex => match ex with
    | .Attribute x f' _ => decide (f = f') && chkE o c x && nsup x && decide (f ∈ c.flds)
    | _ => false
  | .isE i C, c, ex => match ex with
    | .Call (.Name f _) [.Name x _, .Name C' _] [] _ => c.hot && decide (f = ("isinstance" : Str)) && bltC c f && decide (C' = C) && gloC c C' && decide (c.N[i]? = some x) && visC c.sc x && nodb x
    | _ => false
  | .exf i f, c, ex => match ex with
    | .Attribute (.Name x _) f' _ => c.hot && decide (f = f') && decide (c.N[i]? = some x) && visC c.sc x && nodb x && decide (f ∈ c.xfl)
    | _ => false
def chkL : List E → Cs → List Expr → Bool
  | [], _, xs => xs.isEmpty
  | e :: es, c, xs => match xs with
    | x :: xs => chkE e c x && chkL es c xs
    | [] => false
/-- the parts of an f-string -/
def chkP : List E → Cs → List Expr → Bool
  | [], _, xs => xs.isEmpty
  | e :: es, c, xs => match xs with
    | .FormattedValue x (-1) none _ :: xs => chkE e c x && chkP es c xs
    | .Constant (.str s') _ _ :: xs => (match e with | .str s => decide (s = s') | _ => false) && chkP es c xs
    | _ => false
end

/-! ### the check of statements -/
def isComp : Expr → Bool
  | .ListComp _ _ _ _ => true
  | .SetComp _ _ _ _ => true
  | .DictComp _ _ _ _ _ => true
  | _ => false
def nTup : Expr → Bool
  | .Tuple _ _ _ => false
  | _ => true
/-- a comprehension that is stored at once -/
def swC (c : Cs) (xe : Expr) (x : Str) (p : Pos) : Bool := match xe with
  | .ListComp _ _ s pos => decide (c.sc.names.lookup x = some .local) && p.line == pos.line && !(s.names.any fun (n, k) => n == x && (k == .local || k == .cell))
  | _ => false
def nSD : Expr → Bool
  | .SetComp _ _ _ _ => false
  | .DictComp _ _ _ _ _ => false
  | _ => true
def isLc : E → Bool
  | .lc _ _ _ _ _ _ => true
  | _ => false
def isXLc : Expr → Bool
  | .ListComp _ [_] _ _ => true
  | _ => false
def asgOk (c : Cs) (e : E) (xtg xe : Expr) : Bool := match xtg with
  | .Name x px => nSD xe && (!swC c xe x px || (isLc e && isXLc xe && c.top))
  | _ => nTup xe
def nmC (c : Cs) (i : Nat) (x : Str) : Bool := decide (c.N[i]? = some x) && visC c.sc x && nodb x
mutual
def chkS : S → Cs → Stmt → Bool
  | .asg tg e us, c, st => match st with
    | .Assign [xtg] xe p => chkE e c xe && chkTg c tg xtg && decide (c.sc.kind = .function) &&
      asgOk c e xtg xe
    | _ => false
  | .par i j a b us, c, st => match st with
    | .Assign [.Tuple [.Name x px, .Name y py] _ _] (.Tuple [xa, xb] _ _) _ => !c.hot && decide (c.N[i]? = some x) && decide (c.N[j]? = some y) && decide (i ≠ j) && decide (c.sc.names.lookup x = some .local) && decide (c.sc.names.lookup y = some .local) &&
      chkE a c xa && chkE b c xb && nst xa && nst xb && decide (c.sc.kind = .function) && decide (px.line = py.line) && !(x == y) && !([xa, xb].all (foldedForSure 8)) && !([xa, xb].all (constantsAlone 8))
    | _ => false
  | .aug i op e us, c, st => match st with
    | .AugAssign (.Name x _) op' xe _ => decide (op' = op) && (decide (op = .Add) || decide (op = .Sub)) && tgC c i x && chkE e c xe
    | _ => false
  | .stix i ix e us, c, st => match st with
    | .Assign [.Subscript (.Name x _) xi _] xe _ => nmC c i x && chkE ix c xi && chkE e c xe && nslice xi
    | _ => false
  | .app i e us, c, st => match st with
    | .Expr (.Call (.Attribute (.Name x _) nm ap) [xe] [] cp) _ => decide (nm = ("append" : Str)) && nmC c i x && chkE e c xe && nst xe && decide (ap.endLine = cp.line)
    | _ => false
  | .expr e us, c, st => match st with
    | .Expr xe _ => chkE e c xe && !isComp xe
    | _ => false
  | .iff t a b us, c, st => match st with
    | .If xt xa xb _ => chkE t c xt && tstOk xt && chkSs a c xa && chkSs b c xb
    | _ => false
  | .whl t b us, c, st => match st with
    | .While xt xb [] _ => chkE t c xt && tstOk xt && chkSs b c xb
    | _ => false
  | .for tg k as b us, c, st => match st with
    | .For xtg it xb [] _ => !c.hot && chkI c (fun exs => chkL as c exs && exs.all nst) k it xtg && nset it && chkTg c tg xtg && chkSs b c xb
    | _ => false
  | .ret e us, c, st => match st with
    | .Return (some xe) _ => chkE e c xe
    | _ => false
  | .retv i, c, st => match st with
    | .Return (some (.Name x _)) _ => nmC c i x
    | _ => false
  | .retN, _, st => match st with
    | .Return none _ => true
    | _ => false
  | .brk, _, st => match st with
    | .Break _ => true
    | _ => false
  | .cont, _, st => match st with
    | .Continue _ => true
    | _ => false
  | .pass, _, st => match st with
    | .Pass _ => true
    | _ => false
  | .rais C as fs us, c, st => match st with
    | .Raise (some (.Call (.Name C' _) (x :: xs) [] _)) none _ => !c.hot && decide (C' = C) && gloC c C &&
      ((as.isEmpty && fs.isEmpty && xs.isEmpty && (match x with | .Constant (.str _) _ _ => true | _ => false) && decide (C ∈ c.ex0)) ||
       (chkL as c (x :: xs) && (x :: xs).all nst && decide ((C, fs) ∈ c.ex1) && decide ((x :: xs).length = fs.length)))
    | _ => false
  | .tri b C nm h, c, st => match st with
    | .Try xb [.ExceptHandler (some (.Name C' _)) nm' (b0 :: suite) _] [] [] _ => !c.hot && c.top && decide (C' = C) && gloC c C && decide (C ∈ c.exl) &&
      (match nm, nm' with
      | some i, some x => decide (c.N[i]? = some x) && decide (c.sc.names.lookup x = some .local)
      | none, none => true
      | _, _ => false) && chkSs b c xb && chkSs h { c with hot := true, ex0 := [], ex1 := [] } (b0 :: suite)
    | _ => false
def chkSs : List S → Cs → List Stmt → Bool
  | [], _, xs => xs.isEmpty
  | s :: ss, c, xs => match xs with
    | x :: xs => chkS s c x && chkSs ss c xs
    | [] => false
end

/-! ### contexts -/
/-- a def's promise out of what its calls give -/
def spOf (M : Md) (n : Nat) (F : List D → R EV) : Sp := fun vs H Q E => vs.length = n ∧ ∃ G ds, Same G H ∧ Reps M G ds vs ∧ GOk M E G H (EvV M G H Q) (F ds)
/-- every call of f, from such contexts, gives what F says -/
def CallS (M : Md) (Xs : Cx → Prop) (f : Str) (F : List D → R EV) : Prop :=
  ∃ (k : Nat) (fa : Addr) (fd : FuncData) (ps : List Str), FnOk M.P M.w M.K M.mg M.base (L2.CX M.P M.w) k fa fd ps (spOf M ps.length F) ∧ (∀ X, Xs X → Room k X.A) ∧ M.mg f = some (.ref fa) ∧ PySem.W.keepIn M.K (.ref fa) = true ∧ L2.Binds M.K fd ps [] ∧ ∀ ds : List D, ds.length ≠ ps.length → F ds = .st
/-- contexts in which the exception at a is being handled -/
def SuF (Xs : Cx → Prop) (M : Md) (a C : Addr) (d : Option Addr) : Prop := ∀ X, Xs X → ∃ Y oe pn, X = Cx.suite Y a ((a, oe) :: pn) ∧ Y.K = M.K ∧ Y.mg = M.mg ∧ Zc (.ref C) d oe ∧ ∃ vs, oe.data = .fields vs
/-- isinstance of the handled exception -/
def HotE (Xs : Cx → Prop) (M : Md) (T : Tb) (a D : Addr) (d : Option Addr) : Prop := ∀ cc C b, T.sub cc C = some b → M.cls cc D → ∃ (cv : V) (u : Value), RelV cv u ∧ (∀ u', RelV cv u' → u' = u) ∧ (M.mg C = some u ∨ (M.mg C = none ∧ bootBuiltins C = some u)) ∧
    ∀ X, Xs X → ∀ (H : Hp) (Q : VK), (d = none ∨ ∃ e ws, d = some e ∧ H e = some (.xd ws)) → Q (.bl b) H → CallW Xs (.builtin "isinstance") [.ref a, cv] H Q
/-- a field of the handled exception -/
def HotF (Xs : Cx → Prop) (M : Md) (T : Tb) (c : Cs) (a C : Addr) (d : Option Addr) : Prop := ∀ cc b, T.sub cc cc = some b → M.cls cc C → ∀ f, f ∈ c.xfl → ∀ X, Xs X → ∀ (e : Expr) (p : Pos), nsup e = true →
  PE X (.Attribute e f p) (fun σ H Q => WP Xs e σ H fun x H1 => x = .ref a ∧ ∃ (dd : Addr) (fs : List (Str × V)) (v : V), d = some dd ∧ H1 dd = some (.xd fs) ∧ fs.lookup f = some v ∧ Q v H1)
structure Kx (Xs : Cx → Prop) (M : Md) (T : Tb) (W : WX) (c : Cs) : Prop where
  K : ∀ X, Xs X → X.K = M.K
  mg : ∀ X, Xs X → X.mg = M.mg
  P : ∀ X, Xs X → X.prog = M.P
  w : ∀ X, Xs X → X.w = M.w
  base : ∀ X, Xs X → X.base = M.base
  N : ∀ X, Xs X → X.N = c.N
  sc : ∀ X, Xs X → X.env.scope = c.sc
  cl : ∀ X, Xs X → ∀ x, c.cl x = true → X.fn x = true
  nd : c.N.Nodup
  calm : c.hot = false → ∀ X, Xs X → X.calm = true
  tk : ∀ X, Xs X → Takes X W
  po : ∀ X, Xs X → PassesOwn (model X.prog X.w) X.A X.env X.xe
  room : ∀ X, Xs X → X.A.units + 70 < cLine
  bl : ∀ x, x ∈ c.bl → M.mg x = none
  gcd : ("gcd" : Str) ∈ c.im → M.mg "gcd" = some (.builtin "math.gcd")
  lcm : ("lcm" : Str) ∈ c.im → M.mg "lcm" = some (.builtin "math.lcm")
  /-- where an exception is handled: the suite's context -/
  hot : c.hot = true → ∃ a C d cc, M.x = some (a, C, d) ∧ M.cls cc C ∧ SuF Xs M a C d
  su : ∀ a C d cc, M.cls cc C → ∀ Zs, SuF Zs M a C d → HotE Zs M T a C d ∧ HotF Zs M T c a C d
  top : c.top = true → ∀ X, Xs X → X.stack = X.env :: X.outer ∧ X.env.frame = some X.env.locals
  xn : c.hot = false → M.x = none
  exv : ∀ C, C ∈ c.exl → ∃ u, M.mg C = some u ∨ (M.mg C = none ∧ bootBuiltins C = some u)
  exm : ∀ cc C b, T.sub cc C = some b → ∀ D, M.cls cc D → ∃ u, (M.mg C = some u ∨ (M.mg C = none ∧ bootBuiltins C = some u)) ∧ PySem.W.exmOne M.K (.ref D) u = some b
  ex0 : ∀ C, C ∈ c.ex0 → ∃ D, M.cls C D ∧ ∀ X : Cx, X.K = M.K → X.mg = M.mg → Gl X C → (C == ("__debug__" : Str)) = false → ∀ m j p p2 pos, PMk X (.Call (.Name C p) [.Constant (.str m) j p2] [] pos) (fun _ H Q => Q (.ref D) none H)
  ex1 : ∀ C fs, (C, fs) ∈ c.ex1 → ∃ D, M.cls C D ∧ ∀ X : Cx, X.K = M.K → X.mg = M.mg → X.prog = M.P → X.w = M.w → X.base = M.base → (∃ Y, Xs Y ∧ X.A = Y.A) → Gl X C → (C == ("__debug__" : Str)) = false → ∀ e es p pos ta, (e :: es).all nst = true → (e :: es).length = fs.length → PA X (e :: es) ta →
    PMk X (.Call (.Name C p) (e :: es) [] pos) (fun σ H Q => ta σ H fun vs H1 => vs.length = fs.length ∧ ∀ d, H1 d = none → Q (.ref D) (some d) (upd H1 d (.xd (fs.zip vs))))
  obj : ∀ cl C f, T.oc cl = true → M.cls cl C → f ∈ c.flds → Cls M.K C ∧ NoAttr M.K C f
  cst : ∀ x d, T.cst x = some d → ∃ u v, M.mg x = some u ∧ RelV v u ∧ ∀ G, Rep M G d v
  fns : c.hot = false → ∀ f, f ∈ c.fns → CallS M Xs f (T.call f)

/-! ### what a checked expression is -/
def SV (Xs : Cx → Prop) (M : Md) (E : XK) (σ : L2.St) (G H : Hp) (ex : Expr) (f : R EV) : Prop := ∀ Q, GOk M E G H (EvV M G H Q) f → WP Xs ex σ H Q
def SL (Xs : Cx → Prop) (M : Md) (E : XK) (σ : L2.St) (G H : Hp) (exs : List Expr) (f : R (List D)) : Prop :=
  ∀ Q, GOk M E G H (fun ds => ∀ vs G' H', Ext G H G' H' → Reps M G' ds vs → Q vs H') f → WA Xs exs σ H Q
def SB (Xs : Cx → Prop) (M : Md) (E : XK) (σ : L2.St) (G H : Hp) (ex : Expr) (f : R Bool) : Prop :=
  ∀ Q, GOk M E G H (fun b => ∀ G' H', Ext G H G' H' → Q b H') f → WT Xs ex σ H Q
section
variable {Xs : Cx → Prop} {M : Md} {E : XK} {σ : L2.St} {G H : Hp} {ex : Expr} {f : R EV}
theorem SV.use (h : SV Xs M E σ G H ex f) {Z : EV → Prop} (hb : GOk M E G H Z f) {Q : VK} (k : ∀ x v G' H', Z x → Ext G H G' H' → Rep M G' x.d v → Q v H') : WP Xs ex σ H Q :=
  h Q (hb.imp fun x z => EvV.frz fun v G' H' e r => k x v G' H' z e r)
theorem SL.use {exs : List Expr} {f : R (List D)} (h : SL Xs M E σ G H exs f) {Z : List D → Prop} (hb : GOk M E G H Z f) {Q : List V → Hp → Prop} (k : ∀ x v G' H', Z x → Ext G H G' H' → Reps M G' x v → Q v H') : WA Xs exs σ H Q :=
  h Q (hb.imp fun x z => fun v G' H' e r => k x v G' H' z e r)
theorem SB.use {f : R Bool} (h : SB Xs M E σ G H ex f) {Z : Bool → Prop} (hb : GOk M E G H Z f) {Q : Bool → Hp → Prop} (k : ∀ b G' H', Z b → Ext G H G' H' → Q b H') : WT Xs ex σ H Q :=
  h Q (hb.imp fun x z => fun G' H' e => k x G' H' z e)
end
theorem EvV.val {M : Md} {G H : Hp} {Q : VK} {d : D} (h : EvV M G H Q (.fz d)) (s : Same G H) {v : V} (r : Rep M G d v) : Q v H := h v G H (Ext.refl s) r

/-! ### lists of what stands for what -/
section
variable {M : Md} {G : Hp}
theorem Reps.length : ∀ {ds : List D} {vs : List V}, Reps M G ds vs → vs.length = ds.length
  | [], vs, h => by unfold Reps at h; subst h; rfl
  | d :: ds, vs, h => by
    unfold Reps at h
    obtain ⟨v, r, rfl, _, h2⟩ := h
    simp [Reps.length h2]
theorem Reps.get : ∀ {ds : List D} {vs : List V} {i : Nat} {d : D}, Reps M G ds vs → ds[i]? = some d → ∃ v, vs[i]? = some v ∧ Rep M G d v
  | [], _, _, _, _, h => by simp at h
  | d :: ds, vs, i, e, h, q => by
    unfold Reps at h
    obtain ⟨v, r, rfl, h1, h2⟩ := h
    cases i with
    | zero => simp at q; subst q; exact ⟨v, by simp, h1⟩
    | succ i => simp at q; obtain ⟨u, a, b⟩ := Reps.get h2 q; exact ⟨u, by simpa using a, b⟩
theorem Reps.append : ∀ {ds es : List D} {vs us : List V}, Reps M G ds vs → Reps M G es us → Reps M G (ds ++ es) (vs ++ us)
  | [], _, _, _, h, q => by unfold Reps at h; subst h; exact q
  | d :: ds, es, vs, us, h, q => by
    unfold Reps at h
    obtain ⟨v, r, rfl, h1, h2⟩ := h
    show Reps M G (d :: (ds ++ es)) _
    unfold Reps
    exact ⟨v, r ++ us, rfl, h1, Reps.append h2 q⟩
theorem Reps.take : ∀ {ds : List D} {vs : List V} (n : Nat), Reps M G ds vs → Reps M G (ds.take n) (vs.take n)
  | [], vs, n, h => by unfold Reps at h; subst h; simp [Reps]
  | d :: ds, vs, 0, h => by simp [Reps]
  | d :: ds, vs, n + 1, h => by
    unfold Reps at h
    obtain ⟨v, r, rfl, h1, h2⟩ := h
    show Reps M G (d :: ds.take n) (v :: r.take n)
    unfold Reps
    exact ⟨v, _, rfl, h1, Reps.take n h2⟩
theorem Reps.drop : ∀ {ds : List D} {vs : List V} (n : Nat), Reps M G ds vs → Reps M G (ds.drop n) (vs.drop n)
  | [], vs, n, h => by unfold Reps at h; subst h; simp [Reps]
  | d :: ds, vs, 0, h => h
  | d :: ds, vs, n + 1, h => by
    unfold Reps at h
    obtain ⟨v, r, rfl, h1, h2⟩ := h
    exact Reps.drop n h2
theorem Reps.set : ∀ {ds : List D} {vs : List V} (n : Nat) {d : D} {v : V}, Reps M G ds vs → Rep M G d v → Reps M G (ds.set n d) (vs.set n v)
  | [], vs, n, _, _, h, _ => by unfold Reps at h; subst h; simp [Reps]
  | e :: ds, vs, 0, d, v, h, q => by
    unfold Reps at h
    obtain ⟨u, r, rfl, h1, h2⟩ := h
    show Reps M G (d :: ds) (v :: r)
    unfold Reps
    exact ⟨v, r, rfl, q, h2⟩
  | e :: ds, vs, n + 1, d, v, h, q => by
    unfold Reps at h
    obtain ⟨u, r, rfl, h1, h2⟩ := h
    show Reps M G (e :: ds.set n d) (u :: r.set n v)
    unfold Reps
    exact ⟨u, _, rfl, h1, Reps.set n h2 q⟩
theorem Reps.rev : ∀ {ds : List D} {vs : List V}, Reps M G ds vs → Reps M G ds.reverse vs.reverse
  | [], vs, h => by unfold Reps at h; subst h; simp [Reps]
  | d :: ds, vs, h => by
    unfold Reps at h
    obtain ⟨v, r, rfl, h1, h2⟩ := h
    rw [List.reverse_cons, List.reverse_cons]
    exact Reps.append (Reps.rev h2) (by unfold Reps; exact ⟨v, [], rfl, h1, by unfold Reps; rfl⟩)
theorem Reps.ints : ∀ {ds : List D} {vs : List V} {ns : List Int}, Reps M G ds vs → asInts ds = some ns → vs = ns.map V.int
  | [], vs, ns, h, q => by unfold Reps at h; subst h; simp [asInts] at q; subst q; rfl
  | d :: ds, vs, ns, h, q => by
    unfold Reps at h
    obtain ⟨v, r, rfl, h1, h2⟩ := h
    cases d <;> simp [asInts] at q
    obtain ⟨ms, e, rfl⟩ := q
    unfold Rep at h1
    rw [h1, Reps.ints h2 e]; rfl
theorem Reps.bools : ∀ {ds : List D} {vs : List V} {ns : List Bool}, Reps M G ds vs → asBools ds = some ns → vs = ns.map V.bl
  | [], vs, ns, h, q => by unfold Reps at h; subst h; simp [asBools] at q; subst q; rfl
  | d :: ds, vs, ns, h, q => by
    unfold Reps at h
    obtain ⟨v, r, rfl, h1, h2⟩ := h
    cases d <;> simp [asBools] at q
    obtain ⟨ms, e, rfl⟩ := q
    unfold Rep at h1
    rw [h1, Reps.bools h2 e]; rfl
theorem Reps.strs : ∀ {ds : List D} {vs : List V} {ns : List Str}, Reps M G ds vs → asStrs ds = some ns → vs = ns.map V.str
  | [], vs, ns, h, q => by unfold Reps at h; subst h; simp [asStrs] at q; subst q; rfl
  | d :: ds, vs, ns, h, q => by
    unfold Reps at h
    obtain ⟨v, r, rfl, h1, h2⟩ := h
    cases d <;> simp [asStrs] at q
    obtain ⟨ms, e, rfl⟩ := q
    unfold Rep at h1
    rw [h1, Reps.strs h2 e]; rfl
theorem Reps.ofInts : ∀ (ns : List Int), Reps M G (ns.map D.int) (ns.map V.int)
  | [] => by simp [Reps]
  | n :: ns => by
    show Reps M G (D.int n :: ns.map D.int) (V.int n :: ns.map V.int)
    unfold Reps
    exact ⟨_, _, rfl, by unfold Rep; rfl, Reps.ofInts ns⟩
theorem Reps.ofStrs : ∀ (ns : List Str), Reps M G (ns.map D.str) (ns.map V.str)
  | [] => by simp [Reps]
  | n :: ns => by
    show Reps M G (D.str n :: ns.map D.str) (V.str n :: ns.map V.str)
    unfold Reps
    exact ⟨_, _, rfl, by unfold Rep; rfl, Reps.ofStrs ns⟩
theorem Reps.flat {ds : List D} {vs : List V} (h : Reps M G ds vs) : ∀ n : Nat, Reps M G (List.replicate n ds).flatten (List.replicate n vs).flatten
  | 0 => by simp [Reps]
  | n + 1 => by
    rw [List.replicate_succ, List.replicate_succ, List.flatten_cons, List.flatten_cons]
    exact Reps.append h (Reps.flat h n)
theorem Reps.cut {ds : List D} {vs : List V} (h : Reps M G ds vs) (lo hi : Option Int) : Reps M G (cutD ds lo hi) (cutV vs lo hi) := by
  unfold cutD cutV
  rw [h.length]
  exact Reps.take _ (Reps.drop _ h)
theorem Reps.atI {ds : List D} {vs : List V} (h : Reps M G ds vs) {i : Int} {d : D} (q : L2.atI ds i = some d) : ∃ v, L2.atI vs i = some v ∧ Rep M G d v := by
  unfold L2.atI at q ⊢
  rw [h.length]
  cases e : ixN ds.length i with
  | none => rw [e] at q; simp at q
  | some j =>
    rw [e] at q
    exact Reps.get h (by simpa using q)
theorem Reps.one {ds : List D} {v : V} (h : Reps M G ds [v]) : ∃ d, ds = [d] ∧ Rep M G d v := by
  cases ds with
  | nil => unfold Reps at h; cases h
  | cons d r =>
    unfold Reps at h
    obtain ⟨v', r', e, h1, h2⟩ := h
    cases e
    cases r with
    | nil => exact ⟨d, rfl, h1⟩
    | cons _ _ => unfold Reps at h2; obtain ⟨_, _, e, _⟩ := h2; cases e
mutual
theorem Rep.dp : ∀ {d : D} {v : V} {p : PyData}, Rep M G d v → d.py = some p → Dp M.K G v p
  | .non, v, p, h, q => by unfold D.py at q; cases q; unfold Rep at h; subst h; exact .non
  | .bl b, v, p, h, q => by unfold D.py at q; cases q; unfold Rep at h; subst h; exact .bl _
  | .int b, v, p, h, q => by unfold D.py at q; cases q; unfold Rep at h; subst h; exact .int _
  | .str b, v, p, h, q => by unfold D.py at q; cases q; unfold Rep at h; subst h; exact .str _
  | .ty n, v, p, h, q => by simp [D.py] at q
  | .tup ds, v, p, h, q => by
    unfold D.py at q
    cases e : D.pys ds with
    | none => rw [e] at q; cases q
    | some ps =>
      rw [e] at q; cases q
      unfold Rep at h
      obtain ⟨a, vs, rfl, h1, h2⟩ := h
      exact .tup h1 (Reps.dp h2 e)
  | .lst ds, v, p, h, q => by
    unfold D.py at q
    cases e : D.pys ds with
    | none => rw [e] at q; cases q
    | some ps =>
      rw [e] at q; cases q
      unfold Rep at h
      obtain ⟨a, vs, rfl, h1, h2⟩ := h
      exact .lst (.inl (.inl h1)) (Reps.dp h2 e)
  | .scr ns, v, p, h, q => by
    unfold D.py at q; cases q
    unfold Rep at h
    obtain ⟨a, rfl, h1⟩ := h
    refine .lst h1 ?_
    clear h1
    induction ns with
    | nil => exact .nil
    | cons n ns ih => exact .cons (.int _) ih
  | .dct _, v, p, h, q => by simp [D.py] at q
  | .obj _ _, v, p, h, q => by simp [D.py] at q
theorem Reps.dp : ∀ {ds : List D} {vs : List V} {ps : List PyData}, Reps M G ds vs → D.pys ds = some ps → DpAll M.K G vs ps
  | [], vs, ps, h, q => by unfold D.pys at q; cases q; unfold Reps at h; subst h; exact .nil
  | d :: ds, vs, ps, h, q => by
    unfold D.pys at q
    cases e1 : D.py d with
    | none => rw [e1] at q; cases q
    | some p =>
      cases e2 : D.pys ds with
      | none => rw [e1, e2] at q; cases q
      | some ps' =>
        rw [e1, e2] at q; cases q
        unfold Reps at h
        obtain ⟨v, r, rfl, h1, h2⟩ := h
        exact .cons (Rep.dp h1 e1) (Reps.dp h2 e2)
end
end
theorem Dp.mono {K : PySem.W.Frag} {H H' : Hp} (s : Same H H') : ∀ {v : V} {p : PyData}, Dp K H v p → Dp K H' v p := by
  intro v p h
  induction h using L2.Dp.rec (motive_2 := fun vs ps _ => DpAll K H' vs ps) with
  | non => exact .non
  | bl b => exact .bl b
  | int i => exact .int i
  | str x => exact .str x
  | lst h1 _ ih => exact .lst (s.seq h1) ih
  | tup h1 _ ih => exact .tup (Same.seqT s h1) ih
  | nil => exact .nil
  | cons _ _ ih1 ih2 => exact .cons ih1 ih2
end PX

set_option Elab.async false
set_option linter.all false
set_option maxRecDepth 100000
/-! Px4: the operators by values. -/
namespace PX
open PySem PySem.Spec PyProof.Rows L2

section
variable {M : Md} {E : XK} {G H : Hp} {Q : VK}
theorem newLst {ds : List D} {vs : List V} (h : EvV M G H Q (.fr (.lst ds))) (s : Same G H) (r : Reps M G ds vs) : ∀ p, H p = none → Q (.ref p) (upd H p (.lst vs)) := fun p hp =>
  h p G _ (Ext.one s _ hp) hp (s.free hp) ⟨vs, upd_same, r⟩
theorem newTup {ds : List D} {vs : List V} (h : EvV M G H Q (.fz (.tup ds))) (s : Same G H) (r : Reps M G ds vs) : ∀ p, H p = none → Q (.ref p) (upd H p (.tup vs)) := fun p hp => by
  have x := Ext.both s (.tup vs) hp
  refine h (.ref p) _ _ x ?_
  unfold Rep
  exact ⟨p, vs, rfl, .inl (.inl upd_same), Reps.mono x.g _ _ r⟩
end

theorem mulOk_of {i j : Int} (h : lgI i + lgI j < mulLine) : IntMulOk i j := by
  have b : ∀ x : Int, Builtin.Int.intBits x ≤ x.natAbs.log2 + 1 := fun x => by
    unfold Builtin.Int.intBits
    split <;> omega
  have h1 := b i
  have h2 := b j
  unfold lgI mulLine at h
  have e : bitsLine = 134217728 := by decide
  unfold IntMulOk
  intro z
  rw [Bool.and_eq_true] at z
  have z2 := z.2
  unfold Builtin.Int.intTooBig at z2
  have z3 := of_decide_eq_true z2
  rw [e] at z3
  omega
theorem RelV.bool_iff {x : V} {v : Value} (r : RelV x v) (b : Bool) : (v == Value.bool b) = decide (x = .bl b) := by
  cases x with
  | non => cases r; rfl
  | bl c => cases r; cases b <;> cases c <;> rfl
  | int _ => obtain ⟨t, rfl⟩ := r; rfl
  | str _ => obtain ⟨t, rfl⟩ := r; rfl
  | byt _ => obtain ⟨t, rfl⟩ := r; rfl
  | flt _ => obtain ⟨t, rfl⟩ := r; rfl
  | ref _ => cases r; rfl
  | ty _ => cases r; rfl
theorem is_bool_gen {M : Model} {A : Around} {E : Value → Shared → Prop} {s : Shared} {Q : Value → Shared → Prop} {x : V} {v : Value} {b : Bool} (r : RelV x v) (h : Q (.bool (v == .bool b)) s) : wpAny M A (compareOp .Is v (.bool b)) Q E s := by
  cases x with
  | non => cases r; exact wpAny_pure h
  | bl c => cases r; exact wpAny_pure h
  | int _ => obtain ⟨t, rfl⟩ := r; exact wpAny_pure h
  | str _ => obtain ⟨t, rfl⟩ := r; exact wpAny_pure h
  | byt _ => obtain ⟨t, rfl⟩ := r; exact wpAny_pure h
  | flt _ => obtain ⟨t, rfl⟩ := r; exact wpAny_pure h
  | ref _ => cases r; exact wpAny_pure h
  | ty _ => cases r; exact wpAny_pure h
theorem isnot_bool_gen {M : Model} {A : Around} {E : Value → Shared → Prop} {s : Shared} {Q : Value → Shared → Prop} {x : V} {v : Value} {b : Bool} (r : RelV x v) (h : Q (.bool (!(v == .bool b))) s) : wpAny M A (compareOp .IsNot v (.bool b)) Q E s := by
  cases x with
  | non => cases r; exact wpAny_pure h
  | bl c => cases r; exact wpAny_pure h
  | int _ => obtain ⟨t, rfl⟩ := r; exact wpAny_pure h
  | str _ => obtain ⟨t, rfl⟩ := r; exact wpAny_pure h
  | byt _ => obtain ⟨t, rfl⟩ := r; exact wpAny_pure h
  | flt _ => obtain ⟨t, rfl⟩ := r; exact wpAny_pure h
  | ref _ => cases r; exact wpAny_pure h
  | ty _ => cases r; exact wpAny_pure h
section
variable {X : Cx}
theorem op_isB : OpR X (compareOp .Is) (fun x y H Q => ∃ b, y = .bl b ∧ Q (.bl (decide (x = .bl b))) H) := by
  intro pins s σ H x y v u Q I rx ry h
  obtain ⟨b, rfl, q⟩ := h
  cases (show u = Value.bool b from ry)
  exact is_bool_gen rx ⟨.bl _, H, I, by rw [RelV.bool_iff rx]; rfl, q⟩
theorem op_isnB : OpR X (compareOp .IsNot) (fun x y H Q => ∃ b, y = .bl b ∧ Q (.bl (!decide (x = .bl b))) H) := by
  intro pins s σ H x y v u Q I rx ry h
  obtain ⟨b, rfl, q⟩ := h
  cases (show u = Value.bool b from ry)
  exact isnot_bool_gen rx ⟨.bl _, H, I, by rw [RelV.bool_iff rx]; rfl, q⟩
theorem op_fdivG : OpR X (binaryOp .FloorDiv) (rI (fun _ j => j ≠ 0 ∧ lgI j < divLine) fun i j => .int (i.fdiv j)) := opI fun i j _ _ _ _ _ hc q =>
  floordiv_int hc.1 q (.inl (PyProof.noPylong_of_log2 hc.2))
theorem op_mulS : OpR X (binaryOp .Mult) (fun x y H Q => ∃ (z : Str) (k : Int), x = .str z ∧ y = .int k ∧ 1 ≤ k ∧ k ≤ 4000 ∧ z.length ≤ 4000 ∧ Q (.str (Txt.mul z k)) H) := by
  intro pins s σ H x y v u Q I rx ry h
  obtain ⟨z, k, rfl, rfl, h1, h2, h3, q⟩ := h
  obtain ⟨t, rfl⟩ := rx
  obtain ⟨t', rfl⟩ := ry
  have ok : MulOk z k := by
    refine ⟨?_, fun _ _ z3 => ?_, fun _ _ => ?_⟩
    · have a1 : ¬ k < -(2 ^ 63 : Int) := by omega
      have a2 : ¬ k ≥ 2 ^ 63 := by omega
      simp only [decide_eq_false a1, decide_eq_false a2, Bool.or_false]
    · have a3 : (2 ^ 63 - 1 : Int) / 4000 ≤ (2 ^ 63 - 1) / k := Int.le_ediv_of_mul_le (by omega) (by
        have := Int.mul_le_mul_of_nonneg_left h2 (show (0 : Int) ≤ (2 ^ 63 - 1) / 4000 by decide)
        exact Int.le_trans this (by decide))
      have a4 : (4000 : Int) < (2 ^ 63 - 1) / 4000 := by decide
      omega
    · have a5 : z.length * k.toNat ≤ 4000 * 4000 := Nat.mul_le_mul h3 (by omega)
      unfold Builtin.Str.tooLong
      exact decide_eq_false (by rw [sizeLine_eq]; omega)
  exact SB.mul ok fun t2 k2 => ⟨.str (Txt.mul z k), H, I.tok _, ⟨_, rfl⟩, q⟩
theorem op_mulG : OpR X (binaryOp .Mult) (rI (fun i j => lgI i + lgI j < mulLine) fun i j => .int (i * j)) := opI fun _ _ _ _ _ _ _ hc q => mul_int q (mulOk_of hc)
end

section
variable {Xs : Cx → Prop} {M : Md} {T : Tb} {W : WX} {c : Cs} {E : XK} {G H : Hp} {Q : VK} {d e : D} {v u : V}
theorem Rep.int' {i : Int} (h : Rep M G (.int i) v) : v = .int i := by unfold Rep at h; exact h
theorem Rep.str' {i : Str} (h : Rep M G (.str i) v) : v = .str i := by unfold Rep at h; exact h
theorem Rep.bl' {i : Bool} (h : Rep M G (.bl i) v) : v = .bl i := by unfold Rep at h; exact h
theorem Rep.non' (h : Rep M G .non v) : v = .non := by unfold Rep at h; exact h
theorem Rep.lst' {ds : List D} (h : Rep M G (.lst ds) v) : ∃ a vs, v = .ref a ∧ G a = some (.lst vs) ∧ Reps M G ds vs := by unfold Rep at h; exact h
theorem Rep.tup' {ds : List D} (h : Rep M G (.tup ds) v) : ∃ a vs, v = .ref a ∧ SqT M.K G a vs ∧ Reps M G ds vs := by unfold Rep at h; exact h
theorem Rep.int {i : Int} : Rep M G (.int i) (.int i) := by unfold Rep; rfl
theorem Rep.str {i : Str} : Rep M G (.str i) (.str i) := by unfold Rep; rfl
theorem Rep.bl {i : Bool} : Rep M G (.bl i) (.bl i) := by unfold Rep; rfl
theorem Rep.non : Rep M G .non .non := by unfold Rep; rfl

theorem s_bin (kx : Kx Xs M T W c) {op : Operator} (s : Same G H) (hd : Rep M G d v) (he : Rep M G e u) (h : GOk M E G H (EvV M G H Q) (opBin op d e)) : OpW Xs (binaryOp op) v u H Q := by
  unfold opBin at h
  split at h
  · obtain rfl := hd.int'
    obtain rfl := he.int'
    exact ⟨_, fun X _ => op_add, _, _, rfl, rfl, EvV.val h s Rep.int⟩
  · rename_i i j
    obtain rfl := hd.str'
    obtain rfl := he.str'
    by_cases hl : i.length + j.length ≤ sizeLine
    · rw [if_pos hl] at h
      exact ⟨_, fun X _ => op_add_str, _, _, rfl, rfl, hl, EvV.val h s Rep.str⟩
    · rw [if_neg hl] at h; exact h.elim
  · rename_i xs ys
    obtain ⟨a, vs, rfl, h1, r1⟩ := hd.lst'
    obtain ⟨b, us, rfl, h2, r2⟩ := he.lst'
    by_cases hl : xs.length + ys.length ≤ sizeLine
    · rw [if_pos hl] at h
      exact ⟨_, fun X _ => op_cat, a, b, vs, us, rfl, rfl, s _ _ h1, s _ _ h2, by rw [r1.length, r2.length]; exact hl, newLst h s (r1.append r2)⟩
    · rw [if_neg hl] at h; exact h.elim
  · rename_i xs ys
    obtain ⟨a, vs, rfl, h1, r1⟩ := hd.tup'
    obtain ⟨b, us, rfl, h2, r2⟩ := he.tup'
    by_cases hl : xs.length + ys.length ≤ sizeLine
    · rw [if_pos hl] at h
      refine ⟨rCatA M.K, fun X hX => by rw [← kx.K X hX]; exact op_catA, a, b, vs, us, rfl, rfl, Same.seqT s h1, Same.seqT s h2, by rw [r1.length, r2.length]; exact hl, fun z => ?_, fun _ z => ?_, fun _ _ => newTup h s (r1.append r2)⟩
      · subst z
        cases xs with
        | nil => exact EvV.val h s (by unfold Rep; exact ⟨b, us, rfl, h2, r2⟩)
        | cons x r => have := r1.length; simp at this
      · subst z
        cases ys with
        | nil => exact EvV.val h s (by unfold Rep; exact ⟨a, vs, rfl, h1, by rw [List.append_nil]; exact r1⟩)
        | cons x r => have := r2.length; simp at this
    · rw [if_neg hl] at h; exact h.elim
  · obtain rfl := hd.int'
    obtain rfl := he.int'
    exact ⟨_, fun X _ => op_sub, _, _, rfl, rfl, EvV.val h s Rep.int⟩
  · rename_i i j
    obtain rfl := hd.int'
    obtain rfl := he.int'
    by_cases hl : lgI i + lgI j < mulLine
    · rw [if_pos hl] at h
      exact ⟨_, fun X _ => op_mulG, _, _, rfl, rfl, hl, EvV.val h s Rep.int⟩
    · rw [if_neg hl] at h; exact h.elim
  · rename_i z k
    obtain rfl := hd.str'
    obtain rfl := he.int'
    by_cases hl : 1 ≤ k ∧ k ≤ 4000 ∧ z.length ≤ 4000
    · rw [if_pos hl] at h
      exact ⟨_, fun X _ => op_mulS, z, k, rfl, rfl, hl.1, hl.2.1, hl.2.2, EvV.val h s Rep.str⟩
    · rw [if_neg hl] at h; exact h.elim
  · rename_i xs k
    obtain ⟨a, vs, rfl, h1, r1⟩ := hd.lst'
    obtain rfl := he.int'
    by_cases hl : k < 2 ^ 63 ∧ -(2 ^ 63) ≤ k ∧ xs.length * k.toNat ≤ sizeLine
    · rw [if_pos hl] at h
      exact ⟨_, fun X _ => op_rep, a, k, vs, rfl, rfl, s _ _ h1, hl.2.1, hl.1, by rw [r1.length]; exact hl.2.2, newLst h s (r1.flat _)⟩
    · rw [if_neg hl] at h; exact h.elim
  · rename_i i j
    obtain rfl := hd.int'
    obtain rfl := he.int'
    by_cases hl : j ≠ 0 ∧ lgI j < divLine
    · rw [if_pos hl] at h
      exact ⟨_, fun X _ => op_fdivG, _, _, rfl, rfl, hl, EvV.val h s Rep.int⟩
    · rw [if_neg hl] at h; exact h.elim
  · rename_i i j
    obtain rfl := hd.int'
    obtain rfl := he.int'
    by_cases hl : j ≠ 0
    · rw [if_pos hl] at h
      exact ⟨_, fun X _ => op_modN, _, _, rfl, rfl, hl, EvV.val h s Rep.int⟩
    · rw [if_neg hl] at h; exact h.elim
  · rename_i i j
    obtain rfl := hd.int'
    obtain rfl := he.int'
    by_cases hl : 0 ≤ j ∧ j ≤ 1000000 ∧ i.natAbs < 2 ^ 64
    · rw [if_pos hl] at h
      exact ⟨_, fun X _ => op_pow, _, _, rfl, rfl, hl, EvV.val h s Rep.int⟩
    · rw [if_neg hl] at h; exact h.elim
  · exact h.elim

theorem s_eqd (kx : Kx Xs M T W c) {neg : Bool} (s : Same G H) (hd : Rep M G d v) (he : Rep M G e u) {P : Bool → Prop}
    (h : GOk M E G H P (match d.py, e.py with
      | some p, some q => if SeqAt.shaped p = true ∧ SeqAt.shaped q = true then R.ok (if neg then !PyData.eqv p q else PyData.eqv p q) else .st
      | _, _ => .st)) (hp : ∀ b, P b → Q (.bl b) H) : OpW Xs (compareOp (if neg then .NotEq else .Eq)) v u H Q := by
  cases e1 : d.py with
  | none => rw [e1] at h; exact h.elim
  | some p =>
    cases e2 : e.py with
    | none => rw [e1, e2] at h; exact h.elim
    | some q =>
      rw [e1, e2] at h
      by_cases hs : SeqAt.shaped p = true ∧ SeqAt.shaped q = true
      · simp only [if_pos hs] at h
        have d1 := Dp.mono s (hd.dp e1)
        have d2 := Dp.mono s (he.dp e2)
        cases neg with
        | true => exact ⟨rNeD M.K, fun X hX => by rw [← kx.K X hX]; exact op_neD (by have := kx.room X hX; omega), p, q, d1, d2, hs.1, hs.2, hp _ h⟩
        | false => exact ⟨rEqD M.K, fun X hX => by rw [← kx.K X hX]; exact op_eqD (by have := kx.room X hX; omega), p, q, d1, d2, hs.1, hs.2, hp _ h⟩
      · simp only [if_neg hs] at h; exact h.elim
theorem s_eq (kx : Kx Xs M T W c) {neg : Bool} (s : Same G H) (hd : Rep M G d v) (he : Rep M G e u) {P : Bool → Prop} (h : GOk M E G H P (opEq neg d e)) (hp : ∀ b, P b → Q (.bl b) H) :
    OpW Xs (compareOp (if neg then .NotEq else .Eq)) v u H Q := by
  unfold opEq at h
  split at h
  · obtain rfl := hd.int'
    obtain rfl := he.int'
    rename_i i j
    have q := hp _ h
    rw [show decide (i = j) = decide (V.int i = V.int j) by simp] at q
    cases neg with
    | true => exact ⟨_, fun X _ => op_ne, rfl, q⟩
    | false => exact ⟨_, fun X _ => op_eq, rfl, q⟩
  · obtain rfl := hd.str'
    obtain rfl := he.str'
    rename_i i j
    have q := hp _ h
    rw [show decide (i = j) = decide (V.str i = V.str j) by simp] at q
    cases neg with
    | true => exact ⟨_, fun X _ => op_ne, rfl, q⟩
    | false => exact ⟨_, fun X _ => op_eq, rfl, q⟩
  · exact s_eqd kx s hd he h hp
theorem s_is (kx : Kx Xs M T W c) {neg : Bool} (s : Same G H) (hd : Rep M G d v) (he : Rep M G e u) {P : Bool → Prop} (h : GOk M E G H P (opIs d e)) (hp : ∀ b, P b → Q (.bl (if neg then !b else b)) H) :
    OpW Xs (compareOp (if neg then .IsNot else .Is)) v u H Q := by
  unfold opIs at h
  split at h
  · obtain rfl := he.non'
    have ev : decide (v = V.non) = d.isNon := by
      cases d with
      | non => obtain rfl := hd.non'; rfl
      | bl b => obtain rfl := hd.bl'; rfl
      | int b => obtain rfl := hd.int'; rfl
      | str b => obtain rfl := hd.str'; rfl
      | ty n => unfold Rep at hd; subst hd; rfl
      | tup ds => obtain ⟨a, vs, rfl, _⟩ := hd.tup'; rfl
      | lst ds => obtain ⟨a, vs, rfl, _⟩ := hd.lst'; rfl
      | scr ds => unfold Rep at hd; obtain ⟨a, rfl, _⟩ := hd; rfl
      | dct ds => unfold Rep at hd; obtain ⟨a, _, rfl, _⟩ := hd; rfl
      | obj cc ds => unfold Rep at hd; obtain ⟨a, _, _, _, rfl, _⟩ := hd; rfl
    have q := hp _ h
    rw [← ev] at q
    cases neg with
    | true => exact ⟨_, fun X _ => op_notN, rfl, q⟩
    | false => exact ⟨_, fun X _ => op_isN, rfl, q⟩
  · rename_i b
    obtain rfl := he.bl'
    have ev : decide (v = V.bl b) = d.isBl b := by
      cases d with
      | non => obtain rfl := hd.non'; rfl
      | bl b' => obtain rfl := hd.bl'; cases b <;> cases b' <;> rfl
      | int b => obtain rfl := hd.int'; rfl
      | str b => obtain rfl := hd.str'; rfl
      | ty n => unfold Rep at hd; subst hd; rfl
      | tup ds => obtain ⟨a, vs, rfl, _⟩ := hd.tup'; rfl
      | lst ds => obtain ⟨a, vs, rfl, _⟩ := hd.lst'; rfl
      | scr ds => unfold Rep at hd; obtain ⟨a, rfl, _⟩ := hd; rfl
      | dct ds => unfold Rep at hd; obtain ⟨a, _, rfl, _⟩ := hd; rfl
      | obj cc ds => unfold Rep at hd; obtain ⟨a, _, _, _, rfl, _⟩ := hd; rfl
    have q := hp _ h
    rw [← ev] at q
    cases neg with
    | true => exact ⟨_, fun X _ => op_isnB, _, rfl, q⟩
    | false => exact ⟨_, fun X _ => op_isB, _, rfl, q⟩
  · exact h.elim
theorem s_in (kx : Kx Xs M T W c) {neg : Bool} (s : Same G H) (hd : Rep M G d v) (he : Rep M G e u) {P : Bool → Prop} (h : GOk M E G H P (opIn d e)) (hp : ∀ b, P b → Q (.bl (if neg then !b else b)) H) :
    OpW Xs (compareOp (if neg then .NotIn else .In)) v u H Q := by
  unfold opIn at h
  split at h
  · rename_i x z
    obtain rfl := hd.str'
    obtain rfl := he.str'
    by_cases hx : x.cps.size = 1
    · rw [if_pos hx] at h
      have q := hp _ h
      have ex : x = ⟨#[x.cps.getD 0 0]⟩ := by
        obtain ⟨⟨l⟩⟩ := x
        match l, hx with
        | [a], _ => rfl
      cases neg with
      | true => exact ⟨_, fun X _ => op_notIn_sign, _, _, congrArg V.str ex, rfl, q⟩
      | false => exact ⟨_, fun X _ => op_in_sign, _, _, congrArg V.str ex, rfl, q⟩
    · rw [if_neg hx] at h; exact h.elim
  · rename List D => es
    obtain ⟨a, vs, rfl, h1, h2⟩ := he.lst'
    cases e1 : d.py with
    | none => rw [e1] at h; exact h.elim
    | some p =>
      cases e2 : D.pys es with
      | none => rw [e1, e2] at h; exact h.elim
      | some qs =>
        rw [e1, e2] at h
        by_cases hs : SeqAt.shaped p = true ∧ SeqAt.shaped (.list qs) = true
        · simp only [if_pos hs] at h
          have q := hp _ h
          have d1 := Dp.mono s (hd.dp e1)
          have d2 : Dp M.K H (.ref a) (.list qs) := Dp.mono s (.lst (.inl (.inl h1)) (Reps.dp h2 e2))
          cases neg with
          | true => exact ⟨rNotInD M.K, fun X hX => by rw [← kx.K X hX]; exact op_notInD (by have := kx.room X hX; omega), p, qs, d1, d2, hs.1, hs.2, q⟩
          | false => exact ⟨rInD M.K, fun X hX => by rw [← kx.K X hX]; exact op_inD (by have := kx.room X hX; omega), p, qs, d1, d2, hs.1, hs.2, q⟩
        · simp only [if_neg hs] at h; exact h.elim
  · exact h.elim
theorem s_cmp (kx : Kx Xs M T W c) {op : CmpOp} (s : Same G H) (hd : Rep M G d v) (he : Rep M G e u) {P : Bool → Prop} (h : GOk M E G H P (opCmp op d e)) (hp : ∀ b, P b → Q (.bl b) H) : OpW Xs (compareOp op) v u H Q := by
  cases op with
  | Eq => exact s_eq (neg := false) kx s hd he h hp
  | NotEq => exact s_eq (neg := true) kx s hd he h hp
  | Lt =>
    have h : GOk M E G H P (opI2 (fun i j => decide (i < j)) d e) := h
    unfold opI2 at h
    split at h
    · obtain rfl := hd.int'
      obtain rfl := he.int'
      exact ⟨_, fun X _ => op_lt, _, _, rfl, rfl, hp _ h⟩
    · exact h.elim
  | LtE =>
    have h : GOk M E G H P (opI2 (fun i j => decide (i ≤ j)) d e) := h
    unfold opI2 at h
    split at h
    · obtain rfl := hd.int'
      obtain rfl := he.int'
      exact ⟨_, fun X _ => op_le, _, _, rfl, rfl, hp _ h⟩
    · exact h.elim
  | Gt =>
    have h : GOk M E G H P (opI2 (fun i j => decide (j < i)) d e) := h
    unfold opI2 at h
    split at h
    · obtain rfl := hd.int'
      obtain rfl := he.int'
      exact ⟨_, fun X _ => op_gt, _, _, rfl, rfl, hp _ h⟩
    · exact h.elim
  | GtE =>
    have h : GOk M E G H P (opI2 (fun i j => decide (j ≤ i)) d e) := h
    unfold opI2 at h
    split at h
    · obtain rfl := hd.int'
      obtain rfl := he.int'
      exact ⟨_, fun X _ => op_ge, _, _, rfl, rfl, hp _ h⟩
    · exact h.elim
  | Is => exact s_is (neg := false) kx s hd he h hp
  | IsNot => exact s_is (neg := true) kx s hd he (GOk.map h) (fun b q => hp _ q)
  | In => exact s_in (neg := false) kx s hd he h hp
  | NotIn => exact s_in (neg := true) kx s hd he (GOk.map h) (fun b q => hp _ q)
theorem s_ix (kx : Kx Xs M T W c) (s : Same G H) (hd : Rep M G d v) (he : Rep M G e u) (h : GOk M E G H (EvV M G H Q) (opIx d e)) : IxW Xs v u H Q := by
  unfold opIx at h
  split at h
  · obtain ⟨a, vs, rfl, h1, r1⟩ := hd.lst'
    obtain rfl := he.int'
    split at h
    · rename_i x ex
      obtain ⟨w, e1, e2⟩ := r1.atI ex
      exact ⟨rIxL M.K, fun X hX => by rw [← kx.K X hX]; exact ix_list, a, vs, _, w, rfl, rfl, .inl (.inl (s _ _ h1)), e1, EvV.val h s e2⟩
    · exact h.elim
  · obtain ⟨a, vs, rfl, h1, r1⟩ := hd.tup'
    obtain rfl := he.int'
    split at h
    · rename_i x ex
      obtain ⟨w, e1, e2⟩ := r1.atI ex
      exact ⟨rIxT M.K, fun X hX => by rw [← kx.K X hX]; exact ix_tup, a, vs, _, w, rfl, rfl, Same.seqT s h1, e1, EvV.val h s e2⟩
    · exact h.elim
  · rename_i xs i
    unfold Rep at hd
    obtain ⟨a, rfl, h1⟩ := hd
    obtain rfl := he.int'
    split at h
    · rename_i x ex
      have e1 : atI (xs.map V.int) i = some (V.int x) := by
        unfold atI at ex ⊢
        rw [List.length_map]
        cases e : ixN xs.length i with
        | none => rw [e] at ex; simp at ex
        | some j => rw [e] at ex; simp at ex; simp [ex]
      exact ⟨rIxL M.K, fun X hX => by rw [← kx.K X hX]; exact ix_list, a, _, _, _, rfl, rfl, s.seq h1, e1, EvV.val h s Rep.int⟩
    · exact h.elim
  · rename_i z i
    obtain rfl := hd.str'
    obtain rfl := he.int'
    by_cases hl : z.length ≤ sizeLine
    · rw [if_pos hl] at h
      split at h
      · rename_i x ex
        exact ⟨rIxS, fun X hX => ix_str, z, _, x, rfl, rfl, hl, ex, EvV.val h s Rep.str⟩
      · exact h.elim
    · rw [if_neg hl] at h; exact h.elim
  · exact h.elim
theorem s_sl (kx : Kx Xs M T W c) {lo hi : Option Int} (s : Same G H) (hd : Rep M G d v) (h : GOk M E G H (EvV M G H Q) (opSl d lo hi)) : SlW Xs v lo hi H Q := by
  unfold opSl at h
  split at h
  · obtain ⟨a, vs, rfl, h1, r1⟩ := hd.lst'
    exact ⟨rSlL M.K, fun X hX => by rw [← kx.K X hX]; exact sl_list, a, vs, rfl, .inl (.inl (s _ _ h1)), newLst h s (r1.cut lo hi)⟩
  · obtain ⟨a, vs, rfl, h1, r1⟩ := hd.tup'
    refine ⟨rSlA M.K, fun X hX => by rw [← kx.K X hX]; exact sl_tupA, a, vs, rfl, Same.seqT s h1, fun z => ?_, fun _ => newTup h s (r1.cut lo hi)⟩

    refine EvV.val h s ?_
    unfold Rep
    refine ⟨a, vs, rfl, h1, ?_⟩
    have ev : cutV vs lo hi = vs := by
      unfold cutV
      rw [z.1, z.2]
      simp
    have q := r1.cut lo hi
    rw [ev] at q
    exact q
  · rename_i z
    obtain rfl := hd.str'
    by_cases hl : z.length ≤ sizeLine
    · rw [if_pos hl] at h
      exact ⟨rSlS, fun X hX => sl_str, z, rfl, hl, EvV.val h s Rep.str⟩
    · rw [if_neg hl] at h; exact h.elim
  · exact h.elim
end
end PX

set_option Elab.async false
set_option linter.all false
set_option maxRecDepth 100000
/-! Px5: built-in functions and methods by values; walks. -/
namespace PX
open PySem PySem.Spec PyProof.Rows L2

section
variable {Xs : Cx → Prop} {M : Md} {T : Tb} {W : WX} {c : Cs} {E : XK} {G H : Hp} {Q : VK} {d e : D} {v u : V} {vs : List V}
theorem Reps.one' (h : Reps M G [d] vs) : ∃ v, vs = [v] ∧ Rep M G d v := by
  unfold Reps at h
  obtain ⟨v, r, rfl, h1, h2⟩ := h
  unfold Reps at h2
  subst h2
  exact ⟨v, rfl, h1⟩
theorem Reps.two' (h : Reps M G [d, e] vs) : ∃ v u, vs = [v, u] ∧ Rep M G d v ∧ Rep M G e u := by
  unfold Reps at h
  obtain ⟨v, r, rfl, h1, h2⟩ := h
  obtain ⟨u, rfl, h3⟩ := Reps.one' h2
  exact ⟨v, u, rfl, h1, h3⟩
theorem tyX_of (s : Same G H) (hd : Rep M G d v) {t : String} (h : tyName d = some t) : TyX M.K H v (.type t) := by
  cases d with
  | non => cases h; obtain rfl := hd.non'; exact .base .non
  | bl b => cases h; obtain rfl := hd.bl'; exact .base (.bl _)
  | int b => cases h; obtain rfl := hd.int'; exact .base (.int _)
  | str b => cases h; obtain rfl := hd.str'; exact .base (.str _)
  | ty n => cases h
  | tup ds =>
    cases h
    obtain ⟨a, vs, rfl, h1, _⟩ := hd.tup'
    rcases h1 with (h1 | ⟨o, h1⟩) | ⟨o, its, n, h1, h2, _⟩
    · exact .base (.tup (s _ _ h1))
    · exact .fTuple (s _ _ h1)
    · exact .kTuple h1 h2
  | lst ds =>
    cases h
    obtain ⟨a, vs, rfl, h1, _⟩ := hd.lst'
    exact .base (.lst (s _ _ h1))
  | scr ns =>
    cases h
    unfold Rep at hd
    obtain ⟨a, rfl, h1⟩ := hd
    rcases h1 with (h1 | ⟨o, h1⟩) | ⟨o, its, n, h1, h2, _⟩
    · exact .base (.lst (s _ _ h1))
    · exact .base (.frz (s _ _ h1))
    · exact .kList h1 h2
  | dct ds =>
    cases h
    unfold Rep at hd
    obtain ⟨a, _, rfl, h1, _⟩ := hd
    exact .base (.dK (s _ _ h1))
  | obj _ _ => cases h
theorem maxL_spec : ∀ {ns : List Int} {m k : Int}, maxL ns = some m → k ∈ ns → (∀ y, y ∈ ns → y ≤ k) → k = m := by
  intro ns m k h hk hm
  cases ns with
  | nil => cases h
  | cons x r =>
    unfold maxL at h
    cases h
    have key : ∀ (l : List Int) (a : Int), a ≤ l.foldl (fun a b => if a < b then b else a) a ∧ (∀ y ∈ l, y ≤ l.foldl (fun a b => if a < b then b else a) a) ∧ (l.foldl (fun a b => if a < b then b else a) a = a ∨ l.foldl (fun a b => if a < b then b else a) a ∈ l) := by
      intro l
      induction l with
      | nil => intro a; simp
      | cons z l ih =>
        intro a
        simp only [List.foldl_cons]
        obtain ⟨i1, i2, i3⟩ := ih (if a < z then z else a)
        have ha : a ≤ (if a < z then z else a) := by split <;> omega
        have hz' : z ≤ (if a < z then z else a) := by split <;> omega
        refine ⟨Int.le_trans ha i1, ?_, ?_⟩
        · intro y hy
          rcases List.mem_cons.mp hy with rfl | hy
          · exact Int.le_trans hz' i1
          · exact i2 y hy
        · rcases i3 with i3 | i3
          · by_cases hz : a < z
            · right; rw [if_pos hz] at i3 ⊢; rw [i3]; exact List.mem_cons_self
            · left; rw [if_neg hz] at i3 ⊢; exact i3
          · right; exact List.mem_cons_of_mem _ i3
    obtain ⟨k1, k2, k3⟩ := key r x
    have h1 : k ≤ r.foldl (fun a b => if a < b then b else a) x := by
      rcases List.mem_cons.mp hk with rfl | hk
      · exact k1
      · exact k2 k hk
    have h2 : r.foldl (fun a b => if a < b then b else a) x ≤ k := by
      rcases k3 with k3 | k3
      · rw [k3]; exact hm _ List.mem_cons_self
      · exact hm _ (List.mem_cons_of_mem _ k3)
    omega
theorem minL_spec : ∀ {ns : List Int} {m k : Int}, minL ns = some m → k ∈ ns → (∀ y, y ∈ ns → k ≤ y) → k = m := by
  intro ns m k h hk hm
  cases ns with
  | nil => cases h
  | cons x r =>
    unfold minL at h
    cases h
    have key : ∀ (l : List Int) (a : Int), l.foldl (fun a b => if b < a then b else a) a ≤ a ∧ (∀ y ∈ l, l.foldl (fun a b => if b < a then b else a) a ≤ y) ∧ (l.foldl (fun a b => if b < a then b else a) a = a ∨ l.foldl (fun a b => if b < a then b else a) a ∈ l) := by
      intro l
      induction l with
      | nil => intro a; simp
      | cons z l ih =>
        intro a
        simp only [List.foldl_cons]
        obtain ⟨i1, i2, i3⟩ := ih (if z < a then z else a)
        have ha : (if z < a then z else a) ≤ a := by split <;> omega
        have hz' : (if z < a then z else a) ≤ z := by split <;> omega
        refine ⟨Int.le_trans i1 ha, ?_, ?_⟩
        · intro y hy
          rcases List.mem_cons.mp hy with rfl | hy
          · exact Int.le_trans i1 hz'
          · exact i2 y hy
        · rcases i3 with i3 | i3
          · by_cases hz : z < a
            · right; rw [if_pos hz] at i3 ⊢; rw [i3]; exact List.mem_cons_self
            · left; rw [if_neg hz] at i3 ⊢; exact i3
          · right; exact List.mem_cons_of_mem _ i3
    obtain ⟨k1, k2, k3⟩ := key r x
    have h1 : r.foldl (fun a b => if b < a then b else a) x ≤ k := by
      rcases List.mem_cons.mp hk with rfl | hk
      · exact k1
      · exact k2 k hk
    have h2 : k ≤ r.foldl (fun a b => if b < a then b else a) x := by
      rcases k3 with k3 | k3
      · rw [k3]; exact hm _ List.mem_cons_self
      · exact hm _ (List.mem_cons_of_mem _ k3)
    omega
theorem cr_lcm {X : Cx} : CallR X (.builtin "math.lcm") (fun vs H Q => ∃ a b : Int, vs = [.int a, .int b] ∧ (a.natAbs < 2 ^ 64 ∧ b.natAbs < 2 ^ 64) ∧ Q (.int ((Nat.lcm a.natAbs b.natAbs : Nat) : Int)) H) := by
  intro pins s σ H vs us Q I r h
  obtain ⟨a, b, rfl, ⟨ha, hb⟩, q⟩ := h
  obtain ⟨t, u, rfl⟩ := Vals.int2 r
  have e : Nat.lcm 1 a.natAbs = a.natAbs := Nat.lcm_one_left _
  refine PySem.W.mg_lcm ha hb ?_ ?_
  · rw [e, Int.natAbs_natCast]
    have h1 : Nat.lcm a.natAbs b.natAbs ≤ a.natAbs * b.natAbs := Nat.div_le_self _ _
    have h2 : a.natAbs * b.natAbs < 2 ^ 64 * 2 ^ 64 := Nat.mul_lt_mul'' ha hb
    have h3 : Nat.lcm a.natAbs b.natAbs < 2 ^ 128 := Nat.lt_of_le_of_lt h1 (by simpa using h2)
    have := PySem.Flt.log2_lt_of (by decide : 0 < 128) h3
    have e2 : bitsLine = 134217728 := by decide
    omega
  · rw [e]
    exact ⟨.int _, H, I.tok _, ⟨_, rfl⟩, q⟩

def biVal : Bi → Value
  | .len => .builtin "len" | .abs => .builtin "abs" | .int => .type "int" | .str => .type "str" | .gcd => .builtin "math.gcd" | .lcm => .builtin "math.lcm" | .list => .type "list" | .tuple => .type "tuple" | .isI => .builtin "isinstance"
  | .max => .builtin "max" | .min => .builtin "min" | .sum => .builtin "sum" | .sorted => .builtin "sorted" | .all => .builtin "all" | .any => .builtin "any"

theorem s_bi (kx : Kx Xs M T W c) {f : Bi} (hcool : f.cool = true → c.hot = false) (s : Same G H) {ds : List D} (hr : Reps M G ds vs) (h : GOk M E G H (EvV M G H Q) (evBi f ds)) : CallW Xs (biVal f) vs H Q := by
  unfold evBi at h
  split at h
  · obtain ⟨v, rfl, r⟩ := hr.one'
    obtain ⟨a, vs, rfl, h1, r1⟩ := r.lst'
    exact ⟨fun xs H Q => ∃ p ys, xs = [V.ref p] ∧ (SqL M.K H p ys ∨ SqT M.K H p ys) ∧ Q (.int ys.length) H, fun X hX => by rw [← kx.K X hX]; exact call_len_seq, a, vs, rfl, .inl (.inl (.inl (s _ _ h1))), EvV.val h s (by rw [← r1.length]; exact Rep.int)⟩
  · obtain ⟨v, rfl, r⟩ := hr.one'
    obtain ⟨a, vs, rfl, h1, r1⟩ := r.tup'
    exact ⟨fun xs H Q => ∃ p ys, xs = [V.ref p] ∧ (SqL M.K H p ys ∨ SqT M.K H p ys) ∧ Q (.int ys.length) H, fun X hX => by rw [← kx.K X hX]; exact call_len_seq, a, vs, rfl, .inr (Same.seqT s h1), EvV.val h s (by rw [← r1.length]; exact Rep.int)⟩
  · rename_i ns
    obtain ⟨v, rfl, r⟩ := hr.one'
    unfold Rep at r
    obtain ⟨a, rfl, h1⟩ := r
    exact ⟨fun xs H Q => ∃ p ys, xs = [V.ref p] ∧ (SqL M.K H p ys ∨ SqT M.K H p ys) ∧ Q (.int ys.length) H, fun X hX => by rw [← kx.K X hX]; exact call_len_seq, a, _, rfl, .inl (s.seq h1), EvV.val h s (by rw [List.length_map]; exact Rep.int)⟩
  · rename_i z
    obtain ⟨v, rfl, r⟩ := hr.one'
    obtain rfl := r.str'
    by_cases hl : z.length ≤ sizeLine
    · rw [if_pos hl] at h
      exact ⟨_, fun X hX => call_len_str, z, rfl, hl, EvV.val h s Rep.int⟩
    · rw [if_neg hl] at h; exact h.elim
  · obtain ⟨v, rfl, r⟩ := hr.one'
    obtain rfl := r.int'
    exact ⟨_, fun X hX => call_abs, _, rfl, EvV.val h s Rep.int⟩
  · obtain ⟨v, rfl, r⟩ := hr.one'
    obtain rfl := r.int'
    exact ⟨_, fun X hX => call_int1, .inl ⟨_, rfl, EvV.val h s Rep.int⟩⟩
  · obtain ⟨v, rfl, r⟩ := hr.one'
    obtain rfl := r.bl'
    exact ⟨_, fun X hX => call_int1, .inr ⟨_, rfl, EvV.val h s Rep.int⟩⟩
  · rename_i z
    obtain ⟨v, rfl, r⟩ := hr.one'
    obtain rfl := r.str'
    split at h
    · rename_i n en
      by_cases hl : z.length ≤ 640
      · rw [if_pos hl] at h
        exact ⟨_, fun X hX => call_int_str, z, n, rfl, en, hl, EvV.val h s Rep.int⟩
      · rw [if_neg hl] at h; exact h.elim
    · exact h.elim
  · rename_i i
    obtain ⟨v, rfl, r⟩ := hr.one'
    obtain rfl := r.int'
    by_cases hl : lgI i < 1920
    · rw [if_pos hl] at h
      exact ⟨_, fun X hX => call_str_int, i, rfl, hl, EvV.val h s Rep.str⟩
    · rw [if_neg hl] at h; exact h.elim
  · obtain ⟨v, u, rfl, r1, r2⟩ := hr.two'
    obtain rfl := r1.int'
    obtain rfl := r2.int'
    exact ⟨_, fun X hX => cr_gcd, _, _, rfl, EvV.val h s Rep.int⟩
  · rename_i a b
    obtain ⟨v, u, rfl, r1, r2⟩ := hr.two'
    obtain rfl := r1.int'
    obtain rfl := r2.int'
    by_cases hl : a.natAbs < 2 ^ 64 ∧ b.natAbs < 2 ^ 64
    · rw [if_pos hl] at h
      exact ⟨_, fun X hX => cr_lcm, _, _, rfl, hl, EvV.val h s Rep.int⟩
    · rw [if_neg hl] at h; exact h.elim
  · obtain ⟨v, rfl, r⟩ := hr.one'
    obtain ⟨a, vs, rfl, h1, r1⟩ := r.lst'
    exact ⟨fun xs H Q => ∃ p ys, xs = [V.ref p] ∧ (SqL M.K H p ys ∨ SqT M.K H p ys) ∧ ∀ l, H l = none → Q (.ref l) (upd H l (.lst ys)), fun X hX => by rw [← kx.K X hX]; exact call_list_of, a, vs, rfl, .inl (.inl (.inl (s _ _ h1))), newLst h s r1⟩
  · obtain ⟨v, rfl, r⟩ := hr.one'
    obtain ⟨a, vs, rfl, h1, r1⟩ := r.tup'
    exact ⟨fun xs H Q => ∃ p ys, xs = [V.ref p] ∧ (SqL M.K H p ys ∨ SqT M.K H p ys) ∧ ∀ l, H l = none → Q (.ref l) (upd H l (.lst ys)), fun X hX => by rw [← kx.K X hX]; exact call_list_of, a, vs, rfl, .inr (Same.seqT s h1), newLst h s r1⟩
  · rename_i ns
    obtain ⟨v, rfl, r⟩ := hr.one'
    unfold Rep at r
    obtain ⟨a, rfl, h1⟩ := r
    exact ⟨fun xs H Q => ∃ p ys, xs = [V.ref p] ∧ (SqL M.K H p ys ∨ SqT M.K H p ys) ∧ ∀ l, H l = none → Q (.ref l) (upd H l (.lst ys)), fun X hX => by rw [← kx.K X hX]; exact call_list_of, a, _, rfl, .inl (s.seq h1), newLst h s (Reps.ofInts ns)⟩
  · obtain ⟨v, rfl, r⟩ := hr.one'
    obtain ⟨a, vs, rfl, h1, r1⟩ := r.lst'
    exact ⟨fun xs H Q => ∃ p ys, xs = [V.ref p] ∧ ((SqL M.K H p ys ∧ ∀ l, H l = none → Q (.ref l) (upd H l (.tup ys))) ∨ (SqT M.K H p ys ∧ Q (.ref p) H)), fun X hX => by rw [← kx.K X hX]; exact call_tuple_of, a, vs, rfl, .inl ⟨.inl (.inl (s _ _ h1)), newTup h s r1⟩⟩
  · rename_i ds
    obtain ⟨v, rfl, r⟩ := hr.one'
    obtain ⟨a, vs, rfl, h1, r1⟩ := r.tup'
    exact ⟨fun xs H Q => ∃ p ys, xs = [V.ref p] ∧ ((SqL M.K H p ys ∧ ∀ l, H l = none → Q (.ref l) (upd H l (.tup ys))) ∨ (SqT M.K H p ys ∧ Q (.ref p) H)), fun X hX => by rw [← kx.K X hX]; exact call_tuple_of, a, vs, rfl, .inr ⟨Same.seqT s h1, EvV.val h s (by unfold Rep; exact ⟨a, vs, rfl, h1, r1⟩)⟩⟩
  · obtain ⟨v, u, rfl, r1, r2⟩ := hr.two'
    unfold Rep at r2
    subst r2
    split at h
    · rename_i t et
      split at h
      · rename_i b eb
        exact ⟨rIsi M.K, fun X hX => by rw [← kx.K X hX]; exact call_isi, _, _, _, _, _, rfl, .ty _, tyX_of s r1 et, kit_ty eb, EvV.val h s Rep.bl⟩
      · exact h.elim
    · exact h.elim
  · obtain ⟨v, u, rfl, r1, r2⟩ := hr.two'
    obtain rfl := r1.int'
    obtain rfl := r2.int'
    exact ⟨_, fun X hX => call_max2 (kx.calm (hcool rfl) X hX), _, _, rfl, EvV.val h s Rep.int⟩
  · obtain ⟨v, u, rfl, r1, r2⟩ := hr.two'
    obtain rfl := r1.int'
    obtain rfl := r2.int'
    exact ⟨_, fun X hX => call_min2 (kx.calm (hcool rfl) X hX), _, _, rfl, EvV.val h s Rep.int⟩
  · obtain ⟨v, rfl, r⟩ := hr.one'
    obtain ⟨a, vs, rfl, h1, r1⟩ := r.lst'
    split at h
    · rename_i ns en
      split at h
      · rename_i m em
        have ev := r1.ints en
        subst ev
        refine ⟨rMax M.K, fun X hX => by rw [← kx.K X hX]; exact cr_max (kx.calm (hcool rfl) X hX), a, ns, rfl, .inl (.inl (s _ _ h1)), ?_, fun k hk hm => ?_⟩
        · cases ns with
          | nil => cases em
          | cons _ _ => simp
        · rw [maxL_spec em hk hm]; exact EvV.val h s Rep.int
      · exact h.elim
    · exact h.elim
  · obtain ⟨v, rfl, r⟩ := hr.one'
    obtain ⟨a, vs, rfl, h1, r1⟩ := r.lst'
    split at h
    · rename_i ns en
      split at h
      · rename_i m em
        have ev := r1.ints en
        subst ev
        refine ⟨rMin M.K, fun X hX => by rw [← kx.K X hX]; exact cr_min (kx.calm (hcool rfl) X hX), a, ns, rfl, .inl (.inl (s _ _ h1)), ?_, fun k hk hm => ?_⟩
        · cases ns with
          | nil => cases em
          | cons _ _ => simp
        · rw [minL_spec em hk hm]; exact EvV.val h s Rep.int
      · exact h.elim
    · exact h.elim
  · obtain ⟨v, rfl, r⟩ := hr.one'
    obtain ⟨a, vs, rfl, h1, r1⟩ := r.lst'
    split at h
    · rename_i ns en
      have ev := r1.ints en
      subst ev
      exact ⟨rSum M.K, fun X hX => by rw [← kx.K X hX]; exact cr_sum (kx.calm (hcool rfl) X hX), a, ns, rfl, .inl (.inl (s _ _ h1)), EvV.val h s Rep.int⟩
    · exact h.elim
  · obtain ⟨v, rfl, r⟩ := hr.one'
    obtain ⟨a, vs, rfl, h1, r1⟩ := r.lst'
    split at h
    · rename_i ns en
      have ev := r1.ints en
      subst ev
      refine ⟨rSortedI M.K, fun X hX => by rw [← kx.K X hX]; exact cr_sortedI, a, ns, rfl, .inl (.inl (s _ _ h1)), fun ns' p hp ho hn => ?_⟩
      have e1 : ns' = ns.mergeSort (fun a b => decide (a ≤ b)) := by
        refine PySem.W.ksm_same (hp.trans (List.mergeSort_perm _ _).symm) ho ?_
        have := List.pairwise_mergeSort (le := fun a b : Int => decide (a ≤ b)) (by intro a b c; simp; omega) (by intro a b; simp; omega) ns
        exact this.imp (by intro a b; simp)
      subst e1
      exact newLst h s (Reps.ofInts _) p hn
    · exact h.elim
  · obtain ⟨v, rfl, r⟩ := hr.one'
    obtain ⟨a, vs, rfl, h1, r1⟩ := r.lst'
    split at h
    · rename_i ns en
      have ev := r1.bools en
      subst ev
      exact ⟨rAll M.K, fun X hX => by rw [← kx.K X hX]; exact cr_all (kx.calm (hcool rfl) X hX), a, ns, rfl, .inl (.inl (s _ _ h1)), EvV.val h s Rep.bl⟩
    · exact h.elim
  · obtain ⟨v, rfl, r⟩ := hr.one'
    obtain ⟨a, vs, rfl, h1, r1⟩ := r.lst'
    split at h
    · rename_i ns en
      have ev := r1.bools en
      subst ev
      exact ⟨rAny M.K, fun X hX => by rw [← kx.K X hX]; exact cr_any (kx.calm (hcool rfl) X hX), a, ns, rfl, .inl (.inl (s _ _ h1)), EvV.val h s Rep.bl⟩
    · exact h.elim
  · exact h.elim

def meId : Me → String
  | .part => "str.partition" | .split => "str.split" | .join => "str.join" | .index => "str.index"
theorem s_me (kx : Kx Xs M T W c) {m : Me} {a : Str} (s : Same G H) (he : Rep M G e u) (h : GOk M E G H (EvV M G H Q) (evMe m a [e])) : MtW Xs (meId m) (.str a) [u] H Q := by
  unfold evMe at h
  split at h
  · rename_i b eb
    cases eb
    obtain rfl := he.str'
    by_cases hl : b.length ≠ 0 ∧ a.length ≤ sizeLine
    · rw [if_pos hl] at h
      refine ⟨_, fun X hX => mt_partition, a, b, rfl, rfl, by simpa using hl.1, hl.2, newTup h s ?_⟩
      unfold Reps; refine ⟨_, _, rfl, Rep.str, ?_⟩
      unfold Reps; refine ⟨_, _, rfl, Rep.str, ?_⟩
      unfold Reps; refine ⟨_, _, rfl, Rep.str, ?_⟩
      unfold Reps; rfl
    · rw [if_neg hl] at h; exact h.elim
  · rename_i b eb
    cases eb
    obtain rfl := he.str'
    by_cases hl : b.length ≠ 0 ∧ a.length + 2 ≤ sizeLine
    · rw [if_pos hl] at h
      exact ⟨_, fun X hX => mt_split, a, b, rfl, rfl, by simpa using hl.1, hl.2, newLst h s (Reps.ofStrs _)⟩
    · rw [if_neg hl] at h; exact h.elim
  · rename_i xs eb
    cases eb
    obtain ⟨p, vs, rfl, h1, r1⟩ := he.lst'
    split at h
    · rename_i ys ey
      have ev := r1.strs ey
      subst ev
      by_cases hl : (ys.map (·.length)).sum + ys.length * a.length ≤ 16777216
      · rw [if_pos hl] at h
        exact ⟨fun x xs H Q => ∃ a p, ∃ ys : List Str, x = .str a ∧ xs = [.ref p] ∧ (SqL M.K H p (ys.map V.str) ∨ SqT M.K H p (ys.map V.str)) ∧ (ys.map (·.length)).sum + ys.length * a.length ≤ 16777216 ∧ Q (.str (Txt.join a ys)) H, fun X hX => by rw [← kx.K X hX]; exact mt_join, a, p, ys, rfl, rfl, .inl (.inl (.inl (s _ _ h1))), hl, EvV.val h s Rep.str⟩
      · rw [if_neg hl] at h; exact h.elim
    · exact h.elim
  · exact h.elim
end
end PX

set_option Elab.async false
set_option linter.all false
set_option maxRecDepth 100000
/-! Px6: what a walk gives; comprehensions. -/
namespace PX
open PySem PySem.Spec PyProof.Rows L2

def isTupO : HO → Bool
  | .tup _ => true
  | .frz _ (.tup _) => true
  | _ => false
section
variable {M : Md} {G G2 : Hp}
/-- what is frozen in G, and the tuples of G2 -/
def keepT (G G2 : Hp) : Hp := fun a => match G a with
  | some o => some o
  | none => match G2 a with
    | some o => if isTupO o = true then some o else none
    | none => none
theorem keepT_old {a : Addr} {o : HO} (h : G a = some o) : keepT G G2 a = some o := by unfold keepT; rw [h]
theorem keepT_tup {a : Addr} {o : HO} (s : Same G G2) (h : G2 a = some o) (t : isTupO o = true) : keepT G G2 a = some o := by
  unfold keepT
  cases e : G a with
  | some u => have := s a u e; rw [h] at this; cases this; rfl
  | none => simp only [h, t, if_true]
theorem keepT_of (s : Same G G2) {a : Addr} {o : HO} (h : keepT G G2 a = some o) : G2 a = some o ∧ (G a = some o ∨ isTupO o = true) := by
  unfold keepT at h
  cases e : G a with
  | some u => rw [e] at h; cases h; exact ⟨s a _ e, .inl rfl⟩
  | none =>
    rw [e] at h
    cases e2 : G2 a with
    | none => rw [e2] at h; cases h
    | some u =>
      rw [e2] at h
      by_cases ht : isTupO u = true
      · simp only [ht, if_true] at h; cases h; exact ⟨rfl, .inr ht⟩
      · simp only [ht, if_false] at h; cases h
mutual
theorem Rep.kept (s : Same G G2) : ∀ (d : D) (v : V), d.lf = true → Rep M G2 d v → Rep M (keepT G G2) d v
  | .non, v, _, h => h
  | .bl _, v, _, h => h
  | .int _, v, _, h => h
  | .str _, v, _, h => h
  | .ty _, v, _, h => h
  | .tup ds, v, hl, h => by
    unfold Rep at h ⊢
    unfold D.lf at hl
    obtain ⟨a, vs, e, h1, h2⟩ := h
    refine ⟨a, vs, e, ?_, Reps.kept s ds vs hl h2⟩
    rcases h1 with (h1 | ⟨o, h1⟩) | h1
    · exact .inl (.inl (keepT_tup s h1 rfl))
    · exact .inl (.inr ⟨o, keepT_tup s h1 rfl⟩)
    · exact .inr h1
  | .lst _, v, hl, h => by unfold D.lf at hl; cases hl
  | .scr _, v, hl, h => by unfold D.lf at hl; cases hl
  | .dct _, v, hl, h => by unfold D.lf at hl; cases hl
  | .obj _ _, v, hl, h => by unfold D.lf at hl; cases hl
theorem Reps.kept (s : Same G G2) : ∀ (d : List D) (v : List V), D.lfs d = true → Reps M G2 d v → Reps M (keepT G G2) d v
  | [], v, _, h => by unfold Reps at h ⊢; exact h
  | d :: ds, v, hl, h => by
    unfold D.lfs at hl
    rw [Bool.and_eq_true] at hl
    unfold Reps at h ⊢
    obtain ⟨u, r, e, h1, h2⟩ := h
    exact ⟨u, r, e, Rep.kept s d u hl.1 h1, Reps.kept s ds r hl.2 h2⟩
end
end
/-- the walk J gives these items, while what was frozen at its start stays so -/
def Wk (M : Md) (G1 : Hp) (J : It) (items : List D) : Prop := ∀ G H, Same G1 G → Same G H →
  (∀ i, i < items.length → J.go i H) ∧ J.stop items.length H ∧ ∀ (i : Nat) (d : D), items[i]? = some d → ∀ x H', J.yld i H x H' → ∃ G', Ext G H G' H' ∧ Rep M G' d x
section
variable {M : Md} {G1 : Hp} {a b : Addr} {vs us : List V} {ds es : List D}
theorem wk_at {J : It} {n : Nat} (hn : n = ds.length) (w : ∀ H, Same G1 H → Walk J n (fun H' => H' = H) (YAt vs)) (r : Reps M G1 ds vs) : Wk M G1 J ds := fun G H s t => by
  subst hn
  have w := w H (s.trans t)
  refine ⟨fun i hi => w.goes i H hi rfl, w.stops H rfl, fun i d e x H' y => ?_⟩
  have hi : i < ds.length := by
    have := List.getElem?_eq_some_iff.mp e
    exact this.1
  obtain ⟨e1, e2⟩ := w.yields i H x H' hi rfl y
  subst e1
  obtain ⟨v, h1, h2⟩ := r.get e
  rw [h1] at e2; cases e2
  exact ⟨G, Ext.refl t, Rep.mono s _ _ h2⟩
theorem wk_list (h : G1 a = some (.lst vs)) (r : Reps M G1 ds vs) : Wk M G1 (Itl M.K a) ds :=
  wk_at (n := vs.length) r.length (fun H s => walk_list.mono (fun H' e => by rw [e]; exact .inl (.inl (s _ _ h))) fun _ _ _ _ _ _ y => y) r
theorem wk_tup (h : SqT M.K G1 a vs) (r : Reps M G1 ds vs) : Wk M G1 (Itt M.K a) ds :=
  wk_at (n := vs.length) r.length (fun H s => walk_tup.mono (fun H' e => by rw [e]; exact Same.seqT s h) fun _ _ _ _ _ _ y => y) r
theorem wk_rev (h : G1 a = some (.lst vs)) (r : Reps M G1 ds vs) : Wk M G1 (Itv M.K a vs.length) ds.reverse :=
  wk_at (n := vs.length) (by rw [List.length_reverse, r.length]) (fun H s => walk_rev.mono (fun H' e => by rw [e]; exact .inl (.inl (s _ _ h))) fun i _ x _ hi _ y => ⟨y.1, by
    rw [List.getElem?_reverse hi]; exact y.2⟩) r.rev
theorem wk_revT (h : SqT M.K G1 a vs) (r : Reps M G1 ds vs) : Wk M G1 (RT.ItvT M.K a vs.length) ds.reverse := by
  refine wk_at (n := vs.length) (by rw [List.length_reverse, r.length]) (fun H s => ?_) r.rev
  have q : SqT M.K H a vs := Same.seqT s h
  refine ⟨fun i H' hi e => ?_, fun _ _ => Nat.le_refl _, fun i H' x H2 hi e y => ?_⟩
  · subst e
    exact ⟨hi, vs, vs[vs.length - 1 - i]'(by omega), q, by simp [show vs.length - 1 - i < vs.length by omega]⟩
  · subst e
    exact ⟨y.1, by rw [List.getElem?_reverse hi]; exact y.2 vs q⟩
theorem wk_range {lo : Int} {n : Nat} : Wk M G1 (Itr lo n) ((List.range n).map fun (i : Nat) => D.int (lo + (i : Int))) := fun G H s t => by
  refine ⟨fun i hi => by simpa [Itr] using hi, by simp [Itr], fun i d e x H' y => ?_⟩
  obtain ⟨e1, e2⟩ := y
  subst e1 e2
  have hi : i < n := by
    have := (List.getElem?_eq_some_iff.mp e).1
    simpa using this
  rw [List.getElem?_map, List.getElem?_range hi] at e
  cases e
  exact ⟨G, Ext.refl t, Rep.int⟩
theorem wk_str {z : Str} : Wk M G1 (Its z) (z.cps.toList.map fun c => D.str ⟨#[c]⟩) := fun G H s t => by
  refine ⟨fun i hi => by simpa [Its] using hi, by simp [Its], fun i d e x H' y => ?_⟩
  obtain ⟨e1, c, e2, e3⟩ := walk_str.yields i H x H' (by
    have := (List.getElem?_eq_some_iff.mp e).1
    simpa using this) trivial y
  subst e1 e3
  rw [List.getElem?_map] at e
  have e4 : z.cps.toList[i]? = some c := by simpa using e2
  rw [e4] at e; cases e
  exact ⟨G, Ext.refl t, Rep.str⟩
/-- a new pair a turn -/
theorem wk_pair {J : It} {n : Nat} {items : List D} {X Y : Nat → Option V} (hn : n = items.length) (w : ∀ H, Same G1 H → Walk J n (fun H' => H' = H) (YPair X Y))
    (r : ∀ i d, items[i]? = some d → ∃ dx dy vx vy, d = .tup [dx, dy] ∧ X i = some vx ∧ Y i = some vy ∧ Rep M G1 dx vx ∧ Rep M G1 dy vy) : Wk M G1 J items := fun G H s t => by
  subst hn
  have w := w H (s.trans t)
  refine ⟨fun i hi => w.goes i H hi rfl, w.stops H rfl, fun i d e x H' y => ?_⟩
  have hi : i < items.length := (List.getElem?_eq_some_iff.mp e).1
  obtain ⟨T, u1, u2, e1, e2, e3, e4, e5⟩ := w.yields i H x H' hi rfl y
  subst e1 e3
  obtain ⟨dx, dy, vx, vy, rfl, h1, h2, h3, h4⟩ := r i d e
  rw [h1] at e4; cases e4
  rw [h2] at e5; cases e5
  have x := Ext.both t (.tup [u1, u2]) e2
  refine ⟨_, x, ?_⟩
  unfold Rep
  refine ⟨T, _, rfl, .inl (.inl upd_same), ?_⟩
  unfold Reps; refine ⟨_, _, rfl, Rep.mono (s.trans x.g) _ _ h3, ?_⟩
  unfold Reps; refine ⟨_, _, rfl, Rep.mono (s.trans x.g) _ _ h4, ?_⟩
  unfold Reps; rfl
theorem zip_get {i : Nat} {d : D} (r1 : Reps M G1 ds vs) (r2 : Reps M G1 es us) (e : ((ds.zip es).map fun p => D.tup [p.1, p.2])[i]? = some d) :
    ∃ dx dy vx vy, d = .tup [dx, dy] ∧ vs[i]? = some vx ∧ us[i]? = some vy ∧ Rep M G1 dx vx ∧ Rep M G1 dy vy := by
  rw [List.getElem?_map] at e
  cases q : (ds.zip es)[i]? with
  | none => rw [q] at e; cases e
  | some p =>
    rw [q] at e; cases e
    obtain ⟨h1, h2⟩ := List.getElem?_zip_eq_some.mp q
    obtain ⟨v1, a1, b1⟩ := r1.get h1
    obtain ⟨v2, a2, b2⟩ := r2.get h2
    exact ⟨_, _, v1, v2, rfl, a1, a2, b1, b2⟩
theorem wk_zip (h : G1 a = some (.lst vs)) (h' : G1 b = some (.lst us)) (r : Reps M G1 ds vs) (r' : Reps M G1 es us) : Wk M G1 (Itz M.K a b) ((ds.zip es).map fun p => .tup [p.1, p.2]) :=
  wk_pair (n := min vs.length us.length) (by simp [r.length, r'.length]) (fun H s => (walk_zip rfl).mono (fun H' e => by rw [e]; exact ⟨.inl (.inl (s _ _ h)), .inl (.inl (s _ _ h'))⟩) fun _ _ _ _ _ _ y => y) fun i d e => zip_get r r' e
theorem wk_zipT (h : SqT M.K G1 a vs) (h' : SqT M.K G1 b us) (r : Reps M G1 ds vs) (r' : Reps M G1 es us) : Wk M G1 (RZ.ItzT M.K a b) ((ds.zip es).map fun p => .tup [p.1, p.2]) := by
  refine wk_pair (X := fun i => vs[i]?) (Y := fun i => us[i]?) (n := min vs.length us.length) (by simp [r.length, r'.length]) (fun H s => ?_) fun i d e => zip_get r r' e
  have q : SqT M.K H a vs := Same.seqT s h
  have q' : SqT M.K H b us := Same.seqT s h'
  refine ⟨fun i H' hi e => ?_, fun H' e => ?_, fun i H' x H2 hi e y => ?_⟩
  · subst e
    have h1 : i < vs.length := by omega
    have h2 : i < us.length := by omega
    exact ⟨vs, us, vs[i], us[i], q, q', by simp [h1], by simp [h2]⟩
  · subst e
    exact ⟨vs, us, q, q', by omega⟩
  · subst e
    obtain ⟨T, x, z, h1, h2, h3, h4, h5⟩ := y
    exact ⟨T, x, z, h1, h2, h3, h4 vs q, h5 us q'⟩
theorem wk_enum (h : G1 a = some (.lst vs)) (r : Reps M G1 ds vs) : Wk M G1 (Ite M.K a) (ds.zipIdx.map fun p => .tup [.int (p.2 : Nat), p.1]) :=
  wk_pair (n := vs.length) (by simp [r.length]) (fun H s => walk_enum.mono (fun H' e => by rw [e]; exact .inl (.inl (s _ _ h))) fun _ _ _ _ _ _ y => y) fun i d e => by
    rw [List.getElem?_map, List.getElem?_zipIdx] at e
    cases q : ds[i]? with
    | none => rw [q] at e; simp at e
    | some p =>
      rw [q] at e; simp at e; subst e
      obtain ⟨v1, a1, b1⟩ := r.get q
      exact ⟨_, _, _, v1, rfl, rfl, a1, Rep.int, b1⟩
end

/-- the tuples alone -/
abbrev tupsOf (G : Hp) : Hp := keepT (fun _ => none) G
theorem none_same (G : Hp) : Same (fun _ => none) G := fun _ _ h => nomatch h
theorem SqT.kept {K : PySem.W.Frag} {G : Hp} {a : Addr} {vs : List V} (h : SqT K G a vs) : SqT K (tupsOf G) a vs := by
  rcases h with (h1 | ⟨o, h1⟩) | h1
  · exact .inl (.inl (keepT_tup (none_same G) h1 rfl))
  · exact .inl (.inr ⟨o, keepT_tup (none_same G) h1 rfl⟩)
  · exact .inr h1
/-- a walk, and that it leans on tuples alone where the data is free of lists -/
def Wk2 (M : Md) (G : Hp) (ds : List D) (J : It) (items : List D) : Prop := Wk M G J items ∧ (D.lfs ds = true → Wk M (tupsOf G) J items)
/-! ### what a for, a comprehension walks -/
theorem foldedId {e : Expr} (h : nset e = true) (env : Env) (x : Value) : foldedSetIterable e env x = pure x := by
  cases e <;> first | rfl | cases h
theorem starE {e : Expr} (h : nst e = true) (es : List Expr) (env : Env) : starEach (e :: es) env = (false, eval e env) :: starEach es env := by
  cases e <;> first | rfl | cases h
theorem starAny : ∀ {es : List Expr} (h : es.all nst = true) (env : Env) (pos : Pos), ((backTo pos (starEach es env)).any (·.1)) = false
  | [], _, _, _ => rfl
  | e :: es, h, env, pos => by
    simp only [List.all_cons, Bool.and_eq_true] at h
    rw [starE h.1]
    show (false || (backTo pos (starEach es env)).any (·.1)) = false
    rw [starAny h.2]; rfl
theorem nodb_dbg {x : Str} (h : nodb x = true) : (x == ("__debug__" : Str)) = false := by
  unfold nodb at h
  simp only [Bool.and_eq_true, Bool.not_eq_true'] at h
  exact h.1.1
theorem nodb_cls {x : Str} (h : nodb x = true) : (x == ("__classdict__" : Str)) = false := by
  unfold nodb at h
  simp only [Bool.and_eq_true, Bool.not_eq_true'] at h
  exact h.1.2
theorem nodb_name {x : Str} (h : nodb x = true) : x ≠ ("__name__" : Str) := by
  unfold nodb at h
  simp only [Bool.and_eq_true, Bool.not_eq_true'] at h
  have := h.2
  intro e
  subst e
  simp at this
section
variable {Xs : Cx → Prop} {M : Md} {T : Tb} {W : WX} {c : Cs} {E : XK} {G H : Hp}
theorem Kx.gl (kx : Kx Xs M T W c) {x : Str} (h : gloC c x = true) : ∀ X, Xs X → Gl X x := fun X hX => by
  unfold gloC at h
  simp only [Bool.and_eq_true, decide_eq_true_eq] at h
  show List.lookup x X.env.scope.names = _
  rw [kx.sc X hX]
  exact h.1
theorem glo_nodb {x : Str} (h : gloC c x = true) : nodb x = true := by
  unfold gloC at h
  simp only [Bool.and_eq_true] at h
  exact h.2
theorem blt_glo {x : Str} (h : bltC c x = true) : gloC c x = true := by
  unfold bltC at h
  simp only [Bool.and_eq_true] at h
  exact h.1
theorem Kx.blm (kx : Kx Xs M T W c) {x : Str} (h : bltC c x = true) : ∀ X, Xs X → X.mg x = none := fun X hX => by
  unfold bltC at h
  simp only [Bool.and_eq_true, decide_eq_true_eq] at h
  rw [kx.mg X hX]
  exact kx.bl x h.2

theorem s_it (kx : Kx Xs M T W c) {σ : L2.St} (s : Same G H) {f : List Expr → Bool} {fl : R (List D)} {k : ItK} {it tg : Expr} (hk : chkI c f k it tg = true)
    (hS : ∀ exs, f exs = true → SL Xs M E σ G H exs fl)
    (hV : ∀ ex, f [ex] = true → ∀ Q, GOk M E G H (fun ds => ∀ d, ds = [d] → ∀ v G' H', Ext G H G' H' → Rep M G' d v → Q v H') fl → WP Xs ex σ H Q)
    {R : It → Hp → Prop} (h : GOk M E G H (fun ds => GOk M E G H (fun items => ∀ J G' H', Ext G H G' H' → Wk2 M G' ds J items → R J H') (itemsOf k ds)) fl) : WI Xs tg it σ H R := by
  unfold chkI at hk
  split at hk
  · -- a value
    simp only [Bool.and_eq_true] at hk
    obtain ⟨⟨hf, hset⟩, hst⟩ := hk
    refine ⟨fun σ H R => iList M.K (WP Xs it) σ H R ∨ iTup M.K (WP Xs it) σ H R ∨ iStr (WP Xs it) σ H R, fun X hX => ⟨fun pins s σ H R I z => ?_⟩, ?_⟩
    · rcases z with z | z | z
      · exact (pi_list (tg := tg) (pe_w hX)).run pins s σ H R I (by rw [kx.K X hX]; exact z)
      · exact (pi_tup (tg := tg) (pe_w hX)).run pins s σ H R I (by rw [kx.K X hX]; exact z)
      · exact (pi_str (tg := tg) (pe_w hX)).run pins s σ H R I z
    · cases fl with
      | st => exact h.elim
      | ex cc fs =>
        exact .inl (hV it hf _ h)
      | ok ds =>
        have h : GOk M E G H (fun items => ∀ J G' H', Ext G H G' H' → Wk2 M G' ds J items → R J H') (itVal ds) := h
        unfold itVal at h
        split at h
        · rename_i xs
          refine .inl (hV it hf _ (fun d e v G' H' x r => ?_))
          cases e
          obtain ⟨a, vs, rfl, h1, r1⟩ := r.lst'
          exact ⟨a, rfl, ⟨vs, .inl (.inl (x.i _ _ h1))⟩, h _ G' H' x ⟨wk_list h1 r1, fun z => by simp [D.lfs, D.lf] at z⟩⟩
        · refine .inr (.inl (hV it hf _ (fun d e v G' H' x r => ?_)))
          cases e
          obtain ⟨a, vs, rfl, h1, r1⟩ := r.tup'
          exact ⟨a, rfl, ⟨vs, Same.seqT x.i h1⟩, h _ G' H' x ⟨wk_tup h1 r1, fun z => wk_tup (SqT.kept h1) (Reps.kept (none_same _) _ _ (by simpa [D.lfs, D.lf] using z) r1)⟩⟩
        · refine .inr (.inr (hV it hf _ (fun d e v G' H' x r => ?_)))
          cases e
          obtain rfl := r.str'
          exact ⟨_, rfl, h _ G' H' x ⟨wk_str, fun _ => wk_str⟩⟩
        · exact h.elim
  · -- range
    rename_i x e p pos
    simp only [Bool.and_eq_true, decide_eq_true_eq] at hk
    obtain ⟨⟨⟨ex, hb⟩, hf⟩, hst⟩ := hk
    subst ex
    refine ⟨_, fun X hX => pi_range1 (kx.gl (blt_glo hb) X hX) (kx.blm hb X hX) (pa_w hX) (starE hst _ _), (hS _ hf).use h fun ds vs G' H' z x r => ?_⟩
    have h : GOk M E G H (fun items => ∀ J G' H', Ext G H G' H' → Wk2 M G' ds J items → R J H') (itRng ds) := z
    unfold itRng at h
    split at h
    · rename_i n
      obtain ⟨v, rfl, r1⟩ := r.one'
      obtain rfl := r1.int'
      by_cases hl : n < 2 ^ 62 ∧ -(2 ^ 62) ≤ n
      · rw [if_pos hl] at h
        exact ⟨n, rfl, hl.2, hl.1, h _ G' H' x ⟨wk_range, fun _ => wk_range⟩⟩
      · rw [if_neg hl] at h; exact h.elim
    · exact h.elim
  · -- range with two ends
    rename_i x e e2 p pos
    simp only [Bool.and_eq_true, decide_eq_true_eq] at hk
    obtain ⟨⟨⟨⟨ex, hb⟩, hf⟩, hst⟩, hst2⟩ := hk
    subst ex
    refine ⟨_, fun X hX => pi_range2 (kx.gl (blt_glo hb) X hX) (kx.blm hb X hX) (pa_w hX) (by rw [starE hst, starE hst2]; rfl) (by rw [starE hst2]; rfl), (hS _ hf).use h fun ds vs G' H' z x r => ?_⟩
    have h : GOk M E G H (fun items => ∀ J G' H', Ext G H G' H' → Wk2 M G' ds J items → R J H') (itRng2 ds) := z
    unfold itRng2 at h
    split at h
    · rename_i m n
      obtain ⟨v, u, rfl, r1, r2⟩ := r.two'
      obtain rfl := r1.int'
      obtain rfl := r2.int'
      by_cases hl : n < 2 ^ 62 ∧ -(2 ^ 62) ≤ n ∧ m < 2 ^ 62 ∧ -(2 ^ 62) ≤ m
      · rw [if_pos hl] at h
        exact ⟨m, n, rfl, ⟨hl.2.2.2, hl.2.2.1, hl.2.1, hl.1⟩, h _ G' H' x ⟨wk_range, fun _ => wk_range⟩⟩
      · rw [if_neg hl] at h; exact h.elim
    · exact h.elim
  · -- zip
    rename_i x p e e2 pos
    simp only [Bool.and_eq_true, decide_eq_true_eq] at hk
    obtain ⟨⟨⟨⟨⟨ex, hb⟩, hf⟩, hst⟩, hst2⟩, htg⟩ := hk
    subst ex
    cases tg <;> first | cases htg | skip
    refine ⟨RZ.iZipA M.K (WA Xs [e, e2]), fun X hX => by rw [← kx.K X hX]; exact RZ.pi_zipA (kx.gl (blt_glo hb) X hX) (kx.blm hb X hX) (pa_w hX) (starE hst _ _) (starAny (es := [e2]) (by simp [hst2]) _ _), (hS _ hf).use h fun ds vs G' H' z x r => ?_⟩
    have h : GOk M E G H (fun items => ∀ J G' H', Ext G H G' H' → Wk2 M G' ds J items → R J H') (itZip ds) := z
    unfold itZip at h
    split at h
    · obtain ⟨v, u, rfl, r1, r2⟩ := r.two'
      obtain ⟨a, vs, rfl, h1, q1⟩ := r1.lst'
      obtain ⟨b, us, rfl, h2, q2⟩ := r2.lst'
      exact ⟨a, b, vs, us, rfl, .inl ⟨.inl (.inl (x.i _ _ h1)), .inl (.inl (x.i _ _ h2)), h _ G' H' x ⟨wk_zip h1 h2 q1 q2, fun z => by simp [D.lfs, D.lf] at z⟩⟩⟩
    · obtain ⟨v, u, rfl, r1, r2⟩ := r.two'
      obtain ⟨a, vs, rfl, h1, q1⟩ := r1.tup'
      obtain ⟨b, us, rfl, h2, q2⟩ := r2.tup'
      exact ⟨a, b, vs, us, rfl, .inr ⟨Same.seqT x.i h1, Same.seqT x.i h2, h _ G' H' x ⟨wk_zipT h1 h2 q1 q2, fun z => by
        simp only [D.lfs, D.lf, Bool.and_true, Bool.and_eq_true] at z
        exact wk_zipT (SqT.kept h1) (SqT.kept h2) (Reps.kept (none_same _) _ _ z.1 q1) (Reps.kept (none_same _) _ _ z.2 q2)⟩⟩⟩
    · exact h.elim
  · -- enumerate
    rename_i x p e pos
    simp only [Bool.and_eq_true, decide_eq_true_eq] at hk
    obtain ⟨⟨⟨⟨ex, hb⟩, hf⟩, hst⟩, htg⟩ := hk
    subst ex
    cases tg <;> first | cases htg | skip
    refine ⟨iEnum M.K (WA Xs [e]), fun X hX => by rw [← kx.K X hX]; exact pi_enum (kx.gl (blt_glo hb) X hX) (kx.blm hb X hX) (pa_w hX) (starE hst _ _), (hS _ hf).use h fun ds vs G' H' z x r => ?_⟩
    have h : GOk M E G H (fun items => ∀ J G' H', Ext G H G' H' → Wk2 M G' ds J items → R J H') (itEnm ds) := z
    unfold itEnm at h
    split at h
    · obtain ⟨v, rfl, r1⟩ := r.one'
      obtain ⟨a, vs, rfl, h1, q1⟩ := r1.lst'
      exact ⟨a, vs, rfl, .inl (.inl (x.i _ _ h1)), h _ G' H' x ⟨wk_enum h1 q1, fun z => by simp [D.lfs, D.lf] at z⟩⟩
    · exact h.elim
  · -- reversed
    rename_i x p e pos
    simp only [Bool.and_eq_true, decide_eq_true_eq] at hk
    obtain ⟨⟨⟨ex, hb⟩, hf⟩, hst⟩ := hk
    subst ex
    refine ⟨RT.iRevA M.K (WP Xs e), fun X hX => by rw [← kx.K X hX]; exact RT.pi_revA (kx.gl (blt_glo hb) X hX) (kx.blm hb X hX) (pe_w hX) (starE hst _ _), ?_⟩
    refine hV _ hf _ (h.imp fun ds z d e v G' H' x r => ?_)
    have h : GOk M E G H (fun items => ∀ J G' H', Ext G H G' H' → Wk2 M G' ds J items → R J H') (itRev ds) := z
    cases e
    unfold itRev at h
    split at h
    · rename_i e1
      cases e1
      obtain ⟨a, vs, rfl, h1, q1⟩ := r.lst'
      exact ⟨a, vs, rfl, .inl ⟨.inl (.inl (x.i _ _ h1)), h _ G' H' x ⟨wk_rev h1 q1, fun z => by simp [D.lfs, D.lf] at z⟩⟩⟩
    · rename_i e1
      cases e1
      obtain ⟨a, vs, rfl, h1, q1⟩ := r.tup'
      exact ⟨a, vs, rfl, .inr ⟨Same.seqT x.i h1, h _ G' H' x ⟨wk_revT h1 q1, fun z => wk_revT (SqT.kept h1) (Reps.kept (none_same _) _ _ (by simpa [D.lfs, D.lf] using z) q1)⟩⟩⟩
    · exact h.elim
  · cases hk
end
end PX

set_option Elab.async false
set_option linter.all false
set_option maxRecDepth 100000
/-! Px7: targets and comprehensions. -/
namespace PX
open PySem PySem.Spec PyProof.Rows L2

theorem wipe_get (σ : L2.St) (j : Nat) : ∀ vs : List Nat, (L2.wipe σ vs)[j]? = if j ∈ vs then (if j < σ.length then some none else none) else σ[j]?
  | [] => by simp [L2.wipe]
  | v :: vs => by
    unfold L2.wipe
    rw [List.getElem?_set, wipe_get σ j vs, wipe_length]
    by_cases e : v = j
    · subst e; simp
    · have : j ≠ v := Ne.symm e
      simp [e, this]
theorem wipe_set {σ : L2.St} {i : Nat} {w : Option V} {vs : List Nat} (h : i ∈ vs) : L2.wipe (σ.set i w) vs = L2.wipe σ vs := by
  apply List.ext_getElem?
  intro j
  rw [wipe_get, wipe_get, List.length_set]
  by_cases hj : j ∈ vs
  · simp [hj]
  · have : i ≠ j := fun e => hj (e ▸ h)
    simp [hj, List.getElem?_set_ne this]
theorem wipe_idem (σ : L2.St) (vs : List Nat) : L2.wipe (L2.wipe σ vs) vs = L2.wipe σ vs := by
  apply List.ext_getElem?
  intro j
  rw [wipe_get, wipe_length, wipe_get]
  by_cases hj : j ∈ vs <;> simp [hj]

def gNames : List Nat → TGs
  | [] => gNil
  | i :: is => gCons (gName i) (gNames is)
section
variable {Xs : Cx → Prop} {M : Md} {T : Tb} {W : WX} {c : Cs} {E : XK} {G0 H0 G H : Hp} {ρ : Rho} {σ : L2.St}
theorem tgC_nm (kx : Kx Xs M T W c) {i : Nat} {x : Str} {p : Pos} (h : tgC c i x = true) : ∀ X, Xs X → PG X (.Name x p) (gName i) := fun X hX => by
  unfold tgC at h
  simp only [Bool.and_eq_true, decide_eq_true_eq, Bool.or_eq_true] at h
  obtain ⟨⟨h1, h2⟩, h3⟩ := h
  refine pg_name (by rw [kx.N X hX]; exact kx.nd) (by rw [kx.N X hX]; exact h1) ?_ ?_
  · rw [kx.sc X hX]
    unfold locC at h2
    split at h2
    · rename_i e; exact .inl e
    · rename_i e; exact .inr e
    · cases h2
  · rcases h3 with h3 | h3
    · exact .inl (kx.cl X hX x h3)
    · exact .inr (by rw [kx.sc X hX]; exact h3)
theorem chkTp_pgs (kx : Kx Xs M T W c) : ∀ {is : List Nat} {es : List Expr}, chkTp c is es = true → (∀ X, Xs X → PGs X es (gNames is)) ∧ (∀ env, (assignEach es env).length = is.length) ∧ ∀ env, (assignEach es env).findIdx? (·.1) = none
  | [], [], _ => ⟨fun X hX => pgs_nil, fun _ => rfl, fun _ => rfl⟩
  | [], e :: es, h => by simp [chkTp] at h
  | i :: is, [], h => by simp [chkTp] at h
  | i :: is, e :: es, h => by
    cases e <;> simp [chkTp] at h
    obtain ⟨h1, h2⟩ := h
    obtain ⟨a1, a2, a3⟩ := chkTp_pgs kx h2
    refine ⟨fun X hX => pgs_cons (tgC_nm kx h1 X hX) (a1 X hX) (by rfl), fun env => ?_, fun env => ?_⟩
    · show (assignEach es env).length + 1 = is.length + 1
      rw [a2]
    · show List.findIdx? _ ((false, _) :: assignEach es env) = none
      rw [List.findIdx?_cons]
      simp [a3]
theorem s_tp : ∀ {is : List Nat} {ds : List D} {vs : List V} {ρ : Rho} {σ : L2.St}, Rel M G0 H0 ρ σ G H → Reps M G ds vs → ∀ {Q : L2.St → Hp → Prop}, GOk M E G H (fun ρ2 => ∀ σ2, Rel M G0 H0 ρ2 σ2 G H → (∀ own : List Nat, (∀ i ∈ is, i ∈ own) → L2.wipe σ2 own = L2.wipe σ own) → Q σ2 H) (bindTp is ds ρ) →
    gNames is vs σ H Q
  | [], [], vs, ρ, σ, r, rs, Q, h => by
    unfold Reps at rs; subst rs
    exact ⟨rfl, h σ r fun _ _ => rfl⟩
  | [], d :: ds, vs, ρ, σ, r, rs, Q, h => h.elim
  | i :: is, [], vs, ρ, σ, r, rs, Q, h => h.elim
  | i :: is, d :: ds, vs, ρ, σ, r, rs, Q, h => by
    unfold Reps at rs
    obtain ⟨v, u, rfl, r1, r2⟩ := rs
    refine ⟨v, u, rfl, ?_⟩
    refine s_tp (r.setFz i r1) r2 ?_
    refine GOk.imp h fun ρ2 q σ2 rr hw => q σ2 rr fun own ho => ?_
    rw [hw own fun j hj => ho j (List.mem_cons_of_mem _ hj)]
    exact wipe_set (ho i List.mem_cons_self)
theorem bindTp_len : ∀ {is : List Nat} {ds : List D} {ρ : Rho} {P : Rho → Prop}, GOk M E G H P (bindTp is ds ρ) → ds.length = is.length
  | [], [], _, _, _ => rfl
  | [], _ :: _, _, _, h => h.elim
  | _ :: _, [], _, _, h => h.elim
  | i :: is, d :: ds, ρ, P, h => by
    have := bindTp_len (is := is) (ds := ds) h
    simp [this]
theorem s_tg (kx : Kx Xs M T W c) {tg : Tg} {xtg : Expr} (hk : chkTg c tg xtg = true) (r : Rel M G0 H0 ρ σ G H) {d : D} {v : V} (rd : Rep M G d v) {Q : L2.St → Hp → Prop}
    (h : GOk M E G H (fun ρ2 => ∀ σ2, Rel M G0 H0 ρ2 σ2 G H → (∀ own : List Nat, (∀ i ∈ tg.is, i ∈ own) → L2.wipe σ2 own = L2.wipe σ own) → Q σ2 H) (bindT tg d ρ)) : WG Xs xtg v σ H Q := by
  unfold chkTg at hk
  split at hk
  · rename_i i x p
    refine ⟨gName i, tgC_nm kx hk, ?_⟩
    exact h _ (r.setFz i rd) fun own ho => wipe_set (ho i List.mem_cons_self)
  · rename_i is es k p
    simp only [Bool.and_eq_true, Bool.not_eq_true'] at hk
    obtain ⟨hh, hk⟩ := hk
    obtain ⟨a1, a2, a3⟩ := chkTp_pgs kx hk
    unfold bindT at h
    simp only at h
    split at h
    · obtain ⟨a, vs, rfl, h1, r1⟩ := rd.tup'
      exact ⟨gTup M.K is.length (gNames is), fun X hX => by rw [← kx.K X hX]; exact pg_tup (kx.calm hh X hX) (a1 X hX) (a2 _) (a3 _), a, vs, rfl, Same.seqT r.same h1, by rw [r1.length, bindTp_len h], s_tp r r1 h⟩
    · obtain ⟨a, vs, rfl, h1, r1⟩ := rd.lst'
      exact ⟨gLst M.K is.length (gNames is), fun X hX => by rw [← kx.K X hX]; exact pg_lst (kx.calm hh X hX) (a1 X hX) (a2 _) (a3 _), a, vs, rfl, .inl (.inl (r.same _ _ h1)), by rw [r1.length, bindTp_len h], s_tp r r1 h⟩
    · exact h.elim
  · cases hk

/-! ### a comprehension's block -/
def Bk (Xs : Cx → Prop) (scope : Scope) : Cx → Prop := fun Y => ∃ X s H C cl fp, Xs X ∧ Y = X.blk s H scope (compEnvC scope cl C X.env) fp
def csB (c : Cs) (scope : Scope) : Cs := { c with sc := relS scope c.sc, cl := fun x => scope.names.lookup x == some .cell, top := false, ex0 := [], ex1 := [] }
theorem Kx.bk (kx : Kx Xs M T W c) (hh : c.hot = false) (scope : Scope) : Kx (Bk Xs scope) M T (fun _ _ _ _ => False) (csB c scope) where
  K := fun Y ⟨X, _, _, _, _, _, hX, e⟩ => by rw [e]; exact kx.K X hX
  mg := fun Y ⟨X, _, _, _, _, _, hX, e⟩ => by rw [e]; exact kx.mg X hX
  P := fun Y ⟨X, _, _, _, _, _, hX, e⟩ => by rw [e]; exact kx.P X hX
  w := fun Y ⟨X, _, _, _, _, _, hX, e⟩ => by rw [e]; exact kx.w X hX
  base := fun Y ⟨X, _, _, _, _, _, hX, e⟩ => by rw [e]; exact kx.base X hX
  N := fun Y ⟨X, _, _, _, _, _, hX, e⟩ => by rw [e]; exact kx.N X hX
  sc := fun Y ⟨X, _, _, C, cl, _, hX, e⟩ => by
    rw [e]
    show (compEnvC scope cl C X.env).scope = relS scope c.sc
    rw [← kx.sc X hX]; rfl
  cl := fun Y ⟨X, _, _, _, _, _, hX, e⟩ x h => by rw [e]; exact h
  nd := kx.nd
  calm := fun h Y ⟨X, _, _, _, _, _, hX, e⟩ => by rw [e]; exact kx.calm h X hX
  tk := fun Y _ => takes0
  po := fun Y ⟨X, _, _, _, _, _, hX, e⟩ => by rw [e]; exact PassesOwn.never
  room := fun Y ⟨X, _, _, _, _, _, hX, e⟩ => by rw [e]; exact kx.room X hX
  bl := kx.bl
  gcd := kx.gcd
  lcm := kx.lcm
  obj := kx.obj
  hot := fun z => absurd (hh.symm.trans z) Bool.false_ne_true
  su := kx.su
  top := fun z => absurd z Bool.false_ne_true
  xn := kx.xn
  exv := kx.exv
  exm := kx.exm
  ex0 := fun C hC => absurd hC (by simp [csB])
  ex1 := fun C fs hC => absurd hC (by simp [csB])
  cst := kx.cst
  fns := fun h f hf => let ⟨k, fa, fd, ps, F, hr, q⟩ := kx.fns h f hf; ⟨k, fa, fd, ps, F, fun Y ⟨X, _, _, _, _, _, hX, e⟩ => by rw [e]; exact hr X hX, q⟩

theorem lcGo_cons {tg : Tg} {ts : Rho → R Bool} {el : Rho → R EV} {ρ : Rho} {d : D} {ds ys : List D} (h : lcGo tg ts el ρ (d :: ds) = .ok ys) :
    ∃ ρ1 b, bindT tg d ρ = .ok ρ1 ∧ ts ρ1 = .ok b ∧ (if b = true then ∃ v zs, el ρ1 = .ok v ∧ lcGo tg ts el ρ ds = .ok zs ∧ ys = v.d :: zs else lcGo tg ts el ρ ds = .ok ys) := by
  unfold lcGo at h
  cases e1 : bindT tg d ρ with
  | st => rw [e1] at h; cases h
  | ex c fs => rw [e1] at h; cases h
  | ok ρ1 =>
    rw [e1] at h
    cases e2 : ts ρ1 with
    | st => simp only [R.bind_ok, e2, R.bind_st] at h; cases h
    | ex c fs => simp only [R.bind_ok, e2, R.bind_ex] at h; cases h
    | ok b =>
      simp only [R.bind_ok, e2] at h
      refine ⟨ρ1, b, rfl, e2, ?_⟩
      cases b with
      | false => simpa using h
      | true =>
        simp only [if_pos] at h ⊢
        cases e3 : el ρ1 with
        | st => rw [e3] at h; cases h
        | ex c fs => rw [e3] at h; cases h
        | ok v =>
          rw [e3] at h
          cases e4 : lcGo tg ts el ρ ds with
          | st => rw [e4] at h; cases h
          | ex c fs => rw [e4] at h; cases h
          | ok zs =>
            rw [e4] at h
            cases h
            exact ⟨v, zs, rfl, rfl, rfl⟩
/-- a comprehension's reading -/
theorem s_lc {Xs Ys : Cx → Prop} {tg : Tg} {xtg it xel : Expr} {xifs : List Expr} {own : List Nat} {ts : Rho → R Bool} {el : Rho → R EV} {fi : R (List D)} {Q : VK}
    (r : Rel M G0 H0 ρ σ G H)
    (hi : ∀ {R : It → Hp → Prop}, GOk M E G H (fun items => ∀ J G' H', Ext G H G' H' → Wk M G' J items → R J H') fi → WI Xs xtg it σ H R)
    (ho : ∀ i ∈ tg.is, i ∈ own)
    (hg : ∀ {ρ σ G H d v Q}, Rel M G0 H0 ρ σ G H → Rep M G d v → GOk M (fun _ _ _ => False) G H (fun ρ2 => ∀ σ2, Rel M G0 H0 ρ2 σ2 G H → (∀ own : List Nat, (∀ i ∈ tg.is, i ∈ own) → L2.wipe σ2 own = L2.wipe σ own) → Q σ2 H) (bindT tg d ρ) → WG Ys xtg v σ H Q)
    (ht : ∀ {ρ σ G H Q}, Rel M G0 H0 ρ σ G H → GOk M (fun _ _ _ => False) G H (fun b => ∀ G' H', Ext G H G' H' → Q b H') (ts ρ) → WTs Ys xifs σ H Q)
    (he : ∀ {ρ σ G H}, Rel M G0 H0 ρ σ G H → SV Ys M (fun _ _ _ => False) σ G H xel (el ρ))
    (h : GOk M E G H (fun xs => GOk M E G H (EvV M G H Q) (if xs.length ≤ sizeLine then (lcGo tg ts el (wipeS ρ own) xs).nox.map fun ys => .fr (.lst ys) else .st)) fi) :
    tLc (WI Xs xtg it) (WG Ys xtg) (WTs Ys xifs) (WP Ys xel) own σ H Q := by
  refine hi (h.imp fun items hq J G1 H1 x1 wk D hD => ?_)
  have hz : items.length ≤ sizeLine := by
    by_cases hz : items.length ≤ sizeLine
    · exact hz
    · rw [if_neg hz] at hq; exact hq.elim
  rw [if_pos hz] at hq
  cases eall : lcGo tg ts el (wipeS ρ own) items with
  | st => rw [eall] at hq; exact hq.elim
  | ex cc fs => rw [eall] at hq; exact hq.elim
  | ok all =>
    rw [eall] at hq
    have hq : EvV M G H Q (.fr (.lst all)) := hq
    have r1 : Rel M G0 H0 ρ σ G1 H1 := r.later x1
    refine ⟨fun i m H2 => m = items.length - i ∧ i ≤ items.length ∧ ∃ (G2 : Hp) (vs : List V) (ds ys : List PX.D), Ext G1 H1 G2 H2 ∧ G2 D = none ∧ H2 D = some (.lst vs) ∧ Reps M G2 ds vs ∧ ds.length ≤ i ∧ lcGo tg ts el (wipeS ρ own) (items.drop i) = .ok ys ∧ all = ds ++ ys,
      ⟨items.length, by simp, Nat.zero_le _, G1, [], [], all, Ext.one x1.i _ hD, x1.i.free hD, upd_same, by unfold Reps; rfl, by simp, by simpa using eall, rfl⟩, ?_⟩
    rintro i m H2 ⟨rfl, hi, G2, vs, ds, ys, x2, gD, hD2, rds, hlen, erest, eq⟩
    obtain ⟨w1, w2, w3⟩ := wk G2 H2 x2.g x2.i
    by_cases hlt : i < items.length
    · refine .inr ⟨w1 i hlt, fun H' => i + 1 ≤ items.length ∧ ∃ (G2 : Hp) (vs : List V) (ds ys : List PX.D), Ext G1 H1 G2 H' ∧ G2 D = none ∧ H' D = some (.lst vs) ∧ Reps M G2 ds vs ∧ ds.length ≤ i + 1 ∧ lcGo tg ts el (wipeS ρ own) (items.drop (i + 1)) = .ok ys ∧ all = ds ++ ys,
        fun H' q => ⟨items.length - (i + 1), by omega, rfl, q.1, q.2⟩, fun x H' hy => ?_⟩
      have ed : items[i]? = some items[i] := by simp [hlt]
      obtain ⟨G3, x3, rx⟩ := w3 i _ ed x H' hy
      rw [List.drop_eq_getElem_cons hlt] at erest
      obtain ⟨ρ1, b, e1, e2, e3⟩ := lcGo_cons erest
      have r3 : Rel M G0 H0 (wipeS ρ own) (L2.wipe σ own) G3 H' := ((r1.wipe own).later (x2.trans x3))
      have x03 : Ext G1 H1 G3 H' := x2.trans x3
      refine hg r3 rx ?_
      rw [e1]
      intro σ2 r4 hw
      refine ⟨by rw [hw own ho, wipe_idem], ?_⟩
      refine ht r4 ?_
      rw [e2]
      intro G4 H4 x4
      have keepD : ∀ {G' H'' : Hp}, Ext G2 H2 G' H'' → G' D = none ∧ H'' D = some (.lst vs) := fun {G' H''} x => ⟨x.n D (by rw [hD2]; exact fun z => nomatch z) gD, x.h _ _ hD2⟩
      have x24 : Ext G2 H2 G4 H4 := x3.trans x4
      cases b with
      | false =>
        simp only [Bool.false_eq_true, if_false] at e3 ⊢
        obtain ⟨k1, k2⟩ := keepD x24
        exact ⟨hlt, G4, vs, ds, ys, x2.trans x24, k1, k2, Reps.mono x24.g _ _ rds, by omega, e3, eq⟩
      | true =>
        simp only [if_true] at e3 ⊢
        obtain ⟨v, zs, f1, f2, f3⟩ := e3
        refine (he (r4.later x4)).use (Z := fun y => y = v) (by rw [f1]; exact rfl) fun y u G5 H5 ey x5 ru => ?_
        subst ey
        have x25 : Ext G2 H2 G5 H5 := x24.trans x5
        obtain ⟨k1, k2⟩ := keepD x25
        refine ⟨vs, k2, ?_, hlt, G5, vs ++ [u], ds ++ [y.d], zs, ?_, k1, upd_same, Reps.append (Reps.mono x25.g _ _ rds) ?_, by simp; omega, f2, by rw [eq, f3]; simp⟩
        · rw [rds.length]; omega
        · have x15 := x2.trans x25
          refine ⟨x15.g, fun a o e => ?_, fun a o e => ?_, x15.n⟩
          · have : a ≠ D := ne_of_none e hD
            rw [upd_ne this]; exact x15.h _ _ e
          · have : a ≠ D := ne_of_none e k1
            rw [upd_ne this]; exact x15.i _ _ e
        · unfold Reps; exact ⟨u, [], rfl, ru, by unfold Reps; rfl⟩
    · have e : i = items.length := by omega
      subst e
      refine .inl ⟨w2, ?_⟩
      rw [List.drop_length] at erest
      cases erest
      rw [List.append_nil] at eq
      subst eq
      exact hq D G2 H2 (x1.trans x2) (x1.h.free hD) gD ⟨vs, hD2, rds⟩
end
end PX

set_option Elab.async false
set_option linter.all false
set_option maxRecDepth 100000
/-! Px8: a checked expression computes what evE says. -/
namespace PX
open PySem PySem.Spec PyProof.Rows L2

theorem supId {o : Expr} (h : nsup o = true) (attr : Str) (env : Env) (whole : Sem Value) : attributeBase o attr env whole = whole := by
  unfold attributeBase
  split
  · rename_i id p1 p2
    have : (id != "super") = true := by
      unfold nsup at h
      simp only [Bool.not_eq_true'] at h
      show (!(id == "super")) = true
      rw [h]; rfl
    rw [this]; rfl
  · rfl
theorem plainIx {b : Expr} (h : nslice b = true) : PlainIx b := fun o i => by
  cases b <;> first | rfl | cases h
theorem tstVal {e : Expr} (h : (match e with | .IfExp _ _ _ _ => false | .UnaryOp .Not _ _ => false | .BoolOp _ _ _ => false | .Compare _ _ _ _ => false | _ => true) = true) (env : Env) (whole : Sem Value) :
    isTrue e env whole = (do let v ← whole; standAt e.pos; holding [v] (truthy v)) := by
  cases e <;> first | rfl | (cases h; done) | skip
  rename_i op x p
  cases op <;> first | rfl | cases h
section
variable {Xs : Cx → Prop} {M : Md} {T : Tb} {W : WX} {c : Cs} {E : XK} {G0 H0 G H : Hp} {ρ : Rho} {σ : L2.St}
/-- a value's evaluation serves a test -/
theorem SV.test {ex : Expr} {f : R EV} (hv : SV Xs M E σ G H ex f) (hp : ∀ env whole, isTrue ex env whole = (do let v ← whole; standAt ex.pos; holding [v] (truthy v))) : SB Xs M E σ G H ex (f.bind asBool) := fun Q h => by
  refine ⟨tB (WP Xs ex), fun X hX => pt_val (pe_w hX) (hp X.env), ?_⟩
  refine hv.use h.bind fun x v G' H' z e r => ?_
  have z : GOk M E G H (fun b => ∀ G' H', Ext G H G' H' → Q b H') (asBool x) := z
  unfold asBool at z
  split at z
  · obtain rfl := r.bl'
    exact ⟨_, rfl, z _ _ e⟩
  · exact z.elim
theorem asBool_ok {x : EV} {P : Bool → Prop} (h : GOk M E G H P (asBool x)) : ∃ b, x.d = .bl b ∧ P b := by
  unfold asBool at h
  split at h
  · exact ⟨_, rfl, h⟩
  · exact h.elim
theorem SV.step {f : R EV} (ex : Expr) (hv : ∀ Q, GOk M E G H (EvV M G H Q) f → WP Xs ex σ H Q) : SV Xs M E σ G H ex f := hv

theorem w_name {i : Nat} {x : Str} {p : Pos} (kx : Kx Xs M T W c) (r : Rel M G0 H0 ρ σ G H) (h1 : c.N[i]? = some x) (h2 : visC c.sc x = true) (h3 : nodb x = true) : SV Xs M E σ G H (.Name x p) (match ρ[i]? with | some (.fz d) => .ok (.fz d) | _ => .st) := fun Q h => by
  split at h
  · rename_i d e
    obtain ⟨v, e1, e2⟩ := r.fz i d e
    refine ⟨tVar i, fun X hX => pe_var (by rw [kx.N X hX]; exact h1) ?_ (nodb_dbg h3) (nodb_cls h3), v, e1, EvV.val h r.same e2⟩
    rw [kx.sc X hX]
    unfold visC at h2
    split at h2
    · rename_i e; exact .inl e
    · rename_i e; exact .inr (.inl e)
    · rename_i e; exact .inr (.inr e)
    · cases h2
  · exact h.elim
theorem w_glb {x : Str} {p : Pos} (kx : Kx Xs M T W c) (s : Same G H) (h : gloC c x = true) : SV Xs M E σ G H (.Name x p) (match T.cst x with | some d => .ok (.fz d) | none => .st) := fun Q q => by
  split at q
  · rename_i d e
    obtain ⟨u, v, e1, e2, e3⟩ := kx.cst x d e
    exact ⟨tC v, fun X hX => pe_glob (kx.gl h X hX) (by rw [kx.mg X hX]; exact e1) e2 (nodb_dbg (glo_nodb h)), EvV.val q s (e3 G)⟩
  · exact q.elim
theorem w_bin {op : Operator} {xa xb : Expr} {p : Pos} {fa fb : R EV} (kx : Kx Xs M T W c) (ha : SV Xs M E σ G H xa fa) (hb : ∀ G' H', Ext G H G' H' → SV Xs M E σ G' H' xb fb) (s : Same G H) :
    SV Xs M E σ G H (.BinOp xa op xb p) (fa.bind fun x => fb.bind fun y => opBin op x.d y.d) := fun Q h => by
  refine ⟨_, fun X hX => pe_op (op_w hX) (pe_w hX) (pe_w hX), ?_⟩
  refine ha.use h.bind fun x v G1 H1 z e1 r1 => ?_
  refine (hb G1 H1 e1).use (GOk.mono (GOk.bind z) e1) fun y u G2 H2 z2 e2 r2 => ?_
  exact s_bin kx e2.i (Rep.mono e2.g _ _ r1) r2 ((GOk.mono z2 (e1.trans e2)).imp fun w hw => EvV.mono hw (e1.trans e2))
theorem w_cmp {op : CmpOp} {xa xb : Expr} {p : Pos} {fa fb : R EV} (kx : Kx Xs M T W c) (ha : SV Xs M E σ G H xa fa) (hb : ∀ G' H', Ext G H G' H' → SV Xs M E σ G' H' xb fb) (hm : behindInMarks op xb = false) :
    SV Xs M E σ G H (.Compare xa [op] [xb] p) (fa.bind fun x => fb.bind fun y => (opCmp op x.d y.d).map fun b => .fz (.bl b)) := fun Q h => by
  refine ⟨_, fun X hX => pe_cmpR (op_w hX) (pe_w hX) (pe_w hX) hm, ?_⟩
  refine ha.use h.bind fun x v G1 H1 z e1 r1 => ?_
  refine (hb G1 H1 e1).use (GOk.mono (GOk.bind z) e1) fun y u G2 H2 z2 e2 r2 => ?_
  refine s_cmp kx e2.i (Rep.mono e2.g _ _ r1) r2 (GOk.mono (GOk.map z2) (e1.trans e2)) fun b hb => ?_
  exact hb _ _ _ (e1.trans e2) Rep.bl
theorem b_cmp {op : CmpOp} {xa xb : Expr} {p : Pos} {fa fb : R EV} (kx : Kx Xs M T W c) (ha : SV Xs M E σ G H xa fa) (hb : ∀ G' H', Ext G H G' H' → SV Xs M E σ G' H' xb fb) (hm : behindInMarks op xb = false) :
    SB Xs M E σ G H (.Compare xa [op] [xb] p) ((fa.bind fun x => fb.bind fun y => (opCmp op x.d y.d).map fun b => .fz (.bl b)).bind asBool) := fun Q h => by
  refine ⟨_, fun X hX => pt_cmpR (op_w hX) (pe_w hX) (pe_w hX) hm, ?_⟩
  refine ha.use (GOk.bind (GOk.bind h)) fun x v G1 H1 z e1 r1 => ?_
  refine (hb G1 H1 e1).use (GOk.mono (GOk.bind z) e1) fun y u G2 H2 z2 e2 r2 => ?_
  refine s_cmp kx e2.i (Rep.mono e2.g _ _ r1) r2 (GOk.mono (GOk.map z2) (e1.trans e2)) fun b hb => ?_
  exact ⟨b, rfl, hb _ _ (e1.trans e2)⟩
theorem w_un {op : UnaryOp} {xa : Expr} {p : Pos} {fa : R EV} {g : EV → R EV} (ha : SV Xs M E σ G H xa fa)
    (hg : ∀ x v G' H' Q, Same G' H' → Rep M G' x.d v → GOk M E G' H' (EvV M G' H' Q) (g x) → UnW Xs (unaryOp op) v H' Q) : SV Xs M E σ G H (.UnaryOp op xa p) (fa.bind g) := fun Q h => by
  refine ⟨_, fun X hX => pe_un (un_w hX) (pe_w hX), ?_⟩
  refine ha.use h.bind fun x v G1 H1 z e1 r1 => ?_
  exact hg x v G1 H1 Q e1.i r1 ((GOk.mono z e1).imp fun w hw => EvV.mono hw e1)
theorem w_not {xa : Expr} {p : Pos} {fa : R EV} (ha : SV Xs M E σ G H xa fa) : SV Xs M E σ G H (.UnaryOp .Not xa p) (fa.bind fun x => (asBool x).map fun b => .fz (.bl (!b))) := fun Q h => by
  refine ⟨_, fun X hX => pe_not (pe_w hX), ?_⟩
  refine ha.use h.bind fun x v G1 H1 z e1 r1 => ?_
  obtain ⟨b, hb, q⟩ := asBool_ok (GOk.map z)
  rw [hb] at r1
  obtain rfl := r1.bl'
  exact ⟨b, rfl, q _ _ _ e1 Rep.bl⟩
theorem b_not {xa : Expr} {p : Pos} {fa : R EV} (ha : SB Xs M E σ G H xa (fa.bind asBool)) : SB Xs M E σ G H (.UnaryOp .Not xa p) ((fa.bind fun x => (asBool x).map fun b => .fz (.bl (!b))).bind asBool) := fun Q h => by
  refine ⟨_, fun X hX => pt_not (pt_w hX), ?_⟩
  refine ha.use (Z := fun b => ∀ G' H', Ext G H G' H' → Q (!b) H') ?_ fun b G' H' z e => z G' H' e
  refine GOk.ofBind ((GOk.bind (GOk.bind h)).imp fun x z => ?_)
  exact GOk.map z
theorem w_and {xa y : Expr} {rs : List Expr} {p : Pos} {fa fb : R EV} (ha : SV Xs M E σ G H xa fa) (hb : ∀ G' H', Ext G H G' H' → SV Xs M E σ G' H' (.BoolOp .And (y :: rs) p) fb) :
    SV Xs M E σ G H (.BoolOp .And (xa :: y :: rs) p) (fa.bind fun x => (asBool x).bind fun c => if c = true then fb else .ok (.fz (.bl false))) := fun Q h => by
  refine ⟨_, fun X hX => pe_and (pe_w hX) (pe_w hX), ?_⟩
  refine ha.use h.bind fun x v G1 H1 z e1 r1 => ?_
  obtain ⟨b, hx, q⟩ := asBool_ok (GOk.bind z)
  rw [hx] at r1
  obtain rfl := r1.bl'
  refine ⟨b, rfl, ?_⟩
  cases b with
  | true => exact hb G1 H1 e1 Q ((GOk.mono q e1).imp fun w hw => EvV.mono hw e1)
  | false => exact q _ _ _ e1 Rep.bl
theorem w_or {xa y : Expr} {rs : List Expr} {p : Pos} {fa fb : R EV} (ha : SV Xs M E σ G H xa fa) (hb : ∀ G' H', Ext G H G' H' → SV Xs M E σ G' H' (.BoolOp .Or (y :: rs) p) fb) :
    SV Xs M E σ G H (.BoolOp .Or (xa :: y :: rs) p) (fa.bind fun x => (asBool x).bind fun c => if c = true then .ok (.fz (.bl true)) else fb) := fun Q h => by
  refine ⟨_, fun X hX => pe_or (pe_w hX) (pe_w hX), ?_⟩
  refine ha.use h.bind fun x v G1 H1 z e1 r1 => ?_
  obtain ⟨b, hx, q⟩ := asBool_ok (GOk.bind z)
  rw [hx] at r1
  obtain rfl := r1.bl'
  refine ⟨b, rfl, ?_⟩
  cases b with
  | false => exact hb G1 H1 e1 Q ((GOk.mono q e1).imp fun w hw => EvV.mono hw e1)
  | true => exact q _ _ _ e1 Rep.bl
theorem w_one {op : BoolOp} {y : Expr} {p : Pos} {f : R EV} (h : SV Xs M E σ G H y f) : SV Xs M E σ G H (.BoolOp op [y] p) f := fun Q q => ⟨_, fun X hX => pe_one (pe_w hX), h Q q⟩
/-- a test, whatever its whole is -/
def SW (Xs : Cx → Prop) (M : Md) (E : XK) (σ : L2.St) (G H : Hp) (ex : Expr) (f : R Bool) : Prop := ∀ Q, GOk M E G H (fun b => ∀ G' H', Ext G H G' H' → Q b H') f → WW Xs ex σ H Q
theorem SW.sb {ex : Expr} {f : R Bool} (h : SW Xs M E σ G H ex f) : SB Xs M E σ G H ex f := fun Q q => by
  obtain ⟨t, a, b⟩ := h Q q
  exact ⟨t, fun X hX => (a X hX).pt, b⟩
theorem b_and {xa y : Expr} {rs : List Expr} {p : Pos} {fa fb : R EV} (ha : SB Xs M E σ G H xa (fa.bind asBool)) (hb : ∀ G' H', Ext G H G' H' → SW Xs M E σ G' H' (.BoolOp .And (y :: rs) p) (fb.bind asBool)) :
    SW Xs M E σ G H (.BoolOp .And (xa :: y :: rs) p) ((fa.bind fun x => (asBool x).bind fun c => if c = true then fb else .ok (.fz (.bl false))).bind asBool) := fun Q h => by
  refine ⟨_, fun X hX => pw_and (pt_w hX) (pw_w hX), ?_⟩
  refine ha.use (Z := fun b => GOk M E G H (fun b => ∀ G' H', Ext G H G' H' → Q b H') ((if b = true then fb else .ok (.fz (.bl false))).bind asBool)) ?_ fun b G1 H1 z e1 => ?_
  · exact GOk.ofBind ((GOk.bind (GOk.bind h)).imp fun x z => (GOk.bind z).imp fun b q => GOk.ofBind q)
  · cases b with
    | true => exact hb G1 H1 e1 Q ((GOk.mono z e1).imp fun b q G' H' x => q G' H' (e1.trans x))
    | false => exact z _ _ e1
theorem b_or {xa y : Expr} {rs : List Expr} {p : Pos} {fa fb : R EV} (ha : SB Xs M E σ G H xa (fa.bind asBool)) (hb : ∀ G' H', Ext G H G' H' → SW Xs M E σ G' H' (.BoolOp .Or (y :: rs) p) (fb.bind asBool)) :
    SW Xs M E σ G H (.BoolOp .Or (xa :: y :: rs) p) ((fa.bind fun x => (asBool x).bind fun c => if c = true then .ok (.fz (.bl true)) else fb).bind asBool) := fun Q h => by
  refine ⟨_, fun X hX => pw_or (pt_w hX) (pw_w hX), ?_⟩
  refine ha.use (Z := fun b => GOk M E G H (fun b => ∀ G' H', Ext G H G' H' → Q b H') ((if b = true then .ok (.fz (.bl true)) else fb).bind asBool)) ?_ fun b G1 H1 z e1 => ?_
  · exact GOk.ofBind ((GOk.bind (GOk.bind h)).imp fun x z => (GOk.bind z).imp fun b q => GOk.ofBind q)
  · cases b with
    | false => exact hb G1 H1 e1 Q ((GOk.mono z e1).imp fun b q G' H' x => q G' H' (e1.trans x))
    | true => exact z _ _ e1
theorem b_and1 {y : Expr} {p : Pos} {f : R Bool} (h : SB Xs M E σ G H y f) : SW Xs M E σ G H (.BoolOp .And [y] p) f := fun Q q => ⟨_, fun X hX => pw_and1 (pt_w hX), h Q q⟩
theorem b_or1 {y : Expr} {p : Pos} {f : R Bool} (h : SB Xs M E σ G H y f) : SW Xs M E σ G H (.BoolOp .Or [y] p) f := fun Q q => ⟨_, fun X hX => pw_or1 (pt_w hX), h Q q⟩
theorem w_ite {xt xa xb : Expr} {p : Pos} {ft fa fb : R EV} (ht : SB Xs M E σ G H xt (ft.bind asBool)) (ha : ∀ G' H', Ext G H G' H' → SV Xs M E σ G' H' xa fa) (hb : ∀ G' H', Ext G H G' H' → SV Xs M E σ G' H' xb fb) :
    SV Xs M E σ G H (.IfExp xt xa xb p) (ft.bind fun x => (asBool x).bind fun c => if c = true then fa else fb) := fun Q h => by
  refine ⟨_, fun X hX => pe_ifExp (pt_w hX) (pe_w hX) (pe_w hX), ?_⟩
  refine ht.use (Z := fun b => GOk M E G H (EvV M G H Q) (if b = true then fa else fb)) ?_ fun b G1 H1 z e1 => ?_
  · exact GOk.ofBind ((GOk.bind h).imp fun x z => GOk.bind z)
  · cases b with
    | true => exact ha G1 H1 e1 Q ((GOk.mono z e1).imp fun w hw => EvV.mono hw e1)
    | false => exact hb G1 H1 e1 Q ((GOk.mono z e1).imp fun w hw => EvV.mono hw e1)
theorem w_call {f : Str} {e : Expr} {es : List Expr} {p p2 : Pos} {fl : R (List D)} (kx : Kx Xs M T W c) (hh : c.hot = false) (hf : f ∈ c.fns) (hg : gloC c f = true) (hall : (e :: es).all nst = true) (ha : SL Xs M (fun cls d H' => W cls d σ H') σ G H (e :: es) fl) :
    SV Xs M (fun cls d H' => W cls d σ H') σ G H (.Call (.Name f p) (e :: es) [] p2) (fl.bind fun ds => T.call f ds) := fun Q h => by
  simp only [List.all_cons, Bool.and_eq_true] at hall
  obtain ⟨k, fa, fd, ps, F, hr, hm, hk, hb, hlen⟩ := kx.fns hh f hf
  refine ⟨tCallSD (spOf M ps.length (T.call f)) [] (fun σ => WE W σ) (WA Xs (e :: es)), fun X hX => ?_, ?_⟩
  · refine pe_callSD (k := k) (f := fa) (fd := fd) (ps := ps) (CX := L2.CX X.prog X.w) ?_ (hr X hX) (kx.gl hg X hX) (by rw [kx.mg X hX]; exact hm) (by rw [kx.K X hX]; exact hk) (by rw [kx.K X hX]; exact hb) .nil (fun σ => passAt (kx.tk X hX) σ) (pa_w hX) (nodb_dbg (glo_nodb hg)) (starE hall.1 _ _) (starAny hall.2 _ _)
    rw [kx.P X hX, kx.w X hX, kx.K X hX, kx.mg X hX, kx.base X hX]
    exact F
  · refine ha.use h.bind fun ds vs G1 H1 z e1 r1 => ?_
    have hl : ds.length = ps.length := by
      by_cases hl : ds.length = ps.length
      · exact hl
      · rw [hlen ds hl] at z; exact z.elim
    rw [List.append_nil]
    exact ⟨by rw [r1.length, hl], G1, ds, e1.i, r1, (GOk.mono z e1).imp fun w hw => EvV.mono hw e1⟩
theorem Bi.boot (f : Bi) (h : f.math = false) : bootBuiltins f.name = some (biVal f) := by
  cases f <;> first | (cases h; done) | decide +kernel
theorem w_bi {f : Bi} {e : Expr} {es : List Expr} {p p2 : Pos} {fl : R (List D)} (kx : Kx Xs M T W c) (hg : (if f.math then gloC c f.name && decide (f.name ∈ c.im) else bltC c f.name) = true) (hcool : f.cool = true → c.hot = false) (hall : (e :: es).all nst = true)
    (ha : SL Xs M E σ G H (e :: es) fl) : SV Xs M E σ G H (.Call (.Name f.name p) (e :: es) [] p2) (fl.bind fun ds => evBi f ds) := fun Q h => by
  simp only [List.all_cons, Bool.and_eq_true] at hall
  have key : WA Xs (e :: es) σ H fun vs H1 => CallW Xs (biVal f) vs H1 Q := by
    refine ha.use h.bind fun ds vs G1 H1 z e1 r1 => ?_
    exact s_bi kx hcool e1.i r1 ((GOk.mono z e1).imp fun w hw => EvV.mono hw e1)
  cases hm : f.math with
  | true =>
    rw [hm] at hg
    simp only [if_true, Bool.and_eq_true, decide_eq_true_eq] at hg
    obtain ⟨hg, him⟩ := hg
    cases f <;> first | (cases hm; done) | skip
    · exact ⟨_, fun X hX => pe_callBfun (call_w hX) (kx.gl hg X hX) (by rw [kx.mg X hX]; exact kx.gcd him) (pa_w hX) (nodb_dbg (glo_nodb hg)) (starE hall.1 _ _) (starAny hall.2 _ _), key⟩
    · exact ⟨_, fun X hX => pe_callBfun (call_w hX) (kx.gl hg X hX) (by rw [kx.mg X hX]; exact kx.lcm him) (pa_w hX) (nodb_dbg (glo_nodb hg)) (starE hall.1 _ _) (starAny hall.2 _ _), key⟩
  | false =>
    rw [hm] at hg
    simp only [Bool.false_eq_true, if_false] at hg
    have hb := Bi.boot f hm
    have hn := glo_nodb (blt_glo hg)
    cases f <;> first
      | (cases hm; done)
      | exact ⟨_, fun X hX => pe_callB (call_w hX) (kx.gl (blt_glo hg) X hX) (kx.blm hg X hX) hb (pa_w hX) (nodb_name hn) (nodb_dbg hn) (starE hall.1 _ _) (starAny hall.2 _ _), key⟩
      | exact ⟨_, fun X hX => pe_callTy (call_w hX) (kx.gl (blt_glo hg) X hX) (kx.blm hg X hX) hb (pa_w hX) (nodb_name hn) (nodb_dbg hn) (starE hall.1 _ _) (starAny hall.2 _ _), key⟩
theorem w_me {m : Me} {xo e : Expr} {ap p : Pos} {fo fe : R EV} (kx : Kx Xs M T W c) (hn : nst e = true) (hs : nsup xo = true) (hp : ap.endLine = p.line)
    (ho : SV Xs M E σ G H xo fo) (he : ∀ G' H', Ext G H G' H' → SV Xs M E σ G' H' e fe) :
    SV Xs M E σ G H (.Call (.Attribute xo m.name ap) [e] [] p) (fo.bind fun x => match x.d with | .str a => (fe.bind fun y => .ok [y.d]).bind fun ds => evMe m a ds | _ => .st) := fun Q h => by
  have hl : (ap.endLine == p.line) = true := by rw [hp]; exact beq_self_eq_true _
  have key : tM1 (MtW Xs (meId m)) (WP Xs xo) (WP Xs e) σ H Q := by
    refine ho.use h.bind fun x v G1 H1 z e1 r1 => ?_
    split at z
    · rename_i a ea
      rw [ea] at r1
      obtain rfl := r1.str'
      refine ⟨⟨a, rfl⟩, ?_⟩
      refine (he G1 H1 e1).use (GOk.mono (GOk.bind (GOk.bind z)) e1) fun y u G2 H2 z2 e2 r2 => ?_
      exact s_me kx e2.i r2 ((GOk.mono (show GOk M E G H (EvV M G H Q) (evMe m a [y.d]) from z2) (e1.trans e2)).imp fun w hw => EvV.mono hw (e1.trans e2))
    · exact z.elim
  cases m with
  | part => exact ⟨_, fun X hX => pe_m1 F.slot_str_partition F.type_str_partition (mt_w hX) (pe_w hX) (pe_w hX) (by rw [starE hn]; rfl) (supId hs _ _ _) hl, key⟩
  | split => exact ⟨_, fun X hX => pe_m1 F.slot_str_split F.type_str_split (mt_w hX) (pe_w hX) (pe_w hX) (by rw [starE hn]; rfl) (supId hs _ _ _) hl, key⟩
  | join => exact ⟨_, fun X hX => pe_m1 F.slot_str_join F.type_str_join (mt_w hX) (pe_w hX) (pe_w hX) (by rw [starE hn]; rfl) (supId hs _ _ _) hl, key⟩
  | index => exact ⟨_, fun X hX => pe_m1 F.slot_str_index F.type_str_index (mt_w hX) (pe_w hX) (pe_w hX) (by rw [starE hn]; rfl) (supId hs _ _ _) hl, key⟩
theorem w_ix {xa xb : Expr} {p : Pos} {fa fb : R EV} (kx : Kx Xs M T W c) (ha : SV Xs M E σ G H xa fa) (hb : ∀ G' H', Ext G H G' H' → SV Xs M E σ G' H' xb fb) (hn : nslice xb = true) :
    SV Xs M E σ G H (.Subscript xa xb p) (fa.bind fun x => fb.bind fun y => opIx x.d y.d) := fun Q h => by
  refine ⟨_, fun X hX => pe_ix (ix_w hX) (pe_w hX) (pe_w hX) (plainIx hn), ?_⟩
  refine ha.use h.bind fun x v G1 H1 z e1 r1 => ?_
  refine (hb G1 H1 e1).use (GOk.mono (GOk.bind z) e1) fun y u G2 H2 z2 e2 r2 => ?_
  exact s_ix kx e2.i (Rep.mono e2.g _ _ r1) r2 ((GOk.mono z2 (e1.trans e2)).imp fun w hw => EvV.mono hw (e1.trans e2))
/-- a bound of a slice, written or not -/
def SO (Xs : Cx → Prop) (M : Md) (E : XK) (σ : L2.St) (G H : Hp) (ex : Option Expr) (f : R (Option Int)) : Prop :=
  ∀ Q, GOk M E G H (fun b => ∀ G' H', Ext G H G' H' → Q b H') f → WO Xs ex σ H Q
theorem o_none (s : Same G H) : SO Xs M E σ G H none (.ok none) := fun Q h => ⟨_, fun X hX => po_none, h G H (Ext.refl s)⟩
theorem o_some {ex : Expr} {f : R EV} (h : SV Xs M E σ G H ex f) : SO Xs M E σ G H (some ex) (f.bind fun l => slB l.d) := fun Q q => by
  refine ⟨_, fun X hX => po_some (pe_w hX), ?_⟩
  refine h.use (GOk.bind q) fun x v G1 H1 z e1 r1 => ?_
  unfold slB at z
  split at z
  · rename_i e
    rw [e] at r1
    obtain rfl := r1.int'
    exact ⟨_, rfl, z _ _ e1⟩
  · exact z.elim
theorem w_sl {xa : Expr} {l u : Option Expr} {p p2 : Pos} {fa : R EV} {fl fu : R (Option Int)} (kx : Kx Xs M T W c) (ha : SV Xs M E σ G H xa fa) (hl : ∀ G' H', Ext G H G' H' → SO Xs M E σ G' H' l fl) (hu : ∀ G' H', Ext G H G' H' → SO Xs M E σ G' H' u fu) :
    SV Xs M E σ G H (.Subscript xa (.Slice l u none p2) p) (fa.bind fun x => fl.bind fun l => fu.bind fun h => opSl x.d l h) := fun Q h => by
  refine ⟨_, fun X hX => pe_slice (sl_w hX) (pe_w hX) (po_w hX) (po_w hX), ?_⟩
  refine ha.use h.bind fun x v G1 H1 z e1 r1 => ?_
  refine hl G1 H1 e1 _ (GOk.mono ((GOk.bind z).imp fun lo z3 G2 H2 e2 => ?_) e1)
  refine hu G2 H2 (e1.trans e2) _ (GOk.mono ((GOk.bind z3).imp fun hi z5 G3 H3 e3 => ?_) (e1.trans e2))
  exact s_sl kx e3.i (Rep.mono (e2.g.trans e3.g) _ _ r1) ((GOk.mono z5 ((e1.trans e2).trans e3)).imp fun w hw => EvV.mono hw ((e1.trans e2).trans e3))
theorem w_tup {xs : List Expr} {k : Nat} {p : Pos} {fl : R (List D)} (ha : SL Xs M E σ G H xs fl) : SV Xs M E σ G H (.Tuple xs k p) (fl.bind fun ds => if ds.length ≤ sizeLine then .ok (.fz (.tup ds)) else .st) := fun Q h => by
  refine ⟨_, fun X hX => pe_tup (pa_w hX), ?_⟩
  refine ha.use h.bind fun ds vs G1 H1 z e1 r1 => ?_
  by_cases hl : ds.length ≤ sizeLine
  · rw [if_pos hl] at z
    exact ⟨by rw [r1.length]; exact hl, newTup (EvV.mono z e1) e1.i r1⟩
  · rw [if_neg hl] at z; exact z.elim
theorem w_ls {xs : List Expr} {p : Pos} {fl : R (List D)} (ha : SL Xs M E σ G H xs fl) : SV Xs M E σ G H (.List xs p) (fl.bind fun ds => if ds.length ≤ sizeLine then .ok (.fr (.lst ds)) else .st) := fun Q h => by
  refine ⟨_, fun X hX => pe_lst (pa_w hX), ?_⟩
  refine ha.use h.bind fun ds vs G1 H1 z e1 r1 => ?_
  by_cases hl : ds.length ≤ sizeLine
  · rw [if_pos hl] at z
    exact ⟨by rw [r1.length]; exact hl, newLst (EvV.mono z e1) e1.i r1⟩
  · rw [if_neg hl] at z; exact z.elim
theorem l_nil (s : Same G H) : SL Xs M E σ G H [] (.ok []) := fun Q h => ⟨_, fun X hX => pa_nil, h [] G H (Ext.refl s) (by unfold Reps; rfl)⟩
theorem l_cons {x : Expr} {xs : List Expr} {f : R EV} {fl : R (List D)} (hn : nst x = true) (ha : SV Xs M E σ G H x f) (hb : ∀ G' H', Ext G H G' H' → SL Xs M E σ G' H' xs fl) :
    SL Xs M E σ G H (x :: xs) (f.bind fun x => fl.map (x.d :: ·)) := fun Q h => by
  refine ⟨_, fun X hX => pa_cons (pe_w hX) (pa_w hX) (starE hn _ _), ?_⟩
  refine ha.use h.bind fun x v G1 H1 z e1 r1 => ?_
  refine (hb G1 H1 e1).use (GOk.mono (GOk.map z) e1) fun ds vs G2 H2 z2 e2 r2 => ?_
  exact z2 _ _ _ (e1.trans e2) (by unfold Reps; exact ⟨v, vs, rfl, Rep.mono e2.g _ _ r1, r2⟩)
/-- an f-string's part gives a text -/
def SJ (Xs : Cx → Prop) (M : Md) (E : XK) (σ : L2.St) (G H : Hp) (xs : List Expr) (acc : Str) (f : R Str) : Prop :=
  ∀ Q : Str → Hp → Prop, GOk M E G H (fun z => ∀ G' H', Ext G H G' H' → Q z H') f → tJs (xs.map (WP Xs)) acc σ H Q
theorem pj_w {X : Cx} (hX : Xs X) : ∀ xs : List Expr, PJ X xs (xs.map (WP Xs))
  | [] => .nil
  | x :: xs => .cons (pe_w hX) (pj_w hX xs)
theorem j_nil (s : Same G H) {acc : Str} : SJ Xs M E σ G H [] acc (.ok acc) := fun Q h => h G H (Ext.refl s)
theorem j_cons {x : Expr} {xs : List Expr} {acc : Str} {f : R EV} {fj : Str → R Str} (hx : ∀ Q : VK, GOk M E G H (fun x => ∀ y, strOf x.d = some y → ∀ G' H', Ext G H G' H' → Q (.str y) H') (f.bind fun x => match strOf x.d with | some _ => .ok x | none => .st) → WP Xs x σ H Q)
    (hj : ∀ y G' H', Ext G H G' H' → SJ Xs M E σ G' H' xs (acc ++ y) (fj (acc ++ y))) :
    SJ Xs M E σ G H (x :: xs) acc (f.bind fun x => match strOf x.d with | some y => if (acc ++ y).length ≤ sizeLine then fj (acc ++ y) else .st | none => .st) := fun Q h => by
  show WP Xs x σ H fun v H1 => ∃ y : Str, v = .str y ∧ (acc ++ y).length ≤ sizeLine ∧ tJs (xs.map (WP Xs)) (acc ++ y) σ H1 Q
  refine hx _ (GOk.ofBind ((GOk.bind h).imp fun x z => ?_))
  cases e : strOf x.d with
  | none => rw [e] at z; exact z.elim
  | some y =>
    rw [e] at z
    intro y' e' G1 H1 e1
    rw [e] at e'; cases e'
    by_cases hl : (acc ++ y).length ≤ sizeLine
    · simp only [if_pos hl] at z
      exact ⟨y, rfl, hl, hj y G1 H1 e1 Q ((GOk.mono z e1).imp fun w q G' H' e2 => q G' H' (e1.trans e2))⟩
    · simp only [if_neg hl] at z; exact z.elim
theorem j_fmt {x : Expr} {p : Pos} {f : R EV} (hv : SV Xs M E σ G H x f) : ∀ Q : VK, GOk M E G H (fun x => ∀ y, strOf x.d = some y → ∀ G' H', Ext G H G' H' → Q (.str y) H') (f.bind fun x => match strOf x.d with | some _ => .ok x | none => .st) → WP Xs (.FormattedValue x (-1) none p) σ H Q := fun Q h => by
  refine ⟨_, fun X hX => pe_fmt (pe_w hX), ?_⟩
  refine hv.use (GOk.bind h) fun x v G1 H1 z e1 r1 => ?_
  cases e : strOf x.d with
  | none => rw [e] at z; exact z.elim
  | some y =>
    rw [e] at z
    have q := z y e
    cases ed : x.d <;> rw [ed] at e r1 <;> simp only [strOf] at e <;> first | (cases e; done) | skip
    · rename_i i
      obtain rfl := r1.int'
      by_cases hl : lgI i < 1920
      · rw [if_pos hl] at e; cases e
        exact .inr ⟨i, rfl, hl, q _ _ e1⟩
      · rw [if_neg hl] at e; cases e
    · rename_i w
      obtain rfl := r1.str'
      by_cases hl : w.length ≤ sizeLine
      · rw [if_pos hl] at e; cases e
        exact .inl ⟨_, rfl, hl, q _ _ e1⟩
      · rw [if_neg hl] at e; cases e
theorem j_str {s : Str} {k : Nat} {p : Pos} (sm : Same G H) : ∀ Q : VK, GOk M E G H (fun (x : EV) => ∀ y, strOf x.d = some y → ∀ G' H', Ext G H G' H' → Q (.str y) H') (R.bind (R.ok (EV.fz (D.str s))) fun (x : EV) => match strOf x.d with | some _ => R.ok x | none => R.st) → WP Xs (.Constant (.str s) k p) σ H Q := fun Q h => by
  refine ⟨_, fun X hX => pe_str, ?_⟩
  have h := GOk.bind h
  cases e : strOf (EV.fz (.str s)).d with
  | none => simp only [GOk, e] at h
  | some y =>
    have e2 : y = s := by
      unfold strOf at e
      simp only [EV.d_fz] at e
      split at e <;> cases e
      rfl
    subst e2
    simp only [GOk, e] at h
    exact h _ rfl G H (Ext.refl sm)
theorem w_fst {v1 v2 : Expr} {vs : List Expr} {p : Pos} {f : R Str} (h : SJ Xs M E σ G H (v1 :: v2 :: vs) Str.empty f) : SV Xs M E σ G H (.JoinedStr (v1 :: v2 :: vs) p) (f.map fun s => .fz (.str s)) := fun Q q => by
  refine ⟨_, fun X hX => pe_joined (pj_w hX _), ?_⟩
  refine h _ ((GOk.map q).imp fun z hz G' H' e => ?_)
  exact hz _ _ _ e Rep.str
end
end PX

set_option Elab.async false
set_option linter.all false
set_option maxRecDepth 100000
/-! Px9: a checked expression computes what evE says: the whole. -/
namespace PX
open PySem PySem.Spec PyProof.Rows L2

def plainTst : Expr → Bool
  | .IfExp _ _ _ _ => false
  | .UnaryOp .Not _ _ => false
  | .BoolOp _ _ _ => false
  | .Compare _ _ _ _ => false
  | _ => true
theorem plainTst_val {e : Expr} (h : plainTst e = true) (env : Env) (whole : Sem Value) : isTrue e env whole = (do let v ← whole; standAt e.pos; holding [v] (truthy v)) := by
  cases e <;> first | rfl | (cases h; done) | skip
  rename_i op x p
  cases op <;> first | rfl | cases h
set_option maxHeartbeats 4000000
section
variable {M : Md} {T : Tb} {G0 H0 : Hp}
/-- as a value and, where the rules know how its truth is asked, as a test -/
def SE (Xs : Cx → Prop) (M : Md) (E : XK) (σ : L2.St) (G H : Hp) (ex : Expr) (f : R EV) : Prop := SV Xs M E σ G H ex f ∧ (tstOk ex = true → SB Xs M E σ G H ex (f.bind asBool))
abbrev WK (W : WX) (σ : L2.St) : XK := fun cls d H' => W cls d σ H'
theorem SE.plain {Xs : Cx → Prop} {E : XK} {σ : L2.St} {G H : Hp} {ex : Expr} {f : R EV} (h : SV Xs M E σ G H ex f) (hp : plainTst ex = true) : SE Xs M E σ G H ex f :=
  ⟨h, fun _ => SV.test h fun env whole => plainTst_val hp env whole⟩
theorem RepF.look {G : Hp} {d : D} {f : Str} : ∀ {fs : List (Str × D)} {ws : List (Str × V)}, RepF M G fs ws → fs.lookup f = some d → ∃ v, ws.lookup f = some v ∧ Rep M G d v := by
  intro fs
  induction fs with
  | nil => intro ws _ h; cases h
  | cons q fs ih =>
    intro ws hw h
    obtain ⟨k, d'⟩ := q
    unfold RepF at hw
    obtain ⟨v, r, rfl, r1, r2⟩ := hw
    rw [List.lookup_cons] at h ⊢
    cases hk : (f == k) with
    | true => rw [hk] at h; cases h; exact ⟨v, rfl, r1⟩
    | false => rw [hk] at h; exact ih r2 h
theorem w_fld {Xs : Cx → Prop} {W : WX} {c : Cs} {E : XK} {σ : L2.St} {G H : Hp} {xo : Expr} {f : Str} {p : Pos} {fo : R EV} (kx : Kx Xs M T W c) (ho : SV Xs M E σ G H xo fo) (hs : nsup xo = true) (hf : f ∈ c.flds) :
    SV Xs M E σ G H (.Attribute xo f p) (fo.bind fun x => match x.d with | .obj cl fs => (match fs.lookup f, T.oc cl with | some d, true => .ok (.fz d) | _, _ => .st) | _ => .st) := fun Q h => by
  refine ⟨tFld M.K (WP Xs xo) f, fun X hX => by rw [← kx.K X hX]; exact pe_fld (pe_w hX) (supId hs _ _ _), ?_⟩
  refine ho.use h.bind fun x v G1 H1 z e1 r1 => ?_
  cases ed : x.d <;> rw [ed] at z r1 <;> first | exact z.elim | skip
  rename_i cl fs
  unfold Rep at r1
  obtain ⟨a, C, dx, ws, rfl, k1, k2, k3, k4⟩ := r1
  cases el : fs.lookup f with
  | none => simp only [el] at z; exact z.elim
  | some d =>
   cases eo : T.oc cl with
   | false => simp only [el, eo] at z; exact z.elim
   | true =>
    simp only [el, eo] at z
    obtain ⟨v, e1', e2'⟩ := RepF.look k4 el
    obtain ⟨hC, hN⟩ := kx.obj cl C f eo k1 hf
    exact ⟨a, C, dx, ws, v, rfl, e1.i _ _ k2, hC, hN, e1', EvV.val (EvV.mono z e1) e1.i e2'⟩
theorem w_nameX {Xs : Cx → Prop} {W : WX} {c : Cs} {σ : L2.St} {G H : Hp} {i : Nat} {x : Str} {p : Pos} {v : V} {Q : VK} (kx : Kx Xs M T W c) (h1 : c.N[i]? = some x) (h2 : visC c.sc x = true) (h3 : nodb x = true) (e : σ[i]? = some (some v)) (q : Q v H) : WP Xs (.Name x p) σ H Q := by
  refine ⟨tVar i, fun X hX => pe_var (by rw [kx.N X hX]; exact h1) ?_ (nodb_dbg h3) (nodb_cls h3), v, e, q⟩
  rw [kx.sc X hX]
  unfold visC at h2
  split at h2
  · rename_i e; exact .inl e
  · rename_i e; exact .inr (.inl e)
  · rename_i e; exact .inr (.inr e)
  · cases h2
theorem w_isE {Xs : Cx → Prop} {W : WX} {c : Cs} {E : XK} {ρ : Rho} {σ : L2.St} {G H : Hp} {i : Nat} {x C : Str} {p1 p2 p3 p4 : Pos} (kx : Kx Xs M T W c) (r : Rel M G0 H0 ρ σ G H) (h0 : c.hot = true) (h1 : bltC c "isinstance" = true) (h2 : gloC c C = true) (h3 : c.N[i]? = some x) (h4 : visC c.sc x = true) (h5 : nodb x = true) :
    SV Xs M E σ G H (.Call (.Name "isinstance" p1) [.Name x p2, .Name C p3] [] p4) (match ρ[i]? with | some (.xc cc _) => (match T.sub cc C with | some b => .ok (.fz (.bl b)) | none => .st) | _ => .st) := fun Q h => by
  split at h
  · rename_i cc fs e
    obtain ⟨v, e1, a, D, d, m1, rfl, m2, m3⟩ := r.xc i cc fs e
    split at h
    · rename_i b eb
      obtain ⟨a', D', d', cc', m1', m2', hsu⟩ := kx.hot h0
      rw [m1] at m1'; cases m1'
      obtain ⟨cv, u, hu, hu2, hm, hc⟩ := (kx.su a D d cc m2 Xs hsu).1 cc C b eb m2
      have hn := glo_nodb (blt_glo h1)
      refine ⟨tCB (CallW Xs (.builtin "isinstance")) (tCons (WP Xs (.Name x p2)) (tCons (tC cv) tNil)), fun X hX => ?_, ?_⟩
      · refine pe_callB (call_w hX) (kx.gl (blt_glo h1) X hX) (kx.blm h1 X hX) (by decide +kernel) (pa_cons (pe_w hX) (pa_cons ?_ pa_nil)) (nodb_name hn) (nodb_dbg hn)
        rcases hm with hm | ⟨hm, hb⟩
        · exact pe_glob (kx.gl h2 X hX) (by rw [kx.mg X hX]; exact hm) hu (nodb_dbg (glo_nodb h2))
        · exact pe_bltn (kx.gl h2 X hX) (by rw [kx.mg X hX]; exact hm) hb hu (nodb_name (glo_nodb h2)) (nodb_dbg (glo_nodb h2))
      · refine w_nameX (G := G) kx h3 h4 h5 e1 ?_
        have q : Q (.bl b) H := EvV.val h r.same Rep.bl
        by_cases hX : ∃ X, Xs X
        · obtain ⟨X, hX⟩ := hX
          exact hc X hX H Q (m3.imp (fun z => z.2) fun ⟨e', ws, z1, z2, _⟩ => ⟨e', ws, z1, r.same _ _ z2⟩) q
        · exact ⟨fun _ _ _ => True, fun X z => absurd ⟨X, z⟩ hX, trivial⟩
    · exact h.elim
  · exact h.elim
theorem w_exf {Xs : Cx → Prop} {W : WX} {c : Cs} {E : XK} {ρ : Rho} {σ : L2.St} {G H : Hp} {i : Nat} {x f : Str} {p1 p2 : Pos} (kx : Kx Xs M T W c) (r : Rel M G0 H0 ρ σ G H) (h0 : c.hot = true) (h3 : c.N[i]? = some x) (h4 : visC c.sc x = true) (h5 : nodb x = true) (h6 : f ∈ c.xfl) :
    SV Xs M E σ G H (.Attribute (.Name x p1) f p2) (match ρ[i]? with | some (.xc c fs) => (match fs.lookup f, T.sub c c with | some d, some _ => .ok (.fz d) | _, _ => .st) | _ => .st) := fun Q h => by
  split at h
  · rename_i cc fs e
    obtain ⟨v, e1, a, D, d, m1, rfl, m2, m3⟩ := r.xc i cc fs e
    split at h
    · rename_i dd sb ed es
      rcases m3 with ⟨rfl, _⟩ | ⟨q, ws, rfl, m4, m5⟩
      · cases ed
      · obtain ⟨w, e2, e3⟩ := RepF.look m5 ed
        obtain ⟨a', D', d', cc', m1', m2', hsu⟩ := kx.hot h0
        rw [m1] at m1'; cases m1'
        refine ⟨_, fun X hX => (kx.su a D _ cc m2 Xs hsu).2 cc sb es m2 f h6 X hX (.Name x p1) p2 rfl, ?_⟩
        refine w_nameX (G := G) kx h3 h4 h5 e1 ⟨rfl, q, ws, w, rfl, r.same _ _ m4, e2, EvV.val h r.same e3⟩
    · exact h.elim
  · exact h.elim
/-- what a for, a comprehension walks -/
theorem sndI2 {k : ItK} {as : List E} {Xs : Cx → Prop} {W : WX} {c : Cs} (kx : Kx Xs M T W c) {it xtg : Expr} (h3 : chkI c (fun exs => chkL as c exs && exs.all nst) k it xtg = true) {ρ : Rho} {σ : L2.St} {G H : Hp} (r : Rel M G0 H0 ρ σ G H)
    (hL : ∀ xs, chkL as c xs = true → xs.all nst = true → SL Xs M (WK W σ) σ G H xs (evL T ρ as))
    (hA : ∀ ex, chkL as c [ex] = true → ∀ Q : VK, GOk M (WK W σ) G H (fun ds => ∀ d, ds = [d] → ∀ v G' H', Ext G H G' H' → Rep M G' d v → Q v H') (evL T ρ as) → WP Xs ex σ H Q)
    {R : It → Hp → Prop} (h : GOk M (WK W σ) G H (fun ds => GOk M (WK W σ) G H (fun items => ∀ J G' H', Ext G H G' H' → Wk2 M G' ds J items → R J H') (itemsOf k ds)) (evL T ρ as)) : WI Xs xtg it σ H R := by
  refine s_it kx r.same h3 (fun exs hf => ?_) (fun ex hf Q hq => ?_) h
  · rw [Bool.and_eq_true] at hf
    exact hL exs hf.1 hf.2
  · rw [Bool.and_eq_true] at hf
    exact hA ex hf.1 Q hq
theorem sndI {k : ItK} {as : List E} {Xs : Cx → Prop} {W : WX} {c : Cs} (kx : Kx Xs M T W c) {it xtg : Expr} (h3 : chkI c (fun exs => chkL as c exs && exs.all nst) k it xtg = true) {ρ : Rho} {σ : L2.St} {G H : Hp} (r : Rel M G0 H0 ρ σ G H)
    (hL : ∀ xs, chkL as c xs = true → xs.all nst = true → SL Xs M (WK W σ) σ G H xs (evL T ρ as))
    (hA : ∀ ex, chkL as c [ex] = true → ∀ Q : VK, GOk M (WK W σ) G H (fun ds => ∀ d, ds = [d] → ∀ v G' H', Ext G H G' H' → Rep M G' d v → Q v H') (evL T ρ as) → WP Xs ex σ H Q)
    {R : It → Hp → Prop} (h : GOk M (WK W σ) G H (fun items => ∀ J G' H', Ext G H G' H' → Wk M G' J items → R J H') ((evL T ρ as).bind (itemsOf k))) : WI Xs xtg it σ H R :=
  sndI2 kx h3 r hL hA ((GOk.bind h).imp fun ds z => z.imp fun items q J G' H' x w => q J G' H' x w.1)
/-- a comprehension -/
theorem sndC {own : List Nat} {tg : Tg} {k : ItK} {as ifs : List E} {el : E} {Xs : Cx → Prop} {W : WX} {c : Cs} (kx : Kx Xs M T W c) {scope : Scope} {it xtg xel : Expr} {xifs : List Expr} (h1 : c.hot = false) (h5 : chkTg (csB c scope) tg xtg = true)
    (h6 : tg.is.all (fun i => decide (i ∈ own)) = true) {ρ : Rho} {σ : L2.St} {G H : Hp} (r : Rel M G0 H0 ρ σ G H)
    (hi : ∀ {R : It → Hp → Prop}, GOk M (WK W σ) G H (fun items => ∀ J G' H', Ext G H G' H' → Wk M G' J items → R J H') ((evL T ρ as).bind (itemsOf k)) → WI Xs xtg it σ H R)
    (ht : ∀ {ρ σ G H Q}, Rel M G0 H0 ρ σ G H → GOk M (fun _ _ _ => False) G H (fun b => ∀ G' H', Ext G H G' H' → Q b H') (evT T ρ ifs) → WTs (Bk Xs scope) xifs σ H Q)
    (he : ∀ {ρ σ G H}, Rel M G0 H0 ρ σ G H → SV (Bk Xs scope) M (fun _ _ _ => False) σ G H xel (evE T ρ el)) (Q : VK)
    (h : GOk M (WK W σ) G H (EvV M G H Q) ((evL T ρ as).bind fun ds => (itemsOf k ds).bind fun xs => if xs.length ≤ sizeLine then (lcGo tg (fun ρ1 => evT T ρ1 ifs) (fun ρ1 => evE T ρ1 el) (wipeS ρ own) xs).nox.map fun ys => .fr (.lst ys) else .st)) :
    tLc (WI Xs xtg it) (WG (Bk Xs scope) xtg) (WTs (Bk Xs scope) xifs) (WP (Bk Xs scope) xel) own σ H Q := by
  have kb := kx.bk h1 scope
  refine s_lc (ts := fun ρ1 => evT T ρ1 ifs) (el := fun ρ1 => evE T ρ1 el) (fi := (evL T ρ as).bind (itemsOf k)) r hi (fun i hi => by have := List.all_eq_true.mp h6 i hi; exact of_decide_eq_true this)
    (fun r rd hq => s_tg kb h5 r rd hq) (fun {ρ σ G H Q} r hq => ht r hq) (fun {ρ σ G H} r => he r) ?_
  refine GOk.ofBind ?_
  exact (GOk.bind h).imp fun ds z => GOk.bind z
mutual
theorem sndE : ∀ (e : E) {Xs : Cx → Prop} {W : WX} {c : Cs} (kx : Kx Xs M T W c) (ex : Expr), chkE e c ex = true → ∀ {ρ : Rho} {σ : L2.St} {G H : Hp}, Rel M G0 H0 ρ σ G H → SE Xs M (WK W σ) σ G H ex (evE T ρ e)
  | .var i, Xs, W, c, kx, ex, hk, ρ, σ, G, H, r => by
    unfold chkE at hk
    split at hk <;> first | (cases hk; done) | skip
    simp only [Bool.and_eq_true, decide_eq_true_eq, Bool.not_eq_true'] at hk
    unfold evE
    exact SE.plain (w_name kx r hk.1.1 hk.1.2 hk.2) rfl
  | .non, Xs, W, c, kx, ex, hk, ρ, σ, G, H, r => by
    unfold chkE at hk
    split at hk <;> first | (cases hk; done) | skip
    unfold evE
    exact SE.plain (fun Q h => ⟨tC .non, fun X hX => pe_non, EvV.val h r.same Rep.non⟩) rfl
  | .bl b, Xs, W, c, kx, ex, hk, ρ, σ, G, H, r => by
    unfold chkE at hk
    split at hk <;> first | (cases hk; done) | skip
    have e := eq_of_beq hk
    subst e
    unfold evE
    exact SE.plain (fun Q h => ⟨tC (.bl _), fun X hX => pe_bl, EvV.val h r.same Rep.bl⟩) rfl
  | .int b, Xs, W, c, kx, ex, hk, ρ, σ, G, H, r => by
    unfold chkE at hk
    split at hk <;> first | (cases hk; done) | skip
    have e := of_decide_eq_true hk
    subst e
    unfold evE
    exact SE.plain (fun Q h => ⟨tC (.int _), fun X hX => pe_int, EvV.val h r.same Rep.int⟩) rfl
  | .str b, Xs, W, c, kx, ex, hk, ρ, σ, G, H, r => by
    unfold chkE at hk
    split at hk <;> first | (cases hk; done) | skip
    have e := of_decide_eq_true hk
    subst e
    unfold evE
    exact SE.plain (fun Q h => ⟨tC (.str _), fun X hX => pe_str, EvV.val h r.same Rep.str⟩) rfl
  | .glb x, Xs, W, c, kx, ex, hk, ρ, σ, G, H, r => by
    unfold chkE at hk
    split at hk <;> first | (cases hk; done) | skip
    simp only [Bool.and_eq_true, decide_eq_true_eq, Bool.not_eq_true'] at hk
    obtain ⟨rfl, hk⟩ := hk
    unfold evE
    exact SE.plain (w_glb kx r.same hk) rfl
  | .tyn x T', Xs, W, c, kx, ex, hk, ρ, σ, G, H, r => by
    unfold chkE at hk
    split at hk <;> first | (cases hk; done) | skip
    simp only [Bool.and_eq_true, decide_eq_true_eq, Bool.not_eq_true'] at hk
    obtain ⟨⟨rfl, hk⟩, hb⟩ := hk
    unfold evE
    have hn := glo_nodb (blt_glo hk)
    exact SE.plain (fun Q h => ⟨tC (.ty T'), fun X hX => pe_bltn (kx.gl (blt_glo hk) X hX) (kx.blm hk X hX) hb rfl (nodb_name hn) (nodb_dbg hn), EvV.val h r.same (by unfold Rep; rfl)⟩) rfl
  | .bin op a b, Xs, W, c, kx, ex, hk, ρ, σ, G, H, r => by
    unfold chkE at hk
    split at hk <;> first | (cases hk; done) | skip
    simp only [Bool.and_eq_true, decide_eq_true_eq, Bool.not_eq_true'] at hk
    obtain ⟨⟨rfl, h1⟩, h2⟩ := hk
    unfold evE
    exact SE.plain (w_bin kx (sndE a kx _ h1 r).1 (fun G' H' e => (sndE b kx _ h2 (r.later e)).1) r.same) rfl
  | .neg a, Xs, W, c, kx, ex, hk, ρ, σ, G, H, r => by
    unfold chkE at hk
    split at hk <;> first | (cases hk; done) | skip
    unfold evE
    refine SE.plain (w_un (sndE a kx _ hk r).1 fun x v G' H' Q s rx h => ?_) rfl
    cases ed : x.d <;> rw [ed] at h rx <;> first | exact h.elim | skip
    obtain rfl := rx.int'
    exact ⟨_, fun X hX => un_neg, _, rfl, EvV.val h s Rep.int⟩
  | .nt a, Xs, W, c, kx, ex, hk, ρ, σ, G, H, r => by
    unfold chkE at hk
    split at hk <;> first | (cases hk; done) | skip
    simp only [Bool.and_eq_true, decide_eq_true_eq, Bool.not_eq_true'] at hk
    have ih := sndE a kx _ hk.1 r
    unfold evE
    exact ⟨w_not ih.1, fun _ => b_not (ih.2 hk.2)⟩
  | .cmp op a b, Xs, W, c, kx, ex, hk, ρ, σ, G, H, r => by
    unfold chkE at hk
    split at hk <;> first | (cases hk; done) | skip
    simp only [Bool.and_eq_true, decide_eq_true_eq, Bool.not_eq_true'] at hk
    obtain ⟨⟨⟨rfl, h1⟩, h2⟩, h3⟩ := hk
    unfold evE
    exact ⟨w_cmp kx (sndE a kx _ h1 r).1 (fun G' H' e => (sndE b kx _ h2 (r.later e)).1) h3, fun _ => b_cmp kx (sndE a kx _ h1 r).1 (fun G' H' e => (sndE b kx _ h2 (r.later e)).1) h3⟩
  | .and a b, Xs, W, c, kx, ex, hk, ρ, σ, G, H, r => by
    unfold chkE at hk
    split at hk <;> first | (cases hk; done) | skip
    simp only [Bool.and_eq_true, decide_eq_true_eq, Bool.not_eq_true'] at hk
    obtain ⟨⟨h1, h2⟩, h3⟩ := hk
    have ih := sndE a kx _ h1 r
    unfold evE
    split at h3
    · simp only [Bool.and_eq_true] at h3
      exact ⟨w_and ih.1 fun G' H' e => w_one (sndE b kx _ h3.1 (r.later e)).1, fun _ => (b_and (ih.2 h2) fun G' H' e => b_and1 ((sndE b kx _ h3.1 (r.later e)).2 h3.2)).sb⟩
    · exact ⟨w_and ih.1 fun G' H' e => (sndE b kx _ h3 (r.later e)).1, fun _ => (b_and (ih.2 h2) fun G' H' e => sndW b kx h3 (r.later e)).sb⟩
  | .or a b, Xs, W, c, kx, ex, hk, ρ, σ, G, H, r => by
    unfold chkE at hk
    split at hk <;> first | (cases hk; done) | skip
    simp only [Bool.and_eq_true, decide_eq_true_eq, Bool.not_eq_true'] at hk
    obtain ⟨⟨h1, h2⟩, h3⟩ := hk
    have ih := sndE a kx _ h1 r
    unfold evE
    split at h3
    · simp only [Bool.and_eq_true] at h3
      exact ⟨w_or ih.1 fun G' H' e => w_one (sndE b kx _ h3.1 (r.later e)).1, fun _ => (b_or (ih.2 h2) fun G' H' e => b_or1 ((sndE b kx _ h3.1 (r.later e)).2 h3.2)).sb⟩
    · exact ⟨w_or ih.1 fun G' H' e => (sndE b kx _ h3 (r.later e)).1, fun _ => (b_or (ih.2 h2) fun G' H' e => sndW b kx h3 (r.later e)).sb⟩
  | .ite t a b, Xs, W, c, kx, ex, hk, ρ, σ, G, H, r => by
    unfold chkE at hk
    split at hk <;> first | (cases hk; done) | skip
    simp only [Bool.and_eq_true, decide_eq_true_eq, Bool.not_eq_true'] at hk
    obtain ⟨⟨⟨h1, h2⟩, h3⟩, h4⟩ := hk
    unfold evE
    exact ⟨w_ite ((sndE t kx _ h1 r).2 h2) (fun G' H' e => (sndE a kx _ h3 (r.later e)).1) (fun G' H' e => (sndE b kx _ h4 (r.later e)).1), fun z => by cases z⟩
  | .call f as, Xs, W, c, kx, ex, hk, ρ, σ, G, H, r => by
    unfold chkE at hk
    split at hk <;> first | (cases hk; done) | skip
    simp only [Bool.and_eq_true, decide_eq_true_eq, Bool.not_eq_true'] at hk
    obtain ⟨⟨⟨⟨⟨h1, rfl⟩, h2⟩, h3⟩, h4⟩, h5⟩ := hk
    unfold evE
    exact SE.plain (w_call kx h1 h2 h3 h5 (sndL as kx _ h4 h5 r)) rfl
  | .bi f as, Xs, W, c, kx, ex, hk, ρ, σ, G, H, r => by
    unfold chkE at hk
    split at hk <;> first | (cases hk; done) | skip
    simp only [Bool.and_eq_true, decide_eq_true_eq, Bool.or_eq_true, Bool.not_eq_true'] at hk
    obtain ⟨⟨⟨⟨rfl, h2⟩, h3⟩, h4⟩, h5⟩ := hk
    unfold evE
    refine SE.plain (w_bi kx ?_ (fun z => ?_) h5 (sndL as kx _ h4 h5 r)) rfl
    · cases hm : f.math <;> simp only [hm, if_true, Bool.false_eq_true, if_false, Bool.and_eq_true, decide_eq_true_eq] at h2 ⊢ <;> exact h2
    · rcases h3 with h3 | h3
      · exact h3
      · rw [h3] at z; cases z
  | .me m o as, Xs, W, c, kx, ex, hk, ρ, σ, G, H, r => by
    unfold chkE at hk
    split at hk <;> first | (cases hk; done) | skip
    simp only [Bool.and_eq_true, decide_eq_true_eq, Bool.not_eq_true'] at hk
    obtain ⟨⟨⟨⟨⟨⟨h0, rfl⟩, h1⟩, h2⟩, h3⟩, h4⟩, h5⟩ := hk
    rename_i e
    have q := w_me (m := m) kx h3 h4 h5 (sndE o kx _ h1 r).1 fun G' H' x => (sndE e kx _ h2 (r.later x)).1
    unfold evE
    simp only [evL, R.map_ok]
    exact SE.plain q rfl
  | .ix a b, Xs, W, c, kx, ex, hk, ρ, σ, G, H, r => by
    unfold chkE at hk
    split at hk <;> first | (cases hk; done) | skip
    simp only [Bool.and_eq_true, decide_eq_true_eq, Bool.not_eq_true'] at hk
    obtain ⟨⟨h1, h2⟩, h3⟩ := hk
    unfold evE
    exact SE.plain (w_ix kx (sndE a kx _ h1 r).1 (fun G' H' e => (sndE b kx _ h2 (r.later e)).1) h3) rfl
  | .sl a lo hi, Xs, W, c, kx, ex, hk, ρ, σ, G, H, r => by
    unfold chkE at hk
    split at hk <;> first | (cases hk; done) | skip
    simp only [Bool.and_eq_true, decide_eq_true_eq, Bool.not_eq_true'] at hk
    obtain ⟨⟨h1, h2⟩, h3⟩ := hk
    unfold evE
    refine SE.plain (w_sl kx (sndE a kx _ h1 r).1 (fun G' H' e => ?_) (fun G' H' e => ?_)) rfl
    · split at h2
      · rw [if_pos h2]; exact o_none e.i
      · simp only [Bool.and_eq_true, Bool.not_eq_true'] at h2
        rw [if_neg (by rw [h2.1]; exact Bool.false_ne_true)]
        exact o_some (sndE lo kx _ h2.2 (r.later e)).1
    · split at h3
      · rw [if_pos h3]; exact o_none e.i
      · simp only [Bool.and_eq_true, Bool.not_eq_true'] at h3
        rw [if_neg (by rw [h3.1]; exact Bool.false_ne_true)]
        exact o_some (sndE hi kx _ h3.2 (r.later e)).1
  | .tup es, Xs, W, c, kx, ex, hk, ρ, σ, G, H, r => by
    unfold chkE at hk
    split at hk <;> first | (cases hk; done) | skip
    simp only [Bool.and_eq_true, decide_eq_true_eq, Bool.not_eq_true'] at hk
    unfold evE
    exact SE.plain (w_tup (sndL es kx _ hk.1 hk.2 r)) rfl
  | .ls es, Xs, W, c, kx, ex, hk, ρ, σ, G, H, r => by
    unfold chkE at hk
    split at hk <;> first | (cases hk; done) | skip
    simp only [Bool.and_eq_true, decide_eq_true_eq, Bool.not_eq_true'] at hk
    unfold evE
    exact SE.plain (w_ls (sndL es kx _ hk.1 hk.2 r)) rfl
  | .lc own tg k as ifs el, Xs, W, c, kx, ex, hk, ρ, σ, G, H, r => by
    unfold chkE at hk
    split at hk <;> first | (cases hk; done) | skip
    rename_i xel xtg it xifs scope p
    have hk' := hk
    simp only [Bool.and_eq_true, decide_eq_true_eq, Bool.not_eq_true'] at hk'
    obtain ⟨⟨⟨⟨⟨⟨⟨⟨⟨h1, h2⟩, h3⟩, h4⟩, h5⟩, h6⟩, h7⟩, h8⟩, h9⟩, h10⟩ := hk'
    have kb := kx.bk h1 scope
    refine SE.plain (fun Q h => ?_) rfl
    have own' : (own.map fun i => (c.N.getD i "", i)).map (·.2) = own := by rw [List.map_map]; exact List.map_id' own
    refine ⟨_, fun X hX => pe_lc (kx.calm h1 X hX) (by rw [kx.N X hX]; exact kx.nd) (pi_w hX) (own := own.map fun i => (c.N.getD i "", i)) (by rw [kx.N X hX, kx.sc X hX]; exact blkOk_by h2)
      (fun s H C cl fp => pg_w (Xs := Bk Xs scope) ⟨X, s, H, C, cl, fp, hX, rfl⟩) (fun s H C cl fp => pts_w (Xs := Bk Xs scope) ⟨X, s, H, C, cl, fp, hX, rfl⟩) (fun s H C cl fp => pe_w (Xs := Bk Xs scope) ⟨X, s, H, C, cl, fp, hX, rfl⟩) (foldedId h4 _), ?_⟩
    rw [own']
    exact sndC kx h1 h5 h6 r (fun hR => sndI kx h3 r (fun xs a b => sndL as kx xs a b r) (fun x a Q q => sndA as kx x a r Q q) hR) (fun r q => sndTs ifs kb _ h7 h8 h9 r q) (fun r => (sndE el kb _ h10 r).1) Q (by unfold evE at h; exact h)
  | .fst ps, Xs, W, c, kx, ex, hk, ρ, σ, G, H, r => by
    unfold chkE at hk
    split at hk <;> first | (cases hk; done) | skip
    unfold evE
    exact SE.plain (w_fst (sndJ ps kx _ hk r)) rfl
  | .fld o f, Xs, W, c, kx, ex, hk, ρ, σ, G, H, r => by
    unfold chkE at hk
    split at hk <;> first | (cases hk; done) | skip
    simp only [Bool.and_eq_true, decide_eq_true_eq, Bool.not_eq_true'] at hk
    obtain ⟨⟨⟨rfl, h1⟩, h2⟩, h3⟩ := hk
    unfold evE
    exact SE.plain (w_fld kx (sndE o kx _ h1 r).1 h2 h3) rfl
  | .isE i C, Xs, W, c, kx, ex, hk, ρ, σ, G, H, r => by
    unfold chkE at hk
    split at hk <;> first | (cases hk; done) | skip
    simp only [Bool.and_eq_true, decide_eq_true_eq, Bool.not_eq_true'] at hk
    obtain ⟨⟨⟨⟨⟨⟨⟨h0, rfl⟩, h1⟩, rfl⟩, h2⟩, h3⟩, h4⟩, h5⟩ := hk
    rename_i p1 x p2 C p3 p4
    have q := w_isE (p1 := p1) (p2 := p2) (p3 := p3) (p4 := p4) (E := WK W σ) kx r h0 h1 h2 h3 h4 h5
    unfold evE
    exact SE.plain q rfl
  | .exf i f, Xs, W, c, kx, ex, hk, ρ, σ, G, H, r => by
    unfold chkE at hk
    split at hk <;> first | (cases hk; done) | skip
    simp only [Bool.and_eq_true, decide_eq_true_eq, Bool.not_eq_true'] at hk
    obtain ⟨⟨⟨⟨⟨h0, rfl⟩, h1⟩, h2⟩, h3⟩, h4⟩ := hk
    rename_i x p1 p2
    have q := w_exf (p1 := p1) (p2 := p2) (E := WK W σ) kx r h0 h1 h2 h3 h4
    unfold evE
    exact SE.plain q rfl
/-- the rest of an n-ary and, or as a test -/
theorem sndW : ∀ (e : E) {Xs : Cx → Prop} {W : WX} {c : Cs} (kx : Kx Xs M T W c) {op : BoolOp} {y z : Expr} {rs : List Expr} {p : Pos}, chkE e c (.BoolOp op (y :: z :: rs) p) = true → ∀ {ρ : Rho} {σ : L2.St} {G H : Hp}, Rel M G0 H0 ρ σ G H → SW Xs M (WK W σ) σ G H (.BoolOp op (y :: z :: rs) p) ((evE T ρ e).bind asBool)
  | .and a b, Xs, W, c, kx, op, y, z, rs, p, hk, ρ, σ, G, H, r => by
    unfold chkE at hk
    cases op <;> first | (cases hk; done) | skip
    simp only [Bool.and_eq_true, decide_eq_true_eq, Bool.not_eq_true'] at hk
    obtain ⟨⟨h1, h2⟩, h3⟩ := hk
    have ih := sndE a kx _ h1 r
    unfold evE
    split at h3
    · simp only [Bool.and_eq_true] at h3
      exact b_and (ih.2 h2) fun G' H' e => b_and1 ((sndE b kx _ h3.1 (r.later e)).2 h3.2)
    · exact b_and (ih.2 h2) fun G' H' e => sndW b kx h3 (r.later e)
  | .or a b, Xs, W, c, kx, op, y, z, rs, p, hk, ρ, σ, G, H, r => by
    unfold chkE at hk
    cases op <;> first | (cases hk; done) | skip
    simp only [Bool.and_eq_true, decide_eq_true_eq, Bool.not_eq_true'] at hk
    obtain ⟨⟨h1, h2⟩, h3⟩ := hk
    have ih := sndE a kx _ h1 r
    unfold evE
    split at h3
    · simp only [Bool.and_eq_true] at h3
      exact b_or (ih.2 h2) fun G' H' e => b_or1 ((sndE b kx _ h3.1 (r.later e)).2 h3.2)
    · exact b_or (ih.2 h2) fun G' H' e => sndW b kx h3 (r.later e)
  | .var i, Xs, W, c, kx, op, y, z, rs, p, hk, ρ, σ, G, H, r => by unfold chkE at hk; cases hk
  | .non, Xs, W, c, kx, op, y, z, rs, p, hk, ρ, σ, G, H, r => by unfold chkE at hk; cases hk
  | .bl b, Xs, W, c, kx, op, y, z, rs, p, hk, ρ, σ, G, H, r => by unfold chkE at hk; cases hk
  | .int i, Xs, W, c, kx, op, y, z, rs, p, hk, ρ, σ, G, H, r => by unfold chkE at hk; cases hk
  | .str s, Xs, W, c, kx, op, y, z, rs, p, hk, ρ, σ, G, H, r => by unfold chkE at hk; cases hk
  | .glb x, Xs, W, c, kx, op, y, z, rs, p, hk, ρ, σ, G, H, r => by unfold chkE at hk; cases hk
  | .tyn x T', Xs, W, c, kx, op, y, z, rs, p, hk, ρ, σ, G, H, r => by unfold chkE at hk; cases hk
  | .bin op' a b, Xs, W, c, kx, op, y, z, rs, p, hk, ρ, σ, G, H, r => by unfold chkE at hk; cases hk
  | .neg a, Xs, W, c, kx, op, y, z, rs, p, hk, ρ, σ, G, H, r => by unfold chkE at hk; cases hk
  | .nt a, Xs, W, c, kx, op, y, z, rs, p, hk, ρ, σ, G, H, r => by unfold chkE at hk; cases hk
  | .cmp op' a b, Xs, W, c, kx, op, y, z, rs, p, hk, ρ, σ, G, H, r => by unfold chkE at hk; cases hk
  | .ite t a b, Xs, W, c, kx, op, y, z, rs, p, hk, ρ, σ, G, H, r => by unfold chkE at hk; cases hk
  | .call f as, Xs, W, c, kx, op, y, z, rs, p, hk, ρ, σ, G, H, r => by unfold chkE at hk; cases hk
  | .bi f as, Xs, W, c, kx, op, y, z, rs, p, hk, ρ, σ, G, H, r => by unfold chkE at hk; cases hk
  | .me m o as, Xs, W, c, kx, op, y, z, rs, p, hk, ρ, σ, G, H, r => by unfold chkE at hk; cases hk
  | .ix a b, Xs, W, c, kx, op, y, z, rs, p, hk, ρ, σ, G, H, r => by unfold chkE at hk; cases hk
  | .sl a lo hi, Xs, W, c, kx, op, y, z, rs, p, hk, ρ, σ, G, H, r => by unfold chkE at hk; cases hk
  | .tup es, Xs, W, c, kx, op, y, z, rs, p, hk, ρ, σ, G, H, r => by unfold chkE at hk; cases hk
  | .ls es, Xs, W, c, kx, op, y, z, rs, p, hk, ρ, σ, G, H, r => by unfold chkE at hk; cases hk
  | .lc own tg k as ifs el, Xs, W, c, kx, op, y, z, rs, p, hk, ρ, σ, G, H, r => by unfold chkE at hk; cases hk
  | .fst ps, Xs, W, c, kx, op, y, z, rs, p, hk, ρ, σ, G, H, r => by unfold chkE at hk; cases hk
  | .isE i C, Xs, W, c, kx, op, y, z, rs, p, hk, ρ, σ, G, H, r => by unfold chkE at hk; cases hk
  | .exf i f, Xs, W, c, kx, op, y, z, rs, p, hk, ρ, σ, G, H, r => by unfold chkE at hk; cases hk
  | .fld o f, Xs, W, c, kx, op, y, z, rs, p, hk, ρ, σ, G, H, r => by unfold chkE at hk; cases hk
/-- a comprehension's tests -/
theorem sndTs : ∀ (ifs : List E) {Xs : Cx → Prop} {W : WX} {c : Cs} (kx : Kx Xs M T W c) (xifs : List Expr), chkL ifs c xifs = true → ifs.length ≤ 1 → xifs.all tstOk = true → ∀ {ρ : Rho} {σ : L2.St} {G H : Hp}, Rel M G0 H0 ρ σ G H → ∀ {Q : Bool → Hp → Prop}, GOk M (WK W σ) G H (fun b => ∀ G' H', Ext G H G' H' → Q b H') (evT T ρ ifs) → WTs Xs xifs σ H Q
  | [], Xs, W, c, kx, xs, hk, hl, hn, ρ, σ, G, H, r, Q, hq => by
    unfold chkL at hk
    cases xs with
    | cons _ _ => cases hk
    | nil =>
      unfold evT at hq
      exact ⟨_, fun X hX => pts_nil, hq _ _ (Ext.refl r.same)⟩
  | e :: es, Xs, W, c, kx, xs, hk, hl, hn, ρ, σ, G, H, r, Q, hq => by
    unfold chkL at hk
    split at hk <;> first | (cases hk; done) | skip
    rw [Bool.and_eq_true] at hk
    rw [List.all_cons, Bool.and_eq_true] at hn
    cases es with
    | cons _ _ => simp at hl
    | nil =>
      have h2 := hk.2
      unfold chkL at h2
      rename_i x xs'
      cases xs' with
      | cons _ _ => cases h2
      | nil =>
        have hb := (sndE e kx _ hk.1 r).2 hn.1
        refine ⟨_, fun X hX => pts_one (pt_w hX), hb _ ?_⟩
        unfold evT at hq
        refine GOk.ofBind ((GOk.bind hq).imp fun x z => ?_)
        refine (GOk.bind z).imp fun b z2 => ?_
        cases b with
        | true => simp only [if_true] at z2; unfold evT at z2; exact z2
        | false => exact z2
/-- a list of one -/
theorem sndA : ∀ (as : List E) {Xs : Cx → Prop} {W : WX} {c : Cs} (kx : Kx Xs M T W c) (ex : Expr), chkL as c [ex] = true → ∀ {ρ : Rho} {σ : L2.St} {G H : Hp}, Rel M G0 H0 ρ σ G H →
    ∀ Q : VK, GOk M (WK W σ) G H (fun ds => ∀ d, ds = [d] → ∀ v G' H', Ext G H G' H' → Rep M G' d v → Q v H') (evL T ρ as) → WP Xs ex σ H Q
  | [], Xs, W, c, kx, ex, hf, ρ, σ, G, H, r, Q, hq => by unfold chkL at hf; cases hf
  | e :: es, Xs, W, c, kx, ex, hf, ρ, σ, G, H, r, Q, hq => by
    unfold chkL at hf
    rw [Bool.and_eq_true] at hf
    cases es with
    | cons _ _ =>
      have := hf.2
      unfold chkL at this
      cases this
    | nil =>
      refine (sndE e kx _ hf.1 r).1.use (Z := fun x => ∀ d, [x.d] = [d] → ∀ v G' H', Ext G H G' H' → Rep M G' d v → Q v H') ?_ fun x v G' H' z e' rr => z _ rfl v G' H' e' rr
      unfold evL at hq
      exact (GOk.bind hq)
theorem sndL : ∀ (es : List E) {Xs : Cx → Prop} {W : WX} {c : Cs} (kx : Kx Xs M T W c) (xs : List Expr), chkL es c xs = true → xs.all nst = true → ∀ {ρ : Rho} {σ : L2.St} {G H : Hp}, Rel M G0 H0 ρ σ G H → SL Xs M (WK W σ) σ G H xs (evL T ρ es)
  | [], Xs, W, c, kx, xs, hk, hn, ρ, σ, G, H, r => by
    unfold chkL at hk
    cases xs with
    | cons _ _ => cases hk
    | nil =>
      unfold evL
      exact l_nil r.same
  | e :: es, Xs, W, c, kx, xs, hk, hn, ρ, σ, G, H, r => by
    unfold chkL at hk
    split at hk <;> first | (cases hk; done) | skip
    rw [Bool.and_eq_true] at hk
    rw [List.all_cons, Bool.and_eq_true] at hn
    unfold evL
    exact l_cons hn.1 (sndE e kx _ hk.1 r).1 fun G' H' x => sndL es kx _ hk.2 hn.2 (r.later x)
theorem sndJ : ∀ (es : List E) {Xs : Cx → Prop} {W : WX} {c : Cs} (kx : Kx Xs M T W c) (xs : List Expr), chkP es c xs = true → ∀ {ρ : Rho} {σ : L2.St} {G H : Hp} {acc : Str}, Rel M G0 H0 ρ σ G H → SJ Xs M (WK W σ) σ G H xs acc (evJ T ρ es acc)
  | [], Xs, W, c, kx, xs, hk, ρ, σ, G, H, acc, r => by
    unfold chkP at hk
    cases xs with
    | cons _ _ => cases hk
    | nil =>
      unfold evJ
      exact j_nil r.same
  | e :: es, Xs, W, c, kx, xs, hk, ρ, σ, G, H, acc, r => by
    unfold chkP at hk
    split at hk <;> first | (cases hk; done) | skip
    · simp only [Bool.and_eq_true] at hk
      unfold evJ
      exact j_cons (fj := fun z => evJ T ρ es z) (j_fmt (sndE e kx _ hk.1 r).1) fun y G' H' x => sndJ es kx _ hk.2 (r.later x)
    · rw [Bool.and_eq_true] at hk
      obtain ⟨h1, h2⟩ := hk
      split at h1 <;> first | (cases h1; done) | skip
      have h1 := of_decide_eq_true h1
      subst h1
      unfold evJ
      refine j_cons (fj := fun z => evJ T ρ es z) (fun Q q => ?_) fun y G' H' x => sndJ es kx _ h2 (r.later x)
      unfold evE at q
      exact j_str r.same Q q
end
end
end PX

set_option Elab.async false
set_option linter.all false
set_option maxRecDepth 100000
set_option maxHeartbeats 1000000
/-! Px10: an expression within a statement: what is owned stays so where the value cannot reach it. -/
namespace PX
open PySem PySem.Spec PyProof.Rows L2

section
variable {M : Md} {T : Tb} {W : WX} {G0 H0 G H G1 H1 G2 H2 : Hp} {ρ : Rho} {σ : L2.St}
theorem RepO.notTup {B : Hp} {p : Addr} {o : OD} {u : HO} (r : RepO M B G H p o) (e : H p = Option.some u) : isTupO u = false ∧ ∀ x, u ≠ .own x := by
  cases o with
  | lst ds => obtain ⟨vs, h, _⟩ := r; rw [h] at e; cases e; exact ⟨rfl, fun x z => by cases z⟩
  | dct ds => obtain ⟨vs, h, _⟩ := r; rw [h] at e; cases e; exact ⟨rfl, fun x z => by cases z⟩
  | obj c fs => obtain ⟨C, dx, ws, _, h, _⟩ := r; rw [h] at e; cases e; exact ⟨rfl, fun x z => by cases z⟩
theorem frzS_rel (r : Rel M G0 H0 ρ σ G H) : ∀ us : List Nat, ∃ G', Same G G' ∧ (∀ a o, G' a = some o → G a = some o ∨ isTupO o = false) ∧ Rel M G0 H0 (frzS ρ us) σ G' H
  | [] => ⟨G, Same.refl _, fun _ _ h => .inl h, r⟩
  | i :: us => by
    obtain ⟨G1, s1, t1, r1⟩ := frzS_rel r us
    cases e : (frzS ρ us)[i]? with
    | none => exact ⟨G1, s1, t1, by unfold frzS; rw [e]; exact r1⟩
    | some sl =>
      cases sl with
      | un => exact ⟨G1, s1, t1, by unfold frzS; rw [e]; exact r1⟩
      | fz d => exact ⟨G1, s1, t1, by unfold frzS; rw [e]; exact r1⟩
      | xc c fs => exact ⟨G1, s1, t1, by unfold frzS; rw [e]; exact r1⟩
      | ow o =>
        obtain ⟨p, e1, e2, e3, e4⟩ := r1.ow i o e
        obtain ⟨G2, a1, a2, a3, a4⟩ := freeze_obj r1.same e3 e4
        refine ⟨G2, s1.trans a1, fun a u h => ?_, ?_⟩
        · rcases a3 a (by rw [h]; exact fun z => nomatch z) with q | q | q
          · cases q2 : G1 a with
            | none => exact absurd q2 q
            | some w =>
              have : w = u := by have := a1 a w q2; rw [h] at this; exact (Option.some.inj this).symm
              subst this
              exact t1 a w q2
          · subst q
            exact .inr (e4.notTup (a2 _ _ h)).1
          · have := a2 _ _ h
            rw [q.2] at this; cases this
            exact .inr rfl
        · unfold frzS
          rw [e]
          show Rel M G0 H0 ((frzS ρ us).set i (.fz o.d)) σ G2 H
          have hi : i < (frzS ρ us).length := (List.getElem?_eq_some_iff.mp e).1
          have nonew : ∀ a, H0 a ≠ none ∨ (∃ u, H a = some u ∧ (∀ x, u ≠ .own x) ∧ a ≠ p) ∨ (∃ x, H a = some (.own x) ∧ x ≠ p) → G1 a = none → G2 a = none := fun a ha hg => by
            cases q : G2 a with
            | none => rfl
            | some w =>
              exfalso
              rcases a3 a (by rw [q]; exact fun z => nomatch z) with z | z | z
              · exact z hg
              · rcases ha with ha | ⟨u, h1, h2, h3⟩ | ⟨x, h1, h2⟩
                · subst z; exact ha e2
                · exact h3 z
                · subst z
                  exact (e4.notTup h1).2 x rfl
              · rcases ha with ha | ⟨u, h1, h2, h3⟩ | ⟨x, h1, h2⟩
                · exact ha z.1
                · rw [z.2] at h1; cases h1; exact h2 _ rfl
                · rw [z.2] at h1; cases h1; exact h2 rfl
          refine ⟨⟨r1.ext.g.trans a1, r1.ext.h, a2, fun a h g => nonew a (.inl h) (r1.ext.n a h g)⟩, by rw [List.length_set]; exact r1.len, fun j d hj => ?_, fun j oj hj => ?_, fun j c fs hj => ?_, fun j k oj ok q h1 h2 h3 h4 => ?_⟩
          · by_cases hij : i = j
            · subst hij
              rw [List.getElem?_set_self hi] at hj; cases hj
              exact ⟨_, e1, a4⟩
            · rw [List.getElem?_set_ne hij] at hj
              obtain ⟨v, h1, h2⟩ := r1.fz j d hj
              exact ⟨v, h1, Rep.mono a1 _ _ h2⟩
          · by_cases hij : i = j
            · subst hij
              rw [List.getElem?_set_self hi] at hj; cases hj
            · rw [List.getElem?_set_ne hij] at hj
              obtain ⟨q, h1, h2, h3, h4⟩ := r1.ow j oj hj
              have nq : q ≠ p := fun z => hij (r1.ap i j o oj p e hj e1 (z ▸ h1))
              refine ⟨q, h1, h2, ?_, ?_⟩
              · cases hq : H q with
                | none => exact absurd hq h4.some
                | some u => exact nonew q (.inr (.inl ⟨u, hq, (h4.notTup hq).2, nq⟩)) h3
              · cases oj with
                | lst ds => obtain ⟨vs, b1, b2⟩ := h4; exact ⟨vs, b1, Reps.mono a1 _ _ b2⟩
                | dct ds => obtain ⟨vs, b1, b2⟩ := h4; exact ⟨vs, b1, RepK.mono a1 _ _ b2⟩
                | obj c fs =>
                  obtain ⟨C, dx, ws, k, b1, b2, b3, b4, b5⟩ := h4
                  exact ⟨C, dx, ws, k, b1, b2, nonew dx (.inr (.inr ⟨q, b2, nq⟩)) b3, b4, RepF.mono a1 _ _ b5⟩
          · by_cases hij : i = j
            · subst hij
              rw [List.getElem?_set_self hi] at hj; cases hj
            · rw [List.getElem?_set_ne hij] at hj
              obtain ⟨v, h1, h2⟩ := r1.xc j c fs hj
              exact ⟨v, h1, h2.mono a1⟩
          · by_cases hij : i = j
            · subst hij
              rw [List.getElem?_set_self hi] at h1; cases h1
            · by_cases hik : i = k
              · subst hik
                rw [List.getElem?_set_self hi] at h2; cases h2
              · rw [List.getElem?_set_ne hij] at h1
                rw [List.getElem?_set_ne hik] at h2
                exact r1.ap j k oj ok q h1 h2 h3 h4

/-! ### back to what was owned -/
/-- the expression was evaluated with G1 frozen, some owned things among it; these are owned again -/
theorem keep_ext (s0 : Same G H) (s1 : Same G G1) (t : ∀ a o, G1 a = some o → G a = some o ∨ isTupO o = false) (x : Ext G1 H G2 H2) : Ext G H (keepT G G2) H2 := by
  have s2 : Same G G2 := s1.trans x.g
  refine ⟨fun a o h => keepT_old h, x.h, fun a o h => x.i _ _ (keepT_of s2 h).1, fun a ha hg => ?_⟩
  cases e : keepT G G2 a with
  | none => rfl
  | some o =>
    exfalso
    obtain ⟨h2, h3⟩ := keepT_of s2 e
    rcases h3 with h3 | h3
    · rw [hg] at h3; cases h3
    · cases e1 : G1 a with
      | none => rw [x.n a ha e1] at h2; cases h2
      | some u =>
        have : u = o := by have := x.g a u e1; rw [h2] at this; exact (Option.some.inj this).symm
        subst this
        rcases t a u e1 with z | z
        · rw [hg] at z; cases z
        · rw [z] at h3; cases h3
theorem drop_ext (s0 : Same G H) (x : Ext G1 H G2 H2) : Ext G H G H2 := ⟨Same.refl _, x.h, s0.trans x.h, fun _ _ z => z⟩

/-! ### how a statement ends -/
def SOk (M : Md) (W : WX) (G0 H0 : Hp) (De : Ends) : RS → Prop
  | .ok (.nx ρ) => ∀ σ G H, Rel M G0 H0 ρ σ G H → De.nx σ H
  | .ok (.bk ρ) => ∀ σ G H, Rel M G0 H0 ρ σ G H → De.bk σ H
  | .ok (.ct ρ) => ∀ σ G H, Rel M G0 H0 ρ σ G H → De.ct σ H
  | .ok (.rt v) => EvV M G0 H0 De.rt v
  | .ex c fs ρ => ∀ cls d σ G H, Rel M G0 H0 ρ σ G H → ExRep M G H c fs cls d → W cls d σ H
  | .st => False
/-- what an expression within a statement has given -/
def Got (M : Md) (G0 H0 : Hp) (σ : L2.St) (v : EV) (ρ : Rho) (u : V) (H : Hp) : Prop :=
  match v with
  | .fz d => ∃ G, Rel M G0 H0 ρ σ G H ∧ Rep M G d u
  | .fr o => ∃ G a, u = .ref a ∧ Rel M G0 H0 ρ σ G H ∧ H0 a = none ∧ G a = none ∧ RepO M H0 G H a o ∧ ∀ (j : Nat) (oj : OD), ρ[j]? = some (.ow oj) → σ[j]? ≠ some (some (.ref a))
theorem Rel.none0 (r : Rel M G0 H0 ρ σ G H) {a : Addr} (h : H a = none) : H0 a = none := r.ext.sub h
theorem Rel.notOw (r : Rel M G0 H0 ρ σ G H) {a : Addr} (h : H a = none) : ∀ (j : Nat) (oj : OD), ρ[j]? = some (.ow oj) → σ[j]? ≠ some (some (.ref a)) := fun j oj hj e => by
  obtain ⟨p, e1, _, _, e4⟩ := r.ow j oj hj
  rw [e1] at e
  cases e
  exact e4.some h
theorem s_evX {e : E} {us : List Nat} {f : EV → Rho → RS} {De : Ends} {Rd : VK → Prop} {Q : VK} (r : Rel M G0 H0 ρ σ G H) (hv : ∀ ρ G, Rel M G0 H0 ρ σ G H → ∀ Q, GOk M (WK W σ) G H (EvV M G H Q) (evE T ρ e) → Rd Q)
    (h : SOk M W G0 H0 De (evX T ρ us e f)) (k : ∀ v ρ' u H', Got M G0 H0 σ v ρ' u H' → SOk M W G0 H0 De (f v ρ') → Q u H') : Rd Q := by
  unfold evX at h
  by_cases ha : anyOw ρ us = true
  · rw [if_pos ha] at h
    obtain ⟨G1, s1, t1, r1⟩ := frzS_rel r us
    refine hv _ G1 r1 Q ?_
    cases ev : evE T (frzS ρ us) e with
    | st => rw [ev] at h; exact h.elim
    | ex c fs => rw [ev] at h; exact fun cls d G' H' x er => h cls d σ G' H' (r1.later x) er
    | ok v =>
      rw [ev] at h
      simp only [R.on_ok] at h
      by_cases hl : v.lf = true
      · rw [if_pos hl] at h
        cases v with
        | fz d => exact fun u G' H' x rep => k (.fz d) ρ u H' ⟨_, r.later (keep_ext r.same s1 t1 x), Rep.kept (s1.trans x.g) _ _ hl rep⟩ h
        | fr o =>
          intro p G' H' x a b ro
          have x' := keep_ext r.same s1 t1 x
          refine k (.fr o) ρ (.ref p) H' ⟨_, p, rfl, r.later x', r.none0 a, ?_, ?_, r.notOw a⟩ h
          · cases e2 : keepT G G' p with
            | none => rfl
            | some w => rw [(keepT_of (s1.trans x.g) e2).1] at b; cases b
          · cases o with
            | lst ds => obtain ⟨vs, b1, b2⟩ := ro; exact ⟨vs, b1, Reps.kept (s1.trans x.g) _ _ hl b2⟩
            | dct ds => cases hl
            | obj c fs => cases hl
      · rw [if_neg hl] at h
        cases v with
        | fz d => exact fun u G' H' x rep => k (.fz d) (frzS ρ us) u H' ⟨_, r1.later x, rep⟩ h
        | fr o => exact fun p G' H' x a b ro => k (.fr o) (frzS ρ us) (.ref p) H' ⟨_, p, rfl, r1.later x, r1.none0 a, b, ro.base r1.ext.h, r1.notOw a⟩ h
  · rw [if_neg ha] at h
    refine hv ρ G r Q ?_
    cases ev : evE T ρ e with
    | st => rw [ev] at h; exact h.elim
    | ex c fs => rw [ev] at h; exact fun cls d G' H' x er => h cls d σ G' H' (r.later x) er
    | ok v =>
      rw [ev] at h
      simp only [R.on_ok] at h
      cases v with
      | fz d => exact fun u G' H' x rep => k (.fz d) ρ u H' ⟨_, r.later x, rep⟩ h
      | fr o => exact fun p G' H' x a b ro => k (.fr o) ρ (.ref p) H' ⟨_, p, rfl, r.later x, r.none0 a, b, ro.base r.ext.h, r.notOw a⟩ h
/-- a list of expressions within a statement -/
theorem s_evXL {es : List E} {us : List Nat} {f : List D → Rho → RS} {De : Ends} {Rd : (List V → Hp → Prop) → Prop} {Q : List V → Hp → Prop} (r : Rel M G0 H0 ρ σ G H)
    (hv : ∀ ρ G, Rel M G0 H0 ρ σ G H → ∀ Q : List V → Hp → Prop, GOk M (WK W σ) G H (fun ds => ∀ vs G' H', Ext G H G' H' → Reps M G' ds vs → Q vs H') (evL T ρ es) → Rd Q)
    (h : SOk M W G0 H0 De (evXL T ρ us es f)) (k : ∀ ds ρ' vs G' H', Rel M G0 H0 ρ' σ G' H' → Reps M G' ds vs → SOk M W G0 H0 De (f ds ρ') → Q vs H') : Rd Q := by
  unfold evXL at h
  by_cases ha : anyOw ρ us = true
  · rw [if_pos ha] at h
    obtain ⟨G1, s1, t1, r1⟩ := frzS_rel r us
    refine hv _ G1 r1 Q ?_
    cases ev : evL T (frzS ρ us) es with
    | st => rw [ev] at h; exact h.elim
    | ex c fs => rw [ev] at h; exact fun cls d G' H' x er => h cls d σ G' H' (r1.later x) er
    | ok v =>
      rw [ev] at h
      simp only [R.on_ok] at h
      by_cases hl : D.lfs v = true
      · rw [if_pos hl] at h
        exact fun u G' H' x rep => k v ρ u _ H' (r.later (keep_ext r.same s1 t1 x)) (Reps.kept (s1.trans x.g) _ _ hl rep) h
      · rw [if_neg hl] at h
        exact fun u G' H' x rep => k v (frzS ρ us) u _ H' (r1.later x) rep h
  · rw [if_neg ha] at h
    refine hv ρ G r Q ?_
    cases ev : evL T ρ es with
    | st => rw [ev] at h; exact h.elim
    | ex c fs => rw [ev] at h; exact fun cls d G' H' x er => h cls d σ G' H' (r.later x) er
    | ok v =>
      rw [ev] at h
      exact fun u G' H' x rep => k v ρ u _ H' (r.later x) rep h
theorem Wk.mono {J : It} {items : List D} (s : Same G1 G2) (w : Wk M G1 J items) : Wk M G2 J items := fun G H a b => w G H (s.trans a) b
theorem tups_keep (s : Same G G2) : Same (tupsOf G2) (keepT G G2) := fun a o h => by
  obtain ⟨h1, h2⟩ := keepT_of (none_same G2) h
  rcases h2 with h2 | h2
  · cases h2
  · exact keepT_tup s h1 h2
theorem itemsOf_noex {k : ItK} {ds : List D} {c : Str} {fs : List (Str × D)} : itemsOf k ds ≠ .ex c fs := by
  cases k
  · show itVal ds ≠ _; unfold itVal; split <;> exact fun z => nomatch z
  · show itRng ds ≠ _; unfold itRng; split
    · split <;> exact fun z => nomatch z
    · exact fun z => nomatch z
  · show itRng2 ds ≠ _; unfold itRng2; split
    · split <;> exact fun z => nomatch z
    · exact fun z => nomatch z
  · show itZip ds ≠ _; unfold itZip; split <;> exact fun z => nomatch z
  · show itEnm ds ≠ _; unfold itEnm; split <;> exact fun z => nomatch z
  · show itRev ds ≠ _; unfold itRev; split <;> exact fun z => nomatch z
/-- what a for walks, within a statement -/
theorem s_evXI {es : List E} {us : List Nat} {k : ItK} {f : List D → Rho → RS} {De : Ends} {Rd : (It → Hp → Prop) → Prop} {R : It → Hp → Prop} (r : Rel M G0 H0 ρ σ G H)
    (hv : ∀ ρ G, Rel M G0 H0 ρ σ G H → ∀ R : It → Hp → Prop, GOk M (WK W σ) G H (fun ds => GOk M (WK W σ) G H (fun items => ∀ J G' H', Ext G H G' H' → Wk2 M G' ds J items → R J H') (itemsOf k ds)) (evL T ρ es) → Rd R)
    (h : SOk M W G0 H0 De (evXL T ρ us es fun ds ρ1 => (itemsOf k ds).on ρ1 fun xs => f xs ρ1)) (kk : ∀ items ρ' J G' H', Rel M G0 H0 ρ' σ G' H' → Wk M G' J items → SOk M W G0 H0 De (f items ρ') → R J H') : Rd R := by
  unfold evXL at h
  by_cases ha : anyOw ρ us = true
  · rw [if_pos ha] at h
    obtain ⟨G1, s1, t1, r1⟩ := frzS_rel r us
    refine hv _ G1 r1 R ?_
    cases ev : evL T (frzS ρ us) es with
    | st => rw [ev] at h; exact h.elim
    | ex c fs => rw [ev] at h; exact fun cls d G' H' x er => h cls d σ G' H' (r1.later x) er
    | ok v =>
      rw [ev] at h
      simp only [PX.R.on_ok] at h
      show GOk M (WK W σ) G1 H _ (itemsOf k v)
      by_cases hl : D.lfs v = true
      · rw [if_pos hl] at h
        cases ei : itemsOf k v with
        | st => rw [ei] at h; exact h.elim
        | ex c fs => exact absurd ei itemsOf_noex
        | ok items =>
          rw [ei] at h
          simp only [PX.R.on_ok] at h
          exact fun J G' H' x w => kk items ρ J _ H' (r.later (keep_ext r.same s1 t1 x)) ((w.2 hl).mono (tups_keep (s1.trans x.g))) h
      · rw [if_neg hl] at h
        cases ei : itemsOf k v with
        | st => rw [ei] at h; exact h.elim
        | ex c fs => rw [ei] at h; exact fun cls d G' H' x er => h cls d σ G' H' (r1.later x) er
        | ok items =>
          rw [ei] at h
          simp only [PX.R.on_ok] at h
          exact fun J G' H' x w => kk items (frzS ρ us) J _ H' (r1.later x) w.1 h
  · rw [if_neg ha] at h
    refine hv ρ G r R ?_
    cases ev : evL T ρ es with
    | st => rw [ev] at h; exact h.elim
    | ex c fs => rw [ev] at h; exact fun cls d G' H' x er => h cls d σ G' H' (r.later x) er
    | ok v =>
      rw [ev] at h
      simp only [PX.R.on_ok] at h
      show GOk M (WK W σ) G H _ (itemsOf k v)
      cases ei : itemsOf k v with
      | st => rw [ei] at h; exact h.elim
      | ex c fs => rw [ei] at h; exact fun cls d G' H' x er => h cls d σ G' H' (r.later x) er
      | ok items =>
        rw [ei] at h
        simp only [PX.R.on_ok] at h
        exact fun J G' H' x w => kk items ρ J _ H' (r.later x) w.1 h
/-- a test within a statement -/
theorem s_evXB {e : E} {us : List Nat} {f : Bool → RS} {De : Ends} {Rd : (Bool → Hp → Prop) → Prop} {Q : Bool → Hp → Prop} (r : Rel M G0 H0 ρ σ G H)
    (hv : ∀ ρ G, Rel M G0 H0 ρ σ G H → ∀ Q : Bool → Hp → Prop, GOk M (WK W σ) G H (fun b => ∀ G' H', Ext G H G' H' → Q b H') ((evE T ρ e).bind asBool) → Rd Q)
    (h : SOk M W G0 H0 De (evXB T ρ us e f)) (k : ∀ b G' H', Rel M G0 H0 ρ σ G' H' → SOk M W G0 H0 De (f b) → Q b H') : Rd Q := by
  unfold evXB at h
  obtain ⟨G1, s1, t1, r1⟩ := frzS_rel r us
  refine hv _ G1 r1 Q ?_
  cases ev : (evE T (frzS ρ us) e).bind asBool with
  | st => rw [ev] at h; exact h.elim
  | ex c fs => rw [ev] at h; exact fun cls d G' H' x er => h cls d σ G' H' (r1.later x) er
  | ok b =>
    rw [ev] at h
    exact fun G' H' x => k b G H' (r.later (drop_ext r.same x)) h
end
end PX

set_option Elab.async false
set_option linter.all false
set_option maxRecDepth 100000
set_option maxHeartbeats 1000000
/-! Px11: statements, one by one. -/
namespace PX
open PySem PySem.Spec PyProof.Rows L2

theorem sw_eq {env : Env} {c : Cs} {xe : Expr} {x : Str} {px : Pos} {l : Nat} (hs : env.scope = c.sc) (hk : c.sc.kind = .function) (h : nSD xe = true) :
    swapsWith xe (some (.Name x px)) l env = pure (swC c xe x px) := by
  have e1 : env.blockKind = .function := by
    unfold Env.blockKind
    rw [hs, hk]; rfl
  cases xe <;> first | rfl | (cases h; done) | skip
  show (pure (env.blockKind == .function && env.kindOf x == some .local && px.line == _ && !_) : Sem Bool) = _
  rw [e1]
  unfold Env.kindOf swC
  rw [hs]
  congr 1
  congr 1
  congr 1
  show (true && _) = _
  rw [Bool.true_and]
  cases hh : c.sc.names.lookup x with
  | none => rfl
  | some k => cases k <;> rfl
theorem swTup {xe : Expr} {l : Nat} {env : Env} {es : List Expr} {k : Nat} {p : Pos} : swapsWithSole [.Tuple es k p] xe l env = pure false := by
  show swapsWith xe (some (.Tuple es k p)) l env = pure false
  cases xe <;> rfl
theorem swSub {xe : Expr} {l : Nat} {env : Env} {a b : Expr} {p : Pos} : swapsWithSole [.Subscript a b p] xe l env = pure false := by
  show swapsWith xe (some (.Subscript a b p)) l env = pure false
  cases xe <;> rfl
theorem stTup {xe : Expr} {env : Env} {tg : Expr} (h : nTup xe = true) : swappedStores [tg] xe env = pure none := by
  cases tg <;> cases xe <;> first | rfl | (cases h; done)
theorem stSub {xe : Expr} {env : Env} {a b : Expr} {p : Pos} : swappedStores [.Subscript a b p] xe env = pure none := by
  cases xe <;> rfl
theorem swPar {env : Env} {c : Cs} {x y : Str} {px py pt pt2 : Pos} {kt k2 : Nat} {a b : Expr} (hs : env.scope = c.sc) (hk : c.sc.kind = .function) (hx : c.sc.names.lookup x = some .local) (hy : c.sc.names.lookup y = some .local)
    (ha : nst a = true) (hb : nst b = true) (hl : px.line = py.line) (hne : (x == y) = false) (h1 : [a, b].all (foldedForSure 8) = false) (h2 : [a, b].all (constantsAlone 8) = false) :
    swappedStores [.Tuple [.Name x px, .Name y py] kt pt] (.Tuple [a, b] k2 pt2) env = pure (some [x, y]) := by
  have e1 : env.blockKind = .function := by
    unfold Env.blockKind
    rw [hs, hk]; rfl
  have e2 : env.kindOf x = some .local := by unfold Env.kindOf; rw [hs]; exact hx
  have e3 : env.kindOf y = some .local := by unfold Env.kindOf; rw [hs]; exact hy
  have e4 : ([a, b].any fun | .Starred .. => true | _ => false) = false := by
    cases a <;> cases b <;> first | rfl | (cases ha; done) | (cases hb; done)
  unfold swappedStores
  simp only [List.length_cons, List.length_nil, e1, e4]
  have e5 : ([Expr.Name x px, Expr.Name y py].filterMap fun | .Name id pos => if env.kindOf id == some .local && pos.line == px.line then some id else none | _ => none) = [x, y] := by
    simp [List.filterMap, e2, e3, hl]
  simp [Expr.pos, e5, e4, h1, h2, hne, e2, e3, hl]
  have e6 : [x, y].eraseDups = [x, y] := by
    have : (y == x) = false := by
      cases h : (y == x) with
      | false => rfl
      | true => rw [eq_of_beq h] at hne; simp at hne
    simp [List.eraseDups_cons, this]
  rw [e6]
  cases a <;> cases b <;> first | rfl | (cases ha; done) | (cases hb; done)
section
variable {Xs : Cx → Prop} {M : Md} {T : Tb} {W : WX} {c : Cs} {G0 H0 G H : Hp} {ρ : Rho} {σ : L2.St} {De : Ends}
theorem freeze_new {p : Addr} {o : OD} (r1 : Rel M G0 H0 ρ σ G H) (e2 : H0 p = none) (e3 : G p = none) (e4 : RepO M H0 G H p o) (nw : ∀ (j : Nat) (oj : OD), ρ[j]? = some (.ow oj) → σ[j]? ≠ some (some (.ref p))) :
    ∃ G', Same G G' ∧ Rel M G0 H0 ρ σ G' H ∧ Rep M G' o.d (.ref p) := by
  obtain ⟨G2, a1, a2, a3, a4⟩ := freeze_obj r1.same e3 e4
  refine ⟨G2, a1, ?_, a4⟩
  have nonew : ∀ a, H0 a ≠ none ∨ (∃ u, H a = some u ∧ (∀ x, u ≠ .own x) ∧ a ≠ p) ∨ (∃ x, H a = some (.own x) ∧ x ≠ p) → G a = none → G2 a = none := fun a ha hg => by
    cases q : G2 a with
    | none => rfl
    | some w =>
      exfalso
      rcases a3 a (by rw [q]; exact fun z => nomatch z) with z | z | z
      · exact z hg
      · rcases ha with ha | ⟨u, h1, h2, h3⟩ | ⟨x, h1, h2⟩
        · subst z; exact ha e2
        · exact h3 z
        · subst z
          exact (e4.notTup h1).2 x rfl
      · rcases ha with ha | ⟨u, h1, h2, h3⟩ | ⟨x, h1, h2⟩
        · exact ha z.1
        · rw [z.2] at h1; cases h1; exact h2 _ rfl
        · rw [z.2] at h1; cases h1; exact h2 rfl
  refine ⟨⟨r1.ext.g.trans a1, r1.ext.h, a2, fun a h g => nonew a (.inl h) (r1.ext.n a h g)⟩, r1.len, fun j d hj => ?_, fun j oj hj => ?_, fun j c fs hj => ?_, r1.ap⟩
  · obtain ⟨v, h1, h2⟩ := r1.fz j d hj
    exact ⟨v, h1, Rep.mono a1 _ _ h2⟩
  · obtain ⟨q, h1, h2, h3, h4⟩ := r1.ow j oj hj
    have nq : q ≠ p := fun z => nw j oj hj (z ▸ h1)
    refine ⟨q, h1, h2, ?_, ?_⟩
    · cases hq : H q with
      | none => exact absurd hq h4.some
      | some u => exact nonew q (.inr (.inl ⟨u, hq, (h4.notTup hq).2, nq⟩)) h3
    · cases oj with
      | lst ds => obtain ⟨vs, b1, b2⟩ := h4; exact ⟨vs, b1, Reps.mono a1 _ _ b2⟩
      | dct ds => obtain ⟨vs, b1, b2⟩ := h4; exact ⟨vs, b1, RepK.mono a1 _ _ b2⟩
      | obj c fs =>
        obtain ⟨C, dx, ws, k, b1, b2, b3, b4, b5⟩ := h4
        exact ⟨C, dx, ws, k, b1, b2, nonew dx (.inr (.inr ⟨q, b2, nq⟩)) b3, b4, RepF.mono a1 _ _ b5⟩
  · obtain ⟨v, h1, h2⟩ := r1.xc j c fs hj
    exact ⟨v, h1, h2.mono a1⟩
/-- the value, shared -/
theorem Got.use {v : EV} {u : V} (g : Got M G0 H0 σ v ρ u H) : ∃ G, Rel M G0 H0 ρ σ G H ∧ Rep M G v.d u := by
  cases v with
  | fz d => exact g
  | fr o =>
    obtain ⟨G, a, rfl, r, h0, hg, ro, nw⟩ := g
    obtain ⟨G', _, r', q⟩ := freeze_new r h0 hg ro nw
    exact ⟨G', r', q⟩
/-- an owned list is changed -/
theorem Rel.change (r : Rel M G0 H0 ρ σ G H) {i : Nat} {o o' : OD} {p : Addr} (hi : ρ[i]? = some (.ow o)) (hp : σ[i]? = some (some (.ref p))) (ho : HO) (hn : RepO M H0 G (upd H p ho) p o') : Rel M G0 H0 (ρ.set i (.ow o')) σ G (upd H p ho) := by
  obtain ⟨p', e1, e2, e3, e4⟩ := r.ow i o hi
  rw [hp] at e1; cases e1
  have hlt : i < ρ.length := (List.getElem?_eq_some_iff.mp hi).1
  have sm : Same G (upd H p ho) := fun a u h => by
    have : a ≠ p := ne_of_none h e3
    rw [upd_ne this]; exact r.same _ _ h
  refine ⟨⟨r.ext.g, fun a u h => by
      have : a ≠ p := ne_of_none h e2
      rw [upd_ne this]; exact r.ext.h _ _ h, sm, r.ext.n⟩, by rw [List.length_set]; exact r.len, fun j d hj => ?_, fun j oj hj => ?_, fun j c fs hj => ?_, fun j k oj ok q h1 h2 h3 h4 => ?_⟩
  · by_cases hij : i = j
    · subst hij; rw [List.getElem?_set_self hlt] at hj; cases hj
    · rw [List.getElem?_set_ne hij] at hj; exact r.fz j d hj
  · by_cases hij : i = j
    · subst hij; rw [List.getElem?_set_self hlt] at hj; cases hj
      exact ⟨p, hp, e2, e3, hn⟩
    · rw [List.getElem?_set_ne hij] at hj
      obtain ⟨q, h1, h2, h3, h4⟩ := r.ow j oj hj
      have nq : q ≠ p := fun z => hij (r.ap i j o oj p hi hj hp (z ▸ h1))
      refine ⟨q, h1, h2, h3, ?_⟩
      cases oj with
      | lst ds => obtain ⟨vs, b1, b2⟩ := h4; exact ⟨vs, by rw [upd_ne nq]; exact b1, b2⟩
      | dct ds => obtain ⟨vs, b1, b2⟩ := h4; exact ⟨vs, by rw [upd_ne nq]; exact b1, b2⟩
      | obj c fs =>
        obtain ⟨C, dx, ws, k, b1, b2, b3, b4, b5⟩ := h4
        have nd : dx ≠ p := by
          intro z
          subst z
          exact (e4.notTup b2).2 _ rfl
        exact ⟨C, dx, ws, k, by rw [upd_ne nq]; exact b1, by rw [upd_ne nd]; exact b2, b3, b4, b5⟩
  · by_cases hij : i = j
    · subst hij; rw [List.getElem?_set_self hlt] at hj; cases hj
    · rw [List.getElem?_set_ne hij] at hj; exact r.xc j c fs hj
  · by_cases hij : i = j
    · by_cases hik : i = k
      · rw [← hij, ← hik]
      · rw [List.getElem?_set_ne hik] at h2
        exact r.ap j k o ok q (hij ▸ hi) h2 h3 h4
    · rw [List.getElem?_set_ne hij] at h1
      by_cases hik : i = k
      · exact r.ap j k oj o q h1 (hik ▸ hi) h3 h4
      · rw [List.getElem?_set_ne hik] at h2
        exact r.ap j k oj ok q h1 h2 h3 h4
/-- a name takes a value -/
theorem s_set {i : Nat} {v : EV} {u : V} {ρ' : Rho} (g : Got M G0 H0 σ v ρ' u H) (h : SOk M W G0 H0 De ((bindE (.nm i) v ρ').on ρ' fun ρ2 => .ok (.nx ρ2))) : De.nx (σ.set i (some u)) H := by
  cases v with
  | fz d =>
    obtain ⟨G, r, rd⟩ := g
    exact h _ G H (r.setFz i rd)
  | fr o =>
    obtain ⟨G, a, rfl, r, h0, hg, ro, nw⟩ := g
    exact h _ G H (r.setOw i h0 hg ro fun j oj _ hj => nw j oj hj)
/-- a target takes a value -/
theorem s_store {tg : Tg} {xtg : Expr} {v : EV} {u : V} {ρ' : Rho} (kx : Kx Xs M T W c) (hk : chkTg c tg xtg = true) (g : Got M G0 H0 σ v ρ' u H) (h : SOk M W G0 H0 De ((bindE tg v ρ').on ρ' fun ρ2 => .ok (.nx ρ2))) : WG Xs xtg u σ H De.nx := by
  have tpCase : ∀ is, tg = .tp is → WG Xs xtg u σ H De.nx := fun is e => by
    subst e
    obtain ⟨G, r, rd⟩ := g.use
    refine s_tg (E := WK W σ) kx hk r rd ?_
    have h : SOk M W G0 H0 De ((bindT (.tp is) v.d ρ').on ρ' fun ρ2 => .ok (.nx ρ2)) := h
    cases e2 : bindT (.tp is) v.d ρ' with
    | st => rw [e2] at h; exact h.elim
    | ex c fs => rw [e2] at h; exact fun cls d G' H' x er => h cls d σ G' H' (r.later x) er
    | ok ρ2 => rw [e2] at h; exact fun σ2 r2 _ => h σ2 G H r2
  cases tg with
  | tp is => exact tpCase is rfl
  | nm i =>
    unfold chkTg at hk
    split at hk
    · rename_i i' x p e
      cases e
      exact ⟨gName i, tgC_nm kx hk, s_set g h⟩
    · rename_i e; cases e
    · cases hk

/-! ### loops -/
theorem Ext.baseG {G0 G1 H0 G H : Hp} (s : Same G0 G1) (n : ∀ a, H0 a ≠ none → G0 a = none → G1 a = none) (x : Ext G1 H0 G H) : Ext G0 H0 G H := ⟨s.trans x.g, x.h, x.i, fun a h g => x.n a h (n a h g)⟩
theorem Rel.baseG {G1 : Hp} (s : Same G0 G1) (n : ∀ a, H0 a ≠ none → G0 a = none → G1 a = none) (r : Rel M G1 H0 ρ σ G H) : Rel M G0 H0 ρ σ G H := ⟨r.ext.baseG s n, r.len, r.fz, r.ow, r.xc, r.ap⟩
theorem Rel.rebase (r : Rel M G0 H0 ρ σ G H) : Rel M G H0 ρ σ G H := ⟨⟨Same.refl _, r.ext.h, r.ext.i, fun _ _ z => z⟩, r.len, r.fz, r.ow, r.xc, r.ap⟩
theorem SOk.baseG {G1 : Hp} (s : Same G0 G1) (n : ∀ a, H0 a ≠ none → G0 a = none → G1 a = none) {x : RS} (h : SOk M W G0 H0 De x) : SOk M W G1 H0 De x := by
  match x, h with
  | .ok (.nx ρ), h => exact fun σ G H r => h σ G H (r.baseG s n)
  | .ok (.bk ρ), h => exact fun σ G H r => h σ G H (r.baseG s n)
  | .ok (.ct ρ), h => exact fun σ G H r => h σ G H (r.baseG s n)
  | .ok (.rt (.fz d)), h => exact fun v G' H' x r => h v G' H' (x.baseG s n) r
  | .ok (.rt (.fr o)), h => exact fun p G' H' x a b r => h p G' H' (x.baseG s n) a b r
  | .ex c fs ρ, h => exact fun cls d σ G H r er => h cls d σ G H (r.baseG s n) er
  | .st, h => exact h
/-- the statements' own property -/
def SSs (Xs : Cx → Prop) (M : Md) (W : WX) (st : List Stmt) (b : Rho → RS) : Prop := ∀ {G0 H0 G H ρ σ De}, Rel M G0 H0 ρ σ G H → SOk M W G0 H0 De (b ρ) → WSs Xs st De σ H
theorem s_for (kx : Kx Xs M T W c) {tg : Tg} {xtg : Expr} {xb : List Stmt} {b : Rho → RS} (hk : chkTg c tg xtg = true) (hb : SSs Xs M W xb b) {J : It} {items : List D} (r0 : Rel M G0 H0 ρ σ G H) (wk : Wk M G J items)
    (h : SOk M W G0 H0 De (forGo tg b items ρ)) : ∃ W' : Nat → Nat → L2.St → Hp → Prop, (∃ m, W' 0 m σ H) ∧ ∀ i m σ H, W' i m σ H → (J.stop i H ∧ De.nx σ H) ∨
      (J.go i H ∧ ∃ N : L2.St → Hp → Prop, (∀ σ' H', N σ' H' → ∃ m', m' < m ∧ W' (i + 1) m' σ' H') ∧ ∀ x H', J.yld i H x H' → WG Xs xtg x σ H' fun σ2 H2 => WSs Xs xb { De with nx := N, ct := N, bk := De.nx } σ2 H2) := by
  have r1 := r0.rebase
  have h1 : SOk M W G H0 De (forGo tg b items ρ) := h.baseG r0.ext.g r0.ext.n
  refine ⟨fun i m σ H => m = items.length - i ∧ i ≤ items.length ∧ ∃ ρ G', Rel M G H0 ρ σ G' H ∧ SOk M W G H0 De (forGo tg b (items.drop i) ρ), ⟨_, rfl, Nat.zero_le _, ρ, G, r1, by simpa using h1⟩, ?_⟩
  rintro i m σ2 H2 ⟨rfl, hi, ρ2, G2, r2, h2⟩
  obtain ⟨w1, w2, w3⟩ := wk G2 H2 r2.ext.g r2.same
  by_cases hlt : i < items.length
  · refine .inr ⟨w1 i hlt, fun σ' H' => i + 1 ≤ items.length ∧ ∃ ρ G', Rel M G H0 ρ σ' G' H' ∧ SOk M W G H0 De (forGo tg b (items.drop (i + 1)) ρ), fun σ' H' q => ⟨items.length - (i + 1), by omega, rfl, q.1, q.2⟩, fun x H3 hy => ?_⟩
    have ed : items[i]? = some items[i] := by simp [hlt]
    obtain ⟨G3, x3, rx⟩ := w3 i _ ed x H3 hy
    rw [List.drop_eq_getElem_cons hlt] at h2
    have h2 : SOk M W G H0 De ((bindT tg items[i] ρ2).on ρ2 fun ρ1 => (b ρ1).turn (forGo tg b (items.drop (i + 1)))) := h2
    refine s_tg (E := WK W σ2) kx hk (r2.later x3) rx ?_
    cases e2 : bindT tg items[i] ρ2 with
    | st => rw [e2] at h2; exact h2.elim
    | ex c fs => rw [e2] at h2; exact fun cls d G' H' x er => h2 cls d σ2 G' H' (r2.later (x3.trans x)) er
    | ok ρ3 =>
      rw [e2] at h2
      simp only [R.on_ok] at h2
      intro σ3 r3 _
      refine hb r3 ?_
      match e4 : b ρ3, h2 with
      | .ok (.nx ρ4), h2 => exact fun σ' G' H' r => ⟨hlt, ρ4, G', r, h2⟩
      | .ok (.ct ρ4), h2 => exact fun σ' G' H' r => ⟨hlt, ρ4, G', r, h2⟩
      | .ok (.bk ρ4), h2 => exact h2
      | .ok (.rt v), h2 => exact h2
      | .ex c fs ρ4, h2 => exact h2
      | .st, h2 => exact h2
  · have e : i = items.length := by omega
    subst e
    rw [List.drop_length] at h2
    exact .inl ⟨w2, h2 σ2 G2 H2 r2⟩
theorem s_while {xt : Expr} {xb : List Stmt} {us : List Nat} {t : E} {b : Rho → RS} (hb : SSs Xs M W xb b)
    (ht : ∀ {ρ σ G H}, Rel M G0 H0 ρ σ G H → ∀ Q : Bool → Hp → Prop, GOk M (WK W σ) G H (fun b => ∀ G' H', Ext G H G' H' → Q b H') ((evE T ρ t).bind asBool) → WT Xs xt σ H Q) (n : Nat) (r0 : Rel M G0 H0 ρ σ G H)
    (h : SOk M W G0 H0 De (whileGo (fun ρ f => evXB T ρ us t f) b n ρ)) : tWhile (WT Xs xt) (WSs Xs xb) De σ H := by
  refine ⟨fun m σ H => ∃ ρ G', Rel M G0 H0 ρ σ G' H ∧ SOk M W G0 H0 De (whileGo (fun ρ f => evXB T ρ us t f) b m ρ), ⟨n, ρ, G, r0, h⟩, ?_⟩
  rintro m σ2 H2 ⟨ρ2, G2, r2, h2⟩
  cases m with
  | zero => exact h2.elim
  | succ m =>
    have h2 : SOk M W G0 H0 De (evXB T ρ2 us t fun k => if k = true then (b ρ2).turn (whileGo (fun ρ f => evXB T ρ us t f) b m) else .ok (.nx ρ2)) := h2
    refine s_evXB (Rd := fun Q => WT Xs xt σ2 H2 Q) r2 (fun ρ G r Q q => ht r Q q) h2 fun k G3 H3 r3 h3 => ?_
    cases k with
    | false => exact h3 σ2 G3 H3 r3
    | true =>
      simp only [if_true] at h3 ⊢
      refine ⟨fun σ H => ∃ ρ G', Rel M G0 H0 ρ σ G' H ∧ SOk M W G0 H0 De (whileGo (fun ρ f => evXB T ρ us t f) b m ρ), fun σ' H' q => ⟨m, Nat.lt_succ_self _, q⟩, ?_⟩
      refine hb r3 ?_
      match e4 : b ρ2, h3 with
      | .ok (.nx ρ4), h3 => exact fun σ' G' H' r => ⟨ρ4, G', r, h3⟩
      | .ok (.ct ρ4), h3 => exact fun σ' G' H' r => ⟨ρ4, G', r, h3⟩
      | .ok (.bk ρ4), h3 => exact h3
      | .ok (.rt v), h3 => exact h3
      | .ex c fs ρ4, h3 => exact h3
      | .st, h3 => exact h3
end
end PX

set_option Elab.async false
set_option linter.all false
set_option maxRecDepth 100000
set_option maxHeartbeats 4000000
/-! Px12: statements, the whole: exceptions, blocks. -/
namespace PX
open PySem PySem.Spec PyProof.Rows L2

/-! ### the exception that is being handled does not matter for data -/
def Md.wx (M : Md) (x : Option (Addr × Addr × Option Addr)) : Md := { M with x := x }
mutual
theorem Rep.wx {M : Md} {x} {G : Hp} : ∀ (d : D) (v : V), Rep M G d v ↔ Rep (M.wx x) G d v
  | .non, v => Iff.rfl
  | .bl _, v => Iff.rfl
  | .int _, v => Iff.rfl
  | .str _, v => Iff.rfl
  | .ty _, v => Iff.rfl
  | .tup ds, v => by
    unfold Rep
    exact ⟨fun ⟨a, vs, e, h1, h2⟩ => ⟨a, vs, e, h1, (Reps.wx ds vs).1 h2⟩, fun ⟨a, vs, e, h1, h2⟩ => ⟨a, vs, e, h1, (Reps.wx ds vs).2 h2⟩⟩
  | .lst ds, v => by
    unfold Rep
    exact ⟨fun ⟨a, vs, e, h1, h2⟩ => ⟨a, vs, e, h1, (Reps.wx ds vs).1 h2⟩, fun ⟨a, vs, e, h1, h2⟩ => ⟨a, vs, e, h1, (Reps.wx ds vs).2 h2⟩⟩
  | .scr ns, v => by unfold Rep; exact Iff.rfl
  | .dct kvs, v => by
    unfold Rep
    exact ⟨fun ⟨a, vs, e, h1, h2⟩ => ⟨a, vs, e, h1, (RepK.wx kvs vs).1 h2⟩, fun ⟨a, vs, e, h1, h2⟩ => ⟨a, vs, e, h1, (RepK.wx kvs vs).2 h2⟩⟩
  | .obj c fs, v => by
    unfold Rep
    exact ⟨fun ⟨a, C, dx, ws, e, k, h1, h2, h3⟩ => ⟨a, C, dx, ws, e, k, h1, h2, (RepF.wx fs ws).1 h3⟩, fun ⟨a, C, dx, ws, e, k, h1, h2, h3⟩ => ⟨a, C, dx, ws, e, k, h1, h2, (RepF.wx fs ws).2 h3⟩⟩
theorem Reps.wx {M : Md} {x} {G : Hp} : ∀ (d : List D) (v : List V), Reps M G d v ↔ Reps (M.wx x) G d v
  | [], v => by unfold Reps; exact Iff.rfl
  | d :: ds, v => by
    unfold Reps
    exact ⟨fun ⟨u, r, e, h1, h2⟩ => ⟨u, r, e, (Rep.wx d u).1 h1, (Reps.wx ds r).1 h2⟩, fun ⟨u, r, e, h1, h2⟩ => ⟨u, r, e, (Rep.wx d u).2 h1, (Reps.wx ds r).2 h2⟩⟩
theorem RepK.wx {M : Md} {x} {G : Hp} : ∀ (d : List (Key × D)) (v : List (Key × V)), RepK M G d v ↔ RepK (M.wx x) G d v
  | [], v => by unfold RepK; exact Iff.rfl
  | (k, d) :: ds, v => by
    unfold RepK
    exact ⟨fun ⟨u, r, e, h1, h2⟩ => ⟨u, r, e, (Rep.wx d u).1 h1, (RepK.wx ds r).1 h2⟩, fun ⟨u, r, e, h1, h2⟩ => ⟨u, r, e, (Rep.wx d u).2 h1, (RepK.wx ds r).2 h2⟩⟩
theorem RepF.wx {M : Md} {x} {G : Hp} : ∀ (d : List (Str × D)) (v : List (Str × V)), RepF M G d v ↔ RepF (M.wx x) G d v
  | [], v => by unfold RepF; exact Iff.rfl
  | (k, d) :: ds, v => by
    unfold RepF
    exact ⟨fun ⟨u, r, e, h1, h2⟩ => ⟨u, r, e, (Rep.wx d u).1 h1, (RepF.wx ds r).1 h2⟩, fun ⟨u, r, e, h1, h2⟩ => ⟨u, r, e, (Rep.wx d u).2 h1, (RepF.wx ds r).2 h2⟩⟩
end
theorem RepO.wx {M : Md} {x} {B G H : Hp} {p : Addr} : ∀ {o : OD}, RepO M B G H p o ↔ RepO (M.wx x) B G H p o
  | .lst ds => ⟨fun ⟨vs, a, b⟩ => ⟨vs, a, (Reps.wx _ _).1 b⟩, fun ⟨vs, a, b⟩ => ⟨vs, a, (Reps.wx _ _).2 b⟩⟩
  | .dct ds => ⟨fun ⟨vs, a, b⟩ => ⟨vs, a, (RepK.wx _ _).1 b⟩, fun ⟨vs, a, b⟩ => ⟨vs, a, (RepK.wx _ _).2 b⟩⟩
  | .obj c fs => ⟨fun ⟨C, dx, ws, a, b, c, d, e, f⟩ => ⟨C, dx, ws, a, b, c, d, e, (RepF.wx _ _).1 f⟩, fun ⟨C, dx, ws, a, b, c, d, e, f⟩ => ⟨C, dx, ws, a, b, c, d, e, (RepF.wx _ _).2 f⟩⟩
section
variable {Xs : Cx → Prop} {M : Md} {T : Tb} {W : WX} {c : Cs} {G0 H0 G H : Hp} {ρ : Rho} {σ : L2.St} {De : Ends}
/-- no exception among the slots: another one may be handled -/
theorem Rel.wx {x} (r : Rel M G0 H0 ρ σ G H) (h : ∀ (i : Nat) (c : Str) (fs : List (Str × D)), ρ[i]? ≠ some (Sl.xc c fs)) : Rel (M.wx x) G0 H0 ρ σ G H :=
  ⟨r.ext, r.len, fun i d e => let ⟨v, a, b⟩ := r.fz i d e; ⟨v, a, (Rep.wx _ _).1 b⟩, fun i o e => let ⟨p, a, b, c, d⟩ := r.ow i o e; ⟨p, a, b, c, RepO.wx.1 d⟩, fun i c fs e => absurd e (h i c fs), r.ap⟩
theorem Rel.unwx {x} (r : Rel (M.wx x) G0 H0 ρ σ G H) (h : ∀ (i : Nat) (c : Str) (fs : List (Str × D)), ρ[i]? ≠ some (Sl.xc c fs)) : Rel M G0 H0 ρ σ G H :=
  ⟨r.ext, r.len, fun i d e => let ⟨v, a, b⟩ := r.fz i d e; ⟨v, a, (Rep.wx _ _).2 b⟩, fun i o e => let ⟨p, a, b, c, d⟩ := r.ow i o e; ⟨p, a, b, c, RepO.wx.2 d⟩, fun i c fs e => absurd e (h i c fs), r.ap⟩
theorem clX_none (i : Nat) (cc : Str) (fs : List (Str × D)) : (clX ρ)[i]? ≠ some (.xc cc fs) := by
  unfold clX
  rw [List.getElem?_map]
  cases ρ[i]? with
  | none => exact fun z => nomatch z
  | some s => cases s <;> exact fun z => nomatch z
theorem clX_get {i : Nat} {s : Sl} (h : (clX ρ)[i]? = some s) (hu : s ≠ .un) : ρ[i]? = some s := by
  unfold clX at h
  rw [List.getElem?_map] at h
  cases e : ρ[i]? with
  | none => rw [e] at h; cases h
  | some t => rw [e] at h; cases t <;> first | exact h | (cases h; exact absurd rfl hu)
theorem Rel.cl (r : Rel M G0 H0 ρ σ G H) : Rel M G0 H0 (clX ρ) σ G H :=
  ⟨r.ext, by unfold clX; rw [List.length_map]; exact r.len, fun i d e => r.fz i d (clX_get e (fun z => nomatch z)), fun i o e => r.ow i o (clX_get e (fun z => nomatch z)), fun i c fs e => absurd e (clX_none i c fs),
    fun i j oi oj p a b => r.ap i j oi oj p (clX_get a (fun z => nomatch z)) (clX_get b (fun z => nomatch z))⟩
theorem Rel.noXc (r : Rel M G0 H0 ρ σ G H) (h : M.x = none) (i : Nat) (cc : Str) (fs : List (Str × D)) : ρ[i]? ≠ some (.xc cc fs) := fun e => by
  obtain ⟨v, _, a, C, d, m, _⟩ := r.xc i cc fs e
  rw [h] at m; cases m
theorem Rel.setXc (r : Rel M G0 H0 ρ σ G H) {cc : Str} {fs : List (Str × D)} {v : V} (i : Nat) (hd : XcAt M G cc fs v) : Rel M G0 H0 (ρ.set i (.xc cc fs)) (σ.set i (some v)) G H := by
  have q := r.setUn i (some v)
  have key : ∀ (j : Nat) (s : Sl), (ρ.set i (.xc cc fs))[j]? = some s → (∀ c' f', s ≠ .xc c' f') → (ρ.set i .un)[j]? = some s ∨ s = .xc cc fs := fun j s h _ => by
    by_cases hj : i = j
    · subst hj
      by_cases hl : i < ρ.length
      · rw [List.getElem?_set_self hl] at h; cases h; exact .inr rfl
      · rw [List.getElem?_eq_none (by simpa using hl)] at h; cases h
    · rw [List.getElem?_set_ne hj] at h ⊢; exact .inl h
  refine ⟨q.ext, by simp [r.len], fun j d h => ?_, fun j o h => ?_, fun j c' f' h => ?_, fun j k oj ok p h1 h2 h3 h4 => ?_⟩
  · rcases key j _ h (fun _ _ z => nomatch z) with z | z
    · exact q.fz j d z
    · cases z
  · rcases key j _ h (fun _ _ z => nomatch z) with z | z
    · exact q.ow j o z
    · cases z
  · by_cases hj : i = j
    · subst hj
      by_cases hl : i < ρ.length
      · rw [List.getElem?_set_self hl] at h; cases h
        exact ⟨v, by rw [List.getElem?_set_self (by rw [r.len]; exact hl)], hd⟩
      · rw [List.getElem?_eq_none (by simpa using hl)] at h; cases h
    · rw [List.getElem?_set_ne hj] at h ⊢; exact r.xc j c' f' h
  · rcases key j _ h1 (fun _ _ z => nomatch z) with z1 | z
    · rcases key k _ h2 (fun _ _ z => nomatch z) with z2 | z
      · exact q.ap j k oj ok p z1 z2 h3 h4
      · cases z
    · cases z
theorem EvV.wx {x} {Q : VK} {v : EV} (h : EvV M G H Q v) : EvV (M.wx x) G H Q v := by
  cases v with
  | fz d => exact fun u G' H' e r => h u G' H' e ((Rep.wx _ _).2 r)
  | fr o => exact fun p G' H' e a b r => h p G' H' e a b (RepO.wx.2 r)

/-! ### the contexts of a try's body and of an except suite -/
def TrF (Xs : Cx → Prop) (W : WX) : Cx → Prop := fun Y => ∃ X pn xe, Xs X ∧ Y = X.tr pn xe ∧ Takes Y W ∧ PassesOwn (model Y.prog Y.w) Y.A Y.env Y.xe
def SuC (Xs : Cx → Prop) (a : Addr) (cls : Value) (d : Option Addr) : Cx → Prop := fun Y => ∃ X oe pn, Xs X ∧ Y = X.suite a ((a, oe) :: pn) ∧ Zc cls d oe ∧ ∃ vs, oe.data = .fields vs
theorem Kx.tr (kx : Kx Xs M T W c) (hh : c.hot = false) (W' : WX) : Kx (TrF Xs W') M T W' c where
  K := fun Y ⟨X, _, _, hX, e, _⟩ => by rw [e]; exact kx.K X hX
  mg := fun Y ⟨X, _, _, hX, e, _⟩ => by rw [e]; exact kx.mg X hX
  P := fun Y ⟨X, _, _, hX, e, _⟩ => by rw [e]; exact kx.P X hX
  w := fun Y ⟨X, _, _, hX, e, _⟩ => by rw [e]; exact kx.w X hX
  base := fun Y ⟨X, _, _, hX, e, _⟩ => by rw [e]; exact kx.base X hX
  N := fun Y ⟨X, _, _, hX, e, _⟩ => by rw [e]; exact kx.N X hX
  sc := fun Y ⟨X, _, _, hX, e, _⟩ => by rw [e]; exact kx.sc X hX
  cl := fun Y ⟨X, _, _, hX, e, _⟩ => by rw [e]; exact kx.cl X hX
  nd := kx.nd
  calm := fun h Y ⟨X, _, _, hX, e, _⟩ => by rw [e]; exact kx.calm h X hX
  tk := fun Y ⟨X, _, _, hX, e, t, _⟩ => t
  po := fun Y ⟨X, _, _, hX, e, _, p⟩ => p
  room := fun Y ⟨X, _, _, hX, e, _⟩ => by rw [e]; exact kx.room X hX
  bl := kx.bl
  gcd := kx.gcd
  lcm := kx.lcm
  hot := fun z => absurd (hh.symm.trans z) Bool.false_ne_true
  su := kx.su
  top := fun h Y ⟨X, _, _, hX, e, _⟩ => by rw [e]; exact kx.top h X hX
  xn := kx.xn
  exv := kx.exv
  exm := kx.exm
  ex0 := kx.ex0
  ex1 := fun C fs h => by
    obtain ⟨D, hD, q⟩ := kx.ex1 C fs h
    refine ⟨D, hD, fun X a1 a2 a3 a4 a5 ⟨Y, ⟨Z, pn, xe, hZ, e, _⟩, a6⟩ => q X a1 a2 a3 a4 a5 ⟨Z, hZ, by rw [a6, e]⟩⟩
  obj := kx.obj
  cst := kx.cst
  fns := fun h f hf => let ⟨k, fa, fd, ps, F, hr, q⟩ := kx.fns h f hf; ⟨k, fa, fd, ps, F, fun Y ⟨X, _, _, hX, e, _⟩ => by rw [e]; exact hr X hX, q⟩
def csH (c : Cs) : Cs := { c with hot := true, ex0 := [], ex1 := [] }
theorem Kx.suite (kx : Kx Xs M T W c) {a C : Addr} {d : Option Addr} {cc : Str} (hc : M.cls cc C) : Kx (SuC Xs a (.ref C) d) (M.wx (some (a, C, d))) T (fun _ _ _ _ => False) (csH c) where
  K := fun Y ⟨X, _, _, hX, e, _⟩ => by rw [e]; exact kx.K X hX
  mg := fun Y ⟨X, _, _, hX, e, _⟩ => by rw [e]; exact kx.mg X hX
  P := fun Y ⟨X, _, _, hX, e, _⟩ => by rw [e]; exact kx.P X hX
  w := fun Y ⟨X, _, _, hX, e, _⟩ => by rw [e]; exact kx.w X hX
  base := fun Y ⟨X, _, _, hX, e, _⟩ => by rw [e]; exact kx.base X hX
  N := fun Y ⟨X, _, _, hX, e, _⟩ => by rw [e]; exact kx.N X hX
  sc := fun Y ⟨X, _, _, hX, e, _⟩ => by rw [e]; exact kx.sc X hX
  cl := fun Y ⟨X, _, _, hX, e, _⟩ => by rw [e]; exact kx.cl X hX
  nd := kx.nd
  calm := fun h => by cases h
  tk := fun Y _ => takes0
  po := fun Y ⟨X, _, _, hX, e, _⟩ => by rw [e]; exact PassesOwn.never
  room := fun Y ⟨X, _, _, hX, e, _⟩ => by rw [e]; exact kx.room X hX
  bl := kx.bl
  gcd := kx.gcd
  lcm := kx.lcm
  hot := fun _ => ⟨a, C, d, cc, rfl, hc, fun Y ⟨X, oe, pn, hX, e, hz, hf⟩ => ⟨X, oe, pn, e, kx.K X hX, kx.mg X hX, hz, hf⟩⟩
  su := kx.su
  top := fun h Y ⟨X, _, _, hX, e, _⟩ => by rw [e]; exact kx.top h X hX
  xn := fun h => by cases h
  exv := kx.exv
  exm := kx.exm
  ex0 := fun C hC => absurd hC (by simp [csH])
  ex1 := fun C fs hC => absurd hC (by simp [csH])
  obj := kx.obj
  cst := fun x d h => let ⟨u, v, a, b, q⟩ := kx.cst x d h; ⟨u, v, a, b, fun G => (Rep.wx _ _).1 (q G)⟩
  fns := fun h => by cases h

theorem names_eq {u u' : Value} {C : Str} (h : M.mg C = some u ∨ (M.mg C = none ∧ bootBuiltins C = some u)) (h' : M.mg C = some u' ∨ (M.mg C = none ∧ bootBuiltins C = some u')) : u = u' := by
  rcases h with h | ⟨h, k⟩ <;> rcases h' with h' | ⟨h', k'⟩
  · rw [h] at h'; exact Option.some.inj h'
  · rw [h] at h'; cases h'
  · rw [h] at h'; cases h'
  · rw [k] at k'; exact Option.some.inj k'
theorem SOk.wish {W' : WX} {f : Fl} (h : SOk M W G0 H0 De (.ok f)) : SOk M W' G0 H0 De (.ok f) := by
  cases f <;> exact h
def unR : Option Nat → Rho → Rho
  | some i, ρ => ρ.set i .un
  | none, ρ => ρ
def unS : Option Nat → L2.St → L2.St
  | some i, σ => σ.set i none
  | none, σ => σ
def stS : Option Nat → Addr → L2.St → L2.St
  | some i, a, σ => σ.set i (some (.ref a))
  | none, _, σ => σ
/-- how a suite's end is taken up -/
def triEnd (nm : Option Nat) : RS → RS
  | .ok (.nx ρ2) => .ok (.nx (clX (unR nm ρ2)))
  | .ok (.bk ρ2) => .ok (.bk (clX (unR nm ρ2)))
  | .ok (.ct ρ2) => .ok (.ct (clX (unR nm ρ2)))
  | .ok (.rt v) => .ok (.rt v)
  | _ => .st
def triSet : Option Nat → Str → List (Str × D) → Rho → Rho
  | some i, cc, fs, ρ => ρ.set i (.xc cc fs)
  | none, _, _, ρ => ρ
theorem exec_tri {b h : List S} {C : Str} {nm : Option Nat} : exec T (.tri b C nm h) ρ = match execs T b ρ with
    | .ex cc fs ρ1 => match T.sub cc C with
      | some true => triEnd nm (execs T h (triSet nm cc fs ρ1))
      | some false => .ex cc fs ρ1
      | none => .st
    | y => y := by
  unfold exec
  cases execs T b ρ with
  | ok f => rfl
  | st => rfl
  | ex cc fs ρ1 =>
    simp only
    cases T.sub cc C with
    | none => rfl
    | some k =>
      cases k with
      | false => rfl
      | true =>
        cases nm with
        | none => simp only [triSet]; cases execs T h ρ1 with
          | ok f => cases f <;> rfl
          | ex _ _ _ => rfl
          | st => rfl
        | some i => simp only [triSet]; cases execs T h (ρ1.set i (.xc cc fs)) with
          | ok f => cases f <;> rfl
          | ex _ _ _ => rfl
          | st => rfl
/-- a suite's end, out of the end in its own context -/
theorem suite_end {x} {y : RS} {nm : Option Nat} (h : SOk M W G0 H0 De (triEnd nm y)) :
    SOk (M.wx x) (fun _ _ _ _ => False) G0 H0 { nx := fun σ' H' => De.nx (unS nm σ') H', rt := De.rt, bk := fun σ' H' => De.bk (unS nm σ') H', ct := fun σ' H' => De.ct (unS nm σ') H' } y := by
  have back : ∀ {ρ2 : Rho} {σ : L2.St} {G H : Hp}, Rel (M.wx x) G0 H0 ρ2 σ G H → Rel M G0 H0 (clX (unR nm ρ2)) (unS nm σ) G H := fun {ρ2 σ G H} r => by
    cases nm with
    | none => exact r.cl.unwx fun i c fs => clX_none i c fs
    | some i => exact (r.setUn i none).cl.unwx fun i c fs => clX_none i c fs
  match y, h with
  | .ok (.nx ρ2), h => exact fun σ G H r => h _ G H (back r)
  | .ok (.bk ρ2), h => exact fun σ G H r => h _ G H (back r)
  | .ok (.ct ρ2), h => exact fun σ G H r => h _ G H (back r)
  | .ok (.rt v), h => exact EvV.wx h
  | .ex _ _ _, h => exact h.elim
  | .st, h => exact h.elim
theorem s_try (kx : Kx Xs M T W c) (hh : c.hot = false) (ht : c.top = true) {C : Str} {nm : Option Nat} {nm' : Option Str} {b h : List S} {xb suite : List Stmt} {b0 : Stmt} {np p1 p2 : Pos} (hg : gloC c C = true) (hl : C ∈ c.exl)
    (hn : (match nm, nm' with | some i, some x => decide (c.N[i]? = some x) && decide (c.sc.names.lookup x = some .local) | none, none => true | _, _ => false) = true)
    (hb : ∀ W', SSs (TrF Xs W') M W' xb (execs T b)) (hs : ∀ a D d cc, M.cls cc D → SSs (SuC Xs a (.ref D) d) (M.wx (some (a, D, d))) (fun _ _ _ _ => False) (b0 :: suite) (execs T h))
    (r : Rel M G0 H0 ρ σ G H) (hq : SOk M W G0 H0 De (exec T (.tri b C nm h) ρ)) : WS Xs (.Try xb [.ExceptHandler (some (.Name C np)) nm' (b0 :: suite) p1] [] [] p2) De σ H := by
  obtain ⟨u, hu⟩ := kx.exv C hl
  rw [exec_tri] at hq
  have hN : ∀ X, Xs X → Names X C u := fun X hX => ⟨kx.gl hg X hX, nodb_dbg (glo_nodb hg), by
    rw [kx.mg X hX]
    rcases hu with hu | ⟨h1, h2⟩
    · exact .inl hu
    · exact .inr ⟨h1, h2, nodb_name (glo_nodb hg)⟩⟩
  -- the reading of the suite
  have key : ∀ (cls : Value) (d : Option Addr) (cc : Str) (fs : List (Str × D)) (ρ1 : Rho) (σ' : L2.St) (G' H' : Hp), Rel M G0 H0 ρ1 σ' G' H' → ExRep M G' H' cc fs cls d →
      SOk M W G0 H0 De (match T.sub cc C with | some true => triEnd nm (execs T h (triSet nm cc fs ρ1)) | some false => .ex cc fs ρ1 | none => .st) →
      ∃ k, PySem.W.exmOne M.K cls u = some k ∧ (k = true → ∀ a, H' a = none → WSs (SuC Xs a cls d) (b0 :: suite) { nx := fun σ' H' => De.nx (unS nm σ') H', rt := De.rt, bk := fun σ' H' => De.bk (unS nm σ') H', ct := fun σ' H' => De.ct (unS nm σ') H' } (stS nm a σ') H') ∧ (k = false → W cls d σ' H') := by
    intro cls d cc fs ρ1 σ' G' H' r1 er hq
    have er0 := er
    obtain ⟨D, hD, rfl, hfd⟩ := er
    cases e : T.sub cc C with
    | none => rw [e] at hq; exact hq.elim
    | some k =>
      obtain ⟨u', hu', hm⟩ := kx.exm cc C k e D hD
      have := names_eq hu hu'
      subst this
      refine ⟨k, hm, fun hk a ha => ?_, fun hk => ?_⟩
      · subst hk
        rw [e] at hq
        refine hs a D d cc hD (ρ := triSet nm cc fs ρ1) (G := G') ?_ (suite_end hq)
        have nx := r1.noXc (kx.xn hh)
        have r2 : Rel (M.wx (some (a, D, d))) G0 H0 ρ1 σ' G' H' := r1.wx nx
        cases nm with
        | none => exact r2
        | some i =>
          refine r2.setXc i ⟨a, D, d, rfl, rfl, hD, ?_⟩
          rcases hfd with hfd | ⟨e2, ws, h1, h2, h3⟩
          · exact .inl hfd
          · exact .inr ⟨e2, ws, h1, h2, (RepF.wx _ _).1 h3⟩
      · subst hk
        rw [e] at hq
        exact hq _ _ σ' G' H' r1 er0
  cases nm with
  | none =>
    cases nm' with
    | some x => cases hn
    | none =>
      refine ⟨fun D σ H => WSs (TrF Xs (wOnly M.K u (fun a cls d => WSs (SuC Xs a cls d) (b0 :: suite)) W D)) xb D σ H, fun X hX => ?_, ?_⟩
      · have R := ps_try_only (X := X) (x := C) (c := u) (body := xb) (suite := suite) (b₀ := b0) (np := np) (pos := p2) (pos' := p1) (tb := fun W' => WSs (TrF Xs W') xb) (ts := fun a cls d => WSs (SuC Xs a cls d) (b0 :: suite)) (Wout := W) (kx.top ht X hX).1 (kx.top ht X hX).2 (hN X hX) (kx.tk X hX)
          (fun W' pn xe t p => pss_w ⟨X, pn, xe, hX, rfl, t, p⟩) (fun a oe cls d pn z f => pss_w ⟨X, oe, pn, hX, rfl, z, f⟩)
        rw [kx.K X hX] at R
        exact R
      · refine hb _ r ?_
        match e : execs T b ρ, hq with
        | .ok f, hq => exact SOk.wish hq
        | .st, hq => exact hq.elim
        | .ex cc fs ρ1, hq => exact fun cls d σ' G' H' r1 er => key cls d cc fs ρ1 σ' G' H' r1 er hq
  | some i =>
    cases nm' with
    | none => cases hn
    | some x =>
      simp only [Bool.and_eq_true, decide_eq_true_eq] at hn
      refine ⟨fun D σ H => WSs (TrF Xs (wAs M.K u i (fun a cls d => WSs (SuC Xs a cls d) (b0 :: suite)) W D)) xb D σ H, fun X hX => ?_, ?_⟩
      · have R := ps_try_as (X := X) (x := C) (n := x) (c := u) (i := i) (body := xb) (suite := suite) (b₀ := b0) (np := np) (pos := p2) (pos' := p1) (tb := fun W' => WSs (TrF Xs W') xb) (ts := fun a cls d => WSs (SuC Xs a cls d) (b0 :: suite)) (Wout := W) (kx.top ht X hX).1 (kx.top ht X hX).2
          (by rw [kx.N X hX]; exact kx.nd) (by rw [kx.N X hX]; exact hn.1) (by show List.lookup x X.env.scope.names = _; rw [kx.sc X hX]; exact hn.2) (hN X hX) (kx.tk X hX)
          (fun W' pn xe t p => pss_w ⟨X, pn, xe, hX, rfl, t, p⟩) (fun a oe cls d pn z f => pss_w ⟨X, oe, pn, hX, rfl, z, f⟩)
        rw [kx.K X hX] at R
        exact R
      · refine hb _ r ?_
        match e : execs T b ρ, hq with
        | .ok f, hq => exact SOk.wish hq
        | .st, hq => exact hq.elim
        | .ex cc fs ρ1, hq => exact fun cls d σ' G' H' r1 er => key cls d cc fs ρ1 σ' G' H' r1 er hq
end
end PX

set_option Elab.async false
set_option linter.all false
set_option maxRecDepth 100000
set_option maxHeartbeats 4000000
/-! Px13: a checked block does what execs says; a checked def keeps its promise. -/
namespace PX
open PySem PySem.Spec PyProof.Rows L2

section
variable {Xs : Cx → Prop} {M : Md} {T : Tb} {W : WX} {c : Cs} {G0 H0 G H : Hp} {ρ : Rho} {σ : L2.St} {De : Ends}
theorem nm_pe (kx : Kx Xs M T W c) {i : Nat} {x : Str} {p : Pos} (h : nmC c i x = true) : ∀ X, Xs X → PE X (.Name x p) (tVar i) := fun X hX => by
  unfold nmC at h
  simp only [Bool.and_eq_true, decide_eq_true_eq] at h
  obtain ⟨⟨h1, h2⟩, h3⟩ := h
  refine pe_var (by rw [kx.N X hX]; exact h1) ?_ (nodb_dbg h3) (nodb_cls h3)
  rw [kx.sc X hX]
  unfold visC at h2
  split at h2
  · rename_i e; exact .inl e
  · rename_i e; exact .inr (.inl e)
  · rename_i e; exact .inr (.inr e)
  · cases h2
/-- a comprehension's reading, as it stands in a store -/
theorem sndLc {own : List Nat} {tg : Tg} {k : ItK} {as ifs : List E} {el : E} (kx : Kx Xs M T W c) {xel xtg it : Expr} {xifs : List Expr} {scope : Scope} {p : Pos} (hk : chkE (.lc own tg k as ifs el) c (.ListComp xel [⟨xtg, it, xifs, 0⟩] scope p) = true)
    (r : Rel M G0 H0 ρ σ G H) (Q : VK) (h : GOk M (WK W σ) G H (EvV M G H Q) (evE T ρ (.lc own tg k as ifs el))) : tLc (WI Xs xtg it) (WG (Bk Xs scope) xtg) (WTs (Bk Xs scope) xifs) (WP (Bk Xs scope) xel) own σ H Q ∧
      c.hot = false ∧ blkC c.N c.sc scope (own.map fun i => (c.N.getD i "", i)) = true ∧ nset it = true := by
  unfold chkE at hk
  simp only [Bool.and_eq_true, decide_eq_true_eq, Bool.not_eq_true'] at hk
  obtain ⟨⟨⟨⟨⟨⟨⟨⟨⟨h1, h2⟩, h3⟩, h4⟩, h5⟩, h6⟩, h7⟩, h8⟩, h9⟩, h10⟩ := hk
  have kb := kx.bk h1 scope
  exact ⟨sndC kx h1 h5 h6 r (fun hR => sndI kx h3 r (fun xs a b => sndL as kx xs a b r) (fun x a Q q => sndA as kx x a r Q q) hR) (fun r q => sndTs ifs kb _ h7 h8 h9 r q) (fun r => (sndE el kb _ h10 r).1) Q (by unfold evE at h; exact h), h1, h2, h4⟩
theorem t_asg {tg : Tg} {e : E} {us : List Nat} {xtg xe : Expr} {p : Pos} (kx : Kx Xs M T W c) (h1 : chkE e c xe = true) (h2 : chkTg c tg xtg = true) (h3 : c.sc.kind = .function)
    (h4 : asgOk c e xtg xe = true) (r : Rel M G0 H0 ρ σ G H) (h : SOk M W G0 H0 De (exec T (.asg tg e us) ρ)) : WS Xs (.Assign [xtg] xe p) De σ H := by
  unfold exec at h
  have hv : ∀ ρ G, Rel M G0 H0 ρ σ G H → ∀ Q, GOk M (WK W σ) G H (EvV M G H Q) (evE T ρ e) → WP Xs xe σ H Q := fun ρ G r Q q => (sndE e kx _ h1 r).1 Q q
  cases xtg with
  | Name x px =>
    cases tg with
    | tp is => unfold chkTg at h2; cases h2
    | nm i =>
      have h2 : tgC c i x = true := h2
      unfold tgC at h2
      simp only [Bool.and_eq_true, decide_eq_true_eq, Bool.or_eq_true] at h2
      obtain ⟨⟨k1, k2⟩, k3⟩ := h2
      have h4 : (nSD xe && (!swC c xe x px || (isLc e && isXLc xe && c.top))) = true := h4
      simp only [Bool.and_eq_true, Bool.or_eq_true, Bool.not_eq_true'] at h4
      obtain ⟨h5, h6⟩ := h4
      cases hsw : swC c xe x px with
      | false =>
        refine ⟨tAsg (WP Xs xe) (gName i), fun X hX => ps_set (by rw [kx.N X hX]; exact kx.nd) (by rw [kx.N X hX]; exact k1) ?_ (pe_w hX) (by rw [sw_eq (kx.sc X hX) h3 h5, hsw]) ?_, ?_⟩
        · rw [kx.sc X hX]
          unfold locC at k2
          split at k2
          · rename_i e; exact .inl e
          · rename_i e; exact .inr e
          · cases k2
        · rcases k3 with k3 | k3
          · exact .inl (kx.cl X hX _ k3)
          · exact .inr (by rw [kx.sc X hX]; exact k3)
        · exact s_evX (Rd := fun Q => WP Xs xe σ H Q) r hv h fun v ρ' u H' g q => s_set g q
      | true =>
        rcases h6 with h6 | ⟨⟨h6, h7⟩, h8⟩
        · rw [hsw] at h6; cases h6
        · cases e <;> first | (cases h6; done) | skip
          rename_i own tg' k as ifs el
          cases xe <;> first | (cases h7; done) | skip
          rename_i xel gens scope pos
          match gens, h7 with
          | [⟨xtg', it, xifs, asy⟩], _ =>
            have ha : asy = 0 := by
              unfold chkE at h1
              split at h1
              · rename_i e1; cases e1; rfl
              · cases h1
            subst ha
            have hswe : ∀ X, Xs X → swapsWith (.ListComp xel [⟨xtg', it, xifs, 0⟩] scope pos) (some (.Name x px)) p.line X.env = pure true := fun X hX => by rw [sw_eq (kx.sc X hX) h3 h5, hsw]
            have hloc : c.sc.names.lookup x = some .local := by
              unfold swC at hsw
              simp only [Bool.and_eq_true, decide_eq_true_eq] at hsw
              exact hsw.1.1
            have own' : (own.map fun i => (c.N.getD i "", i)).map (·.2) = own := by rw [List.map_map]; exact List.map_id' own
            have hh : c.hot = false ∧ blkC c.N c.sc scope (own.map fun i => (c.N.getD i "", i)) = true ∧ nset it = true := by
              unfold chkE at h1
              simp only [Bool.and_eq_true, decide_eq_true_eq, Bool.not_eq_true'] at h1
              exact ⟨h1.1.1.1.1.1.1.1.1.1, h1.1.1.1.1.1.1.1.1.2, h1.1.1.1.1.1.1.2⟩
            refine ⟨_, fun X hX => ps_setLc (i := i) (kx.calm hh.1 X hX) (by rw [kx.N X hX]; exact kx.nd) (by rw [kx.N X hX]; exact k1) (by rw [kx.sc X hX]; exact hloc) (hswe X hX) (pi_w hX) (own := own.map fun i => (c.N.getD i "", i)) (by rw [kx.N X hX, kx.sc X hX]; exact blkOk_by hh.2.1)
              (fun s H C cl fp => pg_w (Xs := Bk Xs scope) ⟨X, s, H, C, cl, fp, hX, rfl⟩) (fun s H C cl fp => pts_w (Xs := Bk Xs scope) ⟨X, s, H, C, cl, fp, hX, rfl⟩) (fun s H C cl fp => pe_w (Xs := Bk Xs scope) ⟨X, s, H, C, cl, fp, hX, rfl⟩) (foldedId hh.2.2 _), ?_⟩
            rw [own']
            show tLc (WI Xs xtg' it) (WG (Bk Xs scope) xtg') (WTs (Bk Xs scope) xifs) (WP (Bk Xs scope) xel) own σ H fun x H1 => gName i x σ H1 De.nx
            exact s_evX (Rd := fun Q => tLc (WI Xs xtg' it) (WG (Bk Xs scope) xtg') (WTs (Bk Xs scope) xifs) (WP (Bk Xs scope) xel) own σ H Q) r (fun ρ G r Q q => (sndLc kx h1 r Q q).1) h fun v ρ' u H' g q => s_set g q
  | Tuple es k q =>
    refine ⟨_, fun X hX => ps_asg (pe_w hX) (pg_w hX) swTup (stTup h4) rfl, ?_⟩
    exact s_evX (Rd := fun Q => WP Xs xe σ H Q) r hv h fun v ρ' u H' g q => s_store kx h2 g q
  | _ => cases tg <;> (unfold chkTg at h2; cases h2)
theorem t_par {i j : Nat} {a b : E} {us : List Nat} {x y : Str} {px py pt pt2 p : Pos} {kt k2 : Nat} {xa xb : Expr} (kx : Kx Xs M T W c) (h0 : c.hot = false) (h1 : c.N[i]? = some x) (h2 : c.N[j]? = some y) (hij : i ≠ j) (h3 : c.sc.names.lookup x = some .local) (h4 : c.sc.names.lookup y = some .local)
    (h5 : chkE a c xa = true) (h6 : chkE b c xb = true) (h7 : nst xa = true) (h8 : nst xb = true) (h9 : c.sc.kind = .function) (h10 : px.line = py.line) (h11 : (x == y) = false) (h12 : [xa, xb].all (foldedForSure 8) = false) (h13 : [xa, xb].all (constantsAlone 8) = false)
    (r : Rel M G0 H0 ρ σ G H) (h : SOk M W G0 H0 De (exec T (.par i j a b us) ρ)) : WS Xs (.Assign [.Tuple [.Name x px, .Name y py] kt pt] (.Tuple [xa, xb] k2 pt2) p) De σ H := by
  unfold exec at h
  refine ⟨tPar i j (WA Xs [xa, xb]), fun X hX => ps_par (kx.calm h0 X hX) (by rw [kx.N X hX]; exact kx.nd) (by rw [kx.N X hX]; exact h1) (by rw [kx.N X hX]; exact h2) hij (by rw [kx.sc X hX]; exact h3) (by rw [kx.sc X hX]; exact h4) (pa_w hX) (swPar (kx.sc X hX) h9 h3 h4 h7 h8 h10 h11 h12 h13) swTup, ?_⟩
  have hl : chkL [a, b] c [xa, xb] = true := by simp [chkL, h5, h6]
  have hn : [xa, xb].all nst = true := by simp [h7, h8]
  refine s_evXL (Rd := fun Q => WA Xs [xa, xb] σ H Q) r (fun ρ G r Q q => sndL [a, b] kx _ hl hn r Q q) h fun ds ρ' vs G' H' r' rs q => ?_
  match ds, q with
  | [dx, dy], q =>
    obtain ⟨v, u, rfl, r1, r2⟩ := rs.two'
    exact ⟨v, u, rfl, q _ G' H' ((r'.setFz i r1).setFz j r2)⟩
  | [], q => exact q.elim
  | [_], q => exact q.elim
  | _ :: _ :: _ :: _, q => exact q.elim
theorem t_aug {i : Nat} {op : Operator} {e : E} {us : List Nat} {x : Str} {px p : Pos} {xe : Expr} (kx : Kx Xs M T W c) (hop : op = .Add ∨ op = .Sub) (h1 : tgC c i x = true) (h2 : chkE e c xe = true) (r : Rel M G0 H0 ρ σ G H) (h : SOk M W G0 H0 De (exec T (.aug i op e us) ρ)) :
    WS Xs (.AugAssign (.Name x px) op xe p) De σ H := by
  unfold exec at h
  unfold tgC at h1
  simp only [Bool.and_eq_true, decide_eq_true_eq, Bool.or_eq_true] at h1
  obtain ⟨⟨k1, k2⟩, k3⟩ := h1
  have hloc : L2.Loc c.sc x := by
    unfold locC at k2
    split at k2
    · rename_i e; exact .inl e
    · rename_i e; exact .inr e
    · cases k2
  have hfn : ∀ X, Xs X → X.fn x = true ∨ X.env.scope.names.lookup x = some .local := fun X hX => by
    rcases k3 with k3 | k3
    · exact .inl (kx.cl X hX _ k3)
    · exact .inr (by rw [kx.sc X hX]; exact k3)
  cases ex : ρ[i]? with
  | none => rw [ex] at h; exact h.elim
  | some s =>
    rw [ex] at h
    cases s with
    | un => exact h.elim
    | ow _ => exact h.elim
    | xc _ _ => exact h.elim
    | fz dx =>
      obtain ⟨v, ev, rv⟩ := r.fz i dx ex
      simp only at h
      have key : ∀ f : Int → Int → Int, (∀ a b (ρ1 : Rho), (op = .Add ∧ f a b = a + b) ∨ (op = .Sub ∧ f a b = a - b)) → WP Xs xe σ H fun y H1 => (ipI f) v y H1 fun z H2 => De.nx (σ.set i (some z)) H2 := fun f hf => by
        refine s_evX (Rd := fun Q => WP Xs xe σ H Q) r (fun ρ G r Q q => (sndE e kx _ h2 r).1 Q q) h fun w ρ' u H' g q => ?_
        obtain ⟨G', r', rw'⟩ := g.use
        rcases hf 0 0 ρ with ⟨rfl, _⟩ | ⟨rfl, _⟩
        · split at q
          · rename_i a b e1 e2
            rw [e2] at rw'
            obtain rfl := rv.int'
            obtain rfl := rw'.int'
            have := hf a b ρ
            rcases this with ⟨_, hfab⟩ | ⟨z, _⟩
            · exact ⟨a, b, rfl, rfl, by rw [hfab]; exact q _ G' H' (r'.setFz i Rep.int)⟩
            · cases z
          · rename_i z _; cases z
          · exact q.elim
        · split at q
          · rename_i z _; cases z
          · rename_i a b e1 e2
            rw [e2] at rw'
            obtain rfl := rv.int'
            obtain rfl := rw'.int'
            have := hf a b ρ
            rcases this with ⟨z, _⟩ | ⟨_, hfab⟩
            · cases z
            · exact ⟨a, b, rfl, rfl, by rw [hfab]; exact q _ G' H' (r'.setFz i Rep.int)⟩
          · exact q.elim
      rcases hop with rfl | rfl
      · exact ⟨_, fun X hX => ps_aug (by rw [kx.N X hX]; exact kx.nd) (by rw [kx.N X hX]; exact k1) (by rw [kx.sc X hX]; exact hloc) (pe_w hX) ip_add (hfn X hX), v, ev, key (fun i j => i + j) fun a b _ => .inl ⟨rfl, rfl⟩⟩
      · exact ⟨_, fun X hX => ps_aug (by rw [kx.N X hX]; exact kx.nd) (by rw [kx.N X hX]; exact k1) (by rw [kx.sc X hX]; exact hloc) (pe_w hX) ip_sub (hfn X hX), v, ev, key (fun i j => i - j) fun a b _ => .inr ⟨rfl, rfl⟩⟩
theorem asgSub {x : Str} {px p' : Pos} {xi : Expr} (h : nslice xi = true) (env : Env) (v : Value) : assign ((Expr.Name x px).Subscript xi p') env v = (do
    let ov ← holding [v] (eval (.Name x px) env)
    let iv ← holding [v, ov] (eval xi env)
    standAt p'
    holding [v, ov, iv] (setItem ov iv v)
    release [v, ov, iv] []) := by
  cases xi <;> first | rfl | cases h
theorem t_stix {i : Nat} {ix e : E} {us : List Nat} {x : Str} {px p' p : Pos} {xi xe : Expr} (kx : Kx Xs M T W c) (h1 : nmC c i x = true) (h2 : chkE ix c xi = true) (h3 : chkE e c xe = true) (h4 : nslice xi = true) (r : Rel M G0 H0 ρ σ G H) (h : SOk M W G0 H0 De (exec T (.stix i ix e us) ρ)) :
    WS Xs (.Assign [.Subscript (.Name x px) xi p'] xe p) De σ H := by
  unfold exec at h
  split at h
  · rename_i ds0 e0
    obtain ⟨p0, ep, _⟩ := r.ow i _ e0
    refine ⟨tAsg (WP Xs xe) (gSub (tVar i) (WP Xs xi) rSetL), fun X hX => ps_asg (pe_w hX) (pg_sub (nm_pe kx h1 X hX) (pe_w hX) set_list (fun v => asgSub h4 _ v)) swSub stSub rfl, ?_⟩
    refine s_evX (Rd := fun Q => WP Xs xe σ H Q) r (fun ρ G r Q q => (sndE e kx _ h3 r).1 Q q) h fun v ρ1 u H1 g q => ?_
    obtain ⟨G1, r1, rv⟩ := g.use
    refine ⟨.ref p0, ep, ?_⟩
    have r1' := r1.rebase
    have q' := q.baseG r1.ext.g r1.ext.n
    refine s_evX (Rd := fun Q => WP Xs xi σ H1 Q) r1' (fun ρ G r Q q => (sndE ix kx _ h2 r).1 Q q) q' fun k ρ2 w H2 g2 q2 => ?_
    obtain ⟨G2, r2, rw2⟩ := g2.use
    split at q2
    · rename_i o eo
      obtain ⟨p, e1, e2, e3, e4⟩ := r2.ow i o eo
      rw [ep] at e1; cases e1
      unfold storeIx at q2
      cases o with
      | dct _ => exact q2.elim
      | obj _ _ => exact q2.elim
      | lst ds =>
        cases ek : k.d <;> rw [ek] at q2 rw2 <;> first | exact q2.elim | skip
        rename_i n
        obtain rfl := rw2.int'
        obtain ⟨vs, b1, b2⟩ := e4
        cases ej : ixN ds.length n with
        | none => simp only [ej] at q2; exact q2.elim
        | some j =>
          simp only [ej, R.on_ok] at q2
          exact ⟨p0, vs, n, j, rfl, rfl, b1, by rw [b2.length]; exact ej, q2 σ G2 _ (r2.change eo ep _ ⟨_, upd_same, Reps.set j b2 (Rep.mono r2.ext.g _ _ rv)⟩)⟩
    · exact q2.elim
  · exact h.elim
theorem t_app {i : Nat} {e : E} {us : List Nat} {x : Str} {px ap cp p : Pos} {xe : Expr} (kx : Kx Xs M T W c) (h1 : nmC c i x = true) (h2 : chkE e c xe = true) (h3 : nst xe = true) (h4 : ap.endLine = cp.line) (r : Rel M G0 H0 ρ σ G H) (h : SOk M W G0 H0 De (exec T (.app i e us) ρ)) :
    WS Xs (.Expr (.Call (.Attribute (.Name x px) "append" ap) [xe] [] cp) p) De σ H := by
  unfold exec at h
  split at h
  · rename_i ds0 e0
    obtain ⟨p0, ep, z2, z3, vs0, z4, z5⟩ := r.ow i _ e0
    refine ⟨tDrop (tBM M.K "list" rAppend (tVar i) (tCons (WP Xs xe) tNil)), fun X hX => ps_expr ?_, ?_⟩
    · rw [← kx.K X hX]
      exact pe_bm PySem.F.plainAttrs_list PySem.F.slot_list_append PySem.F.type_list_append mt_append (nm_pe kx h1 X hX) (pa_cons (pe_w hX) pa_nil (starE h3 _ _)) (by rfl) (by rw [starE h3]; rfl) (by rw [h4]; exact beq_self_eq_true _) (starE h3 _ _) (by rfl)
    · refine ⟨.ref p0, ep, .inl ⟨rfl, _, .inl (.inl z4)⟩, ?_⟩
      refine s_evX (Rd := fun Q => WP Xs xe σ H Q) r (fun ρ G r Q q => (sndE e kx _ h2 r).1 Q q) h fun v ρ1 u H1 g q => ?_
      obtain ⟨G1, r1, rv⟩ := g.use
      split at q
      · rename_i ds eo
        obtain ⟨p', e1, e2, e3, vs, b1, b2⟩ := r1.ow i _ eo
        rw [ep] at e1; cases e1
        by_cases hl : ds.length < sizeLine
        · rw [if_pos hl] at q
          exact ⟨p0, vs, u, rfl, rfl, b1, by rw [b2.length]; exact hl, q σ G1 _ (r1.change eo ep _ ⟨_, upd_same, Reps.append b2 (by unfold Reps; exact ⟨u, [], rfl, rv, by unfold Reps; rfl⟩)⟩)⟩
        · rw [if_neg hl] at q; exact q.elim
      · exact q.elim
  · exact h.elim
theorem t_expr {e : E} {us : List Nat} {p : Pos} {xe : Expr} (kx : Kx Xs M T W c) (h2 : chkE e c xe = true) (h3 : isComp xe = false) (r : Rel M G0 H0 ρ σ G H) (h : SOk M W G0 H0 De (exec T (.expr e us) ρ)) : WS Xs (.Expr xe p) De σ H := by
  unfold exec at h
  refine ⟨tDrop (WP Xs xe), fun X hX => ps_expr (pe_w hX) ?_, ?_⟩
  · cases xe <;> first | rfl | cases h3
  · refine s_evX (Rd := fun Q => WP Xs xe σ H Q) r (fun ρ G r Q q => (sndE e kx _ h2 r).1 Q q) h fun v ρ1 u H1 g q => ?_
    obtain ⟨G1, r1, rv⟩ := g.use
    exact q σ G1 H1 r1
theorem t_ret {e : E} {us : List Nat} {p : Pos} {xe : Expr} (kx : Kx Xs M T W c) (h2 : chkE e c xe = true) (r : Rel M G0 H0 ρ σ G H) (h : SOk M W G0 H0 De (exec T (.ret e us) ρ)) : WS Xs (.Return (some xe) p) De σ H := by
  unfold exec at h
  refine ⟨tRet (WP Xs xe), fun X hX => ps_ret (pe_w hX), ?_⟩
  refine s_evX (Rd := fun Q => WP Xs xe σ H Q) r (fun ρ G r Q q => (sndE e kx _ h2 r).1 Q q) h fun v ρ1 u H1 g q => ?_
  cases v with
  | fz d =>
    obtain ⟨G1, r1, rv⟩ := g
    exact q u G1 H1 r1.ext rv
  | fr o =>
    obtain ⟨G1, a, rfl, r1, h0, hg, ro, nw⟩ := g
    exact q a G1 H1 r1.ext h0 hg ro
theorem t_retv {i : Nat} {x : Str} {px p : Pos} (kx : Kx Xs M T W c) (h1 : nmC c i x = true) (r : Rel M G0 H0 ρ σ G H) (h : SOk M W G0 H0 De (exec T (.retv i) ρ)) : WS Xs (.Return (some (.Name x px)) p) De σ H := by
  unfold exec at h
  split at h
  · rename_i d e
    obtain ⟨v, e1, e2⟩ := r.fz i d e
    exact ⟨tRet (tVar i), fun X hX => ps_ret (nm_pe kx h1 X hX), v, e1, h v G H r.ext e2⟩
  · rename_i o e
    obtain ⟨q, e1, e2, e3, e4⟩ := r.ow i o e
    exact ⟨tRet (tVar i), fun X hX => ps_ret (nm_pe kx h1 X hX), _, e1, h q G H r.ext e2 e3 e4⟩
  · exact h.elim
theorem t_raise0 {C : Str} {us : List Nat} {m : Str} {k : Nat} {p1 p2 p3 p4 : Pos} (kx : Kx Xs M T W c) (h0 : c.hot = false) (hg : gloC c C = true) (hC : C ∈ c.ex0) (r : Rel M G0 H0 ρ σ G H) (h : SOk M W G0 H0 De (exec T (.rais C [] [] us) ρ)) :
    WS Xs (.Raise (some (.Call (.Name C p1) [.Constant (.str m) k p2] [] p3)) none p4) De σ H := by
  have h : SOk M W G0 H0 De (.ex C [] ρ) := by
    unfold exec evXL at h
    by_cases ha : anyOw ρ us = true
    · rw [if_pos ha] at h
      simpa [evL, D.lfs] using h
    · rw [if_neg ha] at h
      simpa [evL] using h
  obtain ⟨D, hD, hp⟩ := kx.ex0 C hC
  exact ⟨_, fun X hX => ps_raise (kx.calm h0 X hX) (kx.tk X hX) (hp X (kx.K X hX) (kx.mg X hX) (kx.gl hg X hX) (nodb_dbg (glo_nodb hg)) _ _ _ _ _), h _ _ σ G H r ⟨D, hD, rfl, .inl ⟨rfl, rfl⟩⟩⟩
theorem RepF.zip : ∀ {fs : List Str} {ds : List D} {vs : List V}, Reps M G ds vs → RepF M G (fs.zip ds) (fs.zip vs)
  | [], ds, vs, _ => by unfold List.zip; simp [RepF]
  | f :: fs, [], vs, h => by unfold Reps at h; subst h; simp [RepF]
  | f :: fs, d :: ds, vs, h => by
    unfold Reps at h
    obtain ⟨v, r, rfl, h1, h2⟩ := h
    show RepF M G ((f, d) :: fs.zip ds) ((f, v) :: fs.zip r)
    unfold RepF
    exact ⟨v, _, rfl, h1, RepF.zip h2⟩
theorem t_raise1 {C : Str} {as : List E} {fs : List Str} {us : List Nat} {x : Expr} {xs : List Expr} {p1 p3 p4 : Pos} (kx : Kx Xs M T W c) (h0 : c.hot = false) (hg : gloC c C = true) (hC : (C, fs) ∈ c.ex1) (h2 : chkL as c (x :: xs) = true) (h3 : (x :: xs).all nst = true) (h4 : (x :: xs).length = fs.length)
    (r : Rel M G0 H0 ρ σ G H) (h : SOk M W G0 H0 De (exec T (.rais C as fs us) ρ)) : WS Xs (.Raise (some (.Call (.Name C p1) (x :: xs) [] p3)) none p4) De σ H := by
  unfold exec at h
  obtain ⟨D, hD, hp⟩ := kx.ex1 C fs hC
  refine ⟨_, fun X hX => ps_raise (kx.calm h0 X hX) (kx.tk X hX) (hp X (kx.K X hX) (kx.mg X hX) (kx.P X hX) (kx.w X hX) (kx.base X hX) ⟨X, hX, rfl⟩ (kx.gl hg X hX) (nodb_dbg (glo_nodb hg)) _ _ _ _ _ h3 h4 (pa_w hX)), ?_⟩
  refine s_evXL (Rd := fun Q => WA Xs (x :: xs) σ H Q) r (fun ρ G r Q q => sndL as kx _ h2 h3 r Q q) h fun ds ρ' vs G' H' r' rs q => ?_
  by_cases hl : fs.length = ds.length
  · rw [if_pos hl] at q
    refine ⟨by rw [rs.length, hl], fun d hd => ?_⟩
    have x' := Ext.both r'.same (.xd (fs.zip vs)) hd
    exact q _ _ σ _ _ (r'.later x') ⟨D, hD, rfl, .inr ⟨d, _, rfl, upd_same, RepF.zip (Reps.mono x'.g _ _ rs)⟩⟩
  · rw [if_neg hl] at q; exact q.elim
end

section
variable {T : Tb}
set_option maxHeartbeats 8000000
mutual
theorem sndS : ∀ (s : S) {Xs : Cx → Prop} {M : Md} {W : WX} {c : Cs} (kx : Kx Xs M T W c) (st : Stmt), chkS s c st = true → ∀ {G0 H0 G H : Hp} {ρ : Rho} {σ : L2.St} {De : Ends}, Rel M G0 H0 ρ σ G H → SOk M W G0 H0 De (exec T s ρ) → WS Xs st De σ H
  | .asg tg e us, Xs, M, W, c, kx, st, hk, G0, H0, G, H, ρ, σ, De, r, h => by
    unfold chkS at hk
    split at hk <;> first | (cases hk; done) | skip
    simp only [Bool.and_eq_true, decide_eq_true_eq] at hk
    exact t_asg kx hk.1.1.1 hk.1.1.2 hk.1.2 hk.2 r h
  | .par i j a b us, Xs, M, W, c, kx, st, hk, G0, H0, G, H, ρ, σ, De, r, h => by
    unfold chkS at hk
    split at hk <;> first | (cases hk; done) | skip
    simp only [Bool.and_eq_true, decide_eq_true_eq, Bool.not_eq_true'] at hk
    obtain ⟨⟨⟨⟨⟨⟨⟨⟨⟨⟨⟨⟨⟨⟨a0, a1⟩, a2⟩, a3⟩, a4⟩, a5⟩, a6⟩, a7⟩, a8⟩, a9⟩, a10⟩, a11⟩, a12⟩, a13⟩, a14⟩ := hk
    exact t_par kx a0 a1 a2 a3 a4 a5 a6 a7 a8 a9 a10 a11 a12 a13 a14 r h
  | .aug i op e us, Xs, M, W, c, kx, st, hk, G0, H0, G, H, ρ, σ, De, r, h => by
    unfold chkS at hk
    split at hk <;> first | (cases hk; done) | skip
    simp only [Bool.and_eq_true, decide_eq_true_eq, Bool.or_eq_true] at hk
    obtain ⟨⟨⟨rfl, a1⟩, a2⟩, a3⟩ := hk
    exact t_aug kx a1 a2 a3 r h
  | .stix i ix e us, Xs, M, W, c, kx, st, hk, G0, H0, G, H, ρ, σ, De, r, h => by
    unfold chkS at hk
    split at hk <;> first | (cases hk; done) | skip
    simp only [Bool.and_eq_true] at hk
    exact t_stix kx hk.1.1.1 hk.1.1.2 hk.1.2 hk.2 r h
  | .app i e us, Xs, M, W, c, kx, st, hk, G0, H0, G, H, ρ, σ, De, r, h => by
    unfold chkS at hk
    split at hk <;> first | (cases hk; done) | skip
    simp only [Bool.and_eq_true, decide_eq_true_eq] at hk
    obtain ⟨⟨⟨⟨rfl, a1⟩, a2⟩, a3⟩, a4⟩ := hk
    exact t_app kx a1 a2 a3 a4 r h
  | .expr e us, Xs, M, W, c, kx, st, hk, G0, H0, G, H, ρ, σ, De, r, h => by
    unfold chkS at hk
    split at hk <;> first | (cases hk; done) | skip
    simp only [Bool.and_eq_true, Bool.not_eq_true'] at hk
    exact t_expr kx hk.1 hk.2 r h
  | .iff t a b us, Xs, M, W, c, kx, st, hk, G0, H0, G, H, ρ, σ, De, r, h => by
    unfold chkS at hk
    split at hk <;> first | (cases hk; done) | skip
    rename_i xt xa xb p
    simp only [Bool.and_eq_true] at hk
    unfold exec at h
    refine ⟨_, fun X hX => ps_if (pt_w hX) (pss_w hX) (pss_w hX), ?_⟩
    refine s_evXB (Rd := fun Q => WT Xs xt σ H Q) r (fun ρ G r Q q => (sndE t kx _ hk.1.1.1 r).2 hk.1.1.2 Q q) h fun k G' H' r' q => ?_
    cases k with
    | true => exact sndSs a kx _ hk.1.2 r' q
    | false => exact sndSs b kx _ hk.2 r' q
  | .whl t b us, Xs, M, W, c, kx, st, hk, G0, H0, G, H, ρ, σ, De, r, h => by
    unfold chkS at hk
    split at hk <;> first | (cases hk; done) | skip
    simp only [Bool.and_eq_true] at hk
    unfold exec at h
    refine ⟨_, fun X hX => ps_while (kx.po X hX) (pt_w hX) (pss_w hX), ?_⟩
    exact s_while (fun r q => sndSs b kx _ hk.2 r q) (fun r Q q => (sndE t kx _ hk.1.1 r).2 hk.1.2 Q q) T.fuel r h
  | .for tg k as b us, Xs, M, W, c, kx, st, hk, G0, H0, G, H, ρ, σ, De, r, h => by
    unfold chkS at hk
    split at hk <;> first | (cases hk; done) | skip
    rename_i xtg it xb p
    simp only [Bool.and_eq_true, Bool.not_eq_true'] at hk
    obtain ⟨⟨⟨⟨h0, h1⟩, h2⟩, h3⟩, h4⟩ := hk
    unfold exec at h
    refine ⟨_, fun X hX => ps_for (kx.po X hX) (kx.calm h0 X hX) (pi_w hX) (pg_w hX) (pss_w hX) (foldedId h2 _), ?_⟩
    refine s_evXI (Rd := fun R => WI Xs xtg it σ H R) r (fun ρ G r R q => sndI2 kx h1 r (fun xs a b => sndL as kx xs a b r) (fun x a Q q => sndA as kx x a r Q q) q) h fun items ρ' J G' H' r' wk q => ?_
    exact s_for kx h3 (fun r q => sndSs b kx _ h4 r q) r' wk q
  | .ret e us, Xs, M, W, c, kx, st, hk, G0, H0, G, H, ρ, σ, De, r, h => by
    unfold chkS at hk
    split at hk <;> first | (cases hk; done) | skip
    exact t_ret kx hk r h
  | .retv i, Xs, M, W, c, kx, st, hk, G0, H0, G, H, ρ, σ, De, r, h => by
    unfold chkS at hk
    split at hk <;> first | (cases hk; done) | skip
    exact t_retv kx hk r h
  | .retN, Xs, M, W, c, kx, st, hk, G0, H0, G, H, ρ, σ, De, r, h => by
    unfold chkS at hk
    split at hk <;> first | (cases hk; done) | skip
    unfold exec at h
    exact ⟨tRetN, fun X hX => ps_retN, h _ G H r.ext Rep.non⟩
  | .brk, Xs, M, W, c, kx, st, hk, G0, H0, G, H, ρ, σ, De, r, h => by
    unfold chkS at hk
    split at hk <;> first | (cases hk; done) | skip
    unfold exec at h
    exact ⟨tBreak, fun X hX => ps_break, h σ G H r⟩
  | .cont, Xs, M, W, c, kx, st, hk, G0, H0, G, H, ρ, σ, De, r, h => by
    unfold chkS at hk
    split at hk <;> first | (cases hk; done) | skip
    unfold exec at h
    exact ⟨tCont, fun X hX => ps_continue, h σ G H r⟩
  | .pass, Xs, M, W, c, kx, st, hk, G0, H0, G, H, ρ, σ, De, r, h => by
    unfold chkS at hk
    split at hk <;> first | (cases hk; done) | skip
    unfold exec at h
    exact ⟨tNext, fun X hX => ps_pass, h σ G H r⟩
  | .rais C as fs us, Xs, M, W, c, kx, st, hk, G0, H0, G, H, ρ, σ, De, r, h => by
    unfold chkS at hk
    split at hk <;> first | (cases hk; done) | skip
    rename_i C' p1 x xs p2 p3
    rw [Bool.and_eq_true, Bool.and_eq_true, Bool.and_eq_true, Bool.or_eq_true] at hk
    obtain ⟨⟨⟨h0, h1⟩, h2⟩, h3⟩ := hk
    have h0 : c.hot = false := by simpa using h0
    have h1 := of_decide_eq_true h1
    subst h1
    rcases h3 with h3 | h3
    · simp only [Bool.and_eq_true, decide_eq_true_eq] at h3
      obtain ⟨⟨⟨⟨a1, a2⟩, a3⟩, a4⟩, a5⟩ := h3
      cases as <;> first | (cases a1; done) | skip
      cases fs <;> first | (cases a2; done) | skip
      cases xs <;> first | (cases a3; done) | skip
      split at a4 <;> first | (cases a4; done) | skip
      exact t_raise0 kx h0 h2 a5 r h
    · rw [Bool.and_eq_true, Bool.and_eq_true, Bool.and_eq_true] at h3
      exact t_raise1 kx h0 h2 (of_decide_eq_true h3.1.2) h3.1.1.1 h3.1.1.2 (of_decide_eq_true h3.2) r h
  | .tri b C nm hs, Xs, M, W, c, kx, st, hk, G0, H0, G, H, ρ, σ, De, r, h => by
    unfold chkS at hk
    split at hk <;> first | (cases hk; done) | skip
    simp only [Bool.and_eq_true, decide_eq_true_eq, Bool.not_eq_true'] at hk
    obtain ⟨⟨⟨⟨⟨⟨⟨a0, a1⟩, rfl⟩, a3⟩, a4⟩, a5⟩, a6⟩, a7⟩ := hk
    exact s_try kx a0 a1 a3 a4 a5 (fun W' => fun r q => sndSs b (kx.tr a0 W') _ a6 r q) (fun a D d cc hD => fun r q => sndSs hs (kx.suite hD) _ a7 r q) r h
theorem sndSs : ∀ (ss : List S) {Xs : Cx → Prop} {M : Md} {W : WX} {c : Cs} (kx : Kx Xs M T W c) (sts : List Stmt), chkSs ss c sts = true → ∀ {G0 H0 G H : Hp} {ρ : Rho} {σ : L2.St} {De : Ends}, Rel M G0 H0 ρ σ G H → SOk M W G0 H0 De (execs T ss ρ) → WSs Xs sts De σ H
  | [], Xs, M, W, c, kx, sts, hk, G0, H0, G, H, ρ, σ, De, r, h => by
    unfold chkSs at hk
    cases sts with
    | cons _ _ => cases hk
    | nil =>
      unfold execs at h
      exact ⟨tNext, fun X hX => pss_nil, h σ G H r⟩
  | s :: ss, Xs, M, W, c, kx, sts, hk, G0, H0, G, H, ρ, σ, De, r, h => by
    unfold chkSs at hk
    split at hk <;> first | (cases hk; done) | skip
    rename_i x xs
    rw [Bool.and_eq_true] at hk
    unfold execs at h
    refine ⟨_, fun X hX => pss_cons (ps_w hX) (pss_w hX), ?_⟩
    show WS Xs x { De with nx := WSs Xs xs De } σ H
    refine sndS s kx _ hk.1 r ?_
    cases e : exec T s ρ with
    | st => rw [e] at h; exact h.elim
    | ex cc fs ρ1 => rw [e] at h; exact h
    | ok f =>
      rw [e] at h
      cases f with
      | nx ρ1 => exact fun σ' G' H' r' => sndSs ss kx _ hk.2 r' h
      | rt v => exact h
      | bk ρ1 => exact h
      | ct ρ1 => exact h
end
end
end PX

set_option Elab.async false
set_option linter.all false
set_option maxRecDepth 100000
/-! Lx0: things that are held by several names and changed: values, the live heap, a second small syntax, its evaluation. -/
namespace PX
open PySem PySem.Spec PyProof.Rows L2

/-- a value: frozen data, or a live thing by its place -/
inductive LV where
  | d (d : D) | r (i : Nat)
/-- a live thing -/
inductive LO where
  | lst (vs : List LV) | obj (c : Str) (fs : List (Str × LV))
abbrev LHp := List LO
inductive LSl where
  | un | v (x : LV) | xc (c : Str) (fs : List (Str × D))
abbrev LRho := List LSl
inductive LR (α : Type) where
  | ok (a : α) (h : LHp) | ex (c : Str) (fs : List (Str × D)) (h : LHp) | st
def LR.bind {α β : Type} : LR α → (α → LHp → LR β) → LR β
  | .ok a h, f => f a h
  | .ex c fs h, _ => .ex c fs h
  | .st, _ => .st
def LR.nox {α : Type} : LR α → LR α
  | .ok a h => .ok a h
  | _ => .st
@[simp] theorem LR.bind_ok {α β : Type} (a : α) (h : LHp) (f : α → LHp → LR β) : LR.bind (.ok a h) f = f a h := rfl
@[simp] theorem LR.bind_ex {α β : Type} (c fs h) (f : α → LHp → LR β) : LR.bind (.ex c fs h) f = .ex c fs h := rfl
@[simp] theorem LR.bind_st {α β : Type} (f : α → LHp → LR β) : LR.bind .st f = .st := rfl
@[simp] theorem LR.nox_ok {α : Type} (a : α) (h : LHp) : LR.nox (.ok a h) = .ok a h := rfl

/-! ### syntax -/
inductive LE where
  | p (e : E) (us : List Nat) | v (i : Nat)
  | ix (a : LE) (b : E) (us : List Nat) | fl (a : LE) (f : Str)
  | ls (es : List LE) | lc (own : List Nat) (tg : Tg) (k : ItK) (as : List E) (us : List Nat) (ifs : List E) (el : LE)
  | lcL (own : List Nat) (tg : Tg) (o : LE) (ifs : List E) (el : LE)
  | call (f : Str) (as : List LE)
/-- tests -/
inductive LB where
  | p (e : E) (us : List Nat) | e (e : LE) | nt (a : LB) | and (a b : LB) | or (a b : LB)
inductive LQ where
  | iffL (c : LB) (a b : List LQ)
  | asg (tg : Tg) (e : LE)
  | par (i j : Nat) (a b : LE)
  | aug (i : Nat) (op : Operator) (e : E) (us : List Nat)
  | app (o : LE) (e : LE)
  | stix (o : LE) (ix : E) (us : List Nat) (e : LE)
  | stf (o : LE) (f : Str) (e : LE)
  | augf (o : LE) (f : Str) (op : Operator) (e : E) (us : List Nat)
  | expr (e : LE)
  | iff (c : E) (us : List Nat) (a b : List LQ)
  | whl (c : E) (us : List Nat) (b : List LQ)
  | for (tg : Tg) (k : ItK) (as : List E) (us : List Nat) (b : List LQ)
  | forL (tg : Tg) (o : LE) (b : List LQ)
  | ret (e : LE) | retN | brk | cont | pass
  | rais (c : Str) (as : List E) (fs : List Str) (us : List Nat)
  | tri (b : List LQ) (c : Str) (nm : Option Nat) (h : List LQ)

/-! ### evaluation -/
def mapO {α β : Type} (f : α → Option β) : List α → Option (List β)
  | [] => some []
  | a :: as => match f a with
    | some b => (match mapO f as with | some bs => some (b :: bs) | none => none)
    | none => none
def mapF {α β : Type} (f : α → Option β) : List (Str × α) → Option (List (Str × β))
  | [] => some []
  | (k, a) :: as => match f a with
    | some b => (match mapF f as with | some bs => some ((k, b) :: bs) | none => none)
    | none => none
/-- a value as data, as it stands now -/
def snap (h : LHp) : Nat → LV → Option D
  | _, .d d => some d
  | 0, .r _ => none
  | n + 1, .r i => match h[i]? with
    | some (.lst vs) => (mapO (snap h n) vs).map .lst
    | some (.obj c fs) => (mapF (snap h n) fs).map (.obj c)
    | none => none
def LSl.frz (h : LHp) : LSl → Sl
  | .un => .un
  | .v x => match snap h 8 x with | some d => .fz d | none => .un
  | .xc c fs => .xc c fs
def LSl.pur : LSl → Sl
  | .v (.d d) => .fz d
  | .xc c fs => .xc c fs
  | _ => .un
def LSl.live : LSl → Bool
  | .v (.r _) => true
  | _ => false
def anyLv (ρ : LRho) (us : List Nat) : Bool := us.any fun i => match ρ[i]? with | some s => s.live | none => false
/-- nothing in it that may be changed, but itself -/
def EV.lf2 : EV → Bool
  | .fz d => d.lf
  | .fr (.lst ds) => D.lfs ds
  | .fr (.obj _ fs) => D.lfs (fs.map (·.2))
  | .fr (.dct _) => false
def addV (h : LHp) : EV → LR LV
  | .fz d => .ok (.d d) h
  | .fr (.lst ds) => .ok (.r h.length) (h ++ [.lst (ds.map .d)])
  | .fr (.obj c fs) => .ok (.r h.length) (h ++ [.obj c (fs.map fun p => (p.1, .d p.2))])
  | .fr (.dct _) => .st
structure LTb where
  t : Tb
  call : Str → List LV → LHp → LR LV
  fs : List Str
def evP (T : LTb) (ρ : LRho) (h : LHp) (us : List Nat) (e : E) : LR LV :=
  if anyLv ρ us = true then
    match evE T.t (ρ.map (LSl.frz h)) e with
    | .ok v => if v.lf2 = true then addV h v else .st
    | .ex c fs => if D.lfs (fs.map (·.2)) = true then .ex c fs h else .st
    | .st => .st
  else match evE T.t (ρ.map LSl.pur) e with
    | .ok v => addV h v
    | .ex c fs => .ex c fs h
    | .st => .st
/-- a test -/
def evPB (T : LTb) (ρ : LRho) (h : LHp) (us : List Nat) (e : E) : LR Bool :=
  match (evE T.t (ρ.map (if anyLv ρ us = true then LSl.frz h else LSl.pur)) e).bind asBool with
  | .ok b => .ok b h
  | .ex c fs => if anyLv ρ us = true ∧ D.lfs (fs.map (·.2)) = false then .st else .ex c fs h
  | .st => .st
/-- a list of data -/
def evPL (T : LTb) (ρ : LRho) (h : LHp) (us : List Nat) (es : List E) : LR (List D) :=
  match evL T.t (ρ.map (if anyLv ρ us = true then LSl.frz h else LSl.pur)) es with
  | .ok ds => if anyLv ρ us = true ∧ D.lfs ds = false then .st else .ok ds h
  | .ex c fs => if anyLv ρ us = true ∧ D.lfs (fs.map (·.2)) = false then .st else .ex c fs h
  | .st => .st
def bindLs : List Nat → List LV → LRho → Option LRho
  | [], [], ρ => some ρ
  | i :: is, x :: xs, ρ => bindLs is xs (ρ.set i (.v x))
  | _, _, _ => none
def bindL (tg : Tg) (x : LV) (ρ : LRho) (h : LHp) : Option LRho :=
  match tg with
  | .nm i => some (ρ.set i (.v x))
  | .tp is => match x with
    | .d (.tup ds) => bindLs is (ds.map .d) ρ
    | .d (.lst ds) => bindLs is (ds.map .d) ρ
    | .r k => (match h[k]? with
      | some (.lst vs) => bindLs is vs ρ
      | _ => none)
    | _ => none
def wipeLS (ρ : LRho) : List Nat → LRho
  | [] => ρ
  | v :: vs => (wipeLS ρ vs).set v .un
def lxIx (h : LHp) : LV → LV → LR LV
  | .r i, .d (.int n) => match h[i]? with
    | some (.lst vs) => (match atI vs n with | some y => .ok y h | none => .st)
    | _ => .st
  | .d x, .d k => match opIx x k with
    | .ok (.fz y) => .ok (.d y) h
    | _ => .st
  | _, _ => .st
def lxFl (T : LTb) (h : LHp) (f : Str) : LV → LR LV
  | .r i => match h[i]? with
    | some (.obj c fs) => (match fs.lookup f, T.t.oc c with | some y, true => .ok y h | _, _ => .st)
    | _ => .st
  | .d (.obj c fs) => (match fs.lookup f, T.t.oc c with | some y, true => .ok (.d y) h | _, _ => .st)
  | _ => .st
/-- a comprehension's tests -/
def evPT (T : LTb) (ρ : LRho) (ifs : List E) : R Bool := evT T.t (ρ.map LSl.pur) ifs
/-- a comprehension that fills the live list at k -/
def lcL (tg : Tg) (ts : LRho → R Bool) (el : LRho → LHp → LR LV) (ρ : LRho) (k : Nat) : List D → LHp → LR Unit
  | [], h => .ok () h
  | d :: ds, h => match bindL tg (.d d) ρ h with
    | none => .st
    | some ρ1 => match ts ρ1 with
      | .ok true => (el ρ1 h).nox.bind fun x h1 => (match h1[k]? with
        | some (.lst vs) => if vs.length < sizeLine then lcL tg ts el ρ k ds (h1.set k (.lst (vs ++ [x]))) else .st
        | _ => .st)
      | .ok false => lcL tg ts el ρ k ds h
      | _ => .st
/-- a comprehension over the live list at i, from its place j on, at most n turns -/
def lcLL (tg : Tg) (ts : LRho → R Bool) (el : LRho → LHp → LR LV) (ρ : LRho) (k i : Nat) : Nat → Nat → LHp → LR Unit
  | n, j, h => match h[i]? with
    | some (.lst vs) => (match vs[j]? with
      | none => .ok () h
      | some x => (match n with
        | 0 => .st
        | m + 1 => (match bindL tg x ρ h with
          | none => .st
          | some ρ1 => (match ts ρ1 with
            | .ok true => (el ρ1 h).nox.bind fun y h1 => (match h1[k]? with
              | some (.lst ws) => if ws.length < sizeLine then lcLL tg ts el ρ k i m (j + 1) (h1.set k (.lst (ws ++ [y]))) else .st
              | _ => .st)
            | .ok false => lcLL tg ts el ρ k i m (j + 1) h
            | _ => .st))))
    | _ => .st
mutual
def evA (T : LTb) (ρ : LRho) : LE → LHp → LR LV
  | .p e us, h => evP T ρ h us e
  | .v i, h => match ρ[i]? with
    | some (.v x) => .ok x h
    | _ => .st
  | .ix a b us, h => (evA T ρ a h).bind fun x h1 => (evP T ρ h1 us b).bind fun k h2 => lxIx h2 x k
  | .fl a f, h => (evA T ρ a h).bind fun x h1 => lxFl T h1 f x
  | .ls es, h => (evAs T ρ es h).bind fun vs h1 => if vs.length ≤ sizeLine then .ok (.r h1.length) (h1 ++ [.lst vs]) else .st
  | .lc own tg k as us ifs el, h => (evPL T ρ h us as).bind fun ds h1 => match itemsOf k ds with
    | .ok xs => if xs.length ≤ sizeLine then
        (lcL tg (fun ρ1 => evPT T ρ1 ifs) (fun ρ1 h2 => evA T ρ1 el h2) (wipeLS ρ own) h1.length xs (h1 ++ [.lst []])).bind fun _ h3 => .ok (.r h1.length) h3
      else .st
    | _ => .st
  | .lcL own tg o ifs el, h => (evA T ρ o h).bind fun x h1 => match x with
    | .r i => (match h1[i]? with
      | some (.lst vs) => (lcLL tg (fun ρ1 => evPT T ρ1 ifs) (fun ρ1 h2 => evA T ρ1 el h2) (wipeLS ρ own) h1.length i (vs.length + 1) 0 (h1 ++ [.lst []])).bind fun _ h3 => .ok (.r h1.length) h3
      | _ => .st)
    | .d d => (match itVal [d] with
      | .ok xs => if xs.length ≤ sizeLine then
          (lcL tg (fun ρ1 => evPT T ρ1 ifs) (fun ρ1 h2 => evA T ρ1 el h2) (wipeLS ρ own) h1.length xs (h1 ++ [.lst []])).bind fun _ h3 => .ok (.r h1.length) h3
        else .st
      | _ => .st)
  | .call f as, h => (evAs T ρ as h).bind fun vs h1 => T.call f vs h1
def evAs (T : LTb) (ρ : LRho) : List LE → LHp → LR (List LV)
  | [], h => .ok [] h
  | e :: es, h => (evA T ρ e h).bind fun x h1 => (evAs T ρ es h1).bind fun xs h2 => .ok (x :: xs) h2
end
def evB (T : LTb) (ρ : LRho) : LB → LHp → LR Bool
  | .p e us, h => evPB T ρ h us e
  | .e e, h => (evA T ρ e h).bind fun x h1 => match x with
    | .d (.bl k) => .ok k h1
    | _ => .st
  | .nt a, h => (evB T ρ a h).bind fun k h1 => .ok (!k) h1
  | .and a b, h => (evB T ρ a h).bind fun k h1 => if k = true then evB T ρ b h1 else .ok false h1
  | .or a b, h => (evB T ρ a h).bind fun k h1 => if k = true then .ok true h1 else evB T ρ b h1
structure LSt where
  ρ : LRho
  h : LHp
inductive LFl where
  | nx (s : LSt) | rt (x : LV) (h : LHp) | bk (s : LSt) | ct (s : LSt)
inductive LRS where
  | ok (f : LFl) | ex (c : Str) (fs : List (Str × D)) (s : LSt) | st
def LR.on {α : Type} (x : LR α) (ρ : LRho) (f : α → LHp → LRS) : LRS :=
  match x with
  | .ok a h => f a h
  | .ex c fs h => .ex c fs ⟨ρ, h⟩
  | .st => .st
@[simp] theorem LR.on_ok {α} (a : α) (h ρ f) : LR.on (.ok a h) ρ f = f a h := rfl
@[simp] theorem LR.on_ex {α} (c fs h ρ) (f : α → LHp → LRS) : LR.on (.ex c fs h) ρ f = .ex c fs ⟨ρ, h⟩ := rfl
@[simp] theorem LR.on_st {α} (ρ) (f : α → LHp → LRS) : LR.on .st ρ f = .st := rfl
def LRS.then (x : LRS) (f : LSt → LRS) : LRS :=
  match x with
  | .ok (.nx s) => f s
  | y => y
def LRS.turn (x : LRS) (f : LSt → LRS) : LRS :=
  match x with
  | .ok (.nx s) => f s
  | .ok (.ct s) => f s
  | .ok (.bk s) => .ok (.nx s)
  | y => y
@[simp] theorem LRS.then_nx (s f) : LRS.then (.ok (.nx s)) f = f s := rfl
@[simp] theorem LRS.then_rt (x h f) : LRS.then (.ok (.rt x h)) f = .ok (.rt x h) := rfl
@[simp] theorem LRS.then_ex (c fs s f) : LRS.then (.ex c fs s) f = .ex c fs s := rfl
@[simp] theorem LRS.then_st (f) : LRS.then .st f = .st := rfl
@[simp] theorem LRS.turn_nx (s f) : LRS.turn (.ok (.nx s)) f = f s := rfl
@[simp] theorem LRS.turn_ct (s f) : LRS.turn (.ok (.ct s)) f = f s := rfl
@[simp] theorem LRS.turn_bk (s f) : LRS.turn (.ok (.bk s)) f = .ok (.nx s) := rfl
@[simp] theorem LRS.turn_rt (x h f) : LRS.turn (.ok (.rt x h)) f = .ok (.rt x h) := rfl
@[simp] theorem LRS.turn_ex (c fs s f) : LRS.turn (.ex c fs s) f = .ex c fs s := rfl
@[simp] theorem LRS.turn_st (f) : LRS.turn .st f = .st := rfl
def lforD (tg : Tg) (b : LSt → LRS) : List D → LSt → LRS
  | [], s => .ok (.nx s)
  | d :: ds, s => match bindL tg (.d d) s.ρ s.h with
    | some ρ1 => (b ⟨ρ1, s.h⟩).turn (lforD tg b ds)
    | none => .st
/-- over the live list at k, from the place i on; at most n turns -/
def lforL (tg : Tg) (b : LSt → LRS) (k : Nat) : Nat → Nat → LSt → LRS
  | n, i, s => match s.h[k]? with
    | some (.lst vs) => (match vs[i]? with
      | none => .ok (.nx s)
      | some x => (match n with
        | 0 => .st
        | m + 1 => (match bindL tg x s.ρ s.h with
          | some ρ1 => (b ⟨ρ1, s.h⟩).turn (lforL tg b k m (i + 1))
          | none => .st)))
    | _ => .st
def lwhile (c : LSt → LR Bool) (b : LSt → LRS) : Nat → LSt → LRS
  | 0, _ => .st
  | n + 1, s => (c s).on s.ρ fun k h => if k = true then (b ⟨s.ρ, h⟩).turn (lwhile c b n) else .ok (.nx ⟨s.ρ, h⟩)
def clL (ρ : LRho) : LRho := ρ.map fun s => match s with
  | .xc _ _ => .un
  | s => s
def unL : Option Nat → LRho → LRho
  | some i, ρ => ρ.set i .un
  | none, ρ => ρ
def ltriEnd (nm : Option Nat) : LRS → LRS
  | .ok (.nx s) => .ok (.nx ⟨clL (unL nm s.ρ), s.h⟩)
  | .ok (.bk s) => .ok (.bk ⟨clL (unL nm s.ρ), s.h⟩)
  | .ok (.ct s) => .ok (.ct ⟨clL (unL nm s.ρ), s.h⟩)
  | .ok (.rt x h) => .ok (.rt x h)
  | _ => .st
def ltriSet : Option Nat → Str → List (Str × D) → LRho → LRho
  | some i, cc, fs, ρ => ρ.set i (.xc cc fs)
  | none, _, _, ρ => ρ
def putLF (f : Str) (x : LV) : List (Str × LV) → List (Str × LV)
  | [] => [(f, x)]
  | (k, y) :: fs => if k = f then (k, x) :: fs else (k, y) :: putLF f x fs
mutual
def lexec (T : LTb) : LQ → LSt → LRS
  | .asg tg e, s => (evA T s.ρ e s.h).on s.ρ fun x h => match bindL tg x s.ρ h with
    | some ρ1 => .ok (.nx ⟨ρ1, h⟩)
    | none => .st
  | .par i j a b, s => (evAs T s.ρ [a, b] s.h).on s.ρ fun xs h => match xs with
    | [x, y] => .ok (.nx ⟨(s.ρ.set i (.v x)).set j (.v y), h⟩)
    | _ => .st
  | .aug i op e us, s => match s.ρ[i]? with
    | some (.v (.d (.int a))) => (evP T s.ρ s.h us e).on s.ρ fun x h => match op, x with
      | .Add, .d (.int b) => .ok (.nx ⟨s.ρ.set i (.v (.d (.int (a + b)))), h⟩)
      | .Sub, .d (.int b) => .ok (.nx ⟨s.ρ.set i (.v (.d (.int (a - b)))), h⟩)
      | _, _ => .st
    | _ => .st
  | .app o e, s => (evA T s.ρ o s.h).on s.ρ fun x h => match x with
    | .r k => (match h[k]? with
      | some (.lst _) => (evA T s.ρ e h).on s.ρ fun y h1 => (match h1[k]? with
        | some (.lst vs) => if vs.length < sizeLine then .ok (.nx ⟨s.ρ, h1.set k (.lst (vs ++ [y]))⟩) else .st
        | _ => .st)
      | _ => .st)
    | _ => .st
  | .stix o ix us e, s => (evA T s.ρ e s.h).on s.ρ fun y h => (evA T s.ρ o h).on s.ρ fun x h1 => match x with
    | .r k => (evP T s.ρ h1 us ix).on s.ρ fun n h2 => (match h2[k]?, n with
      | some (.lst vs), .d (.int m) => (match ixN vs.length m with
        | some j => .ok (.nx ⟨s.ρ, h2.set k (.lst (vs.set j y))⟩)
        | none => .st)
      | _, _ => .st)
    | _ => .st
  | .stf o f e, s => (evA T s.ρ e s.h).on s.ρ fun y h => (evA T s.ρ o h).on s.ρ fun x h1 => match x with
    | .r k => (match h1[k]? with
      | some (.obj c fs) => if fs.length < 1000 ∧ T.t.oc c = true then .ok (.nx ⟨s.ρ, h1.set k (.obj c (putLF f y fs))⟩) else .st
      | _ => .st)
    | _ => .st
  | .augf o f op e us, s => (evA T s.ρ o s.h).on s.ρ fun x h => match x with
    | .r k => (match h[k]? with
      | some (.obj c fs) => (match fs.lookup f, T.t.oc c with
        | some (.d (.int a)), true => (evP T s.ρ h us e).on s.ρ fun y h1 => (match op, y, h1[k]? with
          | .Add, .d (.int b), some (.obj c1 fs1) => if fs1.length < 1000 ∧ c1 = c then .ok (.nx ⟨s.ρ, h1.set k (.obj c1 (putLF f (.d (.int (a + b))) fs1))⟩) else .st
          | _, _, _ => .st)
        | _, _ => .st)
      | _ => .st)
    | _ => .st
  | .expr e, s => (evA T s.ρ e s.h).on s.ρ fun _ h => .ok (.nx ⟨s.ρ, h⟩)
  | .iff c us a b, s => (evPB T s.ρ s.h us c).on s.ρ fun k h => if k = true then lexecs T a ⟨s.ρ, h⟩ else lexecs T b ⟨s.ρ, h⟩
  | .iffL c a b, s => (evB T s.ρ c s.h).on s.ρ fun k h => if k = true then lexecs T a ⟨s.ρ, h⟩ else lexecs T b ⟨s.ρ, h⟩
  | .whl c us b, s => lwhile (fun s => evPB T s.ρ s.h us c) (fun s => lexecs T b s) T.t.fuel s
  | .for tg k as us b, s => (evPL T s.ρ s.h us as).on s.ρ fun ds h => match itemsOf k ds with
    | .ok xs => lforD tg (fun s => lexecs T b s) xs ⟨s.ρ, h⟩
    | _ => .st
  | .forL tg o b, s => (evA T s.ρ o s.h).on s.ρ fun x h => match x with
    | .r k => (match h[k]? with
      | some (.lst vs) => lforL tg (fun s => lexecs T b s) k (vs.length + 1) 0 ⟨s.ρ, h⟩
      | _ => .st)
    | .d d => (match itVal [d] with
      | .ok xs => lforD tg (fun s => lexecs T b s) xs ⟨s.ρ, h⟩
      | _ => .st)
  | .ret e, s => (evA T s.ρ e s.h).on s.ρ fun x h => .ok (.rt x h)
  | .retN, s => .ok (.rt (.d .non) s.h)
  | .brk, s => .ok (.bk s)
  | .cont, s => .ok (.ct s)
  | .pass, s => .ok (.nx s)
  | .rais c as fs us, s => (evPL T s.ρ s.h us as).on s.ρ fun ds h => if fs.length = ds.length then .ex c (fs.zip ds) ⟨s.ρ, h⟩ else .st
  | .tri b c nm hs, s => match lexecs T b s with
    | .ex cc fs s1 => (match T.t.sub cc c with
      | some true => ltriEnd nm (lexecs T hs ⟨ltriSet nm cc fs s1.ρ, s1.h⟩)
      | some false => .ex cc fs s1
      | none => .st)
    | y => y
def lexecs (T : LTb) : List LQ → LSt → LRS
  | [], s => .ok (.nx s)
  | q :: qs, s => (lexec T q s).then (lexecs T qs)
end
def startL (n : Nat) (xs : List LV) : LRho := xs.map .v ++ List.replicate (n - xs.length) .un
def levDef (T : LTb) (n k : Nat) (b : List LQ) (xs : List LV) (h : LHp) : LR LV :=
  if xs.length = k then
    match lexecs T b ⟨startL n xs, h⟩ with
    | .ok (.nx s) => .ok (.d .non) s.h
    | .ok (.rt x h1) => .ok x h1
    | .ex c fs s => .ex c fs s.h
    | _ => .st
  else .st
def LV.dat : LV → Option D
  | .d z => some z
  | .r _ => none
/-- a result for those who know of no live things -/
def LR.out : LR LV → R EV
  | .ok x h => (match x with
    | .d d => .ok (.fz d)
    | .r i => match h[i]? with
      | some (.lst vs) => (match mapO LV.dat vs with
        | some ds => .ok (.fr (.lst ds))
        | none => (match snap h 8 (.r i) with | some d => .ok (.fz d) | none => .st))
      | some (.obj c fs) => (match mapF LV.dat fs with
        | some ds => .ok (.fr (.obj c ds))
        | none => (match snap h 8 (.r i) with | some d => .ok (.fz d) | none => .st))
      | none => .st)
  | .ex c fs _ => .ex c fs
  | .st => .st
end PX

set_option Elab.async false
set_option linter.all false
set_option maxRecDepth 100000
/-! Lx1: what stands for live things; pure expressions over them. -/
namespace PX
open PySem PySem.Spec PyProof.Rows L2

def RL (M : Md) (G : Hp) (as : List Addr) : LV → V → Prop
  | .d d, v => Rep M G d v
  | .r i, v => ∃ a, as[i]? = some a ∧ v = .ref a
def RLs (M : Md) (G : Hp) (as : List Addr) : List LV → List V → Prop
  | [], us => us = []
  | x :: xs, us => ∃ u r, us = u :: r ∧ RL M G as x u ∧ RLs M G as xs r
def RLF (M : Md) (G : Hp) (as : List Addr) : List (Str × LV) → List (Str × V) → Prop
  | [], us => us = []
  | (k, x) :: xs, us => ∃ u r, us = (k, u) :: r ∧ RL M G as x u ∧ RLF M G as xs r
/-- a def's start: what was frozen, what must stay, the live things that it got -/
structure Bs where
  G0 : Hp
  B : Hp
  as0 : List Addr
def ObL (M : Md) (B G H : Hp) (as : List Addr) (a : Addr) : LO → Prop
  | .lst vs => ∃ us, H a = some (.lst us) ∧ RLs M G as vs us
  | .obj c fs => ∃ C dx ws, M.cls c C ∧ H a = some (.ins C dx ws) ∧ H dx = some (.own a) ∧ G dx = none ∧ B dx = none ∧ RLF M G as fs ws
structure LInv (M : Md) (b : Bs) (as : List Addr) (h : LHp) (G H : Hp) : Prop where
  ext : Ext b.G0 b.B G H
  pre : b.as0 <+: as
  len : as.length = h.length
  nd : as.Nodup
  nB : ∀ a, a ∈ as → b.B a = none ∧ G a = none
  ob : ∀ (i : Nat) (a : Addr) (o : LO), as[i]? = some a → h[i]? = some o → ObL M b.B G H as a o
structure LSp (as : List Addr) (G : Hp) (as' : List Addr) (G' : Hp) : Prop where
  pre : as <+: as'
  g : Same G G'
theorem LSp.refl (as : List Addr) (G : Hp) : LSp as G as G := ⟨List.prefix_refl _, Same.refl _⟩
theorem LSp.trans {as as1 as2 : List Addr} {G G1 G2 : Hp} (a : LSp as G as1 G1) (b : LSp as1 G1 as2 G2) : LSp as G as2 G2 := ⟨a.pre.trans b.pre, a.g.trans b.g⟩
theorem pre_get {α : Type} {as bs : List α} (h : as <+: bs) {i : Nat} {a : α} (e : as[i]? = some a) : bs[i]? = some a := by
  obtain ⟨c, rfl⟩ := h
  have : i < as.length := (List.getElem?_eq_some_iff.mp e).1
  rw [List.getElem?_append_left this]; exact e
section
variable {M : Md} {b : Bs} {as as' : List Addr} {h : LHp} {G G' H H' : Hp}
theorem RL.mono (s : LSp as G as' G') : ∀ {x : LV} {v : V}, RL M G as x v → RL M G' as' x v
  | .d d, v, r => Rep.mono s.g d v r
  | .r i, v, ⟨a, e, q⟩ => ⟨a, pre_get s.pre e, q⟩
theorem RLs.mono (s : LSp as G as' G') : ∀ {xs : List LV} {us : List V}, RLs M G as xs us → RLs M G' as' xs us
  | [], _, r => r
  | _ :: _, _, ⟨u, r, e, h1, h2⟩ => ⟨u, r, e, h1.mono s, RLs.mono s h2⟩
theorem RLF.mono (s : LSp as G as' G') : ∀ {xs : List (Str × LV)} {us : List (Str × V)}, RLF M G as xs us → RLF M G' as' xs us
  | [], _, r => r
  | (_, _) :: _, _, ⟨u, r, e, h1, h2⟩ => ⟨u, r, e, h1.mono s, RLF.mono s h2⟩
theorem RLs.length : ∀ {xs : List LV} {us : List V}, RLs M G as xs us → us.length = xs.length
  | [], _, r => by cases r; rfl
  | _ :: _, _, ⟨u, r, e, h1, h2⟩ => by subst e; simp [RLs.length h2]
theorem RLF.length : ∀ {xs : List (Str × LV)} {us : List (Str × V)}, RLF M G as xs us → us.length = xs.length
  | [], _, r => by cases r; rfl
  | (_, _) :: _, _, ⟨u, r, e, h1, h2⟩ => by subst e; simp [RLF.length h2]
theorem RLs.get : ∀ {xs : List LV} {us : List V} {i : Nat} {x : LV}, RLs M G as xs us → xs[i]? = some x → ∃ u, us[i]? = some u ∧ RL M G as x u
  | [], _, _, _, _, e => by simp at e
  | y :: xs, _, 0, x, ⟨u, r, e, h1, h2⟩, q => by subst e; simp at q; subst q; exact ⟨u, by simp, h1⟩
  | y :: xs, _, i + 1, x, ⟨u, r, e, h1, h2⟩, q => by
    subst e
    obtain ⟨w, a, b⟩ := RLs.get h2 (by simpa using q)
    exact ⟨w, by simpa using a, b⟩
theorem RLs.none_of : ∀ {xs : List LV} {us : List V} {i : Nat}, RLs M G as xs us → xs[i]? = none → us[i]? = none := fun {xs us i} r e => by
  have h1 := r.length
  have h2 : xs.length ≤ i := List.getElem?_eq_none_iff.mp e
  exact List.getElem?_eq_none_iff.mpr (by omega)
theorem RLs.snoc : ∀ {xs : List LV} {us : List V} {x : LV} {u : V}, RLs M G as xs us → RL M G as x u → RLs M G as (xs ++ [x]) (us ++ [u])
  | [], _, _, _, e, q => by cases e; exact ⟨_, [], rfl, q, rfl⟩
  | _ :: _, _, _, _, ⟨w, r, e, h1, h2⟩, q => by subst e; exact ⟨w, _, rfl, h1, RLs.snoc h2 q⟩
theorem RLs.set : ∀ {xs : List LV} {us : List V} (n : Nat) {x : LV} {u : V}, RLs M G as xs us → RL M G as x u → RLs M G as (xs.set n x) (us.set n u)
  | [], _, n, _, _, e, _ => by cases e; simp [RLs]
  | _ :: _, _, 0, _, _, ⟨w, r, e, h1, h2⟩, q => by subst e; exact ⟨_, r, rfl, q, h2⟩
  | _ :: _, _, n + 1, _, _, ⟨w, r, e, h1, h2⟩, q => by subst e; exact ⟨w, _, rfl, h1, RLs.set n h2 q⟩
theorem RLs.ofReps : ∀ {ds : List D} {us : List V}, Reps M G ds us → RLs M G as (ds.map .d) us
  | [], us, r => by unfold Reps at r; exact r
  | d :: ds, us, r => by
    unfold Reps at r
    obtain ⟨v, q, e, h1, h2⟩ := r
    exact ⟨v, q, e, h1, RLs.ofReps h2⟩
theorem RLF.ofRepF : ∀ {ds : List (Str × D)} {us : List (Str × V)}, RepF M G ds us → RLF M G as (ds.map fun p => (p.1, .d p.2)) us
  | [], us, r => by unfold RepF at r; exact r
  | (k, d) :: ds, us, r => by
    unfold RepF at r
    obtain ⟨v, q, e, h1, h2⟩ := r
    exact ⟨v, q, e, h1, RLF.ofRepF h2⟩
theorem RLs.toReps : ∀ {ds : List D} {us : List V}, RLs M G as (ds.map .d) us → Reps M G ds us
  | [], us, r => by unfold Reps; exact r
  | d :: ds, us, ⟨v, q, e, h1, h2⟩ => by unfold Reps; exact ⟨v, q, e, h1, RLs.toReps h2⟩
theorem RLF.look {d : LV} {f : Str} : ∀ {fs : List (Str × LV)} {ws : List (Str × V)}, RLF M G as fs ws → fs.lookup f = some d → ∃ v, ws.lookup f = some v ∧ RL M G as d v
  | [], _, _, e => by cases e
  | (k, x) :: fs, _, ⟨u, r, e, h1, h2⟩, q => by
    subst e
    rw [List.lookup_cons] at q ⊢
    cases hk : (f == k) with
    | true => rw [hk] at q; cases q; exact ⟨u, rfl, h1⟩
    | false => rw [hk] at q; exact RLF.look h2 q
theorem RLF.put {f : Str} {x : LV} {u : V} (hx : RL M G as x u) : ∀ {fs : List (Str × LV)} {ws : List (Str × V)}, RLF M G as fs ws → RLF M G as (putLF f x fs) (L2.putF f u ws)
  | [], _, e => by cases e; exact ⟨u, [], rfl, hx, rfl⟩
  | (k, y) :: fs, _, ⟨w, r, e, h1, h2⟩ => by
    subst e
    unfold putLF L2.putF
    by_cases hk : k = f
    · rw [if_pos hk, if_pos hk]; exact ⟨u, r, rfl, hx, h2⟩
    · rw [if_neg hk, if_neg hk]; exact ⟨w, _, rfl, h1, RLF.put hx h2⟩
theorem ObL.mono {B : Hp} (s : LSp as G as' G') (t : Same H H') (nw : ∀ a, H a ≠ none → G a = none → G' a = none) {a : Addr} : ∀ {o : LO}, ObL M B G H as a o → ObL M B G' H' as' a o
  | .lst vs, ⟨us, h1, h2⟩ => ⟨us, t _ _ h1, h2.mono s⟩
  | .obj c fs, ⟨C, dx, ws, k, h1, h2, h3, h4, h5⟩ => ⟨C, dx, ws, k, t _ _ h1, t _ _ h2, nw _ (by rw [h2]; exact fun z => nomatch z) h3, h4, h5.mono s⟩
theorem ObL.some {B : Hp} {a : Addr} : ∀ {o : LO}, ObL M B G H as a o → ∃ u, H a = Option.some u ∧ isTupO u = false ∧ ∀ x, u ≠ .own x
  | .lst vs, ⟨us, h1, h2⟩ => ⟨_, h1, rfl, fun x z => nomatch z⟩
  | .obj c fs, ⟨C, dx, ws, k, h1, h2, h3, h4, h5⟩ => ⟨_, h1, rfl, fun x z => nomatch z⟩
theorem nodup_inj {α : Type} : ∀ {l : List α} {i j : Nat} {a : α}, l.Nodup → l[i]? = some a → l[j]? = some a → i = j
  | [], _, _, _, _, e, _ => by simp at e
  | x :: l, 0, 0, _, _, _, _ => rfl
  | x :: l, 0, j + 1, a, n, e1, e2 => by
    simp at e1 e2
    subst e1
    exact absurd (List.mem_of_getElem? e2) (List.nodup_cons.mp n).1
  | x :: l, i + 1, 0, a, n, e1, e2 => by
    simp at e1 e2
    subst e2
    exact absurd (List.mem_of_getElem? e1) (List.nodup_cons.mp n).1
  | x :: l, i + 1, j + 1, a, n, e1, e2 => by
    simp at e1 e2
    rw [nodup_inj (List.nodup_cons.mp n).2 e1 e2]
theorem LInv.obs (I : LInv M b as h G H) {a : Addr} (ha : a ∈ as) : ∃ (i : Nat) (o : LO), as[i]? = some a ∧ h[i]? = some o ∧ ObL M b.B G H as a o := by
  obtain ⟨i, hi, e⟩ := List.getElem_of_mem ha
  have e1 : as[i]? = some a := by rw [List.getElem?_eq_getElem hi, e]
  have hi2 : i < h.length := by rw [← I.len]; exact hi
  exact ⟨i, h[i], e1, List.getElem?_eq_getElem hi2, I.ob i a _ e1 (List.getElem?_eq_getElem hi2)⟩
theorem LInv.frame (I : LInv M b as h G H) (x : Ext G H G' H') : LInv M b as h G' H' where
  ext := I.ext.trans x
  pre := I.pre
  len := I.len
  nd := I.nd
  nB := fun a ha => by
    obtain ⟨i, o, _, _, q⟩ := I.obs ha
    obtain ⟨u, e, _⟩ := q.some
    exact ⟨(I.nB a ha).1, x.n a (by rw [e]; exact fun z => nomatch z) (I.nB a ha).2⟩
  ob := fun i a o ea eo => (I.ob i a o ea eo).mono ⟨List.prefix_refl _, x.g⟩ x.h x.n
/-- a new thing becomes a live one -/
theorem LInv.push (I : LInv M b as h G H) {p : Addr} {o : LO} (hB : b.B p = none) (hG : G p = none) (hp : p ∉ as) (ho : ObL M b.B G H (as ++ [p]) p o) : LInv M b (as ++ [p]) (h ++ [o]) G H where
  ext := I.ext
  pre := I.pre.trans (List.prefix_append _ _)
  len := by simp [I.len]
  nd := by
    rw [List.nodup_append]
    exact ⟨I.nd, by simp, fun a ha c hc => by
      rw [List.mem_singleton] at hc
      subst hc
      exact fun z => hp (z ▸ ha)⟩
  nB := fun a ha => by
    rcases List.mem_append.mp ha with ha | ha
    · exact I.nB a ha
    · rw [List.mem_singleton] at ha; subst ha; exact ⟨hB, hG⟩
  ob := fun i a o' ea eo => by
    by_cases hi : i < as.length
    · rw [List.getElem?_append_left hi] at ea
      rw [List.getElem?_append_left (by rw [← I.len]; exact hi)] at eo
      exact (I.ob i a o' ea eo).mono ⟨List.prefix_append _ _, Same.refl _⟩ (Same.refl _) fun _ _ z => z
    · rw [List.getElem?_append_right (by omega)] at ea
      rw [List.getElem?_append_right (by rw [← I.len]; omega)] at eo
      rw [I.len] at ea
      cases hj : i - h.length with
      | zero => rw [hj] at ea eo; simp at ea eo; subst ea eo; exact ho
      | succ j => rw [hj] at ea; simp at ea
theorem LInv.fresh (I : LInv M b as h G H) {p : Addr} (hp : H p = none) : p ∉ as := fun z => by
  obtain ⟨i, o, _, _, q⟩ := I.obs z
  obtain ⟨u, e, _⟩ := q.some
  rw [hp] at e; cases e
/-- a new list -/
theorem LInv.allocL (I : LInv M b as h G H) {p : Addr} (hp : H p = none) {vs : List LV} {us : List V} (r : RLs M G as vs us) : LInv M b (as ++ [p]) (h ++ [.lst vs]) G (upd H p (.lst us)) := by
  have x : Ext G H G (upd H p (.lst us)) := Ext.one I.ext.i _ hp
  exact (I.frame x).push (I.ext.sub hp) (I.ext.i.free hp) (I.fresh hp) ⟨us, upd_same, r.mono ⟨List.prefix_append _ _, Same.refl _⟩⟩
/-- a live thing changes -/
theorem LInv.chg (I : LInv M b as h G H) {k : Nat} {a : Addr} {o o' : LO} {ho : HO} (ea : as[k]? = some a) (eo : h[k]? = some o) (hn : ObL M b.B G (upd H a ho) as a o') : LInv M b as (h.set k o') G (upd H a ho) where
  ext := by
    have ha : a ∈ as := List.mem_of_getElem? ea
    obtain ⟨h1, h2⟩ := I.nB a ha
    exact ⟨I.ext.g, fun x u e => by rw [upd_ne (ne_of_none e h1)]; exact I.ext.h _ _ e, fun x u e => by rw [upd_ne (ne_of_none e h2)]; exact I.ext.i _ _ e, I.ext.n⟩
  pre := I.pre
  len := by rw [List.length_set]; exact I.len
  nd := I.nd
  nB := I.nB
  ob := fun i c q ec eq => by
    have hk : k < h.length := (List.getElem?_eq_some_iff.mp eo).1
    by_cases hik : k = i
    · subst hik
      rw [List.getElem?_set_self hk] at eq
      cases eq
      rw [ea] at ec; cases ec
      exact hn
    · rw [List.getElem?_set_ne hik] at eq
      have hne : c ≠ a := fun z => by
        subst z
        exact hik (nodup_inj I.nd ea ec)
      have q0 := I.ob i c q ec eq
      obtain ⟨u, hu, _, hno⟩ := (I.ob k a o ea eo).some
      cases q with
      | lst vs => obtain ⟨us, b1, b2⟩ := q0; exact ⟨us, by rw [upd_ne hne]; exact b1, b2⟩
      | obj cl fs =>
        obtain ⟨C, dx, ws, k', b1, b2, b3, b4, b5⟩ := q0
        have nd : dx ≠ a := by
          intro z
          subst z
          rw [hu] at b2
          exact hno _ (Option.some.inj b2)
        exact ⟨C, dx, ws, k', by rw [upd_ne hne]; exact b1, by rw [upd_ne nd]; exact b2, b3, b4, b5⟩

/-! ### all live things frozen for a while -/
def LiveAt (as : List Addr) (H : Hp) (a : Addr) : Prop := a ∈ as ∨ ∃ p, p ∈ as ∧ ∃ C ws, H p = some (.ins C a ws)
open Classical in
noncomputable def frzG (as : List Addr) (G H : Hp) : Hp := fun a => if LiveAt as H a then H a else G a
theorem LInv.liveAt (I : LInv M b as h G H) {a : Addr} (hl : LiveAt as H a) : b.B a = none ∧ G a = none ∧ ∃ u, H a = some u ∧ isTupO u = false := by
  rcases hl with hl | ⟨p, hp, C, ws, e⟩
  · obtain ⟨i, o, _, _, q⟩ := I.obs hl
    obtain ⟨u, e, t, _⟩ := q.some
    exact ⟨(I.nB a hl).1, (I.nB a hl).2, u, e, t⟩
  · obtain ⟨i, o, _, _, q⟩ := I.obs hp
    cases o with
    | lst vs => obtain ⟨us, b1, _⟩ := q; rw [e] at b1; cases b1
    | obj c fs =>
      obtain ⟨C', dx, ws', k, b1, b2, b3, b4, b5⟩ := q
      rw [e] at b1; cases b1
      exact ⟨b4, b3, _, b2, rfl⟩
theorem frzG_g (I : LInv M b as h G H) : Same G (frzG as G H) := fun a o e => by
  unfold frzG
  by_cases hl : LiveAt as H a
  · rw [if_pos hl]; exact I.ext.i _ _ e
  · rw [if_neg hl]; exact e
theorem frzG_h (I : LInv M b as h G H) : Same (frzG as G H) H := fun a o e => by
  unfold frzG at e
  by_cases hl : LiveAt as H a
  · rw [if_pos hl] at e; exact e
  · rw [if_neg hl] at e; exact I.ext.i _ _ e
theorem frzG_t (I : LInv M b as h G H) : ∀ a o, frzG as G H a = some o → G a = some o ∨ isTupO o = false := fun a o e => by
  unfold frzG at e
  by_cases hl : LiveAt as H a
  · rw [if_pos hl] at e
    obtain ⟨_, _, u, e1, e2⟩ := I.liveAt hl
    rw [e] at e1; cases e1
    exact .inr e2
  · rw [if_neg hl] at e; exact .inl e
theorem frzG_at {a : Addr} (hl : LiveAt as H a) : frzG as G H a = H a := by
  unfold frzG; rw [if_pos hl]
/-- everything live stays frozen -/
theorem frzG_ext (I : LInv M b as h G H) : Ext b.G0 b.B (frzG as G H) H := ⟨I.ext.g.trans (frzG_g I), I.ext.h, frzG_h I, fun a ha hg => by
  have q := I.ext.n a ha hg
  unfold frzG
  by_cases hl : LiveAt as H a
  · exact absurd (I.liveAt hl).1 ha
  · rw [if_neg hl]; exact q⟩
theorem mapO_reps {f : LV → Option D} {G1 : Hp} (hf : ∀ x d v, f x = some d → RL M G as x v → Rep M G1 d v) : ∀ {xs : List LV} {ds : List D} {us : List V}, mapO f xs = some ds → RLs M G as xs us → Reps M G1 ds us
  | [], ds, us, e, r => by cases e; cases r; simp [Reps]
  | x :: xs, ds, us, e, ⟨u, r, e2, h1, h2⟩ => by
    unfold mapO at e
    cases e3 : f x with
    | none => rw [e3] at e; cases e
    | some d =>
      cases e4 : mapO f xs with
      | none => rw [e3, e4] at e; cases e
      | some ds' =>
        rw [e3, e4] at e; cases e
        unfold Reps
        exact ⟨u, r, e2, hf _ _ _ e3 h1, mapO_reps hf e4 h2⟩
theorem mapF_reps {f : LV → Option D} {G1 : Hp} (hf : ∀ x d v, f x = some d → RL M G as x v → Rep M G1 d v) : ∀ {xs : List (Str × LV)} {ds : List (Str × D)} {us : List (Str × V)}, mapF f xs = some ds → RLF M G as xs us → RepF M G1 ds us
  | [], ds, us, e, r => by cases e; cases r; simp [RepF]
  | (k, x) :: xs, ds, us, e, ⟨u, r, e2, h1, h2⟩ => by
    unfold mapF at e
    cases e3 : f x with
    | none => rw [e3] at e; cases e
    | some d =>
      cases e4 : mapF f xs with
      | none => rw [e3, e4] at e; cases e
      | some ds' =>
        rw [e3, e4] at e; cases e
        unfold RepF
        exact ⟨u, r, e2, hf _ _ _ e3 h1, mapF_reps hf e4 h2⟩
theorem snap_rep (I : LInv M b as h G H) : ∀ (n : Nat) (x : LV) (d : D) (v : V), snap h n x = some d → RL M G as x v → Rep M (frzG as G H) d v
  | 0, .d d', d, v, e, r => by
    unfold snap at e; cases e
    exact Rep.mono (frzG_g I) _ _ r
  | n + 1, .d d', d, v, e, r => by
    unfold snap at e; cases e
    exact Rep.mono (frzG_g I) _ _ r
  | 0, .r i, d, v, e, r => by unfold snap at e; cases e
  | n + 1, .r i, d, v, e, r => by
    obtain ⟨a, ea, rfl⟩ := r
    have ha : a ∈ as := List.mem_of_getElem? ea
    have hl : LiveAt as H a := .inl ha
    unfold snap at e
    cases eo : h[i]? with
    | none => rw [eo] at e; cases e
    | some o =>
      have q := I.ob i a o ea eo
      cases o with
      | lst vs =>
        simp only [eo] at e
        obtain ⟨ds, e1, e2⟩ := Option.map_eq_some_iff.mp e
        subst e2
        obtain ⟨us, b1, b2⟩ := q
        unfold Rep
        exact ⟨a, us, rfl, by rw [frzG_at hl]; exact b1, mapO_reps (fun x d v e r => snap_rep I n x d v e r) e1 b2⟩
      | obj c fs =>
        simp only [eo] at e
        obtain ⟨ds, e1, e2⟩ := Option.map_eq_some_iff.mp e
        subst e2
        obtain ⟨C, dx, ws, k, b1, b2, b3, b4, b5⟩ := q
        have hl2 : LiveAt as H dx := .inr ⟨a, ha, C, ws, b1⟩
        unfold Rep
        exact ⟨a, C, dx, ws, rfl, k, by rw [frzG_at hl]; exact b1, by rw [frzG_at hl2]; exact b2, mapF_reps (fun x d v e r => snap_rep I n x d v e r) e1 b5⟩
end

/-! ### the slots -/
structure LRel (M : Md) (b : Bs) (ρ : LRho) (h : LHp) (σ : L2.St) (as : List Addr) (G H : Hp) : Prop where
  inv : LInv M b as h G H
  len : σ.length = ρ.length
  v : ∀ (i : Nat) (x : LV), ρ[i]? = some (.v x) → ∃ u, σ[i]? = some (some u) ∧ RL M G as x u
  xc : ∀ (i : Nat) (c : Str) (fs : List (Str × D)), ρ[i]? = some (.xc c fs) → ∃ v, σ[i]? = some (some v) ∧ XcAt M G c fs v
section
variable {M : Md} {b : Bs} {ρ : LRho} {σ : L2.St} {as as' : List Addr} {h h' : LHp} {G G' H H' : Hp}
theorem LRel.later (r : LRel M b ρ h σ as G H) (s : LSp as G as' G') (I : LInv M b as' h' G' H') : LRel M b ρ h' σ as' G' H' where
  inv := I
  len := r.len
  v := fun i x e => let ⟨u, h1, h2⟩ := r.v i x e; ⟨u, h1, h2.mono s⟩
  xc := fun i c fs e => let ⟨v, h1, h2⟩ := r.xc i c fs e; ⟨v, h1, h2.mono s.g⟩
theorem LRel.setV (r : LRel M b ρ h σ as G H) {x : LV} {u : V} (i : Nat) (hx : RL M G as x u) : LRel M b (ρ.set i (.v x)) h (σ.set i (some u)) as G H where
  inv := r.inv
  len := by simp [r.len]
  v := fun j y e => by
    by_cases hj : i = j
    · subst hj
      by_cases hl : i < ρ.length
      · rw [List.getElem?_set_self hl] at e; cases e
        exact ⟨u, by rw [List.getElem?_set_self (by rw [r.len]; exact hl)], hx⟩
      · rw [List.getElem?_eq_none (by simpa using hl)] at e; cases e
    · rw [List.getElem?_set_ne hj] at e ⊢; exact r.v j y e
  xc := fun j c fs e => by
    by_cases hj : i = j
    · subst hj
      by_cases hl : i < ρ.length
      · rw [List.getElem?_set_self hl] at e; cases e
      · rw [List.getElem?_eq_none (by simpa using hl)] at e; cases e
    · rw [List.getElem?_set_ne hj] at e ⊢; exact r.xc j c fs e
theorem LRel.setUn (r : LRel M b ρ h σ as G H) (i : Nat) (w : Option V) : LRel M b (ρ.set i .un) h (σ.set i w) as G H where
  inv := r.inv
  len := by simp [r.len]
  v := fun j y e => by
    by_cases hj : i = j
    · subst hj
      by_cases hl : i < ρ.length
      · rw [List.getElem?_set_self hl] at e; cases e
      · rw [List.getElem?_eq_none (by simpa using hl)] at e; cases e
    · rw [List.getElem?_set_ne hj] at e ⊢; exact r.v j y e
  xc := fun j c fs e => by
    by_cases hj : i = j
    · subst hj
      by_cases hl : i < ρ.length
      · rw [List.getElem?_set_self hl] at e; cases e
      · rw [List.getElem?_eq_none (by simpa using hl)] at e; cases e
    · rw [List.getElem?_set_ne hj] at e ⊢; exact r.xc j c fs e
theorem LRel.setXc (r : LRel M b ρ h σ as G H) {cc : Str} {fs : List (Str × D)} {v : V} (i : Nat) (hd : XcAt M G cc fs v) : LRel M b (ρ.set i (.xc cc fs)) h (σ.set i (some v)) as G H where
  inv := r.inv
  len := by simp [r.len]
  v := fun j y e => by
    by_cases hj : i = j
    · subst hj
      by_cases hl : i < ρ.length
      · rw [List.getElem?_set_self hl] at e; cases e
      · rw [List.getElem?_eq_none (by simpa using hl)] at e; cases e
    · rw [List.getElem?_set_ne hj] at e ⊢; exact r.v j y e
  xc := fun j c fs' e => by
    by_cases hj : i = j
    · subst hj
      by_cases hl : i < ρ.length
      · rw [List.getElem?_set_self hl] at e; cases e
        exact ⟨v, by rw [List.getElem?_set_self (by rw [r.len]; exact hl)], hd⟩
      · rw [List.getElem?_eq_none (by simpa using hl)] at e; cases e
    · rw [List.getElem?_set_ne hj] at e ⊢; exact r.xc j c fs' e
theorem LRel.wipe (r : LRel M b ρ h σ as G H) : ∀ vs : List Nat, LRel M b (wipeLS ρ vs) h (L2.wipe σ vs) as G H
  | [] => r
  | v :: vs => (LRel.wipe r vs).setUn v none
theorem LRel.pur (r : LRel M b ρ h σ as G H) : Rel M G H (ρ.map LSl.pur) σ G H where
  ext := Ext.refl r.inv.ext.i
  len := by rw [List.length_map]; exact r.len
  fz := fun i d e => by
    rw [List.getElem?_map] at e
    obtain ⟨s, e1, e2⟩ := Option.map_eq_some_iff.mp e
    cases s with
    | un => cases e2
    | xc c fs => cases e2
    | v x =>
      cases x with
      | r k => cases e2
      | d d' => cases e2; exact r.v i _ e1
  ow := fun i o e => by
    exfalso
    rw [List.getElem?_map] at e
    obtain ⟨s, e1, e2⟩ := Option.map_eq_some_iff.mp e
    cases s with
    | un => cases e2
    | xc c fs => cases e2
    | v x => cases x <;> cases e2
  xc := fun i c fs e => by
    rw [List.getElem?_map] at e
    obtain ⟨s, e1, e2⟩ := Option.map_eq_some_iff.mp e
    cases s with
    | un => cases e2
    | xc c' fs' => cases e2; exact r.xc i _ _ e1
    | v x => cases x <;> cases e2
  ap := fun i j oi oj p e => by
    exfalso
    rw [List.getElem?_map] at e
    obtain ⟨s, e1, e2⟩ := Option.map_eq_some_iff.mp e
    cases s with
    | un => cases e2
    | xc c fs => cases e2
    | v x => cases x <;> cases e2
theorem frz_ow {s : LSl} {o : OD} : LSl.frz h s ≠ .ow o := by
  cases s with
  | un => exact fun z => nomatch z
  | xc c fs => exact fun z => nomatch z
  | v x => 
    unfold LSl.frz
    simp only
    split <;> exact fun z => nomatch z
theorem LRel.frz (r : LRel M b ρ h σ as G H) : Rel M (frzG as G H) H (ρ.map (LSl.frz h)) σ (frzG as G H) H where
  ext := Ext.refl (frzG_h r.inv)
  len := by rw [List.length_map]; exact r.len
  fz := fun i d e => by
    rw [List.getElem?_map] at e
    obtain ⟨s, e1, e2⟩ := Option.map_eq_some_iff.mp e
    cases s with
    | un => cases e2
    | xc c fs => cases e2
    | v x =>
      unfold LSl.frz at e2
      simp only at e2
      split at e2
      · rename_i d' es
        cases e2
        obtain ⟨u, h1, h2⟩ := r.v i x e1
        exact ⟨u, h1, snap_rep r.inv 8 x d u es h2⟩
      · cases e2
  ow := fun i o e => by
    exfalso
    rw [List.getElem?_map] at e
    obtain ⟨s, e1, e2⟩ := Option.map_eq_some_iff.mp e
    exact frz_ow e2
  xc := fun i c fs e => by
    rw [List.getElem?_map] at e
    obtain ⟨s, e1, e2⟩ := Option.map_eq_some_iff.mp e
    cases s with
    | un => cases e2
    | xc c' fs' =>
      cases e2
      obtain ⟨v, h1, h2⟩ := r.xc i _ _ e1
      exact ⟨v, h1, h2.mono (frzG_g r.inv)⟩
    | v x =>
      unfold LSl.frz at e2
      simp only at e2
      split at e2 <;> cases e2
  ap := fun i j oi oj p e => by
    exfalso
    rw [List.getElem?_map] at e
    obtain ⟨s, e1, e2⟩ := Option.map_eq_some_iff.mp e
    exact frz_ow e2
end
end PX

set_option Elab.async false
set_option linter.all false
set_option maxRecDepth 100000
set_option maxHeartbeats 1000000
/-! Lx2: what a computation over live things asks of a continuation; pure expressions. -/
namespace PX
open PySem PySem.Spec PyProof.Rows L2

def LOk {α : Type} (M : Md) (b : Bs) (E : XK) (as : List Addr) (G : Hp) (P : α → LHp → Prop) : LR α → Prop
  | .ok a h => P a h
  | .ex c fs h => ∀ cls d as' G' H', LInv M b as' h G' H' → LSp as G as' G' → ExRep M G' H' c fs cls d → E cls d H'
  | .st => False
def LVv (M : Md) (b : Bs) (as : List Addr) (G : Hp) (Q : VK) (x : LV) (h : LHp) : Prop :=
  ∀ u as' G' H', LInv M b as' h G' H' → LSp as G as' G' → RL M G' as' x u → Q u H'
def LVs (M : Md) (b : Bs) (as : List Addr) (G : Hp) (Q : List V → Hp → Prop) (xs : List LV) (h : LHp) : Prop :=
  ∀ us as' G' H', LInv M b as' h G' H' → LSp as G as' G' → RLs M G' as' xs us → Q us H'
section
variable {M : Md} {b : Bs} {E : XK} {as as' : List Addr} {h : LHp} {G G' G1 H H' : Hp}
theorem LOk.imp {α : Type} {P P' : α → LHp → Prop} {f : LR α} (q : LOk M b E as G P f) (k : ∀ a h, P a h → P' a h) : LOk M b E as G P' f := by
  cases f with
  | ok a h => exact k a h q
  | ex c fs h => exact q
  | st => exact q
theorem LOk.mono {α : Type} {P : α → LHp → Prop} {f : LR α} (q : LOk M b E as G P f) (s : LSp as G as' G') : LOk M b E as' G' P f := by
  cases f with
  | ok a h => exact q
  | ex c fs h => exact fun cls d as2 G2 H2 I s2 er => q cls d as2 G2 H2 I (s.trans s2) er
  | st => exact q
theorem LOk.bind {α β : Type} {P : β → LHp → Prop} {f : LR α} {g : α → LHp → LR β} (q : LOk M b E as G P (f.bind g)) : LOk M b E as G (fun a h => LOk M b E as G P (g a h)) f := by
  cases f with
  | ok a h => exact q
  | ex c fs h => exact q
  | st => exact q
theorem LVv.mono {Q : VK} {x : LV} (q : LVv M b as G Q x h) (s : LSp as G as' G') : LVv M b as' G' Q x h := fun u as2 G2 H2 I s2 r => q u as2 G2 H2 I (s.trans s2) r
theorem LVs.mono {Q : List V → Hp → Prop} {x : List LV} (q : LVs M b as G Q x h) (s : LSp as G as' G') : LVs M b as' G' Q x h := fun u as2 G2 H2 I s2 r => q u as2 G2 H2 I (s.trans s2) r
theorem LVv.val {Q : VK} {x : LV} (q : LVv M b as G Q x h) (I : LInv M b as h G H) {u : V} (r : RL M G as x u) : Q u H := q u as G H I (LSp.refl _ _) r

/-- what was seen with G1 frozen can be said with less frozen -/
def Trp (M : Md) (G H G1 : Hp) (P : D → Prop) : Prop := ∀ G2 H2, Ext G1 H G2 H2 → ∃ G', Ext G H G' H2 ∧ (∀ a, G2 a = none → G' a = none) ∧ (∀ d v, P d → Rep M G2 d v → Rep M G' d v) ∧
  ∀ c fs cls d, (∀ p, p ∈ fs → P p.2) → ExRep M G2 H2 c fs cls d → ∃ G'', Ext G H G'' H2 ∧ ExRep M G'' H2 c fs cls d
theorem reps_tr {P : D → Prop} {G2 : Hp} (k : ∀ d v, P d → Rep M G2 d v → Rep M G' d v) : ∀ {ds : List D} {us : List V}, (∀ d, d ∈ ds → P d) → Reps M G2 ds us → Reps M G' ds us
  | [], us, _, r => by unfold Reps at r ⊢; exact r
  | d :: ds, us, hp, r => by
    unfold Reps at r ⊢
    obtain ⟨v, q, e, h1, h2⟩ := r
    exact ⟨v, q, e, k d v (hp d List.mem_cons_self) h1, reps_tr k (fun d hd => hp d (List.mem_cons_of_mem _ hd)) h2⟩
theorem repF_tr {P : D → Prop} {G2 : Hp} (k : ∀ d v, P d → Rep M G2 d v → Rep M G' d v) : ∀ {ds : List (Str × D)} {us : List (Str × V)}, (∀ d, d ∈ ds → P d.2) → RepF M G2 ds us → RepF M G' ds us
  | [], us, _, r => by unfold RepF at r ⊢; exact r
  | (n, d) :: ds, us, hp, r => by
    unfold RepF at r ⊢
    obtain ⟨v, q, e, h1, h2⟩ := r
    exact ⟨v, q, e, k d v (hp (n, d) List.mem_cons_self) h1, repF_tr k (fun d hd => hp d (List.mem_cons_of_mem _ hd)) h2⟩
theorem trp_same (s : Same G H) : Trp M G H G (fun _ => True) := fun G2 H2 x => ⟨G2, x, fun _ z => z, fun _ _ _ r => r, fun c fs cls d _ er => ⟨G2, x, er⟩⟩
theorem lfs_all : ∀ {ds : List D}, D.lfs ds = true → ∀ d, d ∈ ds → d.lf = true
  | [], _, _, h => by cases h
  | e :: ds, hl, d, h => by
    unfold D.lfs at hl
    rw [Bool.and_eq_true] at hl
    rcases List.mem_cons.mp h with rfl | h
    · exact hl.1
    · exact lfs_all hl.2 d h
theorem trp_frz (I : LInv M b as h G H) : Trp M G H (frzG as G H) (fun d => d.lf = true) := fun G2 H2 x => by
  have s1 := frzG_g I
  have s2 : Same G G2 := s1.trans x.g
  have x' := keep_ext I.ext.i s1 (frzG_t I) x
  refine ⟨keepT G G2, x', fun a ha => ?_, fun d v hd r => Rep.kept s2 d v hd r, fun c fs cls d hp er => ?_⟩
  · cases e : keepT G G2 a with
    | none => rfl
    | some o => rw [(keepT_of s2 e).1] at ha; cases ha
  · obtain ⟨C, hC, e1, e2⟩ := er
    rcases e2 with e2 | ⟨a, ws, e2, e3, e4⟩
    · exact ⟨keepT G G2, x', C, hC, e1, .inl e2⟩
    · let G3 : Hp := fun y => if y = a then some (.xd ws) else keepT G G2 y
      have g3 : ∀ y o, keepT G G2 y = some o → G3 y = some o := fun y o e => by
        show (if y = a then _ else _) = _
        by_cases hy : y = a
        · subst hy
          have := (keepT_of s2 e).1
          rw [e3] at this; cases this
          rw [if_pos rfl]
        · rw [if_neg hy]; exact e
      have h3 : Same G3 H2 := fun y o e => by
        have e : (if y = a then some (HO.xd ws) else keepT G G2 y) = some o := e
        by_cases hy : y = a
        · subst hy; rw [if_pos rfl] at e; cases e; exact x.i _ _ e3
        · rw [if_neg hy] at e; exact x'.i _ _ e
      refine ⟨G3, ⟨fun y o e => g3 y o (x'.g _ _ e), x'.h, h3, fun y hy hg => ?_⟩, C, hC, e1, .inr ⟨a, ws, e2, if_pos rfl, RepF.mono (G := keepT G G2) g3 _ _ (repF_tr (P := fun d => d.lf = true) (fun d v hd r => Rep.kept s2 d v hd r) hp e4)⟩⟩
      show (if y = a then some (HO.xd ws) else keepT G G2 y) = none
      by_cases hya : y = a
      · exfalso
        subst hya
        cases e5 : frzG as G H y with
        | none => rw [x.n y hy e5] at e3; cases e3
        | some o =>
          have := x.g y o e5
          rw [e3] at this; cases this
          unfold frzG at e5
          by_cases hl : LiveAt as H y
          · obtain ⟨_, _, u, e6, e7⟩ := I.liveAt hl
            rw [if_pos hl, e6] at e5; cases e5
            rcases hl with hl | ⟨p, hp', C', ws', e8⟩
            · obtain ⟨i, o, _, _, q⟩ := I.obs hl
              cases o with
              | lst vs => obtain ⟨us, b1, _⟩ := q; rw [e6] at b1; cases b1
              | obj c' fs' => obtain ⟨_, _, _, _, b1, _⟩ := q; rw [e6] at b1; cases b1
            · obtain ⟨i, o, _, _, q⟩ := I.obs hp'
              cases o with
              | lst vs => obtain ⟨us, b1, _⟩ := q; rw [e8] at b1; cases b1
              | obj c' fs' => obtain ⟨_, _, _, _, b1, b2, _⟩ := q; rw [e8] at b1; cases b1; rw [e6] at b2; cases b2
          · rw [if_neg hl, hg] at e5; cases e5
      · rw [if_neg hya]; exact x'.n y hy hg
def EVp (P : D → Prop) : EV → Prop
  | .fz d => P d
  | .fr (.lst ds) => ∀ d, d ∈ ds → P d
  | .fr (.obj _ fs) => ∀ p, p ∈ fs → P p.2
  | .fr (.dct _) => True
theorem addV_ok {P : D → Prop} (I : LInv M b as h G H) (K : Trp M G H G1 P) (s1 : Same G1 H) {v : EV} {Q : VK}
    (hv : EVp P v) (hq : LOk M b E as G (LVv M b as G Q) (addV h v)) : EvV M G1 H Q v := by
  cases v with
  | fz d =>
    intro u G2 H2 x r
    obtain ⟨G', x', _, k, _⟩ := K G2 H2 x
    exact hq u as G' H2 (I.frame x') ⟨List.prefix_refl _, x'.g⟩ (k d u hv r)
  | fr o =>
    intro p G2 H2 x hp gp ro
    obtain ⟨G', x', nn, k, _⟩ := K G2 H2 x
    have I2 := I.frame x'
    have hB : b.B p = none := I.ext.sub hp
    have fr := I.fresh hp
    cases o with
    | dct _ => exact hq.elim
    | lst ds =>
      obtain ⟨us, b1, b2⟩ := ro
      refine hq (.ref p) (as ++ [p]) G' H2 (I2.push hB (nn p gp) fr ⟨us, b1, ?_⟩) ⟨List.prefix_append _ _, x'.g⟩ ⟨p, ?_, rfl⟩
      · exact RLs.ofReps (reps_tr (P := P) k hv b2)
      · rw [← I.len]; simp
    | obj c fs =>
      obtain ⟨C, dx, ws, k0, b1, b2, b3, b4, b5⟩ := ro
      refine hq (.ref p) (as ++ [p]) G' H2 (I2.push hB (nn p gp) fr ⟨C, dx, ws, k0, b1, b2, nn dx b3, I.ext.sub b4, ?_⟩) ⟨List.prefix_append _ _, x'.g⟩ ⟨p, ?_, rfl⟩
      · exact RLF.ofRepF (repF_tr (P := P) k hv b5)
      · rw [← I.len]; simp
end

def SA (Xs : Cx → Prop) (M : Md) (b : Bs) (E : XK) (σ : L2.St) (as : List Addr) (G H : Hp) (ex : Expr) (f : LR LV) : Prop := ∀ Q, LOk M b E as G (LVv M b as G Q) f → WP Xs ex σ H Q
def SAs (Xs : Cx → Prop) (M : Md) (b : Bs) (E : XK) (σ : L2.St) (as : List Addr) (G H : Hp) (exs : List Expr) (f : LR (List LV)) : Prop := ∀ Q, LOk M b E as G (LVs M b as G Q) f → WA Xs exs σ H Q
section
variable {Xs : Cx → Prop} {M : Md} {T : LTb} {W : WX} {c : Cs} {b : Bs} {Ek : XK} {as as' : List Addr} {h : LHp} {G G' H H' : Hp} {ρ : LRho} {σ : L2.St}
theorem SA.use {ex : Expr} {f : LR LV} (q : SA Xs M b Ek σ as G H ex f) {Z : LV → LHp → Prop} (hb : LOk M b Ek as G Z f) {Q : VK} (k : ∀ x h' u as' G' H', Z x h' → LInv M b as' h' G' H' → LSp as G as' G' → RL M G' as' x u → Q u H') : WP Xs ex σ H Q :=
  q Q (hb.imp fun x h' z => fun u as' G' H' I s r => k x h' u as' G' H' z I s r)
theorem SAs.use {exs : List Expr} {f : LR (List LV)} (q : SAs Xs M b Ek σ as G H exs f) {Z : List LV → LHp → Prop} (hb : LOk M b Ek as G Z f) {Q : List V → Hp → Prop} (k : ∀ x h' u as' G' H', Z x h' → LInv M b as' h' G' H' → LSp as G as' G' → RLs M G' as' x u → Q u H') : WA Xs exs σ H Q :=
  q Q (hb.imp fun x h' z => fun u as' G' H' I s r => k x h' u as' G' H' z I s r)
theorem lf2_ok {v : EV} (hl : v.lf2 = true) : EVp (fun d => d.lf = true) v := by
  cases v with
  | fz d => exact hl
  | fr o =>
    cases o with
    | lst ds => exact lfs_all hl
    | dct _ => trivial
    | obj c fs => exact fun p hp => lfs_all hl p.2 (List.mem_map.mpr ⟨p, hp, rfl⟩)
theorem all_true {v : EV} : EVp (fun _ => True) v := by
  cases v with
  | fz d => trivial
  | fr o =>
    cases o with
    | lst ds => exact fun _ _ => trivial
    | dct _ => trivial
    | obj c fs => exact fun _ _ => trivial
theorem l_evP (kx : Kx Xs M T.t W c) {e : E} {us : List Nat} {ex : Expr} (hk : chkE e c ex = true) (r : LRel M b ρ h σ as G H) : SA Xs M b (WK W σ) σ as G H ex (evP T ρ h us e) := fun Q hq => by
  unfold evP at hq
  by_cases ha : anyLv ρ us = true
  · rw [if_pos ha] at hq
    refine (sndE e kx _ hk r.frz).1 Q ?_
    cases ev : evE T.t (ρ.map (LSl.frz h)) e with
    | st => rw [ev] at hq; exact hq.elim
    | ex cc fs =>
      rw [ev] at hq
      simp only at hq
      by_cases hl : D.lfs (fs.map (·.2)) = true
      · rw [if_pos hl] at hq
        intro cls d G2 H2 x er
        obtain ⟨_, _, _, _, k⟩ := trp_frz r.inv G2 H2 x
        obtain ⟨G'', x'', er'⟩ := k cc fs cls d (fun p hp => lfs_all hl p.2 (List.mem_map.mpr ⟨p, hp, rfl⟩)) er
        exact hq cls d as G'' H2 (r.inv.frame x'') ⟨List.prefix_refl _, x''.g⟩ er'
      · rw [if_neg hl] at hq; exact hq.elim
    | ok v =>
      rw [ev] at hq
      simp only at hq
      by_cases hl : v.lf2 = true
      · rw [if_pos hl] at hq
        exact addV_ok r.inv (trp_frz r.inv) (frzG_h r.inv) (lf2_ok hl) hq
      · rw [if_neg hl] at hq; exact hq.elim
  · rw [if_neg ha] at hq
    refine (sndE e kx _ hk r.pur).1 Q ?_
    cases ev : evE T.t (ρ.map LSl.pur) e with
    | st => rw [ev] at hq; exact hq.elim
    | ex cc fs =>
      rw [ev] at hq
      exact fun cls d G2 H2 x er => hq cls d as G2 H2 (r.inv.frame x) ⟨List.prefix_refl _, x.g⟩ er
    | ok v =>
      rw [ev] at hq
      exact addV_ok r.inv (trp_same r.inv.ext.i) r.inv.ext.i all_true hq
theorem ite_map {α β : Type} {q : Bool} {f g : α → β} {l : List α} : l.map (if q = true then f else g) = if q = true then l.map f else l.map g := by cases q <;> rfl
theorem l_evPB (kx : Kx Xs M T.t W c) {e : E} {us : List Nat} {ex : Expr} (hk : chkE e c ex = true) (ht : tstOk ex = true) (r : LRel M b ρ h σ as G H) {Q : Bool → Hp → Prop}
    (hq : LOk M b (WK W σ) as G (fun k h' => ∀ as' G' H', LInv M b as' h' G' H' → LSp as G as' G' → Q k H') (evPB T ρ h us e)) : WT Xs ex σ H Q := by
  unfold evPB at hq
  rw [ite_map] at hq
  by_cases ha : anyLv ρ us = true
  · rw [if_pos ha] at hq
    refine (sndE e kx _ hk r.frz).2 ht Q ?_
    cases ev : (evE T.t (ρ.map (LSl.frz h)) e).bind asBool with
    | st => rw [ev] at hq; exact hq.elim
    | ex cc fs =>
      rw [ev] at hq
      simp only at hq
      cases hl : D.lfs (fs.map (·.2)) with
      | false => rw [if_pos ⟨ha, hl⟩] at hq; exact hq.elim
      | true =>
        rw [if_neg (fun z => by rw [hl] at z; cases z.2)] at hq
        intro cls d G2 H2 x er
        obtain ⟨_, _, _, _, k⟩ := trp_frz r.inv G2 H2 x
        obtain ⟨G'', x'', er'⟩ := k cc fs cls d (fun p hp => lfs_all hl p.2 (List.mem_map.mpr ⟨p, hp, rfl⟩)) er
        exact hq cls d as G'' H2 (r.inv.frame x'') ⟨List.prefix_refl _, x''.g⟩ er'
    | ok v =>
      rw [ev] at hq
      intro G2 H2 x
      obtain ⟨G', x', _⟩ := trp_frz r.inv G2 H2 x
      exact hq as G' H2 (r.inv.frame x') ⟨List.prefix_refl _, x'.g⟩
  · rw [if_neg ha] at hq
    refine (sndE e kx _ hk r.pur).2 ht Q ?_
    cases ev : (evE T.t (ρ.map LSl.pur) e).bind asBool with
    | st => rw [ev] at hq; exact hq.elim
    | ex cc fs =>
      rw [ev] at hq
      simp only at hq
      rw [if_neg (fun z => ha z.1)] at hq
      exact fun cls d G2 H2 x er => hq cls d as G2 H2 (r.inv.frame x) ⟨List.prefix_refl _, x.g⟩ er
    | ok v =>
      rw [ev] at hq
      exact fun G2 H2 x => hq as G2 H2 (r.inv.frame x) ⟨List.prefix_refl _, x.g⟩
theorem l_evPL (kx : Kx Xs M T.t W c) {es : List E} {us : List Nat} {exs : List Expr} (hk : chkL es c exs = true) (hn : exs.all nst = true) (r : LRel M b ρ h σ as G H) {Q : List V → Hp → Prop}
    (hq : LOk M b (WK W σ) as G (fun ds h' => ∀ vs as' G' H', LInv M b as' h' G' H' → LSp as G as' G' → Reps M G' ds vs → Q vs H') (evPL T ρ h us es)) : WA Xs exs σ H Q := by
  unfold evPL at hq
  rw [ite_map] at hq
  by_cases ha : anyLv ρ us = true
  · rw [if_pos ha] at hq
    refine sndL es kx _ hk hn r.frz Q ?_
    cases ev : evL T.t (ρ.map (LSl.frz h)) es with
    | st => rw [ev] at hq; exact hq.elim
    | ex cc fs =>
      rw [ev] at hq
      simp only at hq
      cases hl : D.lfs (fs.map (·.2)) with
      | false => rw [if_pos ⟨ha, hl⟩] at hq; exact hq.elim
      | true =>
        rw [if_neg (fun z => by rw [hl] at z; cases z.2)] at hq
        intro cls d G2 H2 x er
        obtain ⟨_, _, _, _, k⟩ := trp_frz r.inv G2 H2 x
        obtain ⟨G'', x'', er'⟩ := k cc fs cls d (fun p hp => lfs_all hl p.2 (List.mem_map.mpr ⟨p, hp, rfl⟩)) er
        exact hq cls d as G'' H2 (r.inv.frame x'') ⟨List.prefix_refl _, x''.g⟩ er'
    | ok ds =>
      rw [ev] at hq
      simp only at hq
      cases hl : D.lfs ds with
      | false => rw [if_pos ⟨ha, hl⟩] at hq; exact hq.elim
      | true =>
        rw [if_neg (fun z => by rw [hl] at z; cases z.2)] at hq
        intro vs G2 H2 x rs
        obtain ⟨G', x', _, k, _⟩ := trp_frz r.inv G2 H2 x
        exact hq vs as G' H2 (r.inv.frame x') ⟨List.prefix_refl _, x'.g⟩ (reps_tr (P := fun d => d.lf = true) k (lfs_all hl) rs)
  · rw [if_neg ha] at hq
    refine sndL es kx _ hk hn r.pur Q ?_
    cases ev : evL T.t (ρ.map LSl.pur) es with
    | st => rw [ev] at hq; exact hq.elim
    | ex cc fs =>
      rw [ev] at hq
      simp only at hq
      rw [if_neg (fun z => ha z.1)] at hq
      exact fun cls d G2 H2 x er => hq cls d as G2 H2 (r.inv.frame x) ⟨List.prefix_refl _, x.g⟩ er
    | ok ds =>
      rw [ev] at hq
      simp only at hq
      rw [if_neg (fun z => ha z.1)] at hq
      exact fun vs G2 H2 x rs => hq vs as G2 H2 (r.inv.frame x) ⟨List.prefix_refl _, x.g⟩ rs
/-- what a for, a comprehension walks -/
theorem l_evPI (kx : Kx Xs M T.t W c) {es : List E} {us : List Nat} {k : ItK} {it xtg : Expr} (hk : chkI c (fun exs => chkL es c exs && exs.all nst) k it xtg = true) (r : LRel M b ρ h σ as G H) {R : It → Hp → Prop}
    (hq : LOk M b (WK W σ) as G (fun ds h' => ∃ items, itemsOf k ds = .ok items ∧ ∀ J as' G' H', LInv M b as' h' G' H' → LSp as G as' G' → Wk M G' J items → R J H') (evPL T ρ h us es)) : WI Xs xtg it σ H R := by
  unfold evPL at hq
  rw [ite_map] at hq
  by_cases ha : anyLv ρ us = true
  · rw [if_pos ha] at hq
    refine sndI2 kx hk r.frz (fun xs a b => sndL es kx xs a b r.frz) (fun x a Q q => sndA es kx x a r.frz Q q) ?_
    cases ev : evL T.t (ρ.map (LSl.frz h)) es with
    | st => rw [ev] at hq; exact hq.elim
    | ex cc fs =>
      rw [ev] at hq
      simp only at hq
      cases hl : D.lfs (fs.map (·.2)) with
      | false => rw [if_pos ⟨ha, hl⟩] at hq; exact hq.elim
      | true =>
        rw [if_neg (fun z => by rw [hl] at z; cases z.2)] at hq
        intro cls d G2 H2 x er
        obtain ⟨_, _, _, _, k⟩ := trp_frz r.inv G2 H2 x
        obtain ⟨G'', x'', er'⟩ := k cc fs cls d (fun p hp => lfs_all hl p.2 (List.mem_map.mpr ⟨p, hp, rfl⟩)) er
        exact hq cls d as G'' H2 (r.inv.frame x'') ⟨List.prefix_refl _, x''.g⟩ er'
    | ok ds =>
      rw [ev] at hq
      simp only at hq
      cases hl : D.lfs ds with
      | false => rw [if_pos ⟨ha, hl⟩] at hq; exact hq.elim
      | true =>
        rw [if_neg (fun z => by rw [hl] at z; cases z.2)] at hq
        obtain ⟨items, e1, q⟩ := hq
        show GOk M (WK W σ) _ H _ (itemsOf k ds)
        rw [e1]
        intro J G2 H2 x w
        have s1 := frzG_g r.inv
        have x' := keep_ext r.inv.ext.i s1 (frzG_t r.inv) x
        exact q J as _ H2 (r.inv.frame x') ⟨List.prefix_refl _, x'.g⟩ ((w.2 hl).mono (tups_keep (s1.trans x.g)))
  · rw [if_neg ha] at hq
    refine sndI2 kx hk r.pur (fun xs a b => sndL es kx xs a b r.pur) (fun x a Q q => sndA es kx x a r.pur Q q) ?_
    cases ev : evL T.t (ρ.map LSl.pur) es with
    | st => rw [ev] at hq; exact hq.elim
    | ex cc fs =>
      rw [ev] at hq
      simp only at hq
      rw [if_neg (fun z => ha z.1)] at hq
      exact fun cls d G2 H2 x er => hq cls d as G2 H2 (r.inv.frame x) ⟨List.prefix_refl _, x.g⟩ er
    | ok ds =>
      rw [ev] at hq
      simp only at hq
      rw [if_neg (fun z => ha z.1)] at hq
      obtain ⟨items, e1, q⟩ := hq
      show GOk M (WK W σ) _ H _ (itemsOf k ds)
      rw [e1]
      exact fun J G2 H2 x w => q J as G2 H2 (r.inv.frame x) ⟨List.prefix_refl _, x.g⟩ w.1
end
end PX

set_option Elab.async false
set_option linter.all false
set_option maxRecDepth 100000
set_option maxHeartbeats 1000000
/-! Lx3: the check of expressions over live things; they compute what evA says. -/
namespace PX
open PySem PySem.Spec PyProof.Rows L2

mutual
def chkLE (fl : List Str) : LE → Cs → Expr → Bool
  | .p e us, c, ex => chkE e c ex
  | .v i, c, ex => match ex with
    | .Name x _ => nmC c i x
    | _ => false
  | .ix a b us, c, ex => match ex with
    | .Subscript x y _ => chkLE fl a c x && chkE b c y && nslice y
    | _ => false
  | .fl a f, c, ex => match ex with
    | .Attribute x f' _ => decide (f = f') && chkLE fl a c x && nsup x && decide (f ∈ c.flds)
    | _ => false
  | .ls es, c, ex => match ex with
    | .List xs _ => chkLL fl es c xs && xs.all nst
    | _ => false
  | .lc own tg k as us ifs el, c, ex => match ex with
    | .ListComp xel [⟨xtg, it, xifs, 0⟩] scope _ =>
      !c.hot && blkC c.N c.sc scope (own.map fun i => (c.N.getD i "", i)) && chkI c (fun exs => chkL as c exs && exs.all nst) k it xtg && nset it &&
        chkTg (csB c scope) tg xtg && tg.is.all (fun i => decide (i ∈ own)) && chkL ifs (csB c scope) xifs && decide (ifs.length ≤ 1) && xifs.all tstOk && chkLE fl el (csB c scope) xel
    | _ => false
  | .lcL own tg o ifs el, c, ex => match ex with
    | .ListComp xel [⟨xtg, it, xifs, 0⟩] scope _ =>
      !c.hot && blkC c.N c.sc scope (own.map fun i => (c.N.getD i "", i)) && chkLE fl o c it && nset it &&
        chkTg (csB c scope) tg xtg && tg.is.all (fun i => decide (i ∈ own)) && chkL ifs (csB c scope) xifs && decide (ifs.length ≤ 1) && xifs.all tstOk && chkLE fl el (csB c scope) xel
    | _ => false
  | .call f as, c, ex => match ex with
    | .Call (.Name x _) (e :: es) [] _ => !c.hot && decide (x = f) && decide (f ∈ fl) && gloC c x && chkLL fl as c (e :: es) && (e :: es).all nst
    | _ => false
def chkLL (fl : List Str) : List LE → Cs → List Expr → Bool
  | [], _, xs => xs.isEmpty
  | e :: es, c, xs => match xs with
    | x :: xs => chkLE fl e c x && chkLL fl es c xs
    | [] => false
end
/-- a def's promise over live things -/
def spL (M : Md) (n : Nat) (F : List LV → LHp → LR LV) : Sp := fun vs H Q E => vs.length = n ∧ ∃ (b : Bs) (as : List Addr) (h : LHp) (G : Hp) (xs : List LV), LInv M b as h G H ∧ RLs M G as xs vs ∧ LOk M b E as G (LVv M b as G Q) (F xs h)
def CallL (M : Md) (Xs : Cx → Prop) (f : Str) (F : List LV → LHp → LR LV) : Prop :=
  ∃ (k : Nat) (fa : Addr) (fd : FuncData) (ps : List Str), FnOk M.P M.w M.K M.mg M.base (L2.CX M.P M.w) k fa fd ps (spL M ps.length F) ∧ (∀ X, Xs X → Room k X.A) ∧ M.mg f = some (.ref fa) ∧ PySem.W.keepIn M.K (.ref fa) = true ∧ L2.Binds M.K fd ps [] ∧ ∀ (xs : List LV) (h : LHp), xs.length ≠ ps.length → F xs h = .st
structure Lk (Xs : Cx → Prop) (M : Md) (T : LTb) (W : WX) (c : Cs) : Prop where
  kx : Kx Xs M T.t W c
  fns : c.hot = false → ∀ f, f ∈ T.fs → CallL M Xs f (T.call f)
theorem Lk.bk {Xs : Cx → Prop} {M : Md} {T : LTb} {W : WX} {c : Cs} (lk : Lk Xs M T W c) (hh : c.hot = false) (scope : Scope) : Lk (Bk Xs scope) M T (fun _ _ _ _ => False) (csB c scope) where
  kx := lk.kx.bk hh scope
  fns := fun h f hf => let ⟨k, fa, fd, ps, F, hr, q⟩ := lk.fns h f hf; ⟨k, fa, fd, ps, F, fun Y ⟨X, _, _, _, _, _, hX, e⟩ => by rw [e]; exact hr X hX, q⟩
section
variable {Xs : Cx → Prop} {M : Md} {T : LTb} {W : WX} {c : Cs} {b : Bs} {Ek : XK} {as as' : List Addr} {h : LHp} {G G' H H' : Hp} {ρ : LRho} {σ : L2.St}
theorem RLs.atI {xs : List LV} {us : List V} (r : RLs M G as xs us) {i : Int} {x : LV} (q : L2.atI xs i = some x) : ∃ v, L2.atI us i = some v ∧ RL M G as x v := by
  unfold L2.atI at q ⊢
  rw [r.length]
  cases e : ixN xs.length i with
  | none => rw [e] at q; simp at q
  | some j =>
    rw [e] at q
    exact r.get (by simpa using q)
theorem RL.int {i : Int} {v : V} (r : RL M G as (.d (.int i)) v) : v = .int i := Rep.int' (M := M) (G := G) r
theorem s_tpL : ∀ {is : List Nat} {xs : List LV} {us : List V} {ρ ρ2 : LRho} {σ : L2.St}, LRel M b ρ h σ as G H → RLs M G as xs us → bindLs is xs ρ = some ρ2 → ∀ {Q : L2.St → Hp → Prop}, (∀ σ2, LRel M b ρ2 h σ2 as G H → (∀ own : List Nat, (∀ i ∈ is, i ∈ own) → L2.wipe σ2 own = L2.wipe σ own) → Q σ2 H) →
    gNames is us σ H Q
  | [], [], us, ρ, ρ2, σ, r, rs, e, Q, q => by
    cases rs; cases e
    exact ⟨rfl, q σ r fun _ _ => rfl⟩
  | [], _ :: _, us, ρ, ρ2, σ, r, rs, e, Q, q => by cases e
  | _ :: _, [], us, ρ, ρ2, σ, r, rs, e, Q, q => by cases e
  | i :: is, x :: xs, _, ρ, ρ2, σ, r, ⟨u, us, e1, r1, r2⟩, e, Q, q => by
    subst e1
    refine ⟨u, us, rfl, s_tpL (r.setV i r1) r2 e fun σ2 rr hw => q σ2 rr fun own ho => ?_⟩
    rw [hw own fun j hj => ho j (List.mem_cons_of_mem _ hj)]
    exact wipe_set (ho i List.mem_cons_self)
theorem bindLs_len : ∀ {is : List Nat} {xs : List LV} {ρ ρ2 : LRho}, bindLs is xs ρ = some ρ2 → xs.length = is.length
  | [], [], _, _, _ => rfl
  | [], _ :: _, _, _, h => by cases h
  | _ :: _, [], _, _, h => by cases h
  | i :: is, x :: xs, ρ, ρ2, h => by
    have := bindLs_len (is := is) (xs := xs) h
    simp [this]
/-- a target takes a value -/
theorem l_tg (kx : Kx Xs M T.t W c) {tg : Tg} {xtg : Expr} (hk : chkTg c tg xtg = true) (r : LRel M b ρ h σ as G H) {x : LV} {v : V} (rx : RL M G as x v) {ρ2 : LRho} (e : bindL tg x ρ h = some ρ2) {Q : L2.St → Hp → Prop}
    (q : ∀ σ2, LRel M b ρ2 h σ2 as G H → (∀ own : List Nat, (∀ i ∈ tg.is, i ∈ own) → L2.wipe σ2 own = L2.wipe σ own) → Q σ2 H) : WG Xs xtg v σ H Q := by
  unfold chkTg at hk
  split at hk
  · rename_i i y p
    refine ⟨gName i, tgC_nm kx hk, ?_⟩
    cases e
    exact q _ (r.setV i rx) fun own ho => wipe_set (ho i List.mem_cons_self)
  · rename_i is es k p
    simp only [Bool.and_eq_true, Bool.not_eq_true'] at hk
    obtain ⟨hh, hk⟩ := hk
    obtain ⟨a1, a2, a3⟩ := chkTp_pgs kx hk
    unfold bindL at e
    simp only at e
    split at e
    · obtain ⟨a, vs, rfl, h1, r1⟩ := Rep.tup' rx
      have r2 := RLs.ofReps (as := as) r1
      have hl := bindLs_len e
      rw [List.length_map] at hl
      exact ⟨gTup M.K is.length (gNames is), fun X hX => by rw [← kx.K X hX]; exact pg_tup (kx.calm hh X hX) (a1 X hX) (a2 _) (a3 _), a, vs, rfl, Same.seqT r.inv.ext.i h1, by rw [r1.length, hl], s_tpL r r2 e q⟩
    · obtain ⟨a, vs, rfl, h1, r1⟩ := Rep.lst' rx
      have r2 := RLs.ofReps (as := as) r1
      have hl := bindLs_len e
      rw [List.length_map] at hl
      exact ⟨gLst M.K is.length (gNames is), fun X hX => by rw [← kx.K X hX]; exact pg_lst (kx.calm hh X hX) (a1 X hX) (a2 _) (a3 _), a, vs, rfl, .inl (.inl (r.inv.ext.i _ _ h1)), by rw [r1.length, hl], s_tpL r r2 e q⟩
    · rename_i k'
      split at e
      · rename_i vs eo
        obtain ⟨a, ea, rfl⟩ := rx
        obtain ⟨us, b1, b2⟩ := r.inv.ob _ _ _ ea eo
        have hl := bindLs_len e
        exact ⟨gLst M.K is.length (gNames is), fun X hX => by rw [← kx.K X hX]; exact pg_lst (kx.calm hh X hX) (a1 X hX) (a2 _) (a3 _), a, us, rfl, .inl (.inl b1), by rw [b2.length, hl], s_tpL r b2 e q⟩
      · cases e
    · cases e
  · cases hk
theorem l_name (kx : Kx Xs M T.t W c) {i : Nat} {x : Str} {p : Pos} (hk : nmC c i x = true) (r : LRel M b ρ h σ as G H) : SA Xs M b Ek σ as G H (.Name x p) (match ρ[i]? with | some (.v x) => .ok x h | _ => .st) := fun Q q => by
  split at q
  · rename_i y e
    obtain ⟨u, e1, e2⟩ := r.v i y e
    exact ⟨tVar i, nm_pe kx hk, u, e1, q.val r.inv e2⟩
  · exact q.elim
theorem l_ix (kx : Kx Xs M T.t W c) {xa xb : Expr} {p : Pos} {fa : LR LV} {fb : LHp → LR LV} (hn : nslice xb = true) (ha : SA Xs M b Ek σ as G H xa fa) (hb : ∀ as' h' G' H', LInv M b as' h' G' H' → LSp as G as' G' → SA Xs M b Ek σ as' G' H' xb (fb h')) :
    SA Xs M b Ek σ as G H (.Subscript xa xb p) (fa.bind fun x h1 => (fb h1).bind fun k h2 => lxIx h2 x k) := fun Q q => by
  refine ⟨_, fun X hX => pe_ix (ix_w hX) (pe_w hX) (pe_w hX) (plainIx hn), ?_⟩
  refine ha.use q.bind fun x h1 u as1 G1 H1 z I1 s1 r1 => ?_
  refine (hb as1 h1 G1 H1 I1 s1).use (LOk.mono (LOk.bind z) s1) fun k h2 w as2 G2 H2 z2 I2 s2 r2 => ?_
  have r1 := r1.mono s2
  unfold lxIx at z2
  split at z2
  · rename_i i n
    obtain ⟨a, ea, rfl⟩ := r1
    obtain rfl := RL.int r2
    split at z2
    · rename_i vs eo
      obtain ⟨us, b1, b2⟩ := I2.ob _ _ _ ea eo
      split at z2
      · rename_i y ey
        obtain ⟨w, e1, e2⟩ := b2.atI ey
        exact ⟨rIxL M.K, fun X hX => by rw [← kx.K X hX]; exact ix_list, a, us, _, w, rfl, rfl, .inl (.inl b1), e1, (LVv.mono z2 (s1.trans s2)).val I2 e2⟩
      · exact z2.elim
    · exact z2.elim
  · rename_i dx dk
    split at z2
    · rename_i y ey
      refine s_ix (E := Ek) kx I2.ext.i r1 r2 ?_
      rw [ey]
      exact fun v G' H' x r => LVv.mono z2 (s1.trans s2) v as2 G' H' (I2.frame x) ⟨List.prefix_refl _, x.g⟩ r
    · exact z2.elim
  · exact z2.elim
theorem l_fl (kx : Kx Xs M T.t W c) {xa : Expr} {f : Str} {p : Pos} {fa : LR LV} (hs : nsup xa = true) (hf : f ∈ c.flds) (ha : SA Xs M b Ek σ as G H xa fa) : SA Xs M b Ek σ as G H (.Attribute xa f p) (fa.bind fun x h1 => lxFl T h1 f x) := fun Q q => by
  refine ⟨tFld M.K (WP Xs xa) f, fun X hX => by rw [← kx.K X hX]; exact pe_fld (pe_w hX) (supId hs _ _ _), ?_⟩
  refine ha.use q.bind fun x h1 u as1 G1 H1 z I1 s1 r1 => ?_
  unfold lxFl at z
  split at z
  · obtain ⟨a, ea, rfl⟩ := r1
    split at z
    · rename_i cl fs eo
      obtain ⟨C, dx, ws, k, b1, b2, b3, b4, b5⟩ := I1.ob _ _ _ ea eo
      split at z
      · rename_i y el eoc
        obtain ⟨v, e1, e2⟩ := b5.look el
        obtain ⟨hC, hN⟩ := kx.obj cl C f eoc k hf
        exact ⟨a, C, dx, ws, v, rfl, b1, hC, hN, e1, (LVv.mono z s1).val I1 e2⟩
      · exact z.elim
    · exact z.elim
  · rename_i cl fs
    have r1 : Rep M G1 (.obj cl fs) u := r1
    unfold Rep at r1
    obtain ⟨a, C, dx, ws, rfl, k, b1, b2, b5⟩ := r1
    split at z
    · rename_i y el eoc
      obtain ⟨v, e1, e2⟩ := RepF.look b5 el
      obtain ⟨hC, hN⟩ := kx.obj cl C f eoc k hf
      exact ⟨a, C, dx, ws, v, rfl, I1.ext.i _ _ b1, hC, hN, e1, (LVv.mono z s1).val I1 (show RL M G1 as1 (.d y) v from e2)⟩
    · exact z.elim
  · exact z.elim
theorem l_ls {xs : List Expr} {p : Pos} {f : LR (List LV)} (ha : SAs Xs M b Ek σ as G H xs f) : SA Xs M b Ek σ as G H (.List xs p) (f.bind fun vs h1 => if vs.length ≤ sizeLine then .ok (.r h1.length) (h1 ++ [.lst vs]) else .st) := fun Q q => by
  refine ⟨_, fun X hX => pe_lst (pa_w hX), ?_⟩
  refine ha.use q.bind fun vs h1 us as1 G1 H1 z I1 s1 r1 => ?_
  by_cases hl : vs.length ≤ sizeLine
  · rw [if_pos hl] at z
    refine ⟨by rw [r1.length]; exact hl, fun l hl => ?_⟩
    exact z _ (as1 ++ [l]) G1 _ (I1.allocL hl r1) ⟨s1.pre.trans (List.prefix_append _ _), s1.g⟩ ⟨l, by rw [← I1.len]; simp, rfl⟩
  · rw [if_neg hl] at z; exact z.elim
theorem ls_nil (r : LRel M b ρ h σ as G H) : SAs Xs M b Ek σ as G H [] (.ok [] h) := fun Q q => ⟨_, fun X hX => pa_nil, q [] as G H r.inv (LSp.refl _ _) rfl⟩
theorem ls_cons {x : Expr} {xs : List Expr} {f : LR LV} {fl : LHp → LR (List LV)} (hn : nst x = true) (ha : SA Xs M b Ek σ as G H x f) (hb : ∀ as' h' G' H', LInv M b as' h' G' H' → LSp as G as' G' → SAs Xs M b Ek σ as' G' H' xs (fl h')) :
    SAs Xs M b Ek σ as G H (x :: xs) (f.bind fun x h1 => (fl h1).bind fun xs h2 => .ok (x :: xs) h2) := fun Q q => by
  refine ⟨_, fun X hX => pa_cons (pe_w hX) (pa_w hX) (starE hn _ _), ?_⟩
  refine ha.use q.bind fun y h1 u as1 G1 H1 z I1 s1 r1 => ?_
  refine (hb as1 h1 G1 H1 I1 s1).use (LOk.mono (LOk.bind z) s1) fun ys h2 us as2 G2 H2 z2 I2 s2 r2 => ?_
  exact z2 _ _ _ _ I2 (s1.trans s2) ⟨u, us, rfl, r1.mono s2, r2⟩
theorem l_call (lk : Lk Xs M T W c) (hh : c.hot = false) {f : Str} (hf : f ∈ T.fs) (hg : gloC c f = true) {e : Expr} {es : List Expr} {p p2 : Pos} {fa : LR (List LV)} (hall : (e :: es).all nst = true) (ha : SAs Xs M b (WK W σ) σ as G H (e :: es) fa) :
    SA Xs M b (WK W σ) σ as G H (.Call (.Name f p) (e :: es) [] p2) (fa.bind fun vs h1 => T.call f vs h1) := fun Q q => by
  have kx := lk.kx
  simp only [List.all_cons, Bool.and_eq_true] at hall
  obtain ⟨k, fa, fd, ps, F, hr, hm, hk, hb, hlen⟩ := lk.fns hh f hf
  refine ⟨tCallSD (spL M ps.length (T.call f)) [] (fun σ => WE W σ) (WA Xs (e :: es)), fun X hX => ?_, ?_⟩
  · refine pe_callSD (k := k) (f := fa) (fd := fd) (ps := ps) (CX := L2.CX X.prog X.w) ?_ (hr X hX) (kx.gl hg X hX) (by rw [kx.mg X hX]; exact hm) (by rw [kx.K X hX]; exact hk) (by rw [kx.K X hX]; exact hb) .nil (fun σ => passAt (kx.tk X hX) σ) (pa_w hX) (nodb_dbg (glo_nodb hg)) (starE hall.1 _ _) (starAny hall.2 _ _)
    rw [kx.P X hX, kx.w X hX, kx.K X hX, kx.mg X hX, kx.base X hX]
    exact F
  · refine ha.use q.bind fun vs h1 us as1 G1 H1 z I1 s1 r1 => ?_
    have hl : vs.length = ps.length := by
      by_cases hl : vs.length = ps.length
      · exact hl
      · rw [hlen vs h1 hl] at z; exact z.elim
    rw [List.append_nil]
    exact ⟨by rw [r1.length, hl], b, as1, h1, G1, vs, I1, r1, (LOk.mono z s1).imp fun w h2 hw => LVv.mono hw s1⟩
/-- a comprehension -/
theorem lcL_cons {tg : Tg} {ts : LRho → R Bool} {el : LRho → LHp → LR LV} {ρ : LRho} {k : Nat} {d : D} {ds : List D} {h hf : LHp} (q : lcL tg ts el ρ k (d :: ds) h = .ok () hf) :
    ∃ ρ1 t, bindL tg (.d d) ρ h = some ρ1 ∧ ts ρ1 = .ok t ∧ (if t = true then ∃ x h1 vs, el ρ1 h = .ok x h1 ∧ h1[k]? = some (.lst vs) ∧ vs.length < sizeLine ∧ lcL tg ts el ρ k ds (h1.set k (.lst (vs ++ [x]))) = .ok () hf else lcL tg ts el ρ k ds h = .ok () hf) := by
  unfold lcL at q
  cases e1 : bindL tg (.d d) ρ h with
  | none => rw [e1] at q; cases q
  | some ρ1 =>
    rw [e1] at q
    simp only at q
    cases e2 : ts ρ1 with
    | st => rw [e2] at q; cases q
    | ex c fs => rw [e2] at q; cases q
    | ok t =>
      rw [e2] at q
      refine ⟨ρ1, t, rfl, e2, ?_⟩
      cases t with
      | false => simpa using q
      | true =>
        simp only [if_true] at q ⊢
        cases e3 : el ρ1 h with
        | st => rw [e3] at q; cases q
        | ex c fs h' => rw [e3] at q; cases q
        | ok x h1 =>
          rw [e3] at q
          simp only [LR.nox_ok, LR.bind_ok] at q
          split at q
          · rename_i vs e4
            by_cases hl : vs.length < sizeLine
            · rw [if_pos hl] at q
              exact ⟨x, h1, vs, rfl, e4, hl, q⟩
            · rw [if_neg hl] at q; cases q
          · cases q
theorem lcL_noex {T : LTb} {tg : Tg} {ifs : List E} {el : LE} {ρ : LRho} {k : Nat} : ∀ (items : List PX.D) (h : LHp) cc fs h4, lcL tg (fun ρ1 => evPT T ρ1 ifs) (fun ρ1 h2 => evA T ρ1 el h2) ρ k items h ≠ .ex cc fs h4 := by
  intro items
  induction items with
  | nil => intro h cc fs h4 e; cases e
  | cons d ds ih =>
    intro h cc fs h4 e
    unfold lcL at e
    cases e1 : bindL tg (.d d) ρ h with
    | none => rw [e1] at e; cases e
    | some ρ1 =>
      rw [e1] at e
      simp only at e
      split at e
      · cases e3 : evA T ρ1 el h with
        | st => rw [e3] at e; cases e
        | ex c' fs' h' => rw [e3] at e; cases e
        | ok x h1 =>
          rw [e3] at e
          simp only [LR.nox_ok, LR.bind_ok] at e
          split at e
          · split at e
            · exact ih _ _ _ _ e
            · cases e
          · cases e
      · exact ih _ _ _ _ e
      · cases e
theorem lcLL_noex {T : LTb} {tg : Tg} {ifs : List E} {el : LE} {ρ : LRho} {k i : Nat} : ∀ (n j : Nat) (h : LHp) cc fs h4, lcLL tg (fun ρ1 => evPT T ρ1 ifs) (fun ρ1 h2 => evA T ρ1 el h2) ρ k i n j h ≠ .ex cc fs h4 := by
  intro n
  induction n with
  | zero =>
    intro j h cc fs h4 e
    unfold lcLL at e
    split at e
    · split at e <;> cases e
    · cases e
  | succ n ih =>
    intro j h cc fs h4 e
    unfold lcLL at e
    split at e
    · split at e
      · cases e
      · rename_i x ex
        simp only at e
        cases e1 : bindL tg x ρ h with
        | none => rw [e1] at e; cases e
        | some ρ1 =>
          rw [e1] at e
          simp only at e
          split at e
          · cases e3 : evA T ρ1 el h with
            | st => rw [e3] at e; cases e
            | ex c' fs' h' => rw [e3] at e; cases e
            | ok y h1 =>
              rw [e3] at e
              simp only [LR.nox_ok, LR.bind_ok] at e
              split at e
              · split at e
                · exact ih _ _ _ _ _ e
                · cases e
              · cases e
          · exact ih _ _ _ _ _ e
          · cases e
    · cases e
/-- the comprehension's turns: what is asked of W -/
def LcW (Xs : Cx → Prop) (c : Cs) (scope : Scope) (xtg xel : Expr) (xifs : List Expr) (own : List Nat) (σ : L2.St) (Q : VK) (J : It) (H1 : Hp) : Prop := ∀ D, H1 D = none → ∃ W : Nat → Nat → Hp → Prop, (∃ m, W 0 m (upd H1 D (.lst []))) ∧ ∀ i m H, W i m H →
  (J.stop i H ∧ Q (.ref D) H) ∨ (J.go i H ∧ ∃ Nx : Hp → Prop, (∀ H', Nx H' → ∃ m', m' < m ∧ W (i + 1) m' H') ∧ ∀ x H', J.yld i H x H' → WG (Bk Xs scope) xtg x (L2.wipe σ own) H' fun σ2 H2 => L2.wipe σ2 own = L2.wipe σ own ∧ WTs (Bk Xs scope) xifs σ2 H2 fun b H3 =>
    if b = true then WP (Bk Xs scope) xel σ2 H3 fun y H4 => ∃ acc, H4 D = some (.lst acc) ∧ acc.length < sizeLine ∧ Nx (upd H4 D (.lst (acc ++ [y]))) else Nx H3)
theorem lcw_items (lk : Lk Xs M T W c) {own : List Nat} {tg : Tg} {ifs : List E} {el : LE} {scope : Scope} {xtg xel : Expr} {xifs : List Expr} (h1 : c.hot = false) (h5 : chkTg (csB c scope) tg xtg = true)
    (h6 : tg.is.all (fun i => decide (i ∈ own)) = true) (h7 : chkL ifs (csB c scope) xifs = true) (h8 : ifs.length ≤ 1) (h9 : xifs.all tstOk = true) (r : LRel M b ρ h σ as G H)
    (he : ∀ {ρ σ h as G H}, LRel M b ρ h σ as G H → SA (Bk Xs scope) M b (fun _ _ _ => False) σ as G H xel (evA T ρ el h)) (Q : VK) {items : List D} {J : It} {as1 : List Addr} {h1' : LHp} {G1 H1 : Hp} (I1 : LInv M b as1 h1' G1 H1) (s1 : LSp as G as1 G1) (wk : Wk M G1 J items)
    (z : LOk M b (WK W σ) as G (LVv M b as G Q) (if items.length ≤ sizeLine then (lcL tg (fun ρ1 => evPT T ρ1 ifs) (fun ρ1 h2 => evA T ρ1 el h2) (wipeLS ρ own) h1'.length items (h1' ++ [.lst []])).bind fun _ h3 => .ok (.r h1'.length) h3 else .st)) :
    LcW Xs c scope xtg xel xifs own σ Q J H1 := by
  have kb := (lk.bk h1 scope).kx
  have ho : ∀ i ∈ tg.is, i ∈ own := fun i hi => by have := List.all_eq_true.mp h6 i hi; exact of_decide_eq_true this
  intro D hD
  by_cases hz : items.length ≤ sizeLine
  · rw [if_pos hz] at z
    cases eall : lcL tg (fun ρ1 => evPT T ρ1 ifs) (fun ρ1 h2 => evA T ρ1 el h2) (wipeLS ρ own) h1'.length items (h1' ++ [.lst []]) with
    | st => rw [eall] at z; exact z.elim
    | ex cc fs h4 => exact absurd eall (lcL_noex _ _ _ _ _)
    | ok _ hf =>
      rw [eall] at z
      have z : LVv M b as G Q (.r h1'.length) hf := z
      have I2 := I1.allocL hD (vs := []) (us := []) rfl
      have s2 : LSp as G (as1 ++ [D]) G1 := ⟨s1.pre.trans (List.prefix_append _ _), s1.g⟩
      have eD : (as1 ++ [D])[h1'.length]? = some D := by rw [← I1.len]; simp
      refine ⟨fun i m H2 => m = items.length - i ∧ i ≤ items.length ∧ ∃ (as2 : List Addr) (h2 : LHp) (G2 : Hp), LInv M b as2 h2 G2 H2 ∧ LSp (as1 ++ [D]) G1 as2 G2 ∧ lcL tg (fun ρ1 => evPT T ρ1 ifs) (fun ρ1 h2 => evA T ρ1 el h2) (wipeLS ρ own) h1'.length (items.drop i) h2 = .ok () hf,
        ⟨items.length, by simp, Nat.zero_le _, as1 ++ [D], _, G1, I2, LSp.refl _ _, by simpa using eall⟩, ?_⟩
      rintro i m H2 ⟨rfl, hi, as2, h2, G2, I3, s3, erest⟩
      obtain ⟨w1, w2, w3⟩ := wk G2 H2 s3.g I3.ext.i
      by_cases hlt : i < items.length
      · refine .inr ⟨w1 i hlt, fun H' => i + 1 ≤ items.length ∧ ∃ (as2 : List Addr) (h2 : LHp) (G2 : Hp), LInv M b as2 h2 G2 H' ∧ LSp (as1 ++ [D]) G1 as2 G2 ∧ lcL tg (fun ρ1 => evPT T ρ1 ifs) (fun ρ1 h2 => evA T ρ1 el h2) (wipeLS ρ own) h1'.length (items.drop (i + 1)) h2 = .ok () hf,
          fun H' q => ⟨items.length - (i + 1), by omega, rfl, q.1, q.2⟩, fun x H' hy => ?_⟩
        have ed : items[i]? = some items[i] := by simp [hlt]
        obtain ⟨G3, x3, rx⟩ := w3 i _ ed x H' hy
        rw [List.drop_eq_getElem_cons hlt] at erest
        obtain ⟨ρ1, t, e1, e2, e3⟩ := lcL_cons erest
        have I4 := I3.frame x3
        have s4 : LSp (as1 ++ [D]) G1 as2 G3 := s3.trans ⟨List.prefix_refl _, x3.g⟩
        have r4 : LRel M b (wipeLS ρ own) h2 (L2.wipe σ own) as2 G3 H' := (r.wipe own).later (s2.trans s4) I4
        refine l_tg kb h5 r4 (show RL M G3 as2 (.d items[i]) x from rx) e1 fun σ2 r5 hw => ?_
        refine ⟨by rw [hw own ho, wipe_idem], ?_⟩
        refine sndTs ifs kb _ h7 h8 h9 r5.pur ?_
        have e2 : evT T.t (ρ1.map LSl.pur) ifs = .ok t := e2
        rw [e2]
        intro G5 H5 x5
        have I6 := I4.frame x5
        have s6 : LSp as2 G3 as2 G5 := ⟨List.prefix_refl _, x5.g⟩
        cases t with
        | false =>
          simp only [Bool.false_eq_true, if_false] at e3 ⊢
          exact ⟨hlt, as2, h2, G5, I6, s4.trans s6, e3⟩
        | true =>
          simp only [if_true] at e3 ⊢
          obtain ⟨y, h7', vs, f1, f2, f3, f4⟩ := e3
          refine (he (r5.later s6 I6)).use (Z := fun y' h' => y' = y ∧ h' = h7') (by rw [f1]; exact ⟨rfl, rfl⟩) fun y' h' u as8 G8 H8 ey I8 s8 ru => ?_
          obtain ⟨rfl, rfl⟩ := ey
          have eD8 : as8[h1'.length]? = some D := pre_get (s4.trans (s6.trans s8)).pre eD
          obtain ⟨acc, b1, b2⟩ := I8.ob _ _ _ eD8 f2
          refine ⟨acc, b1, by rw [b2.length]; exact f3, hlt, as8, _, G8, I8.chg (o' := .lst (vs ++ [y'])) eD8 f2 ⟨acc ++ [u], upd_same, b2.snoc ru⟩, s4.trans (s6.trans s8), f4⟩
      · have e : i = items.length := by omega
        subst e
        refine .inl ⟨w2, ?_⟩
        rw [List.drop_length] at erest
        cases erest
        exact z _ as2 G2 H2 I3 (s2.trans s3) ⟨D, pre_get s3.pre eD, rfl⟩
  · rw [if_neg hz] at z; exact z.elim
theorem lcw_live (lk : Lk Xs M T W c) {own : List Nat} {tg : Tg} {ifs : List E} {el : LE} {scope : Scope} {xtg xel : Expr} {xifs : List Expr} (h1 : c.hot = false) (h5 : chkTg (csB c scope) tg xtg = true)
    (h6 : tg.is.all (fun i => decide (i ∈ own)) = true) (h7 : chkL ifs (csB c scope) xifs = true) (h8 : ifs.length ≤ 1) (h9 : xifs.all tstOk = true) (r : LRel M b ρ h σ as G H)
    (he : ∀ {ρ σ h as G H}, LRel M b ρ h σ as G H → SA (Bk Xs scope) M b (fun _ _ _ => False) σ as G H xel (evA T ρ el h)) (Q : VK) {li n : Nat} {a : Addr} {as1 : List Addr} {h1' : LHp} {G1 H1 : Hp} (I1 : LInv M b as1 h1' G1 H1) (s1 : LSp as G as1 G1) (ea : as1[li]? = some a)
    (z : LOk M b (WK W σ) as G (LVv M b as G Q) ((lcLL tg (fun ρ1 => evPT T ρ1 ifs) (fun ρ1 h2 => evA T ρ1 el h2) (wipeLS ρ own) h1'.length li n 0 (h1' ++ [.lst []])).bind fun _ h3 => .ok (.r h1'.length) h3)) :
    LcW Xs c scope xtg xel xifs own σ Q (Itl M.K a) H1 := by
  have kb := (lk.bk h1 scope).kx
  have ho : ∀ i ∈ tg.is, i ∈ own := fun i hi => by have := List.all_eq_true.mp h6 i hi; exact of_decide_eq_true this
  intro D hD
  cases eall : lcLL tg (fun ρ1 => evPT T ρ1 ifs) (fun ρ1 h2 => evA T ρ1 el h2) (wipeLS ρ own) h1'.length li n 0 (h1' ++ [.lst []]) with
  | st => rw [eall] at z; exact z.elim
  | ex cc fs h4 => exact absurd eall (lcLL_noex _ _ _ _ _ _)
  | ok _ hf =>
    rw [eall] at z
    have z : LVv M b as G Q (.r h1'.length) hf := z
    have I2 := I1.allocL hD (vs := []) (us := []) rfl
    have s2 : LSp as G (as1 ++ [D]) G1 := ⟨s1.pre.trans (List.prefix_append _ _), s1.g⟩
    have eD : (as1 ++ [D])[h1'.length]? = some D := by rw [← I1.len]; simp
    have eA : (as1 ++ [D])[li]? = some a := pre_get (List.prefix_append _ _) ea
    refine ⟨fun j m H2 => ∃ (as2 : List Addr) (h2 : LHp) (G2 : Hp), LInv M b as2 h2 G2 H2 ∧ LSp (as1 ++ [D]) G1 as2 G2 ∧ lcLL tg (fun ρ1 => evPT T ρ1 ifs) (fun ρ1 h2 => evA T ρ1 el h2) (wipeLS ρ own) h1'.length li m j h2 = .ok () hf,
      ⟨n, as1 ++ [D], _, G1, I2, LSp.refl _ _, eall⟩, ?_⟩
    rintro j m H2 ⟨as2, h2, G2, I3, s3, erest⟩
    have eA2 : as2[li]? = some a := pre_get s3.pre eA
    unfold lcLL at erest
    split at erest
    · rename_i vs eo
      obtain ⟨us, b1, b2⟩ := I3.ob _ _ _ eA2 eo
      have hS : SqL M.K H2 a us := .inl (.inl b1)
      split at erest
      · rename_i ev
        have hn := b2.none_of ev
        cases erest
        exact .inl ⟨⟨us, hS, List.getElem?_eq_none_iff.mp hn⟩, z _ as2 G2 H2 I3 (s2.trans s3) ⟨D, pre_get s3.pre eD, rfl⟩⟩
      · rename_i x ev
        obtain ⟨u, e1, e2⟩ := b2.get ev
        split at erest
        · cases erest
        · rename_i m'
          refine .inr ⟨⟨us, u, hS, e1⟩, fun H' => ∃ (as2 : List Addr) (h2 : LHp) (G2 : Hp), LInv M b as2 h2 G2 H' ∧ LSp (as1 ++ [D]) G1 as2 G2 ∧ lcLL tg (fun ρ1 => evPT T ρ1 ifs) (fun ρ1 h2 => evA T ρ1 el h2) (wipeLS ρ own) h1'.length li m' (j + 1) h2 = .ok () hf, fun H' q => ⟨m', Nat.lt_succ_self _, q⟩, fun y H' hy => ?_⟩
          obtain ⟨rfl, hy⟩ := hy
          have ey := hy us hS
          rw [e1] at ey
          cases ey
          have r4 : LRel M b (wipeLS ρ own) h2 (L2.wipe σ own) as2 G2 H' := (r.wipe own).later (s2.trans s3) I3
          split at erest
          · cases erest
          · rename_i ρ1 e3
            refine l_tg kb h5 r4 e2 e3 fun σ2 r5 hw => ?_
            refine ⟨by rw [hw own ho, wipe_idem], ?_⟩
            refine sndTs ifs kb _ h7 h8 h9 r5.pur ?_
            split at erest
            · rename_i et
              have et : evT T.t (ρ1.map LSl.pur) ifs = .ok true := et
              rw [et]
              intro G5 H5 x5
              have I6 := I3.frame x5
              have s6 : LSp as2 G2 as2 G5 := ⟨List.prefix_refl _, x5.g⟩
              simp only [if_true]
              cases f1 : evA T ρ1 el h2 with
              | st => rw [f1] at erest; cases erest
              | ex c' fs' h' => rw [f1] at erest; cases erest
              | ok y1 h7' =>
                rw [f1] at erest
                simp only [LR.nox_ok, LR.bind_ok] at erest
                split at erest
                · rename_i ws f2
                  by_cases f3 : ws.length < sizeLine
                  · rw [if_pos f3] at erest
                    refine (he (r5.later s6 I6)).use (Z := fun y' h' => y' = y1 ∧ h' = h7') (by rw [f1]; exact ⟨rfl, rfl⟩) fun y' h' u' as8 G8 H8 ey I8 s8 ru => ?_
                    obtain ⟨rfl, rfl⟩ := ey
                    have eD8 : as8[h1'.length]? = some D := pre_get (s3.trans (s6.trans s8)).pre eD
                    obtain ⟨acc, d1, d2⟩ := I8.ob _ _ _ eD8 f2
                    exact ⟨acc, d1, by rw [d2.length]; exact f3, as8, _, G8, I8.chg (o' := .lst (ws ++ [y'])) eD8 f2 ⟨acc ++ [u'], upd_same, d2.snoc ru⟩, s3.trans (s6.trans s8), erest⟩
                  · rw [if_neg f3] at erest; cases erest
                · cases erest
            · rename_i et
              have et : evT T.t (ρ1.map LSl.pur) ifs = .ok false := et
              rw [et]
              intro G5 H5 x5
              simp only [Bool.false_eq_true, if_false]
              exact ⟨as2, h2, G5, I3.frame x5, s3.trans ⟨List.prefix_refl _, x5.g⟩, erest⟩
            · cases erest
    · cases erest
theorem l_lc (lk : Lk Xs M T W c) {own : List Nat} {tg : Tg} {k : ItK} {asE : List E} {us : List Nat} {ifs : List E} {el : LE} {scope : Scope} {it xtg xel : Expr} {xifs : List Expr} (h1 : c.hot = false) (h3 : chkI c (fun exs => chkL asE c exs && exs.all nst) k it xtg = true) (h5 : chkTg (csB c scope) tg xtg = true)
    (h6 : tg.is.all (fun i => decide (i ∈ own)) = true) (h7 : chkL ifs (csB c scope) xifs = true) (h8 : ifs.length ≤ 1) (h9 : xifs.all tstOk = true) (r : LRel M b ρ h σ as G H)
    (he : ∀ {ρ σ h as G H}, LRel M b ρ h σ as G H → SA (Bk Xs scope) M b (fun _ _ _ => False) σ as G H xel (evA T ρ el h)) (Q : VK)
    (q : LOk M b (WK W σ) as G (LVv M b as G Q) (evA T ρ (.lc own tg k asE us ifs el) h)) :
    tLc (WI Xs xtg it) (WG (Bk Xs scope) xtg) (WTs (Bk Xs scope) xifs) (WP (Bk Xs scope) xel) own σ H Q := by
  unfold evA at q
  refine l_evPI lk.kx h3 r (LOk.imp (LOk.bind q) fun ds h1' z => ?_)
  cases ei : itemsOf k ds with
  | st => rw [ei] at z; exact z.elim
  | ex cc fs => rw [ei] at z; exact z.elim
  | ok items =>
    rw [ei] at z
    exact ⟨items, rfl, fun J as1 G1 H1 I1 s1 wk => lcw_items lk h1 h5 h6 h7 h8 h9 r he Q I1 s1 wk z⟩
theorem LOk.okv {α : Type} {P : α → LHp → Prop} {a : α} {h : LHp} {E : XK} (q : LOk M b E as G P (.ok a h)) : P a h := q
theorem l_lcV (lk : Lk Xs M T W c) {own : List Nat} {tg : Tg} {o : LE} {ifs : List E} {el : LE} {scope : Scope} {it xtg xel : Expr} {xifs : List Expr} (h1 : c.hot = false) (h5 : chkTg (csB c scope) tg xtg = true)
    (h6 : tg.is.all (fun i => decide (i ∈ own)) = true) (h7 : chkL ifs (csB c scope) xifs = true) (h8 : ifs.length ≤ 1) (h9 : xifs.all tstOk = true) (r : LRel M b ρ h σ as G H)
    (ho : SA Xs M b (WK W σ) σ as G H it (evA T ρ o h)) (he : ∀ {ρ σ h as G H}, LRel M b ρ h σ as G H → SA (Bk Xs scope) M b (fun _ _ _ => False) σ as G H xel (evA T ρ el h)) (Q : VK)
    (q : LOk M b (WK W σ) as G (LVv M b as G Q) (evA T ρ (.lcL own tg o ifs el) h)) :
    tLc (WI Xs xtg it) (WG (Bk Xs scope) xtg) (WTs (Bk Xs scope) xifs) (WP (Bk Xs scope) xel) own σ H Q := by
  have kx := lk.kx
  unfold evA at q
  have q1 := LOk.bind q
  refine ⟨fun σ H R => iList M.K (WP Xs it) σ H R ∨ iTup M.K (WP Xs it) σ H R ∨ iStr (WP Xs it) σ H R, fun X hX => ⟨fun pins s σ H R I z => ?_⟩, ?_⟩
  · rcases z with z | z | z
    · exact (pi_list (tg := xtg) (pe_w hX)).run pins s σ H R I (by rw [kx.K X hX]; exact z)
    · exact (pi_tup (tg := xtg) (pe_w hX)).run pins s σ H R I (by rw [kx.K X hX]; exact z)
    · exact (pi_str (tg := xtg) (pe_w hX)).run pins s σ H R I z
  · cases ev : evA T ρ o h with
    | st => rw [ev] at q1; exact q1.elim
    | ex cc fs h' =>
      rw [ev] at ho q1
      exact .inl (ho _ q1)
    | ok x h' =>
      rw [ev] at ho q1
      have z := LOk.okv q1
      cases x with
      | r k =>
        simp only at z
        split at z
        · rename_i vs eo
          refine .inl (ho.use (Z := fun y h2 => y = .r k ∧ h2 = h') ⟨rfl, rfl⟩ fun y h2 u as' G' H' ey I s ru => ?_)
          obtain ⟨rfl, rfl⟩ := ey
          obtain ⟨a, ea, rfl⟩ := ru
          obtain ⟨us, b1, b2⟩ := I.ob _ _ _ ea eo
          exact ⟨a, rfl, ⟨us, .inl (.inl b1)⟩, lcw_live lk h1 h5 h6 h7 h8 h9 r he Q I s ea z⟩
        · exact z.elim
      | d d =>
        simp only at z
        split at z
        · rename_i xs ei
          unfold itVal at ei
          split at ei
          · rename_i e1
            cases e1
            cases ei
            refine .inl (ho.use (Z := fun y h2 => y = .d _ ∧ h2 = h') ⟨rfl, rfl⟩ fun y h2 u as' G' H' ey I s ru => ?_)
            obtain ⟨rfl, rfl⟩ := ey
            obtain ⟨a, vs, rfl, b1, b2⟩ := Rep.lst' ru
            exact ⟨a, rfl, ⟨vs, .inl (.inl (I.ext.i _ _ b1))⟩, lcw_items lk h1 h5 h6 h7 h8 h9 r he Q I s (wk_list b1 b2) z⟩
          · rename_i e1
            cases e1
            cases ei
            refine .inr (.inl (ho.use (Z := fun y h2 => y = .d _ ∧ h2 = h') ⟨rfl, rfl⟩ fun y h2 u as' G' H' ey I s ru => ?_))
            obtain ⟨rfl, rfl⟩ := ey
            obtain ⟨a, vs, rfl, b1, b2⟩ := Rep.tup' ru
            exact ⟨a, rfl, ⟨vs, Same.seqT I.ext.i b1⟩, lcw_items lk h1 h5 h6 h7 h8 h9 r he Q I s (wk_tup b1 b2) z⟩
          · rename_i e1
            cases e1
            cases ei
            refine .inr (.inr (ho.use (Z := fun y h2 => y = .d _ ∧ h2 = h') ⟨rfl, rfl⟩ fun y h2 u as' G' H' ey I s ru => ?_))
            obtain ⟨rfl, rfl⟩ := ey
            obtain rfl := Rep.str' (M := M) (G := G') ru
            exact ⟨_, rfl, lcw_items lk h1 h5 h6 h7 h8 h9 r he Q I s wk_str z⟩
          · cases ei
        · exact z.elim
end
section
variable {M : Md} {T : LTb} {b : Bs}
mutual
theorem sndA' : ∀ (e : LE) {Xs : Cx → Prop} {W : WX} {c : Cs} (lk : Lk Xs M T W c) (ex : Expr), chkLE T.fs e c ex = true → ∀ {ρ : LRho} {h : LHp} {σ : L2.St} {as : List Addr} {G H : Hp}, LRel M b ρ h σ as G H → SA Xs M b (WK W σ) σ as G H ex (evA T ρ e h)
  | .p e us, Xs, W, c, lk, ex, hk, ρ, h, σ, as, G, H, r => by
    unfold chkLE at hk
    unfold evA
    exact l_evP lk.kx hk r
  | .v i, Xs, W, c, lk, ex, hk, ρ, h, σ, as, G, H, r => by
    unfold chkLE at hk
    split at hk <;> first | (cases hk; done) | skip
    unfold evA
    exact l_name lk.kx hk r
  | .ix a e us, Xs, W, c, lk, ex, hk, ρ, h, σ, as, G, H, r => by
    unfold chkLE at hk
    split at hk <;> first | (cases hk; done) | skip
    simp only [Bool.and_eq_true] at hk
    unfold evA
    exact l_ix lk.kx hk.2 (sndA' a lk _ hk.1.1 r) fun as' h' G' H' I s => l_evP lk.kx hk.1.2 (r.later s I)
  | .fl a f, Xs, W, c, lk, ex, hk, ρ, h, σ, as, G, H, r => by
    unfold chkLE at hk
    split at hk <;> first | (cases hk; done) | skip
    simp only [Bool.and_eq_true, decide_eq_true_eq] at hk
    obtain ⟨⟨⟨rfl, h1⟩, h2⟩, h3⟩ := hk
    unfold evA
    exact l_fl lk.kx h2 h3 (sndA' a lk _ h1 r)
  | .ls es, Xs, W, c, lk, ex, hk, ρ, h, σ, as, G, H, r => by
    unfold chkLE at hk
    split at hk <;> first | (cases hk; done) | skip
    simp only [Bool.and_eq_true] at hk
    unfold evA
    exact l_ls (sndAs' es lk _ hk.1 hk.2 r)
  | .lc own tg k asE us ifs el, Xs, W, c, lk, ex, hk, ρ, h, σ, as, G, H, r => by
    unfold chkLE at hk
    split at hk <;> first | (cases hk; done) | skip
    simp only [Bool.and_eq_true, decide_eq_true_eq, Bool.not_eq_true'] at hk
    obtain ⟨⟨⟨⟨⟨⟨⟨⟨⟨h1, h2⟩, h3⟩, h4⟩, h5⟩, h6⟩, h7⟩, h8⟩, h9⟩, h10⟩ := hk
    rename_i xel xtg it xifs scope pos
    intro Q q
    have kx := lk.kx
    have own' : (own.map fun i => (c.N.getD i "", i)).map (·.2) = own := by rw [List.map_map]; exact List.map_id' own
    refine ⟨_, fun X hX => pe_lc (kx.calm h1 X hX) (by rw [kx.N X hX]; exact kx.nd) (pi_w hX) (own := own.map fun i => (c.N.getD i "", i)) (by rw [kx.N X hX, kx.sc X hX]; exact blkOk_by h2)
              (fun s H C cl fp => pg_w (Xs := Bk Xs scope) ⟨X, s, H, C, cl, fp, hX, rfl⟩) (fun s H C cl fp => pts_w (Xs := Bk Xs scope) ⟨X, s, H, C, cl, fp, hX, rfl⟩) (fun s H C cl fp => pe_w (Xs := Bk Xs scope) ⟨X, s, H, C, cl, fp, hX, rfl⟩) (foldedId h4 _), ?_⟩
    rw [own']
    exact l_lc lk h1 h3 h5 h6 h7 h8 h9 r (fun r => sndA' el (lk.bk h1 scope) _ h10 r) Q q
  | .lcL own tg o ifs el, Xs, W, c, lk, ex, hk, ρ, h, σ, as, G, H, r => by
    unfold chkLE at hk
    split at hk <;> first | (cases hk; done) | skip
    simp only [Bool.and_eq_true, decide_eq_true_eq, Bool.not_eq_true'] at hk
    obtain ⟨⟨⟨⟨⟨⟨⟨⟨⟨h1, h2⟩, h3⟩, h4⟩, h5⟩, h6⟩, h7⟩, h8⟩, h9⟩, h10⟩ := hk
    rename_i xel xtg it xifs scope pos
    intro Q q
    have kx := lk.kx
    have own' : (own.map fun i => (c.N.getD i "", i)).map (·.2) = own := by rw [List.map_map]; exact List.map_id' own
    refine ⟨_, fun X hX => pe_lc (kx.calm h1 X hX) (by rw [kx.N X hX]; exact kx.nd) (pi_w hX) (own := own.map fun i => (c.N.getD i "", i)) (by rw [kx.N X hX, kx.sc X hX]; exact blkOk_by h2)
              (fun s H C cl fp => pg_w (Xs := Bk Xs scope) ⟨X, s, H, C, cl, fp, hX, rfl⟩) (fun s H C cl fp => pts_w (Xs := Bk Xs scope) ⟨X, s, H, C, cl, fp, hX, rfl⟩) (fun s H C cl fp => pe_w (Xs := Bk Xs scope) ⟨X, s, H, C, cl, fp, hX, rfl⟩) (foldedId h4 _), ?_⟩
    rw [own']
    exact l_lcV lk h1 h5 h6 h7 h8 h9 r (sndA' o lk _ h3 r) (fun r => sndA' el (lk.bk h1 scope) _ h10 r) Q q
  | .call f es, Xs, W, c, lk, ex, hk, ρ, h, σ, as, G, H, r => by
    unfold chkLE at hk
    split at hk <;> first | (cases hk; done) | skip
    simp only [Bool.and_eq_true, decide_eq_true_eq, Bool.not_eq_true'] at hk
    obtain ⟨⟨⟨⟨⟨h0, h1⟩, h2⟩, h3⟩, h4⟩, h5⟩ := hk
    subst h1
    unfold evA
    exact l_call lk h0 h2 h3 h5 (sndAs' es lk _ h4 h5 r)
theorem sndAs' : ∀ (es : List LE) {Xs : Cx → Prop} {W : WX} {c : Cs} (lk : Lk Xs M T W c) (xs : List Expr), chkLL T.fs es c xs = true → xs.all nst = true → ∀ {ρ : LRho} {h : LHp} {σ : L2.St} {as : List Addr} {G H : Hp}, LRel M b ρ h σ as G H → SAs Xs M b (WK W σ) σ as G H xs (evAs T ρ es h)
  | [], Xs, W, c, lk, xs, hk, hn, ρ, h, σ, as, G, H, r => by
    unfold chkLL at hk
    cases xs with
    | cons _ _ => cases hk
    | nil => unfold evAs; exact ls_nil r
  | e :: es, Xs, W, c, lk, xs, hk, hn, ρ, h, σ, as, G, H, r => by
    unfold chkLL at hk
    cases xs with
    | nil => cases hk
    | cons x xs =>
      simp only [Bool.and_eq_true] at hk
      simp only [List.all_cons, Bool.and_eq_true] at hn
      unfold evAs
      exact ls_cons hn.1 (sndA' e lk _ hk.1 r) fun as' h' G' H' I s => sndAs' es lk _ hk.2 hn.2 (r.later s I)
end
end

/-! ### tests -/
def LB.isAO : LB → Bool
  | .and _ _ => true
  | .or _ _ => true
  | _ => false
def chkLB (fl : List Str) : LB → Cs → Expr → Bool
  | .p e us, c, ex => chkE e c ex && tstOk ex
  | .e e, c, ex => chkLE fl e c ex && plainTst ex
  | .nt a, c, ex => match ex with
    | .UnaryOp .Not x _ => chkLB fl a c x
    | _ => false
  | .and a b, c, ex => match ex with
    | .BoolOp .And (x :: y :: r) p => chkLB fl a c x && (match r with
      | [] => chkLB fl b c y
      | z :: r => b.isAO && chkLB fl b c (.BoolOp .And (y :: z :: r) p))
    | _ => false
  | .or a b, c, ex => match ex with
    | .BoolOp .Or (x :: y :: r) p => chkLB fl a c x && (match r with
      | [] => chkLB fl b c y
      | z :: r => b.isAO && chkLB fl b c (.BoolOp .Or (y :: z :: r) p))
    | _ => false
def BQ (M : Md) (b : Bs) (as : List Addr) (G : Hp) (Q : Bool → Hp → Prop) (k : Bool) (h : LHp) : Prop := ∀ as' G' H', LInv M b as' h G' H' → LSp as G as' G' → Q k H'
def STB (Xs : Cx → Prop) (M : Md) (b : Bs) (E : XK) (σ : L2.St) (as : List Addr) (G H : Hp) (ex : Expr) (f : LR Bool) : Prop := ∀ Q, LOk M b E as G (BQ M b as G Q) f → WT Xs ex σ H Q
def SWB (Xs : Cx → Prop) (M : Md) (b : Bs) (E : XK) (σ : L2.St) (as : List Addr) (G H : Hp) (ex : Expr) (f : LR Bool) : Prop := ∀ Q, LOk M b E as G (BQ M b as G Q) f → WW Xs ex σ H Q
section
variable {Xs : Cx → Prop} {M : Md} {T : LTb} {W : WX} {c : Cs} {b : Bs} {Ek : XK} {as as' : List Addr} {h : LHp} {G G' H H' : Hp} {ρ : LRho} {σ : L2.St}
theorem BQ.mono {Q : Bool → Hp → Prop} {k : Bool} (q : BQ M b as G Q k h) (s : LSp as G as' G') : BQ M b as' G' Q k h := fun as2 G2 H2 I s2 => q as2 G2 H2 I (s.trans s2)
theorem STB.use {ex : Expr} {f : LR Bool} (q : STB Xs M b Ek σ as G H ex f) {Z : Bool → LHp → Prop} (hb : LOk M b Ek as G Z f) {Q : Bool → Hp → Prop} (k : ∀ x h' as' G' H', Z x h' → LInv M b as' h' G' H' → LSp as G as' G' → Q x H') : WT Xs ex σ H Q :=
  q Q (hb.imp fun x h' z => fun as' G' H' I s => k x h' as' G' H' z I s)
theorem SWB.sb {ex : Expr} {f : LR Bool} (q : SWB Xs M b Ek σ as G H ex f) : STB Xs M b Ek σ as G H ex f := fun Q z => by
  obtain ⟨t, a, b⟩ := q Q z
  exact ⟨t, fun X hX => (a X hX).pt, b⟩
theorem lb_and {xa y : Expr} {rs : List Expr} {p : Pos} {fa : LR Bool} {fb : LHp → LR Bool} (ha : STB Xs M b Ek σ as G H xa fa) (hb : ∀ as' h' G' H', LInv M b as' h' G' H' → LSp as G as' G' → SWB Xs M b Ek σ as' G' H' (.BoolOp .And (y :: rs) p) (fb h')) :
    SWB Xs M b Ek σ as G H (.BoolOp .And (xa :: y :: rs) p) (fa.bind fun k h1 => if k = true then fb h1 else .ok false h1) := fun Q q => by
  refine ⟨_, fun X hX => pw_and (pt_w hX) (pw_w hX), ?_⟩
  refine ha.use q.bind fun k h1 as1 G1 H1 z I1 s1 => ?_
  cases k with
  | true => exact hb as1 h1 G1 H1 I1 s1 Q ((LOk.mono z s1).imp fun k h' q => q.mono s1)
  | false => exact z as1 G1 H1 I1 s1
theorem lb_or {xa y : Expr} {rs : List Expr} {p : Pos} {fa : LR Bool} {fb : LHp → LR Bool} (ha : STB Xs M b Ek σ as G H xa fa) (hb : ∀ as' h' G' H', LInv M b as' h' G' H' → LSp as G as' G' → SWB Xs M b Ek σ as' G' H' (.BoolOp .Or (y :: rs) p) (fb h')) :
    SWB Xs M b Ek σ as G H (.BoolOp .Or (xa :: y :: rs) p) (fa.bind fun k h1 => if k = true then .ok true h1 else fb h1) := fun Q q => by
  refine ⟨_, fun X hX => pw_or (pt_w hX) (pw_w hX), ?_⟩
  refine ha.use q.bind fun k h1 as1 G1 H1 z I1 s1 => ?_
  cases k with
  | false => exact hb as1 h1 G1 H1 I1 s1 Q ((LOk.mono z s1).imp fun k h' q => q.mono s1)
  | true => exact z as1 G1 H1 I1 s1
end
section
variable {M : Md} {T : LTb} {b : Bs}
mutual
theorem sndB' : ∀ (t : LB) {Xs : Cx → Prop} {W : WX} {c : Cs} (lk : Lk Xs M T W c) (ex : Expr), chkLB T.fs t c ex = true → ∀ {ρ : LRho} {h : LHp} {σ : L2.St} {as : List Addr} {G H : Hp}, LRel M b ρ h σ as G H → STB Xs M b (WK W σ) σ as G H ex (evB T ρ t h)
  | .p e us, Xs, W, c, lk, ex, hk, ρ, h, σ, as, G, H, r => by
    unfold chkLB at hk
    rw [Bool.and_eq_true] at hk
    unfold evB
    exact fun Q q => l_evPB lk.kx hk.1 hk.2 r q
  | .e e, Xs, W, c, lk, ex, hk, ρ, h, σ, as, G, H, r => by
    unfold chkLB at hk
    rw [Bool.and_eq_true] at hk
    unfold evB
    intro Q q
    refine ⟨tB (WP Xs ex), fun X hX => pt_val (pe_w hX) (plainTst_val hk.2 X.env), ?_⟩
    refine (sndA' e lk _ hk.1 r).use q.bind fun x h' u as' G' H' z I s ru => ?_
    split at z
    · obtain rfl := Rep.bl' (M := M) (G := G') ru
      exact ⟨_, rfl, z as' G' H' I s⟩
    · exact z.elim
  | .nt a, Xs, W, c, lk, ex, hk, ρ, h, σ, as, G, H, r => by
    unfold chkLB at hk
    split at hk <;> first | (cases hk; done) | skip
    unfold evB
    intro Q q
    refine ⟨_, fun X hX => pt_not (pt_w hX), ?_⟩
    exact (sndB' a lk _ hk r).use q.bind fun k h' as' G' H' z I s => z as' G' H' I s
  | .and a e, Xs, W, c, lk, ex, hk, ρ, h, σ, as, G, H, r => by
    cases ex <;> first | (unfold chkLB at hk; cases hk; done) | skip
    rename_i op es p
    match es, hk with
    | [], hk => (unfold chkLB at hk; cases op <;> cases hk)
    | [_], hk => (unfold chkLB at hk; cases op <;> cases hk)
    | x :: y :: rs, hk => exact (sndW' (.and a e) lk rfl hk r).sb
  | .or a e, Xs, W, c, lk, ex, hk, ρ, h, σ, as, G, H, r => by
    cases ex <;> first | (unfold chkLB at hk; cases hk; done) | skip
    rename_i op es p
    match es, hk with
    | [], hk => (unfold chkLB at hk; cases op <;> cases hk)
    | [_], hk => (unfold chkLB at hk; cases op <;> cases hk)
    | x :: y :: rs, hk => exact (sndW' (.or a e) lk rfl hk r).sb
theorem sndW' : ∀ (t : LB) {Xs : Cx → Prop} {W : WX} {c : Cs} (lk : Lk Xs M T W c) {op : BoolOp} {x y : Expr} {rs : List Expr} {p : Pos}, t.isAO = true → chkLB T.fs t c (.BoolOp op (x :: y :: rs) p) = true → ∀ {ρ : LRho} {h : LHp} {σ : L2.St} {as : List Addr} {G H : Hp}, LRel M b ρ h σ as G H → SWB Xs M b (WK W σ) σ as G H (.BoolOp op (x :: y :: rs) p) (evB T ρ t h)
  | .p _ _, _, _, _, _, _, _, _, _, _, hi, _, _, _, _, _, _, _, _ => by cases hi
  | .e _, _, _, _, _, _, _, _, _, _, hi, _, _, _, _, _, _, _, _ => by cases hi
  | .nt _, _, _, _, _, _, _, _, _, _, hi, _, _, _, _, _, _, _, _ => by cases hi
  | .and a e, Xs, W, c, lk, op, x, y, rs, p, hi, hk, ρ, h, σ, as, G, H, r => by
    cases op with
    | Or => unfold chkLB at hk; cases hk
    | And =>
      unfold chkLB at hk
      rw [Bool.and_eq_true] at hk
      obtain ⟨h1, h2⟩ := hk
      unfold evB
      cases rs with
      | nil => exact lb_and (sndB' a lk _ h1 r) fun as' h' G' H' I s Q q => ⟨_, fun X hX => pw_and1 (pt_w hX), sndB' e lk _ h2 (r.later s I) Q q⟩
      | cons z rs =>
        have h2 : (e.isAO && chkLB T.fs e c (.BoolOp .And (y :: z :: rs) p)) = true := h2
        rw [Bool.and_eq_true] at h2
        exact lb_and (sndB' a lk _ h1 r) fun as' h' G' H' I s => sndW' e lk h2.1 h2.2 (r.later s I)
  | .or a e, Xs, W, c, lk, op, x, y, rs, p, hi, hk, ρ, h, σ, as, G, H, r => by
    cases op with
    | And => unfold chkLB at hk; cases hk
    | Or =>
      unfold chkLB at hk
      rw [Bool.and_eq_true] at hk
      obtain ⟨h1, h2⟩ := hk
      unfold evB
      cases rs with
      | nil => exact lb_or (sndB' a lk _ h1 r) fun as' h' G' H' I s Q q => ⟨_, fun X hX => pw_or1 (pt_w hX), sndB' e lk _ h2 (r.later s I) Q q⟩
      | cons z rs =>
        have h2 : (e.isAO && chkLB T.fs e c (.BoolOp .Or (y :: z :: rs) p)) = true := h2
        rw [Bool.and_eq_true] at h2
        exact lb_or (sndB' a lk _ h1 r) fun as' h' G' H' I s => sndW' e lk h2.1 h2.2 (r.later s I)
end
end
end PX

set_option Elab.async false
set_option linter.all false
set_option maxRecDepth 100000
set_option maxHeartbeats 1000000
/-! Lx4: statements over live things, one by one. -/
namespace PX
open PySem PySem.Spec PyProof.Rows L2

def SOkL (M : Md) (W : WX) (b : Bs) (De : Ends) : LRS → Prop
  | .ok (.nx s) => ∀ as σ G H, LRel M b s.ρ s.h σ as G H → De.nx σ H
  | .ok (.bk s) => ∀ as σ G H, LRel M b s.ρ s.h σ as G H → De.bk σ H
  | .ok (.ct s) => ∀ as σ G H, LRel M b s.ρ s.h σ as G H → De.ct σ H
  | .ok (.rt x h) => ∀ u as G H, LInv M b as h G H → RL M G as x u → De.rt u H
  | .ex c fs s => ∀ cls d as σ G H, LRel M b s.ρ s.h σ as G H → ExRep M G H c fs cls d → W cls d σ H
  | .st => False
/-- the statements' own property -/
def SSL (Xs : Cx → Prop) (M : Md) (W : WX) (b : Bs) (st : List Stmt) (f : LSt → LRS) : Prop := ∀ {as G H ρ h σ De}, LRel M b ρ h σ as G H → SOkL M W b De (f ⟨ρ, h⟩) → WSs Xs st De σ H
/-- the base with more frozen -/
def Bs.mv (b : Bs) (G : Hp) (as : List Addr) : Bs := ⟨G, b.B, as⟩
section
variable {Xs : Cx → Prop} {M : Md} {T : LTb} {W : WX} {c : Cs} {b : Bs} {as as' : List Addr} {h : LHp} {G G' H H' : Hp} {ρ : LRho} {σ : L2.St} {De : Ends}
theorem on_ok {α : Type} {x : LR α} {f : α → LHp → LRS} (r : LRel M b ρ h σ as G H) (q : SOkL M W b De (x.on ρ f)) : LOk M b (WK W σ) as G (fun a h' => SOkL M W b De (f a h')) x := by
  cases x with
  | ok a h' => exact q
  | ex cc fs h' => exact fun cls d as' G' H' I s er => q cls d as' σ G' H' (r.later s I) er
  | st => exact q
theorem LInv.mv (I : LInv M b as h G H) : LInv M (b.mv G as) as h G H := ⟨⟨Same.refl _, I.ext.h, I.ext.i, fun _ _ z => z⟩, List.prefix_refl _, I.len, I.nd, I.nB, I.ob⟩
theorem LInv.back (I : LInv M b as h G H) {as2 : List Addr} {h2 : LHp} {G2 H2 : Hp} (J : LInv M (b.mv G as) as2 h2 G2 H2) : LInv M b as2 h2 G2 H2 :=
  ⟨⟨I.ext.g.trans J.ext.g, J.ext.h, J.ext.i, fun a ha hg => J.ext.n a ha (I.ext.n a ha hg)⟩, I.pre.trans J.pre, J.len, J.nd, J.nB, J.ob⟩
theorem LInv.sp {as2 : List Addr} {h2 : LHp} {G2 H2 : Hp} (J : LInv M (b.mv G as) as2 h2 G2 H2) : LSp as G as2 G2 := ⟨J.pre, J.ext.g⟩
theorem LRel.mv (r : LRel M b ρ h σ as G H) : LRel M (b.mv G as) ρ h σ as G H := ⟨r.inv.mv, r.len, r.v, r.xc⟩
theorem LRel.back (I : LInv M b as h G H) {ρ2 : LRho} {h2 : LHp} {σ2 : L2.St} {as2 : List Addr} {G2 H2 : Hp} (r : LRel M (b.mv G as) ρ2 h2 σ2 as2 G2 H2) : LRel M b ρ2 h2 σ2 as2 G2 H2 := ⟨I.back r.inv, r.len, r.v, r.xc⟩
theorem SOkL.mv (I : LInv M b as h G H) : ∀ {x : LRS}, SOkL M W b De x → SOkL M W (b.mv G as) De x
  | .ok (.nx s), q => fun as σ G H r => q as σ G H (r.back I)
  | .ok (.bk s), q => fun as σ G H r => q as σ G H (r.back I)
  | .ok (.ct s), q => fun as σ G H r => q as σ G H (r.back I)
  | .ok (.rt x h), q => fun u as G H J r => q u as G H (I.back J) r
  | .ex c fs s, q => fun cls d as σ G H r er => q cls d as σ G H (r.back I) er
  | .st, q => q
def isXC : Expr → Bool
  | .ListComp _ _ _ _ => true
  | _ => false
def isLcL : LE → Bool
  | .lc _ _ _ _ _ _ _ => true
  | .lcL _ _ _ _ _ => true
  | _ => false
def asgOkL (c : Cs) (e : LE) (xtg xe : Expr) : Bool := match xtg with
  | .Name x px => nSD xe && (!swC c xe x px || (isLcL e && isXLc xe && c.top))
  | _ => nTup xe
theorem la_asg {tg : Tg} {e : LE} {xtg xe : Expr} {p : Pos} (lk : Lk Xs M T W c) (h1 : chkLE T.fs e c xe = true) (h2 : chkTg c tg xtg = true) (h3 : c.sc.kind = .function)
    (h4 : asgOkL c e xtg xe = true) (r : LRel M b ρ h σ as G H) (q : SOkL M W b De (lexec T (.asg tg e) ⟨ρ, h⟩)) : WS Xs (.Assign [xtg] xe p) De σ H := by
  have kx := lk.kx
  unfold lexec at q
  have q1 := on_ok r q
  cases xtg with
  | Name x px =>
    cases tg with
    | tp is => unfold chkTg at h2; cases h2
    | nm i =>
      have h2 : tgC c i x = true := h2
      unfold tgC at h2
      simp only [Bool.and_eq_true, decide_eq_true_eq, Bool.or_eq_true] at h2
      obtain ⟨⟨k1, k2⟩, k3⟩ := h2
      have h4 : (nSD xe && (!swC c xe x px || (isLcL e && isXLc xe && c.top))) = true := h4
      simp only [Bool.and_eq_true, Bool.or_eq_true, Bool.not_eq_true'] at h4
      obtain ⟨h5, h6⟩ := h4
      cases hsw : swC c xe x px with
      | false =>
        refine ⟨tAsg (WP Xs xe) (gName i), fun X hX => ps_set (by rw [kx.N X hX]; exact kx.nd) (by rw [kx.N X hX]; exact k1) ?_ (pe_w hX) (by rw [sw_eq (kx.sc X hX) h3 h5, hsw]) ?_, ?_⟩
        · rw [kx.sc X hX]
          unfold locC at k2
          split at k2
          · rename_i e; exact .inl e
          · rename_i e; exact .inr e
          · cases k2
        · rcases k3 with k3 | k3
          · exact .inl (kx.cl X hX _ k3)
          · exact .inr (by rw [kx.sc X hX]; exact k3)
        · refine (sndA' e lk _ h1 r).use q1 fun y h' u as' G' H' z I s ru => ?_
          exact z as' _ G' H' ((r.later s I).setV i ru)
      | true =>
        rcases h6 with h6 | ⟨⟨h6, h7⟩, h8⟩
        · rw [hsw] at h6; cases h6
        · cases xe <;> first | (cases h7; done) | skip
          rename_i xel gens scope pos
          match gens, h7 with
          | [⟨xtg', it, xifs, asy⟩], _ =>
            have ha : asy = 0 := by
              cases e <;> first | (cases h6; done) | skip
              · unfold chkLE at h1
                split at h1
                · rename_i e1; cases e1; rfl
                · cases h1
              · unfold chkLE at h1
                split at h1
                · rename_i e1; cases e1; rfl
                · cases h1
            subst ha
            have hswe : ∀ X, Xs X → swapsWith (.ListComp xel [⟨xtg', it, xifs, 0⟩] scope pos) (some (.Name x px)) p.line X.env = pure true := fun X hX => by rw [sw_eq (kx.sc X hX) h3 h5, hsw]
            have hloc : c.sc.names.lookup x = some .local := by
              unfold swC at hsw
              simp only [Bool.and_eq_true, decide_eq_true_eq] at hsw
              exact hsw.1.1
            have key : ∀ (own : List Nat), c.hot = false → blkC c.N c.sc scope (own.map fun i => (c.N.getD i "", i)) = true → nset it = true →
                (∀ Q, LOk M b (WK W σ) as G (LVv M b as G Q) (evA T ρ e h) → tLc (WI Xs xtg' it) (WG (Bk Xs scope) xtg') (WTs (Bk Xs scope) xifs) (WP (Bk Xs scope) xel) own σ H Q) → WS Xs (.Assign [.Name x px] (.ListComp xel [⟨xtg', it, xifs, 0⟩] scope pos) p) De σ H := fun own c1 c2 c4 hl => by
              have own' : (own.map fun i => (c.N.getD i "", i)).map (·.2) = own := by rw [List.map_map]; exact List.map_id' own
              refine ⟨_, fun X hX => ps_setLc (i := i) (kx.calm c1 X hX) (by rw [kx.N X hX]; exact kx.nd) (by rw [kx.N X hX]; exact k1) (by rw [kx.sc X hX]; exact hloc) (hswe X hX) (pi_w hX) (own := own.map fun i => (c.N.getD i "", i)) (by rw [kx.N X hX, kx.sc X hX]; exact blkOk_by c2)
                (fun s H C cl fp => pg_w (Xs := Bk Xs scope) ⟨X, s, H, C, cl, fp, hX, rfl⟩) (fun s H C cl fp => pts_w (Xs := Bk Xs scope) ⟨X, s, H, C, cl, fp, hX, rfl⟩) (fun s H C cl fp => pe_w (Xs := Bk Xs scope) ⟨X, s, H, C, cl, fp, hX, rfl⟩) (foldedId c4 _), ?_⟩
              rw [own']
              show tLc (WI Xs xtg' it) (WG (Bk Xs scope) xtg') (WTs (Bk Xs scope) xifs) (WP (Bk Xs scope) xel) own σ H fun x H1 => gName i x σ H1 De.nx
              refine hl _ (q1.imp fun y h' z => ?_)
              intro u as' G' H' I s ru
              exact z as' _ G' H' ((r.later s I).setV i ru)
            cases e <;> first | (cases h6; done) | skip
            · rename_i own tg' k asE us ifs el
              unfold chkLE at h1
              simp only [Bool.and_eq_true, decide_eq_true_eq, Bool.not_eq_true'] at h1
              obtain ⟨⟨⟨⟨⟨⟨⟨⟨⟨c1, c2⟩, c3⟩, c4⟩, c5⟩, c6⟩, c7⟩, c8⟩, c9⟩, c10⟩ := h1
              exact key own c1 c2 c4 fun Q q => l_lc lk c1 c3 c5 c6 c7 c8 c9 r (fun r => sndA' el (lk.bk c1 scope) _ c10 r) Q q
            · rename_i own tg' o ifs el
              unfold chkLE at h1
              simp only [Bool.and_eq_true, decide_eq_true_eq, Bool.not_eq_true'] at h1
              obtain ⟨⟨⟨⟨⟨⟨⟨⟨⟨c1, c2⟩, c3⟩, c4⟩, c5⟩, c6⟩, c7⟩, c8⟩, c9⟩, c10⟩ := h1
              exact key own c1 c2 c4 fun Q q => l_lcV lk c1 c5 c6 c7 c8 c9 r (sndA' o lk _ c3 r) (fun r => sndA' el (lk.bk c1 scope) _ c10 r) Q q
  | Tuple es k pq =>
    refine ⟨_, fun X hX => ps_asg (pe_w hX) (pg_w hX) swTup (stTup h4) rfl, ?_⟩
    refine (sndA' e lk _ h1 r).use q1 fun y h' u as' G' H' z I s ru => ?_
    cases eb : bindL tg y ρ h' with
    | none => rw [eb] at z; exact z.elim
    | some ρ1 =>
      rw [eb] at z
      exact l_tg kx h2 (r.later s I) ru eb fun σ2 r2 _ => z as' σ2 G' H' r2
  | _ => cases tg <;> (unfold chkTg at h2; cases h2)
theorem la_par {i j : Nat} {a e : LE} {x y : Str} {px py pt pt2 p : Pos} {kt k2 : Nat} {xa xb : Expr} (lk : Lk Xs M T W c) (h0 : c.hot = false) (h1 : c.N[i]? = some x) (h2 : c.N[j]? = some y) (hij : i ≠ j) (h3 : c.sc.names.lookup x = some .local) (h4 : c.sc.names.lookup y = some .local)
    (h5 : chkLE T.fs a c xa = true) (h6 : chkLE T.fs e c xb = true) (h7 : nst xa = true) (h8 : nst xb = true) (h9 : c.sc.kind = .function) (h10 : px.line = py.line) (h11 : (x == y) = false) (h12 : [xa, xb].all (foldedForSure 8) = false) (h13 : [xa, xb].all (constantsAlone 8) = false)
    (r : LRel M b ρ h σ as G H) (q : SOkL M W b De (lexec T (.par i j a e) ⟨ρ, h⟩)) : WS Xs (.Assign [.Tuple [.Name x px, .Name y py] kt pt] (.Tuple [xa, xb] k2 pt2) p) De σ H := by
  have kx := lk.kx
  unfold lexec at q
  refine ⟨tPar i j (WA Xs [xa, xb]), fun X hX => ps_par (kx.calm h0 X hX) (by rw [kx.N X hX]; exact kx.nd) (by rw [kx.N X hX]; exact h1) (by rw [kx.N X hX]; exact h2) hij (by rw [kx.sc X hX]; exact h3) (by rw [kx.sc X hX]; exact h4) (pa_w hX) (swPar (kx.sc X hX) h9 h3 h4 h7 h8 h10 h11 h12 h13) swTup, ?_⟩
  have hl : chkLL T.fs [a, e] c [xa, xb] = true := by simp [chkLL, h5, h6]
  have hn : [xa, xb].all nst = true := by simp [h7, h8]
  refine (sndAs' [a, e] lk _ hl hn r).use (on_ok r q) fun xs h' us as' G' H' z I s rs => ?_
  match xs, us, rs, z with
  | [x1, x2], _, ⟨u, _, e1, r1, v, _, e2, r2, e3⟩, z =>
    subst e1 e2 e3
    exact ⟨u, v, rfl, z as' _ G' H' (((r.later s I).setV i r1).setV j r2)⟩
  | [], _, _, z => exact z.elim
  | [_], _, _, z => exact z.elim
  | _ :: _ :: _ :: _, _, _, z => exact z.elim
theorem la_aug {i : Nat} {op : Operator} {e : E} {us : List Nat} {x : Str} {px p : Pos} {xe : Expr} (kx : Kx Xs M T.t W c) (hop : op = .Add ∨ op = .Sub) (h1 : tgC c i x = true) (h2 : chkE e c xe = true) (r : LRel M b ρ h σ as G H) (q : SOkL M W b De (lexec T (.aug i op e us) ⟨ρ, h⟩)) :
    WS Xs (.AugAssign (.Name x px) op xe p) De σ H := by
  unfold lexec at q
  unfold tgC at h1
  simp only [Bool.and_eq_true, decide_eq_true_eq, Bool.or_eq_true] at h1
  obtain ⟨⟨k1, k2⟩, k3⟩ := h1
  have hloc : L2.Loc c.sc x := by
    unfold locC at k2
    split at k2
    · rename_i e; exact .inl e
    · rename_i e; exact .inr e
    · cases k2
  have hfn : ∀ X, Xs X → X.fn x = true ∨ X.env.scope.names.lookup x = some .local := fun X hX => by
    rcases k3 with k3 | k3
    · exact .inl (kx.cl X hX _ k3)
    · exact .inr (by rw [kx.sc X hX]; exact k3)
  simp only at q
  split at q
  · rename_i a ex
    obtain ⟨v, ev, rv⟩ := r.v i _ ex
    obtain rfl := RL.int rv
    have q1 := on_ok r q
    rcases hop with rfl | rfl
    · refine ⟨_, fun X hX => ps_aug (by rw [kx.N X hX]; exact kx.nd) (by rw [kx.N X hX]; exact k1) (by rw [kx.sc X hX]; exact hloc) (pe_w hX) ip_add (hfn X hX), _, ev, ?_⟩
      refine (l_evP kx h2 r).use q1 fun y h' u as' G' H' z I s ru => ?_
      split at z
      · rename_i b' _
        obtain rfl := RL.int ru
        exact ⟨a, b', rfl, rfl, z as' _ G' H' ((r.later s I).setV i (show RL M G' as' (.d (.int (a + b'))) _ from Rep.int (M := M) (G := G')))⟩
      · rename_i e1; cases e1
      · exact z.elim
    · refine ⟨_, fun X hX => ps_aug (by rw [kx.N X hX]; exact kx.nd) (by rw [kx.N X hX]; exact k1) (by rw [kx.sc X hX]; exact hloc) (pe_w hX) ip_sub (hfn X hX), _, ev, ?_⟩
      refine (l_evP kx h2 r).use q1 fun y h' u as' G' H' z I s ru => ?_
      split at z
      · rename_i e1; cases e1
      · rename_i b' _
        obtain rfl := RL.int ru
        exact ⟨a, b', rfl, rfl, z as' _ G' H' ((r.later s I).setV i (show RL M G' as' (.d (.int (a - b'))) _ from Rep.int (M := M) (G := G')))⟩
      · exact z.elim
  · exact q.elim
theorem la_app {o e : LE} {xo xe : Expr} {ap cp p : Pos} (lk : Lk Xs M T W c) (h1 : chkLE T.fs o c xo = true) (h2 : chkLE T.fs e c xe = true) (h3 : nst xe = true) (h4 : ap.endLine = cp.line) (h5 : nsup xo = true) (r : LRel M b ρ h σ as G H) (q : SOkL M W b De (lexec T (.app o e) ⟨ρ, h⟩)) :
    WS Xs (.Expr (.Call (.Attribute xo "append" ap) [xe] [] cp) p) De σ H := by
  have kx := lk.kx
  unfold lexec at q
  refine ⟨tDrop (tBM M.K "list" rAppend (WP Xs xo) (tCons (WP Xs xe) tNil)), fun X hX => ps_expr ?_, ?_⟩
  · rw [← kx.K X hX]
    exact pe_bm PySem.F.plainAttrs_list PySem.F.slot_list_append PySem.F.type_list_append mt_append (pe_w hX) (pa_cons (pe_w hX) pa_nil (starE h3 _ _)) (supId h5 _ _ _) (by rw [starE h3]; rfl) (by rw [h4]; exact beq_self_eq_true _) (starE h3 _ _) (by rfl)
  · refine (sndA' o lk _ h1 r).use (on_ok r q) fun x h' u as1 G1 H1 z I1 s1 r1 => ?_
    split at z
    · rename_i k
      obtain ⟨a, ea, rfl⟩ := r1
      have r' := r.later s1 I1
      split at z
      · rename_i vs0 eo0
        obtain ⟨us0, b0, _⟩ := I1.ob _ _ _ ea eo0
        have z1 := on_ok r' z
        refine ⟨.inl ⟨rfl, _, .inl (.inl b0)⟩, ?_⟩
        refine (sndA' e lk _ h2 r').use z1 fun y h2' w as2 G2 H2 z2 I2 s2 r2 => ?_
        split at z2
        · rename_i vs eo
          obtain ⟨us, b1, b2⟩ := I2.ob _ _ _ (pre_get s2.pre ea) eo
          by_cases hl : vs.length < sizeLine
          · rw [if_pos hl] at z2
            exact ⟨a, us, w, rfl, rfl, b1, by rw [b2.length]; exact hl, z2 as2 σ G2 _ ((r'.later s2 I2).later (LSp.refl _ _) (I2.chg (o' := .lst (vs ++ [y])) (pre_get s2.pre ea) eo ⟨us ++ [w], upd_same, b2.snoc r2⟩))⟩
          · rw [if_neg hl] at z2; exact z2.elim
        · exact z2.elim
      · exact z.elim
    · exact z.elim
end
end PX

set_option Elab.async false
set_option linter.all false
set_option maxRecDepth 100000
set_option maxHeartbeats 1000000
/-! Lx5: statements over live things: stores, loops. -/
namespace PX
open PySem PySem.Spec PyProof.Rows L2
section
variable {Xs : Cx → Prop} {M : Md} {T : LTb} {W : WX} {c : Cs} {b : Bs} {as as' : List Addr} {h : LHp} {G G' H H' : Hp} {ρ : LRho} {σ : L2.St} {De : Ends}
theorem asgSubE {xo xi : Expr} {p' : Pos} (h : nslice xi = true) (env : Env) (v : Value) : assign (xo.Subscript xi p') env v = (do
    let ov ← holding [v] (eval xo env)
    let iv ← holding [v, ov] (eval xi env)
    standAt p'
    holding [v, ov, iv] (setItem ov iv v)
    release [v, ov, iv] []) := by
  cases xi <;> first | rfl | cases h
theorem la_stix {o e : LE} {ix : E} {us : List Nat} {xo xi xe : Expr} {p' p : Pos} (lk : Lk Xs M T W c) (h1 : chkLE T.fs o c xo = true) (h2 : chkE ix c xi = true) (h3 : chkLE T.fs e c xe = true) (h4 : nslice xi = true) (r : LRel M b ρ h σ as G H) (q : SOkL M W b De (lexec T (.stix o ix us e) ⟨ρ, h⟩)) :
    WS Xs (.Assign [.Subscript xo xi p'] xe p) De σ H := by
  have kx := lk.kx
  unfold lexec at q
  refine ⟨tAsg (WP Xs xe) (gSub (WP Xs xo) (WP Xs xi) rSetL), fun X hX => ps_asg (pe_w hX) (pg_sub (pe_w hX) (pe_w hX) set_list (fun v => asgSubE h4 _ v)) swSub stSub rfl, ?_⟩
  refine (sndA' e lk _ h3 r).use (on_ok r q) fun y h' v as1 G1 H1 z I1 s1 rv => ?_
  have r1 := r.later s1 I1
  refine (sndA' o lk _ h1 r1).use (on_ok r1 z) fun x h2' u as2 G2 H2 z2 I2 s2 ru => ?_
  split at z2
  · rename_i k
    have r2 := r1.later s2 I2
    refine (l_evP kx h2 r2).use (on_ok r2 z2) fun n h3' w as3 G3 H3 z3 I3 s3 rw3 => ?_
    split at z3
    · rename_i vs m eo
      obtain ⟨a, ea, rfl⟩ := ru.mono s3
      obtain rfl := RL.int rw3
      obtain ⟨us, b1, b2⟩ := I3.ob _ _ _ ea eo
      cases ej : ixN vs.length m with
      | none => rw [ej] at z3; exact z3.elim
      | some j =>
        rw [ej] at z3
        exact ⟨a, us, m, j, rfl, rfl, b1, by rw [b2.length]; exact ej, z3 as3 σ G3 _ ((r2.later s3 I3).later (LSp.refl _ _) (I3.chg (o' := .lst (vs.set j y)) ea eo ⟨us.set j v, upd_same, b2.set j (rv.mono (s2.trans s3))⟩))⟩
    · exact z3.elim
  · exact z2.elim
theorem swFld {xe o : Expr} {f : Str} {p : Pos} {l : Nat} {env : Env} : swapsWith xe (some (.Attribute o f p)) l env = pure false := by
  cases xe <;> rfl
theorem la_stf {o e : LE} {f : Str} {xo xe : Expr} {p' p : Pos} (lk : Lk Xs M T W c) (h1 : chkLE T.fs o c xo = true) (h3 : chkLE T.fs e c xe = true) (h4 : f ∈ c.flds) (r : LRel M b ρ h σ as G H) (q : SOkL M W b De (lexec T (.stf o f e) ⟨ρ, h⟩)) :
    WS Xs (.Assign [.Attribute xo f p'] xe p) De σ H := by
  have kx := lk.kx
  unfold lexec at q
  refine ⟨sFld M.K (WP Xs xo) (WP Xs xe) f, fun X hX => by rw [← kx.K X hX]; exact ps_fld (pe_w hX) (pe_w hX) swFld, ?_⟩
  refine (sndA' e lk _ h3 r).use (on_ok r q) fun y h' v as1 G1 H1 z I1 s1 rv => ?_
  have r1 := r.later s1 I1
  refine (sndA' o lk _ h1 r1).use (on_ok r1 z) fun x h2' u as2 G2 H2 z2 I2 s2 ru => ?_
  split at z2
  · rename_i k
    split at z2
    · rename_i cl fs eo
      by_cases hl : fs.length < 1000 ∧ T.t.oc cl = true
      · rw [if_pos hl] at z2
        obtain ⟨a, ea, rfl⟩ := ru
        obtain ⟨C, dx, ws, k', b1, b2, b3, b4, b5⟩ := I2.ob _ _ _ ea eo
        obtain ⟨hC, hN⟩ := kx.obj cl C f hl.2 k' h4
        have nd : dx ≠ a := by
          intro z
          subst z
          rw [b1] at b2; cases b2
        exact ⟨a, C, dx, ws, rfl, b1, hC, hN, by rw [b5.length]; exact hl.1, z2 as2 σ G2 _ ((r1.later s2 I2).later (LSp.refl _ _) (I2.chg (o' := .obj cl (putLF f y fs)) ea eo ⟨C, dx, _, k', upd_same, by rw [upd_ne nd]; exact b2, b3, b4, b5.put (rv.mono s2)⟩))⟩
      · rw [if_neg hl] at z2; exact z2.elim
    · exact z2.elim
  · exact z2.elim
theorem la_augf {o : LE} {f : Str} {op : Operator} {e : E} {us : List Nat} {xo xe : Expr} {p' p : Pos} (lk : Lk Xs M T W c) (h0 : op = .Add) (h1 : chkLE T.fs o c xo = true) (h3 : chkE e c xe = true) (h4 : f ∈ c.flds) (r : LRel M b ρ h σ as G H) (q : SOkL M W b De (lexec T (.augf o f op e us) ⟨ρ, h⟩)) :
    WS Xs (.AugAssign (.Attribute xo f p') op xe p) De σ H := by
  have kx := lk.kx
  subst h0
  unfold lexec at q
  refine ⟨sFldAug M.K (WP Xs xo) (WP Xs xe) rAdd f, fun X hX => by rw [← kx.K X hX]; exact ps_fldaug (pe_w hX) (pe_w hX) in_add, ?_⟩
  refine (sndA' o lk _ h1 r).use (on_ok r q) fun x h' u as1 G1 H1 z I1 s1 ru => ?_
  split at z
  · rename_i k
    split at z
    · rename_i cl fs eo
      split at z
      · rename_i n en hoc1
        obtain ⟨a, ea, rfl⟩ := ru
        obtain ⟨C, dx, ws, k', b1, b2, b3, b4, b5⟩ := I1.ob _ _ _ ea eo
        obtain ⟨v, e1, e2⟩ := b5.look en
        obtain rfl := RL.int e2
        have r1 := r.later s1 I1
        obtain ⟨hC, hN⟩ := kx.obj cl C f hoc1 k' h4
        refine ⟨a, C, dx, ws, _, rfl, b1, hC, hN, e1, ?_⟩
        refine (l_evP kx h3 r1).use (on_ok r1 z) fun y h2' w as2 G2 H2 z2 I2 s2 rw2 => ?_
        split at z2
        · rename_i m c1 fs1 _ eo2
          by_cases hl : fs1.length < 1000 ∧ c1 = cl
          · rw [if_pos hl] at z2
            obtain ⟨hl, rfl⟩ := hl
            obtain rfl := RL.int rw2
            have ea2 := pre_get s2.pre ea
            obtain ⟨C2, dx2, ws2, k2, d1, d2, d3, d4, d5⟩ := I2.ob _ _ _ ea2 eo2
            have eC : C2 = C := by
              have : M.mg c1 = some (.ref C2) := k2
              have q' : M.mg c1 = some (.ref C) := k'
              rw [q'] at this; cases this; rfl
            subst eC
            have nd : dx2 ≠ a := by
              intro z
              subst z
              rw [d1] at d2; cases d2
            exact ⟨n, m, rfl, rfl, dx2, ws2, d1, by rw [d5.length]; exact hl, z2 as2 σ G2 _ ((r1.later s2 I2).later (LSp.refl _ _) (I2.chg (o' := .obj c1 (putLF f (.d (.int (n + m))) fs1)) ea2 eo2 ⟨C2, dx2, _, k2, upd_same, by rw [upd_ne nd]; exact d2, d3, d4, d5.put (show RL M G2 as2 (.d (.int (n + m))) _ from Rep.int (M := M) (G := G2))⟩))⟩
          · rw [if_neg hl] at z2; exact z2.elim
        · exact z2.elim
      · exact z.elim
    · exact z.elim
  · exact z.elim

theorem la_expr {e : LE} {p : Pos} {xe : Expr} (lk : Lk Xs M T W c) (h2 : chkLE T.fs e c xe = true) (h3 : isComp xe = false) (r : LRel M b ρ h σ as G H) (q : SOkL M W b De (lexec T (.expr e) ⟨ρ, h⟩)) : WS Xs (.Expr xe p) De σ H := by
  unfold lexec at q
  refine ⟨tDrop (WP Xs xe), fun X hX => ps_expr (pe_w hX) ?_, ?_⟩
  · cases xe <;> first | rfl | cases h3
  · exact (sndA' e lk _ h2 r).use (on_ok r q) fun y h' u as' G' H' z I s ru => z as' σ G' H' (r.later s I)
theorem la_ret {e : LE} {p : Pos} {xe : Expr} (lk : Lk Xs M T W c) (h2 : chkLE T.fs e c xe = true) (r : LRel M b ρ h σ as G H) (q : SOkL M W b De (lexec T (.ret e) ⟨ρ, h⟩)) : WS Xs (.Return (some xe) p) De σ H := by
  unfold lexec at q
  refine ⟨tRet (WP Xs xe), fun X hX => ps_ret (pe_w hX), ?_⟩
  exact (sndA' e lk _ h2 r).use (on_ok r q) fun y h' u as' G' H' z I s ru => z u as' G' H' I ru
theorem la_raise0 {C : Str} {us : List Nat} {m : Str} {k : Nat} {p1 p2 p3 p4 : Pos} (kx : Kx Xs M T.t W c) (h0 : c.hot = false) (hg : gloC c C = true) (hC : C ∈ c.ex0) (r : LRel M b ρ h σ as G H) (q : SOkL M W b De (lexec T (.rais C [] [] us) ⟨ρ, h⟩)) :
    WS Xs (.Raise (some (.Call (.Name C p1) [.Constant (.str m) k p2] [] p3)) none p4) De σ H := by
  have q : SOkL M W b De (.ex C [] ⟨ρ, h⟩) := by
    unfold lexec evPL at q
    simpa [evL, D.lfs] using q
  obtain ⟨D, hD, hp⟩ := kx.ex0 C hC
  exact ⟨_, fun X hX => ps_raise (kx.calm h0 X hX) (kx.tk X hX) (hp X (kx.K X hX) (kx.mg X hX) (kx.gl hg X hX) (nodb_dbg (glo_nodb hg)) _ _ _ _ _), q _ _ as σ G H r ⟨D, hD, rfl, .inl ⟨rfl, rfl⟩⟩⟩
theorem la_raise1 {C : Str} {es : List E} {fs : List Str} {us : List Nat} {x : Expr} {xs : List Expr} {p1 p3 p4 : Pos} (kx : Kx Xs M T.t W c) (h0 : c.hot = false) (hg : gloC c C = true) (hC : (C, fs) ∈ c.ex1) (h2 : chkL es c (x :: xs) = true) (h3 : (x :: xs).all nst = true) (h4 : (x :: xs).length = fs.length)
    (r : LRel M b ρ h σ as G H) (q : SOkL M W b De (lexec T (.rais C es fs us) ⟨ρ, h⟩)) : WS Xs (.Raise (some (.Call (.Name C p1) (x :: xs) [] p3)) none p4) De σ H := by
  unfold lexec at q
  obtain ⟨D, hD, hp⟩ := kx.ex1 C fs hC
  refine ⟨_, fun X hX => ps_raise (kx.calm h0 X hX) (kx.tk X hX) (hp X (kx.K X hX) (kx.mg X hX) (kx.P X hX) (kx.w X hX) (kx.base X hX) ⟨X, hX, rfl⟩ (kx.gl hg X hX) (nodb_dbg (glo_nodb hg)) _ _ _ _ _ h3 h4 (pa_w hX)), ?_⟩
  refine l_evPL kx h2 h3 r ((on_ok r q).imp fun ds h' z vs as' G' H' I s rs => ?_)
  by_cases hl : fs.length = ds.length
  · rw [if_pos hl] at z
    refine ⟨by rw [rs.length, hl], fun d hd => ?_⟩
    have x' := Ext.both I.ext.i (.xd (fs.zip vs)) hd
    exact z _ _ as' σ _ _ (r.later (s.trans ⟨List.prefix_refl _, x'.g⟩) (I.frame x')) ⟨D, hD, rfl, .inr ⟨d, _, rfl, upd_same, RepF.zip (Reps.mono x'.g _ _ rs)⟩⟩
  · rw [if_neg hl] at z; exact z.elim

/-! ### loops -/
theorem la_forD (kx : Kx Xs M T.t W c) {tg : Tg} {xtg : Expr} {xb : List Stmt} {f : LSt → LRS} (hk : chkTg c tg xtg = true) (hb : ∀ b, SSL Xs M W b xb f) {J : It} {items : List D} (r0 : LRel M b ρ h σ as G H) (wk : Wk M G J items)
    (q : SOkL M W b De (lforD tg f items ⟨ρ, h⟩)) : ∃ W' : Nat → Nat → L2.St → Hp → Prop, (∃ m, W' 0 m σ H) ∧ ∀ i m σ H, W' i m σ H → (J.stop i H ∧ De.nx σ H) ∨
      (J.go i H ∧ ∃ N : L2.St → Hp → Prop, (∀ σ' H', N σ' H' → ∃ m', m' < m ∧ W' (i + 1) m' σ' H') ∧ ∀ x H', J.yld i H x H' → WG Xs xtg x σ H' fun σ2 H2 => WSs Xs xb { De with nx := N, ct := N, bk := De.nx } σ2 H2) := by
  have r1 := r0.mv
  have q1 := q.mv r0.inv
  refine ⟨fun i m σ H => m = items.length - i ∧ i ≤ items.length ∧ ∃ ρ h as2 G2, LRel M (b.mv G as) ρ h σ as2 G2 H ∧ SOkL M W (b.mv G as) De (lforD tg f (items.drop i) ⟨ρ, h⟩), ⟨_, rfl, Nat.zero_le _, ρ, h, as, G, r1, by simpa using q1⟩, ?_⟩
  rintro i m σ2 H2 ⟨rfl, hi, ρ2, h2, as2, G2, r2, q2⟩
  obtain ⟨w1, w2, w3⟩ := wk G2 H2 r2.inv.sp.g r2.inv.ext.i
  by_cases hlt : i < items.length
  · refine .inr ⟨w1 i hlt, fun σ' H' => i + 1 ≤ items.length ∧ ∃ ρ h as2 G2, LRel M (b.mv G as) ρ h σ' as2 G2 H' ∧ SOkL M W (b.mv G as) De (lforD tg f (items.drop (i + 1)) ⟨ρ, h⟩), fun σ' H' q => ⟨items.length - (i + 1), by omega, rfl, q.1, q.2⟩, fun x H3 hy => ?_⟩
    have ed : items[i]? = some items[i] := by simp [hlt]
    obtain ⟨G3, x3, rx⟩ := w3 i _ ed x H3 hy
    rw [List.drop_eq_getElem_cons hlt] at q2
    unfold lforD at q2
    cases e2 : bindL tg (.d items[i]) ρ2 h2 with
    | none => simp only [e2] at q2; exact q2.elim
    | some ρ3 =>
      simp only [e2] at q2
      have r3 := r2.later ⟨List.prefix_refl _, x3.g⟩ (r2.inv.frame x3)
      refine l_tg kx hk r3 (show RL M G3 as2 (.d items[i]) x from rx) e2 fun σ3 r4 _ => ?_
      refine hb _ r4 ?_
      match e4 : f ⟨ρ3, h2⟩, q2 with
      | .ok (.nx s), q2 => exact fun as' σ' G' H' r => ⟨hlt, s.ρ, s.h, as', G', r, q2⟩
      | .ok (.ct s), q2 => exact fun as' σ' G' H' r => ⟨hlt, s.ρ, s.h, as', G', r, q2⟩
      | .ok (.bk s), q2 => exact q2
      | .ok (.rt x h), q2 => exact q2
      | .ex c fs s, q2 => exact q2
      | .st, q2 => exact q2
  · have e : i = items.length := by omega
    subst e
    rw [List.drop_length] at q2
    exact .inl ⟨w2, q2 as2 σ2 G2 H2 r2⟩
/-- over a live list -/
theorem la_forL (kx : Kx Xs M T.t W c) {tg : Tg} {xtg : Expr} {xb : List Stmt} {f : LSt → LRS} (hk : chkTg c tg xtg = true) (hb : ∀ b, SSL Xs M W b xb f) {k n : Nat} {a : Addr} (r0 : LRel M b ρ h σ as G H) (ea : as[k]? = some a)
    (q : SOkL M W b De (lforL tg f k n 0 ⟨ρ, h⟩)) : ∃ W' : Nat → Nat → L2.St → Hp → Prop, (∃ m, W' 0 m σ H) ∧ ∀ i m σ H, W' i m σ H → ((Itl M.K a).stop i H ∧ De.nx σ H) ∨
      ((Itl M.K a).go i H ∧ ∃ N : L2.St → Hp → Prop, (∀ σ' H', N σ' H' → ∃ m', m' < m ∧ W' (i + 1) m' σ' H') ∧ ∀ x H', (Itl M.K a).yld i H x H' → WG Xs xtg x σ H' fun σ2 H2 => WSs Xs xb { De with nx := N, ct := N, bk := De.nx } σ2 H2) := by
  have r1 := r0.mv
  have q1 := q.mv r0.inv
  refine ⟨fun i m σ H => ∃ ρ h as2 G2, LRel M (b.mv G as) ρ h σ as2 G2 H ∧ SOkL M W (b.mv G as) De (lforL tg f k m i ⟨ρ, h⟩), ⟨n, ρ, h, as, G, r1, q1⟩, ?_⟩
  rintro i m σ2 H2 ⟨ρ2, h2, as2, G2, r2, q2⟩
  have ea2 : as2[k]? = some a := pre_get r2.inv.sp.pre ea
  unfold lforL at q2
  simp only at q2
  split at q2
  · rename_i vs eo
    obtain ⟨us, b1, b2⟩ := r2.inv.ob _ _ _ ea2 eo
    have hS : SqL M.K H2 a us := .inl (.inl b1)
    split at q2
    · rename_i ev
      have hn := b2.none_of ev
      exact .inl ⟨⟨us, hS, List.getElem?_eq_none_iff.mp hn⟩, q2 as2 σ2 G2 H2 r2⟩
    · rename_i x ev
      obtain ⟨u, e1, e2⟩ := b2.get ev
      split at q2
      · exact q2.elim
      · rename_i m'
        refine .inr ⟨⟨us, u, hS, e1⟩, fun σ' H' => ∃ ρ h as2 G2, LRel M (b.mv G as) ρ h σ' as2 G2 H' ∧ SOkL M W (b.mv G as) De (lforL tg f k m' (i + 1) ⟨ρ, h⟩), fun σ' H' q => ⟨m', Nat.lt_succ_self _, q⟩, fun y H3 hy => ?_⟩
        obtain ⟨rfl, hy⟩ := hy
        have ey := hy us hS
        rw [e1] at ey
        cases ey
        split at q2
        · rename_i ρ3 e3
          refine l_tg kx hk r2 e2 e3 fun σ3 r4 _ => ?_
          refine hb _ r4 ?_
          match e4 : f ⟨ρ3, h2⟩, q2 with
          | .ok (.nx s), q2 => exact fun as' σ' G' H' r => ⟨s.ρ, s.h, as', G', r, q2⟩
          | .ok (.ct s), q2 => exact fun as' σ' G' H' r => ⟨s.ρ, s.h, as', G', r, q2⟩
          | .ok (.bk s), q2 => exact q2
          | .ok (.rt x h), q2 => exact q2
          | .ex c fs s, q2 => exact q2
          | .st, q2 => exact q2
        · exact q2.elim
  · exact q2.elim
theorem la_while {xt : Expr} {xb : List Stmt} {us : List Nat} {t : E} {f : LSt → LRS} (kx : Kx Xs M T.t W c) (h1 : chkE t c xt = true) (h2 : tstOk xt = true) (hb : ∀ b, SSL Xs M W b xb f) (n : Nat) (r0 : LRel M b ρ h σ as G H)
    (q : SOkL M W b De (lwhile (fun s => evPB T s.ρ s.h us t) f n ⟨ρ, h⟩)) : tWhile (WT Xs xt) (WSs Xs xb) De σ H := by
  refine ⟨fun m σ H => ∃ ρ h as G, LRel M b ρ h σ as G H ∧ SOkL M W b De (lwhile (fun s => evPB T s.ρ s.h us t) f m ⟨ρ, h⟩), ⟨n, ρ, h, as, G, r0, q⟩, ?_⟩
  rintro m σ2 H2 ⟨ρ2, h2', as2, G2, r2, q2⟩
  cases m with
  | zero => exact q2.elim
  | succ m =>
    unfold lwhile at q2
    refine l_evPB kx h1 h2 r2 ((on_ok r2 q2).imp fun k h3 z as3 G3 H3 I s => ?_)
    have r3 := r2.later s I
    cases k with
    | false => exact z as3 σ2 G3 H3 r3
    | true =>
      simp only [if_true] at z ⊢
      refine ⟨fun σ H => ∃ ρ h as G, LRel M b ρ h σ as G H ∧ SOkL M W b De (lwhile (fun s => evPB T s.ρ s.h us t) f m ⟨ρ, h⟩), fun σ' H' q => ⟨m, Nat.lt_succ_self _, q⟩, ?_⟩
      refine hb _ r3 ?_
      match e4 : f ⟨ρ2, h3⟩, z with
      | .ok (.nx s), z => exact fun as' σ' G' H' r => ⟨s.ρ, s.h, as', G', r, z⟩
      | .ok (.ct s), z => exact fun as' σ' G' H' r => ⟨s.ρ, s.h, as', G', r, z⟩
      | .ok (.bk s), z => exact z
      | .ok (.rt x h), z => exact z
      | .ex c fs s, z => exact z
      | .st, z => exact z
end
end PX

set_option Elab.async false
set_option linter.all false
set_option maxRecDepth 100000
set_option maxHeartbeats 4000000
/-! Lx6: the check of statements over live things; a checked block does what lexecs says. -/
namespace PX
open PySem PySem.Spec PyProof.Rows L2

mutual
def chkQ (fl : List Str) : LQ → Cs → Stmt → Bool
  | .asg tg e, c, st => match st with
    | .Assign [xtg] xe p => chkLE fl e c xe && chkTg c tg xtg && decide (c.sc.kind = .function) && asgOkL c e xtg xe
    | _ => false
  | .par i j a b, c, st => match st with
    | .Assign [.Tuple [.Name x px, .Name y py] _ _] (.Tuple [xa, xb] _ _) _ => !c.hot && decide (c.N[i]? = some x) && decide (c.N[j]? = some y) && decide (i ≠ j) && decide (c.sc.names.lookup x = some .local) && decide (c.sc.names.lookup y = some .local) &&
      chkLE fl a c xa && chkLE fl b c xb && nst xa && nst xb && decide (c.sc.kind = .function) && decide (px.line = py.line) && !(x == y) && !([xa, xb].all (foldedForSure 8)) && !([xa, xb].all (constantsAlone 8))
    | _ => false
  | .aug i op e us, c, st => match st with
    | .AugAssign (.Name x _) op' xe _ => decide (op' = op) && (decide (op = .Add) || decide (op = .Sub)) && tgC c i x && chkE e c xe
    | _ => false
  | .app o e, c, st => match st with
    | .Expr (.Call (.Attribute xo nm ap) [xe] [] cp) _ => decide (nm = ("append" : Str)) && chkLE fl o c xo && chkLE fl e c xe && nst xe && decide (ap.endLine = cp.line) && nsup xo
    | _ => false
  | .stix o ix us e, c, st => match st with
    | .Assign [.Subscript xo xi _] xe _ => chkLE fl o c xo && chkE ix c xi && chkLE fl e c xe && nslice xi
    | _ => false
  | .stf o f e, c, st => match st with
    | .Assign [.Attribute xo f' _] xe _ => decide (f' = f) && chkLE fl o c xo && chkLE fl e c xe && decide (f ∈ c.flds)
    | _ => false
  | .augf o f op e us, c, st => match st with
    | .AugAssign (.Attribute xo f' _) op' xe _ => decide (f' = f) && decide (op' = op) && decide (op = .Add) && chkLE fl o c xo && chkE e c xe && decide (f ∈ c.flds)
    | _ => false
  | .expr e, c, st => match st with
    | .Expr xe _ => chkLE fl e c xe && !isComp xe
    | _ => false
  | .iff t us a b, c, st => match st with
    | .If xt xa xb _ => chkE t c xt && tstOk xt && chkQs fl a c xa && chkQs fl b c xb
    | _ => false
  | .iffL t a b, c, st => match st with
    | .If xt xa xb _ => chkLB fl t c xt && chkQs fl a c xa && chkQs fl b c xb
    | _ => false
  | .whl t us b, c, st => match st with
    | .While xt xb [] _ => chkE t c xt && tstOk xt && chkQs fl b c xb
    | _ => false
  | .for tg k as us b, c, st => match st with
    | .For xtg it xb [] _ => !c.hot && chkI c (fun exs => chkL as c exs && exs.all nst) k it xtg && nset it && chkTg c tg xtg && chkQs fl b c xb
    | _ => false
  | .forL tg o b, c, st => match st with
    | .For xtg it xb [] _ => !c.hot && chkLE fl o c it && nset it && chkTg c tg xtg && chkQs fl b c xb
    | _ => false
  | .ret e, c, st => match st with
    | .Return (some xe) _ => chkLE fl e c xe
    | _ => false
  | .retN, _, st => match st with
    | .Return none _ => true
    | _ => false
  | .brk, _, st => match st with
    | .Break _ => true
    | _ => false
  | .cont, _, st => match st with
    | .Continue _ => true
    | _ => false
  | .pass, _, st => match st with
    | .Pass _ => true
    | _ => false
  | .rais C as fs us, c, st => match st with
    | .Raise (some (.Call (.Name C' _) (x :: xs) [] _)) none _ => !c.hot && decide (C' = C) && gloC c C &&
      ((as.isEmpty && fs.isEmpty && xs.isEmpty && (match x with | .Constant (.str _) _ _ => true | _ => false) && decide (C ∈ c.ex0)) ||
       (chkL as c (x :: xs) && (x :: xs).all nst && decide ((C, fs) ∈ c.ex1) && decide ((x :: xs).length = fs.length)))
    | _ => false
  | .tri b C nm h, c, st => match st with
    | .Try xb [.ExceptHandler (some (.Name C' _)) nm' (b0 :: suite) _] [] [] _ => !c.hot && c.top && decide (C' = C) && gloC c C && decide (C ∈ c.exl) &&
      (match nm, nm' with
      | some i, some x => decide (c.N[i]? = some x) && decide (c.sc.names.lookup x = some .local)
      | none, none => true
      | _, _ => false) && chkQs fl b c xb && chkQs fl h { c with hot := true, ex0 := [], ex1 := [] } (b0 :: suite)
    | _ => false
def chkQs (fl : List Str) : List LQ → Cs → List Stmt → Bool
  | [], _, xs => xs.isEmpty
  | s :: ss, c, xs => match xs with
    | x :: xs => chkQ fl s c x && chkQs fl ss c xs
    | [] => false
end

/-! ### the exception that is being handled does not matter -/
section
variable {M : Md} {b : Bs} {as : List Addr} {h : LHp} {G H : Hp} {ρ : LRho} {σ : L2.St}
theorem RL.wx {x} : ∀ {y : LV} {v : V}, RL M G as y v ↔ RL (M.wx x) G as y v
  | .d d, v => Rep.wx d v
  | .r i, v => Iff.rfl
theorem RLs.wx {x} : ∀ {y : List LV} {v : List V}, RLs M G as y v ↔ RLs (M.wx x) G as y v
  | [], v => Iff.rfl
  | y :: ys, v => ⟨fun ⟨u, r, e, h1, h2⟩ => ⟨u, r, e, RL.wx.1 h1, RLs.wx.1 h2⟩, fun ⟨u, r, e, h1, h2⟩ => ⟨u, r, e, RL.wx.2 h1, RLs.wx.2 h2⟩⟩
theorem RLF.wx {x} : ∀ {y : List (Str × LV)} {v : List (Str × V)}, RLF M G as y v ↔ RLF (M.wx x) G as y v
  | [], v => Iff.rfl
  | (k, y) :: ys, v => ⟨fun ⟨u, r, e, h1, h2⟩ => ⟨u, r, e, RL.wx.1 h1, RLF.wx.1 h2⟩, fun ⟨u, r, e, h1, h2⟩ => ⟨u, r, e, RL.wx.2 h1, RLF.wx.2 h2⟩⟩
theorem ObL.wx {x} {B : Hp} {a : Addr} : ∀ {o : LO}, ObL M B G H as a o ↔ ObL (M.wx x) B G H as a o
  | .lst vs => ⟨fun ⟨us, a, b⟩ => ⟨us, a, RLs.wx.1 b⟩, fun ⟨us, a, b⟩ => ⟨us, a, RLs.wx.2 b⟩⟩
  | .obj c fs => ⟨fun ⟨C, dx, ws, a, b, c, d, e, f⟩ => ⟨C, dx, ws, a, b, c, d, e, RLF.wx.1 f⟩, fun ⟨C, dx, ws, a, b, c, d, e, f⟩ => ⟨C, dx, ws, a, b, c, d, e, RLF.wx.2 f⟩⟩
theorem LInv.wx {x} (I : LInv M b as h G H) : LInv (M.wx x) b as h G H := ⟨I.ext, I.pre, I.len, I.nd, I.nB, fun i a o ea eo => ObL.wx.1 (I.ob i a o ea eo)⟩
theorem LInv.unwx {x} (I : LInv (M.wx x) b as h G H) : LInv M b as h G H := ⟨I.ext, I.pre, I.len, I.nd, I.nB, fun i a o ea eo => ObL.wx.2 (I.ob i a o ea eo)⟩
theorem LRel.wx {x} (r : LRel M b ρ h σ as G H) (n : ∀ (i : Nat) (c : Str) (fs : List (Str × D)), ρ[i]? ≠ some (.xc c fs)) : LRel (M.wx x) b ρ h σ as G H :=
  ⟨r.inv.wx, r.len, fun i y e => let ⟨u, a, b⟩ := r.v i y e; ⟨u, a, RL.wx.1 b⟩, fun i c fs e => absurd e (n i c fs)⟩
theorem LRel.unwx {x} (r : LRel (M.wx x) b ρ h σ as G H) (n : ∀ (i : Nat) (c : Str) (fs : List (Str × D)), ρ[i]? ≠ some (.xc c fs)) : LRel M b ρ h σ as G H :=
  ⟨r.inv.unwx, r.len, fun i y e => let ⟨u, a, b⟩ := r.v i y e; ⟨u, a, RL.wx.2 b⟩, fun i c fs e => absurd e (n i c fs)⟩
theorem clL_none (i : Nat) (cc : Str) (fs : List (Str × D)) : (clL ρ)[i]? ≠ some (.xc cc fs) := by
  unfold clL
  rw [List.getElem?_map]
  cases ρ[i]? with
  | none => exact fun z => nomatch z
  | some s => cases s <;> exact fun z => nomatch z
theorem clL_get {i : Nat} {x : LV} (h : (clL ρ)[i]? = some (.v x)) : ρ[i]? = some (.v x) := by
  unfold clL at h
  rw [List.getElem?_map] at h
  cases e : ρ[i]? with
  | none => rw [e] at h; cases h
  | some t => rw [e] at h; cases t <;> first | exact h | cases h
theorem LRel.cl (r : LRel M b ρ h σ as G H) : LRel M b (clL ρ) h σ as G H :=
  ⟨r.inv, by unfold clL; rw [List.length_map]; exact r.len, fun i x e => r.v i x (clL_get e), fun i c fs e => absurd e (clL_none i c fs)⟩
theorem LRel.noXc (r : LRel M b ρ h σ as G H) (hx : M.x = none) (i : Nat) (cc : Str) (fs : List (Str × D)) : ρ[i]? ≠ some (.xc cc fs) := fun e => by
  obtain ⟨v, _, a, C, d, m, _⟩ := r.xc i cc fs e
  rw [hx] at m; cases m
end
section
variable {Xs : Cx → Prop} {M : Md} {T : LTb} {W : WX} {c : Cs} {b : Bs} {as as' : List Addr} {h : LHp} {G G' H H' : Hp} {ρ : LRho} {σ : L2.St} {De : Ends}
theorem Lk.tr (lk : Lk Xs M T W c) (hh : c.hot = false) (W' : WX) : Lk (TrF Xs W') M T W' c where
  kx := lk.kx.tr hh W'
  fns := fun h f hf => let ⟨k, fa, fd, ps, F, hr, q⟩ := lk.fns h f hf; ⟨k, fa, fd, ps, F, fun Y ⟨X, _, _, hX, e, _⟩ => by rw [e]; exact hr X hX, q⟩
theorem Lk.suite (lk : Lk Xs M T W c) {a C : Addr} {d : Option Addr} {cc : Str} (hc : M.cls cc C) : Lk (SuC Xs a (.ref C) d) (M.wx (some (a, C, d))) T (fun _ _ _ _ => False) (csH c) where
  kx := lk.kx.suite hc
  fns := fun h => by cases h
theorem SOkL.wish {W' : WX} {f : LFl} (q : SOkL M W b De (.ok f)) : SOkL M W' b De (.ok f) := by
  cases f <;> exact q
theorem lsuite_end {x} {y : LRS} {nm : Option Nat} (q : SOkL M W b De (ltriEnd nm y)) :
    SOkL (M.wx x) (fun _ _ _ _ => False) b { nx := fun σ' H' => De.nx (unS nm σ') H', rt := De.rt, bk := fun σ' H' => De.bk (unS nm σ') H', ct := fun σ' H' => De.ct (unS nm σ') H' } y := by
  have back : ∀ {s : LSt} {as : List Addr} {σ : L2.St} {G H : Hp}, LRel (M.wx x) b s.ρ s.h σ as G H → LRel M b (clL (unL nm s.ρ)) s.h (unS nm σ) as G H := fun {s as σ G H} r => by
    cases nm with
    | none => exact r.cl.unwx fun i c fs => clL_none i c fs
    | some i => exact (r.setUn i none).cl.unwx fun i c fs => clL_none i c fs
  match y, q with
  | .ok (.nx s), q => exact fun as σ G H r => q as _ G H (back r)
  | .ok (.bk s), q => exact fun as σ G H r => q as _ G H (back r)
  | .ok (.ct s), q => exact fun as σ G H r => q as _ G H (back r)
  | .ok (.rt x h), q => exact fun u as G H I r => q u as G H I.unwx (RL.wx.2 r)
  | .ex _ _ _, q => exact q.elim
  | .st, q => exact q.elim
theorem la_try (lk : Lk Xs M T W c) (hh : c.hot = false) (ht : c.top = true) {C : Str} {nm : Option Nat} {nm' : Option Str} {bq hq : List LQ} {xb suite : List Stmt} {b0 : Stmt} {np p1 p2 : Pos} (hg : gloC c C = true) (hl : C ∈ c.exl)
    (hn : (match nm, nm' with | some i, some x => decide (c.N[i]? = some x) && decide (c.sc.names.lookup x = some .local) | none, none => true | _, _ => false) = true)
    (hb : ∀ W' b, SSL (TrF Xs W') M W' b xb (lexecs T bq)) (hs : ∀ a D d cc, M.cls cc D → ∀ b, SSL (SuC Xs a (.ref D) d) (M.wx (some (a, D, d))) (fun _ _ _ _ => False) b (b0 :: suite) (lexecs T hq))
    (r : LRel M b ρ h σ as G H) (q : SOkL M W b De (lexec T (.tri bq C nm hq) ⟨ρ, h⟩)) : WS Xs (.Try xb [.ExceptHandler (some (.Name C np)) nm' (b0 :: suite) p1] [] [] p2) De σ H := by
  have kx := lk.kx
  obtain ⟨u, hu⟩ := kx.exv C hl
  unfold lexec at q
  have hN : ∀ X, Xs X → Names X C u := fun X hX => ⟨kx.gl hg X hX, nodb_dbg (glo_nodb hg), by
    rw [kx.mg X hX]
    rcases hu with hu | ⟨h1, h2⟩
    · exact .inl hu
    · exact .inr ⟨h1, h2, nodb_name (glo_nodb hg)⟩⟩
  have key : ∀ (cls : Value) (d : Option Addr) (cc : Str) (fs : List (Str × D)) (s : LSt) (as' : List Addr) (σ' : L2.St) (G' H' : Hp), LRel M b s.ρ s.h σ' as' G' H' → ExRep M G' H' cc fs cls d →
      SOkL M W b De (match T.t.sub cc C with | some true => ltriEnd nm (lexecs T hq ⟨ltriSet nm cc fs s.ρ, s.h⟩) | some false => .ex cc fs s | none => .st) →
      ∃ k, PySem.W.exmOne M.K cls u = some k ∧ (k = true → ∀ a, H' a = none → WSs (SuC Xs a cls d) (b0 :: suite) { nx := fun σ' H' => De.nx (unS nm σ') H', rt := De.rt, bk := fun σ' H' => De.bk (unS nm σ') H', ct := fun σ' H' => De.ct (unS nm σ') H' } (stS nm a σ') H') ∧ (k = false → W cls d σ' H') := by
    intro cls d cc fs s as' σ' G' H' r1 er hq
    have er0 := er
    obtain ⟨D, hD, rfl, hfd⟩ := er
    cases e : T.t.sub cc C with
    | none => rw [e] at hq; exact hq.elim
    | some k =>
      obtain ⟨u', hu', hm⟩ := kx.exm cc C k e D hD
      have := names_eq hu hu'
      subst this
      refine ⟨k, hm, fun hk a ha => ?_, fun hk => ?_⟩
      · subst hk
        rw [e] at hq
        refine hs a D d cc hD b (ρ := ltriSet nm cc fs s.ρ) (h := s.h) (as := as') (G := G') ?_ (lsuite_end hq)
        have nx := r1.noXc (kx.xn hh)
        have r2 : LRel (M.wx (some (a, D, d))) b s.ρ s.h σ' as' G' H' := r1.wx nx
        cases nm with
        | none => exact r2
        | some i =>
          refine r2.setXc i ⟨a, D, d, rfl, rfl, hD, ?_⟩
          rcases hfd with hfd | ⟨e2, ws, h1, h2, h3⟩
          · exact .inl hfd
          · exact .inr ⟨e2, ws, h1, h2, (RepF.wx _ _).1 h3⟩
      · subst hk
        rw [e] at hq
        exact hq _ _ as' σ' G' H' r1 er0
  cases nm with
  | none =>
    cases nm' with
    | some x => cases hn
    | none =>
      refine ⟨fun D σ H => WSs (TrF Xs (wOnly M.K u (fun a cls d => WSs (SuC Xs a cls d) (b0 :: suite)) W D)) xb D σ H, fun X hX => ?_, ?_⟩
      · have R := ps_try_only (X := X) (x := C) (c := u) (body := xb) (suite := suite) (b₀ := b0) (np := np) (pos := p2) (pos' := p1) (tb := fun W' => WSs (TrF Xs W') xb) (ts := fun a cls d => WSs (SuC Xs a cls d) (b0 :: suite)) (Wout := W) (kx.top ht X hX).1 (kx.top ht X hX).2 (hN X hX) (kx.tk X hX)
          (fun W' pn xe t p => pss_w ⟨X, pn, xe, hX, rfl, t, p⟩) (fun a oe cls d pn z f => pss_w ⟨X, oe, pn, hX, rfl, z, f⟩)
        rw [kx.K X hX] at R
        exact R
      · refine hb _ b r ?_
        match e : lexecs T bq ⟨ρ, h⟩, q with
        | .ok f, q => exact SOkL.wish q
        | .st, q => exact q.elim
        | .ex cc fs s, q => exact fun cls d as' σ' G' H' r1 er => key cls d cc fs s as' σ' G' H' r1 er q
  | some i =>
    cases nm' with
    | none => cases hn
    | some x =>
      simp only [Bool.and_eq_true, decide_eq_true_eq] at hn
      refine ⟨fun D σ H => WSs (TrF Xs (wAs M.K u i (fun a cls d => WSs (SuC Xs a cls d) (b0 :: suite)) W D)) xb D σ H, fun X hX => ?_, ?_⟩
      · have R := ps_try_as (X := X) (x := C) (n := x) (c := u) (i := i) (body := xb) (suite := suite) (b₀ := b0) (np := np) (pos := p2) (pos' := p1) (tb := fun W' => WSs (TrF Xs W') xb) (ts := fun a cls d => WSs (SuC Xs a cls d) (b0 :: suite)) (Wout := W) (kx.top ht X hX).1 (kx.top ht X hX).2
          (by rw [kx.N X hX]; exact kx.nd) (by rw [kx.N X hX]; exact hn.1) (by show List.lookup x X.env.scope.names = _; rw [kx.sc X hX]; exact hn.2) (hN X hX) (kx.tk X hX)
          (fun W' pn xe t p => pss_w ⟨X, pn, xe, hX, rfl, t, p⟩) (fun a oe cls d pn z f => pss_w ⟨X, oe, pn, hX, rfl, z, f⟩)
        rw [kx.K X hX] at R
        exact R
      · refine hb _ b r ?_
        match e : lexecs T bq ⟨ρ, h⟩, q with
        | .ok f, q => exact SOkL.wish q
        | .st, q => exact q.elim
        | .ex cc fs s, q => exact fun cls d as' σ' G' H' r1 er => key cls d cc fs s as' σ' G' H' r1 er q
end
section
variable {T : LTb}
set_option maxHeartbeats 8000000
mutual
theorem sndQ : ∀ (s : LQ) {Xs : Cx → Prop} {M : Md} {W : WX} {c : Cs} (lk : Lk Xs M T W c) (st : Stmt), chkQ T.fs s c st = true → ∀ {b : Bs} {as : List Addr} {G H : Hp} {ρ : LRho} {h : LHp} {σ : L2.St} {De : Ends}, LRel M b ρ h σ as G H → SOkL M W b De (lexec T s ⟨ρ, h⟩) → WS Xs st De σ H
  | .asg tg e, Xs, M, W, c, lk, st, hk, b, as, G, H, ρ, h, σ, De, r, q => by
    unfold chkQ at hk
    split at hk <;> first | (cases hk; done) | skip
    simp only [Bool.and_eq_true, decide_eq_true_eq] at hk
    exact la_asg lk hk.1.1.1 hk.1.1.2 hk.1.2 hk.2 r q
  | .par i j a e, Xs, M, W, c, lk, st, hk, b, as, G, H, ρ, h, σ, De, r, q => by
    unfold chkQ at hk
    split at hk <;> first | (cases hk; done) | skip
    simp only [Bool.and_eq_true, decide_eq_true_eq, Bool.not_eq_true'] at hk
    obtain ⟨⟨⟨⟨⟨⟨⟨⟨⟨⟨⟨⟨⟨⟨a0, a1⟩, a2⟩, a3⟩, a4⟩, a5⟩, a6⟩, a7⟩, a8⟩, a9⟩, a10⟩, a11⟩, a12⟩, a13⟩, a14⟩ := hk
    exact la_par lk a0 a1 a2 a3 a4 a5 a6 a7 a8 a9 a10 a11 a12 a13 a14 r q
  | .aug i op e us, Xs, M, W, c, lk, st, hk, b, as, G, H, ρ, h, σ, De, r, q => by
    unfold chkQ at hk
    split at hk <;> first | (cases hk; done) | skip
    simp only [Bool.and_eq_true, decide_eq_true_eq, Bool.or_eq_true] at hk
    obtain ⟨⟨⟨rfl, a1⟩, a2⟩, a3⟩ := hk
    exact la_aug lk.kx a1 a2 a3 r q
  | .app o e, Xs, M, W, c, lk, st, hk, b, as, G, H, ρ, h, σ, De, r, q => by
    unfold chkQ at hk
    split at hk <;> first | (cases hk; done) | skip
    simp only [Bool.and_eq_true, decide_eq_true_eq] at hk
    obtain ⟨⟨⟨⟨⟨rfl, a1⟩, a2⟩, a3⟩, a4⟩, a5⟩ := hk
    exact la_app lk a1 a2 a3 a4 a5 r q
  | .stix o ix us e, Xs, M, W, c, lk, st, hk, b, as, G, H, ρ, h, σ, De, r, q => by
    unfold chkQ at hk
    split at hk <;> first | (cases hk; done) | skip
    simp only [Bool.and_eq_true] at hk
    exact la_stix lk hk.1.1.1 hk.1.1.2 hk.1.2 hk.2 r q
  | .stf o f e, Xs, M, W, c, lk, st, hk, b, as, G, H, ρ, h, σ, De, r, q => by
    unfold chkQ at hk
    split at hk <;> first | (cases hk; done) | skip
    simp only [Bool.and_eq_true, decide_eq_true_eq] at hk
    obtain ⟨⟨⟨rfl, a1⟩, a2⟩, a3⟩ := hk
    exact la_stf lk a1 a2 a3 r q
  | .augf o f op e us, Xs, M, W, c, lk, st, hk, b, as, G, H, ρ, h, σ, De, r, q => by
    unfold chkQ at hk
    split at hk <;> first | (cases hk; done) | skip
    simp only [Bool.and_eq_true, decide_eq_true_eq] at hk
    obtain ⟨⟨⟨⟨⟨rfl, rfl⟩, a0⟩, a1⟩, a2⟩, a3⟩ := hk
    exact la_augf lk a0 a1 a2 a3 r q
  | .expr e, Xs, M, W, c, lk, st, hk, b, as, G, H, ρ, h, σ, De, r, q => by
    unfold chkQ at hk
    split at hk <;> first | (cases hk; done) | skip
    simp only [Bool.and_eq_true, Bool.not_eq_true'] at hk
    exact la_expr lk hk.1 hk.2 r q
  | .iff t us a e, Xs, M, W, c, lk, st, hk, b, as, G, H, ρ, h, σ, De, r, q => by
    unfold chkQ at hk
    split at hk <;> first | (cases hk; done) | skip
    rename_i xt xa xb p
    simp only [Bool.and_eq_true] at hk
    unfold lexec at q
    refine ⟨_, fun X hX => ps_if (pt_w hX) (pss_w hX) (pss_w hX), ?_⟩
    refine l_evPB lk.kx hk.1.1.1 hk.1.1.2 r ((on_ok r q).imp fun k h' z as' G' H' I s => ?_)
    cases k with
    | true => exact sndQs a lk _ hk.1.2 (r.later s I) z
    | false => exact sndQs e lk _ hk.2 (r.later s I) z
  | .iffL t a e, Xs, M, W, c, lk, st, hk, b, as, G, H, ρ, h, σ, De, r, q => by
    unfold chkQ at hk
    split at hk <;> first | (cases hk; done) | skip
    rename_i xt xa xb p
    simp only [Bool.and_eq_true] at hk
    unfold lexec at q
    refine ⟨_, fun X hX => ps_if (pt_w hX) (pss_w hX) (pss_w hX), ?_⟩
    refine (sndB' t lk _ hk.1.1 r).use (on_ok r q) fun k h' as' G' H' z I s => ?_
    cases k with
    | true => exact sndQs a lk _ hk.1.2 (r.later s I) z
    | false => exact sndQs e lk _ hk.2 (r.later s I) z
  | .whl t us f, Xs, M, W, c, lk, st, hk, b, as, G, H, ρ, h, σ, De, r, q => by
    unfold chkQ at hk
    split at hk <;> first | (cases hk; done) | skip
    simp only [Bool.and_eq_true] at hk
    unfold lexec at q
    refine ⟨_, fun X hX => ps_while (lk.kx.po X hX) (pt_w hX) (pss_w hX), ?_⟩
    exact la_while lk.kx hk.1.1 hk.1.2 (fun b => fun r q => sndQs f lk _ hk.2 r q) T.t.fuel r q
  | .for tg k es us f, Xs, M, W, c, lk, st, hk, b, as, G, H, ρ, h, σ, De, r, q => by
    unfold chkQ at hk
    split at hk <;> first | (cases hk; done) | skip
    rename_i xtg it xb p
    simp only [Bool.and_eq_true, Bool.not_eq_true'] at hk
    obtain ⟨⟨⟨⟨h0, h1⟩, h2⟩, h3⟩, h4⟩ := hk
    unfold lexec at q
    refine ⟨_, fun X hX => ps_for (lk.kx.po X hX) (lk.kx.calm h0 X hX) (pi_w hX) (pg_w hX) (pss_w hX) (foldedId h2 _), ?_⟩
    refine l_evPI lk.kx h1 r ((on_ok r q).imp fun ds h' z => ?_)
    cases ei : itemsOf k ds with
    | st => rw [ei] at z; exact z.elim
    | ex cc fs => rw [ei] at z; exact z.elim
    | ok items =>
      rw [ei] at z
      exact ⟨items, rfl, fun J as' G' H' I s wk => la_forD lk.kx h3 (fun b => fun r q => sndQs f lk _ h4 r q) (r.later s I) wk z⟩
  | .forL tg o f, Xs, M, W, c, lk, st, hk, b, as, G, H, ρ, h, σ, De, r, q => by
    unfold chkQ at hk
    split at hk <;> first | (cases hk; done) | skip
    rename_i xtg it xb p
    simp only [Bool.and_eq_true, Bool.not_eq_true'] at hk
    obtain ⟨⟨⟨⟨h0, h1⟩, h2⟩, h3⟩, h4⟩ := hk
    have kx := lk.kx
    unfold lexec at q
    refine ⟨_, fun X hX => ps_for (kx.po X hX) (kx.calm h0 X hX) (pi_w hX) (pg_w hX) (pss_w hX) (foldedId h2 _), ?_⟩
    refine ⟨fun σ H R => iList M.K (WP Xs it) σ H R ∨ iTup M.K (WP Xs it) σ H R ∨ iStr (WP Xs it) σ H R, fun X hX => ⟨fun pins s σ H R I z => ?_⟩, ?_⟩
    · rcases z with z | z | z
      · exact (pi_list (tg := xtg) (pe_w hX)).run pins s σ H R I (by rw [kx.K X hX]; exact z)
      · exact (pi_tup (tg := xtg) (pe_w hX)).run pins s σ H R I (by rw [kx.K X hX]; exact z)
      · exact (pi_str (tg := xtg) (pe_w hX)).run pins s σ H R I z
    · have q1 := on_ok r q
      have A := sndA' o lk _ h1 r
      cases ev : evA T ρ o h with
      | st => simp only [ev] at q1; exact q1.elim
      | ex cc fs h' =>
        rw [ev] at A q1
        exact .inl (A _ q1)
      | ok x h' =>
        rw [ev] at A q1
        unfold LOk at q1
        have z := q1
        cases x with
        | r k =>
          simp only at z
          split at z
          · rename_i vs eo
            refine .inl (A.use (Z := fun y h2 => y = .r k ∧ h2 = h') ⟨rfl, rfl⟩ fun y h2 u as' G' H' ey I s ru => ?_)
            obtain ⟨rfl, rfl⟩ := ey
            obtain ⟨a, ea, rfl⟩ := ru
            obtain ⟨us, b1, b2⟩ := I.ob _ _ _ ea eo
            exact ⟨a, rfl, ⟨us, .inl (.inl b1)⟩, la_forL kx h3 (fun b => fun r q => sndQs f lk _ h4 r q) (r.later s I) ea z⟩
          · exact z.elim
        | d d =>
          simp only at z
          split at z
          · rename_i xs ei
            unfold itVal at ei
            split at ei
            · rename_i e1
              cases e1
              cases ei
              refine .inl (A.use (Z := fun y h2 => y = .d _ ∧ h2 = h') ⟨rfl, rfl⟩ fun y h2 u as' G' H' ey I s ru => ?_)
              obtain ⟨rfl, rfl⟩ := ey
              obtain ⟨a, vs, rfl, b1, b2⟩ := Rep.lst' ru
              exact ⟨a, rfl, ⟨vs, .inl (.inl (I.ext.i _ _ b1))⟩, la_forD kx h3 (fun b => fun r q => sndQs f lk _ h4 r q) (r.later s I) (wk_list b1 b2) z⟩
            · rename_i e1
              cases e1
              cases ei
              refine .inr (.inl (A.use (Z := fun y h2 => y = .d _ ∧ h2 = h') ⟨rfl, rfl⟩ fun y h2 u as' G' H' ey I s ru => ?_))
              obtain ⟨rfl, rfl⟩ := ey
              obtain ⟨a, vs, rfl, b1, b2⟩ := Rep.tup' ru
              exact ⟨a, rfl, ⟨vs, Same.seqT I.ext.i b1⟩, la_forD kx h3 (fun b => fun r q => sndQs f lk _ h4 r q) (r.later s I) (wk_tup b1 b2) z⟩
            · rename_i e1
              cases e1
              cases ei
              refine .inr (.inr (A.use (Z := fun y h2 => y = .d _ ∧ h2 = h') ⟨rfl, rfl⟩ fun y h2 u as' G' H' ey I s ru => ?_))
              obtain ⟨rfl, rfl⟩ := ey
              obtain rfl := Rep.str' (M := M) (G := G') ru
              exact ⟨_, rfl, la_forD kx h3 (fun b => fun r q => sndQs f lk _ h4 r q) (r.later s I) wk_str z⟩
            · cases ei
          · exact z.elim
  | .ret e, Xs, M, W, c, lk, st, hk, b, as, G, H, ρ, h, σ, De, r, q => by
    unfold chkQ at hk
    split at hk <;> first | (cases hk; done) | skip
    exact la_ret lk hk r q
  | .retN, Xs, M, W, c, lk, st, hk, b, as, G, H, ρ, h, σ, De, r, q => by
    unfold chkQ at hk
    split at hk <;> first | (cases hk; done) | skip
    unfold lexec at q
    exact ⟨tRetN, fun X hX => ps_retN, q _ as G H r.inv (show RL M G as (.d .non) _ from Rep.non (M := M) (G := G))⟩
  | .brk, Xs, M, W, c, lk, st, hk, b, as, G, H, ρ, h, σ, De, r, q => by
    unfold chkQ at hk
    split at hk <;> first | (cases hk; done) | skip
    unfold lexec at q
    exact ⟨tBreak, fun X hX => ps_break, q as σ G H r⟩
  | .cont, Xs, M, W, c, lk, st, hk, b, as, G, H, ρ, h, σ, De, r, q => by
    unfold chkQ at hk
    split at hk <;> first | (cases hk; done) | skip
    unfold lexec at q
    exact ⟨tCont, fun X hX => ps_continue, q as σ G H r⟩
  | .pass, Xs, M, W, c, lk, st, hk, b, as, G, H, ρ, h, σ, De, r, q => by
    unfold chkQ at hk
    split at hk <;> first | (cases hk; done) | skip
    unfold lexec at q
    exact ⟨tNext, fun X hX => ps_pass, q as σ G H r⟩
  | .rais C es fs us, Xs, M, W, c, lk, st, hk, b, as, G, H, ρ, h, σ, De, r, q => by
    unfold chkQ at hk
    split at hk <;> first | (cases hk; done) | skip
    rename_i C' p1 x xs p2 p3
    rw [Bool.and_eq_true, Bool.and_eq_true, Bool.and_eq_true, Bool.or_eq_true] at hk
    obtain ⟨⟨⟨h0, h1⟩, h2⟩, h3⟩ := hk
    have h0 : c.hot = false := by simpa using h0
    have h1 := of_decide_eq_true h1
    subst h1
    rcases h3 with h3 | h3
    · simp only [Bool.and_eq_true, decide_eq_true_eq] at h3
      obtain ⟨⟨⟨⟨a1, a2⟩, a3⟩, a4⟩, a5⟩ := h3
      cases es <;> first | (cases a1; done) | skip
      cases fs <;> first | (cases a2; done) | skip
      cases xs <;> first | (cases a3; done) | skip
      split at a4 <;> first | (cases a4; done) | skip
      exact la_raise0 lk.kx h0 h2 a5 r q
    · rw [Bool.and_eq_true, Bool.and_eq_true, Bool.and_eq_true] at h3
      exact la_raise1 lk.kx h0 h2 (of_decide_eq_true h3.1.2) h3.1.1.1 h3.1.1.2 (of_decide_eq_true h3.2) r q
  | .tri bq C nm hs, Xs, M, W, c, lk, st, hk, b, as, G, H, ρ, h, σ, De, r, q => by
    unfold chkQ at hk
    split at hk <;> first | (cases hk; done) | skip
    simp only [Bool.and_eq_true, decide_eq_true_eq, Bool.not_eq_true'] at hk
    obtain ⟨⟨⟨⟨⟨⟨⟨a0, a1⟩, rfl⟩, a3⟩, a4⟩, a5⟩, a6⟩, a7⟩ := hk
    exact la_try lk a0 a1 a3 a4 a5 (fun W' b => fun r q => sndQs bq (lk.tr a0 W') _ a6 r q) (fun a D d cc hD b => fun r q => sndQs hs (lk.suite hD) _ a7 r q) r q
theorem sndQs : ∀ (ss : List LQ) {Xs : Cx → Prop} {M : Md} {W : WX} {c : Cs} (lk : Lk Xs M T W c) (sts : List Stmt), chkQs T.fs ss c sts = true → ∀ {b : Bs} {as : List Addr} {G H : Hp} {ρ : LRho} {h : LHp} {σ : L2.St} {De : Ends}, LRel M b ρ h σ as G H → SOkL M W b De (lexecs T ss ⟨ρ, h⟩) → WSs Xs sts De σ H
  | [], Xs, M, W, c, lk, sts, hk, b, as, G, H, ρ, h, σ, De, r, q => by
    unfold chkQs at hk
    cases sts with
    | cons _ _ => cases hk
    | nil =>
      unfold lexecs at q
      exact ⟨tNext, fun X hX => pss_nil, q as σ G H r⟩
  | s :: ss, Xs, M, W, c, lk, sts, hk, b, as, G, H, ρ, h, σ, De, r, q => by
    unfold chkQs at hk
    split at hk <;> first | (cases hk; done) | skip
    rename_i x xs
    rw [Bool.and_eq_true] at hk
    unfold lexecs at q
    refine ⟨_, fun X hX => pss_cons (ps_w hX) (pss_w hX), ?_⟩
    show WS Xs x { De with nx := WSs Xs xs De } σ H
    refine sndQ s lk _ hk.1 r ?_
    cases e : lexec T s ⟨ρ, h⟩ with
    | st => rw [e] at q; exact q.elim
    | ex cc fs s1 => rw [e] at q; exact q
    | ok f =>
      rw [e] at q
      cases f with
      | nx s1 => exact fun as' σ' G' H' r' => sndQs ss lk _ hk.2 r' q
      | rt v h' => exact q
      | bk s1 => exact q
      | ct s1 => exact q
end
end
end PX

set_option Elab.async false
set_option linter.all false
set_option maxRecDepth 100000
set_option maxHeartbeats 4000000
/-! Px14: programs of checked defs: every def keeps the promise that its evaluation gives. -/
namespace PX
open PySem PySem.Spec PyProof.Rows L2

/-- a def: its name, the names of its slots (the first k are its parameters), its body, the program's own statement; its body over live things, if it has one -/
structure DefS where
  name : Str
  N : List Str
  k : Nat
  body : List S
  st : Stmt
  lb : Option (List LQ) := none
structure Prg where
  defs : List DefS
  cst : Str → Option D
  sub : Str → Str → Option Bool
  oc : Str → Bool
  fuel : Nat
  lfs : List Str := []
def DefS.valP (d : DefS) (T : LTb) (ds : List D) : R EV := match d.lb with
  | none => evDef T.t d.N.length d.k d.body ds
  | some b => (levDef T d.N.length d.k b (ds.map .d) []).out
def DefS.valL (d : DefS) (T : LTb) (xs : List LV) (h : LHp) : LR LV := match d.lb with
  | none => .st
  | some b => levDef T d.N.length d.k b xs h
def Prg.two (p : Prg) : Nat → (Str → List D → R EV) × (Str → List LV → LHp → LR LV)
  | 0 => (fun _ _ => .st, fun _ _ _ => .st)
  | n + 1 => (fun f ds => match p.defs.find? (fun d => d.name == f) with
      | some d => d.valP ⟨⟨(p.two n).1, p.cst, p.sub, p.oc, p.fuel⟩, (p.two n).2, p.lfs⟩ ds
      | none => .st,
    fun f xs h => match p.defs.find? (fun d => d.name == f) with
      | some d => d.valL ⟨⟨(p.two n).1, p.cst, p.sub, p.oc, p.fuel⟩, (p.two n).2, p.lfs⟩ xs h
      | none => .st)
def Prg.call (p : Prg) (n : Nat) : Str → List D → R EV := (p.two n).1
def Prg.lcall (p : Prg) (n : Nat) : Str → List LV → LHp → LR LV := (p.two n).2
def Prg.tb (p : Prg) (n : Nat) : Tb := ⟨p.call n, p.cst, p.sub, p.oc, p.fuel⟩
def Prg.ltb (p : Prg) (n : Nat) : LTb := ⟨p.tb n, p.lcall n, p.lfs⟩
/-- what a def gives when n levels of calls are allowed -/
def Prg.val (p : Prg) (d : DefS) : Nat → List D → R EV
  | 0 => fun _ => .st
  | n + 1 => fun ds => d.valP (p.ltb n) ds
def Prg.lval (p : Prg) (d : DefS) : Nat → List LV → LHp → LR LV
  | 0 => fun _ _ => .st
  | n + 1 => fun xs h => d.valL (p.ltb n) xs h
/-- the names that the checks may lean on -/
structure Nm where
  bl : List Str
  im : List Str
  fns : List Str
  flds : List Str
  xfl : List Str
  ex0 : List Str
  ex1 : List (Str × List Str)
  exl : List Str
  lfs : List Str := []
def csOf (nm : Nm) (d : DefS) : Cs where
  N := d.N
  sc := defScope d.st
  cl := fun _ => true
  hot := false
  bl := nm.bl
  im := nm.im
  fns := nm.fns
  flds := nm.flds
  xfl := nm.xfl
  top := true
  ex0 := nm.ex0
  ex1 := nm.ex1
  exl := nm.exl
def scB (N ps : List Str) (sc : Scope) : Bool :=
  decide (sc.kind = .function) && (!sc.isCoroutine && (!sc.isGenerator && (decide N.Nodup && (decide (N.take ps.length = ps) &&
    (ps.all (fun x => locC sc x) && sc.names.all fun y => decide (y.2 ≠ .free))))))
theorem scB_ok {N ps : List Str} {sc : Scope} (h : scB N ps sc = true) : FnScope N ps sc := by
  unfold scB at h
  simp only [Bool.and_eq_true, decide_eq_true_eq, Bool.not_eq_true', List.all_eq_true] at h
  obtain ⟨h1, h2, h3, h4, h5, h6, h7⟩ := h
  refine ⟨h1, h2, h3, h4, h5, fun x hx => ?_, fun y hy => h7 y hy⟩
  have q := h6 x hx
  unfold locC at q
  split at q
  · rename_i e; exact .inl e
  · rename_i e; exact .inr e
  · cases q
def DefS.ps (d : DefS) : List Str := d.N.take d.k
def chkB (nm : Nm) (d : DefS) : Bool := match d.lb with
  | none => chkSs d.body (csOf nm d) (defBody d.st)
  | some b => chkQs nm.lfs b (csOf nm d) (defBody d.st)
def chkD (nm : Nm) (d : DefS) : Bool := chkB nm d && (scB d.N d.ps (defScope d.st) && decide (d.k ≤ d.N.length))
/-- a name of a class: a global or a built-in one -/
def NameIs (M : Md) (C : Str) (u : Value) : Prop := M.mg C = some u ∨ (M.mg C = none ∧ bootBuiltins C = some u)
/-- what is known of the program's names -/
structure Fx (p : Prg) (nm : Nm) (M : Md) : Prop where
  x : M.x = none
  chk : ∀ d, d ∈ p.defs → chkD nm d = true
  fd : ∀ d, d ∈ p.defs → ∃ fa fd, FunD M.K d.name d.name (defArgs d.st) (defBody d.st) (defScope d.st) [] [] fa fd ∧ M.mg d.name = some (.ref fa) ∧ Binds M.K fd d.ps []
  fns : ∀ f, f ∈ nm.fns → (p.defs.find? fun d => d.name == f).isSome = true
  lf : p.lfs = nm.lfs
  lfs : ∀ f, f ∈ nm.lfs → ∃ d, (p.defs.find? fun d => d.name == f) = some d ∧ d.lb.isSome = true
  bl : ∀ x, x ∈ nm.bl → M.mg x = none
  gcd : ("gcd" : Str) ∈ nm.im → M.mg "gcd" = some (.builtin "math.gcd")
  lcm : ("lcm" : Str) ∈ nm.im → M.mg "lcm" = some (.builtin "math.lcm")
  cst : ∀ x d, p.cst x = some d → ∃ u v, M.mg x = some u ∧ RelV v u ∧ ∀ G, Rep M G d v
  obj : ∀ cl C f, p.oc cl = true → M.cls cl C → f ∈ nm.flds → Cls M.K C ∧ NoAttr M.K C f
  xc : ∀ cc C b, p.sub cc C = some b → ∀ D, M.cls cc D → ExcC M.K D ∧ ∃ (cv : V) (u : Value), RelV cv u ∧ (∀ u', RelV cv u' → u' = u) ∧ NameIs M C u ∧ PySem.W.exmOne M.K (.ref D) u = some b ∧ PySem.W.kitOne M.K (.ref D) u = some b
  xf : ∀ cc b, p.sub cc cc = some b → ∀ D, M.cls cc D → ∀ f, f ∈ nm.xfl → XfC M.K D ∧ PySem.W.findIn M.K (.ref D) f = some none
  exv : ∀ C, C ∈ nm.exl → ∃ u, NameIs M C u
  ex0 : ∀ C, C ∈ nm.ex0 → ∃ D, M.cls C D ∧ PySem.W.excIn M.K D He.veBase "ValueError.__new__" = true ∧ PySem.W.keepIn M.K (.ref D) = true ∧ PySem.W.subIn M.K (.ref D) (.type "BaseException") = some true ∧ PySem.W.typeIn M.K (.ref D) = some (.type "type")
  ex1 : ∀ C fs, (C, fs) ∈ nm.ex1 → ∃ D, M.cls C D ∧ ∀ X : Cx, X.K = M.K → X.mg = M.mg → X.prog = M.P → X.w = M.w → X.base = M.base → Room 1 X.A → Gl X C → (C == ("__debug__" : Str)) = false → ∀ e es p pos ta, (e :: es).all nst = true → (e :: es).length = fs.length → PA X (e :: es) ta →
    PMk X (.Call (.Name C p) (e :: es) [] pos) (fun σ H Q => ta σ H fun vs H1 => vs.length = fs.length ∧ ∀ d, H1 d = none → Q (.ref D) (some d) (upd H1 d (.xd (fs.zip vs))))

section
variable {p : Prg} {nm : Nm} {M : Md}
theorem Fx.call_eq (F : Fx p nm M) {f : Str} {d : DefS} (h : (p.defs.find? fun d => d.name == f) = some d) : ∀ n, p.call n f = p.val d n
  | 0 => rfl
  | n + 1 => by
    funext ds
    show (match p.defs.find? (fun d => d.name == f) with
      | some d => d.valP (p.ltb n) ds
      | none => .st) = _
    rw [h]
    rfl
theorem Fx.lcall_eq (F : Fx p nm M) {f : Str} {d : DefS} (h : (p.defs.find? fun d => d.name == f) = some d) : ∀ n, p.lcall n f = p.lval d n
  | 0 => rfl
  | n + 1 => by
    funext xs hp
    show (match p.defs.find? (fun d => d.name == f) with
      | some d => d.valL (p.ltb n) xs hp
      | none => .st) = _
    rw [h]
    rfl
theorem call_isEx {X : Cx} {a D : Addr} {oe : Obj} {d : Option Addr} {pn : List (Addr × Obj)} (C : ExcC X.K D) (hz : Zc (.ref D) d oe) (hf : ∃ vs, oe.data = .fields vs) :
    CallR (X.suite a ((a, oe) :: pn)) (.builtin "isinstance") (fun xs H Q => (d = none ∨ ∃ e ws, d = some e ∧ H e = some (.xd ws)) ∧ rIsE X.K D a xs H Q) := by
  intro pins s σ H xs us Q I r h
  obtain ⟨hd, c, cv, b, rfl, hcv, e, q⟩ := h
  obtain ⟨u1, u2, rfl, rx, rt⟩ := vals2 r
  cases rx
  have ec := hcv _ rt
  subst ec
  obtain ⟨hget, _⟩ := I.pin (a, oe) (List.mem_append.mpr (.inl List.mem_cons_self))
  obtain ⟨vs, hv⟩ := hf
  have J : ∃ od, PySem.W.InstAt s.heap a oe D od := by
    obtain ⟨oc, od, oda, osl⟩ := oe
    obtain ⟨h1, h2⟩ := hz
    dsimp only at h1 h2 hv
    subst h1 h2 hv
    rcases hd with rfl | ⟨e', ws, rfl, ew⟩
    · exact ⟨none, hget, rfl, rfl, trivial⟩
    · have hx : ObjOk X.prog X.w H s.heap e' (.xd ws) := I.hok e' _ ew
      obtain ⟨mA, hns, _⟩ := hx
      obtain ⟨o2, ho, _⟩ := lookIn_ns hns
      exact ⟨some o2, hget, rfl, rfl, ho⟩
  obtain ⟨od, J⟩ := J
  have hcl : (PySem.W.clsIn X.K D).isSome = true := by
    obtain ⟨cd, hc, _⟩ := PySem.W.any_some C.hd
    rw [hc]; rfl
  exact PySem.W.kia_one (PySem.W.kitx_exc (od := od) hcl C.hg C.hk C.hs C.ha C.hn C.ht C.hm) I.kIn J e (fun z => nomatch z) fun tk => ⟨.bl b, H, I.kept (t' := tk) fun _ _ z => z, rfl, q⟩

/-- a reading with what follows from it -/
theorem pe_wider {X : Cx} {e : Expr} {t : TE} (h : PE X e t) : PE X e (fun σ H Q => ∃ Q0 : VK, (∀ v H, Q0 v H → Q v H) ∧ t σ H Q0) := ⟨fun pins s σ H Q I ⟨Q0, k, z⟩ => thn (h.run pins s σ H Q0 I z) fun u s' ⟨v, H', I', r, q⟩ => ⟨v, H', I', r, k v H' q⟩⟩
/-- a def's own context -/
theorem Fx.kx (F : Fx p nm M) {n : Nat} (hn : ∀ d, d ∈ p.defs → ∃ fa fd, FnOk M.P M.w M.K M.mg M.base (L2.CX M.P M.w) (n + 1) fa fd d.ps (spOf M d.ps.length (p.val d n)) ∧ M.mg d.name = some (.ref fa) ∧ PySem.W.keepIn M.K (.ref fa) = true ∧ Binds M.K fd d.ps [])
    {d : DefS} (hd : d ∈ p.defs) (S : FnScope d.N d.ps (defScope d.st)) {f : Addr} {cdv : Value} {A : Around} {outer : List Env} {s : Shared} {H : Hp} {E : XK} (hr : Room (n + 1) (A.deeper (envOfC d.name (defScope d.st) s.heap.objs.size f cdv))) :
    Kx (fun X => X = cxOf (L2.CX M.P M.w) M.P M.w M.K M.mg M.base d.N d.name (defScope d.st) f cdv A outer s H E) M (p.tb n) (fun cls dx _ H' => E cls dx H') (csOf nm d) where
  K := by rintro X rfl; rfl
  mg := by rintro X rfl; rfl
  P := by rintro X rfl; rfl
  w := by rintro X rfl; rfl
  base := by rintro X rfl; rfl
  N := by rintro X rfl; rfl
  sc := by rintro X rfl; rfl
  cl := by rintro X rfl; exact fun _ _ => rfl
  nd := S.nd
  calm := by rintro _ X rfl; rfl
  tk := by rintro X rfl; exact takes_of rfl rfl rfl rfl
  po := by rintro X rfl; exact passes_of rfl
  room := by rintro X rfl; have := hr.un; show (A.deeper _).units + 70 < cLine; omega
  bl := F.bl
  gcd := F.gcd
  lcm := F.lcm
  hot := fun h => by cases h
  su := fun a C dx cc hc Zs hZ => by
    refine ⟨fun cc' C' b hs hc' => ?_, fun cc' b hs hc' g hg X hX e ep hse => ?_⟩
    · obtain ⟨hC, cv, u, h1, h2, h3, h4, h5⟩ := F.xc cc' C' b hs C hc'
      refine ⟨cv, u, h1, h2, h3, fun X hX H Q hp q => ?_⟩
      by_cases ht : True
      · refine ⟨fun xs H Q => (dx = none ∨ ∃ e ws, dx = some e ∧ H e = some (.xd ws)) ∧ rIsE M.K C a xs H Q, fun Y hY => ?_, hp, cv, u, b, rfl, h2, h5, q⟩
        obtain ⟨Z, oe, pn, rfl, hK, hm, hz, hf⟩ := hZ Y hY
        rw [← hK]
        exact call_isEx (by rw [hK]; exact hC) hz hf
      · exact absurd trivial ht
    · obtain ⟨hx, hno⟩ := F.xf cc' b hs C hc' g hg
      obtain ⟨Z, oe, pn, rfl, hK, hm, hz, hf⟩ := hZ X hX
      have q := pe_xf (X := Z) (a := a) (C := C) (pos := ep) (n := g) (by rw [hK]; exact hx) (by rw [hK]; exact hno) hz hf (pe_wider (pe_w (e := e) hX)) (supId hse _ _ _)
      exact ⟨fun pins s σ H Q I h => q.run pins s σ H Q I ⟨_, fun v H1 z => ⟨z.1, rfl, z.2⟩, h⟩⟩
  top := by rintro _ X rfl; exact ⟨rfl, rfl⟩
  xn := fun _ => F.x
  exv := F.exv
  exm := fun cc C b hs D hD => by
    obtain ⟨_, cv, u, _, _, h3, h4, _⟩ := F.xc cc C b hs D hD
    exact ⟨u, h3, h4⟩
  ex0 := fun C hC => by
    obtain ⟨D, h1, h2, h3, h4, h5⟩ := F.ex0 C hC
    refine ⟨D, h1, fun X hK hm hg hdb m j ep ep2 pos => ?_⟩
    exact pmk_own PySem.F.excBase_ValueError (by rw [hK]; exact h2) (by rw [hm]; exact h1) (by rw [hK]; exact h3) (raises_own (by rw [hK]; exact h4) (by rw [hK]; exact h5)) hg hdb
  ex1 := fun C fs hC => by
    obtain ⟨D, h1, h2⟩ := F.ex1 C fs hC
    refine ⟨D, h1, fun X a1 a2 a3 a4 a5 ⟨Y, hY, a6⟩ => h2 X a1 a2 a3 a4 a5 (by rw [a6, hY]; exact hr.mono (by omega))⟩
  obj := F.obj
  cst := F.cst
  fns := fun _ f hf => by
    obtain ⟨d', hd'⟩ := Option.isSome_iff_exists.mp (F.fns f hf)
    have hm := List.mem_of_find?_eq_some hd'
    have he : d'.name = f := by have := List.find?_some hd'; simpa using this
    obtain ⟨fa, fd, h1, h2, h3, h4⟩ := hn d' hm
    have hk : d'.k ≤ d'.N.length := by
      have := F.chk d' hm
      unfold chkD at this
      simp only [Bool.and_eq_true, decide_eq_true_eq] at this
      exact this.2.2
    have hpl : d'.ps.length = d'.k := by unfold DefS.ps; rw [List.length_take]; omega
    refine ⟨n + 1, fa, fd, d'.ps, ?_, by rintro X rfl; exact hr, by rw [← he]; exact h2, h3, h4, fun ds hds => ?_⟩
    · show FnOk _ _ _ _ _ _ _ _ _ _ (spOf M _ (p.call n f))
      rw [F.call_eq hd' n]; exact h1
    · show p.call n f ds = .st
      rw [F.call_eq hd' n]
      cases n with
      | zero => rfl
      | succ n => 
        show d'.valP _ ds = _
        unfold DefS.valP
        cases d'.lb with
        | none =>
          show evDef _ _ _ _ ds = _
          unfold evDef
          rw [if_neg (by rw [← hpl]; exact hds)]
        | some b =>
          show (levDef _ _ _ b _ _).out = _
          unfold levDef
          rw [if_neg (by rw [List.length_map, ← hpl]; exact hds)]
          rfl
theorem start_rel {G H : Hp} {ds : List D} {vs : List V} {N : List Str} (s : Same G H) (r : Reps M G ds vs) : Rel M G H (startS N.length ds) (L2.start N vs) G H where
  ext := Ext.refl s
  len := by unfold startS L2.start; simp [r.length]
  fz := fun i d e => by
    unfold startS at e
    unfold L2.start
    by_cases hi : i < ds.length
    · rw [List.getElem?_append_left (by simpa using hi), List.getElem?_map] at e
      obtain ⟨d', e1, e2⟩ := Option.map_eq_some_iff.mp e
      cases e2
      obtain ⟨v, e3, e4⟩ := r.get e1
      exact ⟨v, by rw [List.getElem?_append_left (by simpa [r.length] using hi), List.getElem?_map, e3]; rfl, e4⟩
    · rw [List.getElem?_append_right (by simpa using Nat.le_of_not_lt hi)] at e
      have := List.mem_of_getElem? e
      rw [List.mem_replicate] at this
      cases this.2
  ow := fun i o e => by
    exfalso
    have := List.mem_of_getElem? e
    unfold startS at this
    rcases List.mem_append.mp this with h | h
    · obtain ⟨_, _, z⟩ := List.mem_map.mp h; cases z
    · rw [List.mem_replicate] at h; cases h.2
  xc := fun i c fs e => by
    exfalso
    have := List.mem_of_getElem? e
    unfold startS at this
    rcases List.mem_append.mp this with h | h
    · obtain ⟨_, _, z⟩ := List.mem_map.mp h; cases z
    · rw [List.mem_replicate] at h; cases h.2
  ap := fun i j oi oj q e => by
    exfalso
    have := List.mem_of_getElem? e
    unfold startS at this
    rcases List.mem_append.mp this with h | h
    · obtain ⟨_, _, z⟩ := List.mem_map.mp h; cases z
    · rw [List.mem_replicate] at h; cases h.2
theorem body_ok {Q : VK} {E : XK} {G H : Hp} {x : RS} (h : GOk M E G H (EvV M G H Q) (match x with
    | .ok (.nx _) => R.ok (EV.fz .non)
    | .ok (.rt v) => .ok v
    | .ex c fs _ => .ex c fs
    | _ => .st)) : SOk M (fun cls d _ H' => E cls d H') G H { nx := fun _ H' => Q .non H', rt := Q } x := by
  cases x with
  | st => exact h.elim
  | ex c fs ρ => exact fun cls d σ G' H' r q => h cls d G' H' r.ext q
  | ok f =>
    cases f with
    | nx ρ => exact fun σ G' H' r => h _ G' H' r.ext Rep.non
    | rt v => exact h
    | bk ρ => exact h.elim
    | ct ρ => exact h.elim
theorem lbody_ok {b : Bs} {as : List Addr} {h : LHp} {Q : VK} {E : XK} {G H : Hp} (I : LInv M b as h G H) {x : LRS} (q : LOk M b E as G (LVv M b as G Q) (match x with
    | .ok (.nx s) => .ok (.d .non) s.h
    | .ok (.rt x h1) => .ok x h1
    | .ex c fs s => .ex c fs s.h
    | _ => .st)) : SOkL M (fun cls d _ H' => E cls d H') (b.mv G as) { nx := fun _ H' => Q .non H', rt := Q } x := by
  cases x with
  | st => exact q.elim
  | ex c fs s => exact fun cls d as' σ G' H' r er => q cls d as' G' H' (I.back r.inv) r.inv.sp er
  | ok f =>
    cases f with
    | nx s => exact fun as' σ G' H' r => q _ as' G' H' (I.back r.inv) r.inv.sp (show RL M G' as' (.d .non) _ from Rep.non (M := M) (G := G'))
    | rt x h => exact fun u as' G' H' J ru => q u as' G' H' (I.back J) J.sp ru
    | bk s => exact q.elim
    | ct s => exact q.elim
theorem lstart_rel {b : Bs} {as : List Addr} {h : LHp} {G H : Hp} {xs : List LV} {vs : List V} {N : List Str} (I : LInv M b as h G H) (r : RLs M G as xs vs) : LRel M b (startL N.length xs) h (L2.start N vs) as G H where
  inv := I
  len := by unfold startL L2.start; simp [r.length]
  v := fun i x e => by
    unfold startL at e
    unfold L2.start
    by_cases hi : i < xs.length
    · rw [List.getElem?_append_left (by simpa using hi), List.getElem?_map] at e
      obtain ⟨d', e1, e2⟩ := Option.map_eq_some_iff.mp e
      cases e2
      obtain ⟨v, e3, e4⟩ := r.get e1
      exact ⟨v, by rw [List.getElem?_append_left (by simpa [r.length] using hi), List.getElem?_map, e3]; rfl, e4⟩
    · rw [List.getElem?_append_right (by simpa using Nat.le_of_not_lt hi)] at e
      have := List.mem_of_getElem? e
      rw [List.mem_replicate] at this
      cases this.2
  xc := fun i c fs e => by
    exfalso
    have := List.mem_of_getElem? e
    unfold startL at this
    rcases List.mem_append.mp this with h | h
    · obtain ⟨_, _, z⟩ := List.mem_map.mp h; cases z
    · rw [List.mem_replicate] at h; cases h.2
theorem mapO_dat : ∀ {vs : List LV} {ds : List D}, mapO LV.dat vs = some ds → vs = ds.map .d
  | [], ds, e => by cases e; rfl
  | x :: vs, ds, e => by
    unfold mapO at e
    cases x with
    | r i => cases e
    | d d =>
      cases e2 : mapO LV.dat vs with
      | none => simp only [LV.dat, e2] at e; cases e
      | some es =>
        simp only [LV.dat, e2] at e; cases e
        rw [mapO_dat e2]; rfl
theorem mapF_dat {G : Hp} {as : List Addr} : ∀ {vs : List (Str × LV)} {ds : List (Str × D)} {us : List (Str × V)}, mapF LV.dat vs = some ds → RLF M G as vs us → RepF M G ds us
  | [], ds, us, e, r => by cases e; cases r; simp [RepF]
  | (k, x) :: vs, ds, us, e, ⟨u, w, e3, r1, r2⟩ => by
    unfold mapF at e
    cases x with
    | r i => cases e
    | d d =>
      cases e2 : mapF LV.dat vs with
      | none => simp only [LV.dat, e2] at e; cases e
      | some es =>
        simp only [LV.dat, e2] at e; cases e
        unfold RepF
        exact ⟨u, w, e3, r1, mapF_dat e2 r2⟩
theorem out_ok {G H : Hp} {E : XK} {Q : VK} {r : LR LV} (q : GOk M E G H (EvV M G H Q) r.out) : LOk M ⟨G, H, []⟩ E [] G (LVv M ⟨G, H, []⟩ [] G Q) r := by
  cases r with
  | st => exact q.elim
  | ex c fs h => exact fun cls d as' G' H' I s er => q cls d G' H' I.ext er
  | ok x h =>
    intro u as' G' H' I s ru
    cases x with
    | d d => exact (show EvV M G H Q (.fz d) from q) u G' H' I.ext ru
    | r i =>
      obtain ⟨a, ea, rfl⟩ := ru
      have hB := I.nB a (List.mem_of_getElem? ea)
      unfold LR.out at q
      simp only at q
      split at q
      · rename_i vs eo
        have ob := I.ob i a _ ea eo
        split at q
        · rename_i ds ed
          obtain ⟨us, b1, b2⟩ := ob
          rw [mapO_dat ed] at b2
          exact (show EvV M G H Q (.fr (.lst ds)) from q) a G' H' I.ext hB.1 hB.2 ⟨us, b1, b2.toReps⟩
        · split at q
          · rename_i d ed
            exact (show EvV M G H Q (.fz d) from q) _ _ H' (frzG_ext I) (snap_rep I 8 _ _ _ ed ⟨a, ea, rfl⟩)
          · exact q.elim
      · rename_i c fs eo
        have ob := I.ob i a _ ea eo
        split at q
        · rename_i ds ed
          obtain ⟨C, dx, ws, k, b1, b2, b3, b4, b5⟩ := ob
          exact (show EvV M G H Q (.fr (.obj c ds)) from q) a G' H' I.ext hB.1 hB.2 ⟨C, dx, ws, k, b1, b2, b3, b4, mapF_dat ed b5⟩
        · split at q
          · rename_i d ed
            exact (show EvV M G H Q (.fz d) from q) _ _ H' (frzG_ext I) (snap_rep I 8 _ _ _ ed ⟨a, ea, rfl⟩)
          · exact q.elim
      · exact q.elim
/-- a def's promise -/
def spD (M : Md) (p : Prg) (d : DefS) (n : Nat) : Sp := if d.lb.isSome = true then spL M d.ps.length (p.lval d n) else spOf M d.ps.length (p.val d n)
theorem spL_of {d : DefS} (hl : d.lb.isSome = true) {n : Nat} : ∀ vs H Q E, spOf M d.ps.length (p.val d n) vs H Q E → spL M d.ps.length (p.lval d n) vs H Q E := fun vs H Q E ⟨h1, G, ds, sm, r, z⟩ => by
  refine ⟨h1, ⟨G, H, []⟩, [], [], G, ds.map .d, ⟨Ext.refl sm, List.prefix_refl _, rfl, List.nodup_nil, fun a ha => (by cases ha), fun i a o e => (by simp at e)⟩, RLs.ofReps r, ?_⟩
  obtain ⟨b, hb⟩ := Option.isSome_iff_exists.mp hl
  cases n with
  | zero => exact z.elim
  | succ n =>
    have z : GOk M E G H (EvV M G H Q) (d.valP (p.ltb n) ds) := z
    show LOk _ _ _ _ _ _ (d.valL (p.ltb n) (ds.map .d) [])
    unfold DefS.valP at z
    unfold DefS.valL
    rw [hb] at z ⊢
    exact out_ok z
theorem fnok_imp {P : Program} {w : World} {K : PySem.W.Frag} {mg : Str → Option Value} {base : Heap} {CX : CXT} {k : Nat} {f : Addr} {fd : FuncData} {ps : List Str} {sp sp' : Sp} (F : FnOk P w K mg base CX k f fd ps sp)
    (h : ∀ vs H Q E, sp' vs H Q E → sp vs H Q E) : FnOk P w K mg base CX k f fd ps sp' := F.imp h
/-- one def, of which the depth below is known -/
theorem Fx.one' (F : Fx p nm M) {n : Nat} (hn : ∀ d, d ∈ p.defs → ∃ fa fd, FnOk M.P M.w M.K M.mg M.base (L2.CX M.P M.w) (n + 1) fa fd d.ps (spD M p d n) ∧ M.mg d.name = some (.ref fa) ∧ PySem.W.keepIn M.K (.ref fa) = true ∧ Binds M.K fd d.ps [])
    {d : DefS} (hd : d ∈ p.defs) {fa : Addr} {fd : FuncData} (h1 : FunD M.K d.name d.name (defArgs d.st) (defBody d.st) (defScope d.st) [] [] fa fd) :
    FnOk M.P M.w M.K M.mg M.base (L2.CX M.P M.w) (n + 2) fa fd d.ps (spD M p d (n + 1)) := by
  have hP : ∀ d, d ∈ p.defs → ∃ fa fd, FnOk M.P M.w M.K M.mg M.base (L2.CX M.P M.w) (n + 1) fa fd d.ps (spOf M d.ps.length (p.val d n)) ∧ M.mg d.name = some (.ref fa) ∧ PySem.W.keepIn M.K (.ref fa) = true ∧ Binds M.K fd d.ps [] := fun d hd => by
    obtain ⟨fa, fd, h1, h2⟩ := hn d hd
    refine ⟨fa, fd, ?_, h2⟩
    unfold spD at h1
    by_cases hl : d.lb.isSome = true
    · rw [if_pos hl] at h1
      exact fnok_imp h1 (spL_of hl)
    · rw [if_neg hl] at h1; exact h1
  have hc := F.chk d hd
  unfold chkD at hc
  simp only [Bool.and_eq_true, decide_eq_true_eq] at hc
  obtain ⟨hc1, hc2, hc3⟩ := hc
  have S := scB_ok hc2
  have hpl : d.ps.length = d.k := by unfold DefS.ps; rw [List.length_take]; omega
  unfold spD
  unfold chkB at hc1
  cases hlb : d.lb with
  | none =>
    rw [hlb] at hc1
    rw [if_neg (by simp)]
    refine FunD.ok h1 S (fun vs H Q E h => h.1) (fun cdv A outer s H vs Q E hr h => ?_)
    obtain ⟨hl, G, ds, sm, r, h⟩ := h
    have kx := F.kx hP hd S (f := fa) (cdv := cdv) (outer := outer) (H := H) (E := E) hr
    have h' : GOk M E G H (EvV M G H Q) (d.valP (p.ltb n) ds) := h
    unfold DefS.valP at h'
    rw [hlb] at h'
    have h' : GOk M E G H (EvV M G H Q) (evDef (p.tb n) d.N.length d.k d.body ds) := h'
    unfold evDef at h'
    rw [if_pos (by rw [← r.length, hl, hpl])] at h'
    refine ⟨_, ?_, sndSs d.body kx _ hc1 (start_rel sm r) (body_ok h')⟩
    exact pss_w (Xs := fun X => X = cxOf (L2.CX M.P M.w) M.P M.w M.K M.mg M.base d.N d.name (defScope d.st) fa cdv A outer s H E) rfl
  | some bq =>
    rw [hlb] at hc1
    rw [if_pos (by simp)]
    refine FunD.ok h1 S (fun vs H Q E h => h.1) (fun cdv A outer s H vs Q E hr h => ?_)
    obtain ⟨hl, b, as, hp, G, xs, I, r, h⟩ := h
    have kx := F.kx hP hd S (f := fa) (cdv := cdv) (outer := outer) (H := H) (E := E) hr
    have h' : LOk M b E as G (LVv M b as G Q) (d.valL (p.ltb n) xs hp) := h
    unfold DefS.valL at h'
    rw [hlb] at h'
    have h' : LOk M b E as G (LVv M b as G Q) (levDef (p.ltb n) d.N.length d.k bq xs hp) := h'
    unfold levDef at h'
    rw [if_pos (by rw [← r.length, hl, hpl])] at h'
    have lk : Lk (fun X => X = cxOf (L2.CX M.P M.w) M.P M.w M.K M.mg M.base d.N d.name (defScope d.st) fa cdv A outer s H E) M (p.ltb n) (fun cls dx _ H' => E cls dx H') (csOf nm d) := by
      refine ⟨kx, fun _ f hf => ?_⟩
      have hf : f ∈ p.lfs := hf
      rw [F.lf] at hf
      obtain ⟨d', hd', hl'⟩ := F.lfs f hf
      have hm := List.mem_of_find?_eq_some hd'
      have he : d'.name = f := by have := List.find?_some hd'; simpa using this
      obtain ⟨fa', fd', h1', h2', h3', h4'⟩ := hn d' hm
      unfold spD at h1'
      rw [if_pos hl'] at h1'
      have hk : d'.k ≤ d'.N.length := by
        have := F.chk d' hm
        unfold chkD at this
        simp only [Bool.and_eq_true, decide_eq_true_eq] at this
        exact this.2.2
      have hpl' : d'.ps.length = d'.k := by unfold DefS.ps; rw [List.length_take]; omega
      refine ⟨n + 1, fa', fd', d'.ps, ?_, by rintro X rfl; exact hr, by rw [← he]; exact h2', h3', h4', fun xs hh hxs => ?_⟩
      · show FnOk _ _ _ _ _ _ _ _ _ _ (spL M _ (p.lcall n f))
        rw [F.lcall_eq hd' n]; exact h1'
      · show p.lcall n f xs hh = .st
        rw [F.lcall_eq hd' n]
        cases n with
        | zero => rfl
        | succ n =>
          show d'.valL _ xs hh = _
          obtain ⟨b', hb'⟩ := Option.isSome_iff_exists.mp hl'
          unfold DefS.valL
          rw [hb']
          show levDef _ _ _ b' xs hh = _
          unfold levDef
          rw [if_neg (by rw [← hpl']; exact hxs)]
    have hc1 : chkQs (p.ltb n).fs bq (csOf nm d) (defBody d.st) = true := by
      show chkQs p.lfs bq _ _ = true
      rw [F.lf]; exact hc1
    refine ⟨_, ?_, sndQs bq lk _ hc1 ((lstart_rel (N := d.N) I r).mv) (lbody_ok I h')⟩
    exact pss_w (Xs := fun X => X = cxOf (L2.CX M.P M.w) M.P M.w M.K M.mg M.base d.N d.name (defScope d.st) fa cdv A outer s H E) rfl
/-- THE RULE: every def of the program keeps its promise, at every depth of calls -/
theorem Fx.all (F : Fx p nm M) : ∀ n, ∀ d, d ∈ p.defs → ∃ fa fd, FnOk M.P M.w M.K M.mg M.base (L2.CX M.P M.w) (n + 1) fa fd d.ps (spD M p d n) ∧ M.mg d.name = some (.ref fa) ∧ PySem.W.keepIn M.K (.ref fa) = true ∧ Binds M.K fd d.ps []
  | 0, d, hd => by
    obtain ⟨fa, fd, h1, h2, h3⟩ := F.fd d hd
    refine ⟨fa, fd, ?_, h2, h1.kp, h3⟩
    unfold spD
    by_cases hl : d.lb.isSome = true
    · rw [if_pos hl]
      exact ⟨fun vs H Q E h => h.1, fun A outer s H args us vs Q E hr e0 hb hv h => by
        obtain ⟨_, _, _, _, _, _, _, _, z⟩ := h
        exact z.elim⟩
    · rw [if_neg hl]
      exact ⟨fun vs H Q E h => h.1, fun A outer s H args us vs Q E hr e0 hb hv h => by
        obtain ⟨_, G, ds, _, _, z⟩ := h
        exact z.elim⟩
  | n + 1, d, hd => by
    obtain ⟨fa, fd, h1, h2, h3⟩ := F.fd d hd
    exact ⟨fa, fd, F.one' (Fx.all F n) hd h1, h2, h1.kp, h3⟩
/-- the promise for frozen data -/
theorem Fx.one (F : Fx p nm M) {n : Nat} (hn : ∀ d, d ∈ p.defs → ∃ fa fd, FnOk M.P M.w M.K M.mg M.base (L2.CX M.P M.w) (n + 1) fa fd d.ps (spD M p d n) ∧ M.mg d.name = some (.ref fa) ∧ PySem.W.keepIn M.K (.ref fa) = true ∧ Binds M.K fd d.ps [])
    {d : DefS} (hd : d ∈ p.defs) {fa : Addr} {fd : FuncData} (h1 : FunD M.K d.name d.name (defArgs d.st) (defBody d.st) (defScope d.st) [] [] fa fd) :
    FnOk M.P M.w M.K M.mg M.base (L2.CX M.P M.w) (n + 2) fa fd d.ps (spOf M d.ps.length (p.val d (n + 1))) := by
  have q := F.one' hn hd h1
  unfold spD at q
  by_cases hl : d.lb.isSome = true
  · rw [if_pos hl] at q
    exact fnok_imp q (spL_of hl)
  · rw [if_neg hl] at q; exact q
end
/-- exceptions told more weakly -/
theorem fnok_cx {P : Program} {w : World} {K : PySem.W.Frag} {mg : Str → Option Value} {base : Heap} {CX CX' : CXT} {k : Nat} {f : Addr} {fd : FuncData} {ps : List Str} {sp : Sp} (F : FnOk P w K mg base CX k f fd ps sp)
    (h : ∀ outer H s E u s', CX outer H s E u s' → CX' outer H s E u s') : FnOk P w K mg base CX' k f fd ps sp :=
  ⟨F.len, fun A outer s H args us vs Q E hr e0 hb hv hs => codeAny_mono (F.run A outer s H args us vs Q E hr e0 hb hv hs) fun r s' q => by
    cases r with
    | error e => exact h _ _ _ _ _ _ q
    | ok fl => cases fl <;> exact q⟩
/-- some exception is wished for -/
def CXs : CXT := fun _ _ _ E _ _ => ∃ cls d H, E cls d H
theorem cxs_of {P : Program} {w : World} : ∀ outer H s E u s', L2.CX P w outer H s E u s' → CXs outer H s E u s' := fun outer H s E u s' h => by
  obtain ⟨_, _, _, _, _, _, _, _, _, _, _, _, z⟩ := h
  exact ⟨_, _, _, z⟩
end PX

set_option Elab.async false
set_option linter.all false
set_option maxRecDepth 100000
set_option maxHeartbeats 4000000
/-! Px15: what the head has to say of the program's names, as one Bool. -/
namespace PX
open PySem PySem.Spec PyProof.Rows L2

/-- the tables of a program: names that are free, constants, exception classes (class, class, is it below) -/
structure Hd where
  bl : List Str
  gl : Bool
  cs : List (Str × D)
  xs : List ((Str × Str) × Bool)
  ex0 : List Str
  xfl : List Str
  oc : List Str
  flds : List Str
def gvB (K : PySem.W.Frag) (x : Str) (v : Value) : Bool := He.eqO (PySem.W.nsIn K mainGlobals x) (some (some v))
def gfB (K : PySem.W.Frag) (x : Str) : Bool := He.eqO (PySem.W.nsIn K mainGlobals x) (some none)
def glB (K : PySem.W.Frag) (x : Str) : Bool := gvB K x (.ref (He.ga K x))
def csB1 (K : PySem.W.Frag) (x : Str) : D → Bool
  | .int i => (He.Fa.int x i).ok K
  | .str s => (He.Fa.str x s).ok K
  | _ => false
def excB (K : PySem.W.Frag) (D : Addr) : Bool :=
  He.eqO (PySem.W.findIn K (.ref D) "__getattribute__") (some (some (.builtin "BaseException.__getattribute__"))) && (He.eqO (PySem.W.findIn K (.ref D) "__getattr__") (some none) &&
  (decide (PySem.W.subIn K (.ref D) (.type "BaseException") = some true) && (PySem.W.hasDictIn K D && (He.eqO (PySem.W.findIn K (.ref D) "__class__") (some (some (.builtin "object.__class__"))) &&
  (He.eqO (PySem.W.specialIn K (.builtin "object.__class__") "__get__") (some (some (.builtin "getset_descriptor.__get__"))) && (decide (PySem.W.takesIn K (.builtin "object.__class__") = some true) && decide (PySem.W.mroIn K D (.type "object") = some true)))))))
theorem excB_ok {K : PySem.W.Frag} {D : Addr} (h : excB K D = true) : ExcC K D := by
  unfold excB at h
  simp only [Bool.and_eq_true, decide_eq_true_eq] at h
  obtain ⟨h1, h2, h3, h4, h5, h6, h7, h8⟩ := h
  exact ⟨He.eqO_ok h1, He.eqO_ok h2, h3, h4, He.eqO_ok h5, He.eqO_ok h6, h7, h8⟩
def valB (K : PySem.W.Frag) (cc : Str) (u : Value) (b : Bool) : Bool :=
  decide (PySem.W.exmOne K (.ref (He.ga K cc)) u = some b) && decide (PySem.W.kitOne K (.ref (He.ga K cc)) u = some b)
def xcB1 (K : PySem.W.Frag) (cc C : Str) (b : Bool) : Bool :=
  glB K cc && (excB K (He.ga K cc) && ((glB K C && valB K cc (.ref (He.ga K C)) b) || (gfB K C && (decide (bootBuiltins C = some (.type C.toString)) && valB K cc (.type C.toString) b))))
def ex0B (K : PySem.W.Frag) (C : Str) : Bool := glB K C && (He.Fa.exc C).ok K
def xfB1 (K : PySem.W.Frag) (cc f : Str) : Bool := xfB K (He.ga K cc) && He.eqO (PySem.W.findIn K (.ref (He.ga K cc)) f) (some none)
def ocB1 (K : PySem.W.Frag) (cl f : Str) : Bool := glB K cl && ((He.Fa.cls cl).ok K && (He.Fa.noat cl f).ok K)
def Hd.ok (t : Hd) (fs : List Str) (K : PySem.W.Frag) : Bool :=
  fs.all (glB K) && (t.bl.all (gfB K) && ((!t.gl || (gvB K "gcd" (.builtin "math.gcd") && gvB K "lcm" (.builtin "math.lcm"))) && (t.cs.all (fun q => csB1 K q.1 q.2) &&
    (t.xs.all (fun q => xcB1 K q.1.1 q.1.2 q.2 && (!(decide (q.1.1 = q.1.2)) || t.xfl.all (xfB1 K q.1.1))) && (t.ex0.all (ex0B K) && t.oc.all fun c => t.flds.all fun f => ocB1 K c f)))))
/-- the Hook: the defs, and one Bool more -/
def defD (d : DefS) : He.DefD := ⟨(d.name, none), d.name, d.name, defArgs d.st, defBody d.st, defScope d.st, [], []⟩
abbrev AlP : Type := He.AlD × Bool
def obsP (fn : List He.DefD) (ck : PySem.W.Frag → Bool) (K : PySem.W.Frag) : AlP := (He.obsD [] fn K, ck K)
def obsPG (n : Nat) (fn : List He.DefD) (ck : PySem.W.Frag → Bool) (g : Addr → Option Obj) : AlP := obsP fn ck (He.frG g (He.asD g n))
def hookP (n : Nat) (fn : List He.DefD) (ck : PySem.W.Frag → Bool) : PySem.W.Hook where
  α := AlP
  obs := fun s => obsPG n fn ck s.heap.get?
  val := fun _ => (He.valD fn, true)
  says := fun _ h => ∃ K : PySem.W.Frag, K.In h ∧ He.SaysD [] fn K ∧ ck K = true
  of := fun _ _ e => ⟨_, He.frG_in, congrArg (fun z : AlP => z.1) e, congrArg (fun z : AlP => z.2) e⟩
  keeps := fun _ _ _ ⟨K, hK, c⟩ k => ⟨K, PySem.W.Frag.In.keeps hK k, c⟩
theorem obsPG_eq {n : Nat} {fn : List He.DefD} {ck : PySem.W.Frag → Bool} {g : Addr → Option Obj} {s : Shared} (h : ∀ a, g a = s.heap.get? a) : obsPG n fn ck g = (hookP n fn ck).obs s := by
  have e : g = s.heap.get? := funext h
  rw [e] <;> rfl
theorem lookup_in {α β : Type} [BEq α] [LawfulBEq α] {a : α} {b : β} : ∀ {l : List (α × β)}, l.lookup a = some b → (a, b) ∈ l
  | [], h => by cases h
  | (c, d) :: r, h => by
    rw [List.lookup_cons] at h
    split at h
    · rename_i e
      cases h
      rw [eq_of_beq e]; exact List.mem_cons_self
    · exact List.mem_cons_of_mem _ (lookup_in h)
section
variable {p : Prg} {nm : Nm} {t : Hd} {fs : List Str} {K : PySem.W.Frag} {h : Heap} {mg : Str → Option Value}
theorem gv_ok (X : K.In h) (G : h.Ns mainGlobals mg) {x : Str} {v : Value} (c : gvB K x v = true) : mg x = some v := PySem.W.mg_of X G (He.eqO_ok c)
theorem gf_ok (X : K.In h) (G : h.Ns mainGlobals mg) {x : Str} (c : gfB K x = true) : mg x = none := PySem.W.mg_none_of X G (He.eqO_ok c)
theorem ref_inj {a b : Addr} {x : Str} (h1 : mg x = some (.ref a)) (h2 : mg x = some (.ref b)) : a = b := by rw [h1] at h2; cases h2; rfl
/-- a program's facts out of the head's -/
theorem fx_of (X : K.In h) (G : h.Ns mainGlobals mg) (c : He.SaysD [] (p.defs.map defD) K) (c2 : t.ok (p.defs.map (·.name)) K = true) (P : Program) (w : World) (base : Heap)
    (chk : ∀ d, d ∈ p.defs → chkD nm d = true)
    (hb : ∀ d, d ∈ p.defs → ∀ (kV doc pm : Value) (an : Option Addr) (cdv ct : Value) (us : List Value), us.length = d.ps.length → bindArgs (PySem.W.fnOf d.name d.name (defArgs d.st) (defBody d.st) (defScope d.st) .none kV doc pm an cdv ct) ⟨us, []⟩ = pure (d.ps.zip us))
    (fns : ∀ f, f ∈ nm.fns → (p.defs.find? fun d => d.name == f).isSome = true) (lf : p.lfs = nm.lfs) (lfs : ∀ f, f ∈ nm.lfs → ∃ d, (p.defs.find? fun d => d.name == f) = some d ∧ d.lb.isSome = true)
    (bl : nm.bl = t.bl) (im : t.gl = true ∨ nm.im = []) (hcs : p.cst = fun x => t.cs.lookup x) (hxs : p.sub = fun a b => t.xs.lookup (a, b)) (hx0 : nm.ex0 = t.ex0) (hfl : nm.flds = t.flds) (hxf : nm.xfl = t.xfl) (hoc : p.oc = fun c => t.oc.contains c)
    (hxl : ∀ C, C ∈ nm.exl → ∃ b, ((C, C), b) ∈ t.xs)
    (ex1 : ∀ C fs, (C, fs) ∈ nm.ex1 → ∃ D, mg C = some (.ref D) ∧ ∀ X : Cx, X.K = K → X.mg = mg → X.prog = P → X.w = w → X.base = base → Room 1 X.A → Gl X C → (C == ("__debug__" : Str)) = false → ∀ e es p pos ta, (e :: es).all nst = true → (e :: es).length = fs.length → PA X (e :: es) ta →
      PMk X (.Call (.Name C p) (e :: es) [] pos) (fun σ H Q => ta σ H fun vs H1 => vs.length = fs.length ∧ ∀ d, H1 d = none → Q (.ref D) (some d) (upd H1 d (.xd (fs.zip vs))))) :
    Fx p nm ⟨K, mg, P, w, base, none⟩ := by
  unfold Hd.ok at c2
  simp only [Bool.and_eq_true, List.all_eq_true, Bool.or_eq_true, Bool.not_eq_true', decide_eq_false_iff_not] at c2
  obtain ⟨k1, k2, k3, k4, k5, k6, k7⟩ := c2
  have gl : ∀ {x : Str}, glB K x = true → mg x = some (.ref (He.ga K x)) := fun {x} q => gv_ok X G q
  refine ⟨rfl, chk, fun d hd => ?_, fns, lf, lfs, fun x hx => gf_ok X G (k2 x (bl ▸ hx)), fun hx => ?_, fun hx => ?_, fun x d hx => ?_, fun cl C f h1 h2 h3 => ?_, fun cc C b h1 D h2 => ?_, fun cc b h1 D h2 f hf => ?_, fun C hC => ?_, fun C hC => ?_, ex1⟩
  · obtain ⟨i, hi, e⟩ := List.mem_iff_getElem.mp hd
    obtain ⟨fd, F⟩ := c.def_ i (d := defD d) (by rw [List.getElem?_map, List.getElem?_eq_getElem hi, e]; rfl)
    have F : FunD K d.name d.name (defArgs d.st) (defBody d.st) (defScope d.st) [] [] (He.ga K d.name) fd := F
    exact ⟨He.ga K d.name, fd, F, gl (k1 _ (List.mem_map.mpr ⟨d, hd, rfl⟩)), F.bindsN (hb d hd)⟩
  · rcases im with im | im
    · rcases k3 with k3 | k3
      · rw [im] at k3; cases k3
      · exact gv_ok X G k3.1
    · rw [im] at hx; cases hx
  · rcases im with im | im
    · rcases k3 with k3 | k3
      · rw [im] at k3; cases k3
      · exact gv_ok X G k3.2
    · rw [im] at hx; cases hx
  · rw [hcs] at hx
    have q := k4 _ (lookup_in hx)
    cases d with
    | int i =>
      obtain ⟨tk, e⟩ := He.int_ok X G (show (He.Fa.int x i).ok K = true from q)
      exact ⟨_, .int i, e, ⟨tk, rfl⟩, fun _ => Rep.int⟩
    | str s =>
      obtain ⟨tk, e⟩ := He.str_ok X G (show (He.Fa.str x s).ok K = true from q)
      exact ⟨_, .str s, e, ⟨tk, rfl⟩, fun _ => Rep.str⟩
    | _ => cases q
  · rw [hoc] at h1
    have h2 : mg cl = some (.ref C) := h2
    have q := k7 cl (by simpa using h1) f (hfl ▸ h3)
    unfold ocB1 at q
    simp only [Bool.and_eq_true] at q
    obtain ⟨q1, q2, q3⟩ := q
    obtain rfl := ref_inj h2 (gl q1)
    exact ⟨He.cls_ok q2, He.noat_ok q3⟩
  · rw [hxs] at h1
    have h2 : mg cc = some (.ref D) := h2
    have q := (k5 _ (lookup_in h1)).1
    unfold xcB1 at q
    simp only [Bool.and_eq_true, Bool.or_eq_true] at q
    obtain ⟨q1, q2, q3⟩ := q
    obtain rfl := ref_inj h2 (gl q1)
    refine ⟨excB_ok q2, ?_⟩
    rcases q3 with ⟨q3, q4⟩ | ⟨q3, q4, q5⟩
    · unfold valB at q4
      simp only [Bool.and_eq_true, decide_eq_true_eq] at q4
      exact ⟨.ref (He.ga K C), _, rfl, fun u' z => z, .inl (gl q3), q4.1, q4.2⟩
    · unfold valB at q5
      simp only [Bool.and_eq_true, decide_eq_true_eq] at q4 q5
      exact ⟨.ty C.toString, _, rfl, fun u' z => z, .inr ⟨gf_ok X G q3, q4⟩, q5.1, q5.2⟩
  · rw [hxs] at h1
    have h2 : mg cc = some (.ref D) := h2
    have q := k5 _ (lookup_in h1)
    have q1 := q.1
    unfold xcB1 at q1
    simp only [Bool.and_eq_true] at q1
    obtain rfl := ref_inj h2 (gl q1.1)
    rcases q.2 with z | z
    · exact absurd rfl z
    · have z2 := z f (hxf ▸ hf)
      unfold xfB1 at z2
      rw [Bool.and_eq_true] at z2
      exact ⟨xfB_ok z2.1, He.eqO_ok z2.2⟩
  · obtain ⟨b, hb⟩ := hxl C hC
    have q := (k5 _ hb).1
    unfold xcB1 at q
    simp only [Bool.and_eq_true] at q
    exact ⟨_, .inl (gl q.1)⟩
  · have q := k6 C (hx0 ▸ hC)
    unfold ex0B at q
    rw [Bool.and_eq_true] at q
    obtain ⟨e1, e2, e3, e4⟩ := He.exc_ok q.2
    exact ⟨_, gl q.1, e1, e2, e3, e4⟩
end
/-- the law: what its evaluation gives is what the law asks -/
theorem law_sp {M : Md} {F : List D → R EV} {H : Hp} {a : Addr} {ns : List Int} (hS : SqL M.K H a (ns.map V.int)) {Q : VK} {E : XK} (hQ : ∀ H, Q (.bl true) H) (h : F [.scr ns] = .ok (.fz (.bl true))) : spOf M 1 F [.ref a] H Q E := by
  refine ⟨rfl, H, [.scr ns], Same.refl _, ?_, ?_⟩
  · unfold Reps
    exact ⟨.ref a, [], rfl, by unfold Rep; exact ⟨a, rfl, hS⟩, by unfold Reps; rfl⟩
  · rw [h]
    intro v G' H' _ r
    unfold Rep at r
    rw [r]
    exact hQ H'
/-- as walk_ofE, the script's numbers being of a million bits at most -/
theorem walk_px {l : PySem.W.OpenLaw} {n k : Nat} {q : Program} {loose : List Str} {XP : (Str → Option Value) → Heap → Prop} {YP : World → Heap → Prop} {d : DefRec} {CX : CXT} {x : Str}
    (hn : l.most = some n) (hn2 : n ≤ sizeLine) (hdf : d.params.defaults = []) (hr : Room k callerA)
    (F : ∀ (w : World) (mg : Str → Option Value) (fa : Addr) (h : Heap), YP w h → h.Ns mainGlobals mg → mg d.name = some (.ref fa) →
      ∃ (K : PySem.W.Frag) (fd : FuncData) (sp : Sp), K.In h ∧ (∀ (s : Shared) (u : Value), BindsTo s fd ⟨[u], []⟩ [(x, u)]) ∧
        (∀ (H : Hp) (a : Addr) (ns : List Int), ns.length ≤ n → (∀ k, k ∈ ns → Builtin.Int.intBits k ≤ 1048576) → Only H → SqL K H a (ns.map V.int) → sp [.ref a] H (fun v _ => v = .bl true) fun _ _ _ => False) ∧
        ∀ base : Heap, K.In base → base.Ns mainGlobals mg → FnOk l.prog w K mg base CX k fa fd [x] sp)
    (hCX : ∀ (H : Hp) (s : Shared) (e : Value) (s' : Shared), CX [] H s (fun _ _ _ => False) e s' → False) :
    PySem.W.WalkO q loose XP YP l.row.toRowW d [] (fun f vs => PySem.call f vs) := by
  refine Att.attach_callB hn hdf fun w s₀ s₁ mg mb fa o pm cd doc a vs ns G Y ho hd hcd hmg hobj hints hlen hbits hg => ?_
  obtain ⟨K, fd, sp, KX, hb, hsp, hF⟩ := F w mg fa _ Y G.T.g hmg
  have hl2 := Nat.le_trans hlen hn2
  exact law_call KX G.T.g G.T.b G.T.builtins G.T.nolimit hg hobj hints hl2 hr hF hb (fun H hO hS => hsp H a ns hlen hbits hO hS)
    fun H e s' => hCX H s₁ e s'
/-- the law's part of the head: what walk_ofE asks -/
theorem law_walk {p : Prg} {nm : Nm} {P : Program} {K : PySem.W.Frag} {h : Heap} {mg : Str → Option Value} {w : World} {d : DefS} {i n m : Nat} {x : Str} {fa : Addr} (X : K.In h) (G : h.Ns mainGlobals mg) (c : He.SaysD [] (p.defs.map defD) K)
    (hi : p.defs[i]? = some d) (hx : d.ps = [x]) (hg : glB K d.name = true) (hfa : mg d.name = some (.ref fa)) (hF : ∀ base : Heap, K.In base → base.Ns mainGlobals mg → Fx p nm ⟨K, mg, P, w, base, none⟩)
    (hb : ∀ (kV doc pm : Value) (an : Option Addr) (cdv ct : Value) (us : List Value), us.length = d.ps.length → bindArgs (PySem.W.fnOf d.name d.name (defArgs d.st) (defBody d.st) (defScope d.st) .none kV doc pm an cdv ct) ⟨us, []⟩ = pure (d.ps.zip us))
    (hlaw : ∀ ns : List Int, ns.length ≤ m → (∀ k, k ∈ ns → Builtin.Int.intBits k ≤ 1048576) → p.val d (n + 1) [.scr ns] = .ok (.fz (.bl true))) :
    ∃ (K : PySem.W.Frag) (fd : FuncData) (sp : Sp), K.In h ∧ (∀ (s : Shared) (u : Value), BindsTo s fd ⟨[u], []⟩ [(x, u)]) ∧
      (∀ (H : Hp) (a : Addr) (ns : List Int), ns.length ≤ m → (∀ k, k ∈ ns → Builtin.Int.intBits k ≤ 1048576) → Only H → SqL K H a (ns.map V.int) → sp [.ref a] H (fun v _ => v = .bl true) fun _ _ _ => False) ∧
      ∀ base : Heap, K.In base → base.Ns mainGlobals mg → FnOk P w K mg base CXs (n + 2) fa fd [x] sp := by
  obtain ⟨fd, F⟩ := c.def_ i (d := defD d) (by rw [List.getElem?_map, hi]; rfl)
  have F : FunD K d.name d.name (defArgs d.st) (defBody d.st) (defScope d.st) [] [] (He.ga K d.name) fd := F
  have e := ref_inj hfa (gv_ok X G hg)
  subst e
  refine ⟨K, fd, fun vs H Q _ => ∃ (a : Addr) (ns : List Int), vs = [.ref a] ∧ (ns.length ≤ m ∧ ∀ k, k ∈ ns → Builtin.Int.intBits k ≤ 1048576) ∧ SqL K H a (ns.map V.int) ∧ ∀ H', Q (.bl true) H', X, fun s u => ?_, fun H a ns hl hk _ hS => ⟨a, ns, rfl, ⟨hl, hk⟩, hS, fun _ => rfl⟩, fun base KX GX => ?_⟩
  · have q := FunD.bindsA (ps := d.ps) F hb s [u] (by rw [hx]; rfl)
    rw [hx] at q
    exact q
  · have Z := hF base KX GX
    have q := Z.one (Z.all n) (List.mem_of_getElem? hi) F
    rw [hx] at q
    have q2 : FnOk P w K mg base (L2.CX P w) (n + 2) (He.ga K d.name) fd [x] (spOf ⟨K, mg, P, w, base, none⟩ 1 (p.val d (n + 1))) := q
    refine fnok_cx (q2.imp fun vs H Q E z => ?_) cxs_of
    obtain ⟨a, ns, rfl, hl, hS, hQ⟩ := z
    exact law_sp (M := ⟨K, mg, P, w, base, none⟩) hS hQ (hlaw ns hl.1 hl.2)
end PX

set_option Elab.async false
set_option linter.all false
set_option maxRecDepth 100000
/-! Bx: bodies. -/
namespace Bx
open PySem PySem.Spec PX
/-- ratio: 3 slots, 2 parameters -/
def ratio : List S := [
  .iff (.cmp .Eq (.var 1) (.int 0)) [.rais "ZeroBottom" [] [] []] [] [1],
  .iff (.cmp .Lt (.var 1) (.int 0)) [.par 0 1 (.neg (.var 0)) (.neg (.var 1)) [0, 1]] [] [1],
  .asg (.nm 2) (.bi .gcd [.var 0, .var 1]) [0, 1],
  .iff (.cmp .Eq (.var 2) (.var 1)) [.ret (.bin .FloorDiv (.var 0) (.var 2)) [0, 2]] [] [1, 2],
  .ret (.tup [.bin .FloorDiv (.var 0) (.var 2), .bin .FloorDiv (.var 1) (.var 2)]) [0, 1, 2]]
/-- is_whole: 1 slots, 1 parameters -/
def is_whole : List S := [
  .ret (.nt (.bi .isI [.var 0, .tyn "tuple" "tuple"])) [0]]
/-- top_of: 1 slots, 1 parameters -/
def top_of : List S := [
  .iff (.bi .isI [.var 0, .tyn "tuple" "tuple"]) [.ret (.ix (.var 0) (.int 0)) [0]] [] [0],
  .retv 0]
/-- bottom_of: 1 slots, 1 parameters -/
def bottom_of : List S := [
  .iff (.bi .isI [.var 0, .tyn "tuple" "tuple"]) [.ret (.ix (.var 0) (.int 1)) [0]] [] [0],
  .ret (.int 1) []]
/-- plus: 2 slots, 2 parameters -/
def plus : List S := [
  .iff (.and (.call "is_whole" [.var 0]) (.call "is_whole" [.var 1])) [.ret (.bin .Add (.var 0) (.var 1)) [0, 1]] [] [0, 1],
  .ret (.call "ratio" [.bin .Add (.bin .Mult (.call "top_of" [.var 0]) (.call "bottom_of" [.var 1])) (.bin .Mult (.call "top_of" [.var 1]) (.call "bottom_of" [.var 0])), .bin .Mult (.call "bottom_of" [.var 0]) (.call "bottom_of" [.var 1])]) [0, 1]]
/-- minus: 2 slots, 2 parameters -/
def minus : List S := [
  .iff (.and (.call "is_whole" [.var 0]) (.call "is_whole" [.var 1])) [.ret (.bin .Sub (.var 0) (.var 1)) [0, 1]] [] [0, 1],
  .ret (.call "ratio" [.bin .Sub (.bin .Mult (.call "top_of" [.var 0]) (.call "bottom_of" [.var 1])) (.bin .Mult (.call "top_of" [.var 1]) (.call "bottom_of" [.var 0])), .bin .Mult (.call "bottom_of" [.var 0]) (.call "bottom_of" [.var 1])]) [0, 1]]
/-- times: 2 slots, 2 parameters -/
def times : List S := [
  .iff (.and (.call "is_whole" [.var 0]) (.call "is_whole" [.var 1])) [.ret (.bin .Mult (.var 0) (.var 1)) [0, 1]] [] [0, 1],
  .ret (.call "ratio" [.bin .Mult (.call "top_of" [.var 0]) (.call "top_of" [.var 1]), .bin .Mult (.call "bottom_of" [.var 0]) (.call "bottom_of" [.var 1])]) [0, 1]]
/-- over: 2 slots, 2 parameters -/
def over : List S := [
  .iff (.cmp .Eq (.call "top_of" [.var 1]) (.int 0)) [.rais "ZeroBottom" [] [] []] [] [1],
  .ret (.call "ratio" [.bin .Mult (.call "top_of" [.var 0]) (.call "bottom_of" [.var 1]), .bin .Mult (.call "bottom_of" [.var 0]) (.call "top_of" [.var 1])]) [0, 1]]
/-- less: 2 slots, 2 parameters -/
def less : List S := [
  .ret (.cmp .Lt (.bin .Mult (.call "top_of" [.var 0]) (.call "bottom_of" [.var 1])) (.bin .Mult (.call "top_of" [.var 1]) (.call "bottom_of" [.var 0]))) [0, 1]]
/-- floor_of: 1 slots, 1 parameters -/
def floor_of : List S := [
  .ret (.bin .FloorDiv (.call "top_of" [.var 0]) (.call "bottom_of" [.var 0])) [0]]
/-- ceiling_of: 1 slots, 1 parameters -/
def ceiling_of : List S := [
  .ret (.neg (.bin .FloorDiv (.neg (.call "top_of" [.var 0])) (.call "bottom_of" [.var 0]))) [0]]
/-- nearest: 1 slots, 1 parameters -/
def nearest : List S := [
  .ret (.bin .FloorDiv (.bin .Add (.bin .Mult (.int 2) (.call "top_of" [.var 0])) (.call "bottom_of" [.var 0])) (.bin .Mult (.int 2) (.call "bottom_of" [.var 0]))) [0]]
def common_bottom_b1 : List S := [.asg (.nm 1) (.bi .lcm [.var 1, .call "bottom_of" [.var 2]]) [1, 2]]
/-- common_bottom: 3 slots, 1 parameters -/
def common_bottom : List S := [
  .asg (.nm 1) (.int 1) [],
  .for (.nm 2) .val [.var 0] Bx.common_bottom_b1 [0],
  .retv 1]
def least_of_b1 : List S := [.iff (.or (.cmp .Is (.var 1) (.non)) (.call "less" [.var 2, .var 1])) [.asg (.nm 1) (.var 2) [2]] [] [1, 2]]
/-- least_of: 3 slots, 1 parameters -/
def least_of : List S := [
  .asg (.nm 1) (.non) [],
  .for (.nm 2) .val [.var 0] Bx.least_of_b1 [0],
  .retv 1]
def greatest_of_b1 : List S := [.iff (.or (.cmp .Is (.var 1) (.non)) (.call "less" [.var 1, .var 2])) [.asg (.nm 1) (.var 2) [2]] [] [1, 2]]
/-- greatest_of: 3 slots, 1 parameters -/
def greatest_of : List S := [
  .asg (.nm 1) (.non) [],
  .for (.nm 2) .val [.var 0] Bx.greatest_of_b1 [0],
  .retv 1]
/-- number_text: 1 slots, 1 parameters -/
def number_text : List S := [
  .iff (.call "is_whole" [.var 0]) [.ret (.bi .str [.var 0]) [0]] [] [0],
  .ret (.fst [.ix (.var 0) (.int 0), .str "/", .ix (.var 0) (.int 1)]) [0]]
def read_numeral_b1 : List S := [.iff (.cmp .NotIn (.var 1) (.glb "DIGITS")) [.rais "BadText" [] [] []] [] [1]]
/-- read_numeral: 2 slots, 1 parameters -/
def read_numeral : List S := [
  .iff (.or (.cmp .Eq (.var 0) (.str "")) (.cmp .Gt (.bi .len [.var 0]) (.glb "MOST_DIGITS"))) [.rais "BadText" [] [] []] [] [0],
  .for (.nm 1) .val [.var 0] Bx.read_numeral_b1 [0],
  .ret (.bi .int [.var 0]) [0]]
/-- read_number: 8 slots, 1 parameters -/
def read_number : List S := [
  .asg (.nm 1) (.ite (.cmp .Eq (.sl (.var 0) (.non) (.int 1)) (.str "-")) (.sl (.var 0) (.int 1) (.non)) (.var 0)) [0],
  .asg (.tp [2, 3, 4]) (.me .part (.var 1) [.str "/"]) [1],
  .asg (.nm 5) (.call "read_numeral" [.var 2]) [2],
  .asg (.nm 6) (.ite (.cmp .Eq (.var 3) (.str "/")) (.call "read_numeral" [.var 4]) (.int 1)) [3, 4],
  .iff (.cmp .Eq (.var 6) (.int 0)) [.rais "BadText" [] [] []] [] [6],
  .asg (.nm 7) (.call "ratio" [.ite (.cmp .Eq (.sl (.var 0) (.non) (.int 1)) (.str "-")) (.neg (.var 5)) (.var 5), .var 6]) [0, 5, 6],
  .iff (.cmp .NotEq (.call "number_text" [.var 7]) (.var 0)) [.rais "BadText" [] [] []] [] [0, 7],
  .retv 7]
end Bx

set_option Elab.async false
set_option linter.all false
set_option maxRecDepth 100000
/-! Br: bodies. -/
namespace Br
open PySem PySem.Spec PX
def support_t1 : List E := [.cmp .NotEq (.var 2) (.int 0)]
def support_e1 : E := .var 1
/-- support: 3 slots, 1 parameters -/
def support : List S := [
  .ret (.lc [1, 2] (.tp [1, 2]) .enm [.var 0] Br.support_t1 Br.support_e1) [0]]
def dot_b1 : List S := [.iff (.and (.cmp .NotEq (.var 3) (.int 0)) (.cmp .NotEq (.var 4) (.int 0))) [.asg (.nm 2) (.call "plus" [.var 2, .call "times" [.var 3, .var 4]]) [2, 3, 4]] [] [3, 4]]
/-- dot: 5 slots, 2 parameters -/
def dot : List S := [
  .asg (.nm 2) (.int 0) [],
  .for (.tp [3, 4]) .zip [.var 0, .var 1] Br.dot_b1 [0, 1],
  .retv 2]
def negative_e1 : E := .call "minus" [.int 0, .var 1]
/-- negative: 2 slots, 1 parameters -/
def negative : List S := [
  .ret (.lc [1] (.nm 1) .val [.var 0] [] Br.negative_e1) [0]]
def scaled_e1 : E := .call "times" [.var 2, .var 1]
/-- scaled: 3 slots, 2 parameters -/
def scaled : List S := [
  .ret (.lc [2] (.nm 2) .val [.var 0] [] Br.scaled_e1) [0, 1]]
def added_e1 : E := .call "plus" [.var 2, .var 3]
/-- added: 4 slots, 2 parameters -/
def added : List S := [
  .ret (.lc [2, 3] (.tp [2, 3]) .zip [.var 0, .var 1] [] Br.added_e1) [0, 1]]
def before_b1 : List S := [.iff (.cmp .NotEq (.var 2) (.var 3)) [.ret (.call "less" [.var 2, .var 3]) [2, 3]] [] [2, 3]]
/-- before: 4 slots, 2 parameters -/
def before : List S := [
  .for (.tp [2, 3]) .zip [.var 0, .var 1] Br.before_b1 [0, 1],
  .ret (.cmp .Lt (.bi .len [.var 0]) (.bi .len [.var 1])) [0, 1]]
def agrees_b1 : List S := [.iff (.and (.cmp .NotEq (.var 2) (.int 0)) (.cmp .LtE (.bin .Mult (.call "top_of" [.var 2]) (.call "top_of" [.var 3])) (.int 0))) [.ret (.bl false) []] [] [2, 3]]
/-- agrees: 4 slots, 2 parameters -/
def agrees : List S := [
  .for (.tp [2, 3]) .zip [.var 0, .var 1] Br.agrees_b1 [0, 1],
  .ret (.bl true) []]
def primitive_e1 : E := .bin .Mult (.call "top_of" [.var 3]) (.bin .FloorDiv (.var 1) (.call "bottom_of" [.var 3]))
def primitive_b1 : List S := [.asg (.nm 4) (.bi .gcd [.var 4, .var 3]) [3, 4]]
def primitive_e2 : E := .bin .FloorDiv (.var 3) (.var 4)
/-- primitive: 5 slots, 1 parameters -/
def primitive : List S := [
  .asg (.nm 1) (.call "common_bottom" [.var 0]) [0],
  .asg (.nm 2) (.lc [3] (.nm 3) .val [.var 0] [] Br.primitive_e1) [0, 1],
  .asg (.nm 4) (.int 0) [],
  .for (.nm 3) .val [.var 2] Br.primitive_b1 [2],
  .iff (.cmp .Eq (.var 4) (.int 0)) [.retv 2] [] [4],
  .iff (.cmp .Lt (.ix (.var 2) (.ix (.call "support" [.var 2]) (.int 0))) (.int 0)) [.asg (.nm 4) (.neg (.var 4)) [4]] [] [2],
  .ret (.lc [3] (.nm 3) .val [.var 2] [] Br.primitive_e2) [2, 4]]
end Br

set_option Elab.async false
set_option linter.all false
set_option maxRecDepth 100000
/-! Bl: bodies of helpers of the laws. -/
namespace Bl
open PySem PySem.Spec PX
def _law_numbers_b1 : List S := [.app 4 (.bin .Mod (.bi .int [.var 3]) (.int 10007)) [3], .asg (.nm 3) (.bin .FloorDiv (.var 3) (.int 10007)) [3]]
def _law_numbers_b2 : List S := [.asg (.nm 6) (.bin .Mod (.bi .int [.bin .Add (.bin .Add (.bin .Mult (.var 3) (.int 48271)) (.bin .Mult (.int 69621) (.var 5))) (.int 11)]) (.int 2147483647)) [3, 5], .app 4 (.bin .Mod (.bi .int [.bin .Add (.bin .Mult (.bin .FloorDiv (.var 6) (.int 16)) (.int 7919)) (.var 5)]) (.int 10007)) [5, 6]]
/-- _law_numbers: 7 slots, 3 parameters -/
def _law_numbers : List S := [
  .asg (.nm 3) (.bi .abs [.call "_law_cell" [.var 0, .var 1]]) [0, 1],
  .asg (.nm 4) (.ls []) [],
  .iff (.cmp .GtE (.var 3) (.bin .Pow (.int 10) (.int 18))) [.for (.nm 5) .rng [.var 2] Bl._law_numbers_b1 [2], .retv 4] [] [3],
  .for (.nm 5) .rng [.var 2] Bl._law_numbers_b2 [2],
  .retv 4]
def _law_gcd_b1 : List S := [.iff (.cmp .Eq (.var 1) (.int 0)) [.brk] [] [1], .par 0 1 (.var 1) (.bin .Mod (.bi .int [.var 0]) (.var 1)) [0, 1]]
/-- _law_gcd: 3 slots, 2 parameters -/
def _law_gcd : List S := [
  .asg (.nm 0) (.bi .abs [.var 0]) [0],
  .asg (.nm 1) (.bi .abs [.var 1]) [1],
  .for (.nm 2) .rng [.int 2000] Bl._law_gcd_b1 [],
  .retv 0]
/-- _law_make: 3 slots, 2 parameters -/
def _law_make : List S := [
  .asg (.nm 2) (.call "_law_gcd" [.var 0, .var 1]) [0, 1],
  .iff (.cmp .Lt (.var 1) (.int 0)) [.asg (.nm 2) (.neg (.var 2)) [2]] [] [1],
  .iff (.cmp .Eq (.bin .FloorDiv (.var 1) (.var 2)) (.int 1)) [.ret (.bin .FloorDiv (.var 0) (.var 2)) [0, 2]] [] [1, 2],
  .ret (.tup [.bin .FloorDiv (.var 0) (.var 2), .bin .FloorDiv (.var 1) (.var 2)]) [0, 1, 2]]
/-- _law_top: 1 slots, 1 parameters -/
def _law_top : List S := [
  .iff (.bi .isI [.var 0, .tyn "tuple" "tuple"]) [.ret (.ix (.var 0) (.int 0)) [0]] [] [0],
  .retv 0]
/-- _law_bottom: 1 slots, 1 parameters -/
def _law_bottom : List S := [
  .iff (.bi .isI [.var 0, .tyn "tuple" "tuple"]) [.ret (.ix (.var 0) (.int 1)) [0]] [] [0],
  .ret (.int 1) []]
/-- _law_is_int: 1 slots, 1 parameters -/
def _law_is_int : List S := [
  .ret (.and (.bi .isI [.var 0, .tyn "int" "int"]) (.nt (.bi .isI [.var 0, .tyn "bool" "bool"]))) [0]]
/-- _law_is_number: 1 slots, 1 parameters -/
def _law_is_number : List S := [
  .iff (.call "_law_is_int" [.var 0]) [.ret (.bl true) []] [] [0],
  .iff (.or (.nt (.bi .isI [.var 0, .tyn "tuple" "tuple"])) (.or (.cmp .NotEq (.bi .len [.var 0]) (.int 2)) (.or (.nt (.call "_law_is_int" [.ix (.var 0) (.int 0)])) (.nt (.call "_law_is_int" [.ix (.var 0) (.int 1)]))))) [.ret (.bl false) []] [] [0],
  .ret (.and (.cmp .GtE (.ix (.var 0) (.int 1)) (.int 2)) (.cmp .Eq (.call "_law_gcd" [.ix (.var 0) (.int 0), .ix (.var 0) (.int 1)]) (.int 1))) [0]]
/-- _law_cell: 2 slots, 2 parameters -/
def _law_cell : List S := [
  .iff (.cmp .Lt (.var 1) (.bi .len [.var 0])) [.ret (.ix (.var 0) (.var 1)) [0, 1]] [] [0, 1],
  .iff (.cmp .Gt (.bi .len [.var 0]) (.int 0)) [.ret (.bin .Mod (.bi .int [.bin .Add (.bin .Mult (.ix (.var 0) (.int 0)) (.int 7919)) (.bin .Mult (.int 48271) (.var 1))]) (.int 2147483647)) [0, 1]] [] [0],
  .retv 1]
/-- _law_plus: 3 slots, 2 parameters -/
def _law_plus : List S := [
  .asg (.nm 2) (.bin .Add (.bin .Mult (.call "_law_top" [.var 0]) (.call "_law_bottom" [.var 1])) (.bin .Mult (.call "_law_top" [.var 1]) (.call "_law_bottom" [.var 0]))) [0, 1],
  .ret (.call "_law_make" [.var 2, .bin .Mult (.call "_law_bottom" [.var 0]) (.call "_law_bottom" [.var 1])]) [0, 1, 2]]
/-- _law_times: 2 slots, 2 parameters -/
def _law_times : List S := [
  .ret (.call "_law_make" [.bin .Mult (.call "_law_top" [.var 0]) (.call "_law_top" [.var 1]), .bin .Mult (.call "_law_bottom" [.var 0]) (.call "_law_bottom" [.var 1])]) [0, 1]]
/-- _law_less: 2 slots, 2 parameters -/
def _law_less : List S := [
  .ret (.cmp .Lt (.bin .Mult (.call "_law_top" [.var 0]) (.call "_law_bottom" [.var 1])) (.bin .Mult (.call "_law_top" [.var 1]) (.call "_law_bottom" [.var 0]))) [0, 1]]
def _law_dot_b1 : List S := [.asg (.nm 2) (.call "_law_plus" [.var 2, .call "_law_times" [.ix (.var 0) (.var 3), .ix (.var 1) (.var 3)]]) [0, 1, 2, 3]]
/-- _law_dot: 4 slots, 2 parameters -/
def _law_dot : List S := [
  .asg (.nm 2) (.int 0) [],
  .for (.nm 3) .rng [.bi .len [.var 0]] Bl._law_dot_b1 [0],
  .retv 2]
def _law_like_b1 : List S := [.iff (.nt (.call "_law_like" [.ix (.var 0) (.var 2), .ix (.var 1) (.var 2)])) [.ret (.bl false) []] [] [0, 1, 2]]
/-- _law_like: 3 slots, 2 parameters -/
def _law_like : List S := [
  .iff (.cmp .Is (.var 1) (.non)) [.ret (.cmp .Is (.var 0) (.non)) [0]] [] [1],
  .iff (.cmp .Is (.var 1) (.bl true)) [.ret (.cmp .Is (.var 0) (.bl true)) [0]] [] [1],
  .iff (.cmp .Is (.var 1) (.bl false)) [.ret (.cmp .Is (.var 0) (.bl false)) [0]] [] [1],
  .iff (.bi .isI [.var 1, .tyn "str" "str"]) [.ret (.and (.bi .isI [.var 0, .tyn "str" "str"]) (.cmp .Eq (.var 0) (.var 1))) [0, 1]] [] [1],
  .iff (.or (.cmp .NotEq (.bi .isI [.var 1, .tyn "list" "list"]) (.bi .isI [.var 0, .tyn "list" "list"])) (.cmp .NotEq (.bi .isI [.var 1, .tyn "tuple" "tuple"]) (.bi .isI [.var 0, .tyn "tuple" "tuple"]))) [.ret (.bl false) []] [] [0, 1],
  .iff (.and (.nt (.bi .isI [.var 1, .tyn "list" "list"])) (.nt (.bi .isI [.var 1, .tyn "tuple" "tuple"]))) [.ret (.and (.call "_law_is_int" [.var 0]) (.cmp .Eq (.var 0) (.var 1))) [0, 1]] [] [1],
  .iff (.cmp .NotEq (.bi .len [.var 0]) (.bi .len [.var 1])) [.ret (.bl false) []] [] [0, 1],
  .for (.nm 2) .rng [.bi .len [.var 1]] Bl._law_like_b1 [1],
  .ret (.bl true) []]
def _law_support_t1 : List E := [.cmp .NotEq (.ix (.var 0) (.var 1)) (.int 0)]
def _law_support_e1 : E := .var 1
/-- _law_support: 2 slots, 1 parameters -/
def _law_support : List S := [
  .ret (.lc [1] (.nm 1) .rng [.bi .len [.var 0]] Bl._law_support_t1 Bl._law_support_e1) [0]]
end Bl

set_option Elab.async false
set_option linter.all false
set_option maxRecDepth 100000
/-! Lr: bodies over live things. -/
namespace Lr
open PySem PySem.Spec PX
def primitive_e1 : LE := .p (.bin .Mult (.call "top_of" [.var 3]) (.bin .FloorDiv (.var 1) (.call "bottom_of" [.var 3]))) [1, 3]
def primitive_b1 : List LQ := [.asg (.nm 4) (.p (.bi .gcd [.var 4, .var 3]) [3, 4])]
def primitive_e2 : LE := .p (.bin .FloorDiv (.var 3) (.var 4)) [3, 4]
/-- primitive: 5 slots, 1 parameters -/
def primitive : List LQ := [
  .asg (.nm 1) (.p (.call "common_bottom" [.var 0]) [0]),
  .asg (.nm 2) (.lcL [3] (.nm 3) (.v 0) [] Lr.primitive_e1),
  .asg (.nm 4) (.p (.int 0) []),
  .forL (.nm 3) (.v 2) Lr.primitive_b1,
  .iff (.cmp .Eq (.var 4) (.int 0)) [4] [.ret (.v 2)] [],
  .iff (.cmp .Lt (.ix (.var 2) (.ix (.call "support" [.var 2]) (.int 0))) (.int 0)) [2] [.asg (.nm 4) (.p (.neg (.var 4)) [4])] [],
  .ret (.lcL [3] (.nm 3) (.v 2) [] Lr.primitive_e2)]
end Lr

set_option Elab.async false
set_option linter.all false
set_option maxRecDepth 100000
set_option maxHeartbeats 0
/-! A: the defs of the law as data, their checks. -/
namespace K03
open PySem PySem.Spec PyProof.Rows L2 PX
def tp (i : Nat) : Stmt :=
  PySem.Challenge.pw_fineststep_k03_rows_and_lists.main.body.getD i (.Pass ⟨0, 0, 0, 0⟩)
def d_ratio : DefS where
  name := "ratio"
  N := ["top", "bottom", "common"]
  k := 2
  body := Bx.ratio
  st := tp 5
def d_is_whole : DefS where
  name := "is_whole"
  N := ["number"]
  k := 1
  body := Bx.is_whole
  st := tp 6
def d_top_of : DefS where
  name := "top_of"
  N := ["number"]
  k := 1
  body := Bx.top_of
  st := tp 7
def d_bottom_of : DefS where
  name := "bottom_of"
  N := ["number"]
  k := 1
  body := Bx.bottom_of
  st := tp 8
def d_plus : DefS where
  name := "plus"
  N := ["x", "y"]
  k := 2
  body := Bx.plus
  st := tp 9
def d_minus : DefS where
  name := "minus"
  N := ["x", "y"]
  k := 2
  body := Bx.minus
  st := tp 10
def d_times : DefS where
  name := "times"
  N := ["x", "y"]
  k := 2
  body := Bx.times
  st := tp 11
def d_less : DefS where
  name := "less"
  N := ["x", "y"]
  k := 2
  body := Bx.less
  st := tp 12
def d_common_bottom : DefS where
  name := "common_bottom"
  N := ["numbers", "common", "number"]
  k := 1
  body := Bx.common_bottom
  st := tp 13
def d_support : DefS where
  name := "support"
  N := ["numbers", "cell", "number"]
  k := 1
  body := Br.support
  st := tp 15
def d_dot : DefS where
  name := "dot"
  N := ["first", "second", "total", "factor", "number"]
  k := 2
  body := Br.dot
  st := tp 16
def d_negative : DefS where
  name := "negative"
  N := ["numbers", "number"]
  k := 1
  body := Br.negative
  st := tp 17
def d_scaled : DefS where
  name := "scaled"
  N := ["numbers", "factor", "number"]
  k := 2
  body := Br.scaled
  st := tp 18
def d_added : DefS where
  name := "added"
  N := ["first", "second", "one", "other"]
  k := 2
  body := Br.added
  st := tp 19
def d_before : DefS where
  name := "before"
  N := ["first", "second", "one", "other"]
  k := 2
  body := Br.before
  st := tp 20
def d_agrees : DefS where
  name := "agrees"
  N := ["first", "second", "one", "other"]
  k := 2
  body := Br.agrees
  st := tp 21
def d_primitive : DefS where
  name := "primitive"
  N := ["numbers", "scale", "row", "number", "common"]
  k := 1
  body := []
  lb := some Lr.primitive
  st := tp 22
def d__law_cell : DefS where
  name := "_law_cell"
  N := ["_law_script", "_law_k"]
  k := 2
  body := Bl._law_cell
  st := tp 24
def d__law_numbers : DefS where
  name := "_law_numbers"
  N := ["_law_script", "_law_k", "_law_many", "_law_cell_here", "_law_row", "_law_j", "_law_mixed"]
  k := 3
  body := Bl._law_numbers
  st := tp 25
def d__law_gcd : DefS where
  name := "_law_gcd"
  N := ["_law_one", "_law_other", "_law_k"]
  k := 2
  body := Bl._law_gcd
  st := tp 26
def d__law_make : DefS where
  name := "_law_make"
  N := ["_law_top_here", "_law_bottom_here", "_law_common"]
  k := 2
  body := Bl._law_make
  st := tp 27
def d__law_top : DefS where
  name := "_law_top"
  N := ["_law_x"]
  k := 1
  body := Bl._law_top
  st := tp 28
def d__law_bottom : DefS where
  name := "_law_bottom"
  N := ["_law_x"]
  k := 1
  body := Bl._law_bottom
  st := tp 29
def d__law_plus : DefS where
  name := "_law_plus"
  N := ["_law_x", "_law_y", "_law_top_here"]
  k := 2
  body := Bl._law_plus
  st := tp 30
def d__law_times : DefS where
  name := "_law_times"
  N := ["_law_x", "_law_y"]
  k := 2
  body := Bl._law_times
  st := tp 31
def d__law_less : DefS where
  name := "_law_less"
  N := ["_law_x", "_law_y"]
  k := 2
  body := Bl._law_less
  st := tp 32
def d__law_dot : DefS where
  name := "_law_dot"
  N := ["_law_one", "_law_other", "_law_total", "_law_k"]
  k := 2
  body := Bl._law_dot
  st := tp 33
def d__law_is_int : DefS where
  name := "_law_is_int"
  N := ["_law_x"]
  k := 1
  body := Bl._law_is_int
  st := tp 34
def _law_whole_list_t1 : List E := [.nt (.call "_law_is_int" [.var 2])]
def _law_whole_list_e1 : E := .var 2
def b__law_whole_list : List S := [
  .iff (.or (.nt (.bi .isI [.var 0, .tyn "list" "list"])) (.cmp .NotEq (.bi .len [.var 0]) (.var 1))) [.ret (.bl false) []] [] [0, 1],
  .ret (.cmp .Eq (.bi .len [.lc [2] (.nm 2) .val [.var 0] K03._law_whole_list_t1 K03._law_whole_list_e1]) (.int 0)) [0]]
def d__law_whole_list : DefS where
  name := "_law_whole_list"
  N := ["_law_row", "_law_size", "_law_x"]
  k := 2
  body := K03.b__law_whole_list
  st := tp 35
def d__law_like : DefS where
  name := "_law_like"
  N := ["_law_told", "_law_due", "_law_k"]
  k := 2
  body := Bl._law_like
  st := tp 36
def b__law_says : List S := [
  .ret (.and (.cmp .Eq (.cmp .Is (.var 0) (.bl true)) (.var 1)) (.cmp .NotEq (.cmp .Is (.var 0) (.bl false)) (.var 1))) [0, 1]]
def d__law_says : DefS where
  name := "_law_says"
  N := ["_law_told", "_law_due"]
  k := 2
  body := K03.b__law_says
  st := tp 37
def d__law_support : DefS where
  name := "_law_support"
  N := ["_law_row", "_law_k"]
  k := 1
  body := Bl._law_support
  st := tp 38
def b__law_drawn : List S := [
  .asg (.nm 2) (.bin .Sub (.bin .Mod (.bi .int [.var 0]) (.int 19)) (.int 9)) [0],
  .iff (.cmp .Eq (.bin .Mod (.bin .FloorDiv (.bi .int [.var 0]) (.int 19)) (.int 3)) (.int 1)) [.asg (.nm 2) (.int 0) []] [] [0],
  .iff (.var 1) [.asg (.nm 2) (.bin .Mult (.var 2) (.bin .Add (.bin .Pow (.int 10) (.int 12)) (.int 39))) [2]] [] [1],
  .ret (.call "_law_make" [.var 2, .bin .Add (.int 1) (.bin .Mod (.bin .FloorDiv (.bi .int [.var 0]) (.int 57)) (.int 6))]) [0, 2]]
def d__law_drawn : DefS where
  name := "_law_drawn"
  N := ["_law_number", "_law_large", "_law_top_here"]
  k := 2
  body := K03.b__law_drawn
  st := tp 39
def _law_second_b1 : List S := [.asg (.nm 6) (.ix (.var 0) (.var 5)) [0, 5], .iff (.cmp .Eq (.var 2) (.int 0)) [.asg (.nm 6) (.call "_law_drawn" [.ix (.var 1) (.var 5), .var 3]) [1, 3, 5]] [] [2], .iff (.and (.cmp .Eq (.var 2) (.int 1)) (.cmp .Eq (.bin .Mod (.bi .int [.ix (.var 1) (.var 5)]) (.int 3)) (.int 1))) [.asg (.nm 6) (.call "_law_times" [.var 6, .neg (.int 1)]) [6]] [] [1, 2, 5], .iff (.and (.cmp .Eq (.var 2) (.int 2)) (.cmp .Eq (.bin .Mod (.bi .int [.ix (.var 1) (.var 5)]) (.int 3)) (.int 1))) [.asg (.nm 6) (.int 0) []] [] [1, 2, 5], .iff (.cmp .Eq (.var 2) (.int 3)) [.asg (.nm 6) (.call "_law_times" [.var 6, .call "_law_make" [.bin .Add (.int 1) (.bin .Mod (.bi .int [.ix (.var 1) (.var 5)]) (.int 5)), .bin .Add (.int 1) (.bin .Mod (.bin .FloorDiv (.bi .int [.ix (.var 1) (.var 5)]) (.int 5)) (.int 4))]]) [1, 5, 6]] [] [2], .app 4 (.var 6) [6]]
def b__law_second : List S := [
  .asg (.nm 4) (.ls []) [],
  .for (.nm 5) .rng [.bi .len [.var 0]] K03._law_second_b1 [0],
  .iff (.and (.cmp .Eq (.var 2) (.int 4)) (.cmp .Gt (.bi .len [.var 4]) (.int 0))) [.asg (.nm 7) (.bin .Mod (.bi .int [.ix (.var 1) (.int 12)]) (.bi .len [.var 4])) [1, 4], .stix 4 (.var 7) (.call "_law_plus" [.ix (.var 4) (.var 7), .call "_law_make" [.bin .Sub (.bin .Mod (.bi .int [.ix (.var 1) (.int 13)]) (.int 7)) (.int 3), .bin .Add (.int 1) (.bin .Mod (.bi .int [.ix (.var 1) (.int 14)]) (.int 3))]]) [1, 4, 7]] [] [2, 4],
  .retv 4]
def d__law_second : DefS where
  name := "_law_second"
  N := ["_law_first", "_law_drawn_here", "_law_kind", "_law_large", "_law_made", "_law_k", "_law_other", "_law_at"]
  k := 4
  body := K03.b__law_second
  st := tp 40
def _law_agrees_b1 : List S := [.iff (.and (.cmp .NotEq (.ix (.var 0) (.var 2)) (.int 0)) (.cmp .LtE (.bin .Mult (.call "_law_top" [.ix (.var 0) (.var 2)]) (.call "_law_top" [.ix (.var 1) (.var 2)])) (.int 0))) [.ret (.bl false) []] [] [0, 1, 2]]
def b__law_agrees : List S := [
  .for (.nm 2) .rng [.bi .len [.var 0]] K03._law_agrees_b1 [0],
  .ret (.bl true) []]
def d__law_agrees : DefS where
  name := "_law_agrees"
  N := ["_law_one", "_law_other", "_law_k"]
  k := 2
  body := K03.b__law_agrees
  st := tp 41
def _law_before_b1 : List S := [.iff (.cmp .NotEq (.ix (.var 0) (.var 2)) (.ix (.var 1) (.var 2))) [.ret (.call "_law_less" [.ix (.var 0) (.var 2), .ix (.var 1) (.var 2)]) [0, 1, 2]] [] [0, 1, 2]]
def b__law_before : List S := [
  .for (.nm 2) .rng [.bi .min [.bi .len [.var 0], .bi .len [.var 1]]] K03._law_before_b1 [0, 1],
  .ret (.cmp .Lt (.bi .len [.var 0]) (.bi .len [.var 1])) [0, 1]]
def d__law_before : DefS where
  name := "_law_before"
  N := ["_law_one", "_law_other", "_law_k"]
  k := 2
  body := K03.b__law_before
  st := tp 42
def b__law_new : List LQ := [
  .iff (.nt (.call "_law_like" [.var 0, .var 1])) [0, 1] [.ret (.p (.bl false) [])] [],
  .app (.v 0) (.p (.int 77) []),
  .ret (.p (.cmp .Eq (.var 2) (.var 3)) [2, 3])]
def d__law_new : DefS where
  name := "_law_new"
  N := ["_law_told", "_law_due", "_law_passed", "_law_kept"]
  k := 4
  body := []
  lb := some K03.b__law_new
  st := tp 43
def _law_sums_e1 : LE := .p (.call "_law_times" [.var 5, .neg (.int 1)]) [5]
def _law_sums_e2 : LE := .p (.call "_law_times" [.var 5, .var 2]) [2, 5]
def _law_sums_e3 : LE := .p (.call "_law_plus" [.ix (.var 0) (.var 7), .ix (.var 1) (.var 7)]) [0, 1, 7]
def b__law_sums : List LQ := [
  .asg (.nm 3) (.ls [.p (.bi .list [.var 0]) [0], .p (.bi .list [.var 1]) [1]]),
  .asg (.nm 4) (.ls [.p (.bi .list [.var 0]) [0], .p (.bi .list [.var 1]) [1]]),
  .iffL (.nt (.e (.call "_law_new" [.p (.call "support" [.ix (.var 3) (.int 0)]) [3], .p (.call "_law_support" [.var 0]) [0], .v 3, .v 4]))) [.ret (.p (.bl false) [])] [],
  .iffL (.nt (.e (.call "_law_new" [.p (.call "negative" [.ix (.var 3) (.int 0)]) [3], .lcL [5] (.nm 5) (.v 0) [] K03._law_sums_e1, .v 3, .v 4]))) [.ret (.p (.bl false) [])] [],
  .iffL (.nt (.e (.call "_law_new" [.p (.call "scaled" [.ix (.var 3) (.int 0), .var 2]) [2, 3], .lcL [5] (.nm 5) (.v 0) [] K03._law_sums_e2, .v 3, .v 4]))) [.ret (.p (.bl false) [])] [],
  .iffL (.nt (.e (.call "_law_new" [.p (.call "scaled" [.ix (.var 3) (.int 1), .int 1]) [3], .v 1, .v 3, .v 4]))) [.ret (.p (.bl false) [])] [],
  .asg (.nm 6) (.lc [7] (.nm 7) .rng [.bi .len [.var 0]] [0] [] K03._law_sums_e3),
  .iffL (.nt (.e (.call "_law_new" [.p (.call "added" [.ix (.var 3) (.int 0), .ix (.var 3) (.int 1)]) [3], .v 6, .v 3, .v 4]))) [.ret (.p (.bl false) [])] [],
  .iff (.nt (.call "_law_like" [.call "dot" [.ix (.var 3) (.int 0), .ix (.var 3) (.int 1)], .call "_law_dot" [.var 0, .var 1]])) [0, 1, 3] [.ret (.p (.bl false) [])] [],
  .ret (.p (.and (.call "_law_says" [.call "agrees" [.ix (.var 3) (.int 0), .ix (.var 3) (.int 1)], .call "_law_agrees" [.var 0, .var 1]]) (.cmp .Eq (.var 3) (.var 4))) [0, 1, 3, 4])]
def d__law_sums : DefS where
  name := "_law_sums"
  N := ["_law_first", "_law_second_here", "_law_factor", "_law_passed", "_law_kept", "_law_x", "_law_due", "_law_k"]
  k := 3
  body := []
  lb := some K03.b__law_sums
  st := tp 44
def b__law_ordered : List S := [
  .asg (.nm 2) (.ls [.bi .list [.var 0], .bi .list [.var 1]]) [0, 1],
  .asg (.nm 3) (.call "before" [.ix (.var 2) (.int 0), .ix (.var 2) (.int 1)]) [2],
  .asg (.nm 4) (.call "before" [.ix (.var 2) (.int 1), .ix (.var 2) (.int 0)]) [2],
  .iff (.or (.nt (.call "_law_says" [.var 3, .call "_law_before" [.var 0, .var 1]])) (.nt (.call "_law_says" [.var 4, .call "_law_before" [.var 1, .var 0]]))) [.ret (.bl false) []] [] [0, 1, 3, 4],
  .ret (.cmp .Eq (.var 2) (.ls [.var 0, .var 1])) [0, 1, 2]]
def d__law_ordered : DefS where
  name := "_law_ordered"
  N := ["_law_one", "_law_other", "_law_passed", "_law_told", "_law_back"]
  k := 2
  body := K03.b__law_ordered
  st := tp 45
def _law_orders_b1 : List S := [.iff (.or (.nt (.call "_law_ordered" [.ls [.ix (.var 0) (.var 3)], .ls [.ix (.var 1) (.var 3)]])) (.nt (.call "_law_ordered" [.sl (.var 0) (.var 3) (.non), .sl (.var 1) (.var 3) (.non)]))) [.ret (.bl false) []] [] [0, 1, 3]]
def b__law_orders : List S := [
  .for (.nm 3) .rng [.bi .len [.var 0]] K03._law_orders_b1 [0],
  .asg (.nm 4) (.bin .Mod (.bi .int [.var 2]) (.bin .Add (.int 1) (.bi .len [.var 0]))) [0, 2],
  .iff (.cmp .NotEq (.sl (.var 0) (.non) (.var 4)) (.sl (.var 1) (.non) (.var 4))) [.iff (.or (.nt (.call "_law_ordered" [.sl (.var 0) (.non) (.var 4), .var 1])) (.nt (.call "_law_ordered" [.var 0, .sl (.var 1) (.non) (.var 4)]))) [.ret (.bl false) []] [] [0, 1, 4]] [] [0, 1, 4],
  .ret (.and (.call "_law_ordered" [.var 0, .bi .list [.var 0]]) (.call "_law_ordered" [.var 1, .bi .list [.var 1]])) [0, 1]]
def d__law_orders : DefS where
  name := "_law_orders"
  N := ["_law_first", "_law_second_here", "_law_number", "_law_k", "_law_cut"]
  k := 3
  body := K03.b__law_orders
  st := tp 46
def _law_cells_ordered_e1 : E := .bin .Mod (.bi .int [.var 2]) (.int 16)
def _law_cells_ordered_b1 : List S := [.iff (.nt (.call "_law_ordered" [.var 5, .var 6])) [.ret (.bl false) []] [] [5, 6]]
def _law_cells_ordered_b2 : List S := [.for (.nm 6) .val [.var 4] K03._law_cells_ordered_b1 [4]]
def b__law_cells_ordered : List S := [
  .asg (.nm 1) (.lc [2] (.nm 2) .val [.sl (.var 0) (.non) (.bin .Mod (.bi .int [.ix (.var 0) (.int 6)]) (.int 7))] [] K03._law_cells_ordered_e1) [0],
  .asg (.nm 3) (.bi .list [.var 1]) [1],
  .iff (.cmp .Gt (.bi .len [.var 1]) (.int 0)) [.stix 3 (.bin .Mod (.bi .int [.ix (.var 0) (.int 7)]) (.bi .len [.var 1])) (.bin .Mod (.bi .int [.ix (.var 0) (.int 8)]) (.int 16)) [0, 1]] [] [1],
  .asg (.nm 4) (.ls [.var 1, .bin .Add (.var 1) (.ls [.bin .Mod (.bi .int [.ix (.var 0) (.int 9)]) (.int 16)]), .var 3, .bin .Add (.var 3) (.ls [.int 0]), .ls []]) [0, 1, 3],
  .for (.nm 5) .val [.var 4] K03._law_cells_ordered_b2 [4],
  .ret (.bl true) []]
def d__law_cells_ordered : DefS where
  name := "_law_cells_ordered"
  N := ["_law_numbers_here", "_law_cells", "_law_number", "_law_other", "_law_lists", "_law_one", "_law_two"]
  k := 1
  body := K03.b__law_cells_ordered
  st := tp 47
def _law_primitive_told_b1 : List S := [.asg (.nm 6) (.call "_law_gcd" [.var 6, .var 7]) [6, 7]]
def _law_primitive_told_b2 : List S := [.iff (.cmp .NotEq (.call "_law_times" [.ix (.var 4) (.var 8), .ix (.var 0) (.ix (.var 5) (.int 0))]) (.call "_law_times" [.ix (.var 4) (.ix (.var 5) (.int 0)), .ix (.var 0) (.var 8)])) [.ret (.bl false) []] [] [0, 4, 5, 8]]
def _law_primitive_told_e1 : E := .call "_law_times" [.var 10, .var 9]
def _law_primitive_told_b3 : List S := [.iff (.nt (.call "_law_like" [.call "primitive" [.lc [10] (.nm 10) .val [.var 0] [] K03._law_primitive_told_e1], .var 4])) [.ret (.bl false) []] [] [0, 4, 9]]
def b__law_primitive_told : List S := [
  .asg (.nm 2) (.bi .list [.var 0]) [0],
  .asg (.nm 3) (.call "primitive" [.var 2]) [2],
  .iff (.nt (.call "_law_whole_list" [.var 3, .bi .len [.var 0]])) [.ret (.bl false) []] [] [0, 3],
  .asg (.nm 4) (.bi .list [.var 3]) [3],
  .app 3 (.int 77) [],
  .iff (.cmp .NotEq (.var 2) (.var 0)) [.ret (.bl false) []] [] [0, 2],
  .asg (.nm 5) (.call "_law_support" [.var 0]) [0],
  .iff (.cmp .Eq (.bi .len [.var 5]) (.int 0)) [.ret (.and (.cmp .Eq (.var 4) (.var 0)) (.call "_law_like" [.call "primitive" [.var 2], .var 0])) [0, 2, 4]] [] [5],
  .asg (.nm 6) (.int 0) [],
  .for (.nm 7) .val [.var 4] K03._law_primitive_told_b1 [4],
  .iff (.or (.cmp .NotEq (.var 6) (.int 1)) (.cmp .LtE (.ix (.var 4) (.ix (.var 5) (.int 0))) (.int 0))) [.ret (.bl false) []] [] [4, 5, 6],
  .for (.nm 8) .rng [.bi .len [.var 0]] K03._law_primitive_told_b2 [0],
  .for (.nm 9) .val [.tup [.var 1, .call "_law_times" [.var 1, .neg (.int 1)], .int 1]] K03._law_primitive_told_b3 [1],
  .ret (.and (.call "_law_like" [.call "primitive" [.bi .list [.var 4]], .var 4]) (.cmp .Eq (.var 2) (.var 0))) [0, 2, 4]]
def d__law_primitive_told : DefS where
  name := "_law_primitive_told"
  N := ["_law_row", "_law_factor", "_law_passed", "_law_told", "_law_made", "_law_places", "_law_common", "_law_number", "_law_k", "_law_many", "_law_x"]
  k := 2
  body := K03.b__law_primitive_told
  st := tp 48
def law_e1 : E := .call "_law_drawn" [.var 5, .var 3]
def law_e2 : E := .int 0
def b_law : List S := [
  .asg (.nm 1) (.call "_law_numbers" [.var 0, .int 0, .int 16]) [0],
  .asg (.nm 2) (.bin .Mod (.bi .int [.ix (.var 1) (.int 0)]) (.int 13)) [1],
  .asg (.nm 3) (.cmp .Eq (.bin .Mod (.bi .int [.ix (.var 1) (.int 1)]) (.int 8)) (.int 1)) [1],
  .asg (.nm 4) (.lc [5] (.nm 5) .val [.sl (.call "_law_numbers" [.var 0, .int 1, .int 12]) (.non) (.var 2)] [] K03.law_e1) [0, 2, 3],
  .asg (.nm 6) (.call "_law_second" [.var 4, .call "_law_numbers" [.var 0, .int 2, .int 15], .bin .Mod (.bi .int [.ix (.var 1) (.int 2)]) (.int 5), .var 3]) [0, 1, 3, 4],
  .asg (.nm 7) (.call "_law_make" [.bin .Sub (.bin .Mod (.bi .int [.ix (.var 1) (.int 3)]) (.int 19)) (.int 9), .bin .Add (.int 1) (.bin .Mod (.bi .int [.ix (.var 1) (.int 4)]) (.int 4))]) [1],
  .iff (.or (.nt (.call "_law_sums" [.var 4, .var 6, .var 7])) (.nt (.call "_law_sums" [.var 6, .var 4, .var 7]))) [.ret (.bl false) []] [] [4, 6, 7],
  .iff (.or (.nt (.call "_law_orders" [.var 4, .var 6, .ix (.var 1) (.int 5)])) (.nt (.call "_law_cells_ordered" [.sl (.var 1) (.int 6) (.non)]))) [.ret (.bl false) []] [] [1, 4, 6],
  .iff (.cmp .Eq (.var 7) (.int 0)) [.asg (.nm 7) (.tup [.neg (.int 5), .int 2]) []] [] [7],
  .asg (.nm 8) (.lc [9] (.nm 9) .val [.var 4] [] K03.law_e2) [4],
  .iff (.or (.nt (.call "_law_primitive_told" [.var 4, .var 7])) (.nt (.call "_law_primitive_told" [.var 6, .var 7]))) [.ret (.bl false) []] [] [4, 6, 7],
  .ret (.call "_law_primitive_told" [.var 8, .var 7]) [7, 8]]
def d_law : DefS where
  name := "law"
  N := ["_law_script", "_law_shape", "_law_size", "_law_large", "_law_first", "_law_number", "_law_second_here", "_law_factor", "_law_zeros", "_law_x"]
  k := 1
  body := K03.b_law
  st := tp 49
def defs : List DefS := ([d_ratio,
  d_is_whole,
  d_top_of,
  d_bottom_of,
  d_plus,
  d_minus,
  d_times,
  d_less,
  d_common_bottom,
  d_support,
  d_dot,
  d_negative,
  d_scaled,
  d_added,
  d_before,
  d_agrees,
  d_primitive,
  d__law_cell,
  d__law_numbers,
  d__law_gcd] : List DefS) ++ ([d__law_make,
  d__law_top,
  d__law_bottom,
  d__law_plus,
  d__law_times,
  d__law_less,
  d__law_dot,
  d__law_is_int,
  d__law_whole_list,
  d__law_like,
  d__law_says,
  d__law_support,
  d__law_drawn,
  d__law_second,
  d__law_agrees,
  d__law_before,
  d__law_new,
  d__law_sums,
  d__law_ordered,
  d__law_orders] : List DefS) ++ ([d__law_cells_ordered,
  d__law_primitive_told,
  d_law] : List DefS)
def nm : Nm where
  bl := ["ValueError", "abs", "all", "any", "bool", "dict", "enumerate", "int", "isinstance", "len", "list", "max", "min", "range", "reversed", "sorted", "str", "sum", "tuple", "zip"]
  im := ["gcd", "lcm"]
  fns := (["ratio", "is_whole", "top_of", "bottom_of", "plus", "minus", "times", "less", "common_bottom", "support", "dot", "negative", "scaled", "added", "before", "agrees", "primitive", "_law_cell", "_law_numbers", "_law_gcd"] : List Str) ++ (["_law_make", "_law_top", "_law_bottom", "_law_plus", "_law_times", "_law_less", "_law_dot", "_law_is_int", "_law_whole_list", "_law_like", "_law_says", "_law_support", "_law_drawn", "_law_second", "_law_agrees", "_law_before", "_law_new", "_law_sums", "_law_ordered", "_law_orders"] : List Str) ++ (["_law_cells_ordered", "_law_primitive_told", "law"] : List Str)
  flds := []
  xfl := []
  ex0 := ["ZeroBottom"]
  ex1 := []
  exl := []
  lfs := ["primitive", "_law_new", "_law_sums"]
theorem c_ratio : chkD nm d_ratio = true := by decide +kernel
theorem c_is_whole : chkD nm d_is_whole = true := by decide +kernel
theorem c_top_of : chkD nm d_top_of = true := by decide +kernel
theorem c_bottom_of : chkD nm d_bottom_of = true := by decide +kernel
theorem c_plus : chkD nm d_plus = true := by decide +kernel
theorem c_minus : chkD nm d_minus = true := by decide +kernel
theorem c_times : chkD nm d_times = true := by decide +kernel
theorem c_less : chkD nm d_less = true := by decide +kernel
theorem c_common_bottom : chkD nm d_common_bottom = true := by decide +kernel
theorem c_support : chkD nm d_support = true := by decide +kernel
theorem c_dot : chkD nm d_dot = true := by decide +kernel
theorem c_negative : chkD nm d_negative = true := by decide +kernel
theorem c_scaled : chkD nm d_scaled = true := by decide +kernel
theorem c_added : chkD nm d_added = true := by decide +kernel
theorem c_before : chkD nm d_before = true := by decide +kernel
theorem c_agrees : chkD nm d_agrees = true := by decide +kernel
theorem c_primitive : chkD nm d_primitive = true := by decide +kernel
theorem c__law_cell : chkD nm d__law_cell = true := by decide +kernel
theorem c__law_numbers : chkD nm d__law_numbers = true := by decide +kernel
theorem c__law_gcd : chkD nm d__law_gcd = true := by decide +kernel
theorem c__law_make : chkD nm d__law_make = true := by decide +kernel
theorem c__law_top : chkD nm d__law_top = true := by decide +kernel
theorem c__law_bottom : chkD nm d__law_bottom = true := by decide +kernel
theorem c__law_plus : chkD nm d__law_plus = true := by decide +kernel
theorem c__law_times : chkD nm d__law_times = true := by decide +kernel
theorem c__law_less : chkD nm d__law_less = true := by decide +kernel
theorem c__law_dot : chkD nm d__law_dot = true := by decide +kernel
theorem c__law_is_int : chkD nm d__law_is_int = true := by decide +kernel
theorem c__law_whole_list : chkD nm d__law_whole_list = true := by decide +kernel
theorem c__law_like : chkD nm d__law_like = true := by decide +kernel
theorem c__law_says : chkD nm d__law_says = true := by decide +kernel
theorem c__law_support : chkD nm d__law_support = true := by decide +kernel
theorem c__law_drawn : chkD nm d__law_drawn = true := by decide +kernel
theorem c__law_second : chkD nm d__law_second = true := by decide +kernel
theorem c__law_agrees : chkD nm d__law_agrees = true := by decide +kernel
theorem c__law_before : chkD nm d__law_before = true := by decide +kernel
theorem c__law_new : chkD nm d__law_new = true := by decide +kernel
theorem c__law_sums : chkD nm d__law_sums = true := by decide +kernel
theorem c__law_ordered : chkD nm d__law_ordered = true := by decide +kernel
theorem c__law_orders : chkD nm d__law_orders = true := by decide +kernel
theorem c__law_cells_ordered : chkD nm d__law_cells_ordered = true := by decide +kernel
theorem c__law_primitive_told : chkD nm d__law_primitive_told = true := by decide +kernel
theorem c_law : chkD nm d_law = true := by decide +kernel
theorem chk : ∀ d, d ∈ defs → chkD nm d = true := fun d hd => by
  unfold defs at hd
  simp only [List.cons_append, List.nil_append, List.mem_cons, List.not_mem_nil, or_false] at hd
  rcases hd with rfl | rfl | rfl | rfl | rfl | rfl | rfl | rfl | rfl | rfl | rfl | rfl | rfl | rfl | rfl | rfl | rfl | rfl | rfl | rfl | rfl | rfl | rfl | rfl | rfl | rfl | rfl | rfl | rfl | rfl | rfl | rfl | rfl | rfl | rfl | rfl | rfl | rfl | rfl | rfl | rfl | rfl | rfl
  · exact c_ratio
  · exact c_is_whole
  · exact c_top_of
  · exact c_bottom_of
  · exact c_plus
  · exact c_minus
  · exact c_times
  · exact c_less
  · exact c_common_bottom
  · exact c_support
  · exact c_dot
  · exact c_negative
  · exact c_scaled
  · exact c_added
  · exact c_before
  · exact c_agrees
  · exact c_primitive
  · exact c__law_cell
  · exact c__law_numbers
  · exact c__law_gcd
  · exact c__law_make
  · exact c__law_top
  · exact c__law_bottom
  · exact c__law_plus
  · exact c__law_times
  · exact c__law_less
  · exact c__law_dot
  · exact c__law_is_int
  · exact c__law_whole_list
  · exact c__law_like
  · exact c__law_says
  · exact c__law_support
  · exact c__law_drawn
  · exact c__law_second
  · exact c__law_agrees
  · exact c__law_before
  · exact c__law_new
  · exact c__law_sums
  · exact c__law_ordered
  · exact c__law_orders
  · exact c__law_cells_ordered
  · exact c__law_primitive_told
  · exact c_law
end K03

set_option Elab.async false
set_option linter.all false
set_option maxRecDepth 100000
set_option maxHeartbeats 0
/-! B: the head of the law. -/
namespace K03
open PySem PySem.Spec PyProof.Rows L2 PX
def csts : List (Str × D) :=
  []
def xs : List ((Str × Str) × Bool) :=
  ([(("ZeroBottom", "ValueError"), true), (("ZeroBottom", "ZeroBottom"), true)] : List ((Str × Str) × Bool))
def hd : Hd where
  bl := nm.bl
  gl := true
  cs := csts
  xs := xs
  ex0 := nm.ex0
  xfl := []
  oc := []
  flds := []
def prg : Prg where
  defs := defs
  cst := fun x => hd.cs.lookup x
  sub := fun a b => hd.xs.lookup (a, b)
  oc := fun c => hd.oc.contains c
  fuel := 0
  lfs := nm.lfs
def ck (K : PySem.W.Frag) : Bool :=
  hd.ok (prg.defs.map (·.name)) K
abbrev hk : PySem.W.Hook :=
  hookP 5 (prg.defs.map defD) ck
def ob (s : PySem.W.SharedT) : AlP :=
  obsPG 5 (prg.defs.map defD) ck (HandSHeadRun.getT s)
theorem ob_eq (s : PySem.W.SharedT) : ob s = hk.obs s.abs := obsPG_eq (HandSHeadRun.getT_eq s)
def loose : List Str :=
  (["BookError", "ZeroBottom", "ratio", "is_whole", "top_of", "bottom_of", "plus", "minus", "times", "less", "common_bottom", "support", "dot", "negative", "scaled", "added", "before", "agrees", "primitive", "_law_cell"] : List Str) ++ (["_law_numbers", "_law_gcd", "_law_make", "_law_top", "_law_bottom", "_law_plus", "_law_times", "_law_less", "_law_dot", "_law_is_int", "_law_whole_list", "_law_like", "_law_says", "_law_support", "_law_drawn", "_law_second", "_law_agrees", "_law_before", "_law_new", "_law_sums"] : List Str) ++ (["_law_ordered", "_law_orders", "_law_cells_ordered", "_law_primitive_told"] : List Str)
abbrev R : PySem.W.OpenRow :=
  PySem.W.OpenLaw.row PySem.Challenge.rw_fineststep_k03_rows_and_lists
theorem run (w : World) : HandSHeadRun.RunEqI R (PySem.W.view R.prog [0, 49]) hk ob 20000 loose w := by
  unfold HandSHeadRun.RunEqI
  kernel_rfl
theorem ba_ratio (kV doc pm : Value) (an : Option Addr) (cdv ct : Value) (us : List Value) (hl : us.length = 2) :
    bindArgs (PySem.W.fnOf d_ratio.name d_ratio.name (defArgs d_ratio.st) (defBody d_ratio.st) (defScope d_ratio.st) .none kV doc pm an cdv ct) ⟨us, []⟩ = pure (d_ratio.ps.zip us) :=
  match us, hl with
  | [_, _], _ => rfl
theorem ba_is_whole (kV doc pm : Value) (an : Option Addr) (cdv ct : Value) (us : List Value) (hl : us.length = 1) :
    bindArgs (PySem.W.fnOf d_is_whole.name d_is_whole.name (defArgs d_is_whole.st) (defBody d_is_whole.st) (defScope d_is_whole.st) .none kV doc pm an cdv ct) ⟨us, []⟩ = pure (d_is_whole.ps.zip us) :=
  match us, hl with
  | [_], _ => rfl
theorem ba_top_of (kV doc pm : Value) (an : Option Addr) (cdv ct : Value) (us : List Value) (hl : us.length = 1) :
    bindArgs (PySem.W.fnOf d_top_of.name d_top_of.name (defArgs d_top_of.st) (defBody d_top_of.st) (defScope d_top_of.st) .none kV doc pm an cdv ct) ⟨us, []⟩ = pure (d_top_of.ps.zip us) :=
  match us, hl with
  | [_], _ => rfl
theorem ba_bottom_of (kV doc pm : Value) (an : Option Addr) (cdv ct : Value) (us : List Value) (hl : us.length = 1) :
    bindArgs (PySem.W.fnOf d_bottom_of.name d_bottom_of.name (defArgs d_bottom_of.st) (defBody d_bottom_of.st) (defScope d_bottom_of.st) .none kV doc pm an cdv ct) ⟨us, []⟩ = pure (d_bottom_of.ps.zip us) :=
  match us, hl with
  | [_], _ => rfl
theorem ba_plus (kV doc pm : Value) (an : Option Addr) (cdv ct : Value) (us : List Value) (hl : us.length = 2) :
    bindArgs (PySem.W.fnOf d_plus.name d_plus.name (defArgs d_plus.st) (defBody d_plus.st) (defScope d_plus.st) .none kV doc pm an cdv ct) ⟨us, []⟩ = pure (d_plus.ps.zip us) :=
  match us, hl with
  | [_, _], _ => rfl
theorem ba_minus (kV doc pm : Value) (an : Option Addr) (cdv ct : Value) (us : List Value) (hl : us.length = 2) :
    bindArgs (PySem.W.fnOf d_minus.name d_minus.name (defArgs d_minus.st) (defBody d_minus.st) (defScope d_minus.st) .none kV doc pm an cdv ct) ⟨us, []⟩ = pure (d_minus.ps.zip us) :=
  match us, hl with
  | [_, _], _ => rfl
theorem ba_times (kV doc pm : Value) (an : Option Addr) (cdv ct : Value) (us : List Value) (hl : us.length = 2) :
    bindArgs (PySem.W.fnOf d_times.name d_times.name (defArgs d_times.st) (defBody d_times.st) (defScope d_times.st) .none kV doc pm an cdv ct) ⟨us, []⟩ = pure (d_times.ps.zip us) :=
  match us, hl with
  | [_, _], _ => rfl
theorem ba_less (kV doc pm : Value) (an : Option Addr) (cdv ct : Value) (us : List Value) (hl : us.length = 2) :
    bindArgs (PySem.W.fnOf d_less.name d_less.name (defArgs d_less.st) (defBody d_less.st) (defScope d_less.st) .none kV doc pm an cdv ct) ⟨us, []⟩ = pure (d_less.ps.zip us) :=
  match us, hl with
  | [_, _], _ => rfl
theorem ba_common_bottom (kV doc pm : Value) (an : Option Addr) (cdv ct : Value) (us : List Value) (hl : us.length = 1) :
    bindArgs (PySem.W.fnOf d_common_bottom.name d_common_bottom.name (defArgs d_common_bottom.st) (defBody d_common_bottom.st) (defScope d_common_bottom.st) .none kV doc pm an cdv ct) ⟨us, []⟩ = pure (d_common_bottom.ps.zip us) :=
  match us, hl with
  | [_], _ => rfl
theorem ba_support (kV doc pm : Value) (an : Option Addr) (cdv ct : Value) (us : List Value) (hl : us.length = 1) :
    bindArgs (PySem.W.fnOf d_support.name d_support.name (defArgs d_support.st) (defBody d_support.st) (defScope d_support.st) .none kV doc pm an cdv ct) ⟨us, []⟩ = pure (d_support.ps.zip us) :=
  match us, hl with
  | [_], _ => rfl
theorem ba_dot (kV doc pm : Value) (an : Option Addr) (cdv ct : Value) (us : List Value) (hl : us.length = 2) :
    bindArgs (PySem.W.fnOf d_dot.name d_dot.name (defArgs d_dot.st) (defBody d_dot.st) (defScope d_dot.st) .none kV doc pm an cdv ct) ⟨us, []⟩ = pure (d_dot.ps.zip us) :=
  match us, hl with
  | [_, _], _ => rfl
theorem ba_negative (kV doc pm : Value) (an : Option Addr) (cdv ct : Value) (us : List Value) (hl : us.length = 1) :
    bindArgs (PySem.W.fnOf d_negative.name d_negative.name (defArgs d_negative.st) (defBody d_negative.st) (defScope d_negative.st) .none kV doc pm an cdv ct) ⟨us, []⟩ = pure (d_negative.ps.zip us) :=
  match us, hl with
  | [_], _ => rfl
theorem ba_scaled (kV doc pm : Value) (an : Option Addr) (cdv ct : Value) (us : List Value) (hl : us.length = 2) :
    bindArgs (PySem.W.fnOf d_scaled.name d_scaled.name (defArgs d_scaled.st) (defBody d_scaled.st) (defScope d_scaled.st) .none kV doc pm an cdv ct) ⟨us, []⟩ = pure (d_scaled.ps.zip us) :=
  match us, hl with
  | [_, _], _ => rfl
theorem ba_added (kV doc pm : Value) (an : Option Addr) (cdv ct : Value) (us : List Value) (hl : us.length = 2) :
    bindArgs (PySem.W.fnOf d_added.name d_added.name (defArgs d_added.st) (defBody d_added.st) (defScope d_added.st) .none kV doc pm an cdv ct) ⟨us, []⟩ = pure (d_added.ps.zip us) :=
  match us, hl with
  | [_, _], _ => rfl
theorem ba_before (kV doc pm : Value) (an : Option Addr) (cdv ct : Value) (us : List Value) (hl : us.length = 2) :
    bindArgs (PySem.W.fnOf d_before.name d_before.name (defArgs d_before.st) (defBody d_before.st) (defScope d_before.st) .none kV doc pm an cdv ct) ⟨us, []⟩ = pure (d_before.ps.zip us) :=
  match us, hl with
  | [_, _], _ => rfl
theorem ba_agrees (kV doc pm : Value) (an : Option Addr) (cdv ct : Value) (us : List Value) (hl : us.length = 2) :
    bindArgs (PySem.W.fnOf d_agrees.name d_agrees.name (defArgs d_agrees.st) (defBody d_agrees.st) (defScope d_agrees.st) .none kV doc pm an cdv ct) ⟨us, []⟩ = pure (d_agrees.ps.zip us) :=
  match us, hl with
  | [_, _], _ => rfl
theorem ba_primitive (kV doc pm : Value) (an : Option Addr) (cdv ct : Value) (us : List Value) (hl : us.length = 1) :
    bindArgs (PySem.W.fnOf d_primitive.name d_primitive.name (defArgs d_primitive.st) (defBody d_primitive.st) (defScope d_primitive.st) .none kV doc pm an cdv ct) ⟨us, []⟩ = pure (d_primitive.ps.zip us) :=
  match us, hl with
  | [_], _ => rfl
theorem ba__law_cell (kV doc pm : Value) (an : Option Addr) (cdv ct : Value) (us : List Value) (hl : us.length = 2) :
    bindArgs (PySem.W.fnOf d__law_cell.name d__law_cell.name (defArgs d__law_cell.st) (defBody d__law_cell.st) (defScope d__law_cell.st) .none kV doc pm an cdv ct) ⟨us, []⟩ = pure (d__law_cell.ps.zip us) :=
  match us, hl with
  | [_, _], _ => rfl
theorem ba__law_numbers (kV doc pm : Value) (an : Option Addr) (cdv ct : Value) (us : List Value) (hl : us.length = 3) :
    bindArgs (PySem.W.fnOf d__law_numbers.name d__law_numbers.name (defArgs d__law_numbers.st) (defBody d__law_numbers.st) (defScope d__law_numbers.st) .none kV doc pm an cdv ct) ⟨us, []⟩ = pure (d__law_numbers.ps.zip us) :=
  match us, hl with
  | [_, _, _], _ => rfl
theorem ba__law_gcd (kV doc pm : Value) (an : Option Addr) (cdv ct : Value) (us : List Value) (hl : us.length = 2) :
    bindArgs (PySem.W.fnOf d__law_gcd.name d__law_gcd.name (defArgs d__law_gcd.st) (defBody d__law_gcd.st) (defScope d__law_gcd.st) .none kV doc pm an cdv ct) ⟨us, []⟩ = pure (d__law_gcd.ps.zip us) :=
  match us, hl with
  | [_, _], _ => rfl
theorem ba__law_make (kV doc pm : Value) (an : Option Addr) (cdv ct : Value) (us : List Value) (hl : us.length = 2) :
    bindArgs (PySem.W.fnOf d__law_make.name d__law_make.name (defArgs d__law_make.st) (defBody d__law_make.st) (defScope d__law_make.st) .none kV doc pm an cdv ct) ⟨us, []⟩ = pure (d__law_make.ps.zip us) :=
  match us, hl with
  | [_, _], _ => rfl
theorem ba__law_top (kV doc pm : Value) (an : Option Addr) (cdv ct : Value) (us : List Value) (hl : us.length = 1) :
    bindArgs (PySem.W.fnOf d__law_top.name d__law_top.name (defArgs d__law_top.st) (defBody d__law_top.st) (defScope d__law_top.st) .none kV doc pm an cdv ct) ⟨us, []⟩ = pure (d__law_top.ps.zip us) :=
  match us, hl with
  | [_], _ => rfl
theorem ba__law_bottom (kV doc pm : Value) (an : Option Addr) (cdv ct : Value) (us : List Value) (hl : us.length = 1) :
    bindArgs (PySem.W.fnOf d__law_bottom.name d__law_bottom.name (defArgs d__law_bottom.st) (defBody d__law_bottom.st) (defScope d__law_bottom.st) .none kV doc pm an cdv ct) ⟨us, []⟩ = pure (d__law_bottom.ps.zip us) :=
  match us, hl with
  | [_], _ => rfl
theorem ba__law_plus (kV doc pm : Value) (an : Option Addr) (cdv ct : Value) (us : List Value) (hl : us.length = 2) :
    bindArgs (PySem.W.fnOf d__law_plus.name d__law_plus.name (defArgs d__law_plus.st) (defBody d__law_plus.st) (defScope d__law_plus.st) .none kV doc pm an cdv ct) ⟨us, []⟩ = pure (d__law_plus.ps.zip us) :=
  match us, hl with
  | [_, _], _ => rfl
theorem ba__law_times (kV doc pm : Value) (an : Option Addr) (cdv ct : Value) (us : List Value) (hl : us.length = 2) :
    bindArgs (PySem.W.fnOf d__law_times.name d__law_times.name (defArgs d__law_times.st) (defBody d__law_times.st) (defScope d__law_times.st) .none kV doc pm an cdv ct) ⟨us, []⟩ = pure (d__law_times.ps.zip us) :=
  match us, hl with
  | [_, _], _ => rfl
theorem ba__law_less (kV doc pm : Value) (an : Option Addr) (cdv ct : Value) (us : List Value) (hl : us.length = 2) :
    bindArgs (PySem.W.fnOf d__law_less.name d__law_less.name (defArgs d__law_less.st) (defBody d__law_less.st) (defScope d__law_less.st) .none kV doc pm an cdv ct) ⟨us, []⟩ = pure (d__law_less.ps.zip us) :=
  match us, hl with
  | [_, _], _ => rfl
theorem ba__law_dot (kV doc pm : Value) (an : Option Addr) (cdv ct : Value) (us : List Value) (hl : us.length = 2) :
    bindArgs (PySem.W.fnOf d__law_dot.name d__law_dot.name (defArgs d__law_dot.st) (defBody d__law_dot.st) (defScope d__law_dot.st) .none kV doc pm an cdv ct) ⟨us, []⟩ = pure (d__law_dot.ps.zip us) :=
  match us, hl with
  | [_, _], _ => rfl
theorem ba__law_is_int (kV doc pm : Value) (an : Option Addr) (cdv ct : Value) (us : List Value) (hl : us.length = 1) :
    bindArgs (PySem.W.fnOf d__law_is_int.name d__law_is_int.name (defArgs d__law_is_int.st) (defBody d__law_is_int.st) (defScope d__law_is_int.st) .none kV doc pm an cdv ct) ⟨us, []⟩ = pure (d__law_is_int.ps.zip us) :=
  match us, hl with
  | [_], _ => rfl
theorem ba__law_whole_list (kV doc pm : Value) (an : Option Addr) (cdv ct : Value) (us : List Value) (hl : us.length = 2) :
    bindArgs (PySem.W.fnOf d__law_whole_list.name d__law_whole_list.name (defArgs d__law_whole_list.st) (defBody d__law_whole_list.st) (defScope d__law_whole_list.st) .none kV doc pm an cdv ct) ⟨us, []⟩ = pure (d__law_whole_list.ps.zip us) :=
  match us, hl with
  | [_, _], _ => rfl
theorem ba__law_like (kV doc pm : Value) (an : Option Addr) (cdv ct : Value) (us : List Value) (hl : us.length = 2) :
    bindArgs (PySem.W.fnOf d__law_like.name d__law_like.name (defArgs d__law_like.st) (defBody d__law_like.st) (defScope d__law_like.st) .none kV doc pm an cdv ct) ⟨us, []⟩ = pure (d__law_like.ps.zip us) :=
  match us, hl with
  | [_, _], _ => rfl
theorem ba__law_says (kV doc pm : Value) (an : Option Addr) (cdv ct : Value) (us : List Value) (hl : us.length = 2) :
    bindArgs (PySem.W.fnOf d__law_says.name d__law_says.name (defArgs d__law_says.st) (defBody d__law_says.st) (defScope d__law_says.st) .none kV doc pm an cdv ct) ⟨us, []⟩ = pure (d__law_says.ps.zip us) :=
  match us, hl with
  | [_, _], _ => rfl
theorem ba__law_support (kV doc pm : Value) (an : Option Addr) (cdv ct : Value) (us : List Value) (hl : us.length = 1) :
    bindArgs (PySem.W.fnOf d__law_support.name d__law_support.name (defArgs d__law_support.st) (defBody d__law_support.st) (defScope d__law_support.st) .none kV doc pm an cdv ct) ⟨us, []⟩ = pure (d__law_support.ps.zip us) :=
  match us, hl with
  | [_], _ => rfl
theorem ba__law_drawn (kV doc pm : Value) (an : Option Addr) (cdv ct : Value) (us : List Value) (hl : us.length = 2) :
    bindArgs (PySem.W.fnOf d__law_drawn.name d__law_drawn.name (defArgs d__law_drawn.st) (defBody d__law_drawn.st) (defScope d__law_drawn.st) .none kV doc pm an cdv ct) ⟨us, []⟩ = pure (d__law_drawn.ps.zip us) :=
  match us, hl with
  | [_, _], _ => rfl
theorem ba__law_second (kV doc pm : Value) (an : Option Addr) (cdv ct : Value) (us : List Value) (hl : us.length = 4) :
    bindArgs (PySem.W.fnOf d__law_second.name d__law_second.name (defArgs d__law_second.st) (defBody d__law_second.st) (defScope d__law_second.st) .none kV doc pm an cdv ct) ⟨us, []⟩ = pure (d__law_second.ps.zip us) :=
  match us, hl with
  | [_, _, _, _], _ => rfl
theorem ba__law_agrees (kV doc pm : Value) (an : Option Addr) (cdv ct : Value) (us : List Value) (hl : us.length = 2) :
    bindArgs (PySem.W.fnOf d__law_agrees.name d__law_agrees.name (defArgs d__law_agrees.st) (defBody d__law_agrees.st) (defScope d__law_agrees.st) .none kV doc pm an cdv ct) ⟨us, []⟩ = pure (d__law_agrees.ps.zip us) :=
  match us, hl with
  | [_, _], _ => rfl
theorem ba__law_before (kV doc pm : Value) (an : Option Addr) (cdv ct : Value) (us : List Value) (hl : us.length = 2) :
    bindArgs (PySem.W.fnOf d__law_before.name d__law_before.name (defArgs d__law_before.st) (defBody d__law_before.st) (defScope d__law_before.st) .none kV doc pm an cdv ct) ⟨us, []⟩ = pure (d__law_before.ps.zip us) :=
  match us, hl with
  | [_, _], _ => rfl
theorem ba__law_new (kV doc pm : Value) (an : Option Addr) (cdv ct : Value) (us : List Value) (hl : us.length = 4) :
    bindArgs (PySem.W.fnOf d__law_new.name d__law_new.name (defArgs d__law_new.st) (defBody d__law_new.st) (defScope d__law_new.st) .none kV doc pm an cdv ct) ⟨us, []⟩ = pure (d__law_new.ps.zip us) :=
  match us, hl with
  | [_, _, _, _], _ => rfl
theorem ba__law_sums (kV doc pm : Value) (an : Option Addr) (cdv ct : Value) (us : List Value) (hl : us.length = 3) :
    bindArgs (PySem.W.fnOf d__law_sums.name d__law_sums.name (defArgs d__law_sums.st) (defBody d__law_sums.st) (defScope d__law_sums.st) .none kV doc pm an cdv ct) ⟨us, []⟩ = pure (d__law_sums.ps.zip us) :=
  match us, hl with
  | [_, _, _], _ => rfl
theorem ba__law_ordered (kV doc pm : Value) (an : Option Addr) (cdv ct : Value) (us : List Value) (hl : us.length = 2) :
    bindArgs (PySem.W.fnOf d__law_ordered.name d__law_ordered.name (defArgs d__law_ordered.st) (defBody d__law_ordered.st) (defScope d__law_ordered.st) .none kV doc pm an cdv ct) ⟨us, []⟩ = pure (d__law_ordered.ps.zip us) :=
  match us, hl with
  | [_, _], _ => rfl
theorem ba__law_orders (kV doc pm : Value) (an : Option Addr) (cdv ct : Value) (us : List Value) (hl : us.length = 3) :
    bindArgs (PySem.W.fnOf d__law_orders.name d__law_orders.name (defArgs d__law_orders.st) (defBody d__law_orders.st) (defScope d__law_orders.st) .none kV doc pm an cdv ct) ⟨us, []⟩ = pure (d__law_orders.ps.zip us) :=
  match us, hl with
  | [_, _, _], _ => rfl
theorem ba__law_cells_ordered (kV doc pm : Value) (an : Option Addr) (cdv ct : Value) (us : List Value) (hl : us.length = 1) :
    bindArgs (PySem.W.fnOf d__law_cells_ordered.name d__law_cells_ordered.name (defArgs d__law_cells_ordered.st) (defBody d__law_cells_ordered.st) (defScope d__law_cells_ordered.st) .none kV doc pm an cdv ct) ⟨us, []⟩ = pure (d__law_cells_ordered.ps.zip us) :=
  match us, hl with
  | [_], _ => rfl
theorem ba__law_primitive_told (kV doc pm : Value) (an : Option Addr) (cdv ct : Value) (us : List Value) (hl : us.length = 2) :
    bindArgs (PySem.W.fnOf d__law_primitive_told.name d__law_primitive_told.name (defArgs d__law_primitive_told.st) (defBody d__law_primitive_told.st) (defScope d__law_primitive_told.st) .none kV doc pm an cdv ct) ⟨us, []⟩ = pure (d__law_primitive_told.ps.zip us) :=
  match us, hl with
  | [_, _], _ => rfl
theorem ba_law (kV doc pm : Value) (an : Option Addr) (cdv ct : Value) (us : List Value) (hl : us.length = 1) :
    bindArgs (PySem.W.fnOf d_law.name d_law.name (defArgs d_law.st) (defBody d_law.st) (defScope d_law.st) .none kV doc pm an cdv ct) ⟨us, []⟩ = pure (d_law.ps.zip us) :=
  match us, hl with
  | [_], _ => rfl
theorem hb : ∀ d, d ∈ prg.defs → ∀ (kV doc pm : Value) (an : Option Addr) (cdv ct : Value) (us : List Value), us.length = d.ps.length →
    bindArgs (PySem.W.fnOf d.name d.name (defArgs d.st) (defBody d.st) (defScope d.st) .none kV doc pm an cdv ct) ⟨us, []⟩ = pure (d.ps.zip us) := fun d hd => by
  unfold prg defs at hd
  simp only [List.cons_append, List.nil_append, List.mem_cons, List.not_mem_nil, or_false] at hd
  rcases hd with rfl | rfl | rfl | rfl | rfl | rfl | rfl | rfl | rfl | rfl | rfl | rfl | rfl | rfl | rfl | rfl | rfl | rfl | rfl | rfl | rfl | rfl | rfl | rfl | rfl | rfl | rfl | rfl | rfl | rfl | rfl | rfl | rfl | rfl | rfl | rfl | rfl | rfl | rfl | rfl | rfl | rfl | rfl
  · exact ba_ratio
  · exact ba_is_whole
  · exact ba_top_of
  · exact ba_bottom_of
  · exact ba_plus
  · exact ba_minus
  · exact ba_times
  · exact ba_less
  · exact ba_common_bottom
  · exact ba_support
  · exact ba_dot
  · exact ba_negative
  · exact ba_scaled
  · exact ba_added
  · exact ba_before
  · exact ba_agrees
  · exact ba_primitive
  · exact ba__law_cell
  · exact ba__law_numbers
  · exact ba__law_gcd
  · exact ba__law_make
  · exact ba__law_top
  · exact ba__law_bottom
  · exact ba__law_plus
  · exact ba__law_times
  · exact ba__law_less
  · exact ba__law_dot
  · exact ba__law_is_int
  · exact ba__law_whole_list
  · exact ba__law_like
  · exact ba__law_says
  · exact ba__law_support
  · exact ba__law_drawn
  · exact ba__law_second
  · exact ba__law_agrees
  · exact ba__law_before
  · exact ba__law_new
  · exact ba__law_sums
  · exact ba__law_ordered
  · exact ba__law_orders
  · exact ba__law_cells_ordered
  · exact ba__law_primitive_told
  · exact ba_law
theorem fns : ∀ f, f ∈ nm.fns → (prg.defs.find? fun d => d.name == f).isSome = true := by
  have h : (nm.fns.all fun f => (prg.defs.find? fun d => d.name == f).isSome) = true := by decide +kernel
  exact fun f hf => List.all_eq_true.mp h f hf
theorem lfs : ∀ f, f ∈ nm.lfs → ∃ d, (prg.defs.find? fun d => d.name == f) = some d ∧ d.lb.isSome = true := by
  have h : (nm.lfs.all fun f => match prg.defs.find? fun d => d.name == f with | some d => d.lb.isSome | none => false) = true := by decide +kernel
  intro f hf
  have q := List.all_eq_true.mp h f hf
  split at q
  · rename_i d e; exact ⟨d, e, q⟩
  · cases q
theorem hxl : ∀ C, C ∈ nm.exl → ∃ b, ((C, C), b) ∈ hd.xs := by
  have h : (nm.exl.all fun C => hd.xs.contains ((C, C), true)) = true := by decide +kernel
  exact fun C hC => ⟨true, by have := List.all_eq_true.mp h C hC; simpa using this⟩
theorem holds (hlaw : ∀ ns : List Int, ns.length ≤ 63 → (∀ k, k ∈ ns → Builtin.Int.intBits k ≤ 1048576) → prg.val d_law 13 [.scr ns] = .ok (.fz (.bl true))) : PySem.Challenge.rw_fineststep_k03_rows_and_lists.Holds := by
  w_on; o_law
  refine HandSHeadRun.head_imp (r := R) (q := PySem.W.view R.prog [0, 49]) (H := hk) (ob := ob) (M := 20000) (loose := loose) (d := HandSHeadRun.topDef R.prog 49) (kwd := []) ob_eq
    run (by kernel_rfl) (by kernel_rfl) (by kernel_rfl) (by rfl) (by first | assumption | decide +kernel) (by decide +kernel) ⟨rfl, rfl, rfl, rfl, rfl, by decide +kernel⟩ ?hw ?hc
  case hw => w_witness2
  case hc =>
    refine walk_px (l := PySem.Challenge.rw_fineststep_k03_rows_and_lists) (n := 63) (k := 14) (x := "_law_script") (CX := CXs) rfl (by decide) (by kernel_rfl) ⟨rfl, by decide, by decide⟩ ?F (fun _ _ _ _ z => by obtain ⟨_, _, _, z⟩ := z; exact z)
    intro w mg fa h Y G hmg0
    obtain ⟨K, KX, c, c2⟩ := Y
    have hmg : mg d_law.name = some (.ref fa) := by
      have e : (HandSHeadRun.topDef R.prog 49).name = d_law.name := by kernel_rfl
      rw [← e]
      exact hmg0
    have hg : glB K d_law.name = true := by
      have c3 := c2
      unfold ck Hd.ok at c3
      exact List.all_eq_true.mp (Bool.and_eq_true_iff.mp c3).1 _ (List.mem_map.mpr ⟨d_law, List.mem_of_getElem? (i := 42) rfl, rfl⟩)
    exact law_walk (p := prg) (nm := nm) (d := d_law) (i := 42) KX G c rfl rfl hg hmg (fun base KB GB => fx_of KB GB c c2 PySem.Challenge.rw_fineststep_k03_rows_and_lists.prog w base chk hb fns rfl lfs rfl (.inl rfl) rfl rfl rfl rfl rfl rfl hxl (fun C fs hC => by cases hC)) (hb d_law (List.mem_of_getElem? (i := 42) rfl)) hlaw
end K03

set_option Elab.async false
set_option linter.all false
set_option maxRecDepth 100000
/-! EXa: exact numbers, as the evaluation has them. -/
namespace PX
open PySem PySem.Spec PyProof.Rows L2

/-- a def of the program, by its body -/
class HasF (p : Prg) (f : Str) (n k : outParam Nat) (b : outParam (List S)) : Prop where
  eq : ∀ m, p.call (m + 1) f = fun ds => evDef (p.tb m) n k b ds
class HasC (p : Prg) (x : Str) (d : outParam D) : Prop where
  eq : p.cst x = some d
theorem HasF.run {p : Prg} {f : Str} {n k : Nat} {b : List S} [h : HasF p f n k b] (m : Nat) (ds : List D) : p.call (m + 1) f ds = evDef (p.tb m) n k b ds := by rw [h.eq]
@[simp] theorem tb_call (p : Prg) (m : Nat) : (p.tb m).call = p.call m := rfl
@[simp] theorem tb_cst (p : Prg) (m : Nat) : (p.tb m).cst = p.cst := rfl
@[simp] theorem tb_sub (p : Prg) (m : Nat) : (p.tb m).sub = p.sub := rfl
@[simp] theorem tb_oc (p : Prg) (m : Nat) : (p.tb m).oc = p.oc := rfl
@[simp] theorem tb_fuel (p : Prg) (m : Nat) : (p.tb m).fuel = p.fuel := rfl
@[simp] theorem kb_int_tuple : kitB "int" "tuple" = some false := by decide +kernel
@[simp] theorem kb_tuple_tuple : kitB "tuple" "tuple" = some true := by decide +kernel
@[simp] theorem kb_none_tuple : kitB "NoneType" "tuple" = some false := by decide +kernel
@[simp] theorem kb_str_tuple : kitB "str" "tuple" = some false := by decide +kernel
@[simp] theorem kb_list_tuple : kitB "list" "tuple" = some false := by decide +kernel
@[simp] theorem kb_bool_tuple : kitB "bool" "tuple" = some false := by decide +kernel
@[simp] theorem kb_int_int : kitB "int" "int" = some true := by decide +kernel
@[simp] theorem kb_int_bool : kitB "int" "bool" = some false := by decide +kernel
@[simp] theorem kb_int_str : kitB "int" "str" = some false := by decide +kernel
@[simp] theorem kb_int_list : kitB "int" "list" = some false := by decide +kernel
@[simp] theorem kb_bool_int : kitB "bool" "int" = some true := by decide +kernel
@[simp] theorem kb_bool_bool : kitB "bool" "bool" = some true := by decide +kernel
@[simp] theorem kb_tuple_int : kitB "tuple" "int" = some false := by decide +kernel
@[simp] theorem kb_tuple_bool : kitB "tuple" "bool" = some false := by decide +kernel
@[simp] theorem kb_str_str : kitB "str" "str" = some true := by decide +kernel
@[simp] theorem kb_str_int : kitB "str" "int" = some false := by decide +kernel
@[simp] theorem kb_list_list : kitB "list" "list" = some true := by decide +kernel
@[simp] theorem kb_list_int : kitB "list" "int" = some false := by decide +kernel
@[simp] theorem kb_none_int : kitB "NoneType" "int" = some false := by decide +kernel
@[simp] theorem asBool_bl (b : Bool) : asBool (.fz (.bl b)) = .ok b := rfl
@[simp] theorem non_int (i : Int) : E.non? (.int i) = false := rfl
@[simp] theorem sub_step : (2 : Nat) ≤ sizeLine := by rw [sizeLine_eq]; decide

section
variable {i j : Int}
@[simp] theorem ob_add : opBin .Add (.int i) (.int j) = .ok (.fz (.int (i + j))) := rfl
@[simp] theorem ob_sub : opBin .Sub (.int i) (.int j) = .ok (.fz (.int (i - j))) := rfl
@[simp] theorem ob_mul (h : lgI i + lgI j < mulLine) : opBin .Mult (.int i) (.int j) = .ok (.fz (.int (i * j))) := if_pos h
@[simp] theorem ob_div (h : j ≠ 0) (h2 : lgI j < divLine) : opBin .FloorDiv (.int i) (.int j) = .ok (.fz (.int (i.fdiv j))) := if_pos ⟨h, h2⟩
@[simp] theorem ob_mod (h : j ≠ 0) : opBin .Mod (.int i) (.int j) = .ok (.fz (.int (i.fmod j))) := if_pos h
@[simp] theorem bi_len_l (xs : List D) : evBi .len [.lst xs] = .ok (.fz (.int xs.length)) := rfl
@[simp] theorem bi_len_t (xs : List D) : evBi .len [.tup xs] = .ok (.fz (.int xs.length)) := rfl
@[simp] theorem bi_len_s (xs : List Int) : evBi .len [.scr xs] = .ok (.fz (.int xs.length)) := rfl
@[simp] theorem bi_len_x {z : Str} (h : z.length ≤ sizeLine) : evBi .len [.str z] = .ok (.fz (.int z.length)) := if_pos h
@[simp] theorem bi_abs : evBi .abs [.int i] = .ok (.fz (.int (if i < 0 then -i else i))) := rfl
@[simp] theorem bi_int : evBi .int [.int i] = .ok (.fz (.int i)) := rfl
@[simp] theorem bi_gcd : evBi .gcd [.int i, .int j] = .ok (.fz (.int ((Nat.gcd i.natAbs j.natAbs : Nat) : Int))) := rfl
@[simp] theorem bi_lcm (h : i.natAbs < 2 ^ 64) (h2 : j.natAbs < 2 ^ 64) : evBi .lcm [.int i, .int j] = .ok (.fz (.int ((Nat.lcm i.natAbs j.natAbs : Nat) : Int))) := if_pos ⟨h, h2⟩
@[simp] theorem bi_list_l (xs : List D) : evBi .list [.lst xs] = .ok (.fr (.lst xs)) := rfl
@[simp] theorem bi_list_t (xs : List D) : evBi .list [.tup xs] = .ok (.fr (.lst xs)) := rfl
@[simp] theorem bi_tuple_l (xs : List D) : evBi .tuple [.lst xs] = .ok (.fz (.tup xs)) := rfl
@[simp] theorem bi_isI_int (T : String) : evBi .isI [.int i, .ty T] = match kitB "int" T with | some b => .ok (.fz (.bl b)) | none => .st := rfl
@[simp] theorem bi_isI_str (s : Str) (T : String) : evBi .isI [.str s, .ty T] = match kitB "str" T with | some b => .ok (.fz (.bl b)) | none => .st := rfl
@[simp] theorem bi_isI_tup (s : List D) (T : String) : evBi .isI [.tup s, .ty T] = match kitB "tuple" T with | some b => .ok (.fz (.bl b)) | none => .st := rfl
@[simp] theorem bi_isI_lst (s : List D) (T : String) : evBi .isI [.lst s, .ty T] = match kitB "list" T with | some b => .ok (.fz (.bl b)) | none => .st := rfl
@[simp] theorem bi_isI_bl (s : Bool) (T : String) : evBi .isI [.bl s, .ty T] = match kitB "bool" T with | some b => .ok (.fz (.bl b)) | none => .st := rfl
@[simp] theorem bi_isI_non (T : String) : evBi .isI [.non, .ty T] = match kitB "NoneType" T with | some b => .ok (.fz (.bl b)) | none => .st := rfl
@[simp] theorem ix_lst (xs : List D) : opIx (.lst xs) (.int i) = match atI xs i with | some x => .ok (.fz x) | none => .st := rfl
@[simp] theorem ix_tup (xs : List D) : opIx (.tup xs) (.int i) = match atI xs i with | some x => .ok (.fz x) | none => .st := rfl
@[simp] theorem ix_scr (xs : List Int) : opIx (.scr xs) (.int i) = match atI xs i with | some x => .ok (.fz (.int x)) | none => .st := rfl
@[simp] theorem eq_int : opEq false (.int i) (.int j) = .ok (decide (i = j)) := rfl
@[simp] theorem ne_int : opEq true (.int i) (.int j) = .ok (!decide (i = j)) := rfl
@[simp] theorem items_val (ds : List D) : itemsOf .val ds = itVal ds := rfl
@[simp] theorem itVal_l (xs : List D) : itVal [.lst xs] = .ok xs := rfl
@[simp] theorem itVal_t (xs : List D) : itVal [.tup xs] = .ok xs := rfl
@[simp] theorem oi_non (d : D) : opIs d .non = .ok d.isNon := rfl
@[simp] theorem oi_bl (d : D) (b : Bool) : opIs d (.bl b) = .ok (d.isBl b) := rfl
@[simp] theorem in_non : D.isNon .non = true := rfl
@[simp] theorem in_int : D.isNon (.int i) = false := rfl
@[simp] theorem in_str (s : Str) : D.isNon (.str s) = false := rfl
@[simp] theorem in_tup (s : List D) : D.isNon (.tup s) = false := rfl
@[simp] theorem in_lst (s : List D) : D.isNon (.lst s) = false := rfl
@[simp] theorem in_bl (s : Bool) : D.isNon (.bl s) = false := rfl
@[simp] theorem ib_bl (s b : Bool) : D.isBl b (.bl s) = decide (s = b) := rfl
@[simp] theorem ib_non (b : Bool) : D.isBl b .non = false := rfl
@[simp] theorem ob_cat {xs ys : List D} (h : xs.length + ys.length ≤ sizeLine) : opBin .Add (.lst xs) (.lst ys) = .ok (.fr (.lst (xs ++ ys))) := if_pos h
@[simp] theorem ob_strs {a b : Str} (h : a.length + b.length ≤ sizeLine) : opBin .Add (.str a) (.str b) = .ok (.fz (.str (a ++ b))) := if_pos h
end
/-- how a def ends -/
def RS.out (x : RS) : R EV := match x with
  | .ok (.nx _) => .ok (.fz .non)
  | .ok (.rt v) => .ok v
  | .ex c fs _ => .ex c fs
  | _ => .st
@[simp] theorem out_nx (ρ : Rho) : RS.out (.ok (.nx ρ)) = .ok (.fz .non) := rfl
@[simp] theorem out_rt (v : EV) : RS.out (.ok (.rt v)) = .ok v := rfl
@[simp] theorem out_ex (c fs ρ) : RS.out (.ex c fs ρ) = .ex c fs := rfl
theorem evDef_out {T : Tb} {n k : Nat} {b : List S} {ds : List D} (h : ds.length = k) : evDef T n k b ds = (execs T b (startS n ds)).out := by
  unfold evDef
  rw [if_pos h]
  rfl
/-! ### how long numbers are -/
theorem lg_lt {i : Int} {k : Nat} (h : i.natAbs < 2 ^ k) (hk : 0 < k) : lgI i < k := by
  unfold lgI
  by_cases h0 : i.natAbs = 0
  · rw [h0]; simpa using hk
  · exact (Nat.log2_lt h0).2 h
theorem pw_le {a k l : Nat} (h : a < 2 ^ k) (hl : k ≤ l) : a < 2 ^ l := Nat.lt_of_lt_of_le h (Nat.pow_le_pow_right (by decide) hl)
theorem pw_mul {a b k l : Nat} (ha : a < 2 ^ k) (hb : b < 2 ^ l) : a * b < 2 ^ (k + l) := by
  rw [Nat.pow_add]
  exact Nat.mul_lt_mul'' ha hb
theorem pw_imul {a b : Int} {k l : Nat} (ha : a.natAbs < 2 ^ k) (hb : b.natAbs < 2 ^ l) : (a * b).natAbs < 2 ^ (k + l) := by
  rw [Int.natAbs_mul]; exact pw_mul ha hb
theorem pw_add {a b k : Nat} (ha : a < 2 ^ k) (hb : b < 2 ^ k) : a + b < 2 ^ (k + 1) := by
  rw [Nat.pow_succ]; omega
theorem pw_iadd {a b : Int} {k : Nat} (ha : a.natAbs < 2 ^ k) (hb : b.natAbs < 2 ^ k) : (a + b).natAbs < 2 ^ (k + 1) := by
  have := pw_add ha hb
  omega
theorem pw_isub {a b : Int} {k : Nat} (ha : a.natAbs < 2 ^ k) (hb : b.natAbs < 2 ^ k) : (a - b).natAbs < 2 ^ (k + 1) := by
  have := pw_add ha hb
  omega
/-- a number of at most k bits above and below -/
structure Bd (k : Nat) (x : Rat) : Prop where
  n : x.num.natAbs < 2 ^ k
  d : x.den < 2 ^ k
theorem Bd.le {k l : Nat} {x : Rat} (h : Bd k x) (hl : k ≤ l) : Bd l x := ⟨pw_le h.n hl, pw_le h.d hl⟩
theorem Bd.pos {k : Nat} {x : Rat} (h : Bd k x) : 0 < k := by
  rcases Nat.eq_zero_or_pos k with e | e
  · subst e; have := h.d; have := x.den_pos; simp at *; omega
  · exact e
theorem Bd.di {k : Nat} {x : Rat} (h : Bd k x) : ((x.den : Int)).natAbs < 2 ^ k := by simpa using h.d
theorem bd_divInt {a b : Int} {k : Nat} (ha : a.natAbs < 2 ^ k) (hb : b.natAbs < 2 ^ k) (h0 : b ≠ 0) : Bd k (Rat.divInt a b) where
  n := by
    rw [Rat.num_divInt]
    refine Nat.lt_of_le_of_lt ?_ ha
    rw [Int.natAbs_ediv_of_dvd (Int.dvd_trans (Int.gcd_dvd_right ..) (Int.dvd_mul_left ..)), Int.natAbs_mul, Int.natAbs_sign_of_ne_zero h0]
    simpa using Nat.div_le_self _ _
  d := by
    rw [Rat.den_divInt, if_neg h0]
    exact Nat.lt_of_le_of_lt (Nat.div_le_self _ _) hb
theorem add_divInt (x y : Rat) : x + y = Rat.divInt (x.num * y.den + y.num * x.den) ((x.den : Int) * y.den) := by
  rw [Rat.add_def', ← Rat.divInt_ofNat]; simp
theorem sub_divInt (x y : Rat) : x - y = Rat.divInt (x.num * y.den - y.num * x.den) ((x.den : Int) * y.den) := by
  rw [Rat.sub_def', ← Rat.divInt_ofNat]; simp
theorem mul_divInt (x y : Rat) : x * y = Rat.divInt (x.num * y.num) ((x.den : Int) * y.den) := by
  rw [Rat.mul_def', ← Rat.divInt_ofNat]; simp
theorem div_divInt (x y : Rat) : x / y = Rat.divInt (x.num * y.den) ((x.den : Int) * y.num) := by
  rw [Rat.div_def, Rat.inv_def, ← Rat.num_divInt_den x, Rat.divInt_mul_divInt]
  simp [Rat.num_divInt_den]
theorem den_nz (x : Rat) : (x.den : Int) ≠ 0 := by have := x.den_pos; omega
theorem dens_nz (x y : Rat) : (x.den : Int) * y.den ≠ 0 := Int.mul_ne_zero (den_nz x) (den_nz y)
theorem Bd.add {k : Nat} {x y : Rat} (h : Bd k x) (q : Bd k y) : Bd (2 * k + 1) (x + y) := by
  rw [add_divInt, show 2 * k + 1 = k + k + 1 by omega]
  exact bd_divInt (pw_iadd (pw_imul h.n q.di) (pw_imul q.n h.di)) (pw_le (pw_imul h.di q.di) (by omega)) (dens_nz x y)
theorem Bd.sub {k : Nat} {x y : Rat} (h : Bd k x) (q : Bd k y) : Bd (2 * k + 1) (x - y) := by
  rw [sub_divInt, show 2 * k + 1 = k + k + 1 by omega]
  exact bd_divInt (pw_isub (pw_imul h.n q.di) (pw_imul q.n h.di)) (pw_le (pw_imul h.di q.di) (by omega)) (dens_nz x y)
theorem Bd.mul {k : Nat} {x y : Rat} (h : Bd k x) (q : Bd k y) : Bd (2 * k) (x * y) := by
  rw [mul_divInt, show 2 * k = k + k by omega]
  exact bd_divInt (pw_imul h.n q.n) (pw_imul h.di q.di) (dens_nz x y)

/-- the one form of a number -/
def enc (x : Rat) : D := if x.den = 1 then .int x.num else .tup [.int x.num, .int x.den]
theorem enc_one {x : Rat} (h : x.den = 1) : enc x = .int x.num := if_pos h
theorem enc_two {x : Rat} (h : x.den ≠ 1) : enc x = .tup [.int x.num, .int x.den] := if_neg h
@[simp] theorem enc_isNon (x : Rat) : (enc x).isNon = false := by
  unfold enc
  split <;> rfl
theorem enc_int (i : Int) : enc (i : Rat) = .int i := enc_one rfl

section
variable {p : Prg} {m : Nat}
theorem isI_tup (x : Rat) : evBi .isI [enc x, .ty "tuple"] = .ok (.fz (.bl (decide (x.den ≠ 1)))) := by
  by_cases h : x.den = 1
  · rw [enc_one h]; simp [h]
  · rw [enc_two h]; simp [h]
theorem at0 {α : Type} (a : α) (l : List α) : atI (a :: l) 0 = some a := by simp [atI, ixN]
theorem at1 {α : Type} (a b : α) (l : List α) : atI (a :: b :: l) 1 = some b := by
  have h : (1 : Int) < (l.length : Int) + 1 + 1 := by omega
  simp [atI, ixN, h]
theorem enc_at0 {x : Rat} (h : x.den ≠ 1) : opIx (enc x) (.int 0) = .ok (.fz (.int x.num)) := by rw [enc_two h]; simp [at0]
theorem enc_at1 {x : Rat} (h : x.den ≠ 1) : opIx (enc x) (.int 1) = .ok (.fz (.int x.den)) := by rw [enc_two h]; simp [at1]
theorem sp_is_whole [HasF p "is_whole" 1 1 Bx.is_whole] (x : Rat) : p.call (m + 1) "is_whole" [enc x] = .ok (.fz (.bl (decide (x.den = 1)))) := by
  rw [HasF.run]
  by_cases hx : x.den = 1
  · simp [evDef, startS, PX.execs, PX.exec, evX, evXB, evXL, frzS, anyOw, evE, evL, evJ, evT, bindE, bindT, bindTp, opCmp, opI2, storeIx, E.non?, slB, Bx.is_whole, hx, enc_one hx]
  · simp [evDef, startS, PX.execs, PX.exec, evX, evXB, evXL, frzS, anyOw, evE, evL, evJ, evT, bindE, bindT, bindTp, opCmp, opI2, storeIx, E.non?, slB, Bx.is_whole, hx, enc_two hx]
theorem sp_top_of [HasF p "top_of" 1 1 Bx.top_of] (x : Rat) : p.call (m + 1) "top_of" [enc x] = .ok (.fz (.int x.num)) := by
  rw [HasF.run]
  by_cases hx : x.den = 1
  · simp [evDef, startS, PX.execs, PX.exec, evX, evXB, evXL, frzS, anyOw, evE, evL, evJ, evT, bindE, bindT, bindTp, opCmp, opI2, storeIx, E.non?, slB, Bx.top_of, hx, enc_one hx]
  · simp [evDef, startS, PX.execs, PX.exec, evX, evXB, evXL, frzS, anyOw, evE, evL, evJ, evT, bindE, bindT, bindTp, opCmp, opI2, storeIx, E.non?, slB, Bx.top_of, hx, enc_two hx, at0]
theorem sp_bottom_of [HasF p "bottom_of" 1 1 Bx.bottom_of] (x : Rat) : p.call (m + 1) "bottom_of" [enc x] = .ok (.fz (.int x.den)) := by
  rw [HasF.run]
  by_cases hx : x.den = 1
  · simp [evDef, startS, PX.execs, PX.exec, evX, evXB, evXL, frzS, anyOw, evE, evL, evJ, evT, bindE, bindT, bindTp, opCmp, opI2, storeIx, E.non?, slB, Bx.bottom_of, hx, enc_one hx]
  · simp [evDef, startS, PX.execs, PX.exec, evX, evXB, evXL, frzS, anyOw, evE, evL, evJ, evT, bindE, bindT, bindTp, opCmp, opI2, storeIx, E.non?, slB, Bx.bottom_of, hx, enc_two hx, at1]
theorem ratio_pos {a b : Int} (h : 0 < b) : enc (Rat.divInt a b) = if (Nat.gcd a.natAbs b.natAbs : Int) = b then .int (a.fdiv (Nat.gcd a.natAbs b.natAbs : Nat)) else .tup [.int (a.fdiv (Nat.gcd a.natAbs b.natAbs : Nat)), .int (b.fdiv (Nat.gcd a.natAbs b.natAbs : Nat))] := by
  have hg : 0 < Nat.gcd a.natAbs b.natAbs := Nat.gcd_pos_of_pos_right _ (by omega)
  have e1 : (Rat.divInt a b).num = a.fdiv (Nat.gcd a.natAbs b.natAbs : Nat) := by
    rw [Rat.num_divInt, Int.sign_eq_one_of_pos h, Int.one_mul, Int.fdiv_eq_ediv_of_nonneg _ (by omega)]
    rw [show b.gcd a = Nat.gcd a.natAbs b.natAbs from Nat.gcd_comm ..]
  have e2 : ((Rat.divInt a b).den : Int) = b.fdiv (Nat.gcd a.natAbs b.natAbs : Nat) := by
    rw [Rat.den_divInt, if_neg (by omega), Int.fdiv_eq_ediv_of_nonneg _ (by omega)]
    rw [show b.gcd a = Nat.gcd a.natAbs b.natAbs from Nat.gcd_comm ..]
    rw [Int.natCast_ediv]
    rw [Int.natAbs_of_nonneg (by omega)]
  have e3 : (Rat.divInt a b).den = 1 ↔ (Nat.gcd a.natAbs b.natAbs : Int) = b := by
    rw [Rat.den_divInt, if_neg (by omega)]
    rw [show b.gcd a = Nat.gcd a.natAbs b.natAbs from Nat.gcd_comm ..]
    have hd : Nat.gcd a.natAbs b.natAbs ∣ b.natAbs := Nat.gcd_dvd_right ..
    constructor
    · intro z
      have := Nat.eq_mul_of_div_eq_right hd z
      omega
    · intro z
      have : b.natAbs = Nat.gcd a.natAbs b.natAbs := by omega
      rw [← this]
      exact Nat.div_self (by omega)
  unfold enc
  rw [← e1, ← e2]
  by_cases q : (Rat.divInt a b).den = 1
  · rw [if_pos q, if_pos (e3.1 q)]
  · rw [if_neg q, if_neg (fun z => q (e3.2 z))]
theorem gcd_lg {a b : Int} (hb : b ≠ 0) (h : b.natAbs < 2 ^ 9000) : (Nat.gcd a.natAbs b.natAbs : Int) ≠ 0 ∧ lgI (Nat.gcd a.natAbs b.natAbs : Nat) < divLine := by
  have hg : 0 < Nat.gcd a.natAbs b.natAbs := Nat.gcd_pos_of_pos_right _ (by omega)
  refine ⟨by omega, lg_lt (k := 9000) ?_ (by decide)⟩
  have : Nat.gcd a.natAbs b.natAbs ≤ b.natAbs := Nat.le_of_dvd (by omega) (Nat.gcd_dvd_right ..)
  simp only [Int.natAbs_natCast]
  omega
theorem sp_ratio [HasF p "ratio" 3 2 Bx.ratio] {a b : Int} (hb : b ≠ 0) (hl : b.natAbs < 2 ^ 9000) : p.call (m + 1) "ratio" [.int a, .int b] = .ok (.fz (enc (Rat.divInt a b))) := by
  rw [HasF.run]
  obtain ⟨g1, g2⟩ := gcd_lg (a := a) hb hl
  by_cases h1 : b < 0
  · rw [← Rat.neg_divInt_neg, ratio_pos (show 0 < -b by omega)]
    have e : (-b).natAbs = b.natAbs := by omega
    have e' : (-a).natAbs = a.natAbs := by omega
    simp only [e, e']
    by_cases h2 : (Nat.gcd a.natAbs b.natAbs : Int) = -b
    · rw [h2] at g1 g2
      simp [evDef, startS, PX.execs, PX.exec, evX, evXB, evXL, frzS, anyOw, evE, evL, evJ, evT, bindE, bindT, bindTp, opCmp, opI2, storeIx, E.non?, slB, Bx.ratio, hb, h1, h2, g1, g2]
    · simp [evDef, startS, PX.execs, PX.exec, evX, evXB, evXL, frzS, anyOw, evE, evL, evJ, evT, bindE, bindT, bindTp, opCmp, opI2, storeIx, E.non?, slB, Bx.ratio, hb, h1, h2, g1, g2]
  · rw [ratio_pos (show 0 < b by omega)]
    by_cases h2 : (Nat.gcd a.natAbs b.natAbs : Int) = b
    · rw [h2] at g1 g2
      simp [evDef, startS, PX.execs, PX.exec, evX, evXB, evXL, frzS, anyOw, evE, evL, evJ, evT, bindE, bindT, bindTp, opCmp, opI2, storeIx, E.non?, slB, Bx.ratio, hb, h1, h2, g1, g2]
    · simp [evDef, startS, PX.execs, PX.exec, evX, evXB, evXL, frzS, anyOw, evE, evL, evJ, evT, bindE, bindT, bindTp, opCmp, opI2, storeIx, E.non?, slB, Bx.ratio, hb, h1, h2, g1, g2]
theorem sp_ratio0 [HasF p "ratio" 3 2 Bx.ratio] {a : Int} : p.call (m + 1) "ratio" [.int a, .int 0] = .ex "ZeroBottom" [] := by
  rw [HasF.run]
  simp [evDef, startS, PX.execs, PX.exec, evX, evXB, evXL, frzS, anyOw, evE, evL, evJ, evT, bindE, bindT, bindTp, opCmp, opI2, storeIx, E.non?, slB, Bx.ratio]
theorem lg_mul {a b : Int} {k l : Nat} (ha : a.natAbs < 2 ^ k) (hb : b.natAbs < 2 ^ l) (h : k + l ≤ 100000) (hk : 0 < k) (hl : 0 < l) : lgI a + lgI b < mulLine := by
  have := lg_lt ha hk
  have := lg_lt hb hl
  unfold mulLine
  omega
theorem whole_of {x : Rat} (h : x.den = 1) : x = (x.num : Rat) := by
  refine Rat.ext rfl ?_
  rw [h]; rfl
theorem sp_plus [HasF p "ratio" 3 2 Bx.ratio] [HasF p "is_whole" 1 1 Bx.is_whole] [HasF p "top_of" 1 1 Bx.top_of] [HasF p "bottom_of" 1 1 Bx.bottom_of] [HasF p "plus" 2 2 Bx.plus] {x y : Rat} {k : Nat} (bx : Bd k x) (b2 : Bd k y) (hk : k ≤ 4000) : p.call (m + 2) "plus" [enc x, enc y] = .ok (.fz (enc (x + y))) := by
  rw [HasF.run]
  have l1 : lgI x.num + lgI (y.den : Int) < mulLine := lg_mul bx.n b2.di (by omega) bx.pos bx.pos
  have l2 : lgI y.num + lgI (x.den : Int) < mulLine := lg_mul b2.n bx.di (by omega) bx.pos bx.pos
  have l3 : lgI (x.den : Int) + lgI (y.den : Int) < mulLine := lg_mul bx.di b2.di (by omega) bx.pos bx.pos
  have r : p.call (m + 1) "ratio" [.int (x.num * y.den + y.num * x.den), .int ((x.den : Int) * y.den)] = .ok (.fz (enc (x + y))) := by
    rw [add_divInt]
    exact sp_ratio (p := p) (dens_nz x y) (pw_le (pw_imul bx.di b2.di) (by omega))
  have w1 := sp_is_whole (p := p) (m := m) x
  have w2 := sp_is_whole (p := p) (m := m) y
  by_cases hx : x.den = 1
  · rw [decide_eq_true hx] at w1
    by_cases hy : y.den = 1
    · rw [decide_eq_true hy] at w2
      have e : enc (x + y) = .int (x.num + y.num) := by
        rw [whole_of hx, whole_of hy, ← Rat.intCast_add, enc_int]; rfl
      rw [e]
      simp [evDef, startS, PX.execs, PX.exec, evX, evXB, evXL, frzS, anyOw, evE, evL, evJ, evT, bindE, bindT, bindTp, opCmp, opI2, storeIx, E.non?, slB, Bx.plus, w1, w2]
      simp [enc_one hx, enc_one hy]
    · rw [decide_eq_false hy] at w2
      simp [evDef, startS, PX.execs, PX.exec, evX, evXB, evXL, frzS, anyOw, evE, evL, evJ, evT, bindE, bindT, bindTp, opCmp, opI2, storeIx, E.non?, slB, Bx.plus, w1, w2, sp_top_of, sp_bottom_of, l1, l2, l3, r]
  · rw [decide_eq_false hx] at w1
    simp [evDef, startS, PX.execs, PX.exec, evX, evXB, evXL, frzS, anyOw, evE, evL, evJ, evT, bindE, bindT, bindTp, opCmp, opI2, storeIx, E.non?, slB, Bx.plus, w1, sp_top_of, sp_bottom_of, l1, l2, l3, r]
end
end PX

set_option Elab.async false
set_option linter.all false
set_option maxRecDepth 100000
/-! EXb: exact numbers, the rest of the functions on numbers. -/
namespace PX
open PySem PySem.Spec PyProof.Rows L2
section
variable {p : Prg} {m : Nat}
theorem sp_minus [HasF p "ratio" 3 2 Bx.ratio] [HasF p "is_whole" 1 1 Bx.is_whole] [HasF p "top_of" 1 1 Bx.top_of] [HasF p "bottom_of" 1 1 Bx.bottom_of] [HasF p "minus" 2 2 Bx.minus] {x y : Rat} {k : Nat} (bx : Bd k x) (b2 : Bd k y) (hk : k ≤ 4000) : p.call (m + 2) "minus" [enc x, enc y] = .ok (.fz (enc (x - y))) := by
  rw [HasF.run]
  have l1 : lgI x.num + lgI (y.den : Int) < mulLine := lg_mul bx.n b2.di (by omega) bx.pos bx.pos
  have l2 : lgI y.num + lgI (x.den : Int) < mulLine := lg_mul b2.n bx.di (by omega) bx.pos bx.pos
  have l3 : lgI (x.den : Int) + lgI (y.den : Int) < mulLine := lg_mul bx.di b2.di (by omega) bx.pos bx.pos
  have r : p.call (m + 1) "ratio" [.int (x.num * y.den - y.num * x.den), .int ((x.den : Int) * y.den)] = .ok (.fz (enc (x - y))) := by
    rw [sub_divInt]
    exact sp_ratio (p := p) (dens_nz x y) (pw_le (pw_imul bx.di b2.di) (by omega))
  have w1 := sp_is_whole (p := p) (m := m) x
  have w2 := sp_is_whole (p := p) (m := m) y
  by_cases hx : x.den = 1
  · rw [decide_eq_true hx] at w1
    by_cases hy : y.den = 1
    · rw [decide_eq_true hy] at w2
      have e : enc (x - y) = .int (x.num - y.num) := by
        rw [whole_of hx, whole_of hy, ← Rat.intCast_sub, enc_int]; rfl
      rw [e]
      simp [evDef, startS, PX.execs, PX.exec, evX, evXB, evXL, frzS, anyOw, evE, evL, evJ, evT, bindE, bindT, bindTp, opCmp, opI2, storeIx, E.non?, slB, Bx.minus, w1, w2]
      simp [enc_one hx, enc_one hy]
    · rw [decide_eq_false hy] at w2
      simp [evDef, startS, PX.execs, PX.exec, evX, evXB, evXL, frzS, anyOw, evE, evL, evJ, evT, bindE, bindT, bindTp, opCmp, opI2, storeIx, E.non?, slB, Bx.minus, w1, w2, sp_top_of, sp_bottom_of, l1, l2, l3, r]
  · rw [decide_eq_false hx] at w1
    simp [evDef, startS, PX.execs, PX.exec, evX, evXB, evXL, frzS, anyOw, evE, evL, evJ, evT, bindE, bindT, bindTp, opCmp, opI2, storeIx, E.non?, slB, Bx.minus, w1, sp_top_of, sp_bottom_of, l1, l2, l3, r]
theorem sp_times [HasF p "ratio" 3 2 Bx.ratio] [HasF p "is_whole" 1 1 Bx.is_whole] [HasF p "top_of" 1 1 Bx.top_of] [HasF p "bottom_of" 1 1 Bx.bottom_of] [HasF p "times" 2 2 Bx.times] {x y : Rat} {k : Nat} (bx : Bd k x) (b2 : Bd k y) (hk : k ≤ 4000) : p.call (m + 2) "times" [enc x, enc y] = .ok (.fz (enc (x * y))) := by
  rw [HasF.run]
  have l1 : lgI x.num + lgI y.num < mulLine := lg_mul bx.n b2.n (by omega) bx.pos bx.pos
  have l3 : lgI (x.den : Int) + lgI (y.den : Int) < mulLine := lg_mul bx.di b2.di (by omega) bx.pos bx.pos
  have r : p.call (m + 1) "ratio" [.int (x.num * y.num), .int ((x.den : Int) * y.den)] = .ok (.fz (enc (x * y))) := by
    rw [mul_divInt]
    exact sp_ratio (p := p) (dens_nz x y) (pw_le (pw_imul bx.di b2.di) (by omega))
  have w1 := sp_is_whole (p := p) (m := m) x
  have w2 := sp_is_whole (p := p) (m := m) y
  by_cases hx : x.den = 1
  · rw [decide_eq_true hx] at w1
    by_cases hy : y.den = 1
    · rw [decide_eq_true hy] at w2
      have e : enc (x * y) = .int (x.num * y.num) := by
        rw [whole_of hx, whole_of hy, ← Rat.intCast_mul, enc_int]; rfl
      rw [e]
      simp [evDef, startS, PX.execs, PX.exec, evX, evXB, evXL, frzS, anyOw, evE, evL, evJ, evT, bindE, bindT, bindTp, opCmp, opI2, storeIx, E.non?, slB, Bx.times, w1, w2]
      simp [enc_one hx, enc_one hy, l1]
    · rw [decide_eq_false hy] at w2
      simp [evDef, startS, PX.execs, PX.exec, evX, evXB, evXL, frzS, anyOw, evE, evL, evJ, evT, bindE, bindT, bindTp, opCmp, opI2, storeIx, E.non?, slB, Bx.times, w1, w2, sp_top_of, sp_bottom_of, l1, l3, r]
  · rw [decide_eq_false hx] at w1
    simp [evDef, startS, PX.execs, PX.exec, evX, evXB, evXL, frzS, anyOw, evE, evL, evJ, evT, bindE, bindT, bindTp, opCmp, opI2, storeIx, E.non?, slB, Bx.times, w1, sp_top_of, sp_bottom_of, l1, l3, r]
theorem num_nz {x : Rat} (h : x ≠ 0) : x.num ≠ 0 := fun z => h (Rat.num_eq_zero.1 z)
theorem sp_over [HasF p "ratio" 3 2 Bx.ratio] [HasF p "top_of" 1 1 Bx.top_of] [HasF p "bottom_of" 1 1 Bx.bottom_of] [HasF p "over" 2 2 Bx.over] {x y : Rat} {k : Nat} (bx : Bd k x) (b2 : Bd k y) (hy : y ≠ 0) (hk : k ≤ 4000) : p.call (m + 2) "over" [enc x, enc y] = .ok (.fz (enc (x / y))) := by
  rw [HasF.run]
  have l1 : lgI x.num + lgI (y.den : Int) < mulLine := lg_mul bx.n b2.di (by omega) bx.pos bx.pos
  have l3 : lgI (x.den : Int) + lgI y.num < mulLine := lg_mul bx.di b2.n (by omega) bx.pos bx.pos
  have n0 := num_nz hy
  have r : p.call (m + 1) "ratio" [.int (x.num * y.den), .int ((x.den : Int) * y.num)] = .ok (.fz (enc (x / y))) := by
    rw [div_divInt]
    exact sp_ratio (p := p) (Int.mul_ne_zero (den_nz x) n0) (pw_le (pw_imul bx.di b2.n) (by omega))
  simp [evDef, startS, PX.execs, PX.exec, evX, evXB, evXL, frzS, anyOw, evE, evL, evJ, evT, bindE, bindT, bindTp, opCmp, opI2, storeIx, E.non?, slB, Bx.over, sp_top_of, sp_bottom_of, l1, l3, r, n0]
theorem sp_over0 [HasF p "top_of" 1 1 Bx.top_of] [HasF p "over" 2 2 Bx.over] {x : Rat} : p.call (m + 2) "over" [enc x, enc 0] = .ex "ZeroBottom" [] := by
  rw [HasF.run]
  simp [evDef, startS, PX.execs, PX.exec, evX, evXB, evXL, frzS, anyOw, evE, evL, evJ, evT, bindE, bindT, bindTp, opCmp, opI2, storeIx, E.non?, slB, Bx.over, sp_top_of]
theorem sp_less [HasF p "top_of" 1 1 Bx.top_of] [HasF p "bottom_of" 1 1 Bx.bottom_of] [HasF p "less" 2 2 Bx.less] {x y : Rat} {k : Nat} (bx : Bd k x) (b2 : Bd k y) (hk : k ≤ 4000) : p.call (m + 2) "less" [enc x, enc y] = .ok (.fz (.bl (decide (x < y)))) := by
  rw [HasF.run]
  have l1 : lgI x.num + lgI (y.den : Int) < mulLine := lg_mul bx.n b2.di (by omega) bx.pos bx.pos
  have l2 : lgI y.num + lgI (x.den : Int) < mulLine := lg_mul b2.n bx.di (by omega) bx.pos bx.pos
  have e : decide (x < y) = decide (x.num * y.den < y.num * x.den) := by
    simp only [Rat.lt_iff]
  simp [evDef, startS, PX.execs, PX.exec, evX, evXB, evXL, frzS, anyOw, evE, evL, evJ, evT, bindE, bindT, bindTp, opCmp, opI2, storeIx, E.non?, slB, Bx.less, sp_top_of, sp_bottom_of, l1, l2, e]
theorem lg_div {i : Int} {k : Nat} (h : i.natAbs < 2 ^ k) (hk : 0 < k) (hl : k ≤ 9000) : lgI i < divLine := Nat.lt_of_lt_of_le (lg_lt h hk) hl
theorem sp_floor [HasF p "top_of" 1 1 Bx.top_of] [HasF p "bottom_of" 1 1 Bx.bottom_of] [HasF p "floor_of" 1 1 Bx.floor_of] {x : Rat} {k : Nat} (bx : Bd k x) (hk : k ≤ 4000) : p.call (m + 2) "floor_of" [enc x] = .ok (.fz (.int x.floor)) := by
  rw [HasF.run]
  have l1 : lgI (x.den : Int) < divLine := lg_div bx.di bx.pos (by omega)
  rw [Rat.floor_def, ← Int.fdiv_eq_ediv_of_nonneg _ (by omega)]
  simp [evDef, startS, PX.execs, PX.exec, evX, evXB, evXL, frzS, anyOw, evE, evL, evJ, evT, bindE, bindT, bindTp, opCmp, opI2, storeIx, E.non?, slB, Bx.floor_of, sp_top_of, sp_bottom_of, l1, den_nz x, x.den_nz]
theorem sp_ceiling [HasF p "top_of" 1 1 Bx.top_of] [HasF p "bottom_of" 1 1 Bx.bottom_of] [HasF p "ceiling_of" 1 1 Bx.ceiling_of] {x : Rat} {k : Nat} (bx : Bd k x) (hk : k ≤ 4000) : p.call (m + 2) "ceiling_of" [enc x] = .ok (.fz (.int (-(-x).floor))) := by
  rw [HasF.run]
  have l1 : lgI (x.den : Int) < divLine := lg_div bx.di bx.pos (by omega)
  rw [Rat.floor_def, ← Int.fdiv_eq_ediv_of_nonneg _ (by omega)]
  simp [evDef, startS, PX.execs, PX.exec, evX, evXB, evXL, frzS, anyOw, evE, evL, evJ, evT, bindE, bindT, bindTp, opCmp, opI2, storeIx, E.non?, slB, Bx.ceiling_of, sp_top_of, sp_bottom_of, l1, den_nz x, x.den_nz]
theorem sp_nearest [HasF p "top_of" 1 1 Bx.top_of] [HasF p "bottom_of" 1 1 Bx.bottom_of] [HasF p "nearest" 1 1 Bx.nearest] {x : Rat} {k : Nat} (bx : Bd k x) (hk : k ≤ 4000) : p.call (m + 2) "nearest" [enc x] = .ok (.fz (.int ((2 * x.num + x.den).fdiv (2 * x.den)))) := by
  rw [HasF.run]
  have t2 : (2 : Int).natAbs < 2 ^ 2 := by decide
  have l1 : lgI 2 + lgI x.num < mulLine := lg_mul t2 bx.n (by omega) (by decide) bx.pos
  have l2 : lgI 2 + lgI (x.den : Int) < mulLine := lg_mul t2 bx.di (by omega) (by decide) bx.pos
  have l3 : lgI (2 * (x.den : Int)) < divLine := lg_div (pw_imul t2 bx.di) (by omega) (by omega)
  have n0 : 2 * (x.den : Int) ≠ 0 := by have := den_nz x; omega
  simp [evDef, startS, PX.execs, PX.exec, evX, evXB, evXL, frzS, anyOw, evE, evL, evJ, evT, bindE, bindT, bindTp, opCmp, opI2, storeIx, E.non?, slB, Bx.nearest, sp_top_of, sp_bottom_of, l1, l2, l3, n0, x.den_nz]
end
end PX

set_option Elab.async false
set_option linter.all false
set_option maxRecDepth 100000
/-! EXc: exact numbers, the functions on lists of numbers. -/
namespace PX
open PySem PySem.Spec PyProof.Rows L2
section
variable {p : Prg} {m : Nat}
theorem forGo_nil {tg : Tg} {b : Rho → RS} {ρ : Rho} : forGo tg b [] ρ = .ok (.nx ρ) := by rw [forGo]
theorem forGo_cons {tg : Tg} {b : Rho → RS} {ρ : Rho} {d : D} {ds : List D} : forGo tg b (d :: ds) ρ = (bindT tg d ρ).on ρ fun ρ1 => (b ρ1).turn (forGo tg b ds) := by rw [forGo]
/-- the least common multiple of the bottoms -/
def lcmG (c : Nat) : List Rat → Nat
  | [] => c
  | x :: r => lcmG (Nat.lcm c x.den) r
theorem lcm_le {a b : Nat} : Nat.lcm a b ≤ a * b := by
  unfold Nat.lcm
  exact Nat.div_le_self _ _
theorem lcm_loop [HasF p "bottom_of" 1 1 Bx.bottom_of] {B : Nat} (hB : 0 < B) : ∀ (xs : List Rat) (c : Nat) (a s : Sl), (∀ x, x ∈ xs → x.den ≤ B) → c * B ^ xs.length < 2 ^ 64 → B < 2 ^ 64 →
    ∃ s', forGo (.nm 2) (fun ρ => execs (p.tb (m + 1)) Bx.common_bottom_b1 ρ) (xs.map enc) [a, .fz (.int c), s] = .ok (.nx [a, .fz (.int (lcmG c xs)), s'])
  | [], c, a, s, _, _, _ => ⟨s, forGo_nil⟩
  | x :: xs, c, a, s, hx, hl, hb => by
    have d1 : x.den ≤ B := hx x List.mem_cons_self
    have d2 : x.den < 2 ^ 64 := by omega
    have d3 : c < 2 ^ 64 := Nat.lt_of_le_of_lt (Nat.le_mul_of_pos_right c (Nat.pow_pos hB)) hl
    have d4 : Nat.lcm c x.den * B ^ xs.length < 2 ^ 64 := by
      refine Nat.lt_of_le_of_lt ?_ hl
      rw [List.length_cons, Nat.pow_succ, Nat.mul_comm (B ^ xs.length) B, ← Nat.mul_assoc]
      exact Nat.mul_le_mul_right _ (Nat.le_trans lcm_le (Nat.mul_le_mul_left c d1))
    obtain ⟨s', e⟩ := lcm_loop hB xs (Nat.lcm c x.den) a (.fz (enc x)) (fun y hy => hx y (List.mem_cons_of_mem _ hy)) d4 hb
    refine ⟨s', ?_⟩
    rw [List.map_cons, forGo_cons]
    have z : execs (p.tb (m + 1)) Bx.common_bottom_b1 [a, .fz (.int c), .fz (enc x)] = .ok (.nx [a, .fz (.int (Nat.lcm c x.den)), .fz (enc x)]) := by
      cases a <;> simp [evDef, startS, PX.execs, PX.exec, evX, evXB, evXL, frzS, anyOw, evE, evL, evJ, evT, bindE, bindT, bindTp, opCmp, opI2, storeIx, E.non?, slB, Bx.common_bottom_b1, sp_bottom_of, d2, d3]
    simp only [bindT, R.on_ok, List.set]
    rw [z, RS.turn_nx]
    exact e
theorem sp_common [HasF p "bottom_of" 1 1 Bx.bottom_of] [HasF p "common_bottom" 3 1 Bx.common_bottom] {B : Nat} (hB : 0 < B) {xs : List Rat} (hx : ∀ x, x ∈ xs → x.den ≤ B) (hl : B ^ xs.length < 2 ^ 64) (hb : B < 2 ^ 64) : p.call (m + 2) "common_bottom" [.lst (xs.map enc)] = .ok (.fz (.int (lcmG 1 xs))) := by
  rw [HasF.run]
  obtain ⟨s', e⟩ := lcm_loop (p := p) (m := m) hB xs 1 (.fz (.lst (xs.map enc))) .un hx (by rw [Nat.one_mul]; exact hl) hb
  simp [evDef, startS, PX.execs, PX.exec, evX, evXB, evXL, frzS, anyOw, evE, evL, evJ, evT, bindE, bindT, bindTp, opCmp, opI2, storeIx, E.non?, slB, Bx.common_bottom]
  rw [show (1 : Int) = ((1 : Nat) : Int) from rfl, e]
  simp
def leastG : Option Rat → List Rat → Option Rat
  | b, [] => b
  | none, x :: r => leastG (some x) r
  | some b, x :: r => leastG (some (if x < b then x else b)) r
def mostG : Option Rat → List Rat → Option Rat
  | b, [] => b
  | none, x :: r => mostG (some x) r
  | some b, x :: r => mostG (some (if b < x then x else b)) r
def encO : Option Rat → D
  | none => .non
  | some x => enc x
theorem least_loop [HasF p "top_of" 1 1 Bx.top_of] [HasF p "bottom_of" 1 1 Bx.bottom_of] [HasF p "less" 2 2 Bx.less] {k : Nat} (hk : k ≤ 4000) : ∀ (xs : List Rat) (o : Option Rat) (a s : Sl), (∀ x, x ∈ xs → Bd k x) → (∀ x, o = some x → Bd k x) →
    ∃ s', forGo (.nm 2) (fun ρ => execs (p.tb (m + 2)) Bx.least_of_b1 ρ) (xs.map enc) [a, .fz (encO o), s] = .ok (.nx [a, .fz (encO (leastG o xs)), s'])
  | [], o, a, s, _, _ => ⟨s, by cases o <;> exact forGo_nil⟩
  | x :: xs, o, a, s, hx, ho => by
    have bx := hx x List.mem_cons_self
    rw [List.map_cons, forGo_cons]
    simp only [bindT, R.on_ok, List.set]
    cases o with
    | none =>
      obtain ⟨s', e⟩ := least_loop hk xs (some x) a (.fz (enc x)) (fun y hy => hx y (List.mem_cons_of_mem _ hy)) (fun y hy => by cases hy; exact bx)
      refine ⟨s', ?_⟩
      have z : execs (p.tb (m + 2)) Bx.least_of_b1 [a, .fz (encO none), .fz (enc x)] = .ok (.nx [a, .fz (encO (some x)), .fz (enc x)]) := by
        simp [evDef, startS, PX.execs, PX.exec, evX, evXB, evXL, frzS, anyOw, evE, evL, evJ, evT, bindE, bindT, bindTp, opCmp, opI2, storeIx, E.non?, slB, Bx.least_of_b1, encO]
      rw [z, RS.turn_nx]
      exact e
    | some y =>
      have by' := ho y rfl
      obtain ⟨s', e⟩ := least_loop hk xs (some (if x < y then x else y)) a (.fz (enc x)) (fun y hy => hx y (List.mem_cons_of_mem _ hy)) (fun z hz => by cases hz; split; exact bx; exact by')
      refine ⟨s', ?_⟩
      have z : execs (p.tb (m + 2)) Bx.least_of_b1 [a, .fz (encO (some y)), .fz (enc x)] = .ok (.nx [a, .fz (encO (some (if x < y then x else y))), .fz (enc x)]) := by
        have l := sp_less (p := p) (m := m) bx by' hk
        by_cases c : x < y
        · rw [decide_eq_true c] at l
          simp [evDef, startS, PX.execs, PX.exec, evX, evXB, evXL, frzS, anyOw, evE, evL, evJ, evT, bindE, bindT, bindTp, opCmp, opI2, storeIx, E.non?, slB, Bx.least_of_b1, encO, l, enc_isNon, c]
        · rw [decide_eq_false c] at l
          simp [evDef, startS, PX.execs, PX.exec, evX, evXB, evXL, frzS, anyOw, evE, evL, evJ, evT, bindE, bindT, bindTp, opCmp, opI2, storeIx, E.non?, slB, Bx.least_of_b1, encO, l, enc_isNon, c]
      rw [z, RS.turn_nx]
      exact e
theorem sp_least [HasF p "top_of" 1 1 Bx.top_of] [HasF p "bottom_of" 1 1 Bx.bottom_of] [HasF p "less" 2 2 Bx.less] [HasF p "least_of" 3 1 Bx.least_of] {k : Nat} (hk : k ≤ 4000) {xs : List Rat} (hx : ∀ x, x ∈ xs → Bd k x) : p.call (m + 3) "least_of" [.lst (xs.map enc)] = .ok (.fz (encO (leastG none xs))) := by
  rw [HasF.run]
  obtain ⟨s', e⟩ := least_loop (p := p) (m := m) hk xs none (.fz (.lst (xs.map enc))) .un hx (fun _ z => by cases z)
  simp [evDef, startS, PX.execs, PX.exec, evX, evXB, evXL, frzS, anyOw, evE, evL, evJ, evT, bindE, bindT, bindTp, opCmp, opI2, storeIx, E.non?, slB, Bx.least_of]
  rw [show D.non = encO none from rfl, e]
  simp
theorem most_loop [HasF p "top_of" 1 1 Bx.top_of] [HasF p "bottom_of" 1 1 Bx.bottom_of] [HasF p "less" 2 2 Bx.less] {k : Nat} (hk : k ≤ 4000) : ∀ (xs : List Rat) (o : Option Rat) (a s : Sl), (∀ x, x ∈ xs → Bd k x) → (∀ x, o = some x → Bd k x) →
    ∃ s', forGo (.nm 2) (fun ρ => execs (p.tb (m + 2)) Bx.greatest_of_b1 ρ) (xs.map enc) [a, .fz (encO o), s] = .ok (.nx [a, .fz (encO (mostG o xs)), s'])
  | [], o, a, s, _, _ => ⟨s, by cases o <;> exact forGo_nil⟩
  | x :: xs, o, a, s, hx, ho => by
    have bx := hx x List.mem_cons_self
    rw [List.map_cons, forGo_cons]
    simp only [bindT, R.on_ok, List.set]
    cases o with
    | none =>
      obtain ⟨s', e⟩ := most_loop hk xs (some x) a (.fz (enc x)) (fun y hy => hx y (List.mem_cons_of_mem _ hy)) (fun y hy => by cases hy; exact bx)
      refine ⟨s', ?_⟩
      have z : execs (p.tb (m + 2)) Bx.greatest_of_b1 [a, .fz (encO none), .fz (enc x)] = .ok (.nx [a, .fz (encO (some x)), .fz (enc x)]) := by
        simp [evDef, startS, PX.execs, PX.exec, evX, evXB, evXL, frzS, anyOw, evE, evL, evJ, evT, bindE, bindT, bindTp, opCmp, opI2, storeIx, E.non?, slB, Bx.greatest_of_b1, encO]
      rw [z, RS.turn_nx]
      exact e
    | some y =>
      have by' := ho y rfl
      obtain ⟨s', e⟩ := most_loop hk xs (some (if y < x then x else y)) a (.fz (enc x)) (fun y hy => hx y (List.mem_cons_of_mem _ hy)) (fun z hz => by cases hz; split; exact bx; exact by')
      refine ⟨s', ?_⟩
      have z : execs (p.tb (m + 2)) Bx.greatest_of_b1 [a, .fz (encO (some y)), .fz (enc x)] = .ok (.nx [a, .fz (encO (some (if y < x then x else y))), .fz (enc x)]) := by
        have l := sp_less (p := p) (m := m) by' bx hk
        by_cases c : y < x
        · rw [decide_eq_true c] at l
          simp [evDef, startS, PX.execs, PX.exec, evX, evXB, evXL, frzS, anyOw, evE, evL, evJ, evT, bindE, bindT, bindTp, opCmp, opI2, storeIx, E.non?, slB, Bx.greatest_of_b1, encO, l, enc_isNon, c]
        · rw [decide_eq_false c] at l
          simp [evDef, startS, PX.execs, PX.exec, evX, evXB, evXL, frzS, anyOw, evE, evL, evJ, evT, bindE, bindT, bindTp, opCmp, opI2, storeIx, E.non?, slB, Bx.greatest_of_b1, encO, l, enc_isNon, c]
      rw [z, RS.turn_nx]
      exact e
theorem sp_most [HasF p "top_of" 1 1 Bx.top_of] [HasF p "bottom_of" 1 1 Bx.bottom_of] [HasF p "less" 2 2 Bx.less] [HasF p "greatest_of" 3 1 Bx.greatest_of] {k : Nat} (hk : k ≤ 4000) {xs : List Rat} (hx : ∀ x, x ∈ xs → Bd k x) : p.call (m + 3) "greatest_of" [.lst (xs.map enc)] = .ok (.fz (encO (mostG none xs))) := by
  rw [HasF.run]
  obtain ⟨s', e⟩ := most_loop (p := p) (m := m) hk xs none (.fz (.lst (xs.map enc))) .un hx (fun _ z => by cases z)
  simp [evDef, startS, PX.execs, PX.exec, evX, evXB, evXL, frzS, anyOw, evE, evL, evJ, evT, bindE, bindT, bindTp, opCmp, opI2, storeIx, E.non?, slB, Bx.greatest_of]
  rw [show D.non = encO none from rfl, e]
  simp
/-! what they are -/
theorem leastG_some : ∀ (xs : List Rat) (b : Rat), ∃ r, leastG (some b) xs = some r ∧ (r = b ∨ r ∈ xs) ∧ r ≤ b ∧ ∀ x, x ∈ xs → r ≤ x
  | [], b => ⟨b, rfl, .inl rfl, Rat.le_refl, fun x hx => by cases hx⟩
  | x :: xs, b => by
    obtain ⟨r, e1, e2, e3, e4⟩ := leastG_some xs (if x < b then x else b)
    refine ⟨r, e1, ?_, ?_, ?_⟩
    · rcases e2 with e2 | e2
      · split at e2
        · exact .inr (e2 ▸ List.mem_cons_self)
        · exact .inl e2
      · exact .inr (List.mem_cons_of_mem _ e2)
    · split at e3
      · rename_i c; exact Rat.le_trans e3 (Rat.le_of_lt c)
      · exact e3
    · intro y hy
      rcases List.mem_cons.mp hy with rfl | hy
      · split at e3
        · exact e3
        · rename_i c; exact Rat.le_trans e3 (Rat.not_lt.1 c)
      · exact e4 y hy
theorem mostG_some : ∀ (xs : List Rat) (b : Rat), ∃ r, mostG (some b) xs = some r ∧ (r = b ∨ r ∈ xs) ∧ b ≤ r ∧ ∀ x, x ∈ xs → x ≤ r
  | [], b => ⟨b, rfl, .inl rfl, Rat.le_refl, fun x hx => by cases hx⟩
  | x :: xs, b => by
    obtain ⟨r, e1, e2, e3, e4⟩ := mostG_some xs (if b < x then x else b)
    refine ⟨r, e1, ?_, ?_, ?_⟩
    · rcases e2 with e2 | e2
      · split at e2
        · exact .inr (e2 ▸ List.mem_cons_self)
        · exact .inl e2
      · exact .inr (List.mem_cons_of_mem _ e2)
    · split at e3
      · rename_i c; exact Rat.le_trans (Rat.le_of_lt c) e3
      · exact e3
    · intro y hy
      rcases List.mem_cons.mp hy with rfl | hy
      · split at e3
        · exact e3
        · rename_i c; exact Rat.le_trans (Rat.not_lt.1 c) e3
      · exact e4 y hy
end
end PX

set_option Elab.async false
set_option linter.all false
set_option maxRecDepth 100000
/-! EXd: texts of numbers. -/
namespace PX
open PySem PySem.Spec PyProof.Rows L2 PySem.NumText

/-- a text by its signs -/
def tx (l : List Nat) : Str := ⟨l.toArray⟩
@[simp] theorem tx_list (l : List Nat) : (tx l).cps.toList = l := by simp [tx]
theorem tx_of (s : Str) : tx s.cps.toList = s := by cases s; simp [tx]
@[simp] theorem tx_len (l : List Nat) : (tx l).length = l.length := by simp [tx, Str.length]
theorem tx_app (a b : List Nat) : tx a ++ tx b = tx (a ++ b) := by
  rw [← tx_of (tx a ++ tx b)]
  congr 1
  show ((tx a).cps ++ (tx b).cps).toList = _
  rw [Array.toList_append, tx_list, tx_list]
theorem tx_inj {a b : List Nat} : tx a = tx b ↔ a = b := ⟨fun h => by rw [← tx_list a, h, tx_list], fun h => by rw [h]⟩
def dg (n : Nat) : List Nat := (Nat.toDigits 10 n).map Char.toNat
theorem dg_all (n : Nat) : AllDigits (dg n) := by
  intro c hc
  obtain ⟨ch, hch, e⟩ := List.mem_map.mp hc
  have r := digit_range (Nat.isDigit_of_mem_toDigits (by decide) (by decide) hch)
  rw [← e]
  exact r
theorem dg_val (n : Nat) : digitsVal (dg n) = n := PySem.W.KIN.val_back n
theorem dg_ne (n : Nat) : dg n ≠ [] := by
  intro e
  have h := PySem.W.KIN.signs_num n
  have h2 : (Nat.toDigits 10 n).length = 0 := by
    have := congrArg List.length (List.map_eq_nil_iff.mp e)
    simpa using this
  have := @Nat.length_toDigits_pos 10 n
  omega
def intL (i : Int) : List Nat := if i < 0 then 45 :: dg i.natAbs else dg i.natAbs
theorem toS (i : Int) : (toString i : Str) = tx (intL i) := by
  rw [← tx_of (Str.ofString (toString i))]
  congr 1
  unfold intL
  split
  · rename_i h
    obtain ⟨m, rfl⟩ : ∃ m, i = Int.negSucc m := Int.eq_negSucc_of_lt_zero h
    rw [signs_ofString]
    show ("-" ++ Nat.repr (m + 1)).toList.map Char.toNat = 45 :: dg (m + 1)
    rw [String.toList_append, List.map_append, Nat.toList_repr]
    rfl
  · rename_i h
    obtain ⟨m, rfl⟩ := Int.eq_ofNat_of_zero_le (show 0 ≤ i by omega)
    exact PySem.W.KIN.signs_num m
theorem slash_eq : ("/" : Str) = tx [47] := by decide +kernel
theorem dash_eq : ("-" : Str) = tx [45] := by decide +kernel
theorem none_eq : ("" : Str) = tx [] := by decide +kernel
theorem digs_eq : ("0123456789" : Str) = tx [48, 49, 50, 51, 52, 53, 54, 55, 56, 57] := by decide +kernel
theorem part_no {l : List Nat} (h : 47 ∉ l) : Txt.partition (tx l) (tx [47]) = (tx l, tx [], tx []) := by
  unfold Txt.partition
  rcases StrLaws.occ_head (tx l) (tx [47]) 1 (Nat.le_refl 1) with ⟨e, _⟩ | ⟨i, r, e, hi, _⟩
  · rw [e]; rfl
  · exfalso
    have hm := (StrLaws.subAt_one (tx l) 47 i).mp hi
    rw [tx_list] at hm
    exact h (List.mem_of_getElem? hm)
theorem part_at {a b : List Nat} (h : 47 ∉ a) : Txt.partition (tx (a ++ 47 :: b)) (tx [47]) = (tx a, tx [47], tx b) := by
  unfold Txt.partition
  have hat : (a ++ 47 :: b)[a.length]? = some 47 := by simp
  rcases StrLaws.occ_head (tx (a ++ 47 :: b)) (tx [47]) 1 (Nat.le_refl 1) with ⟨e, hn⟩ | ⟨i, r, e, hi, hn⟩
  · exfalso
    exact hn a.length ((StrLaws.subAt_one _ 47 a.length).mpr (by rw [tx_list]; exact hat))
  · have hm := (StrLaws.subAt_one _ 47 i).mp hi
    rw [tx_list] at hm
    have hia : i = a.length := by
      rcases Nat.lt_trichotomy i a.length with q | q | q
      · exfalso
        rw [List.getElem?_append_left q] at hm
        exact h (List.mem_of_getElem? hm)
      · exact q
      · exfalso
        exact hn a.length q ((StrLaws.subAt_one _ 47 a.length).mpr (by rw [tx_list]; exact hat))
    subst hia
    rw [e]
    have e1 : Builtin.Str.strSub (tx (a ++ 47 :: b)) 0 a.length = tx a := by
      rw [← tx_of (Builtin.Str.strSub _ _ _), StrLaws.strSub_toList, tx_list]
      simp
    have e2 : Builtin.Str.strSub (tx (a ++ 47 :: b)) (a.length + (tx [47]).length) (tx (a ++ 47 :: b)).length = tx b := by
      rw [← tx_of (Builtin.Str.strSub _ _ _), StrLaws.strSub_toList, tx_list]
      simp [List.drop_append]
      rw [show a.length + (b.length + 1) - (a.length + 1) = b.length by omega, List.take_of_length_le (by simp), List.drop_of_length_le (by omega)]
      rfl
    show (_, _, _) = _
    rw [e1, e2]
theorem cut_from (l : List Nat) : cutS (tx l) (some 1) none = tx (l.drop 1) := by
  unfold cutS
  rw [tx_list, tx_len]
  cases l with
  | nil => rfl
  | cons c l => simp [HT.sIx, tx]
theorem cut_to (l : List Nat) : cutS (tx l) none (some 1) = tx (l.take 1) := by
  unfold cutS
  rw [tx_list, tx_len]
  cases l with
  | nil => rfl
  | cons c l => simp [HT.sIx, tx]

/-- the written form -/
def numL (x : Rat) : List Nat := intL x.num ++ if x.den = 1 then [] else 47 :: dg x.den
theorem dg_len {n k : Nat} (h : n < 10 ^ k) (hk : 0 < k) : (dg n).length ≤ k := by
  unfold dg
  rw [List.length_map]
  exact (Nat.length_toDigits_le_iff (by decide) hk).2 h
section
variable {p : Prg} {m : Nat}
theorem strOf_str {s : Str} (h : s.length ≤ sizeLine) : strOf (.str s) = some s := if_pos h
theorem strOf_int {i : Int} (h : lgI i < 1920) : strOf (.int i) = some (tx (intL i)) := by
  show (if lgI i < 1920 then _ else _) = _
  rw [if_pos h, toS]
theorem evStr {i : Int} (h : lgI i < 1920) : evBi .str [.int i] = .ok (.fz (.str (tx (intL i)))) := by
  show (if lgI i < 1920 then _ else _) = _
  rw [if_pos h, toS]
theorem intL_len {i : Int} {k : Nat} (h : i.natAbs < 10 ^ k) (hk : 0 < k) : (intL i).length ≤ k + 1 := by
  have := dg_len h hk
  unfold intL
  split
  · rw [List.length_cons]; omega
  · omega
theorem sizeBig : (100000 : Nat) ≤ sizeLine := by rw [sizeLine_eq]; decide
theorem sp_number_text [HasF p "is_whole" 1 1 Bx.is_whole] [HasF p "number_text" 1 1 Bx.number_text] {x : Rat} {k : Nat} (bx : Bd k x) (hk : k ≤ 1900) : p.call (m + 2) "number_text" [enc x] = .ok (.fz (.str (tx (numL x)))) := by
  rw [HasF.run]
  have w1 := sp_is_whole (p := p) (m := m) x
  have l1 : lgI x.num < 1920 := Nat.lt_of_lt_of_le (lg_lt bx.n bx.pos) (by omega)
  have l2 : lgI (x.den : Int) < 1920 := Nat.lt_of_lt_of_le (lg_lt bx.di bx.pos) (by omega)
  have t2 : 2 ^ k ≤ 10 ^ 1900 := Nat.le_trans (Nat.pow_le_pow_right (by decide) hk) (Nat.pow_le_pow_left (by decide) 1900)
  have z1 : (intL x.num).length ≤ 1901 := intL_len (Nat.lt_of_lt_of_le bx.n t2) (by decide)
  have z2 : (dg x.den).length ≤ 1900 := dg_len (Nat.lt_of_lt_of_le bx.d t2) (by decide)
  have sb := sizeBig
  have id2 : intL (x.den : Int) = dg x.den := by
    unfold intL
    rw [if_neg (by omega)]
    rfl
  by_cases hx : x.den = 1
  · rw [decide_eq_true hx] at w1
    have e : numL x = intL x.num := by unfold numL; rw [if_pos hx, List.append_nil]
    rw [e]
    have es : evBi .str [enc x] = .ok (.fz (.str (tx (intL x.num)))) := by rw [enc_one hx]; exact evStr l1
    simp [evDef, startS, PX.execs, PX.exec, evX, evXB, evXL, frzS, anyOw, evE, evL, evJ, evT, bindE, bindT, bindTp, opCmp, opI2, storeIx, E.non?, slB, Bx.number_text, w1, es]
  · rw [decide_eq_false hx] at w1
    have e : numL x = intL x.num ++ 47 :: dg x.den := by unfold numL; rw [if_neg hx]
    rw [e]
    have s0 : strOf (.str "/") = some (tx [47]) := by
      rw [slash_eq]
      exact strOf_str (by rw [tx_len]; simp; omega)
    have a1 : Str.empty ++ tx (intL x.num) = tx (intL x.num) := by
      show tx [] ++ _ = _
      rw [tx_app]; rfl
    have c1 : (intL x.num).length ≤ sizeLine := by omega
    have c2 : (intL x.num).length + 1 ≤ sizeLine := by omega
    have c3 : (intL x.num).length + ((dg x.den).length + 1) ≤ sizeLine := by omega
    simp [evDef, startS, PX.execs, PX.exec, evX, evXB, evXL, frzS, anyOw, evE, evL, evJ, evT, bindE, bindT, bindTp, opCmp, opI2, storeIx, E.non?, slB, Bx.number_text, w1, enc_at0 hx, enc_at1 hx, strOf_int l1, strOf_int l2, s0, a1, c1, c2, c3, tx_app, id2]

theorem in_digits (c : Nat) : decide (c ∈ [48, 49, 50, 51, 52, 53, 54, 55, 56, 57]) = decide (48 ≤ c ∧ c ≤ 57) := by
  apply decide_eq_decide.mpr
  simp only [List.mem_cons, List.not_mem_nil, or_false]
  omega
def chL (l : List Nat) : List D := l.map fun c => .str ⟨#[c]⟩
theorem dig_step [HasC p "DIGITS" (.str (tx [48, 49, 50, 51, 52, 53, 54, 55, 56, 57]))] (a : Sl) (c : Nat) : execs (p.tb m) Bx.read_numeral_b1 [a, .fz (.str ⟨#[c]⟩)] = if 48 ≤ c ∧ c ≤ 57 then .ok (.nx [a, .fz (.str ⟨#[c]⟩)]) else .ex "BadText" [] [a, .fz (.str ⟨#[c]⟩)] := by
  have q : opIn (.str ⟨#[c]⟩) (.str (tx [48, 49, 50, 51, 52, 53, 54, 55, 56, 57])) = .ok (decide (48 ≤ c ∧ c ≤ 57)) := by
    rw [← in_digits]
    show (if (#[c] : Array Nat).size = 1 then R.ok (decide ((#[c] : Array Nat).getD 0 0 ∈ (tx [48, 49, 50, 51, 52, 53, 54, 55, 56, 57]).cps.toList)) else R.st) = _
    rw [if_pos (show (#[c] : Array Nat).size = 1 from rfl), tx_list]
    rfl
  by_cases hc : 48 ≤ c ∧ c ≤ 57
  · rw [if_pos hc, decide_eq_true hc] at *
    simp [evDef, startS, PX.execs, PX.exec, evX, evXB, evXL, frzS, anyOw, evE, evL, evJ, evT, bindE, bindT, bindTp, opCmp, opI2, storeIx, E.non?, slB, Bx.read_numeral_b1, HasC.eq (p := p) (x := "DIGITS"), q]
  · rw [if_neg hc, decide_eq_false hc] at *
    simp [evDef, startS, PX.execs, PX.exec, evX, evXB, evXL, frzS, anyOw, evE, evL, evJ, evT, bindE, bindT, bindTp, opCmp, opI2, storeIx, E.non?, slB, Bx.read_numeral_b1, HasC.eq (p := p) (x := "DIGITS"), q]
theorem dig_loop [HasC p "DIGITS" (.str (tx [48, 49, 50, 51, 52, 53, 54, 55, 56, 57]))] (a : Sl) : ∀ (l : List Nat) (s : Sl), (AllDigits l → ∃ s', forGo (.nm 1) (fun ρ => execs (p.tb m) Bx.read_numeral_b1 ρ) (chL l) [a, s] = .ok (.nx [a, s'])) ∧
    (¬ AllDigits l → ∃ ρ, forGo (.nm 1) (fun ρ => execs (p.tb m) Bx.read_numeral_b1 ρ) (chL l) [a, s] = .ex "BadText" [] ρ)
  | [], s => ⟨fun _ => ⟨s, forGo_nil⟩, fun z => absurd (fun c hc => by cases hc) z⟩
  | c :: l, s => by
    have e := dig_step (p := p) (m := m) a c
    obtain ⟨i1, i2⟩ := dig_loop a l (.fz (.str ⟨#[c]⟩))
    have st : forGo (.nm 1) (fun ρ => execs (p.tb m) Bx.read_numeral_b1 ρ) (chL (c :: l)) [a, s] = (execs (p.tb m) Bx.read_numeral_b1 [a, .fz (.str ⟨#[c]⟩)]).turn (forGo (.nm 1) (fun ρ => execs (p.tb m) Bx.read_numeral_b1 ρ) (chL l)) := by
      show forGo _ _ (_ :: chL l) _ = _
      rw [forGo_cons]
      simp only [bindT, R.on_ok, List.set]
    rw [st, e]
    refine ⟨fun z => ?_, fun z => ?_⟩
    · rw [if_pos z.head, RS.turn_nx]
      exact i1 z.tail
    · by_cases hc : 48 ≤ c ∧ c ≤ 57
      · rw [if_pos hc, RS.turn_nx]
        refine i2 fun y => z fun d hd => ?_
        rcases List.mem_cons.mp hd with rfl | hd
        · exact hc
        · exact y d hd
      · rw [if_neg hc]
        exact ⟨_, rfl⟩
theorem opEq_str (a b : List Nat) : opEq false (.str (tx a)) (.str (tx b)) = .ok (decide (a = b)) := by
  show R.ok (if false = true then _ else decide (tx a = tx b)) = _
  rw [if_neg Bool.false_ne_true]
  congr 1
  exact decide_eq_decide.mpr tx_inj
theorem opNe_str (a b : List Nat) : opEq true (.str (tx a)) (.str (tx b)) = .ok (!decide (a = b)) := by
  show R.ok (if true = true then !decide (tx a = tx b) else _) = _
  rw [if_pos rfl]
  congr 2
  exact decide_eq_decide.mpr tx_inj
theorem itVal_str (l : List Nat) : itVal [.str (tx l)] = .ok (chL l) := by
  show R.ok _ = _
  rw [tx_list]
  rfl
theorem bi_int_str {l : List Nat} (h : AllDigits l) (h1 : l ≠ []) (h2 : l.length ≤ 640) : evBi .int [.str (tx l)] = .ok (.fz (.int (digitsVal l))) := by
  have e : intText? (tx l) = some ((digitsVal l : Nat) : Int) := by
    have := intText_digits (x := tx l) (by rw [tx_list]; exact h) (by rw [tx_list]; exact h1) (by rw [tx_len]; omega)
    rw [tx_list] at this
    exact this
  show (match intText? (tx l) with | some n => _ | none => _) = _
  rw [e]
  exact if_pos (by rw [tx_len]; exact h2)
theorem sp_numeral [HasC p "DIGITS" (.str (tx [48, 49, 50, 51, 52, 53, 54, 55, 56, 57]))] [HasC p "MOST_DIGITS" (.int 400)] [HasF p "read_numeral" 2 1 Bx.read_numeral] {l : List Nat} (hd : AllDigits l) (h1 : l ≠ []) (h2 : l.length ≤ 400) : p.call (m + 1) "read_numeral" [.str (tx l)] = .ok (.fz (.int (digitsVal l))) := by
  rw [HasF.run]
  have sb := sizeBig
  obtain ⟨s', e⟩ := (dig_loop (p := p) (m := m) (.fz (.str (tx l))) l .un).1 hd
  have c0 : l.length ≤ sizeLine := by omega
  have c1 : ¬ (400 : Int) < (l.length : Int) := by omega
  have q := opEq_str l []
  rw [decide_eq_false h1] at q
  rw [← none_eq] at q
  simp only [Bx.read_numeral, evDef, execs, exec]
  simp [evDef, startS, PX.execs, PX.exec, evX, evXB, evXL, frzS, anyOw, evE, evL, evJ, evT, bindE, bindT, bindTp, opCmp, opI2, storeIx, E.non?, slB, HasC.eq (p := p) (x := "MOST_DIGITS"), opCmp, q, c0, c1, itVal_str]
  rw [e]
  simp [evDef, startS, PX.execs, PX.exec, evX, evXB, evXL, frzS, anyOw, evE, evL, evJ, evT, bindE, bindT, bindTp, opCmp, opI2, storeIx, E.non?, slB, bi_int_str hd h1 (show l.length ≤ 640 by omega)]
theorem sp_numeral_bad [HasC p "DIGITS" (.str (tx [48, 49, 50, 51, 52, 53, 54, 55, 56, 57]))] [HasC p "MOST_DIGITS" (.int 400)] [HasF p "read_numeral" 2 1 Bx.read_numeral] {l : List Nat} (hb : ¬ (AllDigits l ∧ l ≠ [] ∧ l.length ≤ 400)) (h2 : l.length ≤ 100000) : p.call (m + 1) "read_numeral" [.str (tx l)] = .ex "BadText" [] := by
  rw [HasF.run]
  have sb := sizeBig
  have c0 : l.length ≤ sizeLine := by omega
  have q := opEq_str l []
  by_cases h1 : l = []
  · rw [decide_eq_true h1] at q
    rw [← none_eq] at q
    simp only [Bx.read_numeral, evDef, execs, exec]
    simp [evDef, startS, PX.execs, PX.exec, evX, evXB, evXL, frzS, anyOw, evE, evL, evJ, evT, bindE, bindT, bindTp, opCmp, opI2, storeIx, E.non?, slB, HasC.eq (p := p) (x := "MOST_DIGITS"), opCmp, q, c0, itVal_str]
  · rw [decide_eq_false h1] at q
    rw [← none_eq] at q
    by_cases h3 : l.length ≤ 400
    · have c1 : ¬ (400 : Int) < (l.length : Int) := by omega
      obtain ⟨ρ, e⟩ := (dig_loop (p := p) (m := m) (.fz (.str (tx l))) l .un).2 (fun z => hb ⟨z, h1, h3⟩)
      simp only [Bx.read_numeral, evDef, execs, exec]
      simp [evDef, startS, PX.execs, PX.exec, evX, evXB, evXL, frzS, anyOw, evE, evL, evJ, evT, bindE, bindT, bindTp, opCmp, opI2, storeIx, E.non?, slB, HasC.eq (p := p) (x := "MOST_DIGITS"), opCmp, q, c0, c1, itVal_str]
      rw [e]
      simp
    · have c1 : (400 : Int) < (l.length : Int) := by omega
      simp only [Bx.read_numeral, evDef, execs, exec]
      simp [evDef, startS, PX.execs, PX.exec, evX, evXB, evXL, frzS, anyOw, evE, evL, evJ, evT, bindE, bindT, bindTp, opCmp, opI2, storeIx, E.non?, slB, HasC.eq (p := p) (x := "MOST_DIGITS"), opCmp, q, c0, c1, itVal_str]
/-- the text's body ahead of the sign -/
def bodyL (l : List Nat) : List Nat := if l.take 1 = [45] then l.drop 1 else l
theorem opSl_from (l : List Nat) (h : l.length ≤ sizeLine) : opSl (.str (tx l)) (some 1) none = .ok (.fz (.str (tx (l.drop 1)))) := by
  show (if _ ≤ sizeLine then _ else _) = _
  rw [if_pos (by rw [tx_len]; exact h), cut_from]
theorem opSl_to (l : List Nat) (h : l.length ≤ sizeLine) : opSl (.str (tx l)) none (some 1) = .ok (.fz (.str (tx (l.take 1)))) := by
  show (if _ ≤ sizeLine then _ else _) = _
  rw [if_pos (by rw [tx_len]; exact h), cut_to]
theorem me_part_no {l : List Nat} (h : 47 ∉ l) (hl : l.length ≤ sizeLine) : evMe .part (tx l) [.str "/"] = .ok (.fz (.tup [.str (tx l), .str (tx []), .str (tx [])])) := by
  rw [slash_eq]
  show (if _ ∧ _ then _ else _) = _
  rw [if_pos ⟨by rw [tx_len]; decide, by rw [tx_len]; exact hl⟩, part_no h]
theorem me_part_at {a b : List Nat} (h : 47 ∉ a) (hl : (a ++ 47 :: b).length ≤ sizeLine) : evMe .part (tx (a ++ 47 :: b)) [.str "/"] = .ok (.fz (.tup [.str (tx a), .str (tx [47]), .str (tx b)])) := by
  rw [slash_eq]
  show (if _ ∧ _ then _ else _) = _
  rw [if_pos ⟨by rw [tx_len]; decide, by rw [tx_len]; exact hl⟩, part_at h]
/-- a numeral -/
def isNum (l : List Nat) : Prop := AllDigits l ∧ l ≠ [] ∧ l.length ≤ 400
theorem digits_lt : ∀ (l : List Nat) (a : Nat), AllDigits l → l.foldl (fun acc c => acc * 10 + (c - 48)) a < (a + 1) * 10 ^ l.length
  | [], a, _ => by simp
  | c :: l, a, h => by
    have hc := h.head
    have q := digits_lt l (a * 10 + (c - 48)) h.tail
    rw [List.foldl_cons, List.length_cons, Nat.pow_succ]
    refine Nat.lt_of_lt_of_le q ?_
    rw [Nat.mul_comm (10 ^ l.length) 10, ← Nat.mul_assoc]
    exact Nat.mul_le_mul_right _ (by omega)
theorem isNum.lt {l : List Nat} (h : isNum l) : digitsVal l < 2 ^ 1400 := by
  have q := digits_lt l 0 h.1
  have q2 : 10 ^ l.length ≤ 10 ^ 400 := Nat.pow_le_pow_right (by decide) h.2.2
  have q3 : (10 : Nat) ^ 400 < 2 ^ 1400 := by decide +kernel
  unfold digitsVal
  omega
theorem execs_cons {T : Tb} {s : S} {ss : List S} {ρ : Rho} : execs T (s :: ss) ρ = (exec T s ρ).then (execs T ss) := by rw [execs]
/-- the sign put ahead -/
def sgn (l : List Nat) (n : Nat) : Int := if l.take 1 = [45] then -(n : Int) else n
theorem sgn_abs (l : List Nat) (n : Nat) : (sgn l n).natAbs = n := by
  unfold sgn
  split <;> omega
/-- the text's parts -/
inductive Parts (l : List Nat) : List Nat → Option (List Nat) → Prop
  | one (h : 47 ∉ bodyL l) : Parts l (bodyL l) none
  | two (a b : List Nat) (h : 47 ∉ a) (e : bodyL l = a ++ 47 :: b) : Parts l a (some b)
theorem body_len (l : List Nat) : (bodyL l).length ≤ l.length := by
  unfold bodyL
  split
  · rw [List.length_drop]; omega
  · exact Nat.le_refl _
def slL : Option (List Nat) → List Nat
  | none => []
  | some _ => [47]
theorem read_pre [HasC p "DIGITS" (.str (tx [48, 49, 50, 51, 52, 53, 54, 55, 56, 57]))] [HasC p "MOST_DIGITS" (.int 400)] [HasF p "read_numeral" 2 1 Bx.read_numeral] {l : List Nat} (hl : l.length ≤ 100000) {a : List Nat} {ob : Option (List Nat)} (q : Parts l a ob) :
    execs (p.tb (m + 2)) Bx.read_number [.fz (.str (tx l)), .un, .un, .un, .un, .un, .un, .un] =
      execs (p.tb (m + 2)) (Bx.read_number.drop 2) [.fz (.str (tx l)), .fz (.str (tx (bodyL l))), .fz (.str (tx a)), .fz (.str (tx (slL ob))), .fz (.str (tx (ob.getD []))), .un, .un, .un] := by
  have sb := sizeBig
  have c0 : l.length ≤ sizeLine := by omega
  have c1 : (bodyL l).length ≤ sizeLine := by have := body_len l; omega
  have o1 := opSl_from l c0
  have o2 := opSl_to l c0
  have o3 := opEq_str (l.take 1) [45]
  rw [← dash_eq] at o3
  have e1 : exec (p.tb (m + 2)) (Bx.read_number.getD 0 .pass) [.fz (.str (tx l)), .un, .un, .un, .un, .un, .un, .un] = .ok (.nx [.fz (.str (tx l)), .fz (.str (tx (bodyL l))), .un, .un, .un, .un, .un, .un]) := by
    unfold bodyL
    by_cases hs : l.take 1 = [45]
    · rw [decide_eq_true hs] at o3
      rw [if_pos hs]
      simp [evDef, startS, PX.execs, PX.exec, evX, evXB, evXL, frzS, anyOw, evE, evL, evJ, evT, bindE, bindT, bindTp, opCmp, opI2, storeIx, E.non?, slB, Bx.read_number, slB, o1, o2, opCmp, o3]
    · rw [decide_eq_false hs] at o3
      rw [if_neg hs]
      simp [evDef, startS, PX.execs, PX.exec, evX, evXB, evXL, frzS, anyOw, evE, evL, evJ, evT, bindE, bindT, bindTp, opCmp, opI2, storeIx, E.non?, slB, Bx.read_number, slB, o1, o2, opCmp, o3]
  show execs _ (Bx.read_number.getD 0 .pass :: Bx.read_number.getD 1 .pass :: Bx.read_number.drop 2) _ = _
  rw [execs_cons, e1, RS.then_nx, execs_cons]
  have e2 : exec (p.tb (m + 2)) (Bx.read_number.getD 1 .pass) [.fz (.str (tx l)), .fz (.str (tx (bodyL l))), .un, .un, .un, .un, .un, .un] = .ok (.nx [.fz (.str (tx l)), .fz (.str (tx (bodyL l))), .fz (.str (tx a)), .fz (.str (tx (slL ob))), .fz (.str (tx (ob.getD []))), .un, .un, .un]) := by
    cases q with
    | one hn =>
      have o4 := me_part_no hn c1
      simp [evDef, startS, PX.execs, PX.exec, evX, evXB, evXL, frzS, anyOw, evE, evL, evJ, evT, bindE, bindT, bindTp, opCmp, opI2, storeIx, E.non?, slB, Bx.read_number, o4, slL]
    | two a b hn e =>
      have o4 := me_part_at (b := b) hn (by rw [← e]; exact c1)
      rw [e]
      simp [evDef, startS, PX.execs, PX.exec, evX, evXB, evXL, frzS, anyOw, evE, evL, evJ, evT, bindE, bindT, bindTp, opCmp, opI2, storeIx, E.non?, slB, Bx.read_number, o4, slL]
  rw [e2, RS.then_nx]
def botV : Option (List Nat) → Nat
  | none => 1
  | some b => digitsVal b
/-- the slots behind the parts -/
def st0 (l a : List Nat) (ob : Option (List Nat)) : Rho := [.fz (.str (tx l)), .fz (.str (tx (bodyL l))), .fz (.str (tx a)), .fz (.str (tx (slL ob))), .fz (.str (tx (ob.getD []))), .un, .un, .un]
theorem Parts.len {l a : List Nat} {ob : Option (List Nat)} (q : Parts l a ob) : a.length ≤ l.length ∧ (ob.getD []).length ≤ l.length := by
  have := body_len l
  cases q with
  | one h => exact ⟨this, Nat.zero_le _⟩
  | two a b h e =>
    rw [e, List.length_append, List.length_cons] at this
    exact ⟨by omega, by show b.length ≤ _; omega⟩
theorem read_start [HasC p "DIGITS" (.str (tx [48, 49, 50, 51, 52, 53, 54, 55, 56, 57]))] [HasC p "MOST_DIGITS" (.int 400)] [HasF p "read_numeral" 2 1 Bx.read_numeral] [HasF p "read_number" 8 1 Bx.read_number] {l : List Nat} (hl : l.length ≤ 100000) {a : List Nat} {ob : Option (List Nat)} (q : Parts l a ob) :
    p.call (m + 3) "read_number" [.str (tx l)] = (execs (p.tb (m + 2)) (Bx.read_number.drop 2) (st0 l a ob)).out := by
  rw [HasF.run]
  rw [evDef_out (show [D.str (tx l)].length = 1 from rfl)]
  rw [show startS 8 [D.str (tx l)] = [.fz (.str (tx l)), .un, .un, .un, .un, .un, .un, .un] from rfl, read_pre (p := p) hl q]
  rfl
theorem sp_read_bad [HasC p "DIGITS" (.str (tx [48, 49, 50, 51, 52, 53, 54, 55, 56, 57]))] [HasC p "MOST_DIGITS" (.int 400)] [HasF p "read_numeral" 2 1 Bx.read_numeral] [HasF p "read_number" 8 1 Bx.read_number] {l : List Nat} (hl : l.length ≤ 100000) {a : List Nat} {ob : Option (List Nat)} (q : Parts l a ob) (hb : ¬ isNum a ∨ (∃ b, ob = some b ∧ ¬ isNum b) ∨ botV ob = 0) :
    p.call (m + 3) "read_number" [.str (tx l)] = .ex "BadText" [] := by
  rw [read_start (p := p) hl q]
  obtain ⟨l1, l2⟩ := q.len
  by_cases ha : isNum a
  · have o1 := sp_numeral (p := p) (m := m + 1) ha.1 ha.2.1 ha.2.2
    cases ob with
    | none =>
      rcases hb with z | ⟨b, z, _⟩ | z
      · exact absurd ha z
      · cases z
      · cases z
    | some b =>
      have sl : opEq false (.str (tx [47])) (.str "/") = .ok true := by rw [slash_eq, opEq_str]; rfl
      by_cases hb' : isNum b
      · have z : digitsVal b = 0 := by
          rcases hb with z | ⟨b', e, z⟩ | z
          · exact absurd ha z
          · cases e; exact absurd hb' z
          · exact z
        have o2 := sp_numeral (p := p) (m := m + 1) hb'.1 hb'.2.1 hb'.2.2
        rw [z] at o2
        simp [evDef, startS, PX.execs, PX.exec, evX, evXB, evXL, frzS, anyOw, evE, evL, evJ, evT, bindE, bindT, bindTp, opCmp, opI2, storeIx, E.non?, slB, Bx.read_number, st0, o1, slL, opCmp, sl, o2]
      · have o2 := sp_numeral_bad (p := p) (m := m + 1) (l := b) hb' (by have : b.length ≤ l.length := l2; omega)
        simp [evDef, startS, PX.execs, PX.exec, evX, evXB, evXL, frzS, anyOw, evE, evL, evJ, evT, bindE, bindT, bindTp, opCmp, opI2, storeIx, E.non?, slB, Bx.read_number, st0, o1, slL, opCmp, sl, o2]
  · have o1 := sp_numeral_bad (p := p) (m := m + 1) ha (by omega)
    simp [evDef, startS, PX.execs, PX.exec, evX, evXB, evXL, frzS, anyOw, evE, evL, evJ, evT, bindE, bindT, bindTp, opCmp, opI2, storeIx, E.non?, slB, Bx.read_number, st0, o1]
theorem sp_read [HasC p "DIGITS" (.str (tx [48, 49, 50, 51, 52, 53, 54, 55, 56, 57]))] [HasC p "MOST_DIGITS" (.int 400)] [HasF p "read_numeral" 2 1 Bx.read_numeral] [HasF p "read_number" 8 1 Bx.read_number] [HasF p "ratio" 3 2 Bx.ratio] [HasF p "is_whole" 1 1 Bx.is_whole] [HasF p "number_text" 1 1 Bx.number_text] {l : List Nat} (hl : l.length ≤ 100000) {a : List Nat} {ob : Option (List Nat)} (q : Parts l a ob) (ha : isNum a) (hb : ∀ b, ob = some b → isNum b) (h0 : botV ob ≠ 0) :
    p.call (m + 3) "read_number" [.str (tx l)] = if numL (Rat.divInt (sgn l (digitsVal a)) (botV ob)) = l then .ok (.fz (enc (Rat.divInt (sgn l (digitsVal a)) (botV ob)))) else .ex "BadText" [] := by
  rw [read_start (p := p) hl q]
  have sb := sizeBig
  have c0 : l.length ≤ sizeLine := by omega
  have o1 := sp_numeral (p := p) (m := m + 1) ha.1 ha.2.1 ha.2.2
  have d1 := ha.lt
  have d2 : botV ob < 2 ^ 1400 := by
    cases ob with
    | none => show 1 < _; decide +kernel
    | some b => exact (hb b rfl).lt
  have bd : Bd 1400 (Rat.divInt (sgn l (digitsVal a)) (botV ob)) := bd_divInt (by rw [sgn_abs]; exact d1) (by simpa using d2) (by omega)
  have o3 := sp_ratio (p := p) (m := m + 1) (a := sgn l (digitsVal a)) (b := (botV ob : Int)) (by omega) (pw_le (k := 1400) (by simpa using d2) (by decide))
  have o4 := sp_number_text (p := p) (m := m) bd (by decide)
  have o5 := opNe_str (numL (Rat.divInt (sgn l (digitsVal a)) (botV ob))) l
  have o6 := opSl_to l c0
  have o7 := opEq_str (l.take 1) [45]
  rw [← dash_eq] at o7
  have o8 : evE (p.tb (m + 2)) (st0 l a ob |>.set 5 (.fz (.int (digitsVal a)))) (.ite (.cmp .Eq (.var 3) (.str "/")) (.call "read_numeral" [.var 4]) (.int 1)) = .ok (.fz (.int (botV ob))) := by
    cases ob with
    | none =>
      have sl : opEq false (.str (tx [])) (.str "/") = .ok false := by rw [slash_eq, opEq_str]; rfl
      simp [evDef, startS, PX.execs, PX.exec, evX, evXB, evXL, frzS, anyOw, evE, evL, evJ, evT, bindE, bindT, bindTp, opCmp, opI2, storeIx, E.non?, slB, st0, slL, opCmp, sl, botV]
    | some b =>
      have sl : opEq false (.str (tx [47])) (.str "/") = .ok true := by rw [slash_eq, opEq_str]; rfl
      have hb' := hb b rfl
      have o2 := sp_numeral (p := p) (m := m + 1) hb'.1 hb'.2.1 hb'.2.2
      simp [evDef, startS, PX.execs, PX.exec, evX, evXB, evXL, frzS, anyOw, evE, evL, evJ, evT, bindE, bindT, bindTp, opCmp, opI2, storeIx, E.non?, slB, st0, slL, opCmp, sl, botV, o2]
  have h0' : ¬ (botV ob : Int) = 0 := by omega
  generalize hn : Rat.divInt (sgn l (digitsVal a)) (botV ob) = x at *
  show (execs (p.tb (m + 2)) (Bx.read_number.getD 2 .pass :: .asg (.nm 6) (.ite (.cmp .Eq (.var 3) (.str "/")) (.call "read_numeral" [.var 4]) (.int 1)) [3, 4] :: Bx.read_number.drop 4) (st0 l a ob)).out = _
  rw [execs_cons]
  have e1 : exec (p.tb (m + 2)) (Bx.read_number.getD 2 .pass) (st0 l a ob) = .ok (.nx ((st0 l a ob).set 5 (.fz (.int (digitsVal a))))) := by
    simp [evDef, startS, PX.execs, PX.exec, evX, evXB, evXL, frzS, anyOw, evE, evL, evJ, evT, bindE, bindT, bindTp, opCmp, opI2, storeIx, E.non?, slB, Bx.read_number, st0, o1]
  rw [e1, RS.then_nx, execs_cons]
  have e2 : exec (p.tb (m + 2)) (.asg (.nm 6) (.ite (.cmp .Eq (.var 3) (.str "/")) (.call "read_numeral" [.var 4]) (.int 1)) [3, 4]) ((st0 l a ob).set 5 (.fz (.int (digitsVal a)))) = .ok (.nx (((st0 l a ob).set 5 (.fz (.int (digitsVal a)))).set 6 (.fz (.int (botV ob))))) := by
    unfold exec evX
    rw [if_neg (by simp [anyOw, st0]), o8]
    simp [bindE, bindT, st0]
  rw [e2, RS.then_nx]
  have hv : ∀ (k : Bool), decide (l.take 1 = [45]) = k → sgn l (digitsVal a) = if k = true then -(digitsVal a : Int) else (digitsVal a : Int) := fun k hk => by
    subst hk
    unfold sgn
    simp
  cases hk : decide (l.take 1 = [45]) with
  | true =>
    rw [hk] at o7
    rw [hv _ hk, if_pos rfl] at o3
    by_cases hx : numL x = l
    · rw [if_pos hx]
      rw [decide_eq_true hx, Bool.not_true] at o5
      simp [evDef, startS, PX.execs, PX.exec, evX, evXB, evXL, frzS, anyOw, evE, evL, evJ, evT, bindE, bindT, bindTp, opCmp, opI2, storeIx, E.non?, slB, Bx.read_number, st0, o3, o4, o5, o6, o7, opCmp, h0, h0']
    · rw [if_neg hx]
      rw [decide_eq_false hx, Bool.not_false] at o5
      simp [evDef, startS, PX.execs, PX.exec, evX, evXB, evXL, frzS, anyOw, evE, evL, evJ, evT, bindE, bindT, bindTp, opCmp, opI2, storeIx, E.non?, slB, Bx.read_number, st0, o3, o4, o5, o6, o7, opCmp, h0, h0']
  | false =>
    rw [hk] at o7
    rw [hv _ hk, if_neg Bool.false_ne_true] at o3
    by_cases hx : numL x = l
    · rw [if_pos hx]
      rw [decide_eq_true hx, Bool.not_true] at o5
      simp [evDef, startS, PX.execs, PX.exec, evX, evXB, evXL, frzS, anyOw, evE, evL, evJ, evT, bindE, bindT, bindTp, opCmp, opI2, storeIx, E.non?, slB, Bx.read_number, st0, o3, o4, o5, o6, o7, opCmp, h0, h0']
    · rw [if_neg hx]
      rw [decide_eq_false hx, Bool.not_false] at o5
      simp [evDef, startS, PX.execs, PX.exec, evX, evXB, evXL, frzS, anyOw, evE, evL, evJ, evT, bindE, bindT, bindTp, opCmp, opI2, storeIx, E.non?, slB, Bx.read_number, st0, o3, o4, o5, o6, o7, opCmp, h0, h0']
end
end PX

set_option Elab.async false
set_option linter.all false
set_option maxRecDepth 100000
/-! EXe: a number's text is read back. -/
namespace PX
open PySem PySem.Spec PyProof.Rows L2 PySem.NumText
theorem dg_no {c n : Nat} (h : c < 48) : c ∉ dg n := fun z => by have := dg_all n c z; omega
theorem num_head {n : Nat} {r : List Nat} : (dg n ++ r).take 1 ≠ [45] := by
  have h := dg_ne n
  have q := dg_all n
  cases e : dg n with
  | nil => exact absurd e h
  | cons c l =>
    rw [e] at q
    have := q.head
    intro z
    have : c = 45 := by simpa using z
    omega
/-- what stands behind the sign -/
def restL (x : Rat) : List Nat := dg x.num.natAbs ++ if x.den = 1 then [] else 47 :: dg x.den
theorem numL_neg {x : Rat} (h : x.num < 0) : numL x = 45 :: restL x := by
  unfold numL intL restL
  rw [if_pos h]
  rfl
theorem numL_pos {x : Rat} (h : ¬ x.num < 0) : numL x = restL x := by
  unfold numL intL restL
  rw [if_neg h]
theorem body_num (x : Rat) : bodyL (numL x) = restL x := by
  by_cases h : x.num < 0
  · rw [numL_neg h]; unfold bodyL; rw [if_pos (by simp)]; rfl
  · rw [numL_pos h]; unfold bodyL restL; rw [if_neg num_head]
theorem sgn_num (x : Rat) : sgn (numL x) x.num.natAbs = x.num := by
  unfold sgn
  by_cases h : x.num < 0
  · rw [numL_neg h, if_pos (by simp)]; omega
  · rw [numL_pos h, restL, if_neg num_head]; omega
def botL (x : Rat) : Option (List Nat) := if x.den = 1 then none else some (dg x.den)
theorem parts_num (x : Rat) : Parts (numL x) (dg x.num.natAbs) (botL x) := by
  have e := body_num x
  unfold botL
  by_cases h : x.den = 1
  · rw [if_pos h]
    have e2 : bodyL (numL x) = dg x.num.natAbs := by rw [e, restL, if_pos h, List.append_nil]
    have := Parts.one (l := numL x) (by rw [e2]; exact dg_no (by decide))
    rw [e2] at this
    exact this
  · rw [if_neg h]
    exact .two _ _ (dg_no (by decide)) (by rw [e, restL, if_neg h])
theorem bot_num (x : Rat) : botV (botL x) = x.den := by
  unfold botL
  by_cases h : x.den = 1
  · rw [if_pos h, h]; rfl
  · rw [if_neg h]; exact dg_val _
theorem isNum_dg {n : Nat} (h : n < 10 ^ 400) : isNum (dg n) := ⟨dg_all n, dg_ne n, dg_len h (by decide)⟩
theorem numL_len {x : Rat} (hn : x.num.natAbs < 10 ^ 400) (hd : x.den < 10 ^ 400) : (numL x).length ≤ 802 := by
  have a := intL_len hn (by decide)
  have b := dg_len hd (by decide)
  unfold numL
  rw [List.length_append]
  split
  · simp; omega
  · rw [List.length_cons]; omega
theorem sp_read_back {p : Prg} {m : Nat} [HasC p "DIGITS" (.str (tx [48, 49, 50, 51, 52, 53, 54, 55, 56, 57]))] [HasC p "MOST_DIGITS" (.int 400)] [HasF p "read_numeral" 2 1 Bx.read_numeral] [HasF p "read_number" 8 1 Bx.read_number] [HasF p "ratio" 3 2 Bx.ratio] [HasF p "is_whole" 1 1 Bx.is_whole] [HasF p "number_text" 1 1 Bx.number_text] {x : Rat} (hn : x.num.natAbs < 10 ^ 400) (hd : x.den < 10 ^ 400) : p.call (m + 3) "read_number" [.str (tx (numL x))] = .ok (.fz (enc x)) := by
  have q := sp_read (p := p) (m := m) (by have := numL_len hn hd; omega) (parts_num x) (isNum_dg hn) (fun b hb => by
    unfold botL at hb
    split at hb
    · cases hb
    · cases hb; exact isNum_dg hd) (by rw [bot_num]; exact x.den_nz)
  rw [bot_num, dg_val, sgn_num, Rat.num_divInt_den, if_pos rfl] at q
  exact q
end PX

set_option Elab.async false
set_option linter.all false
set_option maxRecDepth 100000
/-! LHa: helpers of the laws: drawn numbers, greatest common divisors. -/
namespace PX
open PySem PySem.Spec PyProof.Rows L2
/-- the numbers below n -/
def rngI (n : Nat) : List Int := (List.range n).map fun (i : Nat) => (0 + (i : Int))
def rngD (n : Nat) : List D := (rngI n).map D.int
theorem rngI_len (n : Nat) : (rngI n).length = n := by simp [rngI]
theorem items_rng : itemsOf .rng = itRng := rfl
theorem items_nat {n : Nat} (h : n ≤ 1000000) : itemsOf .rng [.int (n : Int)] = .ok (rngD n) := by
  have h1 : (n : Int) < 2 ^ 62 ∧ -(2 ^ 62) ≤ (n : Int) := by
    have : (2 : Nat) ^ 62 = 4611686018427387904 := by decide
    omega
  rw [items_rng]
  simp only [itRng]
  rw [if_pos h1, Int.toNat_natCast]
  unfold rngD rngI
  rw [List.map_map]
  rfl
theorem ex_for_of {T : Tb} {ρ : Rho} {tg : Tg} {k : ItK} {as : List E} {b : List S} {us : List Nat} {ds xs : List D} (h0 : anyOw ρ us = false) (h1 : evL T ρ as = .ok ds) (h2 : itemsOf k ds = .ok xs) :
    exec T (.for tg k as b us) ρ = forGo tg (fun ρ => execs T b ρ) xs ρ := by
  rw [exec]
  unfold evXL
  rw [h0, if_neg Bool.false_ne_true, h1, R.on_ok]
  show (itemsOf k ds).on ρ _ = _
  rw [h2, R.on_ok]
@[simp] theorem ob_pow {i j : Int} (h : 0 ≤ j) (h2 : j ≤ 1000000) (h3 : i.natAbs < 2 ^ 64) : opBin .Pow (.int i) (.int j) = .ok (.fz (.int (i ^ j.toNat))) := if_pos ⟨h, h2, h3⟩
/-- a remainder -/
def inR (r : Int) : Prop := 0 ≤ r ∧ r < 10007
section
variable {p : Prg} {m : Nat}
theorem num_loop1 (a0 a1 a2 s6 : Sl) : ∀ (js : List Int) (c : Int) (acc : List Int) (s5 : Sl), acc.length + js.length ≤ 1000 →
    ∃ c' new s', forGo (.nm 5) (fun ρ => execs (p.tb m) Bl._law_numbers_b1 ρ) (js.map D.int) [a0, a1, a2, .fz (.int c), .ow (.lst (acc.map D.int)), s5, s6] =
      .ok (.nx [a0, a1, a2, .fz (.int c'), .ow (.lst ((acc ++ new).map D.int)), s', s6]) ∧ new.length = js.length ∧ ∀ r, r ∈ new → inR r
  | [], c, acc, s5, _ => ⟨c, [], s5, by rw [List.append_nil]; exact forGo_nil, rfl, fun r hr => by cases hr⟩
  | j :: js, c, acc, s5, hl => by
    rw [List.length_cons] at hl
    have sb := sizeBig
    obtain ⟨c', new, s', e1, e2, e3⟩ := num_loop1 a0 a1 a2 s6 js (c.fdiv 10007) (acc ++ [c.fmod 10007]) (.fz (.int j)) (by simp; omega)
    refine ⟨c', c.fmod 10007 :: new, s', ?_, by simp [e2], fun r hr => ?_⟩
    · rw [List.map_cons, forGo_cons]
      simp only [bindT, R.on_ok, List.set]
      have h10 : (10007 : Int) ≠ 0 := by decide
      have hlg : lgI 10007 < divLine := by decide
      have hln : acc.length < sizeLine := by omega
      have z : execs (p.tb m) Bl._law_numbers_b1 [a0, a1, a2, .fz (.int c), .ow (.lst (acc.map D.int)), .fz (.int j), s6] = .ok (.nx [a0, a1, a2, .fz (.int (c.fdiv 10007)), .ow (.lst ((acc ++ [c.fmod 10007]).map D.int)), .fz (.int j), s6]) := by
        simp [evDef, startS, PX.execs, PX.exec, evX, evXB, evXL, frzS, anyOw, evE, evL, evJ, evT, bindE, bindT, bindTp, opCmp, opI2, storeIx, E.non?, slB, Bl._law_numbers_b1, h10, hlg, hln]
      rw [z, RS.turn_nx]
      rw [show acc ++ c.fmod 10007 :: new = acc ++ [c.fmod 10007] ++ new by simp]
      exact e1
    · rcases List.mem_cons.mp hr with rfl | hr
      · exact ⟨Int.fmod_nonneg_of_pos _ (by decide), Int.fmod_lt_of_pos _ (by decide)⟩
      · exact e3 r hr
theorem num_loop2 (a0 a1 a2 : Sl) {c : Int} (hc : c.natAbs < 2 ^ 60) : ∀ (js : List Int) (acc : List Int) (s5 s6 : Sl), acc.length + js.length ≤ 1000 → (∀ j, j ∈ js → j.natAbs < 2 ^ 60) →
    ∃ new s' s'', forGo (.nm 5) (fun ρ => execs (p.tb m) Bl._law_numbers_b2 ρ) (js.map D.int) [a0, a1, a2, .fz (.int c), .ow (.lst (acc.map D.int)), s5, s6] =
      .ok (.nx [a0, a1, a2, .fz (.int c), .ow (.lst ((acc ++ new).map D.int)), s', s'']) ∧ new.length = js.length ∧ ∀ r, r ∈ new → inR r
  | [], acc, s5, s6, _, _ => ⟨[], s5, s6, by rw [List.append_nil]; exact forGo_nil, rfl, fun r hr => by cases hr⟩
  | j :: js, acc, s5, s6, hl, hj => by
    rw [List.length_cons] at hl
    have sb := sizeBig
    have j1 := hj j List.mem_cons_self
    generalize hM : (c * 48271 + 69621 * j + 11).fmod 2147483647 = M
    have m0 : 0 ≤ M := hM ▸ Int.fmod_nonneg_of_pos _ (by decide)
    have m1 : M < 2147483647 := hM ▸ Int.fmod_lt_of_pos _ (by decide)
    have d0 : 0 ≤ M.fdiv 16 := Int.fdiv_nonneg m0 (by decide)
    have d1 : M.fdiv 16 ≤ M := by
      rw [Int.fdiv_eq_ediv_of_nonneg _ (by decide)]
      exact Int.ediv_le_self _ m0
    obtain ⟨new, s', s'', e1, e2, e3⟩ := num_loop2 a0 a1 a2 hc js (acc ++ [(M.fdiv 16 * 7919 + j).fmod 10007]) (.fz (.int j)) (.fz (.int M)) (by simp; omega) (fun k hk => hj k (List.mem_cons_of_mem _ hk))
    refine ⟨(M.fdiv 16 * 7919 + j).fmod 10007 :: new, s', s'', ?_, by simp [e2], fun r hr => ?_⟩
    · rw [List.map_cons, forGo_cons]
      simp only [bindT, R.on_ok, List.set]
      have h10 : (10007 : Int) ≠ 0 := by decide
      have h11 : (2147483647 : Int) ≠ 0 := by decide
      have h12 : (16 : Int) ≠ 0 := by decide
      have hlg : lgI 16 < divLine := by decide
      have hln : acc.length < sizeLine := by omega
      have g1 : lgI c + lgI 48271 < mulLine := lg_mul hc (show (48271 : Int).natAbs < 2 ^ 60 by decide) (by decide) (by decide) (by decide)
      have g2 : lgI 69621 + lgI j < mulLine := lg_mul (show (69621 : Int).natAbs < 2 ^ 60 by decide) j1 (by decide) (by decide) (by decide)
      have g3a : (M.fdiv 16).natAbs < 2 ^ 60 := by
        have : (2 : Nat) ^ 60 = 1152921504606846976 := by decide
        omega
      have g3 : lgI (M.fdiv 16) + lgI 7919 < mulLine := lg_mul g3a (show (7919 : Int).natAbs < 2 ^ 60 by decide) (by decide) (by decide) (by decide)
      have z : execs (p.tb m) Bl._law_numbers_b2 [a0, a1, a2, .fz (.int c), .ow (.lst (acc.map D.int)), .fz (.int j), s6] = .ok (.nx [a0, a1, a2, .fz (.int c), .ow (.lst ((acc ++ [(M.fdiv 16 * 7919 + j).fmod 10007]).map D.int)), .fz (.int j), .fz (.int M)]) := by
        simp [evDef, startS, PX.execs, PX.exec, evX, evXB, evXL, frzS, anyOw, evE, evL, evJ, evT, bindE, bindT, bindTp, opCmp, opI2, storeIx, E.non?, slB, Bl._law_numbers_b2, h10, h11, h12, hlg, hln, g1, g2, g3, hM]
      rw [z, RS.turn_nx]
      rw [show acc ++ (M.fdiv 16 * 7919 + j).fmod 10007 :: new = acc ++ [(M.fdiv 16 * 7919 + j).fmod 10007] ++ new by simp]
      exact e1
    · rcases List.mem_cons.mp hr with rfl | hr
      · exact ⟨Int.fmod_nonneg_of_pos _ (by decide), Int.fmod_lt_of_pos _ (by decide)⟩
      · exact e3 r hr
theorem rng_small {n : Nat} (h : n ≤ 1000) : ∀ j, j ∈ rngI n → j.natAbs < 2 ^ 60 := fun j hj => by
  obtain ⟨i, hi, rfl⟩ := List.mem_map.mp hj
  have := List.mem_range.mp hi
  have : (2 : Nat) ^ 60 = 1152921504606846976 := by decide
  omega
theorem pw18 : (10 : Int) ^ 18 = 1000000000000000000 := by decide
theorem pow18 : opBin .Pow (.int 10) (.int 18) = .ok (.fz (.int 1000000000000000000)) := by
  rw [ob_pow (by decide) (by decide) (by decide)]
  rw [show (18 : Int).toNat = 18 from rfl, pw18]
theorem sp_numbers [HasF p "_law_numbers" 7 3 Bl._law_numbers] {ns : List Int} {k : Int} {n : Nat} {c : Int} (hn : n ≤ 1000) (hc : p.call (m + 1) "_law_cell" [.scr ns, .int k] = .ok (.fz (.int c))) :
    ∃ row : List Int, p.call (m + 2) "_law_numbers" [.scr ns, .int k, .int n] = .ok (.fr (.lst (row.map D.int))) ∧ row.length = n ∧ ∀ r, r ∈ row → inR r := by
  rw [HasF.run]
  have sb := sizeBig
  have hr := items_nat (n := n) (by omega)
  have z0 : (0 : Nat) ≤ sizeLine := Nat.zero_le _
  generalize hcc : (if c < 0 then -c else c) = cc
  have cn : cc.natAbs = cc := by rw [← hcc]; split <;> omega
  rw [evDef_out (show [D.scr ns, D.int k, D.int n].length = 3 from rfl)]
  have e0 : execs (p.tb (m + 1)) Bl._law_numbers (startS 7 [D.scr ns, D.int k, D.int n]) = execs (p.tb (m + 1)) (Bl._law_numbers.drop 2) [.fz (.scr ns), .fz (.int k), .fz (.int n), .fz (.int cc), .ow (.lst []), .un, .un] := by
    show execs (p.tb (m + 1)) (Bl._law_numbers.getD 0 .pass :: Bl._law_numbers.getD 1 .pass :: Bl._law_numbers.drop 2) [.fz (.scr ns), .fz (.int k), .fz (.int n), .un, .un, .un, .un] = _
    have e1 : exec (p.tb (m + 1)) (Bl._law_numbers.getD 0 .pass) [.fz (.scr ns), .fz (.int k), .fz (.int n), .un, .un, .un, .un] = .ok (.nx [.fz (.scr ns), .fz (.int k), .fz (.int n), .fz (.int cc), .un, .un, .un]) := by
      simp [evDef, startS, PX.execs, PX.exec, evX, evXB, evXL, frzS, anyOw, evE, evL, evJ, evT, bindE, bindT, bindTp, opCmp, opI2, storeIx, E.non?, slB, Bl._law_numbers, hc, hcc]
    have e2 : exec (p.tb (m + 1)) (Bl._law_numbers.getD 1 .pass) [.fz (.scr ns), .fz (.int k), .fz (.int n), .fz (.int cc), .un, .un, .un] = .ok (.nx [.fz (.scr ns), .fz (.int k), .fz (.int n), .fz (.int cc), .ow (.lst []), .un, .un]) := by
      simp [evDef, startS, PX.execs, PX.exec, evX, evXB, evXL, frzS, anyOw, evE, evL, evJ, evT, bindE, bindT, bindTp, opCmp, opI2, storeIx, E.non?, slB, Bl._law_numbers]
    rw [execs_cons, e1, RS.then_nx, execs_cons, e2, RS.then_nx]
  rw [e0]
  have e3 : ∀ b : Bool, decide ((1000000000000000000 : Int) ≤ cc) = b → evXB (p.tb (m + 1)) [.fz (.scr ns), .fz (.int k), .fz (.int n), .fz (.int cc), .ow (.lst []), .un, .un] [3] (.cmp .GtE (.var 3) (.bin .Pow (.int 10) (.int 18))) = fun f => f b := fun b hb => by
    funext f
    simp [evDef, startS, PX.execs, PX.exec, evX, evXB, evXL, frzS, anyOw, evE, evL, evJ, evT, bindE, bindT, bindTp, opCmp, opI2, storeIx, E.non?, slB, pow18, hb]
  by_cases hb : (1000000000000000000 : Int) ≤ cc
  · obtain ⟨c', new, s', e1, e2, e4⟩ := num_loop1 (p := p) (m := m + 1) (.fz (.scr ns)) (.fz (.int k)) (.fz (.int n)) .un (rngI n) cc [] .un (by rw [rngI_len]; simpa using hn)
    rw [rngI_len] at e2
    refine ⟨new, ?_, e2, e4⟩
    have e5 : exec (p.tb (m + 1)) (Bl._law_numbers.getD 2 .pass) [.fz (.scr ns), .fz (.int k), .fz (.int n), .fz (.int cc), .ow (.lst []), .un, .un] = .ok (.rt (.fr (.lst (new.map D.int)))) := by
      show exec (p.tb (m + 1)) (.iff (.cmp .GtE (.var 3) (.bin .Pow (.int 10) (.int 18))) [.for (.nm 5) .rng [.var 2] Bl._law_numbers_b1 [2], .retv 4] [] [3]) _ = _
      rw [exec, e3 _ (decide_eq_true hb)]
      simp only [↓reduceIte]
      have e6 : exec (p.tb (m + 1)) (.for (.nm 5) .rng [.var 2] Bl._law_numbers_b1 [2]) [.fz (.scr ns), .fz (.int k), .fz (.int n), .fz (.int cc), .ow (.lst []), .un, .un] = forGo (.nm 5) (fun ρ => execs (p.tb (m + 1)) Bl._law_numbers_b1 ρ) (rngD n) [.fz (.scr ns), .fz (.int k), .fz (.int n), .fz (.int cc), .ow (.lst []), .un, .un] :=
        ex_for_of (by simp [anyOw]) (by simp [evDef, startS, PX.execs, PX.exec, evX, evXB, evXL, frzS, anyOw, evE, evL, evJ, evT, bindE, bindT, bindTp, opCmp, opI2, storeIx, E.non?, slB]) hr
      rw [execs_cons, e6]
      rw [show rngD n = (rngI n).map D.int from rfl, show ([] : List D) = ([] : List Int).map D.int from rfl, e1]
      simp [evDef, startS, PX.execs, PX.exec, evX, evXB, evXL, frzS, anyOw, evE, evL, evJ, evT, bindE, bindT, bindTp, opCmp, opI2, storeIx, E.non?, slB]
    show (execs (p.tb (m + 1)) (Bl._law_numbers.getD 2 .pass :: Bl._law_numbers.drop 3) _).out = _
    rw [execs_cons, e5]
    rfl
  · have c60 : cc.natAbs < 2 ^ 60 := by
      have : (2 : Nat) ^ 60 = 1152921504606846976 := by decide
      omega
    obtain ⟨new, s', s'', e1, e2, e4⟩ := num_loop2 (p := p) (m := m + 1) (.fz (.scr ns)) (.fz (.int k)) (.fz (.int n)) c60 (rngI n) [] .un .un (by rw [rngI_len]; simpa using hn) (rng_small hn)
    rw [rngI_len] at e2
    refine ⟨new, ?_, e2, e4⟩
    have e5 : exec (p.tb (m + 1)) (Bl._law_numbers.getD 2 .pass) [.fz (.scr ns), .fz (.int k), .fz (.int n), .fz (.int cc), .ow (.lst []), .un, .un] = .ok (.nx [.fz (.scr ns), .fz (.int k), .fz (.int n), .fz (.int cc), .ow (.lst []), .un, .un]) := by
      show exec (p.tb (m + 1)) (.iff (.cmp .GtE (.var 3) (.bin .Pow (.int 10) (.int 18))) [.for (.nm 5) .rng [.var 2] Bl._law_numbers_b1 [2], .retv 4] [] [3]) _ = _
      rw [exec, e3 _ (decide_eq_false hb)]
      simp only [Bool.false_eq_true, ↓reduceIte]
      rw [execs]
    show (execs (p.tb (m + 1)) (Bl._law_numbers.getD 2 .pass :: .for (.nm 5) .rng [.var 2] Bl._law_numbers_b2 [2] :: Bl._law_numbers.drop 4) _).out = _
    rw [execs_cons, e5, RS.then_nx, execs_cons]
    have e6 : exec (p.tb (m + 1)) (.for (.nm 5) .rng [.var 2] Bl._law_numbers_b2 [2]) [.fz (.scr ns), .fz (.int k), .fz (.int n), .fz (.int cc), .ow (.lst []), .un, .un] = forGo (.nm 5) (fun ρ => execs (p.tb (m + 1)) Bl._law_numbers_b2 ρ) (rngD n) [.fz (.scr ns), .fz (.int k), .fz (.int n), .fz (.int cc), .ow (.lst []), .un, .un] :=
      ex_for_of (by simp [anyOw]) (by simp [evDef, startS, PX.execs, PX.exec, evX, evXB, evXL, frzS, anyOw, evE, evL, evJ, evT, bindE, bindT, bindTp, opCmp, opI2, storeIx, E.non?, slB]) hr
    rw [e6, show rngD n = (rngI n).map D.int from rfl, show ([] : List D) = ([] : List Int).map D.int from rfl, e1]
    simp [evDef, startS, PX.execs, PX.exec, evX, evXB, evXL, frzS, anyOw, evE, evL, evJ, evT, bindE, bindT, bindTp, opCmp, opI2, storeIx, E.non?, slB, Bl._law_numbers]
/-! ### greatest common divisors -/
theorem gcd_loop : ∀ (k : Nat) (is : List D) (a b : Nat) (s : Sl), k + 1 ≤ is.length → b ≤ a → a * b < 2 ^ k →
    ∃ s', forGo (.nm 2) (fun ρ => execs (p.tb m) Bl._law_gcd_b1 ρ) is [.fz (.int a), .fz (.int b), s] = .ok (.nx [.fz (.int (Nat.gcd a b)), .fz (.int 0), s'])
  | k, [], a, b, s, hl, _, _ => by simp at hl
  | k, i :: is, a, b, s, hl, hab, hp => by
    rw [forGo_cons]
    simp only [bindT, R.on_ok, List.set]
    by_cases hb : b = 0
    · subst hb
      refine ⟨.fz i, ?_⟩
      have z : execs (p.tb m) Bl._law_gcd_b1 [.fz (.int a), .fz (.int (0 : Nat)), .fz i] = .ok (.bk [.fz (.int a), .fz (.int 0), .fz i]) := by
        simp [evDef, startS, PX.execs, PX.exec, evX, evXB, evXL, frzS, anyOw, evE, evL, evJ, evT, bindE, bindT, bindTp, opCmp, opI2, storeIx, E.non?, slB, Bl._law_gcd_b1]
      rw [z, RS.turn_bk, Nat.gcd_zero_right]
    · cases k with
      | zero =>
        exfalso
        have h1 : 0 < a * b := Nat.mul_pos (by omega) (by omega)
        rw [Nat.pow_zero] at hp
        omega
      | succ k =>
        rw [List.length_cons] at hl
        have hr : a % b < b := Nat.mod_lt _ (by omega)
        have hp2 : b * (a % b) < 2 ^ k := by
          have h2 : 2 * (a % b) ≤ a := by
            have e1 := Nat.div_add_mod a b
            have e2 : 1 ≤ a / b := (Nat.one_le_div_iff (by omega)).2 hab
            have e3 : b * 1 ≤ b * (a / b) := Nat.mul_le_mul_left b e2
            omega
          have h3 : b * (2 * (a % b)) ≤ b * a := Nat.mul_le_mul_left b h2
          rw [Nat.pow_succ] at hp
          have e4 : b * (2 * (a % b)) = 2 * (b * (a % b)) := by rw [← Nat.mul_assoc, Nat.mul_comm b 2, Nat.mul_assoc]
          rw [Nat.mul_comm a b] at hp
          omega
        obtain ⟨s', e⟩ := gcd_loop k is b (a % b) (.fz i) (by omega) (Nat.le_of_lt hr) hp2
        refine ⟨s', ?_⟩
        have hb' : ¬ (b : Int) = 0 := by omega
        have ef : (a : Int).fmod (b : Int) = ((a % b : Nat) : Int) := by
          rw [Int.fmod_eq_emod_of_nonneg _ (by omega)]
          omega
        have z : execs (p.tb m) Bl._law_gcd_b1 [.fz (.int a), .fz (.int b), .fz i] = .ok (.nx [.fz (.int b), .fz (.int ((a % b : Nat) : Int)), .fz i]) := by
          rw [← ef]
          simp [evDef, startS, PX.execs, PX.exec, evX, evXB, evXL, frzS, anyOw, evE, evL, evJ, evT, bindE, bindT, bindTp, opCmp, opI2, storeIx, E.non?, slB, Bl._law_gcd_b1, hb, hb']
        rw [z, RS.turn_nx, Nat.gcd_comm, Nat.gcd_rec]
        rw [Nat.gcd_comm] at e
        exact e
theorem sp_gcd [HasF p "_law_gcd" 3 2 Bl._law_gcd] {a b : Int} {k : Nat} (ha : a.natAbs < 2 ^ k) (hb : b.natAbs < 2 ^ k) (hk : k ≤ 990) : p.call (m + 1) "_law_gcd" [.int a, .int b] = .ok (.fz (.int (Nat.gcd a.natAbs b.natAbs : Nat))) := by
  rw [HasF.run, evDef_out (show [D.int a, D.int b].length = 2 from rfl)]
  have a1 : (if a < 0 then -a else a) = (a.natAbs : Int) := by split <;> omega
  have b1 : (if b < 0 then -b else b) = (b.natAbs : Int) := by split <;> omega
  show (execs (p.tb m) (Bl._law_gcd.getD 0 .pass :: Bl._law_gcd.getD 1 .pass :: .for (.nm 2) .rng [.int 2000] Bl._law_gcd_b1 [] :: [.retv 0]) [.fz (.int a), .fz (.int b), .un]).out = _
  have e1 : exec (p.tb m) (Bl._law_gcd.getD 0 .pass) [.fz (.int a), .fz (.int b), .un] = .ok (.nx [.fz (.int a.natAbs), .fz (.int b), .un]) := by
    simp [evDef, startS, PX.execs, PX.exec, evX, evXB, evXL, frzS, anyOw, evE, evL, evJ, evT, bindE, bindT, bindTp, opCmp, opI2, storeIx, E.non?, slB, Bl._law_gcd, a1]
  have e2 : exec (p.tb m) (Bl._law_gcd.getD 1 .pass) [.fz (.int a.natAbs), .fz (.int b), .un] = .ok (.nx [.fz (.int a.natAbs), .fz (.int b.natAbs), .un]) := by
    simp [evDef, startS, PX.execs, PX.exec, evX, evXB, evXL, frzS, anyOw, evE, evL, evJ, evT, bindE, bindT, bindTp, opCmp, opI2, storeIx, E.non?, slB, Bl._law_gcd, b1]
  have e3 : exec (p.tb m) (.for (.nm 2) .rng [.int 2000] Bl._law_gcd_b1 []) [.fz (.int a.natAbs), .fz (.int b.natAbs), .un] = forGo (.nm 2) (fun ρ => execs (p.tb m) Bl._law_gcd_b1 ρ) (rngD 2000) [.fz (.int a.natAbs), .fz (.int b.natAbs), .un] :=
    ex_for_of (by simp [anyOw]) (by simp [evDef, startS, PX.execs, PX.exec, evX, evXB, evXL, frzS, anyOw, evE, evL, evJ, evT, bindE, bindT, bindTp, opCmp, opI2, storeIx, E.non?, slB]) (items_nat (n := 2000) (by decide))
  rw [execs_cons, e1, RS.then_nx, execs_cons, e2, RS.then_nx, execs_cons, e3]
  have big : ∀ {x y : Nat}, x < 2 ^ k → y < 2 ^ k → x * y < 2 ^ 1980 := fun hx hy => Nat.lt_of_lt_of_le (pw_mul hx hy) (Nat.pow_le_pow_right (by decide) (by omega))
  have hl : ∀ n : Nat, (rngD n).length = n := fun n => by unfold rngD; rw [List.length_map, rngI_len]
  by_cases hab : b.natAbs ≤ a.natAbs
  · obtain ⟨s', e⟩ := gcd_loop (p := p) (m := m) 1980 (rngD 2000) a.natAbs b.natAbs .un (by rw [hl]; decide) hab (big ha hb)
    rw [e]
    simp [evDef, startS, PX.execs, PX.exec, evX, evXB, evXL, frzS, anyOw, evE, evL, evJ, evT, bindE, bindT, bindTp, opCmp, opI2, storeIx, E.non?, slB]
  · have hd : rngD 2000 = (.int 0) :: (rngD 2000).drop 1 := by
      unfold rngD rngI
      rw [show (2000 : Nat) = 1999 + 1 from rfl, List.range_succ_eq_map]
      rfl
    have hl2 : ((rngD 2000).drop 1).length = 1999 := by rw [List.length_drop, hl]
    obtain ⟨s', e⟩ := gcd_loop (p := p) (m := m) 1980 ((rngD 2000).drop 1) b.natAbs a.natAbs (.fz (.int 0)) (by rw [hl2]; decide) (by omega) (big hb ha)
    rw [hd, forGo_cons]
    simp only [bindT, R.on_ok, List.set]
    have hb' : ¬ (b.natAbs : Int) = 0 := by omega
    have ef : ((a.natAbs : Nat) : Int).fmod (b.natAbs : Int) = ((a.natAbs : Nat) : Int) := by
      rw [Int.fmod_eq_emod_of_nonneg _ (by omega), Int.emod_eq_of_lt (by omega) (by omega)]
    have z : execs (p.tb m) Bl._law_gcd_b1 [.fz (.int a.natAbs), .fz (.int b.natAbs), .fz (.int 0)] = .ok (.nx [.fz (.int b.natAbs), .fz (.int a.natAbs), .fz (.int 0)]) := by
      have hb2 : b.natAbs ≠ 0 := by omega
      have mo := ob_mod (i := ((a.natAbs : Nat) : Int)) hb'
      rw [ef] at mo
      generalize a.natAbs = A at *
      generalize b.natAbs = B at *
      simp [evDef, startS, PX.execs, PX.exec, evX, evXB, evXL, frzS, anyOw, evE, evL, evJ, evT, bindE, bindT, bindTp, opCmp, opI2, storeIx, E.non?, slB, Bl._law_gcd_b1, hb2, hb', mo]
    rw [z, RS.turn_nx, e]
    rw [Nat.gcd_comm]
    simp [evDef, startS, PX.execs, PX.exec, evX, evXB, evXL, frzS, anyOw, evE, evL, evJ, evT, bindE, bindT, bindTp, opCmp, opI2, storeIx, E.non?, slB]
theorem sp_ltop [HasF p "_law_top" 1 1 Bl._law_top] (x : Rat) : p.call (m + 1) "_law_top" [enc x] = .ok (.fz (.int x.num)) := by
  rw [HasF.run]
  by_cases hx : x.den = 1
  · simp [evDef, startS, PX.execs, PX.exec, evX, evXB, evXL, frzS, anyOw, evE, evL, evJ, evT, bindE, bindT, bindTp, opCmp, opI2, storeIx, E.non?, slB, Bl._law_top, hx, enc_one hx]
  · simp [evDef, startS, PX.execs, PX.exec, evX, evXB, evXL, frzS, anyOw, evE, evL, evJ, evT, bindE, bindT, bindTp, opCmp, opI2, storeIx, E.non?, slB, Bl._law_top, hx, enc_two hx, at0]
theorem sp_lbottom [HasF p "_law_bottom" 1 1 Bl._law_bottom] (x : Rat) : p.call (m + 1) "_law_bottom" [enc x] = .ok (.fz (.int x.den)) := by
  rw [HasF.run]
  by_cases hx : x.den = 1
  · simp [evDef, startS, PX.execs, PX.exec, evX, evXB, evXL, frzS, anyOw, evE, evL, evJ, evT, bindE, bindT, bindTp, opCmp, opI2, storeIx, E.non?, slB, Bl._law_bottom, hx, enc_one hx]
  · simp [evDef, startS, PX.execs, PX.exec, evX, evXB, evXL, frzS, anyOw, evE, evL, evJ, evT, bindE, bindT, bindTp, opCmp, opI2, storeIx, E.non?, slB, Bl._law_bottom, hx, enc_two hx, at1]
theorem sp_is_int [HasF p "_law_is_int" 1 1 Bl._law_is_int] (i : Int) : p.call (m + 1) "_law_is_int" [.int i] = .ok (.fz (.bl true)) := by
  rw [HasF.run]
  simp [evDef, startS, PX.execs, PX.exec, evX, evXB, evXL, frzS, anyOw, evE, evL, evJ, evT, bindE, bindT, bindTp, opCmp, opI2, storeIx, E.non?, slB, Bl._law_is_int]
theorem sp_is_int_t [HasF p "_law_is_int" 1 1 Bl._law_is_int] (l : List D) : p.call (m + 1) "_law_is_int" [.tup l] = .ok (.fz (.bl false)) := by
  rw [HasF.run]
  simp [evDef, startS, PX.execs, PX.exec, evX, evXB, evXL, frzS, anyOw, evE, evL, evJ, evT, bindE, bindT, bindTp, opCmp, opI2, storeIx, E.non?, slB, Bl._law_is_int]
theorem sp_is_number [HasF p "_law_is_int" 1 1 Bl._law_is_int] [HasF p "_law_gcd" 3 2 Bl._law_gcd] [HasF p "_law_is_number" 1 1 Bl._law_is_number] {x : Rat} {k : Nat} (bx : Bd k x) (hk : k ≤ 990) : p.call (m + 2) "_law_is_number" [enc x] = .ok (.fz (.bl true)) := by
  rw [HasF.run]
  by_cases hx : x.den = 1
  · have e1 := sp_is_int (p := p) (m := m) x.num
    rw [enc_one hx]
    simp [evDef, startS, PX.execs, PX.exec, evX, evXB, evXL, frzS, anyOw, evE, evL, evJ, evT, bindE, bindT, bindTp, opCmp, opI2, storeIx, E.non?, slB, Bl._law_is_number, e1]
  · have e1 := sp_is_int (p := p) (m := m) x.num
    have e2 := sp_is_int (p := p) (m := m) x.den
    have e3 := sp_is_int_t (p := p) (m := m) [.int x.num, .int x.den]
    have e4 := sp_gcd (p := p) (m := m) bx.n bx.di hk
    have e5 : (Nat.gcd x.num.natAbs ((x.den : Int)).natAbs : Int) = 1 := by
      have := x.reduced
      rw [Int.natAbs_natCast]
      exact congrArg Nat.cast this
    rw [e5] at e4
    have e6 : (2 : Int) ≤ (x.den : Int) := by have := x.den_pos; omega
    rw [enc_two hx]
    simp [evDef, startS, PX.execs, PX.exec, evX, evXB, evXL, frzS, anyOw, evE, evL, evJ, evT, bindE, bindT, bindTp, opCmp, opI2, storeIx, E.non?, slB, Bl._law_is_number, e1, e2, e3, e4, e6, at0, at1]
end
end PX

set_option Elab.async false
set_option linter.all false
set_option maxRecDepth 100000
/-! LHb: the laws' own numbers. -/
namespace PX
open PySem PySem.Spec PyProof.Rows L2
section
variable {p : Prg} {m : Nat}
theorem make_pos {a b : Int} (h : 0 < b) : enc (Rat.divInt a b) = if b.fdiv (Nat.gcd a.natAbs b.natAbs : Nat) = 1 then .int (a.fdiv (Nat.gcd a.natAbs b.natAbs : Nat)) else .tup [.int (a.fdiv (Nat.gcd a.natAbs b.natAbs : Nat)), .int (b.fdiv (Nat.gcd a.natAbs b.natAbs : Nat))] := by
  rw [ratio_pos h]
  have hg : 0 < Nat.gcd a.natAbs b.natAbs := Nat.gcd_pos_of_pos_right _ (by omega)
  have hd : (Nat.gcd a.natAbs b.natAbs : Int) ∣ b := by
    have : Nat.gcd a.natAbs b.natAbs ∣ b.natAbs := Nat.gcd_dvd_right ..
    exact Int.ofNat_dvd_left.2 this
  generalize Nat.gcd a.natAbs b.natAbs = g at *
  have e : (b.fdiv (g : Int) = 1) ↔ (g : Int) = b := by
    rw [Int.fdiv_eq_ediv_of_nonneg _ (by omega)]
    constructor
    · intro z
      have := Int.ediv_mul_cancel hd
      rw [z] at this
      omega
    · intro z
      rw [z]
      exact Int.ediv_self (by omega)
  by_cases q : (g : Int) = b
  · rw [if_pos q, if_pos (e.2 q)]
  · rw [if_neg q, if_neg (fun z => q (e.1 z))]
theorem sp_make [HasF p "_law_gcd" 3 2 Bl._law_gcd] [HasF p "_law_make" 3 2 Bl._law_make] {a b : Int} {k : Nat} (ha : a.natAbs < 2 ^ k) (hb : b.natAbs < 2 ^ k) (hk : k ≤ 990) (h0 : b ≠ 0) : p.call (m + 2) "_law_make" [.int a, .int b] = .ok (.fz (enc (Rat.divInt a b))) := by
  rw [HasF.run]
  have e1 := sp_gcd (p := p) (m := m) ha hb hk
  obtain ⟨g1, g2⟩ := gcd_lg (a := a) h0 (pw_le hb (by omega))
  by_cases h1 : b < 0
  · have e2 : enc (Rat.divInt a b) = if b.fdiv (-(Nat.gcd a.natAbs b.natAbs : Nat)) = 1 then .int (a.fdiv (-(Nat.gcd a.natAbs b.natAbs : Nat))) else .tup [.int (a.fdiv (-(Nat.gcd a.natAbs b.natAbs : Nat))), .int (b.fdiv (-(Nat.gcd a.natAbs b.natAbs : Nat)))] := by
      rw [← Rat.neg_divInt_neg, make_pos (show 0 < -b by omega)]
      have e : (-b).natAbs = b.natAbs := by omega
      have e' : (-a).natAbs = a.natAbs := by omega
      rw [e, e']
      generalize (Nat.gcd a.natAbs b.natAbs : Int) = g
      have f : ∀ x : Int, (-x).fdiv g = x.fdiv (-g) := fun x => by
        rw [← Int.neg_fdiv_neg x (-g), Int.neg_neg]
      rw [f, f]
    have g3 : lgI (-(Nat.gcd a.natAbs b.natAbs : Nat)) < divLine := by
      unfold lgI at g2 ⊢
      rw [Int.natAbs_neg]; exact g2
    have g4 : -(Nat.gcd a.natAbs b.natAbs : Int) ≠ 0 := by omega
    rw [e2]
    generalize (Nat.gcd a.natAbs b.natAbs : Int) = g at *
    have g1' : ¬ g = 0 := g1
    by_cases q : b.fdiv (-g) = 1
    · rw [if_pos q]
      simp [evDef, startS, PX.execs, PX.exec, evX, evXB, evXL, frzS, anyOw, evE, evL, evJ, evT, bindE, bindT, bindTp, opCmp, opI2, storeIx, E.non?, slB, Bl._law_make, e1, h1, q, g3, g4, g1']
    · rw [if_neg q]
      simp [evDef, startS, PX.execs, PX.exec, evX, evXB, evXL, frzS, anyOw, evE, evL, evJ, evT, bindE, bindT, bindTp, opCmp, opI2, storeIx, E.non?, slB, Bl._law_make, e1, h1, q, g3, g4, g1']
  · rw [make_pos (show 0 < b by omega)]
    generalize (Nat.gcd a.natAbs b.natAbs : Int) = g at *
    have g1' : ¬ g = 0 := g1
    by_cases q : b.fdiv g = 1
    · rw [if_pos q]
      simp [evDef, startS, PX.execs, PX.exec, evX, evXB, evXL, frzS, anyOw, evE, evL, evJ, evT, bindE, bindT, bindTp, opCmp, opI2, storeIx, E.non?, slB, Bl._law_make, e1, h1, q, g2, g1']
    · rw [if_neg q]
      simp [evDef, startS, PX.execs, PX.exec, evX, evXB, evXL, frzS, anyOw, evE, evL, evJ, evT, bindE, bindT, bindTp, opCmp, opI2, storeIx, E.non?, slB, Bl._law_make, e1, h1, q, g2, g1']
theorem eq_enc (x : Rat) : opEq false (enc x) (enc x) = .ok true := by
  by_cases h : x.den = 1
  · rw [enc_one h]; simp
  · rw [enc_two h]
    have s1 : SeqAt.shaped (.tuple [.int x.num, .int x.den]) = true := by first | rfl | decide | simp [SeqAt.shaped]
    have s2 : PyData.eqv (.tuple [.int x.num, .int x.den]) (.tuple [.int x.num, .int x.den]) = true := by first | rfl | simp [PyData.eqv, PyData.eqvAll]
    show (if SeqAt.shaped (.tuple [.int x.num, .int x.den]) = true ∧ SeqAt.shaped (.tuple [.int x.num, .int x.den]) = true then R.ok (if false = true then _ else PyData.eqv (.tuple [.int x.num, .int x.den]) (.tuple [.int x.num, .int x.den])) else .st) = _
    rw [if_pos ⟨s1, s1⟩, if_neg Bool.false_ne_true, s2]
theorem eq_bl (a b : Bool) : opEq false (.bl a) (.bl b) = .ok (decide (a = b)) := by cases a <;> cases b <;> rfl
theorem ne_bl (a b : Bool) : opEq true (.bl a) (.bl b) = .ok (!decide (a = b)) := by cases a <;> cases b <;> rfl
/-- membership of a number in a list of numbers -/
theorem py_enc (x : Rat) : (enc x).py = some (if x.den = 1 then .int x.num else .tuple [.int x.num, .int x.den]) := by
  unfold enc
  split <;> rfl
end
end PX

set_option Elab.async false
set_option linter.all false
set_option maxRecDepth 100000
/-! LYc: comprehensions and loops over lists; numbers with a common bottom. -/
namespace PX
open PySem PySem.Spec PyProof.Rows L2
/-- a def over live things, by its body -/
class HasFL (p : Prg) (f : Str) (n k : outParam Nat) (b : outParam (List LQ)) : Prop where
  eqL : ∀ m, p.lcall (m + 1) f = fun xs h => levDef (p.ltb m) n k b xs h
  eqP : ∀ m, p.call (m + 1) f = fun ds => (levDef (p.ltb m) n k b (ds.map .d) []).out
/-! ### comprehensions -/
theorem lcGo_nm {α : Type} {T : Tb} {ρ : Rho} {i : Nat} {el : E} {ea eb : α → D} : ∀ (xs : List α), (∀ x, x ∈ xs → ∃ v, evE T (ρ.set i (.fz (ea x))) el = .ok v ∧ v.d = eb x) →
    lcGo (.nm i) (fun ρ1 => evT T ρ1 []) (fun ρ1 => evE T ρ1 el) ρ (xs.map ea) = .ok (xs.map eb)
  | [], _ => by rw [List.map_nil, List.map_nil, lcGo]
  | x :: xs, h => by
    obtain ⟨v, e1, e2⟩ := h x List.mem_cons_self
    have ih := lcGo_nm (T := T) (ρ := ρ) (i := i) (el := el) (ea := ea) (eb := eb) xs (fun y hy => h y (List.mem_cons_of_mem _ hy))
    have et : evT T (ρ.set i (.fz (ea x))) [] = .ok true := by rw [evT]
    rw [List.map_cons, lcGo]
    simp only [bindT, R.bind_ok, et, e1, ih, ↓reduceIte, R.map_ok, e2]
    rfl
theorem lcGo_tp {α : Type} {T : Tb} {ρ : Rho} {i j : Nat} {el : E} {ea eb ec : α → D} : ∀ (xs : List α), (∀ x, x ∈ xs → ∃ v, evE T ((ρ.set i (.fz (ea x))).set j (.fz (eb x))) el = .ok v ∧ v.d = ec x) →
    lcGo (.tp [i, j]) (fun ρ1 => evT T ρ1 []) (fun ρ1 => evE T ρ1 el) ρ (xs.map fun x => .tup [ea x, eb x]) = .ok (xs.map ec)
  | [], _ => by rw [List.map_nil, List.map_nil, lcGo]
  | x :: xs, h => by
    obtain ⟨v, e1, e2⟩ := h x List.mem_cons_self
    have ih := lcGo_tp (T := T) (ρ := ρ) (i := i) (j := j) (el := el) (ea := ea) (eb := eb) (ec := ec) xs (fun y hy => h y (List.mem_cons_of_mem _ hy))
    have et : evT T ((ρ.set i (.fz (ea x))).set j (.fz (eb x))) [] = .ok true := by rw [evT]
    rw [List.map_cons, lcGo]
    simp only [bindT, bindTp, R.bind_ok, et, e1, ih, ↓reduceIte, R.map_ok, e2]
    rfl
theorem ev_lc_val {α : Type} {T : Tb} {ρ : Rho} {own : List Nat} {i : Nat} {a el : E} {ea eb : α → D} {xs : List α} {v : EV} (h0 : evE T ρ a = .ok v) (hv : v.d = .lst (xs.map ea)) (hl : xs.length ≤ sizeLine)
    (h : ∀ x, x ∈ xs → ∃ v, evE T ((wipeS ρ own).set i (.fz (ea x))) el = .ok v ∧ v.d = eb x) : evE T ρ (.lc own (.nm i) .val [a] [] el) = .ok (.fr (.lst (xs.map eb))) := by
  have e := lcGo_nm (T := T) (ρ := wipeS ρ own) (i := i) (el := el) (ea := ea) (eb := eb) xs h
  rw [evE]
  simp only [evL, h0, R.bind_ok, R.map_ok, hv]
  show R.bind (itVal [.lst (xs.map ea)]) _ = _
  rw [itVal_l, R.bind_ok, if_pos (by rw [List.length_map]; exact hl), e]
  rfl
theorem rngD_eq (n : Nat) : rngD n = (List.range n).map fun (k : Nat) => D.int (k : Int) := by
  unfold rngD rngI
  rw [List.map_map]
  exact List.map_congr_left fun k _ => congrArg D.int (Int.zero_add (k : Int))
theorem rngD_len (n : Nat) : (rngD n).length = n := by unfold rngD; rw [List.length_map, rngI_len]
theorem ev_lc_rng {T : Tb} {ρ : Rho} {own : List Nat} {i : Nat} {a el : E} {eb : Nat → D} {n : Nat} {v : EV} (h0 : evE T ρ a = .ok v) (hv : v.d = .int n) (hl : n ≤ 100000)
    (h : ∀ k, k < n → ∃ v, evE T ((wipeS ρ own).set i (.fz (.int (k : Int)))) el = .ok v ∧ v.d = eb k) : evE T ρ (.lc own (.nm i) .rng [a] [] el) = .ok (.fr (.lst ((List.range n).map eb))) := by
  have sb := sizeBig
  have e := lcGo_nm (T := T) (ρ := wipeS ρ own) (i := i) (el := el) (ea := fun (k : Nat) => D.int (k : Int)) (eb := eb) (List.range n) (fun k hk => h k (List.mem_range.mp hk))
  rw [← rngD_eq] at e
  have eL : evL T ρ [a] = .ok [.int (n : Int)] := by simp [evL, h0, hv]
  have it := items_nat (n := n) (by omega)
  have hlen : (rngD n).length ≤ sizeLine := by rw [rngD_len]; omega
  rw [evE, eL, R.bind_ok, it, R.bind_ok, if_pos hlen, e]
  rfl
theorem ev_lc_zip {α β : Type} {T : Tb} {ρ : Rho} {own : List Nat} {i j : Nat} {a b el : E} {ea : α → D} {eb : β → D} {ec : α × β → D} {xs : List α} {ys : List β} {v w : EV} (h0 : evE T ρ a = .ok v) (hv : v.d = .lst (xs.map ea)) (h1 : evE T ρ b = .ok w) (hw : w.d = .lst (ys.map eb)) (hl : xs.length ≤ sizeLine)
    (h : ∀ q, q ∈ xs.zip ys → ∃ v, evE T (((wipeS ρ own).set i (.fz (ea q.1))).set j (.fz (eb q.2))) el = .ok v ∧ v.d = ec q) : evE T ρ (.lc own (.tp [i, j]) .zip [a, b] [] el) = .ok (.fr (.lst ((xs.zip ys).map ec))) := by
  have e := lcGo_tp (T := T) (ρ := wipeS ρ own) (i := i) (j := j) (el := el) (ea := fun q : α × β => ea q.1) (eb := fun q => eb q.2) (ec := ec) (xs.zip ys) h
  have ez : ((xs.map ea).zip (ys.map eb)).map (fun q => D.tup [q.1, q.2]) = (xs.zip ys).map fun q => D.tup [ea q.1, eb q.2] := by
    rw [List.zip_map, List.map_map]; rfl
  rw [evE]
  simp only [evL, h0, h1, R.bind_ok, R.map_ok, hv, hw]
  show R.bind (itZip [.lst (xs.map ea), .lst (ys.map eb)]) _ = _
  show R.bind (R.ok (((xs.map ea).zip (ys.map eb)).map fun q => D.tup [q.1, q.2])) _ = _
  rw [ez, R.bind_ok, if_pos (by rw [List.length_map, List.length_zip]; omega), e]
  rfl
/-! ### loops -/
theorem forGo_nm {α β : Type} {i : Nat} {b : Rho → RS} (S : β → Sl → Rho) (hS : ∀ s l d, (S s l).set i (.fz d) = S s (.fz d)) (ea : α → D) (f : β → α → β) (P : β → Prop) : ∀ (xs : List α) (s : β) (l : Sl), P s →
    (∀ s x, P s → x ∈ xs → b (S s (.fz (ea x))) = .ok (.nx (S (f s x) (.fz (ea x)))) ∧ P (f s x)) → ∃ l', forGo (.nm i) b (xs.map ea) (S s l) = .ok (.nx (S (xs.foldl f s) l')) ∧ P (xs.foldl f s)
  | [], s, l, hs, _ => ⟨l, forGo_nil, hs⟩
  | x :: xs, s, l, hs, h => by
    obtain ⟨h1, h2⟩ := h s x hs List.mem_cons_self
    obtain ⟨l', e, q⟩ := forGo_nm S hS ea f P xs (f s x) (.fz (ea x)) h2 (fun s y p hy => h s y p (List.mem_cons_of_mem _ hy))
    refine ⟨l', ?_, q⟩
    rw [List.map_cons, forGo_cons]
    simp only [bindT, R.on_ok]
    rw [hS, h1, RS.turn_nx, e]
    rfl
theorem forGo_tp {α β : Type} {i j : Nat} {b : Rho → RS} (S : β → Sl → Sl → Rho) (hS : ∀ s l l' d d', ((S s l l').set i (.fz d)).set j (.fz d') = S s (.fz d) (.fz d')) (ea eb : α → D) (f : β → α → β) (P : β → Prop) : ∀ (xs : List α) (s : β) (l l' : Sl), P s →
    (∀ s x, P s → x ∈ xs → b (S s (.fz (ea x)) (.fz (eb x))) = .ok (.nx (S (f s x) (.fz (ea x)) (.fz (eb x)))) ∧ P (f s x)) → ∃ m m', forGo (.tp [i, j]) b (xs.map fun x => .tup [ea x, eb x]) (S s l l') = .ok (.nx (S (xs.foldl f s) m m')) ∧ P (xs.foldl f s)
  | [], s, l, l', hs, _ => ⟨l, l', forGo_nil, hs⟩
  | x :: xs, s, l, l', hs, h => by
    obtain ⟨h1, h2⟩ := h s x hs List.mem_cons_self
    obtain ⟨m, m', e, q⟩ := forGo_tp S hS ea eb f P xs (f s x) (.fz (ea x)) (.fz (eb x)) h2 (fun s y p hy => h s y p (List.mem_cons_of_mem _ hy))
    refine ⟨m, m', ?_, q⟩
    rw [List.map_cons, forGo_cons]
    simp only [bindT, bindTp, R.on_ok]
    rw [hS, h1, RS.turn_nx, e]
    rfl
theorem zip_items {α β : Type} (ea : α → D) (eb : β → D) (xs : List α) (ys : List β) : itemsOf .zip [.lst (xs.map ea), .lst (ys.map eb)] = .ok ((xs.zip ys).map fun q => D.tup [ea q.1, eb q.2]) := by
  show R.ok (((xs.map ea).zip (ys.map eb)).map fun q => D.tup [q.1, q.2]) = _
  rw [List.zip_map, List.map_map]; rfl

/-! ### numbers with a common bottom -/
/-- x times L is a whole number of size A at most -/
def Fr (L A : Nat) (x : Rat) : Prop := ∃ a : Int, x * (L : Rat) = (a : Rat) ∧ a.natAbs ≤ A
theorem Fr.add {L A B : Nat} {x y : Rat} (h : Fr L A x) (q : Fr L B y) : Fr L (A + B) (x + y) := by
  obtain ⟨a, e, ha⟩ := h
  obtain ⟨b, f, hb⟩ := q
  refine ⟨a + b, ?_, by omega⟩
  rw [Rat.add_mul, e, f, Rat.intCast_add]
theorem Fr.mul {L L' A B : Nat} {x y : Rat} (h : Fr L A x) (q : Fr L' B y) : Fr (L * L') (A * B) (x * y) := by
  obtain ⟨a, e, ha⟩ := h
  obtain ⟨b, f, hb⟩ := q
  refine ⟨a * b, ?_, by rw [Int.natAbs_mul]; exact Nat.mul_le_mul ha hb⟩
  rw [Rat.intCast_mul, ← e, ← f, Rat.natCast_mul, Rat.mul_assoc, ← Rat.mul_assoc y, Rat.mul_comm y, Rat.mul_assoc, ← Rat.mul_assoc x]
theorem Fr.neg {L A : Nat} {x : Rat} (h : Fr L A x) : Fr L A (-x) := by
  obtain ⟨a, e, ha⟩ := h
  exact ⟨-a, by rw [Rat.neg_mul, e, Rat.intCast_neg], by omega⟩
theorem Fr.le {L A B : Nat} {x : Rat} (h : Fr L A x) (q : A ≤ B) : Fr L B x := by
  obtain ⟨a, e, ha⟩ := h
  exact ⟨a, e, by omega⟩
theorem Fr.lift {L A : Nat} {x : Rat} (h : Fr L A x) (m : Nat) : Fr (L * m) (A * m) x := by
  obtain ⟨a, e, ha⟩ := h
  refine ⟨a * m, ?_, by rw [Int.natAbs_mul, Int.natAbs_natCast]; exact Nat.mul_le_mul_right _ ha⟩
  rw [Rat.intCast_mul, ← e, Rat.natCast_mul, Rat.mul_assoc]; rfl
theorem Fr.zero (L A : Nat) : Fr L A 0 := ⟨0, by simp, by simp⟩
theorem Fr.int {i : Int} {A : Nat} (h : i.natAbs ≤ A) : Fr 1 A (i : Rat) := ⟨i, by simp, h⟩
theorem Fr.eq {L A : Nat} {x : Rat} (h : Fr L A x) (hL : 0 < L) : ∃ a : Int, x = Rat.divInt a L ∧ a.natAbs ≤ A := by
  obtain ⟨a, e, ha⟩ := h
  refine ⟨a, ?_, ha⟩
  have h0 : (L : Rat) ≠ 0 := fun z => by
    have := congrArg Rat.num z
    have h2 : ((L : Rat)).num = (L : Int) := rfl
    rw [h2] at this
    simp at this
    omega
  rw [Rat.divInt_eq_div, ← e]
  show x = x * (L : Rat) / (L : Rat)
  rw [Rat.div_def, Rat.mul_assoc, Rat.mul_inv_cancel _ h0, Rat.mul_one]
theorem Fr.bd {L A k : Nat} {x : Rat} (h : Fr L A x) (hL : 0 < L) (h1 : L < 2 ^ k) (h2 : A < 2 ^ k) : Bd k x := by
  obtain ⟨a, rfl, ha⟩ := h.eq hL
  exact bd_divInt (by omega) (by simpa using h1) (by omega)
theorem Fr.den {L A : Nat} {x : Rat} (h : Fr L A x) (hL : 0 < L) : x.den ∣ L := by
  obtain ⟨a, rfl, ha⟩ := h.eq hL
  rw [Rat.den_divInt, if_neg (by omega)]
  exact Nat.div_dvd_of_dvd (by simpa using Int.gcd_dvd_natAbs_left (L : Int) a)
theorem Fr.divInt {t b : Int} {L A : Nat} (h0 : b ≠ 0) (hb : b.natAbs ∣ L) (ha : t.natAbs * L ≤ A) : Fr L A (Rat.divInt t b) := by
  obtain ⟨c, hc⟩ : b ∣ (L : Int) := by rw [Int.natAbs_dvd.symm]; exact Int.natCast_dvd_natCast.mpr hb
  refine ⟨t * c, ?_, ?_⟩
  · have : ((L : Nat) : Rat) = ((b * c : Int) : Rat) := by rw [← hc]; rfl
    rw [this, Rat.divInt_eq_div, Rat.intCast_mul, Rat.intCast_mul, Rat.div_def, Rat.mul_assoc, ← Rat.mul_assoc _ (b : Rat), Rat.inv_mul_cancel _ (fun z => h0 (by
      have := congrArg Rat.num z
      exact this)), Rat.one_mul]
  · rw [Int.natAbs_mul]
    refine Nat.le_trans (Nat.mul_le_mul_left _ ?_) ha
    have : L = b.natAbs * c.natAbs := by
      have := congrArg Int.natAbs hc
      rw [Int.natAbs_mul] at this
      simpa using this
    rw [this]
    exact Nat.le_mul_of_pos_left _ (by omega)
end PX

set_option Elab.async false
set_option linter.all false
set_option maxRecDepth 100000
/-! RYa: equality of numbers and of lists of numbers. -/
namespace PX
open PySem PySem.Spec PyProof.Rows L2
def pyE (x : Rat) : PyData := if x.den = 1 then .int x.num else .tuple [.int x.num, .int x.den]
theorem enc_py (x : Rat) : (enc x).py = some (pyE x) := py_enc x
theorem encs_py : ∀ xs : List Rat, D.pys (xs.map enc) = some (xs.map pyE)
  | [] => rfl
  | x :: xs => by
    rw [List.map_cons, D.pys, enc_py, encs_py xs]
    rfl
theorem lay_pyE (x : Rat) : (pyE x).canLay0 = true := by
  unfold pyE
  split <;> simp [PyData.canLay0, PyData.canLayAll0]
theorem lay_pyEs : ∀ xs : List Rat, PyData.canLayAll0 (xs.map pyE) = true
  | [] => by simp [PyData.canLayAll0]
  | x :: xs => by
    rw [List.map_cons]
    simp [PyData.canLayAll0, lay_pyE, lay_pyEs xs]
theorem dep_pyE (x : Rat) : (pyE x).depth ≤ 2 := by
  unfold pyE
  split <;> simp [PyData.depth, PyData.depthAll]
theorem dep_pyEs : ∀ xs : List Rat, PyData.depthAll (xs.map pyE) ≤ 2
  | [] => by simp [PyData.depthAll]
  | x :: xs => by
    rw [List.map_cons]
    have := dep_pyE x
    have := dep_pyEs xs
    simp only [PyData.depthAll]
    omega
theorem rat_eq {x y : Rat} (h1 : x.num = y.num) (h2 : x.den = y.den) : x = y := Rat.ext h1 h2
theorem eqv_pyE (x y : Rat) : PyData.eqv (pyE x) (pyE y) = decide (x = y) := by
  unfold pyE
  by_cases hx : x.den = 1
  · by_cases hy : y.den = 1
    · rw [if_pos hx, if_pos hy]
      by_cases e : x = y
      · subst e; simp [PyData.eqv]
      · have : x.num ≠ y.num := fun z => e (rat_eq z (by rw [hx, hy]))
        simp [PyData.eqv, e, this]
    · have e : x ≠ y := fun z => hy (z ▸ hx)
      rw [if_pos hx, if_neg hy]
      simp [PyData.eqv, e]
  · by_cases hy : y.den = 1
    · have e : x ≠ y := fun z => hx (z ▸ hy)
      rw [if_neg hx, if_pos hy]
      simp [PyData.eqv, e]
    · rw [if_neg hx, if_neg hy]
      by_cases e : x = y
      · subst e; simp [PyData.eqv, PyData.eqvAll]
      · have : ¬ (x.num = y.num ∧ x.den = y.den) := fun z => e (rat_eq z.1 z.2)
        simp only [PyData.eqv, PyData.eqvAll, e, decide_false]
        by_cases h1 : x.num = y.num
        · have h2 : x.den ≠ y.den := fun z => this ⟨h1, z⟩
          have h3 : ¬ ((x.den : Int) = (y.den : Int)) := fun z => h2 (by omega)
          simp [h1, h3]
        · simp [h1]
theorem eqv_pyEs : ∀ xs ys : List Rat, PyData.eqvAll (xs.map pyE) (ys.map pyE) = decide (xs = ys)
  | [], [] => by simp [PyData.eqvAll]
  | [], y :: ys => by simp [PyData.eqvAll]
  | x :: xs, [] => by simp [PyData.eqvAll]
  | x :: xs, y :: ys => by
    rw [List.map_cons, List.map_cons, PyData.eqvAll, eqv_pyE, eqv_pyEs xs ys]
    by_cases h1 : x = y <;> by_cases h2 : xs = ys <;> simp [h1, h2]
theorem shaped_pyE (x : Rat) : SeqAt.shaped (pyE x) = true := by
  unfold SeqAt.shaped
  rw [lay_pyE, Bool.true_and]
  exact decide_eq_true (by have := dep_pyE x; omega)
theorem shaped_pyEs (xs : List Rat) : SeqAt.shaped (.list (xs.map pyE)) = true := by
  unfold SeqAt.shaped
  rw [show (PyData.list (xs.map pyE)).canLay0 = PyData.canLayAll0 (xs.map pyE) by simp [PyData.canLay0], lay_pyEs, Bool.true_and]
  exact decide_eq_true (by have := dep_pyEs xs; simp only [PyData.depth]; omega)
theorem opEq_enc (neg : Bool) (x y : Rat) : opEq neg (enc x) (enc y) = .ok (if neg then !decide (x = y) else decide (x = y)) := by
  by_cases hh : x.den = 1 ∧ y.den = 1
  · obtain ⟨hx, hy⟩ := hh
    rw [enc_one hx, enc_one hy]
    have : decide (x.num = y.num) = decide (x = y) := by
      by_cases e : x = y
      · subst e; simp
      · have : x.num ≠ y.num := fun z => e (rat_eq z (by rw [hx, hy]))
        simp [e, this]
    show R.ok (if neg then !decide (x.num = y.num) else decide (x.num = y.num)) = _
    rw [this]
  · have e : opEq neg (enc x) (enc y) = match (enc x).py, (enc y).py with
      | some p, some q => if SeqAt.shaped p = true ∧ SeqAt.shaped q = true then .ok (if neg then !PyData.eqv p q else PyData.eqv p q) else .st
      | _, _ => .st := by
      by_cases hx : x.den = 1
      · have hy : y.den ≠ 1 := fun z => hh ⟨hx, z⟩
        rw [enc_one hx, enc_two hy]; rfl
      · by_cases hy : y.den = 1
        · rw [enc_two hx, enc_one hy]; rfl
        · rw [enc_two hx, enc_two hy]; rfl
    rw [e, enc_py, enc_py]
    show (if SeqAt.shaped (pyE x) = true ∧ SeqAt.shaped (pyE y) = true then R.ok (if neg then !PyData.eqv (pyE x) (pyE y) else PyData.eqv (pyE x) (pyE y)) else .st) = _
    rw [if_pos ⟨shaped_pyE x, shaped_pyE y⟩, eqv_pyE]
theorem opEq_encs (neg : Bool) (xs ys : List Rat) : opEq neg (.lst (xs.map enc)) (.lst (ys.map enc)) = .ok (if neg then !decide (xs = ys) else decide (xs = ys)) := by
  show (match D.py (.lst (xs.map enc)), D.py (.lst (ys.map enc)) with
      | some p, some q => if SeqAt.shaped p = true ∧ SeqAt.shaped q = true then R.ok (if neg then !PyData.eqv p q else PyData.eqv p q) else .st
      | _, _ => .st) = _
  have e : ∀ zs : List Rat, D.py (.lst (zs.map enc)) = some (.list (zs.map pyE)) := fun zs => by rw [D.py, encs_py]; rfl
  rw [e, e]
  show (if SeqAt.shaped (.list (xs.map pyE)) = true ∧ SeqAt.shaped (.list (ys.map pyE)) = true then R.ok (if neg then !PyData.eqv (.list (xs.map pyE)) (.list (ys.map pyE)) else PyData.eqv (.list (xs.map pyE)) (.list (ys.map pyE))) else .st) = _
  rw [if_pos ⟨shaped_pyEs xs, shaped_pyEs ys⟩]
  have : PyData.eqv (.list (xs.map pyE)) (.list (ys.map pyE)) = decide (xs = ys) := by
    rw [← eqv_pyEs]
    simp [PyData.eqv]
  rw [this]
/-- two lists of two lists -/
theorem opEq_encss (neg : Bool) (xs ys zs ws : List Rat) : opEq neg (.lst [.lst (xs.map enc), .lst (ys.map enc)]) (.lst [.lst (zs.map enc), .lst (ws.map enc)]) = .ok (if neg then !(decide (xs = zs) && decide (ys = ws)) else (decide (xs = zs) && decide (ys = ws))) := by
  have e : ∀ zs ws : List Rat, D.py (.lst [.lst (zs.map enc), .lst (ws.map enc)]) = some (.list [.list (zs.map pyE), .list (ws.map pyE)]) := fun zs ws => by
    simp [D.py, D.pys, encs_py]
  have s : ∀ zs ws : List Rat, SeqAt.shaped (.list [.list (zs.map pyE), .list (ws.map pyE)]) = true := fun zs ws => by
    unfold SeqAt.shaped
    have h1 := dep_pyEs zs
    have h2 := dep_pyEs ws
    rw [Bool.and_eq_true]
    refine ⟨by simp [PyData.canLay0, PyData.canLayAll0, lay_pyEs], decide_eq_true ?_⟩
    simp only [PyData.depth, PyData.depthAll]
    omega
  have v : ∀ xs ys zs ws : List Rat, PyData.eqv (.list [.list (xs.map pyE), .list (ys.map pyE)]) (.list [.list (zs.map pyE), .list (ws.map pyE)]) = (decide (xs = zs) && decide (ys = ws)) := fun xs ys zs ws => by
    have h1 := eqv_pyEs xs zs
    have h2 := eqv_pyEs ys ws
    simp [PyData.eqv, PyData.eqvAll, h1, h2]
  show (match D.py (.lst [.lst (xs.map enc), .lst (ys.map enc)]), D.py (.lst [.lst (zs.map enc), .lst (ws.map enc)]) with
      | some p, some q => if SeqAt.shaped p = true ∧ SeqAt.shaped q = true then R.ok (if neg then !PyData.eqv p q else PyData.eqv p q) else .st
      | _, _ => .st) = _
  rw [e, e]
  show (if SeqAt.shaped (.list [.list (xs.map pyE), .list (ys.map pyE)]) = true ∧ SeqAt.shaped (.list [.list (zs.map pyE), .list (ws.map pyE)]) = true then R.ok (if neg then !PyData.eqv (.list [.list (xs.map pyE), .list (ys.map pyE)]) (.list [.list (zs.map pyE), .list (ws.map pyE)]) else PyData.eqv (.list [.list (xs.map pyE), .list (ys.map pyE)]) (.list [.list (zs.map pyE), .list (ws.map pyE)])) else .st) = _
  rw [if_pos ⟨s xs ys, s zs ws⟩, v]
theorem enc0 : enc 0 = .int 0 := rfl
theorem ne0 (x : Rat) : opEq true (enc x) (.int 0) = .ok (!decide (x = 0)) := by
  rw [← enc0, opEq_enc]; rfl
theorem eq0 (x : Rat) : opEq false (enc x) (.int 0) = .ok (decide (x = 0)) := by
  rw [← enc0, opEq_enc]; rfl
theorem encs_int (ns : List Int) : (ns.map fun n : Int => ((n : Int) : Rat)).map enc = ns.map D.int := by
  rw [List.map_map]
  exact List.map_congr_left fun n _ => enc_int n
theorem lf_enc (x : Rat) : (enc x).lf = true := by
  unfold enc
  split <;> simp [D.lf, D.lfs]
theorem lfs_encs : ∀ xs : List Rat, D.lfs (xs.map enc) = true
  | [] => rfl
  | x :: xs => by rw [List.map_cons, D.lfs, lf_enc, lfs_encs xs]; rfl
theorem lfs_ints : ∀ xs : List Int, D.lfs (xs.map D.int) = true
  | [] => rfl
  | x :: xs => by rw [List.map_cons, D.lfs, lfs_ints xs]; rfl
@[simp] theorem lf_fz_enc (x : Rat) : (EV.fz (enc x)).lf = true := lf_enc x
@[simp] theorem lf_fz_bl (b : Bool) : (EV.fz (.bl b)).lf = true := rfl
@[simp] theorem lf_fz_int (b : Int) : (EV.fz (.int b)).lf = true := rfl
@[simp] theorem lf_fz_non : (EV.fz .non).lf = true := rfl
end PX

set_option Elab.async false
set_option linter.all false
set_option maxRecDepth 100000
/-! RYb: lists of numbers: support, dot, negative, scaled, added, before, agrees. -/
namespace PX
open PySem PySem.Spec PyProof.Rows L2
section
variable {p : Prg} {m : Nat}
/-- the places of what is not 0 -/
def supA : Nat → List Rat → List Nat
  | _, [] => []
  | k, x :: xs => if x = 0 then supA (k + 1) xs else k :: supA (k + 1) xs
theorem supA_cons {k : Nat} {x : Rat} {xs : List Rat} : supA k (x :: xs) = if x = 0 then supA (k + 1) xs else k :: supA (k + 1) xs := by rw [supA]
abbrev supG (xs : List Rat) : List Nat := supA 0 xs
abbrev natD (k : Nat) : D := .int (k : Int)
theorem sup_go {T : Tb} {ρ : Rho} (h1 : ∀ d e : D, ((ρ.set 1 (.fz d)).set 2 (.fz e))[1]? = some (.fz d)) (h2 : ∀ d e : D, ((ρ.set 1 (.fz d)).set 2 (.fz e))[2]? = some (.fz e)) : ∀ (xs : List Rat) (k : Nat),
    lcGo (.tp [1, 2]) (fun ρ1 => evT T ρ1 Br.support_t1) (fun ρ1 => evE T ρ1 Br.support_e1) ρ (((xs.map enc).zipIdx k).map fun q => D.tup [.int (q.2 : Nat), q.1]) = .ok ((supA k xs).map natD)
  | [], k => by simp [List.zipIdx, lcGo, supA]
  | x :: xs, k => by
    have ih := sup_go (T := T) h1 h2 xs (k + 1)
    rw [List.map_cons, List.zipIdx_cons, List.map_cons, lcGo]
    have et : evT T ((ρ.set 1 (.fz (.int (k : Int)))).set 2 (.fz (enc x))) Br.support_t1 = .ok (!decide (x = 0)) := by
      have n0 := ne0 x
      unfold Br.support_t1
      simp only [evT, evE, h2, opCmp, R.bind_ok, EV.d_fz, n0, R.map_ok, asBool_bl]
      cases decide (x = 0) <;> rfl
    have ee : evE T ((ρ.set 1 (.fz (.int (k : Int)))).set 2 (.fz (enc x))) Br.support_e1 = .ok (.fz (.int (k : Int))) := by
      unfold Br.support_e1
      simp only [evE, h1]
    simp only [bindT, bindTp, R.bind_ok, et, ee, ih]
    rw [supA_cons]
    by_cases hx : x = 0
    · rw [if_pos hx]; simp [hx]
    · rw [if_neg hx]; simp [hx]
theorem sp_support [HasF p "support" 3 1 Br.support] {xs : List Rat} (hl : xs.length ≤ sizeLine) : p.call (m + 1) "support" [.lst (xs.map enc)] = .ok (.fr (.lst ((supG xs).map natD))) := by
  rw [HasF.run, evDef_out (show [D.lst (xs.map enc)].length = 1 from rfl)]
  have e := sup_go (T := p.tb m) (ρ := [.fz (.lst (xs.map enc)), .un, .un]) (fun _ _ => rfl) (fun _ _ => rfl) xs 0
  have e2 : evE (p.tb m) [.fz (.lst (xs.map enc)), .un, .un] (.lc [1, 2] (.tp [1, 2]) .enm [.var 0] Br.support_t1 Br.support_e1) = .ok (.fr (.lst ((supG xs).map natD))) := by
    rw [evE]
    simp only [evL, evE, List.getElem?_cons_zero, R.bind_ok, R.map_ok, EV.d_fz]
    show R.bind (R.ok ((xs.map enc).zipIdx.map fun q => D.tup [.int (q.2 : Nat), q.1])) _ = _
    rw [R.bind_ok, if_pos (by rw [List.length_map, List.length_zipIdx, List.length_map]; exact hl)]
    have w : wipeS [Sl.fz (.lst (xs.map enc)), .un, .un] [1, 2] = [Sl.fz (.lst (xs.map enc)), .un, .un] := rfl
    rw [w, e]
    rfl
  generalize xs.map enc = X at *
  show (PX.execs (p.tb m) [.ret (.lc [1, 2] (.tp [1, 2]) .enm [.var 0] Br.support_t1 Br.support_e1) [0]] [.fz (.lst X), .un, .un]).out = _
  simp [PX.execs, PX.exec, evX, anyOw, e2]
/-! ### sums of products -/
def dotG (xs ys : List Rat) : Rat := (xs.zip ys).foldl (fun t q => t + q.1 * q.2) 0
theorem sp_negative [HasF p "ratio" 3 2 Bx.ratio] [HasF p "is_whole" 1 1 Bx.is_whole] [HasF p "top_of" 1 1 Bx.top_of] [HasF p "bottom_of" 1 1 Bx.bottom_of] [HasF p "minus" 2 2 Bx.minus] [HasF p "negative" 2 1 Br.negative] {xs : List Rat} {k : Nat} (hk : k ≤ 4000)
    (hx : ∀ x, x ∈ xs → Bd k x) (hl : xs.length ≤ sizeLine) : p.call (m + 3) "negative" [.lst (xs.map enc)] = .ok (.fr (.lst ((xs.map fun x => -x).map enc))) := by
  rw [HasF.run, evDef_out (show [D.lst (xs.map enc)].length = 1 from rfl)]
  have e2 : evE (p.tb (m + 2)) [.fz (.lst (xs.map enc)), .un] (.lc [1] (.nm 1) .val [.var 0] [] Br.negative_e1) = .ok (.fr (.lst (xs.map fun x => enc (-x)))) := by
    refine ev_lc_val (ea := enc) (v := .fz (.lst (xs.map enc))) rfl rfl hl fun x hm => ⟨.fz (enc (-x)), ?_, rfl⟩
    have b0 : Bd k 0 := ⟨by simpa using Nat.pow_pos (by decide), Nat.one_lt_pow (by have := (hx x hm).pos; omega) (by decide)⟩
    have e := sp_minus (p := p) (m := m) b0 (hx x hm) hk
    rw [enc0, show (0 : Rat) - x = -x by rw [Rat.sub_eq_add_neg, Rat.zero_add]] at e
    show evE _ [.fz (.lst (xs.map enc)), .fz (enc x)] Br.negative_e1 = _
    generalize xs.map enc = X
    simp [evDef, startS, PX.execs, PX.exec, evX, evXB, evXL, frzS, anyOw, evE, evL, evJ, evT, bindE, bindT, bindTp, opCmp, opI2, storeIx, E.non?, slB, Br.negative_e1, e]
  have e3 : (xs.map fun x => enc (-x)) = (xs.map fun x => -x).map enc := by rw [List.map_map]; rfl
  rw [e3] at e2
  generalize xs.map enc = X at *
  show (PX.execs (p.tb (m + 2)) [.ret (.lc [1] (.nm 1) .val [.var 0] [] Br.negative_e1) [0]] [.fz (.lst X), .un]).out = _
  simp [PX.execs, PX.exec, evX, anyOw, e2]
theorem sp_scaled [HasF p "ratio" 3 2 Bx.ratio] [HasF p "is_whole" 1 1 Bx.is_whole] [HasF p "top_of" 1 1 Bx.top_of] [HasF p "bottom_of" 1 1 Bx.bottom_of] [HasF p "times" 2 2 Bx.times] [HasF p "scaled" 3 2 Br.scaled] {xs : List Rat} {c : Rat} {k : Nat} (hk : k ≤ 4000)
    (hx : ∀ x, x ∈ xs → Bd k x) (hc : Bd k c) (hl : xs.length ≤ sizeLine) : p.call (m + 3) "scaled" [.lst (xs.map enc), enc c] = .ok (.fr (.lst ((xs.map fun x => x * c).map enc))) := by
  rw [HasF.run, evDef_out (show [D.lst (xs.map enc), enc c].length = 2 from rfl)]
  have e2 : evE (p.tb (m + 2)) [.fz (.lst (xs.map enc)), .fz (enc c), .un] (.lc [2] (.nm 2) .val [.var 0] [] Br.scaled_e1) = .ok (.fr (.lst (xs.map fun x => enc (x * c)))) := by
    refine ev_lc_val (ea := enc) (v := .fz (.lst (xs.map enc))) rfl rfl hl fun x hm => ⟨.fz (enc (x * c)), ?_, rfl⟩
    have e := sp_times (p := p) (m := m) (hx x hm) hc hk
    show evE _ [.fz (.lst (xs.map enc)), .fz (enc c), .fz (enc x)] Br.scaled_e1 = _
    generalize xs.map enc = X
    simp [evDef, startS, PX.execs, PX.exec, evX, evXB, evXL, frzS, anyOw, evE, evL, evJ, evT, bindE, bindT, bindTp, opCmp, opI2, storeIx, E.non?, slB, Br.scaled_e1, e]
  have e3 : (xs.map fun x => enc (x * c)) = (xs.map fun x => x * c).map enc := by rw [List.map_map]; rfl
  rw [e3] at e2
  generalize xs.map enc = X at *
  show (PX.execs (p.tb (m + 2)) [.ret (.lc [2] (.nm 2) .val [.var 0] [] Br.scaled_e1) [0, 1]] [.fz (.lst X), .fz (enc c), .un]).out = _
  simp [PX.execs, PX.exec, evX, anyOw, e2]
theorem sp_added [HasF p "ratio" 3 2 Bx.ratio] [HasF p "is_whole" 1 1 Bx.is_whole] [HasF p "top_of" 1 1 Bx.top_of] [HasF p "bottom_of" 1 1 Bx.bottom_of] [HasF p "plus" 2 2 Bx.plus] [HasF p "added" 4 2 Br.added] {xs ys : List Rat} {k : Nat} (hk : k ≤ 4000)
    (hx : ∀ x, x ∈ xs → Bd k x) (hy : ∀ x, x ∈ ys → Bd k x) (hl : xs.length ≤ sizeLine) : p.call (m + 3) "added" [.lst (xs.map enc), .lst (ys.map enc)] = .ok (.fr (.lst (((xs.zip ys).map fun q => q.1 + q.2).map enc))) := by
  rw [HasF.run, evDef_out (show [D.lst (xs.map enc), .lst (ys.map enc)].length = 2 from rfl)]
  have e2 : evE (p.tb (m + 2)) [.fz (.lst (xs.map enc)), .fz (.lst (ys.map enc)), .un, .un] (.lc [2, 3] (.tp [2, 3]) .zip [.var 0, .var 1] [] Br.added_e1) = .ok (.fr (.lst ((xs.zip ys).map fun q => enc (q.1 + q.2)))) := by
    refine ev_lc_zip (ea := enc) (eb := enc) (v := .fz (.lst (xs.map enc))) (w := .fz (.lst (ys.map enc))) rfl rfl rfl rfl hl fun q hm => ⟨.fz (enc (q.1 + q.2)), ?_, rfl⟩
    have hm2 := List.of_mem_zip hm
    have e := sp_plus (p := p) (m := m) (hx q.1 hm2.1) (hy q.2 hm2.2) hk
    show evE _ [.fz (.lst (xs.map enc)), .fz (.lst (ys.map enc)), .fz (enc q.1), .fz (enc q.2)] Br.added_e1 = _
    generalize xs.map enc = X
    generalize ys.map enc = Y
    simp [evDef, startS, PX.execs, PX.exec, evX, evXB, evXL, frzS, anyOw, evE, evL, evJ, evT, bindE, bindT, bindTp, opCmp, opI2, storeIx, E.non?, slB, Br.added_e1, e]
  have e3 : ((xs.zip ys).map fun q => enc (q.1 + q.2)) = ((xs.zip ys).map fun q => q.1 + q.2).map enc := by rw [List.map_map]; rfl
  rw [e3] at e2
  generalize xs.map enc = X at *
  generalize ys.map enc = Y at *
  show (PX.execs (p.tb (m + 2)) [.ret (.lc [2, 3] (.tp [2, 3]) .zip [.var 0, .var 1] [] Br.added_e1) [0, 1]] [.fz (.lst X), .fz (.lst Y), .un, .un]).out = _
  simp [PX.execs, PX.exec, evX, anyOw, e2]
/-- before: the order of lists -/
def beforeG : List Rat → List Rat → Bool
  | [], ys => decide (0 < ys.length)
  | _ :: _, [] => false
  | x :: xs, y :: ys => if x = y then beforeG xs ys else decide (x < y)
theorem before_loop [HasF p "top_of" 1 1 Bx.top_of] [HasF p "bottom_of" 1 1 Bx.bottom_of] [HasF p "less" 2 2 Bx.less] {k : Nat} (hk : k ≤ 4000) (a0 a1 : Sl) : ∀ (xs ys : List Rat) (s2 s3 : Sl), (∀ x, x ∈ xs → Bd k x) → (∀ x, x ∈ ys → Bd k x) →
    (∃ s2' s3', forGo (.tp [2, 3]) (fun ρ => PX.execs (p.tb (m + 2)) Br.before_b1 ρ) ((xs.zip ys).map fun q => D.tup [enc q.1, enc q.2]) [a0, a1, s2, s3] = .ok (.nx [a0, a1, s2', s3']) ∧ beforeG xs ys = decide (xs.length < ys.length)) ∨
    forGo (.tp [2, 3]) (fun ρ => PX.execs (p.tb (m + 2)) Br.before_b1 ρ) ((xs.zip ys).map fun q => D.tup [enc q.1, enc q.2]) [a0, a1, s2, s3] = .ok (.rt (.fz (.bl (beforeG xs ys))))
  | [], ys, s2, s3, _, _ => .inl ⟨s2, s3, by rw [List.zip_nil_left, List.map_nil, forGo_nil], by unfold beforeG; simp⟩
  | x :: xs, [], s2, s3, _, _ => .inl ⟨s2, s3, by rw [List.zip_nil_right, List.map_nil, forGo_nil], by unfold beforeG; simp⟩
  | x :: xs, y :: ys, s2, s3, hx, hy => by
    have e := sp_less (p := p) (m := m) (hx x List.mem_cons_self) (hy y List.mem_cons_self) hk
    have n := opEq_enc true x y
    rw [List.zip_cons_cons, List.map_cons, forGo_cons]
    simp only [bindT, bindTp, R.on_ok, List.set]
    by_cases q : x = y
    · have z : PX.execs (p.tb (m + 2)) Br.before_b1 [a0, a1, .fz (enc x), .fz (enc y)] = .ok (.nx [a0, a1, .fz (enc x), .fz (enc y)]) := by
        have n' : opEq true (enc x) (enc y) = .ok false := by rw [n]; simp [q]
        simp [evDef, startS, PX.execs, PX.exec, evX, evXB, evXL, frzS, anyOw, evE, evL, evJ, evT, bindE, bindT, bindTp, opCmp, opI2, storeIx, E.non?, slB, Br.before_b1, n']
      rw [z, RS.turn_nx]
      have eb : beforeG (x :: xs) (y :: ys) = beforeG xs ys := by rw [beforeG, if_pos q]
      rw [eb]
      rcases before_loop hk a0 a1 xs ys (.fz (enc x)) (.fz (enc y)) (fun z h => hx z (List.mem_cons_of_mem _ h)) (fun z h => hy z (List.mem_cons_of_mem _ h)) with ⟨s2', s3', e1, e2⟩ | e1
      · exact .inl ⟨s2', s3', e1, by rw [e2]; simp⟩
      · exact .inr e1
    · have z : PX.execs (p.tb (m + 2)) Br.before_b1 [a0, a1, .fz (enc x), .fz (enc y)] = .ok (.rt (.fz (.bl (decide (x < y))))) := by
        have n' : opEq true (enc x) (enc y) = .ok true := by rw [n]; simp [q]
        simp [evDef, startS, PX.execs, PX.exec, evX, evXB, evXL, frzS, anyOw, evE, evL, evJ, evT, bindE, bindT, bindTp, opCmp, opI2, storeIx, E.non?, slB, Br.before_b1, n', e]
      rw [z]
      exact .inr (by rw [beforeG, if_neg q]; rfl)
theorem sp_before [HasF p "top_of" 1 1 Bx.top_of] [HasF p "bottom_of" 1 1 Bx.bottom_of] [HasF p "less" 2 2 Bx.less] [HasF p "before" 4 2 Br.before] {xs ys : List Rat} {k : Nat} (hk : k ≤ 4000) (hx : ∀ x, x ∈ xs → Bd k x) (hy : ∀ x, x ∈ ys → Bd k x) :
    p.call (m + 3) "before" [.lst (xs.map enc), .lst (ys.map enc)] = .ok (.fz (.bl (beforeG xs ys))) := by
  rw [HasF.run, evDef_out (show [D.lst (xs.map enc), .lst (ys.map enc)].length = 2 from rfl)]
  have zi := zip_items enc enc xs ys
  have e0 : PX.exec (p.tb (m + 2)) (.for (.tp [2, 3]) .zip [.var 0, .var 1] Br.before_b1 [0, 1]) [.fz (.lst (xs.map enc)), .fz (.lst (ys.map enc)), .un, .un] = _ :=
    ex_for_of (ds := [.lst (xs.map enc), .lst (ys.map enc)]) (by simp [anyOw]) (by simp [evDef, startS, PX.execs, PX.exec, evX, evXB, evXL, frzS, anyOw, evE, evL, evJ, evT, bindE, bindT, bindTp, opCmp, opI2, storeIx, E.non?, slB]) zi
  show (PX.execs (p.tb (m + 2)) (.for (.tp [2, 3]) .zip [.var 0, .var 1] Br.before_b1 [0, 1] :: [.ret (.cmp .Lt (.bi .len [.var 0]) (.bi .len [.var 1])) [0, 1]]) [.fz (.lst (xs.map enc)), .fz (.lst (ys.map enc)), .un, .un]).out = _
  rw [PX.execs_cons, e0]
  rcases before_loop (p := p) (m := m) hk (.fz (.lst (xs.map enc))) (.fz (.lst (ys.map enc))) xs ys .un .un hx hy with ⟨s2, s3, e1, e2⟩ | e1
  · rw [e1, RS.then_nx, e2]
    have l1 : ((xs.map enc).length : Int) = xs.length := by rw [List.length_map]
    have l2 : ((ys.map enc).length : Int) = ys.length := by rw [List.length_map]
    generalize xs.map enc = X at *
    generalize ys.map enc = Y at *
    simp [evDef, startS, PX.execs, PX.exec, evX, evXB, evXL, frzS, anyOw, evE, evL, evJ, evT, bindE, bindT, bindTp, opCmp, opI2, storeIx, E.non?, slB, l1, l2]
  · rw [e1]; rfl
/-- agrees -/
def agreesG : List Rat → List Rat → Bool
  | x :: xs, y :: ys => if x ≠ 0 ∧ x.num * y.num ≤ 0 then false else agreesG xs ys
  | _, _ => true
theorem agrees_loop [HasF p "top_of" 1 1 Bx.top_of] {k : Nat} (hk : k ≤ 4000) (a0 a1 : Sl) : ∀ (xs ys : List Rat) (s2 s3 : Sl), (∀ x, x ∈ xs → Bd k x) → (∀ x, x ∈ ys → Bd k x) →
    (∃ s2' s3', forGo (.tp [2, 3]) (fun ρ => PX.execs (p.tb (m + 1)) Br.agrees_b1 ρ) ((xs.zip ys).map fun q => D.tup [enc q.1, enc q.2]) [a0, a1, s2, s3] = .ok (.nx [a0, a1, s2', s3']) ∧ agreesG xs ys = true) ∨
    (forGo (.tp [2, 3]) (fun ρ => PX.execs (p.tb (m + 1)) Br.agrees_b1 ρ) ((xs.zip ys).map fun q => D.tup [enc q.1, enc q.2]) [a0, a1, s2, s3] = .ok (.rt (.fz (.bl false))) ∧ agreesG xs ys = false)
  | [], ys, s2, s3, _, _ => .inl ⟨s2, s3, by rw [List.zip_nil_left, List.map_nil, forGo_nil], by unfold agreesG; rfl⟩
  | x :: xs, [], s2, s3, _, _ => .inl ⟨s2, s3, by rw [List.zip_nil_right, List.map_nil, forGo_nil], by unfold agreesG; rfl⟩
  | x :: xs, y :: ys, s2, s3, hx, hy => by
    have t1 := sp_top_of (p := p) (m := m) x
    have t2 := sp_top_of (p := p) (m := m) y
    have n := ne0 x
    have bx := hx x List.mem_cons_self
    have b2 := hy y List.mem_cons_self
    have l : lgI x.num + lgI y.num < mulLine := lg_mul bx.n b2.n (by omega) bx.pos bx.pos
    rw [List.zip_cons_cons, List.map_cons, forGo_cons]
    simp only [bindT, bindTp, R.on_ok, List.set]
    by_cases q : x ≠ 0 ∧ x.num * y.num ≤ 0
    · have z : PX.execs (p.tb (m + 1)) Br.agrees_b1 [a0, a1, .fz (enc x), .fz (enc y)] = .ok (.rt (.fz (.bl false))) := by
        simp [evDef, startS, PX.execs, PX.exec, evX, evXB, evXL, frzS, anyOw, evE, evL, evJ, evT, bindE, bindT, bindTp, opCmp, opI2, storeIx, E.non?, slB, Br.agrees_b1, n, q.1, q.2, t1, t2, l]
      rw [z]
      exact .inr ⟨rfl, by rw [agreesG, if_pos q]⟩
    · have z : PX.execs (p.tb (m + 1)) Br.agrees_b1 [a0, a1, .fz (enc x), .fz (enc y)] = .ok (.nx [a0, a1, .fz (enc x), .fz (enc y)]) := by
        by_cases h0 : x = 0
        · have n' : opEq true (enc x) (.int 0) = .ok false := by rw [n]; simp [h0]
          simp [evDef, startS, PX.execs, PX.exec, evX, evXB, evXL, frzS, anyOw, evE, evL, evJ, evT, bindE, bindT, bindTp, opCmp, opI2, storeIx, E.non?, slB, Br.agrees_b1, n']
        · have h1 : ¬ x.num * y.num ≤ 0 := fun z => q ⟨h0, z⟩
          simp [evDef, startS, PX.execs, PX.exec, evX, evXB, evXL, frzS, anyOw, evE, evL, evJ, evT, bindE, bindT, bindTp, opCmp, opI2, storeIx, E.non?, slB, Br.agrees_b1, n, h0, h1, t1, t2, l]
      rw [z, RS.turn_nx]
      have eb : agreesG (x :: xs) (y :: ys) = agreesG xs ys := by rw [agreesG, if_neg q]
      rw [eb]
      exact agrees_loop hk a0 a1 xs ys (.fz (enc x)) (.fz (enc y)) (fun z h => hx z (List.mem_cons_of_mem _ h)) (fun z h => hy z (List.mem_cons_of_mem _ h))
theorem sp_agrees [HasF p "top_of" 1 1 Bx.top_of] [HasF p "agrees" 4 2 Br.agrees] {xs ys : List Rat} {k : Nat} (hk : k ≤ 4000) (hx : ∀ x, x ∈ xs → Bd k x) (hy : ∀ x, x ∈ ys → Bd k x) :
    p.call (m + 2) "agrees" [.lst (xs.map enc), .lst (ys.map enc)] = .ok (.fz (.bl (agreesG xs ys))) := by
  rw [HasF.run, evDef_out (show [D.lst (xs.map enc), .lst (ys.map enc)].length = 2 from rfl)]
  have zi := zip_items enc enc xs ys
  have e0 : PX.exec (p.tb (m + 1)) (.for (.tp [2, 3]) .zip [.var 0, .var 1] Br.agrees_b1 [0, 1]) [.fz (.lst (xs.map enc)), .fz (.lst (ys.map enc)), .un, .un] = _ :=
    ex_for_of (ds := [.lst (xs.map enc), .lst (ys.map enc)]) (by simp [anyOw]) (by simp [evDef, startS, PX.execs, PX.exec, evX, evXB, evXL, frzS, anyOw, evE, evL, evJ, evT, bindE, bindT, bindTp, opCmp, opI2, storeIx, E.non?, slB]) zi
  show (PX.execs (p.tb (m + 1)) (.for (.tp [2, 3]) .zip [.var 0, .var 1] Br.agrees_b1 [0, 1] :: [.ret (.bl true) []]) [.fz (.lst (xs.map enc)), .fz (.lst (ys.map enc)), .un, .un]).out = _
  rw [PX.execs_cons, e0]
  rcases agrees_loop (p := p) (m := m) hk (.fz (.lst (xs.map enc))) (.fz (.lst (ys.map enc))) xs ys .un .un hx hy with ⟨s2, s3, e1, e2⟩ | ⟨e1, e2⟩
  · rw [e1, RS.then_nx, e2]
    simp [evDef, startS, PX.execs, PX.exec, evX, evXB, evXL, frzS, anyOw, evE, evL, evJ, evT, bindE, bindT, bindTp, opCmp, opI2, storeIx, E.non?, slB]
  · rw [e1, e2]; rfl
end
end PX

set_option Elab.async false
set_option linter.all false
set_option maxRecDepth 100000
/-! RYc: dot; primitive rows. -/
namespace PX
open PySem PySem.Spec PyProof.Rows L2
section
variable {p : Prg} {m : Nat}
theorem dotG_cons {t x y : Rat} {xs ys : List Rat} : ((x :: xs).zip (y :: ys)).foldl (fun t (q : Rat × Rat) => t + q.1 * q.2) t = (xs.zip ys).foldl (fun t q => t + q.1 * q.2) (t + x * y) := rfl
theorem dot_loop [HasF p "ratio" 3 2 Bx.ratio] [HasF p "is_whole" 1 1 Bx.is_whole] [HasF p "top_of" 1 1 Bx.top_of] [HasF p "bottom_of" 1 1 Bx.bottom_of] [HasF p "plus" 2 2 Bx.plus] [HasF p "times" 2 2 Bx.times] {L1 A1 L2 A2 k : Nat} (hk : k ≤ 4000) (h1 : 0 < L1) (h2 : 0 < L2) (hL : L1 * L2 < 2 ^ k)
    (k1 : L1 < 2 ^ k) (k2 : L2 < 2 ^ k) (k3 : A1 < 2 ^ k) (k4 : A2 < 2 ^ k) (a0 a1 : Sl) : ∀ (xs ys : List Rat) (j : Nat) (t : Rat) (s3 s4 : Sl), (∀ x, x ∈ xs → Fr L1 A1 x) → (∀ x, x ∈ ys → Fr L2 A2 x) → Fr (L1 * L2) (j * (A1 * A2)) t → (j + xs.length) * (A1 * A2) < 2 ^ k → A1 * A2 < 2 ^ k →
    ∃ s3' s4', forGo (.tp [3, 4]) (fun ρ => PX.execs (p.tb (m + 2)) Br.dot_b1 ρ) ((xs.zip ys).map fun q => D.tup [enc q.1, enc q.2]) [a0, a1, .fz (enc t), s3, s4] = .ok (.nx [a0, a1, .fz (enc ((xs.zip ys).foldl (fun t q => t + q.1 * q.2) t)), s3', s4'])
  | [], ys, j, t, s3, s4, _, _, _, _, _ => ⟨s3, s4, by rw [List.zip_nil_left, List.map_nil, forGo_nil]; rfl⟩
  | x :: xs, [], j, t, s3, s4, _, _, _, _, _ => ⟨s3, s4, by rw [List.zip_nil_right, List.map_nil, forGo_nil]; rfl⟩
  | x :: xs, y :: ys, j, t, s3, s4, hx, hy, ht, hj, hA => by
    have fx := hx x List.mem_cons_self
    have fy := hy y List.mem_cons_self
    have bx := fx.bd h1 k1 k3
    have b2 := fy.bd h2 k2 k4
    have fxy := fx.mul fy
    have bxy := fxy.bd (Nat.mul_pos h1 h2) hL hA
    have hj' : j * (A1 * A2) < 2 ^ k := Nat.lt_of_le_of_lt (Nat.mul_le_mul_right _ (by omega)) hj
    have bt := ht.bd (Nat.mul_pos h1 h2) hL hj'
    have e1 := sp_times (p := p) (m := m) bx b2 hk
    have e2 := sp_plus (p := p) (m := m) bt bxy hk
    have ft : Fr (L1 * L2) ((j + 1) * (A1 * A2)) (t + x * y) := by rw [Nat.add_mul, Nat.one_mul]; exact ht.add fxy
    obtain ⟨s3', s4', e⟩ := dot_loop hk h1 h2 hL k1 k2 k3 k4 a0 a1 xs ys (j + 1) (t + x * y) (.fz (enc x)) (.fz (enc y)) (fun z h => hx z (List.mem_cons_of_mem _ h)) (fun z h => hy z (List.mem_cons_of_mem _ h)) ft (by rw [List.length_cons] at hj; rw [show j + 1 + xs.length = j + (xs.length + 1) by omega]; exact hj) hA
    refine ⟨s3', s4', ?_⟩
    have n1 := ne0 x
    have n2 := ne0 y
    rw [List.zip_cons_cons, List.map_cons, forGo_cons]
    simp only [bindT, bindTp, R.on_ok, List.set]
    have z : PX.execs (p.tb (m + 2)) Br.dot_b1 [a0, a1, .fz (enc t), .fz (enc x), .fz (enc y)] = .ok (.nx [a0, a1, .fz (enc (t + x * y)), .fz (enc x), .fz (enc y)]) := by
      by_cases q1 : x = 0
      · have n1' : opEq true (enc x) (.int 0) = .ok false := by rw [n1]; simp [q1]
        have et : t + x * y = t := by rw [q1, Rat.zero_mul, Rat.add_zero]
        rw [et]
        simp [evDef, startS, PX.execs, PX.exec, evX, evXB, evXL, frzS, anyOw, evE, evL, evJ, evT, bindE, bindT, bindTp, opCmp, opI2, storeIx, E.non?, slB, Br.dot_b1, n1']
      · have n1' : opEq true (enc x) (.int 0) = .ok true := by rw [n1]; simp [q1]
        by_cases q2 : y = 0
        · have n2' : opEq true (enc y) (.int 0) = .ok false := by rw [n2]; simp [q2]
          have et : t + x * y = t := by rw [q2, Rat.mul_zero, Rat.add_zero]
          rw [et]
          simp [evDef, startS, PX.execs, PX.exec, evX, evXB, evXL, frzS, anyOw, evE, evL, evJ, evT, bindE, bindT, bindTp, opCmp, opI2, storeIx, E.non?, slB, Br.dot_b1, n1', n2']
        · have n2' : opEq true (enc y) (.int 0) = .ok true := by rw [n2]; simp [q2]
          generalize t + x * y = w at *
          simp [evDef, startS, PX.execs, PX.exec, evX, evXB, evXL, frzS, anyOw, evE, evL, evJ, evT, bindE, bindT, bindTp, opCmp, opI2, storeIx, E.non?, slB, Br.dot_b1, n1', n2', e1, e2]
    rw [z, RS.turn_nx]
    exact e
theorem sp_dot [HasF p "ratio" 3 2 Bx.ratio] [HasF p "is_whole" 1 1 Bx.is_whole] [HasF p "top_of" 1 1 Bx.top_of] [HasF p "bottom_of" 1 1 Bx.bottom_of] [HasF p "plus" 2 2 Bx.plus] [HasF p "times" 2 2 Bx.times] [HasF p "dot" 5 2 Br.dot] {L1 A1 L2 A2 k : Nat} (hk : k ≤ 4000) (h1 : 0 < L1) (h2 : 0 < L2) (hL : L1 * L2 < 2 ^ k)
    (k1 : L1 < 2 ^ k) (k2 : L2 < 2 ^ k) (k3 : A1 < 2 ^ k) (k4 : A2 < 2 ^ k) {xs ys : List Rat} (hx : ∀ x, x ∈ xs → Fr L1 A1 x) (hy : ∀ x, x ∈ ys → Fr L2 A2 x) (hj : xs.length * (A1 * A2) < 2 ^ k) (hA : A1 * A2 < 2 ^ k) :
    p.call (m + 3) "dot" [.lst (xs.map enc), .lst (ys.map enc)] = .ok (.fz (enc (dotG xs ys))) := by
  rw [HasF.run, evDef_out (show [D.lst (xs.map enc), .lst (ys.map enc)].length = 2 from rfl)]
  have zi := zip_items enc enc xs ys
  have e0 : PX.exec (p.tb (m + 2)) (.for (.tp [3, 4]) .zip [.var 0, .var 1] Br.dot_b1 [0, 1]) [.fz (.lst (xs.map enc)), .fz (.lst (ys.map enc)), .fz (enc 0), .un, .un] = _ :=
    ex_for_of (ds := [.lst (xs.map enc), .lst (ys.map enc)]) (by simp [anyOw]) (by simp [evDef, startS, PX.execs, PX.exec, evX, evXB, evXL, frzS, anyOw, evE, evL, evJ, evT, bindE, bindT, bindTp, opCmp, opI2, storeIx, E.non?, slB]) zi
  obtain ⟨s3, s4, e⟩ := dot_loop (p := p) (m := m) hk h1 h2 hL k1 k2 k3 k4 (.fz (.lst (xs.map enc))) (.fz (.lst (ys.map enc))) xs ys 0 0 .un .un hx hy (Fr.zero _ _) (by rw [Nat.zero_add]; exact hj) hA
  show (PX.execs (p.tb (m + 2)) (.asg (.nm 2) (.int 0) [] :: .for (.tp [3, 4]) .zip [.var 0, .var 1] Br.dot_b1 [0, 1] :: [.retv 2]) [.fz (.lst (xs.map enc)), .fz (.lst (ys.map enc)), .un, .un, .un]).out = _
  have ea : PX.exec (p.tb (m + 2)) (.asg (.nm 2) (.int 0) []) [.fz (.lst (xs.map enc)), .fz (.lst (ys.map enc)), .un, .un, .un] = .ok (.nx [.fz (.lst (xs.map enc)), .fz (.lst (ys.map enc)), .fz (enc 0), .un, .un]) := by
    rw [enc0]; simp [evDef, startS, PX.execs, PX.exec, evX, evXB, evXL, frzS, anyOw, evE, evL, evJ, evT, bindE, bindT, bindTp, opCmp, opI2, storeIx, E.non?, slB]
  rw [PX.execs_cons, ea, RS.then_nx, PX.execs_cons, e0, e, RS.then_nx]
  simp [evDef, startS, PX.execs, PX.exec, evX, evXB, evXL, frzS, anyOw, evE, evL, evJ, evT, bindE, bindT, bindTp, opCmp, opI2, storeIx, E.non?, slB, dotG]

/-! ### primitive rows -/
theorem lcm_loopL [HasF p "bottom_of" 1 1 Bx.bottom_of] {L : Nat} (hL : 0 < L) (hl : L < 2 ^ 64) : ∀ (xs : List Rat) (c : Nat) (a s : Sl), (∀ x, x ∈ xs → x.den ∣ L) → c ∣ L →
    (∃ s', forGo (.nm 2) (fun ρ => execs (p.tb (m + 1)) Bx.common_bottom_b1 ρ) (xs.map enc) [a, .fz (.int c), s] = .ok (.nx [a, .fz (.int (lcmG c xs)), s'])) ∧ lcmG c xs ∣ L ∧ c ∣ lcmG c xs ∧ ∀ x, x ∈ xs → x.den ∣ lcmG c xs
  | [], c, a, s, _, hc => ⟨⟨s, forGo_nil⟩, hc, Nat.dvd_refl _, fun x h => by cases h⟩
  | x :: xs, c, a, s, hx, hc => by
    have dx := hx x List.mem_cons_self
    have dl : Nat.lcm c x.den ∣ L := Nat.lcm_dvd hc dx
    obtain ⟨⟨s', e⟩, q1, q2, q3⟩ := lcm_loopL hL hl xs (Nat.lcm c x.den) a (.fz (enc x)) (fun y hy => hx y (List.mem_cons_of_mem _ hy)) dl
    refine ⟨⟨s', ?_⟩, q1, Nat.dvd_trans (Nat.dvd_lcm_left _ _) q2, fun y hy => ?_⟩
    · have d2 : x.den < 2 ^ 64 := Nat.lt_of_le_of_lt (Nat.le_of_dvd hL dx) hl
      have d3 : c < 2 ^ 64 := Nat.lt_of_le_of_lt (Nat.le_of_dvd hL hc) hl
      rw [List.map_cons, forGo_cons]
      have z : execs (p.tb (m + 1)) Bx.common_bottom_b1 [a, .fz (.int c), .fz (enc x)] = .ok (.nx [a, .fz (.int (Nat.lcm c x.den)), .fz (enc x)]) := by
        cases a <;> simp [evDef, startS, PX.execs, PX.exec, evX, evXB, evXL, frzS, anyOw, evE, evL, evJ, evT, bindE, bindT, bindTp, opCmp, opI2, storeIx, E.non?, slB, Bx.common_bottom_b1, sp_bottom_of, d2, d3]
      simp only [bindT, R.on_ok, List.set]
      rw [z, RS.turn_nx]
      exact e
    · rcases List.mem_cons.mp hy with rfl | hy
      · exact Nat.dvd_trans (Nat.dvd_lcm_right _ _) q2
      · exact q3 y hy
theorem sp_commonL [HasF p "bottom_of" 1 1 Bx.bottom_of] [HasF p "common_bottom" 3 1 Bx.common_bottom] {L : Nat} (hL : 0 < L) (hl : L < 2 ^ 64) {xs : List Rat} (hx : ∀ x, x ∈ xs → x.den ∣ L) :
    p.call (m + 2) "common_bottom" [.lst (xs.map enc)] = .ok (.fz (.int (lcmG 1 xs))) := by
  rw [HasF.run, evDef_out (show [D.lst (xs.map enc)].length = 1 from rfl)]
  obtain ⟨⟨s', e⟩, _⟩ := lcm_loopL (p := p) (m := m) hL hl xs 1 (.fz (.lst (xs.map enc))) .un hx (Nat.one_dvd _)
  have e0 : PX.exec (p.tb (m + 1)) (.for (.nm 2) .val [.var 0] Bx.common_bottom_b1 [0]) [.fz (.lst (xs.map enc)), .fz (.int (1 : Nat)), .un] = _ :=
    ex_for_of (ds := [.lst (xs.map enc)]) (by simp [anyOw]) (by simp [evDef, startS, PX.execs, PX.exec, evX, evXB, evXL, frzS, anyOw, evE, evL, evJ, evT, bindE, bindT, bindTp, opCmp, opI2, storeIx, E.non?, slB]) rfl
  show (PX.execs (p.tb (m + 1)) (.asg (.nm 1) (.int 1) [] :: .for (.nm 2) .val [.var 0] Bx.common_bottom_b1 [0] :: [.retv 1]) [.fz (.lst (xs.map enc)), .un, .un]).out = _
  have ea : PX.exec (p.tb (m + 1)) (.asg (.nm 1) (.int 1) []) [.fz (.lst (xs.map enc)), .un, .un] = .ok (.nx [.fz (.lst (xs.map enc)), .fz (.int (1 : Nat)), .un]) := by
    simp [evDef, startS, PX.execs, PX.exec, evX, evXB, evXL, frzS, anyOw, evE, evL, evJ, evT, bindE, bindT, bindTp, opCmp, opI2, storeIx, E.non?, slB]
  rw [PX.execs_cons, ea, RS.then_nx, PX.execs_cons, e0, e, RS.then_nx]
  simp [evDef, startS, PX.execs, PX.exec, evX, evXB, evXL, frzS, anyOw, evE, evL, evJ, evT, bindE, bindT, bindTp, opCmp, opI2, storeIx, E.non?, slB]
theorem lcmG_dvd : ∀ (xs : List Rat) (c : Nat), c ∣ lcmG c xs ∧ ∀ x, x ∈ xs → x.den ∣ lcmG c xs
  | [], c => ⟨Nat.dvd_refl _, fun x h => by cases h⟩
  | x :: xs, c => by
    obtain ⟨q2, q3⟩ := lcmG_dvd xs (Nat.lcm c x.den)
    refine ⟨Nat.dvd_trans (Nat.dvd_lcm_left _ _) q2, fun y hy => ?_⟩
    rcases List.mem_cons.mp hy with rfl | hy
    · exact Nat.dvd_trans (Nat.dvd_lcm_right _ _) q2
    · exact q3 y hy
theorem lcmG_pos : ∀ (xs : List Rat) (c : Nat), 0 < c → 0 < lcmG c xs
  | [], c, h => h
  | x :: xs, c, h => lcmG_pos xs (Nat.lcm c x.den) (Nat.lcm_pos h x.den_pos)
def rowG (xs : List Rat) : List Int := xs.map fun x => x.num * ((lcmG 1 xs / x.den : Nat) : Int)
def gcdA (c : Nat) (ns : List Int) : Nat := ns.foldl (fun c n => Nat.gcd c n.natAbs) c
def fstN : List Int → Int
  | [] => 0
  | n :: ns => if n = 0 then fstN ns else n
def primG (xs : List Rat) : List Int := if gcdA 0 (rowG xs) = 0 then rowG xs else (rowG xs).map fun n => n.fdiv (if fstN (rowG xs) < 0 then -(gcdA 0 (rowG xs) : Int) else gcdA 0 (rowG xs))
theorem gcd_loopP (a0 a1 a2 : Sl) : ∀ (ns : List Int) (c : Nat) (s : Sl),
    ∃ s', forGo (.nm 3) (fun ρ => PX.execs (p.tb m) Br.primitive_b1 ρ) (ns.map D.int) [a0, a1, a2, s, .fz (.int (c : Int))] = .ok (.nx [a0, a1, a2, s', .fz (.int (gcdA c ns : Int))])
  | [], c, s => ⟨s, forGo_nil⟩
  | n :: ns, c, s => by
    obtain ⟨s', e⟩ := gcd_loopP a0 a1 a2 ns (Nat.gcd c n.natAbs) (.fz (.int n))
    refine ⟨s', ?_⟩
    rw [List.map_cons, forGo_cons]
    have z : PX.execs (p.tb m) Br.primitive_b1 [a0, a1, a2, .fz (.int n), .fz (.int (c : Int))] = .ok (.nx [a0, a1, a2, .fz (.int n), .fz (.int (Nat.gcd c n.natAbs : Nat))]) := by
      simp [evDef, startS, PX.execs, PX.exec, evX, evXB, evXL, frzS, anyOw, evE, evL, evJ, evT, bindE, bindT, bindTp, opCmp, opI2, storeIx, E.non?, slB, Br.primitive_b1]
    simp only [bindT, R.on_ok, List.set]
    rw [z, RS.turn_nx]
    exact e
theorem gcdA_dvd : ∀ (ns : List Int) (c : Nat), gcdA c ns ∣ c ∧ ∀ n, n ∈ ns → (gcdA c ns : Int) ∣ n
  | [], c => ⟨Nat.dvd_refl _, fun n h => by cases h⟩
  | n :: ns, c => by
    obtain ⟨q1, q2⟩ := gcdA_dvd ns (Nat.gcd c n.natAbs)
    refine ⟨Nat.dvd_trans q1 (Nat.gcd_dvd_left _ _), fun y hy => ?_⟩
    rcases List.mem_cons.mp hy with rfl | hy
    · exact Int.ofNat_dvd_left.mpr (Nat.dvd_trans q1 (Nat.gcd_dvd_right _ _))
    · exact q2 y hy
theorem gcdA_zero {ns : List Int} (h : gcdA 0 ns = 0) : ∀ n, n ∈ ns → n = 0 := fun n hn => by
  have := (gcdA_dvd ns 0).2 n hn
  rw [h] at this
  exact Int.zero_dvd.mp this
theorem gcdA_scale (b : Nat) : ∀ (ns : List Int) (c : Nat), gcdA (c * b) (ns.map fun n => n * (b : Int)) = gcdA c ns * b
  | [], c => rfl
  | n :: ns, c => by
    show gcdA (Nat.gcd (c * b) (n * (b : Int)).natAbs) _ = gcdA (Nat.gcd c n.natAbs) ns * b
    rw [Int.natAbs_mul, Int.natAbs_natCast, Nat.gcd_mul_right]
    exact gcdA_scale b ns _
theorem gcdA_neg : ∀ (ns : List Int) (c : Nat), gcdA c (ns.map fun n => -n) = gcdA c ns
  | [], c => rfl
  | n :: ns, c => by
    show gcdA (Nat.gcd c (-n).natAbs) _ = gcdA (Nat.gcd c n.natAbs) ns
    rw [Int.natAbs_neg]
    exact gcdA_neg ns _
theorem fstN_nz : ∀ {ns : List Int}, (∃ n, n ∈ ns ∧ n ≠ 0) → fstN ns ≠ 0
  | [], ⟨n, h, _⟩ => by cases h
  | n :: ns, ⟨y, h, hy⟩ => by
    unfold fstN
    by_cases q : n = 0
    · rw [if_pos q]
      refine fstN_nz ⟨y, ?_, hy⟩
      rcases List.mem_cons.mp h with rfl | h
      · exact absurd q hy
      · exact h
    · rw [if_neg q]; exact q
theorem fstN_scale (c : Int) (hc : c ≠ 0) : ∀ ns : List Int, fstN (ns.map fun n => n * c) = fstN ns * c
  | [] => by simp [fstN]
  | n :: ns => by
    rw [List.map_cons]
    unfold fstN
    by_cases q : n = 0
    · rw [if_pos (by rw [q, Int.zero_mul]), if_pos q]; exact fstN_scale c hc ns
    · rw [if_neg (Int.mul_ne_zero q hc), if_neg q]
theorem sup_head : ∀ (ns : List Int) (k : Nat), (∃ n, n ∈ ns ∧ n ≠ 0) → ∃ j r, supA k (ns.map fun n : Int => (n : Rat)) = (k + j) :: r ∧ ns[j]? = some (fstN ns)
  | [], k, ⟨n, h, _⟩ => by cases h
  | n :: ns, k, ⟨y, h, hy⟩ => by
    rw [List.map_cons, supA_cons]
    unfold fstN
    by_cases q : n = 0
    · rw [if_pos (by rw [q]; rfl), if_pos q]
      obtain ⟨j, r, e1, e2⟩ := sup_head ns (k + 1) ⟨y, by
        rcases List.mem_cons.mp h with rfl | h
        · exact absurd q hy
        · exact h, hy⟩
      exact ⟨j + 1, r, by rw [e1]; congr 1; omega, by simpa using e2⟩
    · have q' : ((n : Int) : Rat) ≠ 0 := fun z => q (by
        have := congrArg Rat.num z
        exact this)
      rw [if_neg q', if_neg q]
      exact ⟨0, _, rfl, by simp⟩
end
end PX

set_option Elab.async false
set_option linter.all false
set_option maxRecDepth 100000
/-! LXa: evaluation over live things: lemmas. -/
namespace PX
open PySem PySem.Spec PyProof.Rows L2
@[simp] theorem snap_d (h : LHp) (n : Nat) (d : D) : snap h n (.d d) = some d := by cases n <;> rfl
@[simp] theorem mapO_snap (h : LHp) (n : Nat) : ∀ ds : List D, mapO (snap h n) (ds.map .d) = some ds
  | [] => rfl
  | d :: ds => by
    rw [List.map_cons, mapO, snap_d, mapO_snap h n ds]
@[simp] theorem mapO_datD : ∀ ds : List D, mapO LV.dat (ds.map .d) = some ds
  | [] => rfl
  | d :: ds => by
    rw [List.map_cons, mapO, mapO_datD ds]; rfl
theorem snap_lst {h : LHp} {i : Nat} {ds : List D} (e : h[i]? = some (.lst (ds.map .d))) : snap h 8 (.r i) = some (.lst ds) := by
  rw [snap, e]
  simp
@[simp] theorem live_r (i : Nat) : LSl.live (.v (.r i)) = true := rfl
@[simp] theorem live_d (d : D) : LSl.live (.v (.d d)) = false := rfl
@[simp] theorem live_un : LSl.live .un = false := rfl
@[simp] theorem live_xc (c fs) : LSl.live (.xc c fs) = false := rfl
@[simp] theorem pur_d (d : D) : LSl.pur (.v (.d d)) = .fz d := rfl
@[simp] theorem pur_r (i : Nat) : LSl.pur (.v (.r i)) = .un := rfl
@[simp] theorem pur_un : LSl.pur .un = .un := rfl
@[simp] theorem frz_d (h : LHp) (d : D) : LSl.frz h (.v (.d d)) = .fz d := by unfold LSl.frz; simp
@[simp] theorem frz_un (h : LHp) : LSl.frz h .un = .un := rfl
theorem frz_r {h : LHp} {i : Nat} {d : D} (e : snap h 8 (.r i) = some d) : LSl.frz h (.v (.r i)) = .fz d := by
  show (match snap h 8 (.r i) with | some d => Sl.fz d | none => Sl.un) = _
  rw [e]
@[simp] theorem out_okD (d : D) (h : LHp) : LR.out (.ok (.d d) h) = .ok (.fz d) := rfl
theorem out_lst {i : Nat} {h : LHp} {ds : List D} (e : h[i]? = some (.lst (ds.map .d))) : LR.out (.ok (.r i) h) = .ok (.fr (.lst ds)) := by
  unfold LR.out
  simp [e]
/-- a pure expression, nothing live in it -/
theorem evP_pur {T : LTb} {ρ : LRho} {h : LHp} {us : List Nat} {e : E} (ha : anyLv ρ us = false) {v : EV} (he : evE T.t (ρ.map LSl.pur) e = .ok v) : evP T ρ h us e = addV h v := by
  unfold evP
  rw [ha, if_neg Bool.false_ne_true, he]
theorem evP_frz {T : LTb} {ρ : LRho} {h : LHp} {us : List Nat} {e : E} (ha : anyLv ρ us = true) {v : EV} (he : evE T.t (ρ.map (LSl.frz h)) e = .ok v) (hl : v.lf2 = true) : evP T ρ h us e = addV h v := by
  unfold evP
  rw [ha, if_pos rfl, he]
  show (if v.lf2 = true then _ else _) = _
  rw [if_pos hl]
@[simp] theorem addV_fz (h : LHp) (d : D) : addV h (.fz d) = .ok (.d d) h := rfl
@[simp] theorem addV_lst (h : LHp) (ds : List D) : addV h (.fr (.lst ds)) = .ok (.r h.length) (h ++ [.lst (ds.map .d)]) := rfl
/-! ### comprehensions -/
theorem lcL_nm {α : Type} {T : LTb} {ρ : LRho} {i k : Nat} {el : LE} {ea eb : α → D} : ∀ (xs : List α) (h : LHp) (vs : List LV), h[k]? = some (.lst vs) → vs.length + xs.length ≤ sizeLine → (∀ x, x ∈ xs → ∀ h, evA T (ρ.set i (.v (.d (ea x)))) el h = .ok (.d (eb x)) h) →
    lcL (.nm i) (fun ρ1 => evPT T ρ1 []) (fun ρ1 h2 => evA T ρ1 el h2) ρ k (xs.map ea) h = .ok () (h.set k (.lst (vs ++ (xs.map eb).map .d)))
  | [], h, vs, e, _, _ => by
    rw [List.map_nil, lcL]
    rw [List.map_nil, List.map_nil, List.append_nil]
    congr 1
    apply List.ext_getElem?
    intro j
    by_cases hj : k = j
    · subst hj
      have hk : k < h.length := (List.getElem?_eq_some_iff.mp e).1
      rw [List.getElem?_set_self hk, e]
    · rw [List.getElem?_set_ne hj]
  | x :: xs, h, vs, e, hl, hx => by
    have e1 := hx x List.mem_cons_self h
    have hk : k < h.length := (List.getElem?_eq_some_iff.mp e).1
    rw [List.length_cons] at hl
    have ih := lcL_nm (T := T) (ρ := ρ) (i := i) (k := k) (el := el) (ea := ea) (eb := eb) xs (h.set k (.lst (vs ++ [.d (eb x)]))) (vs ++ [.d (eb x)]) (by rw [List.getElem?_set_self hk]) (by simp; omega) (fun y hy => hx y (List.mem_cons_of_mem _ hy))
    rw [List.map_cons, lcL]
    have et : evPT T (ρ.set i (.v (.d (ea x)))) [] = .ok true := by unfold evPT; rw [evT]
    have hl2 : vs.length < sizeLine := by omega
    simp only [bindL, et, e1, LR.nox_ok, LR.bind_ok, e, hl2, ↓reduceIte, ih]
    rw [List.set_set]
    simp
theorem evA_lc_val {α : Type} {T : LTb} {ρ : LRho} {own : List Nat} {i : Nat} {a : E} {us : List Nat} {el : LE} {ea eb : α → D} {xs : List α} {h : LHp} {v : EV} (ha : anyLv ρ us = false) (h0 : evE T.t (ρ.map LSl.pur) a = .ok v) (hv : v.d = .lst (xs.map ea)) (hl : xs.length ≤ sizeLine)
    (hx : ∀ x, x ∈ xs → ∀ h, evA T ((wipeLS ρ own).set i (.v (.d (ea x)))) el h = .ok (.d (eb x)) h) : evA T ρ (.lc own (.nm i) .val [a] us [] el) h = .ok (.r h.length) (h ++ [.lst ((xs.map eb).map .d)]) := by
  have e := lcL_nm (T := T) (ρ := wipeLS ρ own) (i := i) (k := h.length) (el := el) (ea := ea) (eb := eb) xs (h ++ [.lst []]) [] (by simp) (by simpa using hl) hx
  have ep : evPL T ρ h us [a] = .ok [.lst (xs.map ea)] h := by
    unfold evPL
    rw [ha]
    simp [evL, h0, hv]
  rw [evA, ep, LR.bind_ok]
  show (if (xs.map ea).length ≤ sizeLine then _ else _) = _
  rw [if_pos (by rw [List.length_map]; exact hl), e]
  simp
/-! ### loops over live lists -/
theorem lforL_step {tg : Tg} {f : LSt → LRS} {k n i : Nat} {s : LSt} {vs : List LV} {x : LV} (e : s.h[k]? = some (.lst vs)) (ex : vs[i]? = some x) : lforL tg f k (n + 1) i s = match bindL tg x s.ρ s.h with
    | some ρ1 => (f ⟨ρ1, s.h⟩).turn (lforL tg f k n (i + 1))
    | none => .st := by
  rw [lforL, e]
  simp only [ex]
  all_goals (cases bindL tg x s.ρ s.h <;> rfl)
theorem lforL_end {tg : Tg} {f : LSt → LRS} {k n i : Nat} {s : LSt} {vs : List LV} (e : s.h[k]? = some (.lst vs)) (ex : vs[i]? = none) : lforL tg f k n i s = .ok (.nx s) := by
  rw [lforL, e]
  simp only [ex]
theorem lforL_nm {β : Type} {i k : Nat} {f : LSt → LRS} {h : LHp} {vs : List LV} (e : h[k]? = some (.lst vs)) (S : β → LSl → LRho) (hS : ∀ s l x, (S s l).set i (.v x) = S s (.v x)) (g : β → LV → β) (hf : ∀ s x, x ∈ vs → f ⟨S s (.v x), h⟩ = .ok (.nx ⟨S (g s x) (.v x), h⟩)) : ∀ (r : Nat) (j : Nat) (s : β) (l : LSl), j + r = vs.length →
    ∃ l', lforL (.nm i) f k (r + 1) j ⟨S s l, h⟩ = .ok (.nx ⟨S ((vs.drop j).foldl g s) l', h⟩)
  | 0, j, s, l, hj => ⟨l, by rw [lforL_end (s := ⟨S s l, h⟩) e (List.getElem?_eq_none_iff.mpr (by omega)), List.drop_eq_nil_of_le (by omega)]; rfl⟩
  | r + 1, j, s, l, hj => by
    have hlt : j < vs.length := by omega
    have ex : vs[j]? = some vs[j] := by simp [hlt]
    obtain ⟨l', q⟩ := lforL_nm e S hS g hf r (j + 1) (g s vs[j]) (.v vs[j]) (by omega)
    refine ⟨l', ?_⟩
    rw [lforL_step (s := ⟨S s l, h⟩) e ex]
    simp only [bindL]
    rw [hS, hf s vs[j] (List.getElem_mem _), LRS.turn_nx, q, List.drop_eq_getElem_cons hlt]
    rfl
theorem lexecs_cons {T : LTb} {q : LQ} {qs : List LQ} {s : LSt} : lexecs T (q :: qs) s = (lexec T q s).then (lexecs T qs) := by rw [lexecs]
/-- how a def over live things ends -/
def LRS.outR (x : LRS) : LR LV := match x with
  | .ok (.nx s) => .ok (.d .non) s.h
  | .ok (.rt x h1) => .ok x h1
  | .ex c fs s => .ex c fs s.h
  | _ => .st
@[simp] theorem outR_nx (s) : LRS.outR (.ok (.nx s)) = .ok (.d .non) s.h := rfl
@[simp] theorem outR_rt (x h) : LRS.outR (.ok (.rt x h)) = .ok x h := rfl
@[simp] theorem outR_ex (c fs s) : LRS.outR (.ex c fs s) = .ex c fs s.h := rfl
theorem levDef_out {T : LTb} {n k : Nat} {b : List LQ} {xs : List LV} {h : LHp} (e : xs.length = k) : levDef T n k b xs h = (lexecs T b ⟨startL n xs, h⟩).outR := by
  unfold levDef
  rw [if_pos e]
  rfl
@[simp] theorem ltb_t (p : Prg) (m : Nat) : (p.ltb m).t = p.tb m := rfl
@[simp] theorem ltb_call (p : Prg) (m : Nat) : (p.ltb m).call = p.lcall m := rfl
theorem HasFL.run {p : Prg} {f : Str} {n k : Nat} {b : List LQ} [h : HasFL p f n k b] (m : Nat) (ds : List D) : p.call (m + 1) f ds = (levDef (p.ltb m) n k b (ds.map .d) []).out := by rw [h.eqP]
theorem HasFL.runL {p : Prg} {f : Str} {n k : Nat} {b : List LQ} [h : HasFL p f n k b] (m : Nat) (xs : List LV) (hp : LHp) : p.lcall (m + 1) f xs hp = levDef (p.ltb m) n k b xs hp := by rw [h.eqL]
end PX

set_option Elab.async false
set_option linter.all false
set_option maxRecDepth 100000
/-! K03C: the defs of the law, by their bodies. -/
namespace K03
open PySem PySem.Spec PyProof.Rows L2 PX
instance : HasF prg "ratio" 3 2 Bx.ratio := ⟨fun m => by kernel_rfl⟩
instance : HasF prg "is_whole" 1 1 Bx.is_whole := ⟨fun m => by kernel_rfl⟩
instance : HasF prg "top_of" 1 1 Bx.top_of := ⟨fun m => by kernel_rfl⟩
instance : HasF prg "bottom_of" 1 1 Bx.bottom_of := ⟨fun m => by kernel_rfl⟩
instance : HasF prg "plus" 2 2 Bx.plus := ⟨fun m => by kernel_rfl⟩
instance : HasF prg "minus" 2 2 Bx.minus := ⟨fun m => by kernel_rfl⟩
instance : HasF prg "times" 2 2 Bx.times := ⟨fun m => by kernel_rfl⟩
instance : HasF prg "less" 2 2 Bx.less := ⟨fun m => by kernel_rfl⟩
instance : HasF prg "common_bottom" 3 1 Bx.common_bottom := ⟨fun m => by kernel_rfl⟩
instance : HasF prg "support" 3 1 Br.support := ⟨fun m => by kernel_rfl⟩
instance : HasF prg "dot" 5 2 Br.dot := ⟨fun m => by kernel_rfl⟩
instance : HasF prg "negative" 2 1 Br.negative := ⟨fun m => by kernel_rfl⟩
instance : HasF prg "scaled" 3 2 Br.scaled := ⟨fun m => by kernel_rfl⟩
instance : HasF prg "added" 4 2 Br.added := ⟨fun m => by kernel_rfl⟩
instance : HasF prg "before" 4 2 Br.before := ⟨fun m => by kernel_rfl⟩
instance : HasF prg "agrees" 4 2 Br.agrees := ⟨fun m => by kernel_rfl⟩
instance : HasFL prg "primitive" 5 1 Lr.primitive := ⟨fun m => by kernel_rfl, fun m => by kernel_rfl⟩
instance : HasF prg "_law_cell" 2 2 Bl._law_cell := ⟨fun m => by kernel_rfl⟩
instance : HasF prg "_law_numbers" 7 3 Bl._law_numbers := ⟨fun m => by kernel_rfl⟩
instance : HasF prg "_law_gcd" 3 2 Bl._law_gcd := ⟨fun m => by kernel_rfl⟩
instance : HasF prg "_law_make" 3 2 Bl._law_make := ⟨fun m => by kernel_rfl⟩
instance : HasF prg "_law_top" 1 1 Bl._law_top := ⟨fun m => by kernel_rfl⟩
instance : HasF prg "_law_bottom" 1 1 Bl._law_bottom := ⟨fun m => by kernel_rfl⟩
instance : HasF prg "_law_plus" 3 2 Bl._law_plus := ⟨fun m => by kernel_rfl⟩
instance : HasF prg "_law_times" 2 2 Bl._law_times := ⟨fun m => by kernel_rfl⟩
instance : HasF prg "_law_less" 2 2 Bl._law_less := ⟨fun m => by kernel_rfl⟩
instance : HasF prg "_law_dot" 4 2 Bl._law_dot := ⟨fun m => by kernel_rfl⟩
instance : HasF prg "_law_is_int" 1 1 Bl._law_is_int := ⟨fun m => by kernel_rfl⟩
instance : HasF prg "_law_whole_list" 3 2 K03.b__law_whole_list := ⟨fun m => by kernel_rfl⟩
instance : HasF prg "_law_like" 3 2 Bl._law_like := ⟨fun m => by kernel_rfl⟩
instance : HasF prg "_law_says" 2 2 K03.b__law_says := ⟨fun m => by kernel_rfl⟩
instance : HasF prg "_law_support" 2 1 Bl._law_support := ⟨fun m => by kernel_rfl⟩
instance : HasF prg "_law_drawn" 3 2 K03.b__law_drawn := ⟨fun m => by kernel_rfl⟩
instance : HasF prg "_law_second" 8 4 K03.b__law_second := ⟨fun m => by kernel_rfl⟩
instance : HasF prg "_law_agrees" 3 2 K03.b__law_agrees := ⟨fun m => by kernel_rfl⟩
instance : HasF prg "_law_before" 3 2 K03.b__law_before := ⟨fun m => by kernel_rfl⟩
instance : HasFL prg "_law_new" 4 4 K03.b__law_new := ⟨fun m => by kernel_rfl, fun m => by kernel_rfl⟩
instance : HasFL prg "_law_sums" 8 3 K03.b__law_sums := ⟨fun m => by kernel_rfl, fun m => by kernel_rfl⟩
instance : HasF prg "_law_ordered" 5 2 K03.b__law_ordered := ⟨fun m => by kernel_rfl⟩
instance : HasF prg "_law_orders" 5 3 K03.b__law_orders := ⟨fun m => by kernel_rfl⟩
instance : HasF prg "_law_cells_ordered" 7 1 K03.b__law_cells_ordered := ⟨fun m => by kernel_rfl⟩
instance : HasF prg "_law_primitive_told" 11 2 K03.b__law_primitive_told := ⟨fun m => by kernel_rfl⟩
instance : HasF prg "law" 10 1 K03.b_law := ⟨fun m => by kernel_rfl⟩
end K03

set_option Elab.async false
set_option linter.all false
set_option maxRecDepth 100000
/-! RYd: primitive rows, as the program makes them. -/
namespace PX
open PySem PySem.Spec PyProof.Rows L2
theorem list_set_same {α : Type} {h : List α} {k : Nat} {a : α} (e : h[k]? = some a) : h.set k a = h := by
  apply List.ext_getElem?
  intro j
  by_cases hj : k = j
  · subst hj
    have hk : k < h.length := (List.getElem?_eq_some_iff.mp e).1
    rw [List.getElem?_set_self hk, e]
  · rw [List.getElem?_set_ne hj]
theorem lcLL_step {T : LTb} {ρ : LRho} {i k li n j : Nat} {el : LE} {h h1 : LHp} {vs ws : List LV} {x y : LV} (e : h[li]? = some (.lst vs)) (ex : vs[j]? = some x) (e1 : evA T (ρ.set i (.v x)) el h = .ok y h1) (ek : h1[k]? = some (.lst ws)) (hl : ws.length < sizeLine) :
    lcLL (.nm i) (fun ρ1 => evPT T ρ1 []) (fun ρ1 h2 => evA T ρ1 el h2) ρ k li (n + 1) j h = lcLL (.nm i) (fun ρ1 => evPT T ρ1 []) (fun ρ1 h2 => evA T ρ1 el h2) ρ k li n (j + 1) (h1.set k (.lst (ws ++ [y]))) := by
  have et : evPT T (ρ.set i (.v x)) [] = .ok true := by unfold evPT; rw [evT]
  rw [lcLL, e]
  simp only [ex]
  show (match evPT T (ρ.set i (.v x)) [] with
    | .ok true => (evA T (ρ.set i (.v x)) el h).nox.bind fun y h1 => (match h1[k]? with
      | some (.lst ws) => if ws.length < sizeLine then lcLL (.nm i) (fun ρ1 => evPT T ρ1 []) (fun ρ1 h2 => evA T ρ1 el h2) ρ k li n (j + 1) (h1.set k (.lst (ws ++ [y]))) else .st
      | _ => .st)
    | .ok false => lcLL (.nm i) (fun ρ1 => evPT T ρ1 []) (fun ρ1 h2 => evA T ρ1 el h2) ρ k li n (j + 1) h
    | _ => .st) = _
  rw [et, e1]
  simp only [LR.nox_ok, LR.bind_ok, ek, hl, ↓reduceIte]
theorem lcLL_nm {α : Type} {T : LTb} {ρ : LRho} {i k li : Nat} {el : LE} {ea eb : α → D} {xs : List α} (hx : ∀ x, x ∈ xs → ∀ h, evA T (ρ.set i (.v (.d (ea x)))) el h = .ok (.d (eb x)) h) (hne : k ≠ li) : ∀ (r j : Nat) (h : LHp) (vs : List LV), h[li]? = some (.lst (xs.map fun x => LV.d (ea x))) → h[k]? = some (.lst vs) → j + r = xs.length → vs.length + r ≤ sizeLine →
    lcLL (.nm i) (fun ρ1 => evPT T ρ1 []) (fun ρ1 h2 => evA T ρ1 el h2) ρ k li (r + 1) j h = .ok () (h.set k (.lst (vs ++ (xs.drop j).map fun x => LV.d (eb x))))
  | 0, j, h, vs, e, ek, hj, _ => by
    have en : (xs.map fun x => LV.d (ea x))[j]? = none := List.getElem?_eq_none_iff.mpr (by rw [List.length_map]; omega)
    rw [lcLL, e]
    simp only [en]
    rw [List.drop_eq_nil_of_le (by omega), List.map_nil, List.append_nil, list_set_same ek]
  | r + 1, j, h, vs, e, ek, hj, hl => by
    have hlt : j < xs.length := by omega
    have ex : (xs.map fun x => LV.d (ea x))[j]? = some (.d (ea xs[j])) := by simp [hlt]
    have hk : k < h.length := (List.getElem?_eq_some_iff.mp ek).1
    have e1 := hx xs[j] (List.getElem_mem _) h
    have hl2 : vs.length < sizeLine := by omega
    have ih := lcLL_nm (T := T) (ρ := ρ) (i := i) (k := k) (li := li) (el := el) (ea := ea) (eb := eb) hx hne r (j + 1) (h.set k (.lst (vs ++ [.d (eb xs[j])]))) (vs ++ [.d (eb xs[j])]) (by rw [List.getElem?_set_ne hne, e]) (by rw [List.getElem?_set_self hk]) (by omega) (by simp; omega)
    rw [lcLL_step e ex e1 ek hl2, ih]
    rw [List.set_set, List.drop_eq_getElem_cons hlt, List.map_cons, List.append_assoc]
    rfl
/-- over frozen data -/
theorem evA_lcL_d {α : Type} {T : LTb} {ρ : LRho} {own : List Nat} {i : Nat} {o : LE} {el : LE} {ea eb : α → D} {xs : List α} {h : LHp} (h0 : evA T ρ o h = .ok (.d (.lst (xs.map ea))) h) (hl : xs.length ≤ sizeLine)
    (hx : ∀ x, x ∈ xs → ∀ h, evA T ((wipeLS ρ own).set i (.v (.d (ea x)))) el h = .ok (.d (eb x)) h) : evA T ρ (.lcL own (.nm i) o [] el) h = .ok (.r h.length) (h ++ [.lst ((xs.map eb).map .d)]) := by
  have e := lcL_nm (T := T) (ρ := wipeLS ρ own) (i := i) (k := h.length) (el := el) (ea := ea) (eb := eb) xs (h ++ [.lst []]) [] (by simp) (by simpa using hl) hx
  rw [evA, h0, LR.bind_ok]
  show (if (xs.map ea).length ≤ sizeLine then _ else _) = _
  rw [if_pos (by rw [List.length_map]; exact hl), e]
  simp
/-- over a live list -/
theorem evA_lcL_r {α : Type} {T : LTb} {ρ : LRho} {own : List Nat} {i li : Nat} {o : LE} {el : LE} {ea eb : α → D} {xs : List α} {h : LHp} (h0 : evA T ρ o h = .ok (.r li) h) (e : h[li]? = some (.lst (xs.map fun x => LV.d (ea x)))) (hl : xs.length ≤ sizeLine)
    (hx : ∀ x, x ∈ xs → ∀ h, evA T ((wipeLS ρ own).set i (.v (.d (ea x)))) el h = .ok (.d (eb x)) h) : evA T ρ (.lcL own (.nm i) o [] el) h = .ok (.r h.length) (h ++ [.lst ((xs.map eb).map .d)]) := by
  have hli : li < h.length := (List.getElem?_eq_some_iff.mp e).1
  have q := lcLL_nm (T := T) (ρ := wipeLS ρ own) (i := i) (k := h.length) (li := li) (el := el) (ea := ea) (eb := eb) hx (by omega) xs.length 0 (h ++ [.lst []]) [] (by rw [List.getElem?_append_left hli, e]) (by simp) (by omega) (by simpa using hl)
  rw [evA, h0, LR.bind_ok]
  simp only [e]
  rw [List.length_map, q]
  simp
theorem gcdA_all0 : ∀ {ns : List Int}, (∀ n, n ∈ ns → n = 0) → gcdA 0 ns = 0
  | [], _ => rfl
  | n :: ns, h => by
    show gcdA (Nat.gcd 0 n.natAbs) ns = 0
    rw [h n List.mem_cons_self]
    exact gcdA_all0 fun y hy => h y (List.mem_cons_of_mem _ hy)
theorem gcdA_nz {ns : List Int} (h : gcdA 0 ns ≠ 0) : ∃ n, n ∈ ns ∧ n ≠ 0 := by
  cases e : ns.find? (fun n => decide (n ≠ 0)) with
  | some n =>
    have h1 := List.mem_of_find?_eq_some e
    have h2 := List.find?_some e
    exact ⟨n, h1, by simpa using h2⟩
  | none =>
    exfalso
    apply h
    apply gcdA_all0
    intro n hn
    have := List.find?_eq_none.mp e n hn
    simpa using this
def gstep (c : Nat) (x : LV) : Nat := match x with
  | .d (.int n) => Nat.gcd c n.natAbs
  | _ => c
theorem gstep_fold : ∀ (ns : List Int) (c : Nat), (ns.map fun n => LV.d (.int n)).foldl gstep c = gcdA c ns
  | [], c => rfl
  | n :: ns, c => gstep_fold ns (Nat.gcd c n.natAbs)
theorem fdiv_dvd {S d : Nat} (h : d ∣ S) (hd : 0 < d) : ((S : Int)).fdiv (d : Int) = ((S / d : Nat) : Int) := by
  rw [Int.fdiv_eq_ediv_of_nonneg _ (by omega)]
  norm_cast
section
variable {p : Prg} {m : Nat}
theorem sp_primitive [HasF p "top_of" 1 1 Bx.top_of] [HasF p "bottom_of" 1 1 Bx.bottom_of] [HasF p "common_bottom" 3 1 Bx.common_bottom] [HasF p "support" 3 1 Br.support] [HasFL p "primitive" 5 1 Lr.primitive] {L k : Nat} (hL : 0 < L) (hl : L < 2 ^ 64) (hk : k ≤ 4000)
    {xs : List Rat} (hx : ∀ x, x ∈ xs → x.den ∣ L) (hb : ∀ x, x ∈ xs → Bd k x) (hn : xs.length ≤ 100000) : p.call (m + 3) "primitive" [.lst (xs.map enc)] = .ok (.fr (.lst ((primG xs).map D.int))) := by
  have sb := sizeBig
  rw [HasFL.run, levDef_out (show ([D.lst (xs.map enc)].map LV.d).length = 1 from rfl)]
  have c1 := sp_commonL (p := p) (m := m) hL hl hx
  obtain ⟨⟨_, _⟩, hSL, _, hSd⟩ := lcm_loopL (p := p) (m := 0) hL hl xs 1 .un .un hx (Nat.one_dvd _)
  have hS0 : 0 < lcmG 1 xs := lcmG_pos xs 1 (by decide)
  generalize hS : lcmG 1 xs = S at *
  have hSl : S < 2 ^ 64 := Nat.lt_of_le_of_lt (Nat.le_of_dvd hL hSL) hl
  have hrow : rowG xs = xs.map fun x => x.num * ((S / x.den : Nat) : Int) := by unfold rowG; rw [hS]
  -- the statements
  have q0 : lexec (p.ltb (m + 2)) (Lr.primitive.getD 0 .pass) ⟨[.v (.d (.lst (xs.map enc))), .un, .un, .un, .un], []⟩ = .ok (.nx ⟨[.v (.d (.lst (xs.map enc))), .v (.d (.int S)), .un, .un, .un], []⟩) := by
    have e : evA (p.ltb (m + 2)) [.v (.d (.lst (xs.map enc))), .un, .un, .un, .un] (.p (.call "common_bottom" [.var 0]) [0]) [] = .ok (.d (.int S)) [] := by
      rw [evA, evP_pur (v := .fz (.int S)) (by simp [anyLv]) (by simp [evDef, startS, PX.execs, PX.exec, evX, evXB, evXL, frzS, anyOw, evE, evL, evJ, evT, bindE, bindT, bindTp, opCmp, opI2, storeIx, E.non?, slB, c1])]
      rfl
    show lexec (p.ltb (m + 2)) (.asg (.nm 1) (.p (.call "common_bottom" [.var 0]) [0])) _ = _
    simp [lexec, e, bindL]
  have q1 : lexec (p.ltb (m + 2)) (Lr.primitive.getD 1 .pass) ⟨[.v (.d (.lst (xs.map enc))), .v (.d (.int S)), .un, .un, .un], []⟩ = .ok (.nx ⟨[.v (.d (.lst (xs.map enc))), .v (.d (.int S)), .v (.r 0), .un, .un], [.lst ((rowG xs).map fun n => .d (.int n))]⟩) := by
    have e : evA (p.ltb (m + 2)) [.v (.d (.lst (xs.map enc))), .v (.d (.int S)), .un, .un, .un] (.lcL [3] (.nm 3) (.v 0) [] Lr.primitive_e1) [] = .ok (.r 0) [.lst ((xs.map fun x => D.int (x.num * ((S / x.den : Nat) : Int))).map .d)] := by
      refine evA_lcL_d (ea := enc) (h := []) (by simp [evA]) (by omega) fun x hm h => ?_
      have t1 := sp_top_of (p := p) (m := m + 1) x
      have t2 := sp_bottom_of (p := p) (m := m + 1) x
      have dx := hSd x hm
      have bx := hb x hm
      have f := fdiv_dvd dx x.den_pos
      have ld : lgI (x.den : Int) < divLine := lg_div bx.di bx.pos (by omega)
      have hq : ((S / x.den : Nat) : Int).natAbs < 2 ^ 64 := by
        rw [Int.natAbs_natCast]
        exact Nat.lt_of_le_of_lt (Nat.div_le_self _ _) hSl
      have l1 : lgI x.num + lgI ((S / x.den : Nat) : Int) < mulLine := lg_mul bx.n hq (by omega) bx.pos (by decide)
      have dn := den_nz x
      have od := ob_div (i := (S : Int)) dn ld
      rw [f] at od
      have om := ob_mul l1
      generalize ((S / x.den : Nat) : Int) = Q at *
      have ee : evE (p.tb (m + 2)) [.fz (.lst (xs.map enc)), .fz (.int S), .un, .fz (enc x), .un] (.bin .Mult (.call "top_of" [.var 3]) (.bin .FloorDiv (.var 1) (.call "bottom_of" [.var 3]))) = .ok (.fz (.int (x.num * Q))) := by
        generalize xs.map enc = X
        simp [evDef, startS, PX.execs, PX.exec, evX, evXB, evXL, frzS, anyOw, evE, evL, evJ, evT, bindE, bindT, bindTp, opCmp, opI2, storeIx, E.non?, slB, t1, t2, od, om]
      show evA _ [.v (.d (.lst (xs.map enc))), .v (.d (.int S)), .un, .v (.d (enc x)), .un] Lr.primitive_e1 h = _
      unfold Lr.primitive_e1
      rw [evA, evP_pur (v := .fz (.int (x.num * Q))) (by simp [anyLv]) (by simpa using ee)]
      rfl
    have e3 : ((xs.map fun x => D.int (x.num * ((S / x.den : Nat) : Int))).map LV.d) = (rowG xs).map fun n => LV.d (.int n) := by rw [hrow, List.map_map, List.map_map]; rfl
    rw [e3] at e
    show lexec (p.ltb (m + 2)) (.asg (.nm 2) (.lcL [3] (.nm 3) (.v 0) [] Lr.primitive_e1)) _ = _
    simp [lexec, e, bindL]
  have hRb : ∀ n, n ∈ rowG xs → n.natAbs < 2 ^ (k + 64) := fun n hn => by
    rw [hrow] at hn
    obtain ⟨x, hm, rfl⟩ := List.mem_map.mp hn
    refine pw_imul (hb x hm).n ?_
    rw [Int.natAbs_natCast]
    exact Nat.lt_of_le_of_lt (Nat.div_le_self _ _) hSl
  have hRl : (rowG xs).length = xs.length := by rw [hrow, List.length_map]
  unfold primG
  generalize rowG xs = R at *
  generalize hX : xs.map enc = X at *
  have q2 : lexec (p.ltb (m + 2)) (Lr.primitive.getD 2 .pass) ⟨[.v (.d (.lst X)), .v (.d (.int S)), .v (.r 0), .un, .un], [.lst (R.map fun n => .d (.int n))]⟩ = .ok (.nx ⟨[.v (.d (.lst X)), .v (.d (.int S)), .v (.r 0), .un, .v (.d (.int ((0 : Nat) : Int)))], [.lst (R.map fun n => .d (.int n))]⟩) := by
    have e : ∀ h, evA (p.ltb (m + 2)) [.v (.d (.lst X)), .v (.d (.int S)), .v (.r 0), .un, .un] (.p (.int 0) []) h = .ok (.d (.int 0)) h := fun h => by
      rw [evA, evP_pur (v := .fz (.int 0)) (by simp [anyLv]) (by simp [evDef, startS, PX.execs, PX.exec, evX, evXB, evXL, frzS, anyOw, evE, evL, evJ, evT, bindE, bindT, bindTp, opCmp, opI2, storeIx, E.non?, slB])]
      rfl
    show lexec (p.ltb (m + 2)) (.asg (.nm 4) (.p (.int 0) [])) _ = _
    simp [lexec, e, bindL]
  have q3 : ∃ l', lexec (p.ltb (m + 2)) (Lr.primitive.getD 3 .pass) ⟨[.v (.d (.lst X)), .v (.d (.int S)), .v (.r 0), .un, .v (.d (.int ((0 : Nat) : Int)))], [.lst (R.map fun n => .d (.int n))]⟩ = .ok (.nx ⟨[.v (.d (.lst X)), .v (.d (.int S)), .v (.r 0), l', .v (.d (.int (gcdA 0 R : Nat)))], [.lst (R.map fun n => .d (.int n))]⟩) := by
    obtain ⟨l', e⟩ := lforL_nm (i := 3) (k := 0) (f := fun s => lexecs (p.ltb (m + 2)) Lr.primitive_b1 s) (h := [.lst (R.map fun n => .d (.int n))]) (vs := R.map fun n => .d (.int n)) rfl
      (fun (c : Nat) l => [.v (.d (.lst X)), .v (.d (.int S)), .v (.r 0), l, .v (.d (.int c))]) (fun _ _ _ => rfl) gstep (fun c x hm => by
        obtain ⟨n, hn, rfl⟩ := List.mem_map.mp hm
        have ee : evE (p.tb (m + 2)) [.fz (.lst X), .fz (.int S), .un, .fz (.int n), .fz (.int c)] (.bi .gcd [.var 4, .var 3]) = .ok (.fz (.int (Nat.gcd c n.natAbs : Nat))) := by simp [evDef, startS, PX.execs, PX.exec, evX, evXB, evXL, frzS, anyOw, evE, evL, evJ, evT, bindE, bindT, bindTp, opCmp, opI2, storeIx, E.non?, slB]
        have e : ∀ h, evA (p.ltb (m + 2)) [.v (.d (.lst X)), .v (.d (.int S)), .v (.r 0), .v (.d (.int n)), .v (.d (.int c))] (.p (.bi .gcd [.var 4, .var 3]) [3, 4]) h = .ok (.d (.int (Nat.gcd c n.natAbs : Nat))) h := fun h => by
          rw [evA, evP_pur (v := .fz (.int (Nat.gcd c n.natAbs : Nat))) (by simp [anyLv]) (by simpa using ee)]
          rfl
        simp only [gstep]
        simp [Lr.primitive_b1, lexecs, lexec, e, bindL]) R.length 0 0 .un (by simp)
    refine ⟨l', ?_⟩
    rw [List.drop_zero, gstep_fold] at e
    have e0 : ∀ h, evA (p.ltb (m + 2)) [.v (.d (.lst X)), .v (.d (.int S)), .v (.r 0), .un, .v (.d (.int ((0 : Nat) : Int)))] (.v 2) h = .ok (.r 0) h := fun h => by simp [evA]
    show lexec (p.ltb (m + 2)) (.forL (.nm 3) (.v 2) Lr.primitive_b1) _ = _
    rw [lexec]
    simp only [e0, LR.on_ok]
    show lforL (.nm 3) _ 0 ((R.map fun n => LV.d (.int n)).length + 1) 0 _ = _
    rw [List.length_map]
    exact e
  obtain ⟨l', q3⟩ := q3
  generalize hG : gcdA 0 R = g at *
  show LR.out (lexecs (p.ltb (m + 2)) (Lr.primitive.getD 0 .pass :: Lr.primitive.getD 1 .pass :: Lr.primitive.getD 2 .pass :: Lr.primitive.getD 3 .pass :: Lr.primitive.drop 4) ⟨[.v (.d (.lst X)), .un, .un, .un, .un], []⟩).outR = _
  rw [lexecs_cons, q0, LRS.then_nx, lexecs_cons, q1, LRS.then_nx, lexecs_cons, q2, LRS.then_nx, lexecs_cons, q3, LRS.then_nx]
  have hsn : snap [.lst (R.map fun n => .d (.int n))] 8 (.r 0) = some (.lst (R.map D.int)) := snap_lst (by rw [List.map_map]; rfl)
  by_cases h0 : g = 0
  · rw [if_pos h0]
    have e : lexecs (p.ltb (m + 2)) (Lr.primitive.drop 4) ⟨[.v (.d (.lst X)), .v (.d (.int S)), .v (.r 0), l', .v (.d (.int (g : Int)))], [.lst (R.map fun n => .d (.int n))]⟩ = .ok (.rt (.r 0) [.lst (R.map fun n => .d (.int n))]) := by
      show lexecs _ (.iff (.cmp .Eq (.var 4) (.int 0)) [4] [.ret (.v 2)] [] :: Lr.primitive.drop 5) _ = _
      have ec : evPB (p.ltb (m + 2)) [.v (.d (.lst X)), .v (.d (.int S)), .v (.r 0), l', .v (.d (.int (g : Int)))] [.lst (R.map fun n => .d (.int n))] [4] (.cmp .Eq (.var 4) (.int 0)) = .ok true [.lst (R.map fun n => .d (.int n))] := by
        unfold evPB
        simp [anyLv, evDef, startS, PX.execs, PX.exec, evX, evXB, evXL, frzS, anyOw, evE, evL, evJ, evT, bindE, bindT, bindTp, opCmp, opI2, storeIx, E.non?, slB, h0]
      rw [lexecs_cons, lexec]
      simp only [ec, LR.on_ok, ↓reduceIte]
      simp [lexecs, lexec, evA]
    rw [e, outR_rt, out_lst (ds := R.map D.int) (by rw [List.map_map]; rfl)]
  · rw [if_neg h0]
    obtain ⟨n0, hn0, hnz⟩ := gcdA_nz (by rw [hG]; exact h0)
    obtain ⟨j, rr, es1, es2⟩ := sup_head R 0 ⟨n0, hn0, hnz⟩
    rw [Nat.zero_add] at es1
    have hgl : g < 2 ^ (k + 64) := by
      have := (gcdA_dvd R 0).2 n0 hn0
      rw [hG] at this
      have h1 : g ≤ n0.natAbs := Nat.le_of_dvd (by omega) (Int.ofNat_dvd_left.mp this)
      have h2 := hRb n0 hn0
      omega
    have su : p.call (m + 2) "support" [.lst (R.map D.int)] = .ok (.fr (.lst ((j :: rr).map natD))) := by
      have := sp_support (p := p) (m := m + 1) (xs := R.map fun n : Int => (n : Rat)) (by rw [List.length_map]; omega)
      rw [encs_int] at this
      simp only [supG, es1] at this
      exact this
    have hj : j < R.length := (List.getElem?_eq_some_iff.mp es2).1
    have aj : atI (R.map D.int) (j : Int) = some (.int (fstN R)) := by
      unfold atI ixN
      rw [if_pos (by omega), if_pos (by rw [List.length_map]; omega)]
      simp [es2]
    have hrest : ∀ gg : Int, gg ≠ 0 → lgI gg < divLine → lexecs (p.ltb (m + 2)) (Lr.primitive.drop 6) ⟨[.v (.d (.lst X)), .v (.d (.int S)), .v (.r 0), l', .v (.d (.int gg))], [.lst (R.map fun n => .d (.int n))]⟩ = .ok (.rt (.r 1) [.lst (R.map fun n => .d (.int n)), .lst (((R.map fun n => n.fdiv gg).map D.int).map .d)]) := fun gg g0 g1 => by
      have e : evA (p.ltb (m + 2)) [.v (.d (.lst X)), .v (.d (.int S)), .v (.r 0), l', .v (.d (.int gg))] (.lcL [3] (.nm 3) (.v 2) [] Lr.primitive_e2) [.lst (R.map fun n => .d (.int n))] = .ok (.r 1) [.lst (R.map fun n => .d (.int n)), .lst ((R.map fun n => D.int (n.fdiv gg)).map .d)] := by
        refine evA_lcL_r (ea := D.int) (li := 0) (h := [.lst (R.map fun n => .d (.int n))]) (by simp [evA]) rfl (by omega) fun n hm h => ?_
        have od := ob_div (i := n) g0 g1
        have ee : evE (p.tb (m + 2)) [.fz (.lst X), .fz (.int S), .un, .fz (.int n), .fz (.int gg)] (.bin .FloorDiv (.var 3) (.var 4)) = .ok (.fz (.int (n.fdiv gg))) := by
          simp [evDef, startS, PX.execs, PX.exec, evX, evXB, evXL, frzS, anyOw, evE, evL, evJ, evT, bindE, bindT, bindTp, opCmp, opI2, storeIx, E.non?, slB, od]
        show evA _ [.v (.d (.lst X)), .v (.d (.int S)), .v (.r 0), .v (.d (.int n)), .v (.d (.int gg))] Lr.primitive_e2 h = _
        unfold Lr.primitive_e2
        rw [evA, evP_pur (v := .fz (.int (n.fdiv gg))) (by simp [anyLv]) (by simpa using ee)]
        rfl
      show lexecs _ [.ret (.lcL [3] (.nm 3) (.v 2) [] Lr.primitive_e2)] _ = _
      rw [lexecs_cons, lexec]
      simp only [e, LR.on_ok, LRS.then_rt]
      rw [List.map_map (g := D.int)]; rfl
    have e4 : lexecs (p.ltb (m + 2)) (Lr.primitive.drop 4) ⟨[.v (.d (.lst X)), .v (.d (.int S)), .v (.r 0), l', .v (.d (.int (g : Int)))], [.lst (R.map fun n => .d (.int n))]⟩ = lexecs (p.ltb (m + 2)) (Lr.primitive.drop 6) ⟨[.v (.d (.lst X)), .v (.d (.int S)), .v (.r 0), l', .v (.d (.int (if fstN R < 0 then -(g : Int) else g)))], [.lst (R.map fun n => .d (.int n))]⟩ := by
      show lexecs _ (.iff (.cmp .Eq (.var 4) (.int 0)) [4] [.ret (.v 2)] [] :: .iff (.cmp .Lt (.ix (.var 2) (.ix (.call "support" [.var 2]) (.int 0))) (.int 0)) [2] [.asg (.nm 4) (.p (.neg (.var 4)) [4])] [] :: Lr.primitive.drop 6) _ = _
      have g0 : ¬ (g : Int) = 0 := by omega
      have ec : evPB (p.ltb (m + 2)) [.v (.d (.lst X)), .v (.d (.int S)), .v (.r 0), l', .v (.d (.int (g : Int)))] [.lst (R.map fun n => .d (.int n))] [4] (.cmp .Eq (.var 4) (.int 0)) = .ok false [.lst (R.map fun n => .d (.int n))] := by
        unfold evPB
        simp [anyLv, evDef, startS, PX.execs, PX.exec, evX, evXB, evXL, frzS, anyOw, evE, evL, evJ, evT, bindE, bindT, bindTp, opCmp, opI2, storeIx, E.non?, slB, h0]
      have ec2 : evPB (p.ltb (m + 2)) [.v (.d (.lst X)), .v (.d (.int S)), .v (.r 0), l', .v (.d (.int (g : Int)))] [.lst (R.map fun n => .d (.int n))] [2] (.cmp .Lt (.ix (.var 2) (.ix (.call "support" [.var 2]) (.int 0))) (.int 0)) = .ok (decide (fstN R < 0)) [.lst (R.map fun n => .d (.int n))] := by
        have ef : evE (p.tb (m + 2)) ([LSl.v (.d (.lst X)), .v (.d (.int S)), .v (.r 0), l', .v (.d (.int (g : Int)))].map (LSl.frz [.lst (R.map fun n => .d (.int n))])) (.cmp .Lt (.ix (.var 2) (.ix (.call "support" [.var 2]) (.int 0))) (.int 0)) = .ok (.fz (.bl (decide (fstN R < 0)))) := by
          have fr := frz_r hsn
          generalize R.map D.int = RR at *
          generalize [LO.lst (R.map fun n => .d (.int n))] = HH at *
          simp [evDef, startS, PX.execs, PX.exec, evX, evXB, evXL, frzS, anyOw, evE, evL, evJ, evT, bindE, bindT, bindTp, opCmp, opI2, storeIx, E.non?, slB, fr, su, aj, natD, at0]
        unfold evPB
        rw [if_pos (by simp [anyLv]), show (p.ltb (m + 2)).t = p.tb (m + 2) from rfl, ef]
        simp
      rw [lexecs_cons, lexec]
      simp only [ec, LR.on_ok]
      rw [if_neg Bool.false_ne_true, lexecs, LRS.then_nx, lexecs_cons, lexec]
      simp only [ec2, LR.on_ok]
      by_cases hf : fstN R < 0
      · rw [if_pos hf, if_pos (decide_eq_true hf)]
        have e : ∀ h, evA (p.ltb (m + 2)) [.v (.d (.lst X)), .v (.d (.int S)), .v (.r 0), l', .v (.d (.int (g : Int)))] (.p (.neg (.var 4)) [4]) h = .ok (.d (.int (-(g : Int)))) h := fun h => by
          rw [evA, evP_pur (v := .fz (.int (-(g : Int)))) (by simp [anyLv]) (by simp [evDef, startS, PX.execs, PX.exec, evX, evXB, evXL, frzS, anyOw, evE, evL, evJ, evT, bindE, bindT, bindTp, opCmp, opI2, storeIx, E.non?, slB])]
          rfl
        simp [lexecs, lexec, e, bindL]
      · rw [if_neg hf, if_neg (by simp [hf]), lexecs, LRS.then_nx]
    have hgn : (if fstN R < 0 then -(g : Int) else (g : Int)) ≠ 0 := by split <;> omega
    have hgd : lgI (if fstN R < 0 then -(g : Int) else (g : Int)) < divLine := by
      refine lg_div (k := k + 64) ?_ (by omega) (by omega)
      split
      · rw [Int.natAbs_neg, Int.natAbs_natCast]; exact hgl
      · rw [Int.natAbs_natCast]; exact hgl
    rw [e4, hrest _ hgn hgd, outR_rt, out_lst (ds := (R.map fun n => n.fdiv (if fstN R < 0 then -(g : Int) else g)).map D.int) rfl]
end
end PX

set_option Elab.async false
set_option linter.all false
set_option maxRecDepth 100000
/-! RYe: what primitive rows are. -/
namespace PX
open PySem PySem.Spec PyProof.Rows L2
theorem gcdA_scaleI (s : Int) : ∀ (ns : List Int) (c : Nat), gcdA (c * s.natAbs) (ns.map fun n => n * s) = gcdA c ns * s.natAbs
  | [], c => rfl
  | n :: ns, c => by
    show gcdA (Nat.gcd (c * s.natAbs) (n * s).natAbs) _ = gcdA (Nat.gcd c n.natAbs) ns * s.natAbs
    rw [Int.natAbs_mul, Nat.gcd_mul_right]
    exact gcdA_scaleI s ns _
theorem cast_inj {a b : Int} (h : (a : Rat) = (b : Rat)) : a = b := congrArg Rat.num h
theorem cast_nz {a : Int} (h : a ≠ 0) : (a : Rat) ≠ 0 := fun z => h (cast_inj z)
theorem nat_nz {a : Nat} (h : a ≠ 0) : (a : Rat) ≠ 0 := fun z => h (by
  have : ((a : Int) : Rat) = ((0 : Int) : Rat) := z
  have := cast_inj this
  omega)
theorem mul_den (x : Rat) : x * (x.den : Rat) = (x.num : Rat) := by
  have h : (x.den : Rat) ≠ 0 := nat_nz x.den_nz
  have e : x = (x.num : Rat) / (x.den : Rat) := by
    have q := Rat.divInt_eq_div x.num (x.den : Int)
    rw [Rat.num_divInt_den] at q
    exact q
  conv => lhs; arg 1; rw [e]
  rw [Rat.div_def, Rat.mul_assoc, Rat.inv_mul_cancel _ h, Rat.mul_one]
theorem pos_mul {a s : Int} (h : 0 < a * s) (hs : 0 < s) : 0 < a := by
  by_cases q : 0 < a
  · exact q
  · have := Int.mul_le_mul_of_nonneg_right (show a ≤ 0 by omega) (show 0 ≤ s by omega)
    rw [Int.zero_mul] at this
    omega
theorem row_val {x : Rat} {S : Nat} (h : x.den ∣ S) : ((x.num * ((S / x.den : Nat) : Int) : Int) : Rat) = x * (S : Rat) := by
  obtain ⟨q, rfl⟩ := h
  rw [Nat.mul_div_cancel_left q x.den_pos, Rat.intCast_mul, Rat.natCast_mul, ← Rat.mul_assoc]
  have : x * (x.den : Rat) = (x.num : Rat) := mul_den x
  rw [this]; rfl
abbrev toQ (ns : List Int) : List Rat := ns.map fun n : Int => (n : Rat)
theorem row_toQ (xs : List Rat) : toQ (rowG xs) = xs.map fun x => x * (lcmG 1 xs : Rat) := by
  unfold rowG toQ
  rw [List.map_map]
  exact List.map_congr_left fun x hx => row_val ((lcmG_dvd xs 1).2 x hx)
theorem row_nz {xs : List Rat} (h : ∃ x, x ∈ xs ∧ x ≠ 0) : gcdA 0 (rowG xs) ≠ 0 := fun z => by
  obtain ⟨x, hx, h0⟩ := h
  have e := gcdA_zero z (x.num * ((lcmG 1 xs / x.den : Nat) : Int)) (List.mem_map.mpr ⟨x, hx, rfl⟩)
  have q := row_val ((lcmG_dvd xs 1).2 x hx)
  rw [e] at q
  have hS : (lcmG 1 xs : Rat) ≠ 0 := nat_nz (by have := lcmG_pos xs 1 (by decide); omega)
  rcases Rat.mul_eq_zero.mp q.symm with q | q
  · exact h0 q
  · exact hS q
structure IsPrim (ns : List Int) : Prop where
  g : gcdA 0 ns = 1
  f : 0 < fstN ns
theorem prim_spec {xs : List Rat} (h : ∃ x, x ∈ xs ∧ x ≠ 0) : IsPrim (primG xs) ∧ ∃ c : Rat, c ≠ 0 ∧ toQ (primG xs) = xs.map fun x => x * c := by
  have g0 := row_nz h
  have rq := row_toQ xs
  have hS : (lcmG 1 xs : Rat) ≠ 0 := nat_nz (by have := lcmG_pos xs 1 (by decide); omega)
  unfold primG
  rw [if_neg g0]
  have hd := (gcdA_dvd (rowG xs) 0).2
  obtain ⟨n0, hn0, hnz⟩ := gcdA_nz g0
  have fn := fstN_nz ⟨n0, hn0, hnz⟩
  generalize rowG xs = R at *
  generalize hg : gcdA 0 R = g at *
  generalize hs : (if fstN R < 0 then -(g : Int) else (g : Int)) = s
  have sn : s ≠ 0 := by rw [← hs]; split <;> omega
  have sa : s.natAbs = g := by rw [← hs]; split <;> omega
  have ex : ∀ n, n ∈ R → n.fdiv s * s = n := fun n hn => by
    have d1 := hd n hn
    have d2 : s ∣ n := by
      rw [← Int.natAbs_dvd, sa]; exact d1
    exact Int.fdiv_mul_cancel d2
  have eR : (R.map fun n => n.fdiv s).map (fun n => n * s) = R := by
    rw [List.map_map]
    conv => rhs; rw [← List.map_id R]
    exact List.map_congr_left ex
  generalize hP : (R.map fun n => n.fdiv s) = P at *
  have e1 : gcdA 0 P * g = g := by
    have := gcdA_scaleI s P 0
    rw [eR, Nat.zero_mul, hg, sa] at this
    exact this.symm
  have e2 := fstN_scale s sn P
  rw [eR] at e2
  refine ⟨⟨?_, ?_⟩, (lcmG 1 xs : Rat) / (s : Rat), ?_, ?_⟩
  · have : 0 < g := by omega
    exact Nat.eq_of_mul_eq_mul_right this (by rw [e1, Nat.one_mul])
  · by_cases hf : fstN R < 0
    · rw [if_pos hf] at hs
      have : s < 0 := by omega
      rw [e2] at hf
      exact Int.pos_of_mul_neg_left hf this
    · rw [if_neg hf] at hs
      have sp : 0 < s := by omega
      have : 0 < fstN R := by omega
      rw [e2] at this
      exact pos_mul this sp
  · intro z
    rw [Rat.div_def] at z
    rcases Rat.mul_eq_zero.mp z with z | z
    · exact hS z
    · have := Rat.mul_inv_cancel _ (cast_nz sn)
      rw [z, Rat.mul_zero] at this
      exact absurd this (by decide)
  · have e3 : toQ P = (toQ R).map fun x => x / (s : Rat) := by
      rw [← eR]
      unfold toQ
      rw [List.map_map, List.map_map]
      refine List.map_congr_left fun n _ => ?_
      show (n : Rat) = ((n * s : Int) : Rat) / (s : Rat)
      rw [Rat.intCast_mul, Rat.div_def, Rat.mul_assoc, Rat.mul_inv_cancel _ (cast_nz sn), Rat.mul_one]
    rw [e3, rq, List.map_map]
    refine List.map_congr_left fun x _ => ?_
    show x * (lcmG 1 xs : Rat) / (s : Rat) = x * ((lcmG 1 xs : Rat) / (s : Rat))
    rw [Rat.div_def, Rat.div_def, Rat.mul_assoc]
theorem toQ_scale {c : Rat} : ∀ {ns ms : List Int}, toQ ns = (toQ ms).map (fun x => x * c) → ns.map (fun n => n * (c.den : Int)) = ms.map fun n => n * c.num
  | [], [], _ => rfl
  | [], _ :: _, h => by cases h
  | _ :: _, [], h => by cases h
  | n :: ns, m :: ms, h => by
    have h1 : (n : Rat) = (m : Rat) * c := (List.cons.inj h).1
    have h2 := toQ_scale (ns := ns) (ms := ms) (List.cons.inj h).2
    rw [List.map_cons, List.map_cons, h2]
    congr 1
    apply cast_inj
    rw [Rat.intCast_mul, Rat.intCast_mul, h1, Rat.mul_assoc]
    congr 1
    exact mul_den c
theorem prim_uniq {ns ms : List Int} (h1 : IsPrim ns) (h2 : IsPrim ms) {c : Rat} (e : toQ ns = (toQ ms).map fun x => x * c) : ns = ms := by
  have q := toQ_scale e
  have d0 : (c.den : Int) ≠ 0 := den_nz c
  have g1 := gcdA_scaleI (c.den : Int) ns 0
  have g2 := gcdA_scaleI c.num ms 0
  rw [Nat.zero_mul] at g1 g2
  rw [q, g2, h1.g, h2.g, Nat.one_mul, Nat.one_mul, Int.natAbs_natCast] at g1
  have n0 : c.num ≠ 0 := fun z => by rw [z] at g1; simp at g1; exact c.den_nz g1.symm
  have f1 := fstN_scale (c.den : Int) d0 ns
  have f2 := fstN_scale c.num n0 ms
  rw [q, f2] at f1
  have p1 : 0 < fstN ns * (c.den : Int) := Int.mul_pos h1.f (by have := c.den_pos; omega)
  have cn : 0 < c.num := by
    rw [← f1] at p1
    rw [Int.mul_comm] at p1
    exact pos_mul p1 h2.f
  have ce : c.num = (c.den : Int) := by omega
  rw [ce] at q
  have inj : ∀ a b : Int, a * (c.den : Int) = b * (c.den : Int) → a = b := fun a b h => Int.eq_of_mul_eq_mul_right d0 h
  clear e g1 g2 f1 f2 p1 h1 h2
  induction ns generalizing ms with
  | nil => cases ms with
    | nil => rfl
    | cons _ _ => cases q
  | cons n ns ih => cases ms with
    | nil => cases q
    | cons m ms =>
      rw [inj n m (List.cons.inj q).1, ih (List.cons.inj q).2]
/-- the same for multiples -/
theorem prim_mul {xs : List Rat} {d : Rat} (h : ∃ x, x ∈ xs ∧ x ≠ 0) (hd : d ≠ 0) : primG (xs.map fun x => x * d) = primG xs := by
  obtain ⟨p1, c, hc, e1⟩ := prim_spec h
  have h2 : ∃ x, x ∈ (xs.map fun x => x * d) ∧ x ≠ 0 := by
    obtain ⟨x, hx, h0⟩ := h
    exact ⟨x * d, List.mem_map.mpr ⟨x, hx, rfl⟩, fun z => by rcases Rat.mul_eq_zero.mp z with z | z; exact h0 z; exact hd z⟩
  obtain ⟨p2, c2, hc2, e2⟩ := prim_spec h2
  refine prim_uniq (c := c⁻¹ * d * c2) p2 p1 ?_
  rw [e2, e1, List.map_map, List.map_map]
  refine List.map_congr_left fun x _ => ?_
  show x * d * c2 = x * c * (c⁻¹ * d * c2)
  rw [Rat.mul_assoc x c, ← Rat.mul_assoc c, ← Rat.mul_assoc c, Rat.mul_inv_cancel _ hc, Rat.one_mul, Rat.mul_assoc]
theorem toQ_nz {ns : List Int} (h : IsPrim ns) : ∃ x, x ∈ toQ ns ∧ x ≠ 0 := by
  obtain ⟨n, hn, h0⟩ := gcdA_nz (ns := ns) (by rw [h.g]; decide)
  exact ⟨(n : Rat), List.mem_map.mpr ⟨n, hn, rfl⟩, cast_nz h0⟩
theorem prim_id {ns : List Int} (h : IsPrim ns) : primG (toQ ns) = ns := by
  obtain ⟨p, c, hc, e⟩ := prim_spec (toQ_nz h)
  exact prim_uniq p h e
theorem prim_zero {xs : List Rat} (h : ∀ x, x ∈ xs → x = 0) : primG xs = xs.map fun _ => 0 := by
  have e : rowG xs = xs.map fun _ => 0 := by
    unfold rowG
    refine List.map_congr_left fun x hx => ?_
    rw [h x hx]
    show (0 : Int) * _ = 0
    rw [Int.zero_mul]
  have g : gcdA 0 (rowG xs) = 0 := by
    rw [e]
    refine gcdA_all0 fun n hn => ?_
    obtain ⟨_, _, rfl⟩ := List.mem_map.mp hn
    rfl
  unfold primG
  rw [if_pos g, e]
theorem prim_len (xs : List Rat) : (primG xs).length = xs.length := by
  unfold primG rowG
  split <;> simp
end PX

set_option Elab.async false
set_option linter.all false
set_option maxRecDepth 100000
/-! LYd: the laws' helpers: sums, products, likeness. -/
namespace PX
open PySem PySem.Spec PyProof.Rows L2
@[simp] theorem ib_int (b : Bool) (i : Int) : D.isBl b (.int i) = false := rfl
@[simp] theorem ib_tup (b : Bool) (l : List D) : D.isBl b (.tup l) = false := rfl
@[simp] theorem ib_lst (b : Bool) (l : List D) : D.isBl b (.lst l) = false := rfl
@[simp] theorem ib_str (b : Bool) (l : Str) : D.isBl b (.str l) = false := rfl
@[simp] theorem kb_int_list' : kitB "int" "list" = some false := by decide +kernel
@[simp] theorem kb_tuple_list : kitB "tuple" "list" = some false := by decide +kernel
@[simp] theorem kb_tuple_str : kitB "tuple" "str" = some false := by decide +kernel
@[simp] theorem kb_list_str : kitB "list" "str" = some false := by decide +kernel
@[simp] theorem kb_list_bool : kitB "list" "bool" = some false := by decide +kernel
section
variable {p : Prg} {m : Nat}
theorem sp_lplus [HasF p "_law_gcd" 3 2 Bl._law_gcd] [HasF p "_law_make" 3 2 Bl._law_make] [HasF p "_law_top" 1 1 Bl._law_top] [HasF p "_law_bottom" 1 1 Bl._law_bottom] [HasF p "_law_plus" 3 2 Bl._law_plus] {x y : Rat} {k : Nat} (bx : Bd k x) (b2 : Bd k y) (hk : 2 * k + 1 ≤ 990) :
    p.call (m + 3) "_law_plus" [enc x, enc y] = .ok (.fz (enc (x + y))) := by
  rw [HasF.run]
  have t1 := sp_ltop (p := p) (m := m + 1) x
  have t2 := sp_lbottom (p := p) (m := m + 1) x
  have t3 := sp_ltop (p := p) (m := m + 1) y
  have t4 := sp_lbottom (p := p) (m := m + 1) y
  have l1 : lgI x.num + lgI (y.den : Int) < mulLine := lg_mul bx.n b2.di (by omega) bx.pos bx.pos
  have l2 : lgI y.num + lgI (x.den : Int) < mulLine := lg_mul b2.n bx.di (by omega) bx.pos bx.pos
  have l3 : lgI (x.den : Int) + lgI (y.den : Int) < mulLine := lg_mul bx.di b2.di (by omega) bx.pos bx.pos
  have e := sp_make (p := p) (m := m) (k := 2 * k + 1) (a := x.num * y.den + y.num * x.den) (b := (x.den : Int) * y.den) (by
    have := pw_iadd (pw_imul bx.n b2.di) (pw_imul b2.n bx.di)
    rw [show 2 * k + 1 = k + k + 1 by omega]; exact this) (pw_le (pw_imul bx.di b2.di) (by omega)) hk (dens_nz x y)
  rw [← add_divInt] at e
  simp [evDef, startS, PX.execs, PX.exec, evX, evXB, evXL, frzS, anyOw, evE, evL, evJ, evT, bindE, bindT, bindTp, opCmp, opI2, storeIx, E.non?, slB, Bl._law_plus, t1, t2, t3, t4, l1, l2, l3, e]
theorem sp_ltimes [HasF p "_law_gcd" 3 2 Bl._law_gcd] [HasF p "_law_make" 3 2 Bl._law_make] [HasF p "_law_top" 1 1 Bl._law_top] [HasF p "_law_bottom" 1 1 Bl._law_bottom] [HasF p "_law_times" 2 2 Bl._law_times] {x y : Rat} {k : Nat} (bx : Bd k x) (b2 : Bd k y) (hk : 2 * k ≤ 990) :
    p.call (m + 3) "_law_times" [enc x, enc y] = .ok (.fz (enc (x * y))) := by
  rw [HasF.run]
  have t1 := sp_ltop (p := p) (m := m + 1) x
  have t2 := sp_lbottom (p := p) (m := m + 1) x
  have t3 := sp_ltop (p := p) (m := m + 1) y
  have t4 := sp_lbottom (p := p) (m := m + 1) y
  have l1 : lgI x.num + lgI y.num < mulLine := lg_mul bx.n b2.n (by omega) bx.pos bx.pos
  have l3 : lgI (x.den : Int) + lgI (y.den : Int) < mulLine := lg_mul bx.di b2.di (by omega) bx.pos bx.pos
  have e := sp_make (p := p) (m := m) (k := 2 * k) (a := x.num * y.num) (b := (x.den : Int) * y.den) (by
    rw [show 2 * k = k + k by omega]; exact pw_imul bx.n b2.n) (by rw [show 2 * k = k + k by omega]; exact pw_imul bx.di b2.di) hk (dens_nz x y)
  rw [← mul_divInt] at e
  simp [evDef, startS, PX.execs, PX.exec, evX, evXB, evXL, frzS, anyOw, evE, evL, evJ, evT, bindE, bindT, bindTp, opCmp, opI2, storeIx, E.non?, slB, Bl._law_times, t1, t2, t3, t4, l1, l3, e]
theorem sp_lless [HasF p "_law_top" 1 1 Bl._law_top] [HasF p "_law_bottom" 1 1 Bl._law_bottom] [HasF p "_law_less" 2 2 Bl._law_less] {x y : Rat} {k : Nat} (bx : Bd k x) (b2 : Bd k y) (hk : k ≤ 4000) :
    p.call (m + 2) "_law_less" [enc x, enc y] = .ok (.fz (.bl (decide (x < y)))) := by
  rw [HasF.run]
  have t1 := sp_ltop (p := p) (m := m) x
  have t2 := sp_lbottom (p := p) (m := m) x
  have t3 := sp_ltop (p := p) (m := m) y
  have t4 := sp_lbottom (p := p) (m := m) y
  have l1 : lgI x.num + lgI (y.den : Int) < mulLine := lg_mul bx.n b2.di (by omega) bx.pos bx.pos
  have l2 : lgI y.num + lgI (x.den : Int) < mulLine := lg_mul b2.n bx.di (by omega) bx.pos bx.pos
  have e : decide (x.num * y.den < y.num * x.den) = decide (x < y) := by
    congr 1
    exact propext (Rat.lt_iff x y).symm
  simp [evDef, startS, PX.execs, PX.exec, evX, evXB, evXL, frzS, anyOw, evE, evL, evJ, evT, bindE, bindT, bindTp, opCmp, opI2, storeIx, E.non?, slB, Bl._law_less, t1, t2, t3, t4, l1, l2, e]
/-! ### loops by places -/
theorem at_encs (xs : List Rat) (k : Nat) (h : k < xs.length) : atI (xs.map enc) (k : Int) = some (enc xs[k]) := by
  unfold atI ixN
  rw [if_pos (by omega), if_pos (by rw [List.length_map]; omega)]
  simp [h]
theorem at_ints (row : List Int) (k : Nat) (h : k < row.length) : atI (row.map D.int) (k : Int) = some (.int row[k]) := by
  unfold atI ixN
  rw [if_pos (by omega), if_pos (by rw [List.length_map]; omega)]
  simp [h]
theorem rngD_nat (n : Nat) : rngD n = (List.range n).map natD := rngD_eq n
/-- a loop that may return -/
theorem forGo_find {α : Type} {i : Nat} {b : Rho → RS} (S : Sl → Rho) (hS : ∀ s d, (S s).set i (.fz d) = S (.fz d)) (ea : α → D) (ret : α → Option EV) : ∀ (xs : List α) (s : Sl),
    (∀ x, x ∈ xs → b (S (.fz (ea x))) = match ret x with | none => .ok (.nx (S (.fz (ea x)))) | some v => .ok (.rt v)) →
    match xs.findSome? ret with
    | none => ∃ s', forGo (.nm i) b (xs.map ea) (S s) = .ok (.nx (S s'))
    | some v => forGo (.nm i) b (xs.map ea) (S s) = .ok (.rt v)
  | [], s, _ => ⟨s, forGo_nil⟩
  | x :: xs, s, h => by
    have h1 := h x List.mem_cons_self
    have ih := forGo_find S hS ea ret xs (.fz (ea x)) (fun y hy => h y (List.mem_cons_of_mem _ hy))
    rw [List.findSome?_cons, List.map_cons, forGo_cons]
    simp only [bindT, R.on_ok]
    rw [hS]
    cases e : ret x with
    | some v =>
      rw [e] at h1
      rw [h1]; rfl
    | none =>
      rw [e] at h1
      rw [h1, RS.turn_nx]
      exact ih
theorem findSome_range {α β : Type} (l : List α) (f : α → Option β) (g : Nat → Option β) (h : ∀ (k : Nat) (hk : k < l.length), g k = f l[k]) : (List.range l.length).findSome? g = l.findSome? f := by
  have e : l.map f = (List.range l.length).map g := by
    apply List.ext_getElem
    · simp
    · intro k h1 h2
      simp at h1
      simp [h k h1]
  have a : ∀ l : List (Option β), l.findSome? id = l.findSome? id := fun _ => rfl
  have b : ∀ {γ : Type} (l : List γ) (f : γ → Option β), l.findSome? f = (l.map f).findSome? id := by
    intro γ l f
    induction l with
    | nil => rfl
    | cons x xs ih => rw [List.map_cons, List.findSome?_cons, List.findSome?_cons, ih]; rfl
  rw [b, b l, e]
theorem execs_app {T : Tb} : ∀ {a b : List S} {ρ : Rho}, PX.execs T (a ++ b) ρ = (PX.execs T a ρ).then (PX.execs T b)
  | [], b, ρ => by
    rw [List.nil_append]
    conv => rhs; rw [PX.execs]
    rfl
  | s :: a, b, ρ => by
    rw [List.cons_append, PX.execs_cons, PX.execs_cons]
    cases e : PX.exec T s ρ with
    | st => rfl
    | ex c fs ρ1 => rfl
    | ok f =>
      cases f with
      | nx ρ1 => rw [RS.then_nx, RS.then_nx]; exact execs_app
      | rt v => rfl
      | bk ρ1 => rfl
      | ct ρ1 => rfl
/-! ### likeness -/
theorem like_int [HasF p "_law_is_int" 1 1 Bl._law_is_int] [HasF p "_law_like" 3 2 Bl._law_like] (i : Int) : p.call (m + 2) "_law_like" [.int i, .int i] = .ok (.fz (.bl true)) := by
  rw [HasF.run]
  have e := sp_is_int (p := p) (m := m) i
  have n := ne_bl false false
  simp [evDef, startS, PX.execs, PX.exec, evX, evXB, evXL, frzS, anyOw, evE, evL, evJ, evT, bindE, bindT, bindTp, opCmp, opI2, storeIx, E.non?, slB, Bl._law_like, e, n]
theorem like_list {T : Tb} {ds : List D} (hl : ds.length ≤ 1000000) (hT : ∀ d, d ∈ ds → T.call "_law_like" [d, d] = .ok (.fz (.bl true))) (w : D → D) (hw : ∀ i x, atI ds i = some x → opIx (w (.lst ds)) (.int i) = .ok (.fz x)) (s : Sl) :
    ∃ s', forGo (.nm 2) (fun ρ => PX.execs T Bl._law_like_b1 ρ) (rngD ds.length) [.fz (w (.lst ds)), .fz (w (.lst ds)), s] = .ok (.nx [.fz (w (.lst ds)), .fz (w (.lst ds)), s']) := by
  have q := forGo_find (i := 2) (b := fun ρ => PX.execs T Bl._law_like_b1 ρ) (fun s => [.fz (w (.lst ds)), .fz (w (.lst ds)), s]) (fun _ _ => rfl) natD (fun _ => none) (List.range ds.length) s (fun k hk => by
    have hk := List.mem_range.mp hk
    have a : atI ds (k : Int) = some ds[k] := by
      unfold atI ixN
      rw [if_pos (by omega), if_pos (by omega)]
      simp [hk]
    have o := hw _ _ a
    have t := hT ds[k] (List.getElem_mem _)
    generalize w (.lst ds) = X at *
    simp [evDef, startS, PX.execs, PX.exec, evX, evXB, evXL, frzS, anyOw, evE, evL, evJ, evT, bindE, bindT, bindTp, opCmp, opI2, storeIx, E.non?, slB, Bl._law_like_b1, natD, o, t])
  have z : (List.range ds.length).findSome? (fun _ => (none : Option EV)) = none := by
    rw [List.findSome?_eq_none_iff]; exact fun _ _ => rfl
  rw [z] at q
  rw [rngD_nat]
  exact q
theorem like_tup [HasF p "_law_is_int" 1 1 Bl._law_is_int] [HasF p "_law_like" 3 2 Bl._law_like] (ds : List D) (hl : ds.length ≤ 1000000) (hd : ∀ d, d ∈ ds → p.call (m + 2) "_law_like" [d, d] = .ok (.fz (.bl true))) : p.call (m + 3) "_law_like" [.tup ds, .tup ds] = .ok (.fz (.bl true)) := by
  rw [HasF.run, evDef_out (show [D.tup ds, D.tup ds].length = 2 from rfl)]
  obtain ⟨s', e⟩ := like_list (T := p.tb (m + 2)) (ds := ds) hl hd (fun d => match d with | .lst ds => .tup ds | d => d) (fun i x h => by
    show opIx (.tup ds) _ = _
    rw [ix_tup, h]) .un
  have e : forGo (.nm 2) (fun ρ => PX.execs (p.tb (m + 2)) Bl._law_like_b1 ρ) (rngD ds.length) [.fz (.tup ds), .fz (.tup ds), .un] = .ok (.nx [.fz (.tup ds), .fz (.tup ds), s']) := e
  have n0 := ne_bl false false
  have n1 := ne_bl true true
  have ef : PX.exec (p.tb (m + 2)) (.for (.nm 2) .rng [.bi .len [.var 1]] Bl._law_like_b1 [1]) [.fz (.tup ds), .fz (.tup ds), .un] = .ok (.nx [.fz (.tup ds), .fz (.tup ds), s']) := by
    rw [← e]
    exact ex_for_of (by simp [anyOw]) (by simp [evDef, startS, PX.execs, PX.exec, evX, evXB, evXL, frzS, anyOw, evE, evL, evJ, evT, bindE, bindT, bindTp, opCmp, opI2, storeIx, E.non?, slB]) (items_nat hl)
  show (PX.execs (p.tb (m + 2)) (Bl._law_like.take 7 ++ (.for (.nm 2) .rng [.bi .len [.var 1]] Bl._law_like_b1 [1] :: [.ret (.bl true) []])) [.fz (.tup ds), .fz (.tup ds), .un]).out = _
  have e7 : PX.execs (p.tb (m + 2)) (Bl._law_like.take 7) [.fz (.tup ds), .fz (.tup ds), .un] = .ok (.nx [.fz (.tup ds), .fz (.tup ds), .un]) := by
    simp [evDef, startS, PX.execs, PX.exec, evX, evXB, evXL, frzS, anyOw, evE, evL, evJ, evT, bindE, bindT, bindTp, opCmp, opI2, storeIx, E.non?, slB, Bl._law_like, n0, n1]
  rw [execs_app, e7, RS.then_nx, PX.execs_cons, ef, RS.then_nx]
  simp [evDef, startS, PX.execs, PX.exec, evX, evXB, evXL, frzS, anyOw, evE, evL, evJ, evT, bindE, bindT, bindTp, opCmp, opI2, storeIx, E.non?, slB]
theorem like_enc [HasF p "_law_is_int" 1 1 Bl._law_is_int] [HasF p "_law_like" 3 2 Bl._law_like] (x : Rat) : p.call (m + 3) "_law_like" [enc x, enc x] = .ok (.fz (.bl true)) := by
  by_cases hx : x.den = 1
  · rw [enc_one hx]; exact like_int _
  · rw [enc_two hx]
    refine like_tup _ (by simp) fun d hd => ?_
    rcases List.mem_cons.mp hd with rfl | hd
    · exact like_int _
    · rw [List.mem_singleton.mp hd]; exact like_int _
theorem like_lst [HasF p "_law_is_int" 1 1 Bl._law_is_int] [HasF p "_law_like" 3 2 Bl._law_like] (ds : List D) (hl : ds.length ≤ 1000000) (hd : ∀ d, d ∈ ds → p.call (m + 3) "_law_like" [d, d] = .ok (.fz (.bl true))) : p.call (m + 4) "_law_like" [.lst ds, .lst ds] = .ok (.fz (.bl true)) := by
  rw [HasF.run, evDef_out (show [D.lst ds, D.lst ds].length = 2 from rfl)]
  obtain ⟨s', e⟩ := like_list (T := p.tb (m + 3)) (ds := ds) hl hd (fun d => d) (fun i x h => by
    rw [ix_lst, h]) .un
  have n0 := ne_bl false false
  have n1 := ne_bl true true
  have ef : PX.exec (p.tb (m + 3)) (.for (.nm 2) .rng [.bi .len [.var 1]] Bl._law_like_b1 [1]) [.fz (.lst ds), .fz (.lst ds), .un] = .ok (.nx [.fz (.lst ds), .fz (.lst ds), s']) := by
    rw [← e]
    exact ex_for_of (by simp [anyOw]) (by simp [evDef, startS, PX.execs, PX.exec, evX, evXB, evXL, frzS, anyOw, evE, evL, evJ, evT, bindE, bindT, bindTp, opCmp, opI2, storeIx, E.non?, slB]) (items_nat hl)
  show (PX.execs (p.tb (m + 3)) (Bl._law_like.take 7 ++ (.for (.nm 2) .rng [.bi .len [.var 1]] Bl._law_like_b1 [1] :: [.ret (.bl true) []])) [.fz (.lst ds), .fz (.lst ds), .un]).out = _
  have e7 : PX.execs (p.tb (m + 3)) (Bl._law_like.take 7) [.fz (.lst ds), .fz (.lst ds), .un] = .ok (.nx [.fz (.lst ds), .fz (.lst ds), .un]) := by
    simp [evDef, startS, PX.execs, PX.exec, evX, evXB, evXL, frzS, anyOw, evE, evL, evJ, evT, bindE, bindT, bindTp, opCmp, opI2, storeIx, E.non?, slB, Bl._law_like, n0, n1]
  rw [execs_app, e7, RS.then_nx, PX.execs_cons, ef, RS.then_nx]
  simp [evDef, startS, PX.execs, PX.exec, evX, evXB, evXL, frzS, anyOw, evE, evL, evJ, evT, bindE, bindT, bindTp, opCmp, opI2, storeIx, E.non?, slB]
theorem like_encs [HasF p "_law_is_int" 1 1 Bl._law_is_int] [HasF p "_law_like" 3 2 Bl._law_like] (xs : List Rat) (hl : xs.length ≤ 1000000) : p.call (m + 4) "_law_like" [.lst (xs.map enc), .lst (xs.map enc)] = .ok (.fz (.bl true)) :=
  like_lst _ (by rw [List.length_map]; exact hl) fun d hd => by
    obtain ⟨x, _, rfl⟩ := List.mem_map.mp hd
    exact like_enc x
theorem like_ints [HasF p "_law_is_int" 1 1 Bl._law_is_int] [HasF p "_law_like" 3 2 Bl._law_like] (xs : List Int) (hl : xs.length ≤ 1000000) : p.call (m + 4) "_law_like" [.lst (xs.map D.int), .lst (xs.map D.int)] = .ok (.fz (.bl true)) :=
  like_lst _ (by rw [List.length_map]; exact hl) fun d hd => by
    obtain ⟨x, _, rfl⟩ := List.mem_map.mp hd
    exact like_int x
theorem natD_int (ks : List Nat) : ks.map natD = (ks.map fun k : Nat => (k : Int)).map D.int := by
  rw [List.map_map]; rfl
end
end PX

set_option Elab.async false
set_option linter.all false
set_option maxRecDepth 100000
/-! K03D: the law's own defs. -/
namespace K03
open PySem PySem.Spec PyProof.Rows L2 PX
section
variable {m : Nat}
theorem lg_bits {i : Int} (h : Builtin.Int.intBits i ≤ 1048576) : lgI i ≤ 1048576 := by
  unfold lgI
  unfold Builtin.Int.intBits at h
  split at h <;> first | omega | (rename_i q; simp_all)
theorem sp_cell {ns : List Int} (hb : ∀ k, k ∈ ns → Builtin.Int.intBits k ≤ 1048576) {k : Nat} (hk : k ≤ 1000) : ∃ c, prg.call (m + 1) "_law_cell" [.scr ns, .int k] = .ok (.fz (.int c)) := by
  rw [HasF.run]
  by_cases hk1 : k < ns.length
  · refine ⟨ns[k], ?_⟩
    have e : atI ns (k : Int) = some ns[k] := by
      unfold atI ixN
      rw [if_pos (by omega), if_pos (by omega)]
      simp [hk1]
    simp [evDef, startS, PX.execs, PX.exec, evX, evXB, evXL, frzS, anyOw, evE, evL, evJ, evT, bindE, bindT, bindTp, opCmp, opI2, storeIx, E.non?, slB, Bl._law_cell, hk1, e]
  · by_cases h0 : 0 < ns.length
    · refine ⟨(ns[0] * 7919 + 48271 * (k : Int)).fmod 2147483647, ?_⟩
      have e : atI ns 0 = some ns[0] := by
        unfold atI ixN
        rw [if_pos (by omega), if_pos (by omega)]
        simp [h0]
      have hb0 := lg_bits (hb ns[0] (List.getElem_mem _))
      have l1 : lgI ns[0] + lgI 7919 < mulLine := by
        have : lgI 7919 = 12 := by decide
        rw [this]
        unfold mulLine
        omega
      have k10 : ((k : Int)).natAbs < 2 ^ 10 := by
        have : (2 : Nat) ^ 10 = 1024 := by decide
        omega
      have l2 : lgI 48271 + lgI (k : Int) < mulLine := lg_mul (k := 20) (l := 10) (by decide) k10 (by decide) (by decide) (by decide)
      simp [evDef, startS, PX.execs, PX.exec, evX, evXB, evXL, frzS, anyOw, evE, evL, evJ, evT, bindE, bindT, bindTp, opCmp, opI2, storeIx, E.non?, slB, Bl._law_cell, hk1, h0, e, l1, l2]
    · refine ⟨k, ?_⟩
      simp [evDef, startS, PX.execs, PX.exec, evX, evXB, evXL, frzS, anyOw, evE, evL, evJ, evT, bindE, bindT, bindTp, opCmp, opI2, storeIx, E.non?, slB, Bl._law_cell, hk1, h0]
theorem sp_says {a b : Bool} (h : a = b) : prg.call (m + 1) "_law_says" [.bl a, .bl b] = .ok (.fz (.bl true)) := by
  rw [HasF.run]
  subst h
  have n1 := ne_bl false true
  have n2 := ne_bl true false
  have e1 := eq_bl true true
  have e2 := eq_bl false false
  cases a <;> simp [evDef, startS, PX.execs, PX.exec, evX, evXB, evXL, frzS, anyOw, evE, evL, evJ, evT, bindE, bindT, bindTp, opCmp, opI2, storeIx, E.non?, slB, K03.b__law_says, n1, n2, e1, e2]
/-! ### support -/
theorem supA_filter : ∀ (xs : List Rat) (k : Nat) (pre : List Rat), pre.length = k → supA k xs = (List.range' k xs.length).filter fun j => decide ((pre ++ xs)[j]? ≠ some 0)
  | [], k, pre, h => by simp [supA]
  | x :: xs, k, pre, h => by
    have ih := supA_filter xs (k + 1) (pre ++ [x]) (by simp [h])
    rw [supA_cons, List.length_cons, List.range'_succ, List.filter_cons]
    have e : (pre ++ x :: xs)[k]? = some x := by rw [List.getElem?_append_right (by omega)]; simp [h]
    rw [List.append_assoc, List.singleton_append] at ih
    rw [e, ih]
    by_cases hx : x = 0
    · simp [hx]
    · simp [hx]
theorem lsup_go {T : Tb} {ρ : Rho} {xs : List Rat} (h0 : ∀ d : D, (ρ.set 1 (.fz d))[0]? = some (.fz (.lst (xs.map enc)))) (h1 : ∀ d : D, (ρ.set 1 (.fz d))[1]? = some (.fz d)) : ∀ (ks : List Nat), (∀ k, k ∈ ks → k < xs.length) →
    lcGo (.nm 1) (fun ρ1 => evT T ρ1 Bl._law_support_t1) (fun ρ1 => evE T ρ1 Bl._law_support_e1) ρ (ks.map natD) = .ok ((ks.filter fun j => decide (xs[j]? ≠ some 0)).map natD)
  | [], _ => by simp [lcGo]
  | k :: ks, hk => by
    have ih := lsup_go (T := T) h0 h1 ks (fun j hj => hk j (List.mem_cons_of_mem _ hj))
    have hl := hk k List.mem_cons_self
    have a := at_encs xs k hl
    have n := ne0 xs[k]
    have ex : xs[k]? = some xs[k] := by simp [hl]
    have et : evT T (ρ.set 1 (.fz (natD k))) Bl._law_support_t1 = .ok (!decide (xs[k] = 0)) := by
      unfold Bl._law_support_t1
      simp only [evT, evE, h0, h1, opCmp, R.bind_ok, EV.d_fz, natD, ix_lst, a, n, R.map_ok, asBool_bl]
      cases decide (xs[k] = 0) <;> rfl
    have ee : evE T (ρ.set 1 (.fz (natD k))) Bl._law_support_e1 = .ok (.fz (natD k)) := by
      unfold Bl._law_support_e1
      simp only [evE, h1]
    rw [List.map_cons, lcGo]
    simp only [bindT, R.bind_ok, et, ee, ih]
    rw [List.filter_cons, ex]
    by_cases hx : xs[k] = 0
    · simp [hx]
    · simp [hx]
theorem sp_lsupport {xs : List Rat} (hl : xs.length ≤ 100000) : prg.call (m + 1) "_law_support" [.lst (xs.map enc)] = .ok (.fr (.lst ((supG xs).map natD))) := by
  have sb := sizeBig
  rw [HasF.run, evDef_out (show [D.lst (xs.map enc)].length = 1 from rfl)]
  have e := lsup_go (T := prg.tb m) (ρ := [.fz (.lst (xs.map enc)), .un]) (xs := xs) (fun _ => rfl) (fun _ => rfl) (List.range xs.length) (fun k hk => List.mem_range.mp hk)
  have es : (List.range xs.length).filter (fun j => decide (xs[j]? ≠ some 0)) = supG xs := by
    have := supA_filter xs 0 [] rfl
    rw [List.nil_append] at this
    rw [List.range_eq_range']
    exact this.symm
  rw [es, ← rngD_nat] at e
  have e2 : evE (prg.tb m) [.fz (.lst (xs.map enc)), .un] (.lc [1] (.nm 1) .rng [.bi .len [.var 0]] Bl._law_support_t1 Bl._law_support_e1) = .ok (.fr (.lst ((supG xs).map natD))) := by
    have eL : evL (prg.tb m) [.fz (.lst (xs.map enc)), .un] [.bi .len [.var 0]] = .ok [.int (xs.length : Int)] := by simp [evL, evE]
    have it := items_nat (n := xs.length) (by omega)
    have hlen : (rngD xs.length).length ≤ sizeLine := by rw [rngD_len]; omega
    rw [evE, eL, R.bind_ok, it, R.bind_ok, if_pos hlen]
    rw [show wipeS [Sl.fz (.lst (xs.map enc)), .un] [1] = [Sl.fz (.lst (xs.map enc)), .un] from rfl, e]
    rfl
  generalize xs.map enc = X at *
  show (PX.execs (prg.tb m) [.ret (.lc [1] (.nm 1) .rng [.bi .len [.var 0]] Bl._law_support_t1 Bl._law_support_e1) [0]] [.fz (.lst X), .un]).out = _
  simp [PX.execs, PX.exec, evX, anyOw, e2]
/-! ### agrees, before -/
theorem agreesG_find : ∀ xs ys : List Rat, xs.length = ys.length → (xs.zip ys).findSome? (fun q => if q.1 ≠ 0 ∧ q.1.num * q.2.num ≤ 0 then some (EV.fz (.bl false)) else none) = if agreesG xs ys = true then none else some (EV.fz (.bl false))
  | [], ys, _ => by simp [agreesG]
  | x :: xs, [], h => by cases h
  | x :: xs, y :: ys, h => by
    have ih := agreesG_find xs ys (by simpa using h)
    rw [List.zip_cons_cons, List.findSome?_cons, agreesG]
    by_cases q : x ≠ 0 ∧ x.num * y.num ≤ 0
    · simp [q]
    · simp only [q, if_false]
      exact ih
theorem sp_lagrees {xs ys : List Rat} {k : Nat} (hk : k ≤ 4000) (hx : ∀ x, x ∈ xs → Bd k x) (hy : ∀ x, x ∈ ys → Bd k x) (hl : xs.length = ys.length) (hn : xs.length ≤ 100000) :
    prg.call (m + 2) "_law_agrees" [.lst (xs.map enc), .lst (ys.map enc)] = .ok (.fz (.bl (agreesG xs ys))) := by
  rw [HasF.run, evDef_out (show [D.lst (xs.map enc), .lst (ys.map enc)].length = 2 from rfl)]
  have q := forGo_find (i := 2) (b := fun ρ => PX.execs (prg.tb (m + 1)) K03._law_agrees_b1 ρ) (fun s => [.fz (.lst (xs.map enc)), .fz (.lst (ys.map enc)), s]) (fun _ _ => rfl) natD (fun j => if xs.getD j 0 ≠ 0 ∧ (xs.getD j 0).num * (ys.getD j 0).num ≤ 0 then some (EV.fz (.bl false)) else none) (List.range xs.length) .un (fun j hj => by
    have hj := List.mem_range.mp hj
    have a1 := at_encs xs j hj
    have a2 := at_encs ys j (by omega)
    have g1 : xs.getD j 0 = xs[j] := by simp [hj]
    have g2 : ys.getD j 0 = ys[j] := by simp [show j < ys.length by omega]
    rw [g1, g2]
    have bx := hx xs[j] (List.getElem_mem _)
    have b2 := hy ys[j] (List.getElem_mem _)
    have n := ne0 xs[j]
    have t1 := sp_ltop (p := prg) (m := m) xs[j]
    have t2 := sp_ltop (p := prg) (m := m) ys[j]
    have l : lgI xs[j].num + lgI ys[j].num < mulLine := lg_mul bx.n b2.n (by omega) bx.pos bx.pos
    generalize xs[j] = x at *
    generalize ys[j] = y at *
    generalize xs.map enc = X at *
    generalize ys.map enc = Y at *
    by_cases h0 : x = 0
    · have n' : opEq true (enc x) (.int 0) = .ok false := by rw [n]; simp [h0]
      rw [if_neg (by simp [h0])]
      simp [evDef, startS, PX.execs, PX.exec, evX, evXB, evXL, frzS, anyOw, evE, evL, evJ, evT, bindE, bindT, bindTp, opCmp, opI2, storeIx, E.non?, slB, K03._law_agrees_b1, natD, a1, a2, n']
    · have n' : opEq true (enc x) (.int 0) = .ok true := by rw [n]; simp [h0]
      by_cases h1 : x.num * y.num ≤ 0
      · rw [if_pos ⟨h0, h1⟩]
        simp [evDef, startS, PX.execs, PX.exec, evX, evXB, evXL, frzS, anyOw, evE, evL, evJ, evT, bindE, bindT, bindTp, opCmp, opI2, storeIx, E.non?, slB, K03._law_agrees_b1, natD, a1, a2, n', t1, t2, l, h1]
      · rw [if_neg (fun z => h1 z.2)]
        simp [evDef, startS, PX.execs, PX.exec, evX, evXB, evXL, frzS, anyOw, evE, evL, evJ, evT, bindE, bindT, bindTp, opCmp, opI2, storeIx, E.non?, slB, K03._law_agrees_b1, natD, a1, a2, n', t1, t2, l, h1])
  have hz : (xs.zip ys).length = xs.length := by rw [List.length_zip]; omega
  have fr := findSome_range (xs.zip ys) (fun q : Rat × Rat => if q.1 ≠ 0 ∧ q.1.num * q.2.num ≤ 0 then some (EV.fz (.bl false)) else none) (fun j => if xs.getD j 0 ≠ 0 ∧ (xs.getD j 0).num * (ys.getD j 0).num ≤ 0 then some (EV.fz (.bl false)) else none) (fun j hj => by
    rw [hz] at hj
    have g1 : xs.getD j 0 = xs[j] := by simp [hj]
    have g2 : ys.getD j 0 = ys[j]'(by omega) := by simp [show j < ys.length by omega]
    rw [g1, g2]
    simp)
  rw [hz, agreesG_find xs ys hl] at fr
  rw [fr, ← rngD_nat] at q
  have ef : PX.exec (prg.tb (m + 1)) (.for (.nm 2) .rng [.bi .len [.var 0]] K03._law_agrees_b1 [0]) [.fz (.lst (xs.map enc)), .fz (.lst (ys.map enc)), .un] = _ :=
    ex_for_of (ds := [.int (xs.length : Int)]) (by simp [anyOw]) (by simp [evDef, startS, PX.execs, PX.exec, evX, evXB, evXL, frzS, anyOw, evE, evL, evJ, evT, bindE, bindT, bindTp, opCmp, opI2, storeIx, E.non?, slB]) (items_nat (n := xs.length) (by omega))
  show (PX.execs (prg.tb (m + 1)) (.for (.nm 2) .rng [.bi .len [.var 0]] K03._law_agrees_b1 [0] :: [.ret (.bl true) []]) [.fz (.lst (xs.map enc)), .fz (.lst (ys.map enc)), .un]).out = _
  rw [PX.execs_cons, ef]
  cases h : agreesG xs ys with
  | true =>
    rw [h] at q
    obtain ⟨s', e⟩ := q
    rw [e, RS.then_nx]
    simp [evDef, startS, PX.execs, PX.exec, evX, evXB, evXL, frzS, anyOw, evE, evL, evJ, evT, bindE, bindT, bindTp, opCmp, opI2, storeIx, E.non?, slB]
  | false =>
    rw [h] at q
    rw [show forGo _ _ _ _ = _ from q]
    rfl
theorem beforeG_find : ∀ xs ys : List Rat, (xs.zip ys).findSome? (fun q => if q.1 ≠ q.2 then some (EV.fz (.bl (decide (q.1 < q.2)))) else none) = none ∧ beforeG xs ys = decide (xs.length < ys.length) ∨
    (xs.zip ys).findSome? (fun q => if q.1 ≠ q.2 then some (EV.fz (.bl (decide (q.1 < q.2)))) else none) = some (EV.fz (.bl (beforeG xs ys)))
  | [], ys => .inl ⟨by simp, by simp [beforeG]⟩
  | x :: xs, [] => .inl ⟨by simp, by simp [beforeG]⟩
  | x :: xs, y :: ys => by
    rw [List.zip_cons_cons, List.findSome?_cons, beforeG]
    by_cases q : x = y
    · simp only [q, ne_eq, not_true, if_false, if_true, if_pos]
      rcases beforeG_find xs ys with ⟨a, b⟩ | a
      · exact .inl ⟨a, by rw [b]; simp⟩
      · exact .inr a
    · right
      simp [q]
theorem sp_lbefore {xs ys : List Rat} {k : Nat} (hk : k ≤ 4000) (hx : ∀ x, x ∈ xs → Bd k x) (hy : ∀ x, x ∈ ys → Bd k x) (hn : xs.length ≤ 100000) :
    prg.call (m + 3) "_law_before" [.lst (xs.map enc), .lst (ys.map enc)] = .ok (.fz (.bl (beforeG xs ys))) := by
  rw [HasF.run, evDef_out (show [D.lst (xs.map enc), .lst (ys.map enc)].length = 2 from rfl)]
  have hz : (xs.zip ys).length = min xs.length ys.length := List.length_zip
  have q := forGo_find (i := 2) (b := fun ρ => PX.execs (prg.tb (m + 2)) K03._law_before_b1 ρ) (fun s => [.fz (.lst (xs.map enc)), .fz (.lst (ys.map enc)), s]) (fun _ _ => rfl) natD (fun j => if xs.getD j 0 ≠ ys.getD j 0 then some (EV.fz (.bl (decide (xs.getD j 0 < ys.getD j 0)))) else none) (List.range (xs.zip ys).length) .un (fun j hj => by
    have hj := List.mem_range.mp hj
    rw [hz] at hj
    have h1 : j < xs.length := by omega
    have h2 : j < ys.length := by omega
    have a1 := at_encs xs j h1
    have a2 := at_encs ys j h2
    have g1 : xs.getD j 0 = xs[j] := by simp [h1]
    have g2 : ys.getD j 0 = ys[j] := by simp [h2]
    rw [g1, g2]
    have bx := hx xs[j] (List.getElem_mem _)
    have b2 := hy ys[j] (List.getElem_mem _)
    have n := opEq_enc true xs[j] ys[j]
    have t := sp_lless (p := prg) (m := m) bx b2 hk
    generalize xs[j] = x at *
    generalize ys[j] = y at *
    generalize xs.map enc = X at *
    generalize ys.map enc = Y at *
    by_cases h0 : x = y
    · have n' : opEq true (enc x) (enc y) = .ok false := by rw [n]; simp [h0]
      rw [if_neg (by simp [h0])]
      simp [evDef, startS, PX.execs, PX.exec, evX, evXB, evXL, frzS, anyOw, evE, evL, evJ, evT, bindE, bindT, bindTp, opCmp, opI2, storeIx, E.non?, slB, K03._law_before_b1, natD, a1, a2, n']
    · have n' : opEq true (enc x) (enc y) = .ok true := by rw [n]; simp [h0]
      rw [if_pos h0]
      simp [evDef, startS, PX.execs, PX.exec, evX, evXB, evXL, frzS, anyOw, evE, evL, evJ, evT, bindE, bindT, bindTp, opCmp, opI2, storeIx, E.non?, slB, K03._law_before_b1, natD, a1, a2, n', t])
  have fr := findSome_range (xs.zip ys) (fun q : Rat × Rat => if q.1 ≠ q.2 then some (EV.fz (.bl (decide (q.1 < q.2)))) else none) (fun j => if xs.getD j 0 ≠ ys.getD j 0 then some (EV.fz (.bl (decide (xs.getD j 0 < ys.getD j 0)))) else none) (fun j hj => by
    rw [hz] at hj
    have g1 : xs.getD j 0 = xs[j]'(by omega) := by simp [show j < xs.length by omega]
    have g2 : ys.getD j 0 = ys[j]'(by omega) := by simp [show j < ys.length by omega]
    rw [g1, g2]
    simp)
  rw [fr, ← rngD_nat] at q
  have em : evBi .min [.int (xs.length : Int), .int (ys.length : Int)] = .ok (.fz (.int ((xs.zip ys).length : Nat))) := by
    have h1 : evBi .min [.int (xs.length : Int), .int (ys.length : Int)] = match (match minL [(xs.length : Int), (ys.length : Int)] with | some m => R.ok (EV.fz (.int m)) | none => .st) with | r => r := by rfl
    rw [h1, hz]
    simp [minL]
    first | omega | (split <;> simp <;> omega) | skip
  have ef : PX.exec (prg.tb (m + 2)) (.for (.nm 2) .rng [.bi .min [.bi .len [.var 0], .bi .len [.var 1]]] K03._law_before_b1 [0, 1]) [.fz (.lst (xs.map enc)), .fz (.lst (ys.map enc)), .un] = _ :=
    ex_for_of (ds := [.int ((xs.zip ys).length : Int)]) (by simp [anyOw]) (by
      have l1 : ((xs.map enc).length : Int) = xs.length := by rw [List.length_map]
      have l2 : ((ys.map enc).length : Int) = ys.length := by rw [List.length_map]
      generalize xs.map enc = X at *
      generalize ys.map enc = Y at *
      simp only [evL, evE, List.getElem?_cons_zero, List.getElem?_cons_succ, R.bind_ok, R.map_ok, EV.d_fz, bi_len_l, l1, l2, em]) (items_nat (n := (xs.zip ys).length) (by omega))
  show (PX.execs (prg.tb (m + 2)) (.for (.nm 2) .rng [.bi .min [.bi .len [.var 0], .bi .len [.var 1]]] K03._law_before_b1 [0, 1] :: [.ret (.cmp .Lt (.bi .len [.var 0]) (.bi .len [.var 1])) [0, 1]]) [.fz (.lst (xs.map enc)), .fz (.lst (ys.map enc)), .un]).out = _
  rw [PX.execs_cons, ef]
  rcases beforeG_find xs ys with ⟨h, h2⟩ | h
  · rw [h] at q
    obtain ⟨s', e⟩ := q
    rw [e, RS.then_nx, h2]
    have l1 : ((xs.map enc).length : Int) = xs.length := by rw [List.length_map]
    have l2 : ((ys.map enc).length : Int) = ys.length := by rw [List.length_map]
    generalize xs.map enc = X at *
    generalize ys.map enc = Y at *
    simp [evDef, startS, PX.execs, PX.exec, evX, evXB, evXL, frzS, anyOw, evE, evL, evJ, evT, bindE, bindT, bindTp, opCmp, opI2, storeIx, E.non?, slB, l1, l2]
  · rw [h] at q
    rw [show forGo _ _ _ _ = _ from q]
    rfl
end
end K03

set_option Elab.async false
set_option linter.all false
set_option maxRecDepth 100000
/-! K03E: drawn numbers, the second list, sums of products. -/
namespace K03
open PySem PySem.Spec PyProof.Rows L2 PX
section
variable {m : Nat}
theorem forGo_inv {i : Nat} {b : Rho → RS} (Iv : Nat → Rho → Prop) : ∀ (r j : Nat) (ρ : Rho), (∀ k ρ, j ≤ k → k < j + r → Iv k ρ → ∃ ρ', b (ρ.set i (.fz (natD k))) = .ok (.nx ρ') ∧ Iv (k + 1) ρ') → Iv j ρ →
    ∃ ρ', forGo (.nm i) b ((List.range' j r).map natD) ρ = .ok (.nx ρ') ∧ Iv (j + r) ρ'
  | 0, j, ρ, _, h0 => ⟨ρ, by rw [List.range'_zero, List.map_nil, forGo_nil], h0⟩
  | r + 1, j, ρ, h, h0 => by
    obtain ⟨ρ1, e1, h1⟩ := h j ρ (Nat.le_refl _) (by omega) h0
    obtain ⟨ρ2, e2, h2⟩ := forGo_inv Iv r (j + 1) ρ1 (fun k ρ a c => h k ρ (by omega) (by omega)) h1
    refine ⟨ρ2, ?_, by rw [show j + (r + 1) = j + 1 + r by omega]; exact h2⟩
    rw [List.range'_succ, List.map_cons, forGo_cons]
    simp only [bindT, R.on_ok]
    rw [e1, RS.turn_nx, e2]
theorem forGo_rng {i n : Nat} {b : Rho → RS} (Iv : Nat → Rho → Prop) {ρ : Rho} (h : ∀ k ρ, k < n → Iv k ρ → ∃ ρ', b (ρ.set i (.fz (natD k))) = .ok (.nx ρ') ∧ Iv (k + 1) ρ') (h0 : Iv 0 ρ) :
    ∃ ρ', forGo (.nm i) b (rngD n) ρ = .ok (.nx ρ') ∧ Iv n ρ' := by
  rw [rngD_nat, List.range_eq_range']
  have := forGo_inv (b := b) Iv n 0 ρ (fun k ρ _ c => h k ρ (by omega)) h0
  rw [Nat.zero_add] at this
  exact this
theorem pow12 : opBin .Pow (.int 10) (.int 12) = .ok (.fz (.int 1000000000000)) := by
  rw [ob_pow (by decide) (by decide) (by decide)]
  rw [show (12 : Int).toNat = 12 from rfl, show (10 : Int) ^ 12 = 1000000000000 by decide]
theorem bot60 {b : Int} (h0 : 0 < b) (h1 : b ≤ 6) : b.natAbs ∣ 60 := by
  have : b = 1 ∨ b = 2 ∨ b = 3 ∨ b = 4 ∨ b = 5 ∨ b = 6 := by omega
  rcases this with rfl | rfl | rfl | rfl | rfl | rfl <;> decide
theorem bot12 {b : Int} (h0 : 0 < b) (h1 : b ≤ 4) : b.natAbs ∣ 12 := by
  have : b = 1 ∨ b = 2 ∨ b = 3 ∨ b = 4 := by omega
  rcases this with rfl | rfl | rfl | rfl <;> decide
theorem sp_drawn (r : Int) (large : Bool) : ∃ x, prg.call (m + 3) "_law_drawn" [.int r, .bl large] = .ok (.fz (enc x)) ∧ Fr 60 (2 ^ 50) x := by
  have f0 : 0 ≤ r.fmod 19 := Int.fmod_nonneg_of_pos _ (by decide)
  have f1 : r.fmod 19 < 19 := Int.fmod_lt_of_pos _ (by decide)
  have g0 : 0 ≤ (r.fdiv 57).fmod 6 := Int.fmod_nonneg_of_pos _ (by decide)
  have g1 : (r.fdiv 57).fmod 6 < 6 := Int.fmod_lt_of_pos _ (by decide)
  have h19 : (19 : Int) ≠ 0 := by decide
  have h3 : (3 : Int) ≠ 0 := by decide
  have h57 : (57 : Int) ≠ 0 := by decide
  have h6 : (6 : Int) ≠ 0 := by decide
  have d19 : lgI 19 < divLine := by decide
  have d57 : lgI 57 < divLine := by decide
  have p12 := pow12
  have b0 : (1 + (r.fdiv 57).fmod 6) ≠ 0 := by omega
  have bb : (1 + (r.fdiv 57).fmod 6).natAbs ∣ 60 := bot60 (by omega) (by omega)
  have bl : (1 + (r.fdiv 57).fmod 6).natAbs < 2 ^ 44 := by
    have : (2 : Nat) ^ 44 = 17592186044416 := by decide
    omega
  have key : ∀ t : Int, t.natAbs ≤ 9000000000351 → ∃ x, prg.call (m + 2) "_law_make" [.int t, .int (1 + (r.fdiv 57).fmod 6)] = .ok (.fz (enc x)) ∧ Fr 60 (2 ^ 50) x := fun t ht => by
    have p44 : (2 : Nat) ^ 44 = 17592186044416 := by decide
    have p50 : (2 : Nat) ^ 50 = 1125899906842624 := by decide
    refine ⟨_, sp_make (p := prg) (m := m) (k := 44) (a := t) (by omega) bl (by decide) b0, Fr.divInt b0 bb (by omega)⟩
  have kk : (r.fdiv 19).fmod 3 = 1 ∨ (r.fdiv 19).fmod 3 ≠ 1 := by omega
  have l1 : ∀ t : Int, t.natAbs ≤ 9 → lgI t + lgI 1000000000039 < mulLine := fun t ht => by
    have p10 : (2 : Nat) ^ 10 = 1024 := by decide
    exact lg_mul (k := 10) (l := 44) (by omega) (by decide) (by decide) (by decide) (by decide)
  generalize hB : 1 + (r.fdiv 57).fmod 6 = B at *
  rw [HasF.run]
  rcases kk with kk | kk
  · cases large with
    | true =>
      obtain ⟨x, e, fx⟩ := key 0 (by decide)
      have l0 := l1 0 (by decide)
      refine ⟨x, ?_, fx⟩
      simp [evDef, startS, PX.execs, PX.exec, evX, evXB, evXL, frzS, anyOw, evE, evL, evJ, evT, bindE, bindT, bindTp, opCmp, opI2, storeIx, E.non?, slB, K03.b__law_drawn, h19, h3, h57, h6, d19, d57, kk, p12, l0, hB, e]
    | false =>
      obtain ⟨x, e, fx⟩ := key 0 (by decide)
      refine ⟨x, ?_, fx⟩
      simp [evDef, startS, PX.execs, PX.exec, evX, evXB, evXL, frzS, anyOw, evE, evL, evJ, evT, bindE, bindT, bindTp, opCmp, opI2, storeIx, E.non?, slB, K03.b__law_drawn, h19, h3, h57, h6, d19, d57, kk, p12, hB, e]
  · cases large with
    | true =>
      obtain ⟨x, e, fx⟩ := key ((r.fmod 19 - 9) * 1000000000039) (by omega)
      have l0 := l1 (r.fmod 19 - 9) (by omega)
      refine ⟨x, ?_, fx⟩
      simp [evDef, startS, PX.execs, PX.exec, evX, evXB, evXL, frzS, anyOw, evE, evL, evJ, evT, bindE, bindT, bindTp, opCmp, opI2, storeIx, E.non?, slB, K03.b__law_drawn, h19, h3, h57, h6, d19, d57, kk, p12, l0, hB, e]
    | false =>
      obtain ⟨x, e, fx⟩ := key (r.fmod 19 - 9) (by omega)
      refine ⟨x, ?_, fx⟩
      simp [evDef, startS, PX.execs, PX.exec, evX, evXB, evXL, frzS, anyOw, evE, evL, evJ, evT, bindE, bindT, bindTp, opCmp, opI2, storeIx, E.non?, slB, K03.b__law_drawn, h19, h3, h57, h6, d19, d57, kk, p12, hB, e]
/-- the numbers of the second list -/
abbrev F1 (x : Rat) : Prop := Fr 720 (2 ^ 58) x
abbrev F2 (x : Rat) : Prop := Fr 720 (2 ^ 60) x
theorem F1.bd {x : Rat} (h : F1 x) : Bd 62 x := Fr.bd h (by decide) (by decide) (by decide)
theorem F2.bd {x : Rat} (h : F2 x) : Bd 62 x := Fr.bd h (by decide) (by decide) (by decide)
theorem F1.f2 {x : Rat} (h : F1 x) : F2 x := h.le (by decide)
theorem fr60 {x : Rat} (h : Fr 60 (2 ^ 50) x) : F1 x := (h.lift 12).le (by decide)
theorem ob_gt {i j : Int} : opCmp .Gt (.int i) (.int j) = .ok (decide (j < i)) := rfl
set_option maxHeartbeats 4000000 in
theorem sp_second {xs : List Rat} (hx : ∀ x, x ∈ xs → Fr 60 (2 ^ 50) x) {row : List Int} (hr : row.length = 15) (hl : xs.length ≤ 12) {kd : Int} (large : Bool) :
    ∃ ys : List Rat, prg.call (m + 4) "_law_second" [.lst (xs.map enc), .lst (row.map D.int), .int kd, .bl large] = .ok (.fr (.lst (ys.map enc))) ∧ ys.length = xs.length ∧ ∀ y, y ∈ ys → F2 y := by
  have sb := sizeBig
  rw [HasF.run, evDef_out (show [D.lst (xs.map enc), D.lst (row.map D.int), D.int kd, D.bl large].length = 4 from rfl)]
  -- the loop
  let Iv : Nat → Rho → Prop := fun k ρ => ∃ (zs : List Rat) (s5 s6 : Sl), ρ = [.fz (.lst (xs.map enc)), .fz (.lst (row.map D.int)), .fz (.int kd), .fz (.bl large), .ow (.lst (zs.map enc)), s5, s6, .un] ∧ zs.length = k ∧ ∀ z, z ∈ zs → F1 z
  obtain ⟨ρ1, e1, zs, s5, s6, rfl, hz, hzs⟩ := forGo_rng (i := 5) (n := xs.length) (b := fun ρ => PX.execs (prg.tb (m + 3)) K03._law_second_b1 ρ) Iv (ρ := [.fz (.lst (xs.map enc)), .fz (.lst (row.map D.int)), .fz (.int kd), .fz (.bl large), .ow (.lst []), .un, .un, .un]) (fun k ρ hk h => by
    obtain ⟨zs, s5, s6, rfl, hz, hzs⟩ := h
    have a1 := at_encs xs k hk
    have a2 := at_ints row k (by omega)
    have fx := hx xs[k] (List.getElem_mem _)
    generalize xs[k] = x at *
    generalize row[k] = r at *
    have hzl : (zs.map enc).length < sizeLine := by rw [List.length_map]; omega
    have fin : ∀ z : Rat, F1 z → PX.execs (prg.tb (m + 3)) K03._law_second_b1 ([.fz (.lst (xs.map enc)), .fz (.lst (row.map D.int)), .fz (.int kd), .fz (.bl large), .ow (.lst (zs.map enc)), .fz (natD k), s6, .un]) = .ok (.nx [.fz (.lst (xs.map enc)), .fz (.lst (row.map D.int)), .fz (.int kd), .fz (.bl large), .ow (.lst (zs.map enc ++ [enc z])), .fz (natD k), .fz (enc z), .un]) →
        ∃ ρ', PX.execs (prg.tb (m + 3)) K03._law_second_b1 (([.fz (.lst (xs.map enc)), .fz (.lst (row.map D.int)), .fz (.int kd), .fz (.bl large), .ow (.lst (zs.map enc)), s5, s6, .un] : Rho).set 5 (.fz (natD k))) = .ok (.nx ρ') ∧ Iv (k + 1) ρ' := fun z fz e => by
      refine ⟨_, e, zs ++ [z], .fz (natD k), .fz (enc z), ?_, by simp [hz], fun y hy => ?_⟩
      · rw [List.map_append]; rfl
      · rcases List.mem_append.mp hy with hy | hy
        · exact hzs y hy
        · rw [List.mem_singleton.mp hy]; exact fz
    generalize xs.map enc = X at *
    generalize row.map D.int = RR at *
    generalize zs.map enc = Z at *
    have h3 : (3 : Int) ≠ 0 := by decide
    have h5 : (5 : Int) ≠ 0 := by decide
    have h4 : (4 : Int) ≠ 0 := by decide
    have d5 : lgI 5 < divLine := by decide
    have fx2 := fr60 fx
    have em : enc (-1 : Rat) = .int (-1) := rfl
    have t1 : prg.call (m + 3) "_law_times" [enc x, .int (-1)] = .ok (.fz (enc (x * -1))) := by
      rw [← em]
      exact sp_ltimes (p := prg) (m := m) (k := 62) fx2.bd ⟨by decide, by decide⟩ (by decide)
    have f1 : F1 (x * -1) := by
      have : x * -1 = -x := by rw [Rat.mul_neg, Rat.mul_one]
      rw [this]; exact fx2.neg
    by_cases k0 : kd = 0
    · obtain ⟨z, e, fz⟩ := sp_drawn (m := m) r large
      refine fin z (fr60 fz) ?_
      subst k0
      simp [evDef, startS, PX.execs, PX.exec, evX, evXB, evXL, frzS, anyOw, evE, evL, evJ, evT, bindE, bindT, bindTp, opCmp, opI2, storeIx, E.non?, slB, K03._law_second_b1, natD, a1, a2, e, hzl]
    · by_cases k1 : kd = 1
      · subst k1
        by_cases q : r.fmod 3 = 1
        · refine fin _ f1 ?_
          generalize x * -1 = w at *
          simp [evDef, startS, PX.execs, PX.exec, evX, evXB, evXL, frzS, anyOw, evE, evL, evJ, evT, bindE, bindT, bindTp, opCmp, opI2, storeIx, E.non?, slB, K03._law_second_b1, natD, a1, a2, h3, q, t1, hzl]
        · refine fin _ fx2 ?_
          simp [evDef, startS, PX.execs, PX.exec, evX, evXB, evXL, frzS, anyOw, evE, evL, evJ, evT, bindE, bindT, bindTp, opCmp, opI2, storeIx, E.non?, slB, K03._law_second_b1, natD, a1, a2, h3, q, hzl]
      · by_cases k2 : kd = 2
        · subst k2
          by_cases q : r.fmod 3 = 1
          · refine fin 0 (Fr.zero _ _) ?_
            simp [evDef, startS, PX.execs, PX.exec, evX, evXB, evXL, frzS, anyOw, evE, evL, evJ, evT, bindE, bindT, bindTp, opCmp, opI2, storeIx, E.non?, slB, K03._law_second_b1, natD, a1, a2, h3, q, hzl, enc0]
          · refine fin _ fx2 ?_
            simp [evDef, startS, PX.execs, PX.exec, evX, evXB, evXL, frzS, anyOw, evE, evL, evJ, evT, bindE, bindT, bindTp, opCmp, opI2, storeIx, E.non?, slB, K03._law_second_b1, natD, a1, a2, h3, q, hzl]
        · by_cases k3 : kd = 3
          · subst k3
            have a0 : 0 ≤ r.fmod 5 := Int.fmod_nonneg_of_pos _ (by decide)
            have a5 : r.fmod 5 < 5 := Int.fmod_lt_of_pos _ (by decide)
            have b0 : 0 ≤ (r.fdiv 5).fmod 4 := Int.fmod_nonneg_of_pos _ (by decide)
            have b4 : (r.fdiv 5).fmod 4 < 4 := Int.fmod_lt_of_pos _ (by decide)
            have p10 : (2 : Nat) ^ 10 = 1024 := by decide
            have p6 : (2 : Nat) ^ 6 = 64 := by decide
            have e1 := sp_make (p := prg) (m := m + 1) (k := 10) (a := 1 + r.fmod 5) (b := 1 + (r.fdiv 5).fmod 4) (by omega) (by omega) (by decide) (by omega)
            have fm : Fr 12 (2 ^ 6) (Rat.divInt (1 + r.fmod 5) (1 + (r.fdiv 5).fmod 4)) := Fr.divInt (by omega) (bot12 (by omega) (by omega)) (by omega)
            have fp : F1 (x * Rat.divInt (1 + r.fmod 5) (1 + (r.fdiv 5).fmod 4)) := (fx.mul fm).le (by decide)
            have t2 := sp_ltimes (p := prg) (m := m) (k := 62) fx2.bd (fm.bd (k := 62) (by decide) (by decide) (by decide)) (by decide)
            refine fin _ fp ?_
            generalize x * Rat.divInt (1 + r.fmod 5) (1 + (r.fdiv 5).fmod 4) = w at *
            generalize enc (Rat.divInt (1 + r.fmod 5) (1 + (r.fdiv 5).fmod 4)) = v at *
            simp [evDef, startS, PX.execs, PX.exec, evX, evXB, evXL, frzS, anyOw, evE, evL, evJ, evT, bindE, bindT, bindTp, opCmp, opI2, storeIx, E.non?, slB, K03._law_second_b1, natD, a1, a2, h5, h4, d5, e1, t2, hzl]
          · refine fin _ fx2 ?_
            simp [evDef, startS, PX.execs, PX.exec, evX, evXB, evXL, frzS, anyOw, evE, evL, evJ, evT, bindE, bindT, bindTp, opCmp, opI2, storeIx, E.non?, slB, K03._law_second_b1, natD, a1, a2, k0, k1, k2, k3, hzl]) ⟨[], .un, .un, rfl, rfl, fun z h => by cases h⟩
  have ef : PX.exec (prg.tb (m + 3)) (.for (.nm 5) .rng [.bi .len [.var 0]] K03._law_second_b1 [0]) [.fz (.lst (xs.map enc)), .fz (.lst (row.map D.int)), .fz (.int kd), .fz (.bl large), .ow (.lst []), .un, .un, .un] = _ :=
    ex_for_of (ds := [.int (xs.length : Int)]) (by simp [anyOw]) (by simp [evDef, startS, PX.execs, PX.exec, evX, evXB, evXL, frzS, anyOw, evE, evL, evJ, evT, bindE, bindT, bindTp, opCmp, opI2, storeIx, E.non?, slB]) (items_nat (n := xs.length) (by omega))
  have z0 : (0 : Nat) ≤ sizeLine := Nat.zero_le _
  show ∃ ys : List Rat, (PX.execs (prg.tb (m + 3)) (K03.b__law_second.getD 0 .pass :: .for (.nm 5) .rng [.bi .len [.var 0]] K03._law_second_b1 [0] :: K03.b__law_second.drop 2) [.fz (.lst (xs.map enc)), .fz (.lst (row.map D.int)), .fz (.int kd), .fz (.bl large), .un, .un, .un, .un]).out = _ ∧ _
  have ea : PX.exec (prg.tb (m + 3)) (K03.b__law_second.getD 0 .pass) [.fz (.lst (xs.map enc)), .fz (.lst (row.map D.int)), .fz (.int kd), .fz (.bl large), .un, .un, .un, .un] = .ok (.nx [.fz (.lst (xs.map enc)), .fz (.lst (row.map D.int)), .fz (.int kd), .fz (.bl large), .ow (.lst []), .un, .un, .un]) := by
    simp [evDef, startS, PX.execs, PX.exec, evX, evXB, evXL, frzS, anyOw, evE, evL, evJ, evT, bindE, bindT, bindTp, opCmp, opI2, storeIx, E.non?, slB, K03.b__law_second]
  rw [PX.execs_cons, ea, RS.then_nx, PX.execs_cons, ef, e1, RS.then_nx]
  by_cases hk : kd = 4 ∧ 0 < zs.length
  · obtain ⟨rfl, hzp⟩ := hk
    have a12 := at_ints row 12 (by omega)
    have a13 := at_ints row 13 (by omega)
    have a14 := at_ints row 14 (by omega)
    have a12 : atI (row.map D.int) 12 = some (.int row[12]) := a12
    have a13 : atI (row.map D.int) 13 = some (.int row[13]) := a13
    have a14 : atI (row.map D.int) 14 = some (.int row[14]) := a14
    generalize row[12] = r12 at *
    generalize row[13] = r13 at *
    generalize row[14] = r14 at *
    have u0 : 0 ≤ r12.fmod (zs.length : Int) := Int.fmod_nonneg_of_pos _ (by omega)
    have u1 : r12.fmod (zs.length : Int) < zs.length := Int.fmod_lt_of_pos _ (by omega)
    obtain ⟨n, hn⟩ := Int.eq_ofNat_of_zero_le u0
    have hn' : n < zs.length := by omega
    have v0 : 0 ≤ r13.fmod 7 := Int.fmod_nonneg_of_pos _ (by decide)
    have v1 : r13.fmod 7 < 7 := Int.fmod_lt_of_pos _ (by decide)
    have w0 : 0 ≤ r14.fmod 3 := Int.fmod_nonneg_of_pos _ (by decide)
    have w1 : r14.fmod 3 < 3 := Int.fmod_lt_of_pos _ (by decide)
    have p10 : (2 : Nat) ^ 10 = 1024 := by decide
    have p6 : (2 : Nat) ^ 6 = 64 := by decide
    have az := at_encs zs n hn'
    have fz := hzs zs[n] (List.getElem_mem _)
    have e2 := sp_make (p := prg) (m := m + 1) (k := 10) (a := r13.fmod 7 - 3) (b := 1 + r14.fmod 3) (by omega) (by omega) (by decide) (by omega)
    have fm : Fr 12 (2 ^ 6) (Rat.divInt (r13.fmod 7 - 3) (1 + r14.fmod 3)) := Fr.divInt (by omega) (bot12 (by omega) (by omega)) (by omega)
    have fq : Fr 720 (2 ^ 6 * 60) (Rat.divInt (r13.fmod 7 - 3) (1 + r14.fmod 3)) := fm.lift 60
    have fw : F2 (zs[n] + Rat.divInt (r13.fmod 7 - 3) (1 + r14.fmod 3)) := (fz.add fq).le (by decide)
    have e3 := sp_lplus (p := prg) (m := m) (k := 62) (F1.bd fz) (fm.bd (k := 62) (by decide) (by decide) (by decide)) (by decide)
    refine ⟨zs.set n (zs[n] + Rat.divInt (r13.fmod 7 - 3) (1 + r14.fmod 3)), ?_, by simp [hz], fun y hy => ?_⟩
    · rw [List.map_set]
      have lz : ((zs.map enc).length : Int) = zs.length := by rw [List.length_map]
      have ix : ixN (zs.map enc).length (n : Int) = some n := by
        unfold ixN
        rw [if_pos (by omega), if_pos (by rw [List.length_map]; omega)]
        simp
      have h7 : (7 : Int) ≠ 0 := by decide
      have h3 : (3 : Int) ≠ 0 := by decide
      have lfw := lf_fz_enc (zs[n] + Rat.divInt (r13.fmod 7 - 3) (1 + r14.fmod 3))
      generalize zs[n] + Rat.divInt (r13.fmod 7 - 3) (1 + r14.fmod 3) = w at *
      generalize enc (Rat.divInt (r13.fmod 7 - 3) (1 + r14.fmod 3)) = v at *
      generalize zs[n] = z at *
      generalize zs.map enc = Z at *
      generalize xs.map enc = X at *
      generalize row.map D.int = RR at *
      have l0 : (0 : Int) < (Z.length : Int) := by omega
      have l0' : 0 < Z.length := by omega
      have l1 : ¬ (Z.length : Int) = 0 := by omega
      have l2 : ¬ Z = [] := fun q => by rw [q] at l0'; simp at l0'
      rw [← lz] at hn
      simp [evDef, startS, PX.execs, PX.exec, evX, evXB, evXL, frzS, anyOw, evE, evL, evJ, evT, bindE, bindT, bindTp, opCmp, opI2, storeIx, E.non?, slB, K03.b__law_second, l0, l0', l1, l2, a12, a13, a14, hn, az, e2, e3, h7, h3, ix]
    · rcases List.mem_or_eq_of_mem_set hy with h | h
      · exact (hzs y h).f2
      · rw [h]; exact fw
  · refine ⟨zs, ?_, hz, fun y hy => (hzs y hy).f2⟩
    have lz : ((zs.map enc).length : Int) = zs.length := by rw [List.length_map]
    generalize zs.map enc = Z at *
    generalize xs.map enc = X at *
    generalize row.map D.int = RR at *
    by_cases k4 : kd = 4
    · have l0 : ¬ (0 : Int) < (Z.length : Int) := by rw [lz]; exact fun z => hk ⟨k4, by omega⟩
      have l0' : ¬ 0 < Z.length := fun z => l0 (by omega)
      simp [evDef, startS, PX.execs, PX.exec, evX, evXB, evXL, frzS, anyOw, evE, evL, evJ, evT, bindE, bindT, bindTp, opCmp, opI2, storeIx, E.non?, slB, K03.b__law_second, k4, l0, l0']
    · simp [evDef, startS, PX.execs, PX.exec, evX, evXB, evXL, frzS, anyOw, evE, evL, evJ, evT, bindE, bindT, bindTp, opCmp, opI2, storeIx, E.non?, slB, K03.b__law_second, k4]
end
end K03

set_option Elab.async false
set_option linter.all false
set_option maxRecDepth 100000
/-! K03F: sums, asked. -/
namespace K03
open PySem PySem.Spec PyProof.Rows L2 PX
section
variable {m : Nat}
theorem sp_ldot {L1 A1 L2 A2 k : Nat} (hk : 2 * k + 1 ≤ 990) (h1 : 0 < L1) (h2 : 0 < L2) (hL : L1 * L2 < 2 ^ k) (k1 : L1 < 2 ^ k) (k2 : L2 < 2 ^ k) (k3 : A1 < 2 ^ k) (k4 : A2 < 2 ^ k) {xs ys : List Rat} (hx : ∀ x, x ∈ xs → Fr L1 A1 x) (hy : ∀ x, x ∈ ys → Fr L2 A2 x) (hj : (xs.length + 1) * (A1 * A2) < 2 ^ k) (hl : xs.length = ys.length) (hn : xs.length ≤ 1000) :
    prg.call (m + 4) "_law_dot" [.lst (xs.map enc), .lst (ys.map enc)] = .ok (.fz (enc (dotG xs ys))) := by
  rw [HasF.run, evDef_out (show [D.lst (xs.map enc), .lst (ys.map enc)].length = 2 from rfl)]
  let Iv : Nat → Rho → Prop := fun k ρ => ∃ (t : Rat) (s : Sl), ρ = [.fz (.lst (xs.map enc)), .fz (.lst (ys.map enc)), .fz (enc t), s] ∧ t = ((xs.zip ys).take k).foldl (fun t q => t + q.1 * q.2) 0 ∧ Fr (L1 * L2) (k * (A1 * A2)) t
  have hz : (xs.zip ys).length = xs.length := by rw [List.length_zip]; omega
  obtain ⟨ρ1, e1, t, s, rfl, ht, _⟩ := forGo_rng (i := 3) (n := xs.length) (b := fun ρ => PX.execs (prg.tb (m + 3)) Bl._law_dot_b1 ρ) Iv (ρ := [.fz (.lst (xs.map enc)), .fz (.lst (ys.map enc)), .fz (enc 0), .un]) (fun j ρ hj2 h => by
    obtain ⟨t, s, rfl, ht, ft⟩ := h
    have a1 := at_encs xs j hj2
    have a2 := at_encs ys j (by omega)
    have fx := hx xs[j] (List.getElem_mem _)
    have fy := hy ys[j] (List.getElem_mem _)
    have fxy := fx.mul fy
    have hA : A1 * A2 < 2 ^ k := Nat.lt_of_le_of_lt (Nat.le_mul_of_pos_left _ (by omega)) hj
    have hjj : j * (A1 * A2) < 2 ^ k := Nat.lt_of_le_of_lt (Nat.mul_le_mul_right _ (by omega)) hj
    have e1 := sp_ltimes (p := prg) (m := m) (fx.bd h1 k1 k3) (fy.bd h2 k2 k4) (by omega)
    have e2 := sp_lplus (p := prg) (m := m) (ft.bd (Nat.mul_pos h1 h2) hL hjj) (fxy.bd (Nat.mul_pos h1 h2) hL hA) hk
    refine ⟨_, ?_, t + xs[j] * ys[j], .fz (natD j), rfl, ?_, ?_⟩
    · show PX.execs (prg.tb (m + 3)) Bl._law_dot_b1 [.fz (.lst (xs.map enc)), .fz (.lst (ys.map enc)), .fz (enc t), .fz (natD j)] = _
      generalize t + xs[j] * ys[j] = w at *
      generalize enc (xs[j] * ys[j]) = v at *
      generalize xs[j] = x at *
      generalize ys[j] = y at *
      generalize xs.map enc = X at *
      generalize ys.map enc = Y at *
      simp [evDef, startS, PX.execs, PX.exec, evX, evXB, evXL, frzS, anyOw, evE, evL, evJ, evT, bindE, bindT, bindTp, opCmp, opI2, storeIx, E.non?, slB, Bl._law_dot_b1, natD, a1, a2, e1, e2]
    · rw [List.take_succ, List.getElem?_eq_getElem (by rw [hz]; exact hj2), Option.toList_some, List.foldl_append, ← ht]
      simp
    · rw [Nat.add_mul, Nat.one_mul]; exact ft.add fxy) ⟨0, .un, rfl, by simp, Fr.zero _ _⟩
  have ef : PX.exec (prg.tb (m + 3)) (.for (.nm 3) .rng [.bi .len [.var 0]] Bl._law_dot_b1 [0]) [.fz (.lst (xs.map enc)), .fz (.lst (ys.map enc)), .fz (enc 0), .un] = _ :=
    ex_for_of (ds := [.int (xs.length : Int)]) (by simp [anyOw]) (by simp [evDef, startS, PX.execs, PX.exec, evX, evXB, evXL, frzS, anyOw, evE, evL, evJ, evT, bindE, bindT, bindTp, opCmp, opI2, storeIx, E.non?, slB]) (items_nat (n := xs.length) (by omega))
  show (PX.execs (prg.tb (m + 3)) (.asg (.nm 2) (.int 0) [] :: .for (.nm 3) .rng [.bi .len [.var 0]] Bl._law_dot_b1 [0] :: [.retv 2]) [.fz (.lst (xs.map enc)), .fz (.lst (ys.map enc)), .un, .un]).out = _
  have ea : PX.exec (prg.tb (m + 3)) (.asg (.nm 2) (.int 0) []) [.fz (.lst (xs.map enc)), .fz (.lst (ys.map enc)), .un, .un] = .ok (.nx [.fz (.lst (xs.map enc)), .fz (.lst (ys.map enc)), .fz (enc 0), .un]) := by
    rw [enc0]; simp [evDef, startS, PX.execs, PX.exec, evX, evXB, evXL, frzS, anyOw, evE, evL, evJ, evT, bindE, bindT, bindTp, opCmp, opI2, storeIx, E.non?, slB]
  rw [PX.execs_cons, ea, RS.then_nx, PX.execs_cons, ef, e1, RS.then_nx]
  have et : t = dotG xs ys := by rw [ht, List.take_of_length_le (by omega)]; rfl
  rw [et]
  simp [evDef, startS, PX.execs, PX.exec, evX, evXB, evXL, frzS, anyOw, evE, evL, evJ, evT, bindE, bindT, bindTp, opCmp, opI2, storeIx, E.non?, slB]
/-! ### what is told is new, what is passed stays -/
theorem new_ok {h : LHp} {i : Nat} {dueV va vb : LV} {ds : List D} {P : D} (e0 : h[i]? = some (.lst (ds.map .d))) (sd : snap h 8 dueV = some (.lst ds)) (hl : ds.length < sizeLine) (lk : prg.call (m + 4) "_law_like" [.lst ds, .lst ds] = .ok (.fz (.bl true)))
    (sa : snap (h.set i (LO.lst ((ds ++ [D.int 77]).map .d))) 8 va = some P) (sb : snap (h.set i (LO.lst ((ds ++ [D.int 77]).map .d))) 8 vb = some P) (hP : opEq false P P = .ok true) (la : LSl.live (.v va) = true) :
    prg.lcall (m + 5) "_law_new" [.r i, dueV, va, vb] h = .ok (.d (.bl true)) (h.set i (LO.lst ((ds ++ [D.int 77]).map .d))) := by
  rw [HasFL.runL, levDef_out (show [LV.r i, dueV, va, vb].length = 4 from rfl)]
  have st := snap_lst (h := h) (i := i) (ds := ds) e0
  have f0 := frz_r st
  have f1 : LSl.frz h (.v dueV) = .fz (.lst ds) := by
    show (match snap h 8 dueV with | some d => Sl.fz d | none => Sl.un) = _
    rw [sd]
  generalize hh : h.set i (LO.lst ((ds ++ [D.int 77]).map .d)) = h' at *
  have f2 : LSl.frz h' (.v va) = .fz P := by
    show (match snap h' 8 va with | some d => Sl.fz d | none => Sl.un) = _
    rw [sa]
  have f3 : LSl.frz h' (.v vb) = .fz P := by
    show (match snap h' 8 vb with | some d => Sl.fz d | none => Sl.un) = _
    rw [sb]
  have q0 : lexec (prg.ltb (m + 4)) (K03.b__law_new.getD 0 .pass) ⟨[.v (.r i), .v dueV, .v va, .v vb], h⟩ = .ok (.nx ⟨[.v (.r i), .v dueV, .v va, .v vb], h⟩) := by
    have ec : evPB (prg.ltb (m + 4)) [.v (.r i), .v dueV, .v va, .v vb] h [0, 1] (.nt (.call "_law_like" [.var 0, .var 1])) = .ok false h := by
      have ef : evE (prg.tb (m + 4)) ([LSl.v (.r i), .v dueV, .v va, .v vb].map (LSl.frz h)) (.nt (.call "_law_like" [.var 0, .var 1])) = .ok (.fz (.bl false)) := by
        simp [evDef, startS, PX.execs, PX.exec, evX, evXB, evXL, frzS, anyOw, evE, evL, evJ, evT, bindE, bindT, bindTp, opCmp, opI2, storeIx, E.non?, slB, f0, f1, lk]
      unfold evPB
      rw [if_pos (by simp [anyLv]), show (prg.ltb (m + 4)).t = prg.tb (m + 4) from rfl, ef]
      rfl
    show lexec _ (.iff (.nt (.call "_law_like" [.var 0, .var 1])) [0, 1] [.ret (.p (.bl false) [])] []) _ = _
    rw [lexec]
    simp only [ec, LR.on_ok]
    rw [if_neg Bool.false_ne_true, lexecs]
  have q1 : lexec (prg.ltb (m + 4)) (K03.b__law_new.getD 1 .pass) ⟨[.v (.r i), .v dueV, .v va, .v vb], h⟩ = .ok (.nx ⟨[.v (.r i), .v dueV, .v va, .v vb], h'⟩) := by
    have a1 : evA (prg.ltb (m + 4)) [.v (.r i), .v dueV, .v va, .v vb] (.v 0) h = .ok (.r i) h := by simp [evA]
    have a2 : evA (prg.ltb (m + 4)) [.v (.r i), .v dueV, .v va, .v vb] (.p (.int 77) []) h = .ok (.d (.int 77)) h := by
      rw [evA, evP_pur (v := .fz (.int 77)) (by simp [anyLv]) (by simp [evDef, startS, PX.execs, PX.exec, evX, evXB, evXL, frzS, anyOw, evE, evL, evJ, evT, bindE, bindT, bindTp, opCmp, opI2, storeIx, E.non?, slB])]
      rfl
    show lexec _ (.app (.v 0) (.p (.int 77) [])) _ = _
    rw [lexec]
    simp only [a1, LR.on_ok, e0, a2]
    rw [if_pos (by rw [List.length_map]; exact hl), ← hh, List.map_append]
    rfl
  have q2 : lexec (prg.ltb (m + 4)) (K03.b__law_new.getD 2 .pass) ⟨[.v (.r i), .v dueV, .v va, .v vb], h'⟩ = .ok (.rt (.d (.bl true)) h') := by
    have a1 : evA (prg.ltb (m + 4)) [.v (.r i), .v dueV, .v va, .v vb] (.p (.cmp .Eq (.var 2) (.var 3)) [2, 3]) h' = .ok (.d (.bl true)) h' := by
      rw [evA, evP_frz (v := .fz (.bl true)) (by simp only [anyLv, List.any_cons, List.getElem?_cons_succ, List.getElem?_cons_zero, la, Bool.true_or]) (by simp [evDef, startS, PX.execs, PX.exec, evX, evXB, evXL, frzS, anyOw, evE, evL, evJ, evT, bindE, bindT, bindTp, opCmp, opI2, storeIx, E.non?, slB, f2, f3, hP]) rfl]
      rfl
    show lexec _ (.ret (.p (.cmp .Eq (.var 2) (.var 3)) [2, 3])) _ = _
    rw [lexec]
    simp only [a1, LR.on_ok]
  show (lexecs (prg.ltb (m + 4)) [K03.b__law_new.getD 0 .pass, K03.b__law_new.getD 1 .pass, K03.b__law_new.getD 2 .pass] ⟨[.v (.r i), .v dueV, .v va, .v vb], h⟩).outR = _
  rw [lexecs_cons, q0, LRS.then_nx, lexecs_cons, q1, LRS.then_nx, lexecs_cons, q2]
  rfl
/-- the two passed lists and their copies -/
def bs (xs ys : List Rat) : LHp := [.lst ((xs.map enc).map .d), .lst ((ys.map enc).map .d), .lst [.r 0, .r 1], .lst ((xs.map enc).map .d), .lst ((ys.map enc).map .d), .lst [.r 3, .r 4]]
theorem bs_len (xs ys : List Rat) : (bs xs ys).length = 6 := rfl
theorem bs_snap2 (xs ys : List Rat) (g : LHp) : snap (bs xs ys ++ g) 8 (.r 2) = some (.lst [.lst (xs.map enc), .lst (ys.map enc)]) := by
  unfold bs
  generalize xs.map enc = X
  generalize ys.map enc = Y
  simp [snap, mapO]
theorem bs_snap5 (xs ys : List Rat) (g : LHp) : snap (bs xs ys ++ g) 8 (.r 5) = some (.lst [.lst (xs.map enc), .lst (ys.map enc)]) := by
  unfold bs
  generalize xs.map enc = X
  generalize ys.map enc = Y
  simp [snap, mapO]
theorem new_step {xs ys : List Rat} {ρ : LRho} {A1 A2 : LE} {g ex : LHp} {v2 : LV} {ds : List D} (r3 : ρ[3]? = some (.v (.r 2))) (r4 : ρ[4]? = some (.v (.r 5))) (hl : ds.length < sizeLine) (lk : prg.call (m + 4) "_law_like" [.lst ds, .lst ds] = .ok (.fz (.bl true)))
    (e1 : evA (prg.ltb (m + 5)) ρ A1 (bs xs ys ++ g) = .ok (.r (6 + g.length)) (bs xs ys ++ g ++ [.lst (ds.map .d)])) (e2 : evA (prg.ltb (m + 5)) ρ A2 (bs xs ys ++ g ++ [.lst (ds.map .d)]) = .ok v2 (bs xs ys ++ g ++ [.lst (ds.map .d)] ++ ex)) (sn : snap (bs xs ys ++ g ++ [.lst (ds.map .d)] ++ ex) 8 v2 = some (.lst ds)) :
    ∃ g', lexec (prg.ltb (m + 5)) (.iffL (.nt (.e (.call "_law_new" [A1, A2, .v 3, .v 4]))) [.ret (.p (.bl false) [])] []) ⟨ρ, bs xs ys ++ g⟩ = .ok (.nx ⟨ρ, bs xs ys ++ g'⟩) := by
  have hh : (bs xs ys ++ g ++ [LO.lst (ds.map .d)] ++ ex).set (6 + g.length) (.lst ((ds ++ [D.int 77]).map .d)) = bs xs ys ++ (g ++ [.lst ((ds ++ [D.int 77]).map .d)] ++ ex) := by
    rw [List.append_assoc, List.append_assoc, List.set_append_right _ _ (by rw [bs_len]; omega), bs_len, Nat.add_sub_cancel_left, List.set_append_right _ _ (by omega)]
    simp
  have e0 : (bs xs ys ++ g ++ [LO.lst (ds.map .d)] ++ ex)[6 + g.length]? = some (.lst (ds.map .d)) := by
    rw [List.append_assoc, List.append_assoc, List.getElem?_append_right (by rw [bs_len]; omega), bs_len, Nat.add_sub_cancel_left, List.getElem?_append_right (by omega)]
    simp
  have n := new_ok (m := m) (h := bs xs ys ++ g ++ [LO.lst (ds.map .d)] ++ ex) (i := 6 + g.length) (dueV := v2) (va := .r 2) (vb := .r 5) (P := .lst [.lst (xs.map enc), .lst (ys.map enc)]) e0 sn hl lk (by rw [hh]; exact bs_snap2 xs ys _) (by rw [hh]; exact bs_snap5 xs ys _) (by rw [opEq_encss]; simp) rfl
  rw [hh] at n
  refine ⟨g ++ [.lst ((ds ++ [D.int 77]).map .d)] ++ ex, ?_⟩
  have ea : evAs (prg.ltb (m + 5)) ρ [A1, A2, .v 3, .v 4] (bs xs ys ++ g) = .ok [.r (6 + g.length), v2, .r 2, .r 5] (bs xs ys ++ g ++ [.lst (ds.map .d)] ++ ex) := by
    have b3 : ∀ h, evA (prg.ltb (m + 5)) ρ (.v 3) h = .ok (.r 2) h := fun h => by rw [evA, r3]
    have b4 : ∀ h, evA (prg.ltb (m + 5)) ρ (.v 4) h = .ok (.r 5) h := fun h => by rw [evA, r4]
    rw [evAs, e1, LR.bind_ok, evAs, e2, LR.bind_ok, evAs, b3, LR.bind_ok, evAs, b4, LR.bind_ok, evAs]
    rfl
  have eb : evB (prg.ltb (m + 5)) ρ (.nt (.e (.call "_law_new" [A1, A2, .v 3, .v 4]))) (bs xs ys ++ g) = .ok false (bs xs ys ++ (g ++ [.lst ((ds ++ [D.int 77]).map .d)] ++ ex)) := by
    rw [evB, evB, evA, ea, LR.bind_ok]
    show LR.bind (LR.bind (prg.lcall (m + 5) "_law_new" [.r (6 + g.length), v2, .r 2, .r 5] _) _) _ = _
    rw [n]
    rfl
  rw [lexec]
  simp only [eb, LR.on_ok]
  rw [if_neg Bool.false_ne_true, lexecs]
end
end K03

set_option Elab.async false
set_option linter.all false
set_option maxRecDepth 100000
/-! K03H: the orders. -/
namespace K03
open PySem PySem.Spec PyProof.Rows L2 PX
section
variable {m : Nat}
theorem cut_fromD (xs : List D) (k : Nat) : PX.cutD xs (some (k : Int)) none = xs.drop k := by
  unfold PX.cutD
  rw [HT.sIx_nat, HT.sIx_none]
  by_cases h : k ≤ xs.length
  · rw [Nat.min_eq_left h, List.take_of_length_le (by rw [List.length_drop]; omega)]
  · rw [Nat.min_eq_right (by omega), Nat.sub_self, List.take_zero, List.drop_eq_nil_of_le (by omega)]
theorem cut_toD (xs : List D) (k : Nat) : PX.cutD xs none (some (k : Int)) = xs.take k := by
  unfold PX.cutD
  rw [HT.sIx_nat, HT.sIx_none, List.drop_zero, Nat.sub_zero]
  by_cases h : k ≤ xs.length
  · rw [Nat.min_eq_left h]
  · rw [Nat.min_eq_right (by omega), List.take_length, List.take_of_length_le (by omega)]
theorem opSl_fromE (xs : List Rat) (k : Nat) : opSl (.lst (xs.map enc)) (some (k : Int)) none = .ok (.fr (.lst ((xs.drop k).map enc))) := by
  show R.ok (EV.fr (.lst (PX.cutD _ _ _))) = _
  rw [cut_fromD, List.map_drop]
theorem opSl_toE (xs : List Rat) (k : Nat) : opSl (.lst (xs.map enc)) none (some (k : Int)) = .ok (.fr (.lst ((xs.take k).map enc))) := by
  show R.ok (EV.fr (.lst (PX.cutD _ _ _))) = _
  rw [cut_toD, List.map_take]
theorem opSl_fromI (xs : List Int) (k : Nat) : opSl (.lst (xs.map D.int)) (some (k : Int)) none = .ok (.fr (.lst ((xs.drop k).map D.int))) := by
  show R.ok (EV.fr (.lst (PX.cutD _ _ _))) = _
  rw [cut_fromD, List.map_drop]
theorem opSl_toI (xs : List Int) (k : Nat) : opSl (.lst (xs.map D.int)) none (some (k : Int)) = .ok (.fr (.lst ((xs.take k).map D.int))) := by
  show R.ok (EV.fr (.lst (PX.cutD _ _ _))) = _
  rw [cut_toD, List.map_take]
theorem sp_ordered {xs ys : List Rat} {k : Nat} (hk : k ≤ 4000) (hx : ∀ x, x ∈ xs → Bd k x) (hy : ∀ x, x ∈ ys → Bd k x) (hn : xs.length ≤ 1000) (hn2 : ys.length ≤ 1000) :
    prg.call (m + 4) "_law_ordered" [.lst (xs.map enc), .lst (ys.map enc)] = .ok (.fz (.bl true)) := by
  rw [HasF.run, evDef_out (show [D.lst (xs.map enc), .lst (ys.map enc)].length = 2 from rfl)]
  have b1 := sp_before (p := prg) (m := m) hk hx hy
  have b2 := sp_before (p := prg) (m := m) hk hy hx
  have c1 := sp_lbefore (m := m) hk hx hy (by omega)
  have c2 := sp_lbefore (m := m) hk hy hx (by omega)
  have s1 := sp_says (m := m + 2) (a := beforeG xs ys) rfl
  have s2 := sp_says (m := m + 2) (a := beforeG ys xs) rfl
  have eqp : opEq false (.lst [.lst (xs.map enc), .lst (ys.map enc)]) (.lst [.lst (xs.map enc), .lst (ys.map enc)]) = .ok true := by rw [opEq_encss]; simp
  generalize beforeG xs ys = w1 at *
  generalize beforeG ys xs = w2 at *
  have sb := sizeBig
  have l1 : (xs.map enc).length ≤ sizeLine := by rw [List.length_map]; omega
  have l2 : (ys.map enc).length ≤ sizeLine := by rw [List.length_map]; omega
  generalize xs.map enc = X at *
  generalize ys.map enc = Y at *
  simp [evDef, startS, PX.execs, PX.exec, evX, evXB, evXL, frzS, anyOw, evE, evL, evJ, evT, bindE, bindT, bindTp, opCmp, opI2, storeIx, E.non?, slB, K03.b__law_ordered, at0, at1, b1, b2, c1, c2, s1, s2, eqp, l1, l2]
theorem drop_one (xs : List Rat) (x : Rat) : ([x] : List Rat).map enc = [enc x] := rfl
theorem orders_step {xs ys : List Rat} {k : Nat} (hk : k ≤ 4000) (hx : ∀ x, x ∈ xs → Bd k x) (hy : ∀ x, x ∈ ys → Bd k x) (hl : xs.length = ys.length) (hn : xs.length ≤ 12) (j : Nat) (hj : j < xs.length) (s2 s4 : Sl) :
    PX.execs (prg.tb (m + 4)) K03._law_orders_b1 [.fz (.lst (xs.map enc)), .fz (.lst (ys.map enc)), s2, .fz (natD j), s4] = .ok (.nx [.fz (.lst (xs.map enc)), .fz (.lst (ys.map enc)), s2, .fz (natD j), s4]) := by
  have a1 := at_encs xs j hj
  have a2 := at_encs ys j (by omega)
  have o1 := opSl_fromE xs j
  have o2 := opSl_fromE ys j
  have c1 := sp_ordered (m := m) (xs := [xs[j]]) (ys := [ys[j]]) hk (fun x h => by rw [List.mem_singleton.mp h]; exact hx _ (List.getElem_mem _)) (fun x h => by rw [List.mem_singleton.mp h]; exact hy _ (List.getElem_mem _)) (by simp) (by simp)
  have c2 := sp_ordered (m := m) (xs := xs.drop j) (ys := ys.drop j) hk (fun x h => hx _ (List.mem_of_mem_drop h)) (fun x h => hy _ (List.mem_of_mem_drop h)) (by rw [List.length_drop]; omega) (by rw [List.length_drop]; omega)
  have sb := sizeBig
  have l1 : 1 ≤ sizeLine := by omega
  rw [List.map_singleton, List.map_singleton] at c1
  generalize (xs.drop j).map enc = X' at *
  generalize (ys.drop j).map enc = Y' at *
  generalize xs[j] = x at *
  generalize ys[j] = y at *
  generalize xs.map enc = X at *
  generalize ys.map enc = Y at *
  simp [evDef, startS, PX.execs, PX.exec, evX, evXB, evXL, frzS, anyOw, evE, evL, evJ, evT, bindE, bindT, bindTp, opCmp, opI2, storeIx, E.non?, slB, K03._law_orders_b1, natD, slB, a1, a2, o1, o2, c1, c2, l1]
theorem sp_orders {xs ys : List Rat} {k : Nat} (hk : k ≤ 4000) (hx : ∀ x, x ∈ xs → Bd k x) (hy : ∀ x, x ∈ ys → Bd k x) (hl : xs.length = ys.length) (hn : xs.length ≤ 12) (q : Int) (hq : inR q) :
    prg.call (m + 5) "_law_orders" [.lst (xs.map enc), .lst (ys.map enc), .int q] = .ok (.fz (.bl true)) := by
  rw [HasF.run, evDef_out (show [D.lst (xs.map enc), .lst (ys.map enc), .int q].length = 3 from rfl)]
  have sb := sizeBig
  let Iv : Nat → Rho → Prop := fun _ ρ => ∃ s : Sl, ρ = [.fz (.lst (xs.map enc)), .fz (.lst (ys.map enc)), .fz (.int q), s, .un]
  obtain ⟨ρ1, e1, s, rfl⟩ := forGo_rng (i := 3) (n := xs.length) (b := fun ρ => PX.execs (prg.tb (m + 4)) K03._law_orders_b1 ρ) Iv (ρ := [.fz (.lst (xs.map enc)), .fz (.lst (ys.map enc)), .fz (.int q), .un, .un]) (fun j ρ hj h => by
    obtain ⟨s, rfl⟩ := h
    exact ⟨_, orders_step hk hx hy hl hn j hj _ _, _, rfl⟩) ⟨.un, rfl⟩
  have ef : PX.exec (prg.tb (m + 4)) (.for (.nm 3) .rng [.bi .len [.var 0]] K03._law_orders_b1 [0]) [.fz (.lst (xs.map enc)), .fz (.lst (ys.map enc)), .fz (.int q), .un, .un] = _ :=
    ex_for_of (ds := [.int (xs.length : Int)]) (by simp [anyOw]) (by simp [evDef, startS, PX.execs, PX.exec, evX, evXB, evXL, frzS, anyOw, evE, evL, evJ, evT, bindE, bindT, bindTp, opCmp, opI2, storeIx, E.non?, slB]) (items_nat (n := xs.length) (by omega))
  show (PX.execs (prg.tb (m + 4)) (.for (.nm 3) .rng [.bi .len [.var 0]] K03._law_orders_b1 [0] :: K03.b__law_orders.drop 1) [.fz (.lst (xs.map enc)), .fz (.lst (ys.map enc)), .fz (.int q), .un, .un]).out = _
  rw [PX.execs_cons, ef, e1, RS.then_nx]
  -- the cut
  have d0 : (1 + (xs.length : Int)) ≠ 0 := by omega
  have r0 : 0 ≤ q.fmod (1 + (xs.length : Int)) := Int.fmod_nonneg_of_pos _ (by omega)
  have hc : ∃ c : Nat, q.fmod (1 + (xs.length : Int)) = (c : Int) := ⟨_, (Int.toNat_of_nonneg r0).symm⟩
  obtain ⟨c, hc⟩ := hc
  have o1 := opSl_toE xs c
  have o2 := opSl_toE ys c
  have q1 := opEq_encs true (xs.take c) (ys.take c)
  have c1 := sp_ordered (m := m) (xs := xs.take c) (ys := ys) hk (fun x h => hx _ (List.mem_of_mem_take h)) hy (by rw [List.length_take]; omega) (by omega)
  have c2 := sp_ordered (m := m) (xs := xs) (ys := ys.take c) hk hx (fun x h => hy _ (List.mem_of_mem_take h)) (by omega) (by rw [List.length_take]; omega)
  have c3 := sp_ordered (m := m) (xs := xs) (ys := xs) hk hx hx (by omega) (by omega)
  have c4 := sp_ordered (m := m) (xs := ys) (ys := ys) hk hy hy (by omega) (by omega)
  have bm : opBin .Mod (.int q) (.int (1 + (xs.length : Int))) = .ok (.fz (.int c)) := by
    rw [← hc]
    exact ob_mod d0
  generalize hw : decide (xs.take c = ys.take c) = w at *
  generalize (xs.take c).map enc = X' at *
  generalize (ys.take c).map enc = Y' at *
  have lx : (xs.map enc).length = xs.length := List.length_map _
  generalize hn' : xs.length = n at *
  generalize xs.map enc = X at *
  generalize ys.map enc = Y at *
  cases w <;> simp [evDef, startS, PX.execs, PX.exec, evX, evXB, evXL, frzS, anyOw, evE, evL, evJ, evT, bindE, bindT, bindTp, opCmp, opI2, storeIx, E.non?, slB, K03.b__law_orders, slB, lx, bm, o1, o2, q1, c1, c2, c3, c4]
end
end K03

set_option Elab.async false
set_option linter.all false
set_option maxRecDepth 100000
set_option maxHeartbeats 1000000
/-! K03I: primitive rows, told. -/
namespace K03
open PySem PySem.Spec PyProof.Rows L2 PX
section
variable {m : Nat}
theorem row_bdI {L k : Nat} (hL : 0 < L) (hl : L < 2 ^ 10) {xs : List Rat} (hx : ∀ x, x ∈ xs → x.den ∣ L) (hb : ∀ x, x ∈ xs → Bd k x) : ∀ n, n ∈ rowG xs → n.natAbs < 2 ^ (k + 10) := by
  intro n hn
  unfold rowG at hn
  obtain ⟨x, hm, rfl⟩ := List.mem_map.mp hn
  have d1 : lcmG 1 xs ∣ L := by
    have : ∀ (ys : List Rat) (c : Nat), (∀ y, y ∈ ys → y.den ∣ L) → c ∣ L → lcmG c ys ∣ L := by
      intro ys
      induction ys with
      | nil => intro c _ h; exact h
      | cons y ys ih => intro c h hc; exact ih _ (fun z hz => h z (List.mem_cons_of_mem _ hz)) (Nat.lcm_dvd hc (h y List.mem_cons_self))
    exact this xs 1 hx (Nat.one_dvd _)
  have l1 : lcmG 1 xs / x.den ≤ L := Nat.le_trans (Nat.div_le_self _ _) (Nat.le_of_dvd hL d1)
  have l2 : lcmG 1 xs / x.den < 2 ^ 10 := Nat.lt_of_le_of_lt l1 hl
  rw [Int.natAbs_mul, Int.natAbs_natCast, Nat.pow_add]
  exact Nat.mul_lt_mul'' (hb x hm).n l2
theorem prim_bdI {L k : Nat} (hL : 0 < L) (hl : L < 2 ^ 10) {xs : List Rat} (hx : ∀ x, x ∈ xs → x.den ∣ L) (hb : ∀ x, x ∈ xs → Bd k x) : ∀ n, n ∈ primG xs → n.natAbs < 2 ^ (k + 10) := by
  intro n hn
  have r := row_bdI hL hl hx hb
  unfold primG at hn
  split at hn
  · exact r n hn
  · obtain ⟨q, hq, rfl⟩ := List.mem_map.mp hn
    exact Nat.lt_of_le_of_lt (Int.natAbs_fdiv_le_natAbs _ _) (r q hq)
theorem fst_at : ∀ (ns : List Int) (xs : List Rat) (c : Rat) (k j : Nat) (js : List Nat), c ≠ 0 → toQ ns = xs.map (fun x => x * c) → supA k xs = j :: js → ∃ h : j - k < ns.length, k ≤ j ∧ fstN ns = ns[j - k] := by
  intro ns
  induction ns with
  | nil =>
    intro xs c k j js hc e s
    cases xs with
    | nil => simp [supA] at s
    | cons x xs => simp at e
  | cons n ns ih =>
    intro xs c k j js hc e s
    cases xs with
    | nil => simp at e
    | cons x xs =>
      have e' : ((n : Int) : Rat) :: toQ ns = x * c :: xs.map (fun x => x * c) := e
      injection e' with e1 e2
      rw [supA_cons] at s
      by_cases hx : x = 0
      · have n0 : n = 0 := by
          rw [hx, Rat.zero_mul] at e1
          exact cast_inj e1
        rw [if_pos hx] at s
        obtain ⟨h, h1, h2⟩ := ih xs c (k + 1) j js hc e2 s
        have q : j - k = (j - (k + 1)) + 1 := by omega
        refine ⟨by rw [List.length_cons]; omega, by omega, ?_⟩
        have : fstN (n :: ns) = fstN ns := by
          show (if n = 0 then fstN ns else n) = _
          rw [if_pos n0]
        rw [this, h2]
        simp only [q, List.getElem_cons_succ]
      · rw [if_neg hx] at s
        injection s with s1 s2
        subst s1
        have n1 : n ≠ 0 := fun z => by
          rw [z] at e1
          exact (Rat.mul_eq_zero.mp e1.symm).elim hx hc
        refine ⟨by rw [List.length_cons]; omega, Nat.le_refl _, ?_⟩
        have : fstN (n :: ns) = n := by
          show (if n = 0 then fstN ns else n) = _
          rw [if_neg n1]
        rw [this]
        simp
theorem sup_nil : ∀ (xs : List Rat) (k : Nat), supA k xs = [] → ∀ x, x ∈ xs → x = 0 := by
  intro xs
  induction xs with
  | nil => intro k _ x h; cases h
  | cons y ys ih =>
    intro k h x hx
    rw [supA_cons] at h
    by_cases hy : y = 0
    · rw [if_pos hy] at h
      rcases List.mem_cons.mp hx with rfl | hx
      · exact hy
      · exact ih _ h x hx
    · rw [if_neg hy] at h
      cases h
theorem sup_cons_nz : ∀ (xs : List Rat) (k j : Nat) (js : List Nat), supA k xs = j :: js → ∃ x, x ∈ xs ∧ x ≠ 0 := by
  intro xs
  induction xs with
  | nil => intro k j js h; simp [supA] at h
  | cons y ys ih =>
    intro k j js h
    rw [supA_cons] at h
    by_cases hy : y = 0
    · rw [if_pos hy] at h
      obtain ⟨x, h1, h2⟩ := ih _ _ _ h
      exact ⟨x, List.mem_cons_of_mem _ h1, h2⟩
    · exact ⟨y, List.mem_cons_self, hy⟩
/-! ### a whole list -/
theorem lcGo_none {T : Tb} {ρ : Rho} {i : Nat} {t : E} {el : E} : ∀ (ds : List D), (∀ d, d ∈ ds → evT T (ρ.set i (.fz d)) [t] = .ok false) →
    lcGo (.nm i) (fun ρ1 => evT T ρ1 [t]) (fun ρ1 => evE T ρ1 el) ρ ds = .ok []
  | [], _ => by rw [lcGo]
  | d :: ds, h => by
    have ih := lcGo_none (T := T) (ρ := ρ) (i := i) (t := t) (el := el) ds (fun y hy => h y (List.mem_cons_of_mem _ hy))
    have e := h d List.mem_cons_self
    rw [lcGo]
    simp only [bindT, R.bind_ok, e, ih]
    rfl
theorem sp_whole_list (ns : List Int) (n : Nat) (hn : ns.length = n) (hl : n ≤ 100000) : prg.call (m + 2) "_law_whole_list" [.lst (ns.map D.int), .int n] = .ok (.fz (.bl true)) := by
  rw [HasF.run, evDef_out (show [D.lst (ns.map D.int), D.int n].length = 2 from rfl)]
  have sb := sizeBig
  have e : evE (prg.tb (m + 1)) [.fz (.lst (ns.map D.int)), .fz (.int n), .un] (.lc [2] (.nm 2) .val [.var 0] K03._law_whole_list_t1 K03._law_whole_list_e1) = .ok (.fr (.lst [])) := by
    have g := lcGo_none (T := prg.tb (m + 1)) (ρ := [.fz (.lst (ns.map D.int)), .fz (.int n), .un]) (i := 2) (t := .nt (.call "_law_is_int" [.var 2])) (el := K03._law_whole_list_e1) (ns.map D.int) (fun d hd => by
      obtain ⟨i, _, rfl⟩ := List.mem_map.mp hd
      have := sp_is_int (p := prg) (m := m) i
      generalize ns.map D.int = X at *
      simp [evDef, startS, PX.execs, PX.exec, evX, evXB, evXL, frzS, anyOw, evE, evL, evJ, evT, bindE, bindT, bindTp, opCmp, opI2, storeIx, E.non?, slB, this])
    have ha : evL (prg.tb (m + 1)) [.fz (.lst (ns.map D.int)), .fz (.int n), .un] [.var 0] = .ok [.lst (ns.map D.int)] := by
      generalize ns.map D.int = X
      simp [evDef, startS, PX.execs, PX.exec, evX, evXB, evXL, frzS, anyOw, evE, evL, evJ, evT, bindE, bindT, bindTp, opCmp, opI2, storeIx, E.non?, slB]
    rw [evE, ha, R.bind_ok]
    show R.bind (itVal [.lst (ns.map D.int)]) _ = _
    rw [itVal_l, R.bind_ok, if_pos (by rw [List.length_map]; omega)]
    show R.map _ (R.nox (lcGo (.nm 2) _ _ [.fz (.lst (ns.map D.int)), .fz (.int n), .un] _)) = _
    unfold K03._law_whole_list_t1
    rw [g]
    rfl
  have lx : (ns.map D.int).length = n := by rw [List.length_map, hn]
  have ni : opEq true (.int (n : Int)) (.int (n : Int)) = .ok false := by
    have := opEq_enc true ((n : Int) : Rat) ((n : Int) : Rat)
    rw [enc_int] at this
    rw [this]; simp
  have i0 : opEq false (.int 0) (.int 0) = .ok true := by
    have := opEq_enc false (0 : Rat) (0 : Rat)
    rw [enc0] at this
    rw [this]; simp
  have is : evBi .isI [.lst (ns.map D.int), .ty "list"] = .ok (.fz (.bl true)) := rfl
  unfold K03.b__law_whole_list
  generalize ns.map D.int = X at *
  generalize E.lc [2] (Tg.nm 2) ItK.val [E.var 0] K03._law_whole_list_t1 K03._law_whole_list_e1 = Z at *
  simp [evDef, startS, PX.execs, PX.exec, evX, evXB, evXL, frzS, anyOw, evE, evL, evJ, evT, bindE, bindT, bindTp, opCmp, opI2, storeIx, E.non?, slB, is, lx, ni, i0, e]
end
end K03

set_option Elab.async false
set_option linter.all false
set_option maxRecDepth 100000
set_option maxHeartbeats 1000000
/-! K03J: primitive rows, told: the whole. -/
namespace K03
open PySem PySem.Spec PyProof.Rows L2 PX
section
variable {m : Nat}
theorem tbc {p : Prg} {m : Nat} {f : Str} {ds : List D} {v : PX.R EV} (h : p.call m f ds = v) : (p.tb m).call f ds = v := by rw [tb_call]; exact h
theorem ltbc {p : Prg} {m : Nat} {f : Str} {ds : List D} {v : PX.R EV} (h : p.call m f ds = v) : (p.ltb m).t.call f ds = v := by
  have : (p.ltb m).t = p.tb m := rfl
  rw [this, tb_call]
  exact h
theorem gcd_lt {c n k : Nat} (hc : c < k) (hn : n < k) : Nat.gcd c n < k := by
  rcases Nat.eq_zero_or_pos c with rfl | h
  · rw [Nat.gcd_zero_left]; exact hn
  · exact Nat.lt_of_le_of_lt (Nat.gcd_le_left _ h) hc
theorem told_gcd {k : Nat} (hk : k ≤ 990) (a0 a1 a2 a3 a4 a5 s8 s9 s10 : Sl) : ∀ (ns : List Int) (c : Nat) (s7 : Sl), c < 2 ^ k → (∀ n, n ∈ ns → n.natAbs < 2 ^ k) →
    ∃ s7', forGo (.nm 7) (fun ρ => PX.execs (prg.tb (m + 4)) K03._law_primitive_told_b1 ρ) (ns.map D.int) [a0, a1, a2, a3, a4, a5, .fz (.int (c : Int)), s7, s8, s9, s10] = .ok (.nx [a0, a1, a2, a3, a4, a5, .fz (.int (gcdA c ns : Int)), s7', s8, s9, s10])
  | [], c, s7, _, _ => ⟨s7, forGo_nil⟩
  | n :: ns, c, s7, hc, hn => by
    have h1 := hn n List.mem_cons_self
    have g := sp_gcd (p := prg) (m := m + 3) (a := (c : Int)) (b := n) (k := k) (by rw [Int.natAbs_natCast]; exact hc) h1 hk
    rw [Int.natAbs_natCast] at g
    obtain ⟨s', e⟩ := told_gcd hk a0 a1 a2 a3 a4 a5 s8 s9 s10 ns (Nat.gcd c n.natAbs) (.fz (.int n)) (gcd_lt hc h1) (fun q h => hn q (List.mem_cons_of_mem _ h))
    refine ⟨s', ?_⟩
    have st : PX.execs (prg.tb (m + 4)) K03._law_primitive_told_b1 [a0, a1, a2, a3, a4, a5, .fz (.int (c : Int)), .fz (.int n), s8, s9, s10] = .ok (.nx [a0, a1, a2, a3, a4, a5, .fz (.int (Nat.gcd c n.natAbs : Nat)), .fz (.int n), s8, s9, s10]) := by
      simp [evDef, startS, PX.execs, PX.exec, evX, evXB, evXL, frzS, anyOw, evE, evL, evJ, evT, bindE, bindT, bindTp, opCmp, opI2, storeIx, E.non?, slB, K03._law_primitive_told_b1, g]
    rw [List.map_cons, forGo_cons]
    simp only [bindT, R.on_ok, List.set]
    rw [st, RS.turn_nx, e]
    rfl
theorem opNe_refl_enc (x : Rat) : opEq true (enc x) (enc x) = .ok false := by rw [opEq_enc]; simp
theorem bd_int {k : Nat} {n : Int} (hk : 0 < k) (h : n.natAbs < 2 ^ k) : Bd k (n : Rat) := ⟨h, by

  show 1 < 2 ^ k
  exact Nat.one_lt_two_pow (by omega)⟩
theorem told_cross {xs : List Rat} {ns : List Int} {c : Rat} {j : Nat} {J : List D} (hx : ∀ x, x ∈ xs → Bd 72 x) (hn : ∀ n, n ∈ ns → Bd 72 (n : Rat)) (e : toQ ns = xs.map fun x => x * c) (hj : j < xs.length) (a1 a2 a3 a6 a7 a9 a10 s8 : Sl) (k : Nat) (hk : k < xs.length) :
    PX.execs (prg.tb (m + 4)) K03._law_primitive_told_b2 [.fz (.lst (xs.map enc)), a1, a2, a3, .fz (.lst (ns.map D.int)), .ow (.lst (natD j :: J)), a6, a7, .fz (natD k), a9, a10] = .ok (.nx [.fz (.lst (xs.map enc)), a1, a2, a3, .fz (.lst (ns.map D.int)), .ow (.lst (natD j :: J)), a6, a7, .fz (natD k), a9, a10]) := by
  have hl : ns.length = xs.length := by
    have := congrArg List.length e
    simpa using this
  have ge : ∀ i (h : i < xs.length), ((ns[i]'(by omega) : Int) : Rat) = xs[i] * c := fun i h => by
    have h2 : (toQ ns)[i]? = (xs.map fun x => x * c)[i]? := by rw [e]
    rw [List.getElem?_map, List.getElem?_map, List.getElem?_eq_getElem (by omega), List.getElem?_eq_getElem h] at h2
    exact Option.some.inj h2
  have p1 := at_encs xs j hj
  have p2 := at_encs xs k hk
  have p3 := at_ints ns j (by omega)
  have p4 := at_ints ns k (by omega)
  have t1 := sp_ltimes (p := prg) (m := m + 1) (hn ns[k] (List.getElem_mem _)) (hx xs[j] (List.getElem_mem _)) (by decide)
  have t2 := sp_ltimes (p := prg) (m := m + 1) (hn ns[j] (List.getElem_mem _)) (hx xs[k] (List.getElem_mem _)) (by decide)
  rw [enc_int] at t1 t2
  have eq : ((ns[k] : Int) : Rat) * xs[j] = ((ns[j] : Int) : Rat) * xs[k] := by
    rw [ge k hk, ge j hj, Rat.mul_comm xs[k] c, Rat.mul_assoc, Rat.mul_comm xs[k], ← Rat.mul_assoc, Rat.mul_comm c]
  rw [← eq] at t2
  have q := opNe_refl_enc (((ns[k] : Int) : Rat) * xs[j])
  have b0 := at0 (natD j) J
  generalize ((ns[k] : Int) : Rat) * xs[j] = w at *
  generalize enc xs[j] = x1 at *
  generalize enc xs[k] = x2 at *
  generalize ns[j] = n1 at *
  generalize ns[k] = n2 at *
  generalize xs.map enc = X at *
  generalize ns.map D.int = N at *
  unfold natD at *
  simp [evDef, startS, PX.execs, PX.exec, evX, evXB, evXL, frzS, anyOw, evE, evL, evJ, evT, bindE, bindT, bindTp, opCmp, opI2, storeIx, E.non?, slB, K03._law_primitive_told_b2, p1, p2, p3, p4, b0, t1, t2, q]
end
end K03

set_option Elab.async false
set_option linter.all false
set_option maxRecDepth 100000
set_option maxHeartbeats 1000000
/-! K03G: sums, asked: the whole. -/
namespace K03
open PySem PySem.Spec PyProof.Rows L2 PX
section
variable {m : Nat}
theorem call_v {T : Tb} {ρ : Rho} {f : Str} {i : Nat} {d : D} {v : PX.R EV} (h : ρ[i]? = some (.fz d)) (c : T.call f [d] = v) : evE T ρ (.call f [.var i]) = v := by
  rw [evE, evL, evE, h]
  simp only [R.bind_ok, evL]
  exact c
theorem call_ix0 {T : Tb} {ρ : Rho} {f : Str} {i : Nat} {a b : D} {v : PX.R EV} (h : ρ[i]? = some (.fz (.lst [a, b]))) (c : T.call f [a] = v) : evE T ρ (.call f [.ix (.var i) (.int 0)]) = v := by
  simp [evE, evL, h, at0, c]
theorem like_abs {T : Tb} {ρ : Rho} {X Y : List D} {w : D} (h0 : ρ[0]? = some (.fz (.lst X))) (h1 : ρ[1]? = some (.fz (.lst Y))) (h3 : ρ[3]? = some (.fz (.lst [.lst X, .lst Y]))) (c1 : T.call "dot" [.lst X, .lst Y] = .ok (.fz w)) (c2 : T.call "_law_dot" [.lst X, .lst Y] = .ok (.fz w)) (c3 : T.call "_law_like" [w, w] = .ok (.fz (.bl true))) :
    evE T ρ (.nt (.call "_law_like" [.call "dot" [.ix (.var 3) (.int 0), .ix (.var 3) (.int 1)], .call "_law_dot" [.var 0, .var 1]])) = .ok (.fz (.bl false)) := by
  simp [evE, evL, h0, h1, h3, at0, at1, c1, c2, c3]
theorem says_abs {T : Tb} {ρ : Rho} {X Y : List D} {w : Bool} (h0 : ρ[0]? = some (.fz (.lst X))) (h1 : ρ[1]? = some (.fz (.lst Y))) (h3 : ρ[3]? = some (.fz (.lst [.lst X, .lst Y]))) (h4 : ρ[4]? = some (.fz (.lst [.lst X, .lst Y]))) (c1 : T.call "agrees" [.lst X, .lst Y] = .ok (.fz (.bl w))) (c2 : T.call "_law_agrees" [.lst X, .lst Y] = .ok (.fz (.bl w))) (c3 : T.call "_law_says" [.bl w, .bl w] = .ok (.fz (.bl true)))
    (q : opEq false (.lst [.lst X, .lst Y]) (.lst [.lst X, .lst Y]) = .ok true) :
    evE T ρ (.and (.call "_law_says" [.call "agrees" [.ix (.var 3) (.int 0), .ix (.var 3) (.int 1)], .call "_law_agrees" [.var 0, .var 1]]) (.cmp .Eq (.var 3) (.var 4))) = .ok (.fz (.bl true)) := by
  simp [evE, evL, opCmp, h0, h1, h3, h4, at0, at1, c1, c2, c3, q]
theorem evA_fr {T : LTb} {ρ : LRho} {h : LHp} {us : List Nat} {e : E} {ds : List D} (ha : anyLv ρ us = true) (he : evE T.t (ρ.map (LSl.frz h)) e = .ok (.fr (.lst ds))) (hl : D.lfs ds = true) : evA T ρ (.p e us) h = .ok (.r h.length) (h ++ [.lst (ds.map .d)]) := by
  rw [evA, evP_frz ha he hl]
  rfl
theorem evA_frP {T : LTb} {ρ : LRho} {h : LHp} {us : List Nat} {e : E} {ds : List D} (ha : anyLv ρ us = false) (he : evE T.t (ρ.map LSl.pur) e = .ok (.fr (.lst ds))) : evA T ρ (.p e us) h = .ok (.r h.length) (h ++ [.lst (ds.map .d)]) := by
  rw [evA, evP_pur ha he]
  rfl
theorem evA_lc_rng {T : LTb} {ρ : LRho} {own : List Nat} {i n : Nat} {a : E} {us : List Nat} {el : LE} {eb : Nat → D} {h : LHp} {v : EV} (ha : anyLv ρ us = false) (h0 : evE T.t (ρ.map LSl.pur) a = .ok v) (hv : v.d = .int n) (hl : n ≤ 100000)
    (hx : ∀ k, k < n → ∀ h, evA T ((wipeLS ρ own).set i (.v (.d (natD k)))) el h = .ok (.d (eb k)) h) : evA T ρ (.lc own (.nm i) .rng [a] us [] el) h = .ok (.r h.length) (h ++ [.lst (((List.range n).map eb).map .d)]) := by
  have sb := sizeBig
  have e := lcL_nm (T := T) (ρ := wipeLS ρ own) (i := i) (k := h.length) (el := el) (ea := natD) (eb := eb) (List.range n) (h ++ [.lst []]) [] (by simp) (by simp; omega) (fun k hk => hx k (List.mem_range.mp hk))
  have ep : evPL T ρ h us [a] = .ok [.int (n : Int)] h := by
    unfold evPL
    rw [ha]
    simp [evL, h0, hv]
  have it := items_nat (n := n) (by omega)
  rw [← rngD_nat] at e
  have hlen : (rngD n).length ≤ sizeLine := by rw [rngD_len]; omega
  rw [evA, ep, LR.bind_ok, it]
  show (if (rngD n).length ≤ sizeLine then _ else _) = _
  rw [if_pos hlen, e]
  simp
theorem zip_range (xs ys : List Rat) (hl : xs.length = ys.length) (f : Rat → Rat → Rat) : (List.range xs.length).map (fun k => f (xs.getD k 0) (ys.getD k 0)) = (xs.zip ys).map fun q => f q.1 q.2 := by
  apply List.ext_getElem
  · simp [hl]
  · intro k h1 h2
    simp at h1 h2
    simp [h1, show k < ys.length by omega]
theorem natD_lfs (ks : List Nat) : D.lfs (ks.map natD) = true := by rw [natD_int]; exact lfs_ints _
theorem supA_len : ∀ (zs : List Rat) (k : Nat), (supA k zs).length ≤ zs.length := by
  intro zs
  induction zs with
  | nil => intro k; simp [supA]
  | cons z zs ih =>
    intro k
    rw [supA_cons]
    have := ih (k + 1)
    split <;> simp <;> omega
theorem supG_len (xs : List Rat) : (supG xs).length ≤ xs.length := supA_len xs 0
theorem fr_k03 : ∃ A : Nat, A < 2 ^ 61 ∧ ∀ x, F2 x → Fr 720 A x := ⟨2 ^ 60, by decide, fun _ h => h⟩
theorem bnd_k03 {A n : Nat} (hA : A < 2 ^ 61) (hn : n ≤ 13) : n * (A * A) < 2 ^ 200 := by
  have h1 : n * (A * A) ≤ 13 * (2 ^ 61 * 2 ^ 61) := Nat.mul_le_mul hn (Nat.mul_le_mul (Nat.le_of_lt hA) (Nat.le_of_lt hA))
  exact Nat.lt_of_le_of_lt h1 (by decide)
theorem cDot {xs ys : List Rat} (hx : ∀ x, x ∈ xs → F2 x) (hy : ∀ x, x ∈ ys → F2 x) (hn : xs.length ≤ 12) : prg.call (m + 5) "dot" [.lst (xs.map enc), .lst (ys.map enc)] = .ok (.fz (enc (dotG xs ys))) := by
  obtain ⟨A, hA, hF⟩ := fr_k03
  have hA2 : A < 2 ^ 200 := Nat.lt_trans hA (by decide)
  exact sp_dot (p := prg) (m := m + 2) (L1 := 720) (A1 := A) (L2 := 720) (A2 := A) (k := 200) (by decide) (by decide) (by decide) (by decide) (by decide) (by decide) hA2 hA2 (fun x h => hF x (hx x h)) (fun x h => hF x (hy x h)) (bnd_k03 hA (by omega)) (by have := bnd_k03 (n := 1) hA (by omega); rwa [Nat.one_mul] at this)
theorem cLdot {xs ys : List Rat} (hx : ∀ x, x ∈ xs → F2 x) (hy : ∀ x, x ∈ ys → F2 x) (hl : xs.length = ys.length) (hn : xs.length ≤ 12) : prg.call (m + 5) "_law_dot" [.lst (xs.map enc), .lst (ys.map enc)] = .ok (.fz (enc (dotG xs ys))) := by
  obtain ⟨A, hA, hF⟩ := fr_k03
  have hA2 : A < 2 ^ 200 := Nat.lt_trans hA (by decide)
  exact sp_ldot (m := m + 1) (L1 := 720) (A1 := A) (L2 := 720) (A2 := A) (k := 200) (by decide) (by decide) (by decide) (by decide) (by decide) (by decide) hA2 hA2 (fun x h => hF x (hx x h)) (fun x h => hF x (hy x h)) (bnd_k03 hA (by omega)) hl (by omega)
def S0 (xs ys : List Rat) (f : Rat) (s5 s6 : LSl) : LRho := [.v (.d (.lst (xs.map enc))), .v (.d (.lst (ys.map enc))), .v (.d (enc f)), .v (.r 2), .v (.r 5), s5, s6, .un]
theorem elen : ∀ zs : List Rat, zs.length ≤ 12 → (zs.map enc).length < sizeLine := fun zs h => by have sb := sizeBig; rw [List.length_map]; omega
theorem bd1 : Bd 62 (1 : Rat) := ⟨by decide, by decide⟩
theorem bdm1 : Bd 62 (-1 : Rat) := ⟨by decide, by decide⟩
theorem sums_q01 {xs ys : List Rat} {f : Rat} : lexecs (prg.ltb (m + 5)) (K03.b__law_sums.take 2) ⟨[.v (.d (.lst (xs.map enc))), .v (.d (.lst (ys.map enc))), .v (.d (enc f)), .un, .un, .un, .un, .un], []⟩ = .ok (.nx ⟨S0 xs ys f .un .un, bs xs ys ++ []⟩) := by
  have sb := sizeBig
  have l0 : ∀ (s3 : LSl) (h : LHp), evA (prg.ltb (m + 5)) [.v (.d (.lst (xs.map enc))), .v (.d (.lst (ys.map enc))), .v (.d (enc f)), s3, .un, .un, .un, .un] (.ls [.p (.bi .list [.var 0]) [0], .p (.bi .list [.var 1]) [1]]) h = .ok (.r (h.length + 2)) (h ++ [.lst ((xs.map enc).map .d), .lst ((ys.map enc).map .d), .lst [.r h.length, .r (h.length + 1)]]) := fun s3 h => by
    have a1 := evA_frP (T := prg.ltb (m + 5)) (ρ := [.v (.d (.lst (xs.map enc))), .v (.d (.lst (ys.map enc))), .v (.d (enc f)), s3, .un, .un, .un, .un]) (h := h) (us := [0]) (e := .bi .list [.var 0]) (ds := xs.map enc) (by simp [anyLv]) (by simp [evDef, startS, PX.execs, PX.exec, evX, evXB, evXL, frzS, anyOw, evE, evL, evJ, evT, bindE, bindT, bindTp, opCmp, opI2, storeIx, E.non?, slB])
    have a2 := evA_frP (T := prg.ltb (m + 5)) (ρ := [.v (.d (.lst (xs.map enc))), .v (.d (.lst (ys.map enc))), .v (.d (enc f)), s3, .un, .un, .un, .un]) (h := h ++ [.lst ((xs.map enc).map .d)]) (us := [1]) (e := .bi .list [.var 1]) (ds := ys.map enc) (by simp [anyLv]) (by simp [evDef, startS, PX.execs, PX.exec, evX, evXB, evXL, frzS, anyOw, evE, evL, evJ, evT, bindE, bindT, bindTp, opCmp, opI2, storeIx, E.non?, slB])
    rw [evA, evAs, a1, LR.bind_ok, evAs, a2, LR.bind_ok, evAs]
    simp only [LR.bind_ok]
    rw [if_pos (by show (2 : Nat) ≤ sizeLine; omega)]
    simp
  show lexecs _ [.asg (.nm 3) (.ls [.p (.bi .list [.var 0]) [0], .p (.bi .list [.var 1]) [1]]), .asg (.nm 4) (.ls [.p (.bi .list [.var 0]) [0], .p (.bi .list [.var 1]) [1]])] _ = _
  rw [lexecs_cons, lexec]
  simp only [l0, LR.on_ok, PX.bindL, LRS.then_nx, List.set]
  rw [lexecs_cons, lexec]
  simp only [l0, LR.on_ok, PX.bindL, LRS.then_nx, List.set]
  rw [lexecs]
  rfl
theorem sums_s2 {xs ys : List Rat} {f : Rat} (hn : xs.length ≤ 12) : ∀ g, ∃ g', lexec (prg.ltb (m + 5)) (K03.b__law_sums.getD 2 .pass) ⟨S0 xs ys f .un .un, bs xs ys ++ g⟩ = .ok (.nx ⟨S0 xs ys f .un .un, bs xs ys ++ g'⟩) := by
  have fz2 := fun g => frz_r (bs_snap2 xs ys g)
  have fz5 := fun g => frz_r (bs_snap5 xs ys g)
  have hbl : ∀ g : LHp, (bs xs ys ++ g).length = 6 + g.length := fun g => by rw [List.length_append, bs_len]
  have sb := sizeBig
  have c_sup := sp_support (p := prg) (m := m + 4) (xs := xs) (by omega)
  have c_lsup := sp_lsupport (m := m + 4) (xs := xs) (by omega)
  intro g
  refine new_step (m := m) (ds := (supG xs).map natD) (v2 := .r (6 + g.length + 1)) (ex := [.lst (((supG xs).map natD).map .d)]) rfl rfl ?_ ?_ ?_ ?_ ?_
  · rw [List.length_map]
    have := supG_len xs
    omega
  · rw [natD_int]
    refine like_ints _ ?_
    rw [List.length_map]
    have := supG_len xs
    omega
  · have := evA_fr (T := prg.ltb (m + 5)) (ρ := S0 xs ys f .un .un) (h := bs xs ys ++ g) (us := [3]) (e := .call "support" [.ix (.var 3) (.int 0)]) (ds := (supG xs).map natD) (by simp [anyLv, S0]) (by
      simp only [S0, List.map_cons, List.map_nil, fz2, fz5, frz_d, frz_un]
      exact call_ix0 rfl (ltbc c_sup)) (natD_lfs _)
    rw [hbl] at this
    exact this
  · have := evA_frP (T := prg.ltb (m + 5)) (ρ := S0 xs ys f .un .un) (h := bs xs ys ++ g ++ [.lst (((supG xs).map natD).map .d)]) (us := [0]) (e := .call "_law_support" [.var 0]) (ds := (supG xs).map natD) (by simp [anyLv, S0]) (by
      simp only [S0, List.map_cons, List.map_nil, pur_d, pur_r, pur_un]
      exact call_v rfl (ltbc c_lsup))
    rw [List.length_append, hbl] at this
    exact this
  · refine snap_lst ?_
    rw [List.getElem?_append_right (by rw [List.length_append, hbl]; simp), List.length_append, hbl]
    simp
theorem sums_stepC {xs ys : List Rat} {f : Rat} : ∀ (q : LQ) (A1 : E) (el : LE) (us : List Nat) (zs : List Rat), zs.length ≤ 12 → q = .iffL (.nt (.e (.call "_law_new" [.p A1 us, .lcL [5] (.nm 5) (.v 0) [] el, .v 3, .v 4]))) [.ret (.p (.bl false) [])] [] → (∀ ρ, ρ = S0 xs ys f .un .un → anyLv ρ us = true) →
      (∀ g, evE (prg.tb (m + 5)) ((S0 xs ys f .un .un).map (LSl.frz (bs xs ys ++ g))) A1 = .ok (.fr (.lst (zs.map enc)))) → (∃ ef : Rat → Rat, zs = xs.map ef ∧ ∀ x, x ∈ xs → ∀ h, evA (prg.ltb (m + 5)) (S0 xs ys f (.v (.d (enc x))) .un) el h = .ok (.d (enc (ef x))) h) → ∀ g, ∃ g', lexec (prg.ltb (m + 5)) q ⟨S0 xs ys f .un .un, bs xs ys ++ g⟩ = .ok (.nx ⟨S0 xs ys f .un .un, bs xs ys ++ g'⟩) := by
  have sb := sizeBig
  have fz2 := fun g => frz_r (bs_snap2 xs ys g)
  have fz5 := fun g => frz_r (bs_snap5 xs ys g)
  have hbl : ∀ g : LHp, (bs xs ys ++ g).length = 6 + g.length := fun g => by rw [List.length_append, bs_len]
  intro q A1 el us zs hzl hq hus hA hE g
  subst hq
  obtain ⟨ef, rfl, hE⟩ := hE
  have hzl' : (xs.map ef).length ≤ 12 := hzl
  have hxl : xs.length ≤ 12 := by simpa using hzl
  refine new_step (m := m) (ds := (xs.map ef).map enc) (v2 := .r (6 + g.length + 1)) (ex := [.lst (((xs.map ef).map enc).map .d)]) rfl rfl (elen _ hzl) (like_encs _ (by omega)) ?_ ?_ ?_
  · have := evA_fr (T := prg.ltb (m + 5)) (ρ := S0 xs ys f .un .un) (h := bs xs ys ++ g) (us := us) (e := A1) (ds := (xs.map ef).map enc) (hus _ rfl) (hA g) (lfs_encs _)
    rw [hbl] at this
    exact this
  · have := evA_lcL_d (T := prg.ltb (m + 5)) (ρ := S0 xs ys f .un .un) (own := [5]) (i := 5) (o := .v 0) (el := el) (ea := enc) (eb := fun x => enc (ef x)) (xs := xs) (h := bs xs ys ++ g ++ [.lst (((xs.map ef).map enc).map .d)]) (by rw [evA]; rfl) (by omega) (fun x hm h => hE x hm h)
    rw [List.length_append, hbl] at this
    have e : (xs.map fun x => enc (ef x)) = (xs.map ef).map enc := by rw [List.map_map]; rfl
    rw [e] at this
    exact this
  · refine snap_lst ?_
    rw [List.getElem?_append_right (by rw [List.length_append, hbl]; simp), List.length_append, hbl]
    simp
theorem sums_s3 {xs ys : List Rat} {f : Rat} (hx : ∀ x, x ∈ xs → F2 x) (hn : xs.length ≤ 12) : ∀ g, ∃ g', lexec (prg.ltb (m + 5)) (K03.b__law_sums.getD 3 .pass) ⟨S0 xs ys f .un .un, bs xs ys ++ g⟩ = .ok (.nx ⟨S0 xs ys f .un .un, bs xs ys ++ g'⟩) := by
  have sb := sizeBig
  have fz2 := fun g => frz_r (bs_snap2 xs ys g)
  have fz5 := fun g => frz_r (bs_snap5 xs ys g)
  have hbl : ∀ g : LHp, (bs xs ys ++ g).length = 6 + g.length := fun g => by rw [List.length_append, bs_len]
  have bx : ∀ x, x ∈ xs → Bd 62 x := fun x h => (hx x h).bd
  have bm1 := bdm1
  have c_neg := sp_negative (p := prg) (m := m + 2) (xs := xs) (k := 62) (by decide) bx (by omega)
  have en1 : (xs.map fun x => -x) = xs.map fun x => x * (-1 : Rat) := List.map_congr_left fun x _ => by rw [Rat.mul_neg, Rat.mul_one]
  rw [en1] at c_neg
  have em : enc (-1 : Rat) = .int (-1) := rfl
  exact sums_stepC (m := m) (xs := xs) (ys := ys) (f := f) (K03.b__law_sums.getD 3 .pass) (.call "negative" [.ix (.var 3) (.int 0)]) K03._law_sums_e1 [3] (xs.map fun x => x * (-1 : Rat)) (by rw [List.length_map]; exact hn) rfl (fun ρ h => by subst h; simp [anyLv, S0]) (fun g => by
    simp only [S0, List.map_cons, List.map_nil, fz2, fz5, frz_d, frz_un]
    generalize (xs.map fun x => x * (-1 : Rat)).map enc = Z at *
    generalize xs.map enc = X at *
    generalize ys.map enc = Y at *
    simp [evDef, startS, PX.execs, PX.exec, evX, evXB, evXL, frzS, anyOw, evE, evL, evJ, evT, bindE, bindT, bindTp, opCmp, opI2, storeIx, E.non?, slB, at0, c_neg]) ⟨fun x => x * -1, rfl, fun x hm h => by
      have e := sp_ltimes (p := prg) (m := m + 2) (bx x hm) bm1 (by decide)
      rw [em] at e
      unfold K03._law_sums_e1
      rw [evA, evP_pur (v := .fz (enc (x * -1))) (by simp [anyLv, S0]) (by
        simp only [S0, List.map_cons, List.map_nil, pur_d, pur_r, pur_un]
        generalize x * -1 = w at *
        generalize xs.map enc = X at *
        generalize ys.map enc = Y at *
        simp [evDef, startS, PX.execs, PX.exec, evX, evXB, evXL, frzS, anyOw, evE, evL, evJ, evT, bindE, bindT, bindTp, opCmp, opI2, storeIx, E.non?, slB, e])]
      rfl⟩
theorem sums_s4 {xs ys : List Rat} {f : Rat} (hx : ∀ x, x ∈ xs → F2 x) (hf : Fr 12 (2 ^ 7) f) (hn : xs.length ≤ 12) : ∀ g, ∃ g', lexec (prg.ltb (m + 5)) (K03.b__law_sums.getD 4 .pass) ⟨S0 xs ys f .un .un, bs xs ys ++ g⟩ = .ok (.nx ⟨S0 xs ys f .un .un, bs xs ys ++ g'⟩) := by
  have sb := sizeBig
  have fz2 := fun g => frz_r (bs_snap2 xs ys g)
  have fz5 := fun g => frz_r (bs_snap5 xs ys g)
  have hbl : ∀ g : LHp, (bs xs ys ++ g).length = 6 + g.length := fun g => by rw [List.length_append, bs_len]
  have bx : ∀ x, x ∈ xs → Bd 62 x := fun x h => (hx x h).bd
  have bf : Bd 62 f := hf.bd (by decide) (by decide) (by decide)
  have c_sc := sp_scaled (p := prg) (m := m + 2) (xs := xs) (c := f) (k := 62) (by decide) bx bf (by omega)
  exact sums_stepC (m := m) (xs := xs) (ys := ys) (f := f) (K03.b__law_sums.getD 4 .pass) (.call "scaled" [.ix (.var 3) (.int 0), .var 2]) K03._law_sums_e2 [2, 3] (xs.map fun x => x * f) (by rw [List.length_map]; exact hn) rfl (fun ρ h => by subst h; simp [anyLv, S0]) (fun g => by
    simp only [S0, List.map_cons, List.map_nil, fz2, fz5, frz_d, frz_un]
    generalize (xs.map fun x => x * f).map enc = Z at *
    generalize xs.map enc = X at *
    generalize ys.map enc = Y at *
    simp [evDef, startS, PX.execs, PX.exec, evX, evXB, evXL, frzS, anyOw, evE, evL, evJ, evT, bindE, bindT, bindTp, opCmp, opI2, storeIx, E.non?, slB, at0, c_sc]) ⟨fun x => x * f, rfl, fun x hm h => by
      have e := sp_ltimes (p := prg) (m := m + 2) (bx x hm) bf (by decide)
      unfold K03._law_sums_e2
      rw [evA, evP_pur (v := .fz (enc (x * f))) (by simp [anyLv, S0]) (by
        simp only [S0, List.map_cons, List.map_nil, pur_d, pur_r, pur_un]
        generalize x * f = w at *
        generalize xs.map enc = X at *
        generalize ys.map enc = Y at *
        simp [evDef, startS, PX.execs, PX.exec, evX, evXB, evXL, frzS, anyOw, evE, evL, evJ, evT, bindE, bindT, bindTp, opCmp, opI2, storeIx, E.non?, slB, e])]
      rfl⟩
theorem sums_s5 {xs ys : List Rat} {f : Rat} (hy : ∀ x, x ∈ ys → F2 x) (hl : xs.length = ys.length) (hn : xs.length ≤ 12) : ∀ g, ∃ g', lexec (prg.ltb (m + 5)) (K03.b__law_sums.getD 5 .pass) ⟨S0 xs ys f .un .un, bs xs ys ++ g⟩ = .ok (.nx ⟨S0 xs ys f .un .un, bs xs ys ++ g'⟩) := by
  have sb := sizeBig
  have fz2 := fun g => frz_r (bs_snap2 xs ys g)
  have fz5 := fun g => frz_r (bs_snap5 xs ys g)
  have hbl : ∀ g : LHp, (bs xs ys ++ g).length = 6 + g.length := fun g => by rw [List.length_append, bs_len]
  have by' : ∀ x, x ∈ ys → Bd 62 x := fun x h => (hy x h).bd
  have b1 := bd1
  have c_sc1 := sp_scaled (p := prg) (m := m + 2) (xs := ys) (c := 1) (k := 62) (by decide) by' b1 (by omega)
  have e11 : ys.map (fun x => x * 1) = ys := by
    conv => rhs; rw [← List.map_id ys]
    exact List.map_congr_left fun x _ => Rat.mul_one x
  rw [e11] at c_sc1
  intro g
  refine new_step (m := m) (ds := ys.map enc) (v2 := .d (.lst (ys.map enc))) (ex := []) rfl rfl (elen _ (by omega)) (like_encs _ (by omega)) ?_ ?_ (by simp)
  · have := evA_fr (T := prg.ltb (m + 5)) (ρ := S0 xs ys f .un .un) (h := bs xs ys ++ g) (us := [3]) (e := .call "scaled" [.ix (.var 3) (.int 1), .int 1]) (ds := ys.map enc) (by simp [anyLv, S0]) (by
      simp only [S0, List.map_cons, List.map_nil, fz2, fz5, frz_d, frz_un]
      have e1' : enc (1 : Rat) = .int 1 := rfl
      rw [e1'] at c_sc1
      generalize xs.map enc = X at *
      generalize ys.map enc = Y at *
      simp [evDef, startS, PX.execs, PX.exec, evX, evXB, evXL, frzS, anyOw, evE, evL, evJ, evT, bindE, bindT, bindTp, opCmp, opI2, storeIx, E.non?, slB, at1, c_sc1]) (lfs_encs _)
    rw [hbl] at this
    exact this
  · rw [evA, List.append_nil]; rfl
theorem sums_s6 {xs ys : List Rat} {f : Rat} (hx : ∀ x, x ∈ xs → F2 x) (hy : ∀ x, x ∈ ys → F2 x) (hl : xs.length = ys.length) (hn : xs.length ≤ 12) : ∀ g, lexec (prg.ltb (m + 5)) (K03.b__law_sums.getD 6 .pass) ⟨S0 xs ys f .un .un, bs xs ys ++ g⟩ = .ok (.nx ⟨S0 xs ys f .un (.v (.r (6 + g.length))), bs xs ys ++ (g ++ [.lst ((((xs.zip ys).map fun q => q.1 + q.2).map enc).map .d)])⟩) := by
  have sb := sizeBig
  have fz2 := fun g => frz_r (bs_snap2 xs ys g)
  have fz5 := fun g => frz_r (bs_snap5 xs ys g)
  have hbl : ∀ g : LHp, (bs xs ys ++ g).length = 6 + g.length := fun g => by rw [List.length_append, bs_len]
  have bx : ∀ x, x ∈ xs → Bd 62 x := fun x h => (hx x h).bd
  have by' : ∀ x, x ∈ ys → Bd 62 x := fun x h => (hy x h).bd
  have hz : (xs.zip ys).map (fun q => q.1 + q.2) = (List.range xs.length).map fun k => xs.getD k 0 + ys.getD k 0 := (zip_range xs ys hl (· + ·)).symm
  intro g
  have e := evA_lc_rng (T := prg.ltb (m + 5)) (ρ := S0 xs ys f .un .un) (own := [7]) (i := 7) (n := xs.length) (a := .bi .len [.var 0]) (us := [0]) (el := K03._law_sums_e3) (eb := fun k => enc (xs.getD k 0 + ys.getD k 0)) (h := bs xs ys ++ g) (v := .fz (.int xs.length)) (by simp [anyLv, S0]) (by
    simp only [S0, List.map_cons, List.map_nil, pur_d, pur_r, pur_un]
    simp [evDef, startS, PX.execs, PX.exec, evX, evXB, evXL, frzS, anyOw, evE, evL, evJ, evT, bindE, bindT, bindTp, opCmp, opI2, storeIx, E.non?, slB]) rfl (by omega) (fun k hk h => by
      have a1 := at_encs xs k hk
      have a2 := at_encs ys k (by omega)
      have g1 : xs.getD k 0 = xs[k] := by simp [hk]
      have g2 : ys.getD k 0 = ys[k] := by simp [show k < ys.length by omega]
      rw [g1, g2]
      have e := sp_lplus (p := prg) (m := m + 2) (bx xs[k] (List.getElem_mem _)) (by' ys[k] (List.getElem_mem _)) (by decide)
      show evA _ [.v (.d (.lst (xs.map enc))), .v (.d (.lst (ys.map enc))), .v (.d (enc f)), .v (.r 2), .v (.r 5), .un, .un, .v (.d (natD k))] K03._law_sums_e3 h = _
      unfold K03._law_sums_e3
      generalize xs[k] + ys[k] = w at *
      generalize xs[k] = x at *
      generalize ys[k] = y at *
      generalize xs.map enc = X at *
      generalize ys.map enc = Y at *
      rw [evA, evP_pur (v := .fz (enc w)) (by simp [anyLv]) (by simp [evDef, startS, PX.execs, PX.exec, evX, evXB, evXL, frzS, anyOw, evE, evL, evJ, evT, bindE, bindT, bindTp, opCmp, opI2, storeIx, E.non?, slB, natD, a1, a2, e])]
      rfl)
  have e2 : ((List.range xs.length).map fun k => enc (xs.getD k 0 + ys.getD k 0)) = ((xs.zip ys).map fun q => q.1 + q.2).map enc := by rw [hz, List.map_map]; rfl
  rw [e2, hbl] at e
  show lexec _ (.asg (.nm 6) (.lc [7] (.nm 7) .rng [.bi .len [.var 0]] [0] [] K03._law_sums_e3)) _ = _
  rw [lexec]
  simp only [e, LR.on_ok, PX.bindL]
  rw [List.append_assoc]
  rfl
theorem sums_s7 {xs ys : List Rat} {f : Rat} (hx : ∀ x, x ∈ xs → F2 x) (hy : ∀ x, x ∈ ys → F2 x) (hl : xs.length = ys.length) (hn : xs.length ≤ 12) : ∀ g, ∃ g', lexec (prg.ltb (m + 5)) (K03.b__law_sums.getD 7 .pass) ⟨S0 xs ys f .un (.v (.r (6 + g.length))), bs xs ys ++ (g ++ [.lst ((((xs.zip ys).map fun q => q.1 + q.2).map enc).map .d)])⟩ = .ok (.nx ⟨S0 xs ys f .un (.v (.r (6 + g.length))), bs xs ys ++ g'⟩) := by
  have fz2 := fun g => frz_r (bs_snap2 xs ys g)
  have fz5 := fun g => frz_r (bs_snap5 xs ys g)
  have hbl : ∀ g : LHp, (bs xs ys ++ g).length = 6 + g.length := fun g => by rw [List.length_append, bs_len]
  have bx : ∀ x, x ∈ xs → Bd 62 x := fun x h => (hx x h).bd
  have by' : ∀ x, x ∈ ys → Bd 62 x := fun x h => (hy x h).bd
  have sb := sizeBig
  have hzl : ((xs.zip ys).map fun q => q.1 + q.2).length ≤ 12 := by rw [List.length_map, List.length_zip]; omega
  have c_add := sp_added (p := prg) (m := m + 2) (xs := xs) (ys := ys) (k := 62) (by decide) bx by' (by omega)
  intro g
  refine new_step (m := m) (ds := ((xs.zip ys).map fun q => q.1 + q.2).map enc) (v2 := .r (6 + g.length)) (ex := []) rfl rfl (elen _ hzl) (like_encs _ (by omega)) ?_ ?_ ?_
  · have := evA_fr (T := prg.ltb (m + 5)) (ρ := S0 xs ys f .un (.v (.r (6 + g.length)))) (h := bs xs ys ++ (g ++ [.lst ((((xs.zip ys).map fun q => q.1 + q.2).map enc).map .d)])) (us := [3]) (e := .call "added" [.ix (.var 3) (.int 0), .ix (.var 3) (.int 1)]) (ds := ((xs.zip ys).map fun q => q.1 + q.2).map enc) (by simp [anyLv, S0]) (by
      simp only [S0, List.map_cons, List.map_nil, fz2, fz5, frz_d, frz_un]
      generalize ((xs.zip ys).map fun q => q.1 + q.2).map enc = Z at *
      generalize xs.map enc = X at *
      generalize ys.map enc = Y at *
      simp [evDef, startS, PX.execs, PX.exec, evX, evXB, evXL, frzS, anyOw, evE, evL, evJ, evT, bindE, bindT, bindTp, opCmp, opI2, storeIx, E.non?, slB, at0, at1, c_add]) (lfs_encs _)
    rw [hbl] at this
    exact this
  · rw [evA, List.append_nil]; rfl
  · refine snap_lst ?_
    rw [List.append_nil, List.getElem?_append_left (by rw [hbl]; simp), List.getElem?_append_right (by rw [bs_len]; omega), bs_len, Nat.add_sub_cancel_left, List.getElem?_append_right (by omega)]
    simp
theorem sums_s89 {xs ys : List Rat} {f : Rat} (hx : ∀ x, x ∈ xs → F2 x) (hy : ∀ x, x ∈ ys → F2 x) (hl : xs.length = ys.length) (hn : xs.length ≤ 12) : ∀ (g : LHp) (k : Nat), lexecs (prg.ltb (m + 5)) (K03.b__law_sums.drop 8) ⟨S0 xs ys f .un (.v (.r k)), bs xs ys ++ g⟩ = .ok (.rt (.d (.bl true)) (bs xs ys ++ g)) := by
  have sb := sizeBig
  have fz2 := fun g => frz_r (bs_snap2 xs ys g)
  have fz5 := fun g => frz_r (bs_snap5 xs ys g)
  have hbl : ∀ g : LHp, (bs xs ys ++ g).length = 6 + g.length := fun g => by rw [List.length_append, bs_len]
  have bx : ∀ x, x ∈ xs → Bd 62 x := fun x h => (hx x h).bd
  have by' : ∀ x, x ∈ ys → Bd 62 x := fun x h => (hy x h).bd
  have c_dot := cDot (m := m) hx hy hn
  have c_ldot := cLdot (m := m) hx hy hl hn
  have c_like := like_enc (p := prg) (m := m + 2) (dotG xs ys)
  have c_ag := sp_agrees (p := prg) (m := m + 3) (xs := xs) (ys := ys) (k := 62) (by decide) bx by'
  have c_lag := sp_lagrees (m := m + 3) (xs := xs) (ys := ys) (k := 62) (by decide) bx by' hl (by omega)
  have c_says := sp_says (m := m + 4) (a := agreesG xs ys) (b := agreesG xs ys) rfl
  intro g k
  have ec : evPB (prg.ltb (m + 5)) (S0 xs ys f .un (.v (.r k))) (bs xs ys ++ g) [0, 1, 3] (.nt (.call "_law_like" [.call "dot" [.ix (.var 3) (.int 0), .ix (.var 3) (.int 1)], .call "_law_dot" [.var 0, .var 1]])) = .ok false (bs xs ys ++ g) := by
    have ef : evE (prg.tb (m + 5)) ((S0 xs ys f .un (.v (.r k))).map (LSl.frz (bs xs ys ++ g))) (.nt (.call "_law_like" [.call "dot" [.ix (.var 3) (.int 0), .ix (.var 3) (.int 1)], .call "_law_dot" [.var 0, .var 1]])) = .ok (.fz (.bl false)) := by
      simp only [S0, List.map_cons, List.map_nil, fz2, fz5, frz_d, frz_un]
      exact like_abs rfl rfl rfl (tbc c_dot) (tbc c_ldot) (tbc c_like)
    unfold evPB
    rw [if_pos (by simp [anyLv, S0]), show (prg.ltb (m + 5)).t = prg.tb (m + 5) from rfl, ef]
    rfl
  have ed : evA (prg.ltb (m + 5)) (S0 xs ys f .un (.v (.r k))) (.p (.and (.call "_law_says" [.call "agrees" [.ix (.var 3) (.int 0), .ix (.var 3) (.int 1)], .call "_law_agrees" [.var 0, .var 1]]) (.cmp .Eq (.var 3) (.var 4))) [0, 1, 3, 4]) (bs xs ys ++ g) = .ok (.d (.bl true)) (bs xs ys ++ g) := by
    have eqp : opEq false (.lst [.lst (xs.map enc), .lst (ys.map enc)]) (.lst [.lst (xs.map enc), .lst (ys.map enc)]) = .ok true := by rw [opEq_encss]; simp
    rw [evA, evP_frz (v := .fz (.bl true)) (by simp [anyLv, S0]) (by
      simp only [S0, List.map_cons, List.map_nil, fz2, fz5, frz_d, frz_un]
      exact says_abs rfl rfl rfl rfl (ltbc c_ag) (ltbc c_lag) (ltbc c_says) eqp) rfl]
    rfl
  show lexecs _ [.iff (.nt (.call "_law_like" [.call "dot" [.ix (.var 3) (.int 0), .ix (.var 3) (.int 1)], .call "_law_dot" [.var 0, .var 1]])) [0, 1, 3] [.ret (.p (.bl false) [])] [], .ret (.p (.and (.call "_law_says" [.call "agrees" [.ix (.var 3) (.int 0), .ix (.var 3) (.int 1)], .call "_law_agrees" [.var 0, .var 1]]) (.cmp .Eq (.var 3) (.var 4))) [0, 1, 3, 4])] _ = _
  rw [lexecs_cons, lexec]
  simp only [ec, LR.on_ok]
  rw [if_neg Bool.false_ne_true, lexecs, LRS.then_nx, lexecs_cons, lexec]
  simp only [ed, LR.on_ok, LRS.then_rt]
theorem lexecs_app {T : LTb} : ∀ (a b : List LQ) (s s' : LSt), lexecs T a s = .ok (.nx s') → lexecs T (a ++ b) s = lexecs T b s' := by
  intro a
  induction a with
  | nil => intro b s s' h; rw [lexecs] at h; cases h; rfl
  | cons q a ih =>
    intro b s s' h
    rw [lexecs_cons] at h
    rw [List.cons_append, lexecs_cons]
    cases eq : lexec T q s with
    | st => rw [eq] at h; cases h
    | ex c fs s1 => rw [eq] at h; cases h
    | ok fl =>
      rw [eq] at h
      cases fl with
      | nx s1 => rw [LRS.then_nx] at h ⊢; exact ih b s1 s' h
      | rt x h1 => cases h
      | bk s1 => cases h
      | ct s1 => cases h
theorem sp_sums {xs ys : List Rat} {f : Rat} (hx : ∀ x, x ∈ xs → F2 x) (hy : ∀ x, x ∈ ys → F2 x) (hf : Fr 12 (2 ^ 7) f) (hl : xs.length = ys.length) (hn : xs.length ≤ 12) :
    prg.call (m + 6) "_law_sums" [.lst (xs.map enc), .lst (ys.map enc), enc f] = .ok (.fz (.bl true)) := by
  rw [HasFL.run, levDef_out (show ([D.lst (xs.map enc), D.lst (ys.map enc), enc f].map LV.d).length = 3 from rfl)]
  have q01 := sums_q01 (m := m) (xs := xs) (ys := ys) (f := f)
  obtain ⟨g2, e2⟩ := sums_s2 (m := m) (xs := xs) (ys := ys) (f := f) hn []
  obtain ⟨g3, e3⟩ := sums_s3 (m := m) (xs := xs) (ys := ys) (f := f) hx hn g2
  obtain ⟨g4, e4⟩ := sums_s4 (m := m) (xs := xs) (ys := ys) (f := f) hx hf hn g3
  obtain ⟨g5, e5⟩ := sums_s5 (m := m) (xs := xs) (ys := ys) (f := f) hy hl hn g4
  have e6 := sums_s6 (m := m) (xs := xs) (ys := ys) (f := f) hx hy hl hn g5
  obtain ⟨g7, e7⟩ := sums_s7 (m := m) (xs := xs) (ys := ys) (f := f) hx hy hl hn g5
  have e8 := sums_s89 (m := m) (xs := xs) (ys := ys) (f := f) hx hy hl hn g7 (6 + g5.length)
  have sp : K03.b__law_sums = K03.b__law_sums.take 2 ++ (K03.b__law_sums.getD 2 .pass :: K03.b__law_sums.getD 3 .pass :: K03.b__law_sums.getD 4 .pass :: K03.b__law_sums.getD 5 .pass :: K03.b__law_sums.getD 6 .pass :: K03.b__law_sums.getD 7 .pass :: K03.b__law_sums.drop 8) := rfl
  have fin : lexecs (prg.ltb (m + 5)) K03.b__law_sums ⟨[.v (.d (.lst (xs.map enc))), .v (.d (.lst (ys.map enc))), .v (.d (enc f)), .un, .un, .un, .un, .un], []⟩ = .ok (.rt (.d (.bl true)) (bs xs ys ++ g7)) := by
    rw [sp, lexecs_app _ _ _ _ q01, lexecs_cons, e2, LRS.then_nx, lexecs_cons, e3, LRS.then_nx, lexecs_cons, e4, LRS.then_nx, lexecs_cons, e5, LRS.then_nx, lexecs_cons, e6, LRS.then_nx, lexecs_cons, e7, LRS.then_nx, e8]
  show LR.out (lexecs (prg.ltb (m + 5)) K03.b__law_sums ⟨[.v (.d (.lst (xs.map enc))), .v (.d (.lst (ys.map enc))), .v (.d (enc f)), .un, .un, .un, .un, .un], []⟩).outR = _
  rw [fin]
  rfl
end
end K03

set_option Elab.async false
set_option linter.all false
set_option maxRecDepth 100000
set_option maxHeartbeats 1000000
/-! K03K: primitive rows, told: many times, and the join. -/
namespace K03
open PySem PySem.Spec PyProof.Rows L2 PX
section
variable {m : Nat}
theorem told_many {xs : List Rat} {d : Rat} (hx : ∀ x, x ∈ xs → F2 x) (hd : Fr 12 (2 ^ 7) d) (hd0 : d ≠ 0) (hz : ∃ x, x ∈ xs ∧ x ≠ 0) (hn : xs.length ≤ 12) (a1 a2 a3 a5 a6 a7 a8 : Sl) :
    PX.execs (prg.tb (m + 4)) K03._law_primitive_told_b3 [.fz (.lst (xs.map enc)), a1, a2, a3, .fz (.lst ((primG xs).map D.int)), a5, a6, a7, a8, .fz (enc d), .un] = .ok (.nx [.fz (.lst (xs.map enc)), a1, a2, a3, .fz (.lst ((primG xs).map D.int)), a5, a6, a7, a8, .fz (enc d), .un]) := by
  have sb := sizeBig
  have bd : Bd 62 d := hd.bd (by decide) (by decide) (by decide)
  have hl : (primG xs).length = xs.length := prim_len xs
  have lk := like_ints (p := prg) (m := m) (primG xs) (by omega)
  have dn : ∀ y, y ∈ xs.map (fun x => x * d) → y.den ∣ 8640 := fun y hy => by
    obtain ⟨x, hm, rfl⟩ := List.mem_map.mp hy
    exact Fr.den (L := 720 * 12) ((hx x hm).mul hd) (by decide)
  have bn : ∀ y, y ∈ xs.map (fun x => x * d) → Bd 100 y := fun y hy => by
    obtain ⟨x, hm, rfl⟩ := List.mem_map.mp hy
    exact Fr.bd ((hx x hm).mul hd) (by decide) (by decide) (by decide)
  have pr := sp_primitive (p := prg) (m := m + 1) (L := 8640) (k := 100) (by decide) (by decide) (by decide) dn bn (by rw [List.length_map]; omega)
  rw [prim_mul hz hd0] at pr
  have el : ∀ s4 : Sl, evE (prg.tb (m + 4)) [.fz (.lst (xs.map enc)), a1, a2, a3, s4, a5, a6, a7, a8, .fz (enc d), .un] (.lc [10] (.nm 10) .val [.var 0] [] K03._law_primitive_told_e1) = .ok (.fr (.lst ((xs.map fun x => x * d).map enc))) := fun s4 => by
    have e := ev_lc_val (T := prg.tb (m + 4)) (ρ := [.fz (.lst (xs.map enc)), a1, a2, a3, s4, a5, a6, a7, a8, .fz (enc d), .un]) (own := [10]) (i := 10) (a := .var 0) (el := K03._law_primitive_told_e1) (ea := enc) (eb := fun x => enc (x * d)) (xs := xs) (v := .fz (.lst (xs.map enc))) (by
      generalize xs.map enc = X
      simp [evDef, startS, PX.execs, PX.exec, evX, evXB, evXL, frzS, anyOw, evE, evL, evJ, evT, bindE, bindT, bindTp, opCmp, opI2, storeIx, E.non?, slB]) rfl (by omega) (fun x hm => by
      have t := sp_ltimes (p := prg) (m := m + 1) (hx x hm).bd bd (by decide)
      refine ⟨.fz (enc (x * d)), ?_, rfl⟩
      show evE _ [.fz (.lst (xs.map enc)), a1, a2, a3, s4, a5, a6, a7, a8, .fz (enc d), .fz (enc x)] _ = _
      generalize x * d = w at *
      generalize xs.map enc = X
      simp [evDef, startS, PX.execs, PX.exec, evX, evXB, evXL, frzS, anyOw, evE, evL, evJ, evT, bindE, bindT, bindTp, opCmp, opI2, storeIx, E.non?, slB, K03._law_primitive_told_e1, t])
    rw [e, List.map_map]
    rfl
  unfold K03._law_primitive_told_b3
  generalize E.lc [10] (.nm 10) .val [.var 0] [] K03._law_primitive_told_e1 = Z at *
  generalize (xs.map fun x => x * d).map enc = W at *
  generalize (primG xs).map D.int = P at *
  generalize xs.map enc = X at *
  have fz : frzS [.fz (.lst X), a1, a2, a3, .fz (.lst P), a5, a6, a7, a8, .fz (enc d), .un] [0, 4, 9] = [.fz (.lst X), a1, a2, a3, .fz (.lst P), a5, a6, a7, a8, .fz (enc d), .un] := by simp [frzS]
  have e2 := el (.fz (.lst P))
  have ec : evE (prg.tb (m + 4)) [.fz (.lst X), a1, a2, a3, .fz (.lst P), a5, a6, a7, a8, .fz (enc d), .un] (.nt (.call "_law_like" [.call "primitive" [Z], .var 4])) = .ok (.fz (.bl false)) := by
    simp [evE, evL, e2, pr, lk]
  rw [PX.execs_cons, PX.exec]
  unfold evXB
  rw [fz, ec]
  rfl
theorem start_abs {T : Tb} {X P J : List D} {F : D} {n : Nat} (pr : T.call "primitive" [.lst X] = .ok (.fr (.lst P))) (wl : T.call "_law_whole_list" [.lst P, .int (n : Int)] = .ok (.fz (.bl true))) (su : T.call "_law_support" [.lst X] = .ok (.fr (.lst J)))
    (lX : D.lfs X = true) (lP : D.lfs P = true) (lJ : D.lfs J = true) (q : opEq true (.lst X) (.lst X) = .ok false) (l1 : P.length < sizeLine) (l2 : X.length = n) :
    PX.execs T [.asg (.nm 2) (.bi .list [.var 0]) [0], .asg (.nm 3) (.call "primitive" [.var 2]) [2], .iff (.nt (.call "_law_whole_list" [.var 3, .bi .len [.var 0]])) [.ret (.bl false) []] [] [0, 3], .asg (.nm 4) (.bi .list [.var 3]) [3], .app 3 (.int 77) [], .iff (.cmp .NotEq (.var 2) (.var 0)) [.ret (.bl false) []] [] [0, 2], .asg (.nm 5) (.call "_law_support" [.var 0]) [0]] [.fz (.lst X), .fz F, .un, .un, .un, .un, .un, .un, .un, .un, .un] = .ok (.nx [.fz (.lst X), .fz F, .ow (.lst X), .ow (.lst (P ++ [.int 77])), .ow (.lst P), .ow (.lst J), .un, .un, .un, .un, .un]) := by
  have e1 : PX.exec T (.asg (.nm 2) (.bi .list [.var 0]) [0]) [.fz (.lst X), .fz F, .un, .un, .un, .un, .un, .un, .un, .un, .un] = .ok (.nx [.fz (.lst X), .fz F, .ow (.lst X), .un, .un, .un, .un, .un, .un, .un, .un]) := by simp [evDef, startS, PX.execs, PX.exec, evX, evXB, evXL, frzS, anyOw, evE, evL, evJ, evT, bindE, bindT, bindTp, opCmp, opI2, storeIx, E.non?, slB]
  have e2 : PX.exec T (.asg (.nm 3) (.call "primitive" [.var 2]) [2]) [.fz (.lst X), .fz F, .ow (.lst X), .un, .un, .un, .un, .un, .un, .un, .un] = .ok (.nx [.fz (.lst X), .fz F, .ow (.lst X), .ow (.lst P), .un, .un, .un, .un, .un, .un, .un]) := by simp [evDef, startS, PX.execs, PX.exec, evX, evXB, evXL, frzS, anyOw, evE, evL, evJ, evT, bindE, bindT, bindTp, opCmp, opI2, storeIx, E.non?, slB, pr, lP, EV.lf]
  have e3 : PX.exec T (.iff (.nt (.call "_law_whole_list" [.var 3, .bi .len [.var 0]])) [.ret (.bl false) []] [] [0, 3]) [.fz (.lst X), .fz F, .ow (.lst X), .ow (.lst P), .un, .un, .un, .un, .un, .un, .un] = .ok (.nx [.fz (.lst X), .fz F, .ow (.lst X), .ow (.lst P), .un, .un, .un, .un, .un, .un, .un]) := by simp [evDef, startS, PX.execs, PX.exec, evX, evXB, evXL, frzS, anyOw, evE, evL, evJ, evT, bindE, bindT, bindTp, opCmp, opI2, storeIx, E.non?, slB, l2, wl]
  have e4 : PX.exec T (.asg (.nm 4) (.bi .list [.var 3]) [3]) [.fz (.lst X), .fz F, .ow (.lst X), .ow (.lst P), .un, .un, .un, .un, .un, .un, .un] = .ok (.nx [.fz (.lst X), .fz F, .ow (.lst X), .ow (.lst P), .ow (.lst P), .un, .un, .un, .un, .un, .un]) := by simp [evDef, startS, PX.execs, PX.exec, evX, evXB, evXL, frzS, anyOw, evE, evL, evJ, evT, bindE, bindT, bindTp, opCmp, opI2, storeIx, E.non?, slB, lP, EV.lf]
  have e5 : PX.exec T (.app 3 (.int 77) []) [.fz (.lst X), .fz F, .ow (.lst X), .ow (.lst P), .ow (.lst P), .un, .un, .un, .un, .un, .un] = .ok (.nx [.fz (.lst X), .fz F, .ow (.lst X), .ow (.lst (P ++ [.int 77])), .ow (.lst P), .un, .un, .un, .un, .un, .un]) := by simp [evDef, startS, PX.execs, PX.exec, evX, evXB, evXL, frzS, anyOw, evE, evL, evJ, evT, bindE, bindT, bindTp, opCmp, opI2, storeIx, E.non?, slB, l1]
  have e6 : PX.exec T (.iff (.cmp .NotEq (.var 2) (.var 0)) [.ret (.bl false) []] [] [0, 2]) [.fz (.lst X), .fz F, .ow (.lst X), .ow (.lst (P ++ [.int 77])), .ow (.lst P), .un, .un, .un, .un, .un, .un] = .ok (.nx [.fz (.lst X), .fz F, .ow (.lst X), .ow (.lst (P ++ [.int 77])), .ow (.lst P), .un, .un, .un, .un, .un, .un]) := by simp [evDef, startS, PX.execs, PX.exec, evX, evXB, evXL, frzS, anyOw, evE, evL, evJ, evT, bindE, bindT, bindTp, opCmp, opI2, storeIx, E.non?, slB, q]
  have e7 : PX.exec T (.asg (.nm 5) (.call "_law_support" [.var 0]) [0]) [.fz (.lst X), .fz F, .ow (.lst X), .ow (.lst (P ++ [.int 77])), .ow (.lst P), .un, .un, .un, .un, .un, .un] = .ok (.nx [.fz (.lst X), .fz F, .ow (.lst X), .ow (.lst (P ++ [.int 77])), .ow (.lst P), .ow (.lst J), .un, .un, .un, .un, .un]) := by simp [evDef, startS, PX.execs, PX.exec, evX, evXB, evXL, frzS, anyOw, evE, evL, evJ, evT, bindE, bindT, bindTp, opCmp, opI2, storeIx, E.non?, slB, su]
  rw [PX.execs_cons, e1, RS.then_nx, PX.execs_cons, e2, RS.then_nx, PX.execs_cons, e3, RS.then_nx, PX.execs_cons, e4, RS.then_nx, PX.execs_cons, e5, RS.then_nx, PX.execs_cons, e6, RS.then_nx, PX.execs_cons, e7, RS.then_nx, PX.execs]
theorem su_tb {xs : List Rat} (hn : xs.length ≤ 100000) : (prg.tb (m + 4)).call "_law_support" [.lst (xs.map enc)] = .ok (.fr (.lst ((supG xs).map natD))) := tbc (sp_lsupport (m := m + 3) hn)
theorem pr_tb {xs : List Rat} (hx : ∀ x, x ∈ xs → F2 x) (hn : xs.length ≤ 100000) : (prg.tb (m + 4)).call "primitive" [.lst (xs.map enc)] = .ok (.fr (.lst ((primG xs).map D.int))) := tbc (sp_primitive (p := prg) (m := m + 1) (L := 720) (k := 62) (by decide) (by decide) (by decide) (fun x h => Fr.den (hx x h) (by decide)) (fun x h => (hx x h).bd) hn)
theorem wl_tb {xs : List Rat} (hn : xs.length ≤ 100000) : (prg.tb (m + 4)).call "_law_whole_list" [.lst ((primG xs).map D.int), .int (xs.length : Int)] = .ok (.fz (.bl true)) := tbc (sp_whole_list (m := m + 2) (primG xs) xs.length (prim_len xs) hn)
/-- the start: seven statements -/
theorem told_start {xs : List Rat} {f : Rat} (hx : ∀ x, x ∈ xs → F2 x) (hn : xs.length ≤ 12) :
    PX.execs (prg.tb (m + 4)) (K03.b__law_primitive_told.take 7) [.fz (.lst (xs.map enc)), .fz (enc f), .un, .un, .un, .un, .un, .un, .un, .un, .un] = .ok (.nx [.fz (.lst (xs.map enc)), .fz (enc f), .ow (.lst (xs.map enc)), .ow (.lst ((primG xs).map D.int ++ [.int 77])), .ow (.lst ((primG xs).map D.int)), .ow (.lst ((supG xs).map natD)), .un, .un, .un, .un, .un]) := by
  have sb := sizeBig
  have hn' : xs.length ≤ 100000 := by omega
  have lJ : D.lfs ((supG xs).map natD) = true := by rw [natD_int]; exact lfs_ints _
  have q : opEq true (.lst (xs.map enc)) (.lst (xs.map enc)) = .ok false := by rw [opEq_encs]; simp
  have hl : (primG xs).length = xs.length := prim_len xs
  have l1 : ((primG xs).map D.int).length < sizeLine := by rw [List.length_map]; omega
  exact start_abs (pr_tb hx hn') (wl_tb hn') (su_tb hn') (lfs_encs _) (lfs_ints _) lJ q l1 (List.length_map _)
end
end K03

set_option Elab.async false
set_option linter.all false
set_option maxRecDepth 100000
set_option maxHeartbeats 1000000
/-! K03L: primitive rows, told: the join. -/
namespace K03
open PySem PySem.Spec PyProof.Rows L2 PX
section
variable {m : Nat}
theorem exec_for_ow {T : Tb} {a0 a1 a2 a3 a5 a6 a7 a8 a9 a10 : Sl} {P : List D} {b : List S} : PX.exec T (.for (.nm 7) .val [.var 4] b [4]) [a0, a1, a2, a3, .ow (.lst P), a5, a6, a7, a8, a9, a10] = forGo (.nm 7) (fun ρ => PX.execs T b ρ) P [a0, a1, a2, a3, .fz (.lst P), a5, a6, a7, a8, a9, a10] := by
  rw [PX.exec]
  unfold evXL
  have fz : frzS [a0, a1, a2, a3, .ow (.lst P), a5, a6, a7, a8, a9, a10] [4] = [a0, a1, a2, a3, .fz (.lst P), a5, a6, a7, a8, a9, a10] := by simp [frzS, OD.d]
  have ev : evL T [a0, a1, a2, a3, .fz (.lst P), a5, a6, a7, a8, a9, a10] [.var 4] = .ok [.lst P] := by simp [evL, evE]
  rw [if_pos (by simp [anyOw]), fz, ev, R.on_ok, if_neg (by simp [D.lfs, D.lf])]
  show (R.on (itVal [.lst P]) _ _) = _
  rw [itVal_l, R.on_ok]
theorem told_loop9 {xs : List Rat} (hx : ∀ x, x ∈ xs → F2 x) (hz : ∃ x, x ∈ xs ∧ x ≠ 0) (hn : xs.length ≤ 12) (a1 a2 a3 a5 a6 a7 a8 : Sl) : ∀ (ds : List Rat) (s : Sl), (∀ d, d ∈ ds → Fr 12 (2 ^ 7) d ∧ d ≠ 0) →
    ∃ s', forGo (.nm 9) (fun ρ => PX.execs (prg.tb (m + 4)) K03._law_primitive_told_b3 ρ) (ds.map enc) [.fz (.lst (xs.map enc)), a1, a2, a3, .fz (.lst ((primG xs).map D.int)), a5, a6, a7, a8, s, .un] = .ok (.nx [.fz (.lst (xs.map enc)), a1, a2, a3, .fz (.lst ((primG xs).map D.int)), a5, a6, a7, a8, s', .un])
  | [], s, _ => ⟨s, forGo_nil⟩
  | d :: ds, s, h => by
    obtain ⟨s', e⟩ := told_loop9 hx hz hn a1 a2 a3 a5 a6 a7 a8 ds (.fz (enc d)) (fun q hq => h q (List.mem_cons_of_mem _ hq))
    obtain ⟨h1, h2⟩ := h d List.mem_cons_self
    refine ⟨s', ?_⟩
    rw [List.map_cons, forGo_cons]
    simp only [bindT, R.on_ok, List.set]
    rw [told_many hx h1 h2 hz hn, RS.turn_nx, e]
theorem opN (n : Nat) : opEq false (.int ((n : Int) + 1)) (.int 0) = .ok false := by
  have := eq0 (((n : Int) + 1 : Int) : Rat)
  rw [enc_int] at this
  rw [this]
  have : ¬ (((n : Int) + 1 : Int) : Rat) = 0 := fun z => by
    have : (n : Int) + 1 = 0 := cast_inj z
    omega
  simp only [this, decide_false]
theorem op1 : opEq true (.int 1) (.int 1) = .ok false := by
  have := opNe_refl_enc 1
  exact this
theorem told_end {xs : List Rat} {f : Rat} {j : Nat} {js : List Nat} (hx : ∀ x, x ∈ xs → F2 x) (hf : Fr 12 (2 ^ 7) f) (hf0 : f ≠ 0) (hn : xs.length ≤ 12) (hs : supG xs = j :: js) :
    (PX.execs (prg.tb (m + 4)) (K03.b__law_primitive_told.drop 7) [.fz (.lst (xs.map enc)), .fz (enc f), .ow (.lst (xs.map enc)), .ow (.lst ((primG xs).map D.int ++ [.int 77])), .ow (.lst ((primG xs).map D.int)), .ow (.lst ((j :: js).map natD)), .un, .un, .un, .un, .un]).out = .ok (.fz (.bl true)) := by
  have sb := sizeBig
  have hz := sup_cons_nz xs 0 j js hs
  obtain ⟨ip, c, hc, e⟩ := prim_spec hz
  obtain ⟨hj, _, hfst⟩ := fst_at (primG xs) xs c 0 j js hc e hs
  have hl : (primG xs).length = xs.length := prim_len xs
  simp only [Nat.sub_zero] at hj hfst
  have bx : ∀ x, x ∈ xs → Bd 62 x := fun x h => (hx x h).bd
  have dx : ∀ x, x ∈ xs → x.den ∣ 720 := fun x h => Fr.den (hx x h) (by decide)
  have bP : ∀ n, n ∈ primG xs → n.natAbs < 2 ^ 72 := prim_bdI (L := 720) (k := 62) (by decide) (by decide) dx bx
  obtain ⟨s7, l7⟩ := told_gcd (m := m) (k := 72) (by decide) (.fz (.lst (xs.map enc))) (.fz (enc f)) (.ow (.lst (xs.map enc))) (.ow (.lst ((primG xs).map D.int ++ [.int 77]))) (.fz (.lst ((primG xs).map D.int))) (.ow (.lst ((j :: js).map natD))) .un .un .un (primG xs) 0 .un (by decide) bP
  rw [ip.g] at l7
  -- the cross products
  let Iv : Nat → Rho → Prop := fun _ ρ => ∃ s : Sl, ρ = [.fz (.lst (xs.map enc)), .fz (enc f), .ow (.lst (xs.map enc)), .ow (.lst ((primG xs).map D.int ++ [.int 77])), .fz (.lst ((primG xs).map D.int)), .ow (.lst ((j :: js).map natD)), .fz (.int ((1 : Nat) : Int)), s7, s, .un, .un]
  obtain ⟨ρ1, e8, s8, rfl⟩ := forGo_rng (i := 8) (n := xs.length) (b := fun ρ => PX.execs (prg.tb (m + 4)) K03._law_primitive_told_b2 ρ) Iv (ρ := [.fz (.lst (xs.map enc)), .fz (enc f), .ow (.lst (xs.map enc)), .ow (.lst ((primG xs).map D.int ++ [.int 77])), .fz (.lst ((primG xs).map D.int)), .ow (.lst ((j :: js).map natD)), .fz (.int ((1 : Nat) : Int)), s7, .un, .un, .un]) (fun k ρ hk h => by
    obtain ⟨s, rfl⟩ := h
    refine ⟨_, told_cross (fun x h => (bx x h).le (by decide)) (fun n h => bd_int (by decide) (bP n h)) e (by omega) _ _ _ _ _ _ _ .un k hk, _, rfl⟩) ⟨.un, rfl⟩
  have f8 : PX.exec (prg.tb (m + 4)) (.for (.nm 8) .rng [.bi .len [.var 0]] K03._law_primitive_told_b2 [0]) [.fz (.lst (xs.map enc)), .fz (enc f), .ow (.lst (xs.map enc)), .ow (.lst ((primG xs).map D.int ++ [.int 77])), .fz (.lst ((primG xs).map D.int)), .ow (.lst ((j :: js).map natD)), .fz (.int ((1 : Nat) : Int)), s7, .un, .un, .un] = _ :=
    ex_for_of (ds := [.int (xs.length : Int)]) (by simp [anyOw]) (by
      have l2 : (xs.map enc).length = xs.length := List.length_map _
      generalize xs.map enc = X at *
      simp [evL, evE, l2]) (items_nat (n := xs.length) (by omega))
  -- many times
  have fm : Fr 12 (2 ^ 7) (f * -1) := by rw [Rat.mul_neg, Rat.mul_one]; exact hf.neg
  have f1 : Fr 12 (2 ^ 7) 1 := ⟨12, by simp, by decide⟩
  have bf : Bd 62 f := hf.bd (by decide) (by decide) (by decide)
  obtain ⟨s9, l9⟩ := told_loop9 (m := m) hx hz hn (.fz (enc f)) (.ow (.lst (xs.map enc))) (.ow (.lst ((primG xs).map D.int ++ [.int 77]))) (.ow (.lst ((j :: js).map natD))) (.fz (.int ((1 : Nat) : Int))) s7 s8 [f, f * -1, 1] .un (fun d hd => by
    simp only [List.mem_cons, List.not_mem_nil, or_false] at hd
    rcases hd with rfl | rfl | rfl
    · exact ⟨hf, hf0⟩
    · exact ⟨fm, by rw [Rat.mul_neg, Rat.mul_one]; exact fun z => hf0 (by rw [← Rat.neg_neg f, z]; rfl)⟩
    · exact ⟨f1, by decide⟩)
  have t9 := sp_ltimes (p := prg) (m := m + 1) bf (show Bd 62 (-1 : Rat) from ⟨by decide, by decide⟩) (by decide)
  rw [show enc (-1 : Rat) = .int (-1) from rfl] at t9
  have f9 : ∀ s : Sl, PX.exec (prg.tb (m + 4)) (.for (.nm 9) .val [.tup [.var 1, .call "_law_times" [.var 1, .neg (.int 1)], .int 1]] K03._law_primitive_told_b3 [1]) [.fz (.lst (xs.map enc)), .fz (enc f), .ow (.lst (xs.map enc)), .ow (.lst ((primG xs).map D.int ++ [.int 77])), .fz (.lst ((primG xs).map D.int)), .ow (.lst ((j :: js).map natD)), .fz (.int ((1 : Nat) : Int)), s7, s8, s, .un] = _ := fun s =>
    ex_for_of (ds := [.tup ([f, f * -1, 1].map enc)]) (xs := [f, f * -1, 1].map enc) (by simp [anyOw]) (by
      have l3 : 3 ≤ sizeLine := by omega
      show _ = R.ok [D.tup [enc f, enc (f * -1), .int 1]]
      have t9' : (prg.tb (m + 4)).call "_law_times" [enc f, .int (-1)] = .ok (.fz (enc (f * -1))) := tbc t9
      generalize prg.tb (m + 4) = T at t9' ⊢
      generalize enc (f * -1) = w at *
      simp [evL, evE, t9', l3]) rfl
  -- the last
  have prP := sp_primitive (p := prg) (m := m + 1) (L := 1) (k := 72) (xs := toQ (primG xs)) (by decide) (by decide) (by decide) (fun x h => by
    obtain ⟨n, _, rfl⟩ := List.mem_map.mp h
    exact Nat.dvd_refl 1) (fun x h => by
    obtain ⟨n, hm, rfl⟩ := List.mem_map.mp h
    exact bd_int (by decide) (bP n hm)) (by rw [List.length_map]; omega)
  rw [prim_id ip, encs_int] at prP
  have lk := like_ints (p := prg) (m := m) (primG xs) (by omega)
  have q : opEq false (.lst (xs.map enc)) (.lst (xs.map enc)) = .ok true := by rw [opEq_encs]; simp
  have pj := at_ints (primG xs) j hj
  have pos : 0 < (primG xs)[j] := by rw [← hfst]; exact ip.f
  have o1 := op1
  show (PX.execs _ (.iff (.cmp .Eq (.bi .len [.var 5]) (.int 0)) [.ret (.and (.cmp .Eq (.var 4) (.var 0)) (.call "_law_like" [.call "primitive" [.var 2], .var 0])) [0, 2, 4]] [] [5] :: .asg (.nm 6) (.int 0) [] :: .for (.nm 7) .val [.var 4] K03._law_primitive_told_b1 [4] :: .iff (.or (.cmp .NotEq (.var 6) (.int 1)) (.cmp .LtE (.ix (.var 4) (.ix (.var 5) (.int 0))) (.int 0))) [.ret (.bl false) []] [] [4, 5, 6] :: .for (.nm 8) .rng [.bi .len [.var 0]] K03._law_primitive_told_b2 [0] :: .for (.nm 9) .val [.tup [.var 1, .call "_law_times" [.var 1, .neg (.int 1)], .int 1]] K03._law_primitive_told_b3 [1] :: [.ret (.and (.call "_law_like" [.call "primitive" [.bi .list [.var 4]], .var 4]) (.cmp .Eq (.var 2) (.var 0))) [0, 2, 4]]) _).out = _
  have oN := opN (js.map natD).length
  have e0 : ∀ a b c d g : Sl, PX.exec (prg.tb (m + 4)) (.iff (.cmp .Eq (.bi .len [.var 5]) (.int 0)) [.ret (.and (.cmp .Eq (.var 4) (.var 0)) (.call "_law_like" [.call "primitive" [.var 2], .var 0])) [0, 2, 4]] [] [5]) [a, b, c, d, g, .ow (.lst ((j :: js).map natD)), .un, .un, .un, .un, .un] = .ok (.nx [a, b, c, d, g, .ow (.lst ((j :: js).map natD)), .un, .un, .un, .un, .un]) := fun a b c d g => by
    rw [List.map_cons]
    generalize js.map natD = J at *
    rw [PX.exec]
    unfold evXB
    have fz : frzS [a, b, c, d, g, .ow (.lst (natD j :: J)), .un, .un, .un, .un, .un] [5] = [a, b, c, d, g, .fz (.lst (natD j :: J)), .un, .un, .un, .un, .un] := by simp [frzS, OD.d]
    rw [fz]
    simp [evE, evL, opCmp, oN]
    rw [PX.execs]
  have e1 : ∀ a b c d g h : Sl, PX.exec (prg.tb (m + 4)) (.asg (.nm 6) (.int 0) []) [a, b, c, d, g, h, .un, .un, .un, .un, .un] = .ok (.nx [a, b, c, d, g, h, .fz (.int 0), .un, .un, .un, .un]) := fun a b c d g h => by
    simp [evDef, startS, PX.execs, PX.exec, evX, evXB, evXL, frzS, anyOw, evE, evL, evJ, evT, bindE, bindT, bindTp, opCmp, opI2, storeIx, E.non?, slB]
  have e3 : ∀ a b c d s7 : Sl, PX.exec (prg.tb (m + 4)) (.iff (.or (.cmp .NotEq (.var 6) (.int 1)) (.cmp .LtE (.ix (.var 4) (.ix (.var 5) (.int 0))) (.int 0))) [.ret (.bl false) []] [] [4, 5, 6]) [a, b, c, d, .fz (.lst ((primG xs).map D.int)), .ow (.lst ((j :: js).map natD)), .fz (.int ((1 : Nat) : Int)), s7, .un, .un, .un] = .ok (.nx [a, b, c, d, .fz (.lst ((primG xs).map D.int)), .ow (.lst ((j :: js).map natD)), .fz (.int ((1 : Nat) : Int)), s7, .un, .un, .un]) := fun a b c d s7 => by
    rw [List.map_cons]
    generalize js.map natD = J at *
    generalize (primG xs)[j] = n at *
    generalize (primG xs).map D.int = P at *
    rw [PX.exec]
    unfold evXB
    have fz : frzS [a, b, c, d, .fz (.lst P), .ow (.lst (natD j :: J)), .fz (.int ((1 : Nat) : Int)), s7, .un, .un, .un] [4, 5, 6] = [a, b, c, d, .fz (.lst P), .fz (.lst (natD j :: J)), .fz (.int ((1 : Nat) : Int)), s7, .un, .un, .un] := by simp [frzS, OD.d]
    rw [fz]
    have np : ¬ n ≤ 0 := by omega
    have b0 := at0 (natD j) J
    unfold natD at *
    simp [evE, evL, opCmp, opI2, o1, b0, pj, np]
    rw [PX.execs]
  have e6 : ∀ s8 s9 : Sl, PX.exec (prg.tb (m + 4)) (.ret (.and (.call "_law_like" [.call "primitive" [.bi .list [.var 4]], .var 4]) (.cmp .Eq (.var 2) (.var 0))) [0, 2, 4]) [.fz (.lst (xs.map enc)), .fz (enc f), .ow (.lst (xs.map enc)), .ow (.lst ((primG xs).map D.int ++ [.int 77])), .fz (.lst ((primG xs).map D.int)), .ow (.lst ((j :: js).map natD)), .fz (.int ((1 : Nat) : Int)), s7, s8, s9, .un] = .ok (.rt (.fz (.bl true))) := fun s8 s9 => by
    have pr' : (prg.tb (m + 4)).call "primitive" [.lst ((primG xs).map D.int)] = .ok (.fr (.lst ((primG xs).map D.int))) := tbc prP
    have lk' : (prg.tb (m + 4)).call "_law_like" [.lst ((primG xs).map D.int), .lst ((primG xs).map D.int)] = .ok (.fz (.bl true)) := tbc lk
    clear prP lk
    generalize prg.tb (m + 4) = T at pr' lk' ⊢
    generalize (j :: js).map natD = J at *
    generalize (primG xs).map D.int = P at *
    generalize xs.map enc = X at *
    simp [evDef, startS, PX.execs, PX.exec, evX, evXB, evXL, frzS, anyOw, evE, evL, evJ, evT, bindE, bindT, bindTp, opCmp, opI2, storeIx, E.non?, slB, pr', lk', q, EV.lf, D.lf]
  rw [PX.execs_cons, e0, RS.then_nx, PX.execs_cons, e1, RS.then_nx, PX.execs_cons, exec_for_ow]
  rw [show (.int 0 : D) = .int ((0 : Nat) : Int) from rfl, l7, RS.then_nx, PX.execs_cons, e3, RS.then_nx, PX.execs_cons, f8, e8, RS.then_nx, PX.execs_cons, f9, l9, RS.then_nx, PX.execs_cons, e6]
  rfl
end
end K03

set_option Elab.async false
set_option linter.all false
set_option maxRecDepth 100000
set_option maxHeartbeats 1000000
/-! K03M: lists of cells, in order. -/
namespace K03
open PySem PySem.Spec PyProof.Rows L2 PX
section
variable {m : Nat}
/-- whole numbers, few and small -/
def Sm (l : List Int) : Prop := l.length ≤ 20 ∧ ∀ i, i ∈ l → i.natAbs < 2 ^ 62
theorem sp_orderedI {as bs : List Int} (ha : Sm as) (hb : Sm bs) : prg.call (m + 4) "_law_ordered" [.lst (as.map D.int), .lst (bs.map D.int)] = .ok (.fz (.bl true)) := by
  have h := sp_ordered (m := m) (xs := toQ as) (ys := toQ bs) (k := 62) (by decide) (fun x h => by
    obtain ⟨n, hm, rfl⟩ := List.mem_map.mp h
    exact bd_int (by decide) (ha.2 n hm)) (fun x h => by
    obtain ⟨n, hm, rfl⟩ := List.mem_map.mp h
    exact bd_int (by decide) (hb.2 n hm)) (by rw [List.length_map]; have := ha.1; omega) (by rw [List.length_map]; have := hb.1; omega)
  rw [encs_int, encs_int] at h
  exact h
theorem cells_in {as : List Int} (ha : Sm as) (s0 s1 s2 s3 s4 : Sl) : ∀ (ls : List (List Int)) (s6 : Sl), (∀ l, l ∈ ls → Sm l) →
    ∃ s6', forGo (.nm 6) (fun ρ => PX.execs (prg.tb (m + 4)) K03._law_cells_ordered_b1 ρ) (ls.map fun l => .lst (l.map D.int)) [s0, s1, s2, s3, s4, .fz (.lst (as.map D.int)), s6] = .ok (.nx [s0, s1, s2, s3, s4, .fz (.lst (as.map D.int)), s6'])
  | [], s6, _ => ⟨s6, forGo_nil⟩
  | l :: ls, s6, h => by
    obtain ⟨s', e⟩ := cells_in ha s0 s1 s2 s3 s4 ls (.fz (.lst (l.map D.int))) (fun q hq => h q (List.mem_cons_of_mem _ hq))
    have o := sp_orderedI (m := m) ha (h l List.mem_cons_self)
    refine ⟨s', ?_⟩
    have st : PX.execs (prg.tb (m + 4)) K03._law_cells_ordered_b1 [s0, s1, s2, s3, s4, .fz (.lst (as.map D.int)), .fz (.lst (l.map D.int))] = .ok (.nx [s0, s1, s2, s3, s4, .fz (.lst (as.map D.int)), .fz (.lst (l.map D.int))]) := by
      have o' : (prg.tb (m + 4)).call "_law_ordered" [.lst (as.map D.int), .lst (l.map D.int)] = .ok (.fz (.bl true)) := tbc o
      clear o e
      generalize prg.tb (m + 4) = T at *
      generalize as.map D.int = A at *
      generalize l.map D.int = B at *
      simp [evDef, startS, PX.execs, PX.exec, evX, evXB, evXL, frzS, anyOw, evE, evL, evJ, evT, bindE, bindT, bindTp, opCmp, opI2, storeIx, E.non?, slB, K03._law_cells_ordered_b1, o']
    rw [List.map_cons, forGo_cons]
    simp only [bindT, R.on_ok, List.set]
    rw [st, RS.turn_nx, e]
theorem cells_out {all : List (List Int)} (hall : ∀ l, l ∈ all → Sm l) (s0 s1 s2 s3 : Sl) : ∀ (ls : List (List Int)) (s5 s6 : Sl), (∀ l, l ∈ ls → Sm l) →
    ∃ s5' s6', forGo (.nm 5) (fun ρ => PX.execs (prg.tb (m + 4)) K03._law_cells_ordered_b2 ρ) (ls.map fun l => .lst (l.map D.int)) [s0, s1, s2, s3, .fz (.lst (all.map fun l => .lst (l.map D.int))), s5, s6] = .ok (.nx [s0, s1, s2, s3, .fz (.lst (all.map fun l => .lst (l.map D.int))), s5', s6'])
  | [], s5, s6, _ => ⟨s5, s6, forGo_nil⟩
  | l :: ls, s5, s6, h => by
    obtain ⟨t6, e6⟩ := cells_in (m := m) (h l List.mem_cons_self) s0 s1 s2 s3 (.fz (.lst (all.map fun l => .lst (l.map D.int)))) all s6 hall
    obtain ⟨s', s6', e⟩ := cells_out hall s0 s1 s2 s3 ls (.fz (.lst (l.map D.int))) t6 (fun q hq => h q (List.mem_cons_of_mem _ hq))
    refine ⟨s', s6', ?_⟩
    have ef : PX.exec (prg.tb (m + 4)) (.for (.nm 6) .val [.var 4] K03._law_cells_ordered_b1 [4]) [s0, s1, s2, s3, .fz (.lst (all.map fun l => .lst (l.map D.int))), .fz (.lst (l.map D.int)), s6] = _ :=
      ex_for_of (ds := [.lst (all.map fun l => .lst (l.map D.int))]) (xs := all.map fun l => .lst (l.map D.int)) (by simp [anyOw]) (by
        generalize (all.map fun l => D.lst (l.map D.int)) = A
        simp [evL, evE]) rfl
    rw [List.map_cons, forGo_cons]
    simp only [bindT, R.on_ok, List.set]
    show RS.turn (PX.execs _ [.for (.nm 6) .val [.var 4] K03._law_cells_ordered_b1 [4]] _) _ = _
    rw [PX.execs_cons, ef, e6, RS.then_nx, PX.execs, RS.turn_nx, e]
theorem fm16 (r : Int) : (r.fmod 16).natAbs < 2 ^ 62 := by
  have h0 : 0 ≤ r.fmod 16 := Int.fmod_nonneg_of_pos _ (by decide)
  have h1 : r.fmod 16 < 16 := Int.fmod_lt_of_pos _ (by decide)
  have : (16 : Nat) < 2 ^ 62 := by decide
  omega
theorem cells_go {all : List (List Int)} (hall : ∀ l, l ∈ all → Sm l) (s0 s1 s2 s3 : Sl) :
    (PX.execs (prg.tb (m + 4)) [.for (.nm 5) .val [.var 4] K03._law_cells_ordered_b2 [4], .ret (.bl true) []] [s0, s1, s2, s3, .ow (.lst (all.map fun l => .lst (l.map D.int))), .un, .un]).out = .ok (.fz (.bl true)) := by
  obtain ⟨s5, s6, e⟩ := cells_out (m := m) hall s0 s1 s2 s3 all .un .un hall
  have ef : PX.exec (prg.tb (m + 4)) (.for (.nm 5) .val [.var 4] K03._law_cells_ordered_b2 [4]) [s0, s1, s2, s3, .ow (.lst (all.map fun l => .lst (l.map D.int))), .un, .un] = forGo (.nm 5) (fun ρ => PX.execs (prg.tb (m + 4)) K03._law_cells_ordered_b2 ρ) (all.map fun l => .lst (l.map D.int)) [s0, s1, s2, s3, .fz (.lst (all.map fun l => .lst (l.map D.int))), .un, .un] := by
    generalize (all.map fun l => D.lst (l.map D.int)) = A
    generalize prg.tb (m + 4) = T
    rw [PX.exec]
    unfold evXL
    have fz : frzS [s0, s1, s2, s3, .ow (.lst A), .un, .un] [4] = [s0, s1, s2, s3, .fz (.lst A), .un, .un] := by simp [frzS, OD.d]
    have ev : evL T [s0, s1, s2, s3, .fz (.lst A), .un, .un] [.var 4] = .ok [.lst A] := by simp [evL, evE]
    rw [if_pos (by simp [anyOw]), fz, ev, R.on_ok, if_neg (by simp [D.lfs, D.lf])]
    show (R.on (itVal [.lst A]) _ _) = _
    rw [itVal_l, R.on_ok]
  rw [PX.execs_cons, ef, e, RS.then_nx]
  simp [evDef, startS, PX.execs, PX.exec, evX, evXB, evXL, frzS, anyOw, evE, evL, evJ, evT, bindE, bindT, bindTp, opCmp, opI2, storeIx, E.non?, slB]
theorem stix_gen {T : Tb} {e ix : E} {X CS : List D} {v j : Int} {jn : Nat} (x1 : evE T [.fz (.lst X), .fz (.lst CS), .un, .ow (.lst CS), .un, .un, .un] e = .ok (.fz (.int v))) (x2 : evE T [.fz (.lst X), .fz (.lst CS), .un, .ow (.lst CS), .un, .un, .un] ix = .ok (.fz (.int j))) (hx : ixN CS.length j = some jn) :
    PX.exec T (.stix 3 ix e [0, 1]) [.fz (.lst X), .ow (.lst CS), .un, .ow (.lst CS), .un, .un, .un] = .ok (.nx [.fz (.lst X), .ow (.lst CS), .un, .ow (.lst (CS.set jn (.int v))), .un, .un, .un]) := by
  rw [PX.exec]
  simp [evX, anyOw, frzS, OD.d, x1, x2, EV.lf, D.lf, storeIx, hx]
theorem iff_gen {T : Tb} {X CS : List D} {c : Nat} {q : List S} (hl : CS.length = c) (h0 : 0 < c) :
    PX.exec T (.iff (.cmp .Gt (.bi .len [.var 1]) (.int 0)) q [] [1]) [.fz (.lst X), .ow (.lst CS), .un, .ow (.lst CS), .un, .un, .un] = PX.execs T q [.fz (.lst X), .ow (.lst CS), .un, .ow (.lst CS), .un, .un, .un] := by
  have cp : (0 : Int) < (c : Int) := by omega
  rw [PX.exec]
  unfold evXB
  have fz : frzS [.fz (.lst X), .ow (.lst CS), .un, .ow (.lst CS), .un, .un, .un] [1] = [.fz (.lst X), .fz (.lst CS), .un, .ow (.lst CS), .un, .un, .un] := by simp [frzS, OD.d]
  have ec : evE T [.fz (.lst X), .fz (.lst CS), .un, .ow (.lst CS), .un, .un, .un] (.cmp .Gt (.bi .len [.var 1]) (.int 0)) = .ok (.fz (.bl true)) := by simp [evE, evL, opCmp, opI2, hl, cp, h0]
  rw [fz, ec]
  rfl
theorem fresh_big (A B C D' : List Int) : D.lfs ([A, B, C, D', []].map fun l => D.lst (l.map D.int)) = false := rfl
theorem sp_cells_ordered {row : List Int} (hr : row.length = 10) (hin : ∀ r, r ∈ row → inR r) : prg.call (m + 5) "_law_cells_ordered" [.lst (row.map D.int)] = .ok (.fz (.bl true)) := by
  rw [HasF.run, evDef_out (show [D.lst (row.map D.int)].length = 1 from rfl)]
  have sb := sizeBig
  obtain ⟨c, hc⟩ : ∃ c : Nat, (row[6]'(by omega)).fmod 7 = (c : Int) := ⟨_, (Int.toNat_of_nonneg (Int.fmod_nonneg_of_pos _ (show (0 : Int) < 7 by decide))).symm⟩
  have c7 : c < 7 := by
    have : (row[6]'(by omega)).fmod 7 < 7 := Int.fmod_lt_of_pos _ (by decide)
    omega
  have a6 := at_ints row 6 (by omega)
  have a7 := at_ints row 7 (by omega)
  have a8 := at_ints row 8 (by omega)
  have a9 := at_ints row 9 (by omega)
  have os := opSl_toI row c
  let cs : List Int := (row.take c).map fun r => r.fmod 16
  have csl : cs.length = c := by
    show ((row.take c).map fun r => r.fmod 16).length = c
    rw [List.length_map, List.length_take]; omega
  have csm : ∀ i, i ∈ cs → i.natAbs < 2 ^ 62 := fun i hi => by
    obtain ⟨r, _, rfl⟩ := List.mem_map.mp hi
    exact fm16 r
  have el : evE (prg.tb (m + 4)) [.fz (.lst (row.map D.int)), .un, .un, .un, .un, .un, .un] (.lc [2] (.nm 2) .val [.sl (.var 0) (.non) (.bin .Mod (.bi .int [.ix (.var 0) (.int 6)]) (.int 7))] [] K03._law_cells_ordered_e1) = .ok (.fr (.lst (cs.map D.int))) := by
    have e := ev_lc_val (T := prg.tb (m + 4)) (ρ := [.fz (.lst (row.map D.int)), .un, .un, .un, .un, .un, .un]) (own := [2]) (i := 2) (a := .sl (.var 0) (.non) (.bin .Mod (.bi .int [.ix (.var 0) (.int 6)]) (.int 7))) (el := K03._law_cells_ordered_e1) (ea := D.int) (eb := fun r => D.int (r.fmod 16)) (xs := row.take c) (v := .fr (.lst ((row.take c).map D.int))) (by
      have a6' : atI (row.map D.int) 6 = some (.int row[6]) := a6
      generalize row.take c = Z at *
      generalize row[6] = r6 at *
      generalize row.map D.int = X at *
      generalize prg.tb (m + 4) = T
      simp [evE, evL, E.non?, slB, a6', hc, os]) rfl (by rw [List.length_take]; omega) (fun r _ => by
      refine ⟨.fz (.int (r.fmod 16)), ?_, rfl⟩
      show evE _ [.fz (.lst (row.map D.int)), .un, .fz (.int r), .un, .un, .un, .un] _ = _
      generalize row.map D.int = X
      generalize prg.tb (m + 4) = T
      simp [evDef, startS, PX.execs, PX.exec, evX, evXB, evXL, frzS, anyOw, evE, evL, evJ, evT, bindE, bindT, bindTp, opCmp, opI2, storeIx, E.non?, slB, K03._law_cells_ordered_e1])
    rw [e]
    show R.ok _ = R.ok (EV.fr (.lst (((row.take c).map fun r => r.fmod 16).map D.int)))
    rw [List.map_map]
    rfl
  -- the other list
  have oth : ∃ os : List Int, os.length = c ∧ (∀ i, i ∈ os → i.natAbs < 2 ^ 62) ∧ PX.execs (prg.tb (m + 4)) (K03.b__law_cells_ordered.take 3) [.fz (.lst (row.map D.int)), .un, .un, .un, .un, .un, .un] = .ok (.nx [.fz (.lst (row.map D.int)), .ow (.lst (cs.map D.int)), .un, .ow (.lst (os.map D.int)), .un, .un, .un]) := by
    have lI : D.lfs (cs.map D.int) = true := lfs_ints _
    have ll : (cs.map D.int).length = c := by rw [List.length_map, csl]
    have a7' : atI (row.map D.int) 7 = some (.int row[7]) := a7
    have a8' : atI (row.map D.int) 8 = some (.int row[8]) := a8
    rcases Nat.eq_zero_or_pos c with h0 | h0
    · refine ⟨cs, csl, csm, ?_⟩
      subst h0
      clear_value cs
      generalize cs.map D.int = CS at *
      generalize row.map D.int = X at *
      generalize prg.tb (m + 4) = T at *
      show PX.execs T [.asg (.nm 1) (.lc [2] (.nm 2) .val [.sl (.var 0) (.non) (.bin .Mod (.bi .int [.ix (.var 0) (.int 6)]) (.int 7))] [] K03._law_cells_ordered_e1) [0], .asg (.nm 3) (.bi .list [.var 1]) [1], .iff (.cmp .Gt (.bi .len [.var 1]) (.int 0)) [.stix 3 (.bin .Mod (.bi .int [.ix (.var 0) (.int 7)]) (.bi .len [.var 1])) (.bin .Mod (.bi .int [.ix (.var 0) (.int 8)]) (.int 16)) [0, 1]] [] [1]] _ = _
      generalize E.lc [2] (.nm 2) .val [.sl (.var 0) (.non) (.bin .Mod (.bi .int [.ix (.var 0) (.int 6)]) (.int 7))] [] K03._law_cells_ordered_e1 = Z at *
      simp [evDef, startS, PX.execs, PX.exec, evX, evXB, evXL, frzS, anyOw, evE, evL, evJ, evT, bindE, bindT, bindTp, opCmp, opI2, storeIx, E.non?, slB, el, lI, ll, EV.lf]
    · have cz : (c : Int) ≠ 0 := by omega
      have p0 : 0 ≤ (row[7]'(by omega)).fmod (c : Int) := Int.fmod_nonneg_of_pos _ (by omega)
      have p1 : (row[7]'(by omega)).fmod (c : Int) < c := Int.fmod_lt_of_pos _ (by omega)
      obtain ⟨j, hj⟩ : ∃ j : Nat, (row[7]'(by omega)).fmod (c : Int) = (j : Int) := ⟨_, (Int.toNat_of_nonneg p0).symm⟩
      refine ⟨cs.set j ((row[8]'(by omega)).fmod 16), by rw [List.length_set, csl], fun i hi => ?_, ?_⟩
      · rcases List.mem_or_eq_of_mem_set hi with h | rfl
        · exact csm i h
        · exact fm16 _
      · rw [List.map_set]
        have ix : ixN c (j : Int) = some j := by
          unfold ixN
          rw [if_pos (by omega), if_pos (by omega)]
          simp
        have cp : 0 < (c : Int) := by omega
        clear_value cs
        generalize cs.map D.int = CS at *
        generalize row[7] = r7 at *
        generalize row[8] = r8 at *
        generalize row.map D.int = X at *
        generalize prg.tb (m + 4) = T at *
        have x1 : evE T [.fz (.lst X), .fz (.lst CS), .un, .ow (.lst CS), .un, .un, .un] (.bin .Mod (.bi .int [.ix (.var 0) (.int 8)]) (.int 16)) = .ok (.fz (.int (r8.fmod 16))) := by simp [evE, evL, a8']
        have x2 : evE T [.fz (.lst X), .fz (.lst CS), .un, .ow (.lst CS), .un, .un, .un] (.bin .Mod (.bi .int [.ix (.var 0) (.int 7)]) (.bi .len [.var 1])) = .ok (.fz (.int j)) := by
          have bm : opBin .Mod (.int r7) (.int (c : Int)) = .ok (.fz (.int (j : Int))) := by rw [← hj]; exact ob_mod cz
          simp [evE, evL, a7', ll, bm]
        have q3 := stix_gen (jn := j) x1 x2 (by rw [ll]; exact ix)
        have q2 := iff_gen (T := T) (X := X) (CS := CS) (q := [.stix 3 (.bin .Mod (.bi .int [.ix (.var 0) (.int 7)]) (.bi .len [.var 1])) (.bin .Mod (.bi .int [.ix (.var 0) (.int 8)]) (.int 16)) [0, 1]]) ll h0
        show PX.execs T [.asg (.nm 1) (.lc [2] (.nm 2) .val [.sl (.var 0) (.non) (.bin .Mod (.bi .int [.ix (.var 0) (.int 6)]) (.int 7))] [] K03._law_cells_ordered_e1) [0], .asg (.nm 3) (.bi .list [.var 1]) [1], .iff (.cmp .Gt (.bi .len [.var 1]) (.int 0)) [.stix 3 (.bin .Mod (.bi .int [.ix (.var 0) (.int 7)]) (.bi .len [.var 1])) (.bin .Mod (.bi .int [.ix (.var 0) (.int 8)]) (.int 16)) [0, 1]] [] [1]] _ = _
        generalize E.lc [2] (.nm 2) .val [.sl (.var 0) (.non) (.bin .Mod (.bi .int [.ix (.var 0) (.int 6)]) (.int 7))] [] K03._law_cells_ordered_e1 = Z at *
        have q0 : PX.exec T (.asg (.nm 1) Z [0]) [.fz (.lst X), .un, .un, .un, .un, .un, .un] = .ok (.nx [.fz (.lst X), .ow (.lst CS), .un, .un, .un, .un, .un]) := by simp [evDef, startS, PX.execs, PX.exec, evX, evXB, evXL, frzS, anyOw, evE, evL, evJ, evT, bindE, bindT, bindTp, opCmp, opI2, storeIx, E.non?, slB, el]
        have q1 : PX.exec T (.asg (.nm 3) (.bi .list [.var 1]) [1]) [.fz (.lst X), .ow (.lst CS), .un, .un, .un, .un, .un] = .ok (.nx [.fz (.lst X), .ow (.lst CS), .un, .ow (.lst CS), .un, .un, .un]) := by simp [evDef, startS, PX.execs, PX.exec, evX, evXB, evXL, frzS, anyOw, evE, evL, evJ, evT, bindE, bindT, bindTp, opCmp, opI2, storeIx, E.non?, slB, lI, EV.lf]
        rw [PX.execs_cons, q0, RS.then_nx, PX.execs_cons, q1, RS.then_nx, PX.execs_cons, q2, PX.execs_cons, q3, RS.then_nx, PX.execs, RS.then_nx, PX.execs]
  obtain ⟨os', ol, om, e3⟩ := oth
  have sm1 : Sm cs := ⟨by omega, csm⟩
  have sm2 : Sm (cs ++ [(row[9]'(by omega)).fmod 16]) := ⟨by rw [List.length_append, List.length_singleton]; omega, fun i hi => by
    rcases List.mem_append.mp hi with h | h
    · exact csm i h
    · rw [List.mem_singleton.mp h]; exact fm16 _⟩
  have sm3 : Sm os' := ⟨by omega, om⟩
  have sm4 : Sm (os' ++ [0]) := ⟨by rw [List.length_append, List.length_singleton]; omega, fun i hi => by
    rcases List.mem_append.mp hi with h | h
    · exact om i h
    · rw [List.mem_singleton.mp h]; decide⟩
  have sm5 : Sm [] := ⟨by simp, fun i hi => by cases hi⟩
  have go := cells_go (m := m) (all := [cs, cs ++ [(row[9]'(by omega)).fmod 16], os', os' ++ [0], []]) (fun l hl => by
    simp only [List.mem_cons, List.not_mem_nil, or_false] at hl
    rcases hl with rfl | rfl | rfl | rfl | rfl
    · exact sm1
    · exact sm2
    · exact sm3
    · exact sm4
    · exact sm5) (.fz (.lst (row.map D.int))) (.fz (.lst (cs.map D.int))) .un (.fz (.lst (os'.map D.int)))
  have sp : K03.b__law_cells_ordered = K03.b__law_cells_ordered.take 3 ++ (.asg (.nm 4) (.ls [.var 1, .bin .Add (.var 1) (.ls [.bin .Mod (.bi .int [.ix (.var 0) (.int 9)]) (.int 16)]), .var 3, .bin .Add (.var 3) (.ls [.int 0]), .ls []]) [0, 1, 3] :: [.for (.nm 5) .val [.var 4] K03._law_cells_ordered_b2 [4], .ret (.bl true) []]) := rfl
  have e4 : PX.exec (prg.tb (m + 4)) (.asg (.nm 4) (.ls [.var 1, .bin .Add (.var 1) (.ls [.bin .Mod (.bi .int [.ix (.var 0) (.int 9)]) (.int 16)]), .var 3, .bin .Add (.var 3) (.ls [.int 0]), .ls []]) [0, 1, 3]) [.fz (.lst (row.map D.int)), .ow (.lst (cs.map D.int)), .un, .ow (.lst (os'.map D.int)), .un, .un, .un] = .ok (.nx [.fz (.lst (row.map D.int)), .fz (.lst (cs.map D.int)), .un, .fz (.lst (os'.map D.int)), .ow (.lst ([cs, cs ++ [(row[9]'(by omega)).fmod 16], os', os' ++ [0], []].map fun l => .lst (l.map D.int))), .un, .un]) := by
    have a9' : atI (row.map D.int) 9 = some (.int row[9]) := a9
    have l1 : (cs.map D.int).length = c := by rw [List.length_map, csl]
    have l2 : (os'.map D.int).length = c := by rw [List.length_map, ol]
    have l3 : c + 1 ≤ sizeLine := by omega
    have l5 : 5 ≤ sizeLine := by omega
    have l6 : 1 ≤ sizeLine := by omega
    simp only [List.map_cons, List.map_nil, List.map_append]
    clear_value cs
    generalize cs.map D.int = CS at *
    generalize os'.map D.int = OS at *
    generalize row[9] = r9 at *
    generalize row.map D.int = X at *
    generalize prg.tb (m + 4) = T at *
    simp [evDef, startS, PX.execs, PX.exec, evX, evXB, evXL, frzS, anyOw, evE, evL, evJ, evT, bindE, bindT, bindTp, opCmp, opI2, storeIx, E.non?, slB, a9', l1, l2, l3, l5, l6, EV.lf, D.lf, D.lfs]
  show (PX.execs (prg.tb (m + 4)) K03.b__law_cells_ordered [.fz (.lst (row.map D.int)), .un, .un, .un, .un, .un, .un]).out = _
  rw [sp, execs_app, e3, RS.then_nx, PX.execs_cons, e4, RS.then_nx]
  exact go
end
end K03

set_option Elab.async false
set_option linter.all false
set_option maxRecDepth 100000
set_option maxHeartbeats 1000000
/-! K03N: the law. -/
namespace K03
open PySem PySem.Spec PyProof.Rows L2 PX
section
variable {m : Nat}
theorem zero_abs {T : Tb} {X P : List D} {F : D} (a3 a5 : Sl) (c1 : opEq false (.lst P) (.lst X) = .ok true) (c2 : T.call "primitive" [.lst X] = .ok (.fr (.lst P))) (c3 : T.call "_law_like" [.lst P, .lst X] = .ok (.fz (.bl true))) (i0 : opEq false (.int 0) (.int 0) = .ok true) :
    PX.exec T (.iff (.cmp .Eq (.bi .len [.var 5]) (.int 0)) [.ret (.and (.cmp .Eq (.var 4) (.var 0)) (.call "_law_like" [.call "primitive" [.var 2], .var 0])) [0, 2, 4]] [] [5]) [.fz (.lst X), .fz F, .ow (.lst X), a3, .ow (.lst P), .ow (.lst []), .un, .un, .un, .un, .un] = .ok (.rt (.fz (.bl true))) := by
  rw [PX.exec]
  unfold evXB
  have fz : frzS [.fz (.lst X), .fz F, .ow (.lst X), a3, .ow (.lst P), .ow (.lst []), .un, .un, .un, .un, .un] [5] = [.fz (.lst X), .fz F, .ow (.lst X), a3, .ow (.lst P), .fz (.lst []), .un, .un, .un, .un, .un] := by simp [frzS, OD.d]
  have ec : evE T [.fz (.lst X), .fz F, .ow (.lst X), a3, .ow (.lst P), .fz (.lst []), .un, .un, .un, .un, .un] (.cmp .Eq (.bi .len [.var 5]) (.int 0)) = .ok (.fz (.bl true)) := by simp [evE, evL, opCmp, i0]
  have er : PX.exec T (.ret (.and (.cmp .Eq (.var 4) (.var 0)) (.call "_law_like" [.call "primitive" [.var 2], .var 0])) [0, 2, 4]) [.fz (.lst X), .fz F, .ow (.lst X), a3, .ow (.lst P), .ow (.lst []), .un, .un, .un, .un, .un] = .ok (.rt (.fz (.bl true))) := by simp [evDef, startS, PX.execs, PX.exec, evX, evXB, evXL, frzS, anyOw, evE, evL, evJ, evT, bindE, bindT, bindTp, opCmp, opI2, storeIx, E.non?, slB, c1, c2, c3, EV.lf, D.lf]
  rw [fz, ec]
  show PX.execs T [.ret (.and (.cmp .Eq (.var 4) (.var 0)) (.call "_law_like" [.call "primitive" [.var 2], .var 0])) [0, 2, 4]] _ = _
  rw [PX.execs_cons, er]
  rfl
theorem op0 : opEq false (.int 0) (.int 0) = .ok true := by
  have := eq0 0
  rw [enc0] at this
  rw [this]; simp
theorem sp_told {xs : List Rat} {f : Rat} (hx : ∀ x, x ∈ xs → F2 x) (hf : PX.Fr 12 (2 ^ 7) f) (hf0 : f ≠ 0) (hn : xs.length ≤ 12) : prg.call (m + 5) "_law_primitive_told" [.lst (xs.map enc), enc f] = .ok (.fz (.bl true)) := by
  rw [HasF.run, evDef_out (show [D.lst (xs.map enc), enc f].length = 2 from rfl)]
  show (PX.execs (prg.tb (m + 4)) K03.b__law_primitive_told [.fz (.lst (xs.map enc)), .fz (enc f), .un, .un, .un, .un, .un, .un, .un, .un, .un]).out = _
  have sp : K03.b__law_primitive_told = K03.b__law_primitive_told.take 7 ++ K03.b__law_primitive_told.drop 7 := rfl
  rw [sp, execs_app, told_start hx hn, RS.then_nx]
  cases hs : supG xs with
  | nil =>
    have z := sup_nil xs 0 hs
    have pz := prim_zero z
    have sb := sizeBig
    have eX : (primG xs).map D.int = xs.map enc := by
      rw [pz, List.map_map]
      exact List.map_congr_left fun x h => by rw [z x h]; rfl
    have c2 := pr_tb (m := m) hx (show xs.length ≤ 100000 by omega)
    have c3 : (prg.tb (m + 4)).call "_law_like" [.lst (xs.map enc), .lst (xs.map enc)] = .ok (.fz (.bl true)) := tbc (like_encs (p := prg) (m := m) xs (by omega))
    have c1 : opEq false (.lst (xs.map enc)) (.lst (xs.map enc)) = .ok true := by rw [opEq_encs]; simp
    rw [eX] at c2
    rw [eX]
    have e := zero_abs (F := enc f) (.ow (.lst (xs.map enc ++ [.int 77]))) .un c1 c2 c3 op0
    show (PX.execs (prg.tb (m + 4)) (.iff (.cmp .Eq (.bi .len [.var 5]) (.int 0)) [.ret (.and (.cmp .Eq (.var 4) (.var 0)) (.call "_law_like" [.call "primitive" [.var 2], .var 0])) [0, 2, 4]] [] [5] :: K03.b__law_primitive_told.drop 8) [.fz (.lst (xs.map enc)), .fz (enc f), .ow (.lst (xs.map enc)), .ow (.lst (xs.map enc ++ [.int 77])), .ow (.lst (xs.map enc)), .ow (.lst []), .un, .un, .un, .un, .un]).out = _
    rw [PX.execs_cons, e]
    rfl
  | cons j js => exact told_end hx hf hf0 hn hs
/-! ### the law -/
theorem lawA {T : Tb} {ns : List Int} {R R3 X Y : List D} {F : D} {r0 r1 r2 r3 r4 c : Int} {lg : Bool} {el : E} (n0 : T.call "_law_numbers" [.scr ns, .int 0, .int 16] = .ok (.fr (.lst R))) (n3 : T.call "_law_numbers" [.scr ns, .int 2, .int 15] = .ok (.fr (.lst R3)))
    (lR : D.lfs R = true) (lX : D.lfs X = true) (lY : D.lfs Y = true) (lF : D.lf F = true) (i0 : atI R 0 = some (.int r0)) (i1 : atI R 1 = some (.int r1)) (i2 : atI R 2 = some (.int r2)) (i3 : atI R 3 = some (.int r3)) (i4 : atI R 4 = some (.int r4))
    (hc : r0.fmod 13 = c) (hlg : decide (r1.fmod 8 = 1) = lg)
    (e3 : evE T [.fz (.scr ns), .ow (.lst R), .fz (.int c), .fz (.bl lg), .un, .un, .un, .un, .un, .un] el = .ok (.fr (.lst X)))
    (c4 : T.call "_law_second" [.lst X, .lst R3, .int (r2.fmod 5), .bl lg] = .ok (.fr (.lst Y)))
    (c5 : T.call "_law_make" [.int (r3.fmod 19 - 9), .int (1 + r4.fmod 4)] = .ok (.fz F)) :
    PX.execs T [.asg (.nm 1) (.call "_law_numbers" [.var 0, .int 0, .int 16]) [0], .asg (.nm 2) (.bin .Mod (.bi .int [.ix (.var 1) (.int 0)]) (.int 13)) [1], .asg (.nm 3) (.cmp .Eq (.bin .Mod (.bi .int [.ix (.var 1) (.int 1)]) (.int 8)) (.int 1)) [1], .asg (.nm 4) el [0, 2, 3], .asg (.nm 6) (.call "_law_second" [.var 4, .call "_law_numbers" [.var 0, .int 2, .int 15], .bin .Mod (.bi .int [.ix (.var 1) (.int 2)]) (.int 5), .var 3]) [0, 1, 3, 4], .asg (.nm 7) (.call "_law_make" [.bin .Sub (.bin .Mod (.bi .int [.ix (.var 1) (.int 3)]) (.int 19)) (.int 9), .bin .Add (.int 1) (.bin .Mod (.bi .int [.ix (.var 1) (.int 4)]) (.int 4))]) [1]] [.fz (.scr ns), .un, .un, .un, .un, .un, .un, .un, .un, .un] = .ok (.nx [.fz (.scr ns), .ow (.lst R), .fz (.int c), .fz (.bl lg), .ow (.lst X), .un, .ow (.lst Y), .fz F, .un, .un]) := by
  have e0 : PX.exec T (.asg (.nm 1) (.call "_law_numbers" [.var 0, .int 0, .int 16]) [0]) [.fz (.scr ns), .un, .un, .un, .un, .un, .un, .un, .un, .un] = .ok (.nx [.fz (.scr ns), .ow (.lst R), .un, .un, .un, .un, .un, .un, .un, .un]) := by simp [evDef, startS, PX.execs, PX.exec, evX, evXB, evXL, frzS, anyOw, evE, evL, evJ, evT, bindE, bindT, bindTp, opCmp, opI2, storeIx, E.non?, slB, n0]
  have e1 : PX.exec T (.asg (.nm 2) (.bin .Mod (.bi .int [.ix (.var 1) (.int 0)]) (.int 13)) [1]) [.fz (.scr ns), .ow (.lst R), .un, .un, .un, .un, .un, .un, .un, .un] = .ok (.nx [.fz (.scr ns), .ow (.lst R), .fz (.int c), .un, .un, .un, .un, .un, .un, .un]) := by simp [evDef, startS, PX.execs, PX.exec, evX, evXB, evXL, frzS, anyOw, evE, evL, evJ, evT, bindE, bindT, bindTp, opCmp, opI2, storeIx, E.non?, slB, i0, hc, EV.lf, D.lf]
  have e2 : PX.exec T (.asg (.nm 3) (.cmp .Eq (.bin .Mod (.bi .int [.ix (.var 1) (.int 1)]) (.int 8)) (.int 1)) [1]) [.fz (.scr ns), .ow (.lst R), .fz (.int c), .un, .un, .un, .un, .un, .un, .un] = .ok (.nx [.fz (.scr ns), .ow (.lst R), .fz (.int c), .fz (.bl lg), .un, .un, .un, .un, .un, .un]) := by
    subst hlg
    simp [evDef, startS, PX.execs, PX.exec, evX, evXB, evXL, frzS, anyOw, evE, evL, evJ, evT, bindE, bindT, bindTp, opCmp, opI2, storeIx, E.non?, slB, i1, opCmp, EV.lf, D.lf]
  have e3' : PX.exec T (.asg (.nm 4) el [0, 2, 3]) [.fz (.scr ns), .ow (.lst R), .fz (.int c), .fz (.bl lg), .un, .un, .un, .un, .un, .un] = .ok (.nx [.fz (.scr ns), .ow (.lst R), .fz (.int c), .fz (.bl lg), .ow (.lst X), .un, .un, .un, .un, .un]) := by simp [evDef, startS, PX.execs, PX.exec, evX, evXB, evXL, frzS, anyOw, evE, evL, evJ, evT, bindE, bindT, bindTp, opCmp, opI2, storeIx, E.non?, slB, e3]
  have e4 : PX.exec T (.asg (.nm 6) (.call "_law_second" [.var 4, .call "_law_numbers" [.var 0, .int 2, .int 15], .bin .Mod (.bi .int [.ix (.var 1) (.int 2)]) (.int 5), .var 3]) [0, 1, 3, 4]) [.fz (.scr ns), .ow (.lst R), .fz (.int c), .fz (.bl lg), .ow (.lst X), .un, .un, .un, .un, .un] = .ok (.nx [.fz (.scr ns), .ow (.lst R), .fz (.int c), .fz (.bl lg), .ow (.lst X), .un, .ow (.lst Y), .un, .un, .un]) := by simp [evDef, startS, PX.execs, PX.exec, evX, evXB, evXL, frzS, anyOw, evE, evL, evJ, evT, bindE, bindT, bindTp, opCmp, opI2, storeIx, E.non?, slB, i2, n3, c4, EV.lf, lY]
  have e5 : PX.exec T (.asg (.nm 7) (.call "_law_make" [.bin .Sub (.bin .Mod (.bi .int [.ix (.var 1) (.int 3)]) (.int 19)) (.int 9), .bin .Add (.int 1) (.bin .Mod (.bi .int [.ix (.var 1) (.int 4)]) (.int 4))]) [1]) [.fz (.scr ns), .ow (.lst R), .fz (.int c), .fz (.bl lg), .ow (.lst X), .un, .ow (.lst Y), .un, .un, .un] = .ok (.nx [.fz (.scr ns), .ow (.lst R), .fz (.int c), .fz (.bl lg), .ow (.lst X), .un, .ow (.lst Y), .fz F, .un, .un]) := by simp [evDef, startS, PX.execs, PX.exec, evX, evXB, evXL, frzS, anyOw, evE, evL, evJ, evT, bindE, bindT, bindTp, opCmp, opI2, storeIx, E.non?, slB, i3, i4, c5, EV.lf, lF]
  rw [PX.execs_cons, e0, RS.then_nx, PX.execs_cons, e1, RS.then_nx, PX.execs_cons, e2, RS.then_nx, PX.execs_cons, e3', RS.then_nx, PX.execs_cons, e4, RS.then_nx, PX.execs_cons, e5, RS.then_nx, PX.execs]
theorem lawB {T : Tb} {R C X Y Z : List D} {F G : D} {r5 : Int} (a0 a2 a3 : Sl) {el : E} {st8 : S} (i5 : atI R 5 = some (.int r5)) (os : opSl (.lst R) (some 6) none = .ok (.fr (.lst C)))
    (s1 : T.call "_law_sums" [.lst X, .lst Y, F] = .ok (.fz (.bl true))) (s2 : T.call "_law_sums" [.lst Y, .lst X, F] = .ok (.fz (.bl true)))
    (o1 : T.call "_law_orders" [.lst X, .lst Y, .int r5] = .ok (.fz (.bl true))) (o2 : T.call "_law_cells_ordered" [.lst C] = .ok (.fz (.bl true)))
    (e8 : PX.exec T st8 [a0, .ow (.lst R), a2, a3, .ow (.lst X), .un, .ow (.lst Y), .fz F, .un, .un] = .ok (.nx [a0, .ow (.lst R), a2, a3, .ow (.lst X), .un, .ow (.lst Y), .fz G, .un, .un]))
    (lZ : D.lfs Z = true) (e9 : evE T [a0, .ow (.lst R), a2, a3, .fz (.lst X), .un, .ow (.lst Y), .fz G, .un, .un] el = .ok (.fr (.lst Z)))
    (t1 : T.call "_law_primitive_told" [.lst X, G] = .ok (.fz (.bl true))) (t2 : T.call "_law_primitive_told" [.lst Y, G] = .ok (.fz (.bl true))) (t3 : T.call "_law_primitive_told" [.lst Z, G] = .ok (.fz (.bl true))) :
    (PX.execs T [.iff (.or (.nt (.call "_law_sums" [.var 4, .var 6, .var 7])) (.nt (.call "_law_sums" [.var 6, .var 4, .var 7]))) [.ret (.bl false) []] [] [4, 6, 7],
      .iff (.or (.nt (.call "_law_orders" [.var 4, .var 6, .ix (.var 1) (.int 5)])) (.nt (.call "_law_cells_ordered" [.sl (.var 1) (.int 6) (.non)]))) [.ret (.bl false) []] [] [1, 4, 6], st8,
      .asg (.nm 8) el [4], .iff (.or (.nt (.call "_law_primitive_told" [.var 4, .var 7])) (.nt (.call "_law_primitive_told" [.var 6, .var 7]))) [.ret (.bl false) []] [] [4, 6, 7], .ret (.call "_law_primitive_told" [.var 8, .var 7]) [7, 8]]
      [a0, .ow (.lst R), a2, a3, .ow (.lst X), .un, .ow (.lst Y), .fz F, .un, .un]).out = .ok (.fz (.bl true)) := by
  have e6 : PX.exec T (.iff (.or (.nt (.call "_law_sums" [.var 4, .var 6, .var 7])) (.nt (.call "_law_sums" [.var 6, .var 4, .var 7]))) [.ret (.bl false) []] [] [4, 6, 7]) [a0, .ow (.lst R), a2, a3, .ow (.lst X), .un, .ow (.lst Y), .fz F, .un, .un] = .ok (.nx [a0, .ow (.lst R), a2, a3, .ow (.lst X), .un, .ow (.lst Y), .fz F, .un, .un]) := by simp [evDef, startS, PX.execs, PX.exec, evX, evXB, evXL, frzS, anyOw, evE, evL, evJ, evT, bindE, bindT, bindTp, opCmp, opI2, storeIx, E.non?, slB, s1, s2]
  have e7 : PX.exec T (.iff (.or (.nt (.call "_law_orders" [.var 4, .var 6, .ix (.var 1) (.int 5)])) (.nt (.call "_law_cells_ordered" [.sl (.var 1) (.int 6) (.non)]))) [.ret (.bl false) []] [] [1, 4, 6]) [a0, .ow (.lst R), a2, a3, .ow (.lst X), .un, .ow (.lst Y), .fz F, .un, .un] = .ok (.nx [a0, .ow (.lst R), a2, a3, .ow (.lst X), .un, .ow (.lst Y), .fz F, .un, .un]) := by simp [evDef, startS, PX.execs, PX.exec, evX, evXB, evXL, frzS, anyOw, evE, evL, evJ, evT, bindE, bindT, bindTp, opCmp, opI2, storeIx, E.non?, slB, i5, os, o1, o2, slB]
  have e9' : PX.exec T (.asg (.nm 8) el [4]) [a0, .ow (.lst R), a2, a3, .ow (.lst X), .un, .ow (.lst Y), .fz G, .un, .un] = .ok (.nx [a0, .ow (.lst R), a2, a3, .ow (.lst X), .un, .ow (.lst Y), .fz G, .ow (.lst Z), .un]) := by simp [evDef, startS, PX.execs, PX.exec, evX, evXB, evXL, frzS, anyOw, evE, evL, evJ, evT, bindE, bindT, bindTp, opCmp, opI2, storeIx, E.non?, slB, e9, EV.lf, lZ]
  have e10 : PX.exec T (.iff (.or (.nt (.call "_law_primitive_told" [.var 4, .var 7])) (.nt (.call "_law_primitive_told" [.var 6, .var 7]))) [.ret (.bl false) []] [] [4, 6, 7]) [a0, .ow (.lst R), a2, a3, .ow (.lst X), .un, .ow (.lst Y), .fz G, .ow (.lst Z), .un] = .ok (.nx [a0, .ow (.lst R), a2, a3, .ow (.lst X), .un, .ow (.lst Y), .fz G, .ow (.lst Z), .un]) := by simp [evDef, startS, PX.execs, PX.exec, evX, evXB, evXL, frzS, anyOw, evE, evL, evJ, evT, bindE, bindT, bindTp, opCmp, opI2, storeIx, E.non?, slB, t1, t2]
  have e11 : PX.exec T (.ret (.call "_law_primitive_told" [.var 8, .var 7]) [7, 8]) [a0, .ow (.lst R), a2, a3, .ow (.lst X), .un, .ow (.lst Y), .fz G, .ow (.lst Z), .un] = .ok (.rt (.fz (.bl true))) := by simp [evDef, startS, PX.execs, PX.exec, evX, evXB, evXL, frzS, anyOw, evE, evL, evJ, evT, bindE, bindT, bindTp, opCmp, opI2, storeIx, E.non?, slB, t3, EV.lf, D.lf]
  rw [PX.execs_cons, e6, RS.then_nx, PX.execs_cons, e7, RS.then_nx, PX.execs_cons, e8, RS.then_nx, PX.execs_cons, e9', RS.then_nx, PX.execs_cons, e10, RS.then_nx, PX.execs_cons, e11]
  rfl
end
end K03

set_option Elab.async false
set_option linter.all false
set_option maxRecDepth 100000
set_option maxHeartbeats 1000000
/-! K03O: the law is true. -/
namespace K03
open PySem PySem.Spec PyProof.Rows L2 PX
theorem drawn_list (T : Tb) (hT : ∀ r lg, ∃ x, T.call "_law_drawn" [.int r, .bl lg] = .ok (.fz (enc x)) ∧ PX.Fr 60 (2 ^ 50) x) (lg : Bool) : ∀ rs : List Int, ∃ xs : List Rat, xs.length = rs.length ∧ (∀ x, x ∈ xs → PX.Fr 60 (2 ^ 50) x) ∧ ∃ g : Int → Rat, xs = rs.map g ∧ ∀ r, T.call "_law_drawn" [.int r, .bl lg] = .ok (.fz (enc (g r))) := fun rs => by
  let g : Int → Rat := fun r => Classical.choose (hT r lg)
  have hg := fun r => Classical.choose_spec (hT r lg)
  refine ⟨rs.map g, List.length_map _, fun x hx => ?_, g, rfl, fun r => (hg r).1⟩
  obtain ⟨r, _, rfl⟩ := List.mem_map.mp hx
  exact (hg r).2
theorem first_ev {T : Tb} {ns : List Int} {R : List D} {row : List Int} {c : Nat} {lg : Bool} {g : Int → Rat} (n1 : T.call "_law_numbers" [.scr ns, .int 1, .int 12] = .ok (.fr (.lst (row.map D.int)))) (hr : row.length = 12) (hg : ∀ r, T.call "_law_drawn" [.int r, .bl lg] = .ok (.fz (enc (g r)))) :
    evE T [.fz (.scr ns), .ow (.lst R), .fz (.int (c : Int)), .fz (.bl lg), .un, .un, .un, .un, .un, .un] (.lc [5] (.nm 5) .val [.sl (.call "_law_numbers" [.var 0, .int 1, .int 12]) (.non) (.var 2)] [] K03.law_e1) = .ok (.fr (.lst (((row.take c).map g).map enc))) := by
  have sb := sizeBig
  have os := opSl_toI row c
  have e := ev_lc_val (T := T) (ρ := [.fz (.scr ns), .ow (.lst R), .fz (.int (c : Int)), .fz (.bl lg), .un, .un, .un, .un, .un, .un]) (own := [5]) (i := 5) (a := .sl (.call "_law_numbers" [.var 0, .int 1, .int 12]) (.non) (.var 2)) (el := K03.law_e1) (ea := D.int) (eb := fun r => enc (g r)) (xs := row.take c) (v := .fr (.lst ((row.take c).map D.int))) (by
    generalize (row.take c).map D.int = Z at os ⊢
    generalize row.map D.int = X at os n1
    simp [evE, evL, E.non?, slB, n1, os]) rfl (by rw [List.length_take]; omega) (fun r _ => by
    refine ⟨.fz (enc (g r)), ?_, rfl⟩
    show evE T [.fz (.scr ns), .ow (.lst R), .fz (.int (c : Int)), .fz (.bl lg), .un, .fz (.int r), .un, .un, .un, .un] _ = _
    have := hg r
    simp [evE, evL, K03.law_e1, this])
  rw [e, List.map_map]
  rfl
theorem zeros_ev {T : Tb} {xs : List Rat} (a0 a1 a2 a3 a6 a7 : Sl) (hl : xs.length ≤ 12) : evE T [a0, a1, a2, a3, .fz (.lst (xs.map enc)), .un, a6, a7, .un, .un] (.lc [9] (.nm 9) .val [.var 4] [] K03.law_e2) = .ok (.fr (.lst ((xs.map fun _ => (0 : Rat)).map enc))) := by
  have sb := sizeBig
  have e := ev_lc_val (T := T) (ρ := [a0, a1, a2, a3, .fz (.lst (xs.map enc)), .un, a6, a7, .un, .un]) (own := [9]) (i := 9) (a := .var 4) (el := K03.law_e2) (ea := enc) (eb := fun _ => enc 0) (xs := xs) (v := .fz (.lst (xs.map enc))) (by
    generalize xs.map enc = X
    simp [evE]) rfl (by omega) (fun r _ => by
    refine ⟨.fz (enc 0), ?_, rfl⟩
    rw [enc0]
    simp [evE, K03.law_e2])
  rw [e, List.map_map]
  rfl
theorem st8_ev {T : Tb} {f : Rat} {a0 a1 a2 a3 a4 a6 : Sl} : ∃ g : Rat, (g = f ∧ f ≠ 0 ∨ g = Rat.divInt (-5) 2) ∧ PX.exec T (.iff (.cmp .Eq (.var 7) (.int 0)) [.asg (.nm 7) (.tup [.neg (.int 5), .int 2]) []] [] [7]) [a0, a1, a2, a3, a4, .un, a6, .fz (enc f), .un, .un] = .ok (.nx [a0, a1, a2, a3, a4, .un, a6, .fz (enc g), .un, .un]) := by
  have q := eq0 f
  have sb := sizeBig
  have l2 : 2 ≤ sizeLine := by omega
  by_cases h : f = 0
  · refine ⟨Rat.divInt (-5) 2, .inr rfl, ?_⟩
    have eg : enc (Rat.divInt (-5) 2) = .tup [.int (-5), .int 2] := by kernel_rfl
    rw [eg]
    rw [decide_eq_true h] at q
    generalize enc f = F at *
    simp [evDef, startS, PX.execs, PX.exec, evX, evXB, evXL, frzS, anyOw, evE, evL, evJ, evT, bindE, bindT, bindTp, opCmp, opI2, storeIx, E.non?, slB, opCmp, q, l2]
  · refine ⟨f, .inl ⟨rfl, h⟩, ?_⟩
    rw [decide_eq_false h] at q
    generalize enc f = F at *
    simp [evDef, startS, PX.execs, PX.exec, evX, evXB, evXL, frzS, anyOw, evE, evL, evJ, evT, bindE, bindT, bindTp, opCmp, opI2, storeIx, E.non?, slB, opCmp, q]
theorem fac_ok {a b : Int} (ha : a.natAbs ≤ 9) (h0 : 0 < b) (hb : b ≤ 4) : PX.Fr 12 (2 ^ 7) (Rat.divInt a b) := Fr.divInt (by omega) (bot12 h0 hb) (by omega)
theorem law_true (ns : List Int) (hb : ∀ k, k ∈ ns → Builtin.Int.intBits k ≤ 1048576) : prg.val d_law 13 [.scr ns] = .ok (.fz (.bl true)) := by
  obtain ⟨c0, hc0⟩ := sp_cell (m := 10) hb (k := 0) (by decide)
  obtain ⟨c1, hc1⟩ := sp_cell (m := 10) hb (k := 1) (by decide)
  obtain ⟨c2, hc2⟩ := sp_cell (m := 10) hb (k := 2) (by decide)
  obtain ⟨R, n0, lR, rR⟩ := sp_numbers (p := prg) (m := 10) (n := 16) (by decide) hc0
  obtain ⟨R1, n1, lR1, rR1⟩ := sp_numbers (p := prg) (m := 10) (n := 12) (by decide) hc1
  obtain ⟨R2, n2, lR2, rR2⟩ := sp_numbers (p := prg) (m := 10) (n := 15) (by decide) hc2
  have at_ : ∀ (k : Nat) (h : k < 16), atI (R.map D.int) (k : Int) = some (.int (R[k]'(by omega))) := fun k h => at_ints R k (by omega)
  obtain ⟨c, hc⟩ : ∃ c : Nat, (R[0]'(by omega)).fmod 13 = (c : Int) := ⟨_, (Int.toNat_of_nonneg (Int.fmod_nonneg_of_pos _ (show (0 : Int) < 13 by decide))).symm⟩
  have c13 : c ≤ 12 := by
    have : (R[0]'(by omega)).fmod 13 < 13 := Int.fmod_lt_of_pos _ (by decide)
    omega
  obtain ⟨lg, hlg⟩ : ∃ lg : Bool, decide ((R[1]'(by omega)).fmod 8 = 1) = lg := ⟨_, rfl⟩
  obtain ⟨xs, xl, hx, g, rfl, hg⟩ := drawn_list (prg.tb 12) (fun r lg => by
    obtain ⟨x, h1, h2⟩ := sp_drawn (m := 9) r lg
    exact ⟨x, tbc h1, h2⟩) lg (R1.take c)
  have xl' : ((R1.take c).map g).length ≤ 12 := by rw [xl, List.length_take]; omega
  have fe := first_ev (R := R.map D.int) (c := c) (tbc n1) lR1 hg
  generalize (R1.take c).map g = xs at *
  have hF : ∀ x, x ∈ xs → F2 x := fun x h => (fr60 (hx x h)).f2
  obtain ⟨ys, sc, yl, hY⟩ := sp_second (m := 8) hx lR2 xl' (kd := (R[2]'(by omega)).fmod 5) lg
  have m19 : 0 ≤ (R[3]'(by omega)).fmod 19 ∧ (R[3]'(by omega)).fmod 19 < 19 := ⟨Int.fmod_nonneg_of_pos _ (by decide), Int.fmod_lt_of_pos _ (by decide)⟩
  have m4 : 0 ≤ (R[4]'(by omega)).fmod 4 ∧ (R[4]'(by omega)).fmod 4 < 4 := ⟨Int.fmod_nonneg_of_pos _ (by decide), Int.fmod_lt_of_pos _ (by decide)⟩
  have p10 : (2 : Nat) ^ 10 = 1024 := by decide
  have mk := sp_make (p := prg) (m := 10) (a := (R[3]'(by omega)).fmod 19 - 9) (b := 1 + (R[4]'(by omega)).fmod 4) (k := 10) (by omega) (by omega) (by decide) (by omega)
  have fF := fac_ok (a := (R[3]'(by omega)).fmod 19 - 9) (b := 1 + (R[4]'(by omega)).fmod 4) (by omega) (by omega) (by omega)
  generalize Rat.divInt ((R[3]'(by omega)).fmod 19 - 9) (1 + (R[4]'(by omega)).fmod 4) = f at mk fF
  have eA := lawA (T := prg.tb 12) (el := .lc [5] (.nm 5) .val [.sl (.call "_law_numbers" [.var 0, .int 1, .int 12]) (.non) (.var 2)] [] K03.law_e1) (tbc n0) (tbc n2) (lfs_ints R) (lfs_encs xs) (lfs_encs ys) (lf_enc f) (at_ 0 (by decide)) (at_ 1 (by decide)) (at_ 2 (by decide)) (at_ 3 (by decide)) (at_ 4 (by decide)) hc hlg fe (tbc sc) (tbc mk)
  obtain ⟨f', hf', e8⟩ := st8_ev (T := prg.tb 12) (f := f) (a0 := .fz (.scr ns)) (a1 := .ow (.lst (R.map D.int))) (a2 := .fz (.int (c : Int))) (a3 := .fz (.bl lg)) (a4 := .ow (.lst (xs.map enc))) (a6 := .ow (.lst (ys.map enc)))
  have ff : PX.Fr 12 (2 ^ 7) f' ∧ f' ≠ 0 := by
    rcases hf' with ⟨rfl, h⟩ | rfl
    · exact ⟨fF, h⟩
    · exact ⟨Fr.divInt (by decide) (by decide) (by decide), by decide⟩
  have hbX : ∀ x, x ∈ xs → Bd 62 x := fun x h => (hF x h).bd
  have hbY : ∀ x, x ∈ ys → Bd 62 x := fun x h => (hY x h).bd
  have s1 := sp_sums (m := 6) hF hY fF yl.symm xl'
  have s2 := sp_sums (m := 6) hY hF fF yl (by omega)
  have o1 := sp_orders (m := 7) (by decide) hbX hbY yl.symm xl' (R[5]'(by omega)) (rR _ (List.getElem_mem _))
  have o2 := sp_cells_ordered (m := 7) (row := R.drop 6) (by rw [List.length_drop]; omega) (fun r h => rR r (List.mem_of_mem_drop h))
  have t1 := sp_told (m := 7) hF ff.1 ff.2 xl'
  have t2 := sp_told (m := 7) hY ff.1 ff.2 (by omega)
  have t3 := sp_told (m := 7) (xs := xs.map fun _ => (0 : Rat)) (fun x h => by
    obtain ⟨_, _, rfl⟩ := List.mem_map.mp h
    exact Fr.zero _ _) ff.1 ff.2 (by rw [List.length_map]; exact xl')
  have eB := lawB (T := prg.tb 12) (.fz (.scr ns)) (.fz (.int (c : Int))) (.fz (.bl lg)) (el := .lc [9] (.nm 9) .val [.var 4] [] K03.law_e2) (at_ 5 (by decide)) (opSl_fromI R 6) (tbc s1) (tbc s2) (tbc o1) (tbc o2) e8 (lfs_encs _) (zeros_ev _ _ _ _ _ _ xl') (tbc t1) (tbc t2) (tbc t3)
  have v : prg.val d_law 13 [.scr ns] = evDef (prg.tb 12) 10 1 K03.b_law [.scr ns] := rfl
  rw [v, evDef_out (show [D.scr ns].length = 1 from rfl)]
  have sp : K03.b_law = K03.b_law.take 6 ++ K03.b_law.drop 6 := rfl
  show (PX.execs (prg.tb 12) K03.b_law [.fz (.scr ns), .un, .un, .un, .un, .un, .un, .un, .un, .un]).out = _
  have eA' : PX.execs (prg.tb 12) (K03.b_law.take 6) [.fz (.scr ns), .un, .un, .un, .un, .un, .un, .un, .un, .un] = _ := eA
  rw [sp, execs_app, eA', RS.then_nx]
  exact eB
end K03

theorem PySem.Challenge.cw_fineststep_k03_rows_and_lists_holds : PySem.Challenge.rw_fineststep_k03_rows_and_lists.Holds := by
  exact K03.holds fun ns _ hb => K03.law_true ns hb
