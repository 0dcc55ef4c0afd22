import PyProof.Rows.All
import Wide.All
import OpenK.AllK
import Wide.FinOn
import HandS.Base
import HandS.List
import HandS.Call
import HandS.Comp
import HandS.TupAny
import HandS.TupMul
import HandS.IsInst
import HandS.Wide
import HandS.WideBits
import HandS.Sort
import KE.SortData
import KE.KSortedM
import PyProof.ReprRoads
import PyProof.CallFns
import HandS.Exc
import HandS.ExcOwn
import HandS.Defaults
import HandS.Ends
import HandS.Flow
import PyProof.EnumMake
import PyProof.Draws
import KE.GoesEnum
import KE.GoesMore
import HandS.Iter
import HandS.Zip
import HandS.More
import HandS.Style
import HandS.Codes
import HandS.HeadHook1
import HandS.HeadHook2
import KE.KStateDown
import HandS.Words
import HandS.WordsExc
import HandS.Head0
import HandS.Head1
import HandS.Head2
import HandS.HeadEnd
import HandS.HeadHook3
import HandS.HeadHook4
import HandS.HeadWalk
import HandS.EndTab
import HandS.EndBits
import PyProof.ReprLen
import PySem.Challenge.RW_cornerbids_k38_whole_rests_by_own_asks
set_option Elab.async false
set_option linter.all false
set_option maxRecDepth 100000
section
/-! PyIR: values as trees, a small language, its evaluator (plain functions). -/
namespace Py
open PySem (Str PyData)
open L2 (ixN atI)

/-- a value as a tree -/
inductive EV where
  | non | bl (b : Bool) | int (i : Int) | str (s : Str)
  | tup (l : List EV) | lst (l : List EV)
  /-- a dict: its keys, its values, in order -/
  | dic (ks vs : List EV)
  /-- the script -/
  | scr (l : List Int)
  /-- an instance that never changes: its class, its fields in order -/
  | ins (c : Nat) (vs : List EV)
  /-- a thing of the store -/
  | ref (i : Nat)
  | fn (f : Nat)
  deriving Inhabited

/-- what stands in the store: things that change -/
inductive SO where
  | lst (l : List EV)
  | ins (c : Nat) (fs : List (Nat × EV))
abbrev Store := List SO
/-- an exception: its class, its fields -/
structure Ex where
  cls : Nat
  fs : List EV
inductive Res (α : Type) where
  | ok (a : α) (s : Store)
  | ex (e : Ex) (s : Store)
  | bad
abbrev M (α : Type) := Store → Res α
def ret {α : Type} (a : α) : M α := fun s => .ok a s
def bnd {α β : Type} (m : M α) (f : α → M β) : M β := fun s => match m s with
  | .ok a s' => f a s'
  | .ex e s' => .ex e s'
  | .bad => .bad
def bad {α : Type} : M α := fun _ => .bad
def ofO {α : Type} : Option α → M α
  | some a => ret a
  | none => bad
theorem ret_bnd {α β : Type} (a : α) (f : α → M β) : bnd (ret a) f = f a := rfl
theorem bad_bnd {α β : Type} (f : α → M β) : bnd (bad : M α) f = bad := rfl
theorem bnd_bnd {α β γ : Type} (m : M α) (f : α → M β) (g : β → M γ) : bnd (bnd m f) g = bnd m fun a => bnd (f a) g := by
  funext s
  unfold bnd
  cases m s <;> rfl
theorem bnd_ret {α : Type} (m : M α) : bnd m ret = m := by
  funext s
  unfold bnd
  cases m s <;> rfl
theorem bnd_ok {α β : Type} {m : M α} {f : α → M β} {s s'' : Store} {b : β} (h : bnd m f s = .ok b s'') : ∃ a s', m s = .ok a s' ∧ f a s' = .ok b s'' := by
  unfold bnd at h
  cases e : m s with
  | ok a s' => rw [e] at h; exact ⟨a, s', rfl, h⟩
  | ex x s' => rw [e] at h; cases h
  | bad => rw [e] at h; cases h
theorem ofO_some {α : Type} (a : α) : ofO (some a) = ret a := rfl
theorem ofO_none {α : Type} : ofO (none : Option α) = bad := rfl

/-! ### values -/
mutual
/-- no list, dict or instance in it -/
def flat : EV → Bool
  | .non | .bl _ | .int _ | .str _ | .ref _ | .fn _ => true
  | .tup l => flatL l
  | .lst _ | .dic _ _ | .scr _ | .ins _ _ => false
def flatL : List EV → Bool
  | [] => true
  | v :: r => flat v && flatL r
end
mutual
/-- as data -/
def toD : EV → Option PyData
  | .non => some .none
  | .bl b => some (.bool b)
  | .int i => some (.int i)
  | .str s => some (.str s)
  | .tup l => match toDs l with
    | some ds => some (.tuple ds)
    | none => none
  | .lst l => match toDs l with
    | some ds => some (.list ds)
    | none => none
  | .dic _ _ | .scr _ | .ins _ _ | .ref _ | .fn _ => none
def toDs : List EV → Option (List PyData)
  | [] => some []
  | v :: r => match toD v with
    | some d => (match toDs r with
      | some ds => some (d :: ds)
      | none => none)
    | none => none
end
/-- == of data -/
def pyEqD (a b : EV) : Option Bool := match toD a with
  | some x => (match toD b with
    | some y => if (PySem.SeqAt.shaped x && PySem.SeqAt.shaped y) = true then some (PyData.eqv x y) else none
    | none => none)
  | none => none
def pyEq (a b : EV) : Option Bool := match a, b with
  | .str s, .str t => some (decide (s = t))
  | a, b => pyEqD a b
def truthy : EV → Option Bool
  | .bl b => some b
  | .int i => some (i != 0)
  | .non => some false
  | .tup l => some (!l.isEmpty)
  | .lst l => some (!l.isEmpty)
  | _ => none

/-- the least size of lists that the model refuses -/
abbrev szl : Nat := 16777216
/-- the part lo, hi of a sequence -/
def cut {α : Type} (l : List α) (lo hi : Option Int) : List α := (l.drop (HT.sIx l.length 0 lo)).take (HT.sIx l.length l.length hi - HT.sIx l.length 0 lo)

inductive Op where
  | add | sub | mul | fdiv | mod | pow | band | shl | shr
  deriving DecidableEq
inductive Cmp where
  | eq | ne | lt | le | gt | ge | is | isnot | inn | notin
  deriving DecidableEq
/-- ints that every operation takes -/
def sm (i : Int) : Prop := i.natAbs.log2 < 67108863
instance (i : Int) : Decidable (sm i) := by unfold sm; exact inferInstance

def binI : Op → Int → Int → Option Int
  | .add, i, j => some (i + j)
  | .sub, i, j => some (i - j)
  | .mul, i, j => if (sm i ∧ sm j) ∨ i.natAbs ≤ 4294967296 ∨ j.natAbs ≤ 4294967296 then some (i * j) else none
  | .fdiv, i, j => if j ≠ 0 then some (i.fdiv j) else none
  | .mod, i, j => if j ≠ 0 then some (i.fmod j) else none
  | .pow, i, j => if 0 ≤ j ∧ j ≤ 1000000 ∧ i.natAbs < 2 ^ 64 then some (i ^ j.toNat) else none
  | .shl, i, j => if 0 ≤ j ∧ j ≤ 1000000 ∧ i.natAbs < 2 ^ 64 then some (i * 2 ^ j.toNat) else none
  | .shr, i, j => if 0 ≤ j then some (i / 2 ^ j.toNat) else none
  | .band, i, j => some (PySem.Builtin.bitAnd i j)
def binop : Op → EV → EV → Option EV
  | op, .int i, .int j => (binI op i j).map EV.int
  | .add, .tup a, .tup b => if a.length + b.length ≤ szl then some (.tup (a ++ b)) else none
  | .add, .lst a, .lst b => if a.length + b.length ≤ szl then some (.lst (a ++ b)) else none
  | .add, .str a, .str b => if a.length + b.length ≤ szl then some (.str (a ++ b)) else none
  | .mul, .tup a, .int k => if a ≠ [] ∧ 2 ≤ k ∧ k ≤ 1000 ∧ a.length ≤ 1000 then some (.tup (List.replicate k.toNat a).flatten) else none
  | _, _, _ => none
def isNon : EV → Bool
  | .non => true
  | _ => false
def cmpop : Cmp → EV → EV → Option Bool
  | .eq, a, b => pyEq a b
  | .ne, a, b => (pyEq a b).map (!·)
  | .lt, .int i, .int j => some (decide (i < j))
  | .le, .int i, .int j => some (decide (i ≤ j))
  | .gt, .int i, .int j => some (decide (j < i))
  | .ge, .int i, .int j => some (decide (j ≤ i))
  | .is, a, .non => some (isNon a)
  | .isnot, a, .non => some (!isNon a)
  | .inn, a, b => inC a b
  | .notin, a, b => (inC a b).map (!·)
  | _, _, _ => none
where
  /-- in, over scalars -/
  inC (a : EV) : EV → Option Bool
  | .tup l => if isSc a = true then pyIn a l else none
  | .lst l => if isSc a = true then pyIn a l else none
  | _ => none
  isSc : EV → Bool
  | .int _ => true
  | .str _ => true
  | _ => false
  pyIn (a : EV) : List EV → Option Bool
  | [] => some false
  | b :: r => match scEq b a with
    | some c => (pyIn a r).map (c || ·)
    | none => none
  scEq : EV → EV → Option Bool
  | .int i, .int j => some (decide (i = j))
  | .str i, .str j => some (decide (i = j))
  | _, _ => none
def item : EV → EV → Option EV
  | .tup l, .int i => atI l i
  | .lst l, .int i => atI l i
  | _, _ => none
def slice : EV → Option Int → Option Int → Option EV
  | .tup l, lo, hi => some (.tup (cut l lo hi))
  | .lst l, lo, hi => some (.lst (cut l lo hi))
  | .scr l, lo, hi => some (.lst ((cut l lo hi).map EV.int))
  | _, _, _ => none

inductive Ty where
  | int | bool | str | tuple | list | dict
  | cls (c : Nat)
  deriving DecidableEq
/-- isinstance -/
def isTy : EV → Ty → Option Bool
  | .non, t => (match t with | .cls _ => none | _ => some false)
  | .bl _, t => (match t with | .int => some true | .bool => some true | .cls _ => none | _ => some false)
  | .int _, t => (match t with | .int => some true | .cls _ => none | _ => some false)
  | .str _, t => (match t with | .str => some true | .cls _ => none | _ => some false)
  | .tup _, t => (match t with | .tuple => some true | .cls _ => none | _ => some false)
  | .lst _, t => (match t with | .list => some true | .cls _ => none | _ => some false)
  | .dic _ _, t => (match t with | .dict => some true | .cls _ => none | _ => some false)
  | _, _ => none
def intsOf : List EV → Option (List Int)
  | [] => some []
  | .int i :: r => (intsOf r).map (i :: ·)
  | _ :: _ => none
def boolsOf : List EV → Option (List Bool)
  | [] => some []
  | .bl i :: r => (boolsOf r).map (i :: ·)
  | _ :: _ => none
def intssOf : List EV → Option (List (List Int))
  | [] => some []
  | .tup l :: r => match intsOf l with
    | some ns => (intssOf r).map (ns :: ·)
    | none => none
  | _ :: _ => none
inductive Bi where
  | len | int | abs | tuple | list | sum | all | any | sorted | repr
  deriving DecidableEq
/-- as data that is shown -/
def reprD : EV → Option PyData
  | .dic [] [] => some (.dict [])
  | v => toD v
def bi : Bi → List EV → Option EV
  | .len, [.tup l] => some (.int l.length)
  | .len, [.lst l] => some (.int l.length)
  | .int, [.int i] => some (.int i)
  | .abs, [.int i] => some (.int (if i < 0 then -i else i))
  | .tuple, [.lst l] => some (.tup l)
  | .tuple, [.tup l] => some (.tup l)
  | .list, [.lst l] => some (.lst l)
  | .list, [.tup l] => some (.lst l)
  | .sum, [.lst l] => (intsOf l).map fun ns => .int ns.sum
  | .all, [.lst l] => (boolsOf l).map fun bs => .bl (bs.all id)
  | .any, [.lst l] => (boolsOf l).map fun bs => .bl (bs.any id)
  | .sorted, [.lst l] => (match intsOf l with
    | some ns => some (.lst ((ns.mergeSort fun a b => decide (a ≤ b)).map EV.int))
    | none => (match intssOf l with
      | some ns => if ns.length ≤ 1 ∨ ∀ n ∈ ns, n ≠ [] then some (.lst ((ns.mergeSort fun a b => !decide (b < a)).map fun n => EV.tup (n.map EV.int))) else none
      | none => none))
  | .repr, [v] => (match reprD v with
    | some d => if d.showable = true ∧ d.depth ≤ 60 ∧ d.shown.length ≤ 16777216 then some (.str d.shown) else none
    | none => none)
  | _, _ => none

/-! ### slots -/
inductive Slot where
  | un
  /-- a value that nobody changes -/
  | sh (v : EV)
  /-- a list (a dict) of this frame alone -/
  | ow (v : EV)
abbrev Env := List Slot
def getE (ρ : Env) (i : Nat) : Option EV := match ρ[i]? with
  | some (.sh v) => some v
  | _ => none
/-- .., of the frame's own lists too -/
def getB (ρ : Env) (i : Nat) : Option EV := match ρ[i]? with
  | some (.sh v) => some v
  | some (.ow v) => some v
  | _ => none
def frz1 : Slot → Slot
  | .ow v => .sh v
  | s => s
def frzK (ρ : Env) : List Nat → Env
  | [] => ρ
  | v :: vs => (frzK ρ vs).modify v frz1
def wipeE (ρ : Env) : List Nat → Env
  | [] => ρ
  | v :: vs => (wipeE ρ vs).set v .un

/-! ### the language -/
inductive Tgt where
  | nm (i : Nat)
  | tu (l : List Tgt)
mutual
inductive E where
  | bad
  | var (i : Nat)
  | lit (v : EV)
  | tup (es : List E) | lst (es : List E) | emp
  | bop (op : Op) (a b : E) | neg (a : E) | nt (a : Te)
  | cmp (op : Cmp) (a b : E) | chn (op op' : Cmp) (a b c : E)
  | and (es : List E) | or (es : List E)
  | ife (c : Te) (a b : E)
  | idx (a i : E) | sl (a : E) (lo hi : Eo)
  /-- the same of a slot, which may be a list of the frame's own -/
  | idxO (k : Nat) (i : E) | slO (k : Nat) (lo hi : Eo) | biO (b : Bi) (k : Nat)
  | call (f : Nat) (es : List E)
  | mk (c : Nat) (es : List E)
  | bi (b : Bi) (es : List E)
  | isi (a : E) (t : Ty)
  | att (a : E) (f : Nat)
  | comp (own : List Nat) (t : Tgt) (it : It) (ifs : List Te) (e : E)
  /-- a new list, laid in the store -/
  | sto (e : E)
/-- a bound of a slice -/
inductive Eo where
  | no
  | so (e : E)
/-- a test -/
inductive Te where
  | val (e : E)
  | nt (a : Te)
  | and (l : List Te)
  | or (l : List Te)
inductive It where
  | seq (e : E)
  | rng1 (a : E) | rng2 (a b : E)
  | enum (a : E)
  | zip (a b : E)
  /-- a slot, which may be a list of the frame's own (no for walks it) -/
  | own (k : Nat)
end
inductive Mu where
  | append | insert | extend | pop
  deriving DecidableEq
inductive S where
  | bad
  | asg (t : Tgt) (e : E)
  /-- x = a new list, x being one that the frame changes -/
  | own (i : Nat) (e : E)
  | par (is : List Nat) (es : List E)
  | aug (i : Nat) (op : Op) (e : E)
  | expr (e : E)
  | mut (m : Mu) (i : Nat) (es : List E)
  | setix (i : Nat) (ix e : E)
  | setat (i : Nat) (f : Nat) (e : E)
  | ifs (c : Te) (a b : List S)
  | fr (t : Tgt) (it : It) (b : List S)
  | whl (c : Te) (b : List S)
  | ret (e : E)
  | pass | brk | cnt
  /-- from here on nobody changes the lists of these slots -/
  | fz (ks : List Nat) (s : S)
inductive Fl where
  | nx | rt (v : EV) | bk | ct

mutual
def asgT : Tgt → EV → Env → Option Env
  | .nm i, v, ρ => if i < ρ.length then some (ρ.set i (.sh v)) else none
  | .tu ts, .tup vs, ρ => if ts.length = vs.length then asgTs ts vs ρ else none
  | .tu _, _, _ => none
def asgTs : List Tgt → List EV → Env → Option Env
  | [], [], ρ => some ρ
  | t :: ts, v :: vs, ρ => match asgT t v ρ with
    | some ρ' => asgTs ts vs ρ'
    | none => none
  | _, _, _ => none
end

/-- the tables of a program -/
structure Tab where
  /-- a class: its __init__, its fields in order, whether its instances never change behind it -/
  cls : Nat → Option (Nat × List Nat × Bool)

def enumFrom (k : Nat) : List EV → List EV
  | [] => []
  | v :: r => .tup [.int k, v] :: enumFrom (k + 1) r
def zipV : List EV → List EV → List EV
  | a :: l, b :: r => .tup [a, b] :: zipV l r
  | _, _ => []
def rangeV (lo : Int) : Nat → List EV
  | 0 => []
  | n + 1 => .int lo :: rangeV (lo + 1) n
def seqOf : EV → Option (List EV)
  | .lst l => some l
  | .tup l => some l
  | _ => none
def zipM : EV → EV → M (List EV)
  | .lst l, .lst r => ret (zipV l r)
  | .tup l, .tup r => ret (zipV l r)
  | _, _ => bad
/-- [f v for v in l] -/
def compL (f : EV → M (Option EV)) : List EV → M (List EV)
  | [] => ret []
  | v :: r => bnd (f v) fun o => bnd (compL f r) fun l => ret (match o with
    | some x => x :: l
    | none => l)
/-- no exception comes out -/
def noex {α : Type} (m : M α) : M α := fun s => match m s with
  | .ok a s' => .ok a s'
  | _ => .bad
def stoM : EV → M EV
  | .lst l => fun s => .ok (.ref s.length) (s ++ [.lst l])
  | _ => bad
def fldOf (fs : List (Nat × EV)) (f : Nat) : Option EV := fs.lookup f
def putF (f : Nat) (v : EV) : List (Nat × EV) → List (Nat × EV)
  | [] => [(f, v)]
  | (g, w) :: r => if g = f then (g, v) :: r else (g, w) :: putF f v r
def attOf (T : Tab) (f : Nat) : EV → M EV
  | .ins c vs => match T.cls c with
    | some (_, fl, _) => ofO ((fl.zip vs).lookup f)
    | none => bad
  | .ref i => fun s => match s[i]? with
    | some (.ins _ fs) => (match fs.lookup f with
      | some v => .ok v s
      | none => .bad)
    | _ => .bad
  | _ => bad
/-- an item, of the store's too -/
def itemM (a i : EV) : M EV := match a with
  | .ref k => fun s => match s[k]? with
    | some (.lst l) => (match i with
      | .int j => (match atI l j with
        | some v => .ok v s
        | none => .bad)
      | _ => .bad)
    | _ => .bad
  | a => ofO (item a i)
mutual
/-- the store's first n things alone -/
def refsLt (n : Nat) : EV → Bool
  | .ref i => decide (i < n)
  | .tup l => refsLtL n l
  | .lst l => refsLtL n l
  | .dic ks vs => refsLtL n ks && refsLtL n vs
  | .ins _ vs => refsLtL n vs
  | _ => true
def refsLtL (n : Nat) : List EV → Bool
  | [] => true
  | v :: r => refsLt n v && refsLtL n r
end
/-- C(..): the new instance is of the store while __init__ runs, a tree behind it -/
inductive MkOk (T : Tab) (c : Nat) (fl : List Nat) (s s' : Store) (vs : List EV) : Prop where
  | mk (fs : List (Nat × EV)) (h : s' = s ++ [.ins c fs]) (h1 : fs.map (·.1) = fl) (h2 : fs.map (·.2) = vs) (h3 : refsLtL s.length vs = true) : MkOk T c fl s s' vs
open Classical in
noncomputable def mkM (T : Tab) (C1 : Nat → List EV → M EV) (c : Nat) (vs : List EV) : M EV := fun s => match T.cls c with
  | some (f, fl, true) => (match C1 f (.ref s.length :: vs) (s ++ [.ins c []]) with
    | .ok .non s' => if h : ∃ ws, MkOk T c fl s s' ws then .ok (.ins c h.choose) s else .bad
    | _ => .bad)
  | _ => .bad
theorem mkM_ok {T : Tab} {C1 : Nat → List EV → M EV} {c f : Nat} {fl : List Nat} {vs ws : List EV} {fs : List (Nat × EV)} {s : Store} (h : T.cls c = some (f, fl, true)) (hc : C1 f (.ref s.length :: vs) (s ++ [.ins c []]) = .ok .non (s ++ [.ins c fs]))
    (h1 : fs.map (·.1) = fl) (h2 : fs.map (·.2) = ws) (h3 : refsLtL s.length ws = true) : mkM T C1 c vs s = .ok (.ins c ws) s := by
  have q : ∃ ws, MkOk T c fl s (s ++ [.ins c fs]) ws := ⟨ws, .mk fs rfl h1 h2 h3⟩
  have e : q.choose = ws := by
    obtain ⟨fs', e1, _, e2, _⟩ := q.choose_spec
    have e3 := List.append_cancel_left e1
    injection e3 with e3 _
    injection e3 with _ e3
    rw [← e2, ← e3, h2]
  unfold mkM
  simp only [h, hc]
  rw [dif_pos q, e]
theorem mkM_inv {T : Tab} {C1 : Nat → List EV → M EV} {c : Nat} {vs : List EV} {s s' : Store} {v : EV} (h : mkM T C1 c vs s = .ok v s') : ∃ f fl fs, T.cls c = some (f, fl, true) ∧ C1 f (.ref s.length :: vs) (s ++ [.ins c []]) = .ok .non (s ++ [.ins c fs]) ∧ fs.map (·.1) = fl ∧ v = .ins c (fs.map (·.2)) ∧ refsLtL s.length (fs.map (·.2)) = true ∧ s' = s := by
  unfold mkM at h
  split at h
  · rename_i f fl e
    split at h
    · rename_i s1 e1
      split at h
      · rename_i q
        obtain ⟨fs, h0, h1, h2, h3⟩ := q.choose_spec
        cases h
        subst h0
        exact ⟨f, fl, fs, e, e1, h1, by rw [h2], by rw [h2]; exact h3, rfl⟩
      · cases h
    · cases h
  · cases h
theorem mkM_ex {T : Tab} {C1 : Nat → List EV → M EV} {c : Nat} {vs : List EV} {s s' : Store} {x : Ex} (h : mkM T C1 c vs s = .ex x s') : False := by
  unfold mkM at h
  split at h
  · split at h
    · split at h <;> cases h
    · cases h
  · cases h

section
variable (T : Tab) (C C1 : Nat → List EV → M EV)
mutual
noncomputable def evE (ρ : Env) : E → M EV
  | .bad => bad
  | .var i => ofO (getE ρ i)
  | .lit v => ret v
  | .tup es => bnd (evEs ρ es) fun vs => ret (.tup vs)
  | .lst es => bnd (evEs ρ es) fun vs => ret (.lst vs)
  | .emp => ret (.dic [] [])
  | .bop op a b => bnd (evE ρ a) fun x => bnd (evE ρ b) fun y => ofO (binop op x y)
  | .neg a => bnd (evE ρ a) fun x => match x with
    | .int i => ret (.int (-i))
    | _ => bad
  | .nt a => bnd (evT ρ a) fun b => ret (.bl (!b))
  | .cmp op a b => bnd (evE ρ a) fun x => bnd (evE ρ b) fun y => bnd (ofO (cmpop op x y)) fun r => ret (.bl r)
  | .chn op op' a b c => bnd (evE ρ a) fun x => bnd (evE ρ b) fun y => bnd (ofO (cmpop op x y)) fun r =>
      if r = true then bnd (evE ρ c) fun z => bnd (ofO (cmpop op' y z)) fun r => ret (.bl r) else ret (.bl false)
  | .and es => evAnd ρ es
  | .or es => evOr ρ es
  | .ife c a b => bnd (evT ρ c) fun r => if r = true then evE ρ a else evE ρ b
  | .idx a i => bnd (evE ρ a) fun x => bnd (evE ρ i) fun y => itemM x y
  | .sl a lo hi => bnd (evE ρ a) fun x => bnd (evO ρ lo) fun l => bnd (evO ρ hi) fun h => ofO (slice x l h)
  | .idxO k i => bnd (ofO (getB ρ k)) fun x => bnd (evE ρ i) fun y => itemM x y
  | .slO k lo hi => bnd (ofO (getB ρ k)) fun x => bnd (evO ρ lo) fun l => bnd (evO ρ hi) fun h => ofO (slice x l h)
  | .biO b k => bnd (ofO (getB ρ k)) fun x => ofO (bi b [x])
  | .call f es => bnd (evEs ρ es) fun vs => C f vs
  | .mk c es => bnd (evEs ρ es) fun vs => mkM T C1 c vs
  | .bi b es => bnd (evEs ρ es) fun vs => ofO (bi b vs)
  | .isi a t => bnd (evE ρ a) fun x => bnd (ofO (isTy x t)) fun r => ret (.bl r)
  | .att a f => bnd (evE ρ a) fun x => attOf T f x
  | .comp own t it ifs e => bnd (evI ρ it) fun l => bnd (compL (fun v => noex (match asgT t v (wipeE ρ own) with
      | none => bad
      | some ρ' => bnd (evAll ρ' ifs) fun r => if r = true then bnd (evE ρ' e) fun x => ret (some x) else ret none)) l) fun l => if l.length < szl then ret (.lst l) else bad
  | .sto e => bnd (evE ρ e) fun v => stoM v
/-- a value as a test -/
noncomputable def evT (ρ : Env) : Te → M Bool
  | .val e => bnd (evE ρ e) fun x => ofO (truthy x)
  | .nt a => bnd (evT ρ a) fun b => ret (!b)
  | .and es => evAll ρ es
  | .or es => evAny ρ es
noncomputable def evO (ρ : Env) : Eo → M (Option Int)
  | .no => ret none
  | .so e => bnd (evE ρ e) fun x => match x with
    | .int i => ret (some i)
    | _ => bad
noncomputable def evEs (ρ : Env) : List E → M (List EV)
  | [] => ret []
  | e :: r => bnd (evE ρ e) fun v => bnd (evEs ρ r) fun vs => ret (v :: vs)
noncomputable def evAnd (ρ : Env) : List E → M EV
  | [] => bad
  | [e] => evE ρ e
  | e :: r => bnd (evE ρ e) fun x => match x with
    | .bl true => evAnd ρ r
    | .bl false => ret (.bl false)
    | _ => bad
noncomputable def evOr (ρ : Env) : List E → M EV
  | [] => bad
  | [e] => evE ρ e
  | e :: r => bnd (evE ρ e) fun x => match x with
    | .bl true => ret (.bl true)
    | .bl false => evOr ρ r
    | _ => bad
noncomputable def evAll (ρ : Env) : List Te → M Bool
  | [] => ret true
  | e :: r => bnd (evT ρ e) fun b => if b = true then evAll ρ r else ret false
noncomputable def evAny (ρ : Env) : List Te → M Bool
  | [] => ret false
  | e :: r => bnd (evT ρ e) fun b => if b = true then ret true else evAny ρ r
noncomputable def evI (ρ : Env) : It → M (List EV)
  | .seq e => bnd (evE ρ e) fun v => ofO (seqOf v)
  | .rng1 a => bnd (evE ρ a) fun v => match v with
    | .int j => if -(2 ^ 62) ≤ j ∧ j < 2 ^ 62 then ret (rangeV 0 j.toNat) else bad
    | _ => bad
  | .rng2 a b => bnd (evE ρ a) fun v => bnd (evE ρ b) fun w => match v, w with
    | .int i, .int j => if -(2 ^ 62) ≤ i ∧ i < 2 ^ 62 ∧ -(2 ^ 62) ≤ j ∧ j < 2 ^ 62 then ret (rangeV i (j - i).toNat) else bad
    | _, _ => bad
  | .enum a => bnd (evE ρ a) fun v => bnd (ofO (seqOf v)) fun l => ret (enumFrom 0 l)
  | .zip a b => bnd (evE ρ a) fun v => bnd (evE ρ b) fun w => zipM v w
  | .own k => bnd (ofO (getB ρ k)) fun v => ofO (seqOf v)
end

/-! ### statements -/
def itOwn : It → Bool
  | .own _ => true
  | _ => false
def loopW (f : Env → M (Sum Env (Fl × Env))) : Nat → Env → M (Fl × Env)
  | 0, _ => bad
  | n + 1, ρ => bnd (f ρ) fun r => match r with
    | .inl ρ' => loopW f n ρ'
    | .inr x => ret x
def forL (f : EV → Env → M (Fl × Env)) : List EV → Env → M (Fl × Env)
  | [], ρ => ret (.nx, ρ)
  | v :: r, ρ => bnd (f v ρ) fun x => match x.1 with
    | .nx => forL f r x.2
    | .ct => forL f r x.2
    | .bk => ret (.nx, x.2)
    | .rt w => ret (.rt w, x.2)
def muOp : Mu → EV → List EV → Option EV
  | .append, .lst l, [v] => if l.length < szl then some (.lst (l ++ [v])) else none
  | .insert, .lst l, [.int i, v] => if l.length < szl ∧ 0 ≤ i ∧ i < 2 ^ 62 then some (.lst (l.take i.toNat ++ [v] ++ l.drop i.toNat)) else none
  | .extend, .lst l, [.lst r] => if l.length + r.length ≤ szl then some (.lst (l ++ r)) else none
  | .pop, .lst l, [] => if l = [] then none else some (.lst l.dropLast)
  | _, _, _ => none
def isLstM (k : Nat) : M Unit := fun s => match s[k]? with
  | some (.lst _) => .ok () s
  | _ => .bad
def muSto (m : Mu) (k : Nat) (vs : List EV) : M Unit := fun s => match s[k]? with
  | some (.lst l) => (match muOp m (.lst l) vs with
    | some (.lst w) => .ok () (s.set k (.lst w))
    | _ => .bad)
  | _ => .bad
/-- name[i] = v -/
def setIx (ρ : Env) (i : Nat) (ix v : EV) : M Env := match ρ[i]? with
  | some (.ow (.lst l)) => (match ix with
    | .int j => (match ixN l.length j with
      | some k => ret (ρ.set i (.ow (.lst (l.set k v))))
      | none => bad)
    | _ => bad)
  | some (.sh (.ref k)) => fun s => (match s[k]? with
    | some (.lst l) => (match ix with
      | .int j => (match ixN l.length j with
        | some n => .ok ρ (s.set k (.lst (l.set n v)))
        | none => .bad)
      | _ => .bad)
    | _ => .bad)
  | _ => bad
/-- name.f = v -/
def setAt (ρ : Env) (i f : Nat) (v : EV) : M Env := match getE ρ i with
  | some (.ref k) => fun s => (match s[k]? with
    | some (.ins c fs) => if fs.length < 900 then .ok ρ (s.set k (.ins c (putF f v fs))) else .bad
    | _ => .bad)
  | _ => bad
mutual
noncomputable def evS (W : Nat) (ρ : Env) : S → M (Fl × Env)
  | .bad => bad
  | .asg t e => bnd (evE T C C1 ρ e) fun v => bnd (ofO (asgT t v ρ)) fun ρ' => ret (.nx, ρ')
  | .own i e => bnd (evE T C C1 ρ e) fun v => match v with
    | .lst l => if i < ρ.length then ret (.nx, ρ.set i (.ow (.lst l))) else bad
    | _ => bad
  | .par is es => bnd (evEs T C C1 ρ es) fun vs => bnd (ofO (asgTs (is.map Tgt.nm) vs ρ)) fun ρ' => ret (.nx, ρ')
  | .aug i op e => bnd (ofO (getE ρ i)) fun x => bnd (evE T C C1 ρ e) fun y => bnd (ofO (match x, y with
    | .int a, .int b => (binI op a b).map EV.int
    | _, _ => none)) fun z => ret (.nx, ρ.set i (.sh z))
  | .expr e => bnd (evE T C C1 ρ e) fun _ => ret (.nx, ρ)
  | .mut m i es => match ρ[i]? with
    | some (.ow v) => bnd (evEs T C C1 ρ es) fun vs => bnd (ofO (muOp m v vs)) fun w => ret (.nx, ρ.set i (.ow w))
    | some (.sh (.ref k)) => bnd (isLstM k) fun _ => bnd (evEs T C C1 ρ es) fun vs => bnd (muSto m k vs) fun _ => ret (.nx, ρ)
    | _ => bad
  | .setix i ix e => bnd (evE T C C1 ρ e) fun v => bnd (ofO (getB ρ i)) fun _ => bnd (evE T C C1 ρ ix) fun k => bnd (setIx ρ i k v) fun ρ' => ret (.nx, ρ')
  | .setat i f e => bnd (evE T C C1 ρ e) fun v => bnd (setAt ρ i f v) fun ρ' => ret (.nx, ρ')
  | .ifs c a b => bnd (evT T C C1 ρ c) fun r => if r = true then evSs W ρ a else evSs W ρ b
  | .fr t it b => if itOwn it = true then bad else bnd (evI T C C1 ρ it) fun l => forL (fun v ρ => match asgT t v ρ with
    | some ρ' => evSs W ρ' b
    | none => bad) l ρ
  | .whl c b => loopW (fun ρ => bnd (evT T C C1 ρ c) fun r => if r = true then bnd (evSs W ρ b) fun y => ret (match y.1 with
    | .nx => .inl y.2
    | .ct => .inl y.2
    | .bk => .inr (.nx, y.2)
    | .rt v => .inr (.rt v, y.2)) else ret (.inr (.nx, ρ))) W ρ
  | .ret e => bnd (evE T C C1 ρ e) fun v => ret (.rt v, ρ)
  | .pass => ret (.nx, ρ)
  | .brk => ret (.bk, ρ)
  | .cnt => ret (.ct, ρ)
  | .fz ks s => evS W (frzK ρ ks) s
noncomputable def evSs (W : Nat) (ρ : Env) : List S → M (Fl × Env)
  | [] => ret (.nx, ρ)
  | s :: r => bnd (evS W ρ s) fun x => match x.1 with
    | .nx => evSs W x.2 r
    | _ => ret x
end
end

/-! ### defs -/
structure Fun where
  /-- its parameters, its names -/
  ar : Nat
  n : Nat
  body : List S
structure Prog where
  tab : Tab
  fn : Nat → Option Fun
  /-- bound of a while's turns -/
  W : Nat
noncomputable def stepD (P : Prog) (C C1 : Nat → List EV → M EV) (f : Nat) (vs : List EV) : M EV := match P.fn f with
  | none => bad
  | some F => if vs.length = F.ar then bnd (evSs P.tab C C1 P.W (vs.map Slot.sh ++ List.replicate (F.n - F.ar) Slot.un) F.body) fun x => match x.1 with
    | .rt v => ret v
    | .nx => ret .non
    | _ => bad else bad
noncomputable def callP (P : Prog) : Nat → (Nat → List EV → M EV) × (Nat → List EV → M EV)
  | 0 => (fun _ _ => bad, fun _ _ => bad)
  | d + 1 => (stepD P (callP P d).1 (callP P d).2, (callP P d).1)
/-- a call, d calls deep at most -/
noncomputable def callD (P : Prog) (d : Nat) : Nat → List EV → M EV := (callP P d).1
theorem callD_zero (P : Prog) (f : Nat) (vs : List EV) : callD P 0 f vs = bad := rfl
theorem callD_succ (P : Prog) (d f : Nat) (vs : List EV) : callD P (d + 1) f vs = stepD P (callD P d) (callD P (d - 1)) f vs := by
  cases d <;> rfl
end Py
end
section
/-! PyRel: how trees stand in the abstract heap. -/
namespace Py
open PySem PySem.Spec PyProof.Rows L2

/-- what of the written part the trees lean on -/
structure Wd where
  K : PySem.W.Frag
  /-- a class's address, a field's name -/
  cls : Nat → Addr
  fld : Nat → Str
  finj : ∀ i j, fld i = fld j → i = j
  tab : Tab

abbrev Ad := Addr → Prop
/-- the script: locked, or of the written part -/
def ScrOk (K : PySem.W.Frag) (H : Hp) (a : Addr) (xs : List V) : Prop := (∃ o, H a = some (.frz o (.lst xs))) ∨ SqL K (fun _ => none) a xs
theorem ScrOk.seq {K : PySem.W.Frag} {H : Hp} {a : Addr} {xs : List V} (h : ScrOk K H a xs) : SqL K H a xs := by
  rcases h with ⟨o, h⟩ | h
  · exact .inl (.inr ⟨o, h⟩)
  · rcases h with (h | ⟨o, h⟩) | h
    · exact nomatch h
    · exact nomatch h
    · exact .inr h
mutual
def RelE (G : Wd) (H : Hp) (S : Ad) (R : List Addr) : EV → V → Prop
  | .non, x => x = .non
  | .bl b, x => x = .bl b
  | .int i, x => x = .int i
  | .str s, x => x = .str s
  | .tup l, x => ∃ a xs, x = .ref a ∧ SqT G.K H a xs ∧ RelL G H S R l xs
  | .lst l, x => ∃ a xs, x = .ref a ∧ S a ∧ H a = some (.lst xs) ∧ RelL G H S R l xs
  | .dic ks vs, x => ks = [] ∧ vs = [] ∧ ∃ a, x = .ref a ∧ S a ∧ H a = some (.dK [])
  | .scr l, x => ∃ a, x = .ref a ∧ ScrOk G.K H a (l.map V.int)
  | .ins c vs, x => ∃ a dx xs, x = .ref a ∧ S a ∧ (∃ f fl, G.tab.cls c = some (f, fl, true) ∧ H a = some (.ins (G.cls c) dx ((fl.map G.fld).zip xs)) ∧ fl.length = xs.length) ∧ RelL G H S R vs xs
  | .ref i, x => ∃ a, x = .ref a ∧ R[i]? = some a
  | .fn _, _ => False
def RelL (G : Wd) (H : Hp) (S : Ad) (R : List Addr) : List EV → List V → Prop
  | [], xs => xs = []
  | v :: r, xs => ∃ x ys, xs = x :: ys ∧ RelE G H S R v x ∧ RelL G H S R r ys
end

/-- a thing of the store -/
def SoOk (G : Wd) (H : Hp) (S : Ad) (R : List Addr) (a : Addr) : SO → Prop
  | .lst l => ∃ xs, H a = some (.lst xs) ∧ RelL G H S R l xs
  | .ins c fs => ∃ dx xs, H a = some (.ins (G.cls c) dx (((fs.map (·.1)).map G.fld).zip xs)) ∧ fs.length = xs.length ∧ (∃ t, G.tab.cls c = some t) ∧ RelL G H S R (fs.map (·.2)) xs
structure StOk (G : Wd) (H : Hp) (S : Ad) (R : List Addr) (st : Store) : Prop where
  len : R.length = st.length
  nd : R.Nodup
  dis : ∀ a ∈ R, ¬ S a
  trk : ∀ a, S a → H a ≠ none
  so : ∀ (i : Nat) (a : Addr) (o : SO), R[i]? = some a → st[i]? = some o → SoOk G H S R a o
/-- what stands at a place of the store is a list or an instance -/
def isSo : HO → Prop
  | .lst _ => True
  | .ins _ _ _ => True
  | _ => False
theorem StOk.isSo {G : Wd} {H : Hp} {S : Ad} {R : List Addr} {st : Store} (h : StOk G H S R st) {a : Addr} (ha : a ∈ R) : ∃ o, H a = some o ∧ isSo o := by
  obtain ⟨i, hi, e⟩ := List.getElem_of_mem ha
  have e1 : R[i]? = some a := by rw [List.getElem?_eq_getElem hi, e]
  have hi2 : i < st.length := by rw [← h.len]; exact hi
  have q := h.so i a st[i] e1 (List.getElem?_eq_getElem hi2)
  cases e2 : st[i] with
  | lst l =>
    rw [e2] at q
    obtain ⟨xs, q, _⟩ := q
    exact ⟨_, q, trivial⟩
  | ins c fs =>
    rw [e2] at q
    obtain ⟨dx, xs, q, _⟩ := q
    exact ⟨_, q, trivial⟩

/-- the heap grows; what is not of the store stays -/
structure Ext (R : List Addr) (S : Ad) (H : Hp) (S' : Ad) (H' : Hp) : Prop where
  keep : ∀ a o, H a = some o → a ∉ R → H' a = some o
  stay : ∀ a, H a ≠ none → H' a ≠ none
  sub : ∀ a, S a → S' a
  new : ∀ a, S' a → S a ∨ (H a = none ∧ H' a ≠ none)
theorem Ext.refl (R : List Addr) (S : Ad) (H : Hp) : Ext R S H S H := ⟨fun _ _ h _ => h, fun _ h => h, fun _ h => h, fun _ h => .inl h⟩

theorem rd_keep {R : List Addr} {S S' : Ad} {H H' : Hp} {a : Addr} {u : HO} (E : Ext R S H S' H') (ha : a ∉ R) (h : Rd H a u) : Rd H' a u := by
  rcases h with h | ⟨o, h⟩
  · exact .inl (E.keep _ _ h ha)
  · exact .inr ⟨o, E.keep _ _ h ha⟩
theorem rd_notin {R : List Addr} {H : Hp} {a : Addr} {xs : List V} (hR : ∀ a ∈ R, ∃ o, H a = some o ∧ isSo o) (h : Rd H a (.tup xs)) : a ∉ R := by
  intro hm
  obtain ⟨o, e, q⟩ := hR a hm
  rcases h with h | ⟨u, h⟩
  · rw [h] at e; cases e; exact q
  · rw [h] at e; cases e; exact q

section
variable {G : Wd} {R R' : List Addr} {S S' : Ad} {H H' : Hp}
theorem sqT_keep (E : Ext R S H S' H') (hR : ∀ a ∈ R, ∃ o, H a = some o ∧ isSo o) {a : Addr} {xs : List V} (h : SqT G.K H a xs) : SqT G.K H' a xs := by
  rcases h with h | h
  · exact .inl (rd_keep E (rd_notin hR h) h)
  · exact .inr h
mutual
theorem RelE.mono (E : Ext R S H S' H') (hR : ∀ a ∈ R, (∃ o, H a = some o ∧ isSo o) ∧ ¬ S a) (hp : R <+: R') : ∀ (v : EV) {x : V}, RelE G H S R v x → RelE G H' S' R' v x
  | .non, _, h => by unfold RelE at h ⊢; exact h
  | .bl _, _, h => by unfold RelE at h ⊢; exact h
  | .int _, _, h => by unfold RelE at h ⊢; exact h
  | .str _, _, h => by unfold RelE at h ⊢; exact h
  | .tup l, _, h => by
    unfold RelE at h ⊢
    obtain ⟨a, xs, e, hq, hl⟩ := h
    exact ⟨a, xs, e, sqT_keep E (fun a ha => (hR a ha).1) hq, RelL.mono E hR hp l hl⟩
  | .lst l, _, h => by
    unfold RelE at h ⊢
    obtain ⟨a, xs, e, hS, hq, hl⟩ := h
    exact ⟨a, xs, e, E.sub _ hS, E.keep _ _ hq fun z => (hR a z).2 hS, RelL.mono E hR hp l hl⟩
  | .dic _ _, _, h => by
    unfold RelE at h ⊢
    obtain ⟨e1, e2, a, e, hS, hq⟩ := h
    exact ⟨e1, e2, a, e, E.sub _ hS, E.keep _ _ hq fun z => (hR a z).2 hS⟩
  | .scr l, _, h => by
    unfold RelE at h ⊢
    obtain ⟨a, e, hq⟩ := h
    refine ⟨a, e, ?_⟩
    rcases hq with ⟨o, h⟩ | h
    · refine .inl ⟨o, E.keep _ _ h fun z => ?_⟩
      obtain ⟨⟨u, e1, q⟩, _⟩ := hR a z
      rw [h] at e1; cases e1; exact q
    · exact .inr h
  | .ins c vs, _, h => by
    unfold RelE at h ⊢
    obtain ⟨a, dx, xs, e, hS, ⟨f, fl, h1, h2, h3⟩, hl⟩ := h
    exact ⟨a, dx, xs, e, E.sub _ hS, ⟨f, fl, h1, E.keep _ _ h2 fun z => (hR a z).2 hS, h3⟩, RelL.mono E hR hp vs hl⟩
  | .ref i, _, h => by
    unfold RelE at h ⊢
    obtain ⟨a, e, hq⟩ := h
    refine ⟨a, e, ?_⟩
    obtain ⟨t, rfl⟩ := hp
    rw [List.getElem?_append_left]
    · exact hq
    · exact (List.getElem?_eq_some_iff.mp hq).1
  | .fn _, _, h => by unfold RelE at h; exact h.elim
theorem RelL.mono (E : Ext R S H S' H') (hR : ∀ a ∈ R, (∃ o, H a = some o ∧ isSo o) ∧ ¬ S a) (hp : R <+: R') : ∀ (l : List EV) {xs : List V}, RelL G H S R l xs → RelL G H' S' R' l xs
  | [], _, h => by unfold RelL at h ⊢; exact h
  | v :: r, _, h => by
    unfold RelL at h ⊢
    obtain ⟨x, ys, e, h1, h2⟩ := h
    exact ⟨x, ys, e, RelE.mono E hR hp v h1, RelL.mono E hR hp r h2⟩
end
end
end Py
namespace Py
open PySem PySem.Spec PyProof.Rows L2
section
variable {G : Wd} {R R' : List Addr} {S S' : Ad} {H H' : Hp} {st : Store}
theorem StOk.both (h : StOk G H S R st) : ∀ a ∈ R, (∃ o, H a = some o ∧ Py.isSo o) ∧ ¬ S a := fun a ha => ⟨h.isSo ha, h.dis a ha⟩
theorem RelL.length : ∀ {l : List EV} {xs : List V}, RelL G H S R l xs → xs.length = l.length
  | [], xs, h => by unfold RelL at h; subst h; rfl
  | v :: r, xs, h => by
    unfold RelL at h
    obtain ⟨x, ys, rfl, _, h2⟩ := h
    rw [List.length_cons, List.length_cons, RelL.length h2]
theorem RelL.nil : RelL G H S R [] [] := by unfold RelL; rfl
theorem RelL.cons {v : EV} {x : V} {l : List EV} {xs : List V} (h1 : RelE G H S R v x) (h2 : RelL G H S R l xs) : RelL G H S R (v :: l) (x :: xs) := by
  unfold RelL
  exact ⟨x, xs, rfl, h1, h2⟩
theorem RelL.get : ∀ {l : List EV} {xs : List V} {i : Nat} {v : EV}, RelL G H S R l xs → l[i]? = some v → ∃ x, xs[i]? = some x ∧ RelE G H S R v x
  | [], _, _, _, _, e => by simp at e
  | w :: r, xs, i, v, h, e => by
    unfold RelL at h
    obtain ⟨x, ys, rfl, h1, h2⟩ := h
    cases i with
    | zero => simp at e; subst e; exact ⟨x, by simp, h1⟩
    | succ i => simp at e; obtain ⟨z, e1, e2⟩ := RelL.get h2 e; exact ⟨z, by simpa using e1, e2⟩
theorem RelL.append : ∀ {l r : List EV} {xs ys : List V}, RelL G H S R l xs → RelL G H S R r ys → RelL G H S R (l ++ r) (xs ++ ys)
  | [], r, xs, ys, h, h2 => by unfold RelL at h; subst h; exact h2
  | v :: l, r, xs, ys, h, h2 => by
    unfold RelL at h
    obtain ⟨x, zs, rfl, h1, h3⟩ := h
    exact RelL.cons h1 (RelL.append h3 h2)
theorem RelL.take : ∀ {l : List EV} {xs : List V} (n : Nat), RelL G H S R l xs → RelL G H S R (l.take n) (xs.take n)
  | [], xs, n, h => by unfold RelL at h; subst h; simp; exact RelL.nil
  | v :: l, xs, 0, h => by simp; exact RelL.nil
  | v :: l, xs, n + 1, h => by
    unfold RelL at h
    obtain ⟨x, zs, rfl, h1, h3⟩ := h
    exact RelL.cons h1 (RelL.take n h3)
theorem RelL.drop : ∀ {l : List EV} {xs : List V} (n : Nat), RelL G H S R l xs → RelL G H S R (l.drop n) (xs.drop n)
  | [], xs, n, h => by unfold RelL at h; subst h; simp; exact RelL.nil
  | v :: l, xs, 0, h => by simpa using h
  | v :: l, xs, n + 1, h => by
    unfold RelL at h
    obtain ⟨x, zs, rfl, h1, h3⟩ := h
    simpa using RelL.drop n h3
theorem RelL.set : ∀ {l : List EV} {xs : List V} (i : Nat) {v : EV} {x : V}, RelL G H S R l xs → RelE G H S R v x → RelL G H S R (l.set i v) (xs.set i x)
  | [], xs, i, v, x, h, _ => by unfold RelL at h; subst h; simp; exact RelL.nil
  | w :: l, xs, 0, v, x, h, hx => by
    unfold RelL at h
    obtain ⟨y, zs, rfl, h1, h3⟩ := h
    exact RelL.cons hx h3
  | w :: l, xs, i + 1, v, x, h, hx => by
    unfold RelL at h
    obtain ⟨y, zs, rfl, h1, h3⟩ := h
    exact RelL.cons h1 (RelL.set i h3 hx)
theorem RelL.dropLast {l : List EV} {xs : List V} (h : RelL G H S R l xs) : RelL G H S R l.dropLast xs.dropLast := by
  rw [List.dropLast_eq_take, List.dropLast_eq_take, h.length]
  exact h.take _
theorem cut_eq (xs : List V) (lo hi : Option Int) : cutV xs lo hi = (xs.drop (HT.sIx xs.length 0 lo)).take (HT.sIx xs.length xs.length hi - HT.sIx xs.length 0 lo) := rfl
end

/-- what a frame began with -/
structure En where
  H : Hp
  S : Ad
  R : List Addr
def SlotOk (G : Wd) (en : En) (H : Hp) (S : Ad) (R : List Addr) (x : Option (Option V)) : Slot → Prop
  | .un => True
  | .sh v => ∃ y, x = some (some y) ∧ RelE G H S R v y
  | .ow v => ∃ a xs l, x = some (some (.ref a)) ∧ v = .lst l ∧ en.H a = none ∧ ¬ S a ∧ a ∉ R ∧ H a = some (.lst xs) ∧ RelL G H S R l xs
/-- the state of a frame: en at its entry, ρ the slots, tm values on the way, st the store -/
structure Rel (G : Wd) (en : En) (ρ : Env) (tm : List (EV × V)) (st : Store) (S : Ad) (R : List Addr) (σ : L2.St) (H : Hp) : Prop where
  len : ρ.length = σ.length
  ext : Ext en.R en.S en.H S H
  pre : en.R <+: R
  rnew : ∀ a ∈ R, a ∈ en.R ∨ en.H a = none
  st : StOk G H S R st
  slot : ∀ (i : Nat) (s : Slot), ρ[i]? = some s → SlotOk G en H S R σ[i]? s
  own : ∀ (i j : Nat) (v w : EV) (a : Addr), ρ[i]? = some (.ow v) → ρ[j]? = some (.ow w) → σ[i]? = some (some (.ref a)) → σ[j]? = some (some (.ref a)) → i = j
  tm : ∀ p ∈ tm, RelE G H S R p.1 p.2

section
variable {G : Wd} {en : En} {ρ : Env} {tm : List (EV × V)} {st st' : Store} {R R' : List Addr} {S S' : Ad} {H H' : Hp} {σ : L2.St}
theorem Rel.drop {t : EV × V} (h : Rel G en ρ (t :: tm) st S R σ H) : Rel G en ρ tm st S R σ H :=
  ⟨h.len, h.ext, h.pre, h.rnew, h.st, h.slot, h.own, fun p hp => h.tm p (List.mem_cons_of_mem _ hp)⟩
theorem Rel.push (h : Rel G en ρ tm st S R σ H) {v : EV} {x : V} (hx : RelE G H S R v x) : Rel G en ρ ((v, x) :: tm) st S R σ H :=
  ⟨h.len, h.ext, h.pre, h.rnew, h.st, h.slot, h.own, fun p hp => by
    rcases List.mem_cons.mp hp with rfl | hp
    · exact hx
    · exact h.tm p hp⟩
theorem Rel.top {v : EV} {x : V} (h : Rel G en ρ ((v, x) :: tm) st S R σ H) : RelE G H S R v x := h.tm (v, x) List.mem_cons_self
theorem Rel.top2 {t : EV × V} {v : EV} {x : V} (h : Rel G en ρ (t :: (v, x) :: tm) st S R σ H) : RelE G H S R v x := h.drop.top
/-- the heap grows -/
theorem Rel.grow (h : Rel G en ρ tm st S R σ H) (E : Ext R S H S' H') (hs : StOk G H' S' R' st') (hp : R <+: R') (hn : ∀ a ∈ R', a ∈ R ∨ H a = none) : Rel G en ρ tm st' S' R' σ H' := by
  have back : ∀ {a : Addr}, H a = none → en.H a = none := fun {a} e => by
    cases q : en.H a with
    | none => rfl
    | some o => exact absurd e (h.ext.stay a (by rw [q]; exact fun z => nomatch z))
  have both := h.st.both
  refine ⟨h.len, ⟨fun a o e ha => ?_, fun a z => E.stay _ (h.ext.stay a z), fun a z => E.sub _ (h.ext.sub a z), fun a z => ?_⟩, List.IsPrefix.trans h.pre hp, fun a ha => ?_, hs, fun i s e => ?_, h.own, fun p hp' => RelE.mono E both hp p.1 (h.tm p hp')⟩
  · refine E.keep _ _ (h.ext.keep a o e ha) fun z => ?_
    rcases h.rnew a z with q | q
    · exact ha q
    · rw [q] at e; cases e
  · rcases E.new a z with q | q
    · rcases h.ext.new a q with q | q
      · exact .inl q
      · exact .inr ⟨q.1, E.stay a q.2⟩
    · exact .inr ⟨back q.1, q.2⟩
  · rcases hn a ha with q | q
    · exact h.rnew a q
    · exact .inr (back q)
  · have q := h.slot i s e
    cases s with
    | un => trivial
    | sh v =>
      obtain ⟨y, e1, e2⟩ := q
      exact ⟨y, e1, RelE.mono E both hp v e2⟩
    | ow v =>
      obtain ⟨a, xs, l, e1, e2, e3, e4, e5, e6, e7⟩ := q
      refine ⟨a, xs, l, e1, e2, e3, fun z => ?_, fun z => ?_, E.keep _ _ e6 e5, RelL.mono E both hp l e7⟩
      · rcases E.new a z with q | q
        · exact e4 q
        · rw [e6] at q; cases q.1
      · rcases hn a z with q | q
        · exact e5 q
        · rw [e6] at q; cases q
/-- all that was tracked is kept -/
structure Gr (S : Ad) (H : Hp) (S' : Ad) (H' : Hp) : Prop where
  keep : ∀ a o, H a = some o → H' a = some o
  sub : ∀ a, S a → S' a
  new : ∀ a, S' a → S a ∨ (H a = none ∧ H' a ≠ none)
theorem Gr.ext (g : Gr S H S' H') (R : List Addr) : Ext R S H S' H' := by
  refine ⟨fun a o h _ => g.keep a o h, fun a h => ?_, g.sub, g.new⟩
  cases q : H a with
  | none => exact absurd q h
  | some o => rw [g.keep a o q]; exact (fun z => nomatch z)
theorem Gr.refl (S : Ad) (H : Hp) : Gr S H S H := ⟨fun _ _ h => h, fun _ h => h, fun _ h => .inl h⟩
theorem SoOk.mono {a : Addr} {o : SO} (E : Ext R S H S' H') (hR : ∀ a ∈ R, (∃ o, H a = some o ∧ Py.isSo o) ∧ ¬ S a) (hp : R <+: R') (hk : ∀ u, H a = some u → H' a = some u) (h : SoOk G H S R a o) : SoOk G H' S' R' a o := by
  cases o with
  | lst l =>
    obtain ⟨xs, e, r⟩ := h
    exact ⟨xs, hk _ e, RelL.mono E hR hp l r⟩
  | ins c fs =>
    obtain ⟨dx, xs, e, l, t, r⟩ := h
    exact ⟨dx, xs, hk _ e, l, t, RelL.mono E hR hp _ r⟩
theorem StOk.grow (h : StOk G H S R st) (g : Gr S H S' H') : StOk G H' S' R st := by
  refine ⟨h.len, h.nd, fun a ha z => ?_, fun a z => ?_, fun i a o e1 e2 => SoOk.mono (g.ext R) h.both (List.prefix_rfl) (fun u hu => g.keep _ _ hu) (h.so i a o e1 e2)⟩
  · rcases g.new a z with q | q
    · exact h.dis a ha q
    · obtain ⟨o, e, _⟩ := h.isSo ha
      rw [q.1] at e; cases e
  · rcases g.new a z with q | q
    · exact (g.ext R).stay a (h.trk a q)
    · exact q.2
theorem Rel.gr (h : Rel G en ρ tm st S R σ H) (g : Gr S H S' H') : Rel G en ρ tm st S' R σ H' :=
  h.grow (g.ext R) (h.st.grow g) List.prefix_rfl fun _ ha => .inl ha
/-- S and one more -/
def Sadd (S : Ad) (p : Addr) : Ad := fun a => S a ∨ a = p
theorem gr_upd (S : Ad) {p : Addr} {o : HO} (hp : H p = none) : Gr S H (Sadd S p) (upd H p o) := by
  refine ⟨fun a u h => ?_, fun a h => .inl h, fun a h => ?_⟩
  · rw [upd_ne (ne_of_none h hp)]; exact h
  · rcases h with h | rfl
    · exact .inl h
    · exact .inr ⟨hp, by rw [upd_same]; exact (fun z => nomatch z)⟩
theorem gr_upd0 (S : Ad) {p : Addr} {o : HO} (hp : H p = none) : Gr S H S (upd H p o) := by
  refine ⟨fun a u h => ?_, fun a h => h, fun a h => .inl h⟩
  rw [upd_ne (ne_of_none h hp)]; exact h
theorem RelE.gr {v : EV} {x : V} (g : Gr S H S' H') (hs : StOk G H S R st) (h : RelE G H S R v x) : RelE G H' S' R v x := RelE.mono (g.ext R) hs.both List.prefix_rfl v h
theorem RelL.gr {v : List EV} {x : List V} (g : Gr S H S' H') (hs : StOk G H S R st) (h : RelL G H S R v x) : RelL G H' S' R v x := RelL.mono (g.ext R) hs.both List.prefix_rfl v h
/-- a new tuple -/
theorem rel_tup {l : List EV} {xs : List V} {p : Addr} (hs : StOk G H S R st) (h : RelL G H S R l xs) (hp : H p = none) : RelE G (upd H p (.tup xs)) S R (.tup l) (.ref p) := by
  unfold RelE
  exact ⟨p, xs, rfl, SqT.of upd_same, h.gr (gr_upd0 S hp) hs⟩
/-- a new list -/
theorem rel_lst {l : List EV} {xs : List V} {p : Addr} (hs : StOk G H S R st) (h : RelL G H S R l xs) (hp : H p = none) : RelE G (upd H p (.lst xs)) (Sadd S p) R (.lst l) (.ref p) := by
  unfold RelE
  exact ⟨p, xs, rfl, .inr rfl, upd_same, h.gr (gr_upd S hp) hs⟩
theorem Ext.trans {R R' : List Addr} {S S1 S2 : Ad} {H H1 H2 : Hp} (a : Ext R S H S1 H1) (b : Ext R' S1 H1 S2 H2) (hn : ∀ a ∈ R', a ∈ R ∨ H a = none) : Ext R S H S2 H2 := by
  have back : ∀ {c : Addr}, H1 c = none → H c = none := fun {c} e => by
    cases q : H c with
    | none => rfl
    | some o => exact absurd e (a.stay c (by rw [q]; exact (fun z => nomatch z)))
  refine ⟨fun c o e h => b.keep c o (a.keep c o e h) fun z => ?_, fun c h => b.stay c (a.stay c h), fun c h => b.sub c (a.sub c h), fun c h => ?_⟩
  · rcases hn c z with q | q
    · exact h q
    · rw [q] at e; cases e
  · rcases b.new c h with q | q
    · rcases a.new c q with q | q
      · exact .inl q
      · exact .inr ⟨q.1, b.stay c q.2⟩
    · exact .inr ⟨back q.1, q.2⟩
/-- a step of a run -/
structure Stp (R : List Addr) (S : Ad) (H : Hp) (R' : List Addr) (S' : Ad) (H' : Hp) : Prop where
  ext : Ext R S H S' H'
  pre : R <+: R'
  new : ∀ a ∈ R', a ∈ R ∨ H a = none
theorem Stp.refl (R : List Addr) (S : Ad) (H : Hp) : Stp R S H R S H := ⟨Ext.refl R S H, List.prefix_rfl, fun _ h => .inl h⟩
theorem Stp.trans {R1 R2 : List Addr} {S1 S2 : Ad} {H1 H2 : Hp} (a : Stp R S H R1 S1 H1) (b : Stp R1 S1 H1 R2 S2 H2) : Stp R S H R2 S2 H2 := by
  refine ⟨a.ext.trans b.ext a.new, List.IsPrefix.trans a.pre b.pre, fun c hc => ?_⟩
  rcases b.new c hc with q | q
  · exact a.new c q
  · refine .inr ?_
    cases h5 : H c with
    | none => rfl
    | some o => exact absurd q (a.ext.stay c (by rw [h5]; exact (fun z => nomatch z)))
theorem Gr.stp (g : Gr S H S' H') (R : List Addr) : Stp R S H R S' H' := ⟨g.ext R, List.prefix_rfl, fun _ h => .inl h⟩
theorem Rel.stp (h : Rel G en ρ tm st S R σ H) (s : Stp R S H R' S' H') (hs : StOk G H' S' R' st') : Rel G en ρ tm st' S' R' σ H' := h.grow s.ext hs s.pre s.new
theorem RelE.stp {v : EV} {x : V} (s : Stp R S H R' S' H') (hs : StOk G H S R st) (h : RelE G H S R v x) : RelE G H' S' R' v x := RelE.mono s.ext hs.both s.pre v h
theorem RelL.stp {v : List EV} {x : List V} (s : Stp R S H R' S' H') (hs : StOk G H S R st) (h : RelL G H S R v x) : RelL G H' S' R' v x := RelL.mono s.ext hs.both s.pre v h
/-! ### what trees know of the store -/
mutual
theorem refs_of : ∀ (v : EV) {x : V}, RelE G H S R v x → refsLt R.length v = true
  | .non, _, _ => rfl
  | .bl _, _, _ => rfl
  | .int _, _, _ => rfl
  | .str _, _, _ => rfl
  | .tup l, _, h => by unfold RelE at h; obtain ⟨_, _, _, _, h⟩ := h; unfold refsLt; exact refs_ofL l h
  | .lst l, _, h => by unfold RelE at h; obtain ⟨_, _, _, _, _, h⟩ := h; unfold refsLt; exact refs_ofL l h
  | .dic _ _, _, h => by unfold RelE at h; obtain ⟨rfl, rfl, _⟩ := h; rfl
  | .scr _, _, _ => rfl
  | .ins _ l, _, h => by unfold RelE at h; obtain ⟨_, _, _, _, _, _, h⟩ := h; unfold refsLt; exact refs_ofL l h
  | .ref i, _, h => by unfold RelE at h; obtain ⟨_, _, h⟩ := h; unfold refsLt; exact decide_eq_true (List.getElem?_eq_some_iff.mp h).1
  | .fn _, _, _ => rfl
theorem refs_ofL : ∀ (l : List EV) {xs : List V}, RelL G H S R l xs → refsLtL R.length l = true
  | [], _, _ => rfl
  | v :: r, _, h => by unfold RelL at h; obtain ⟨_, _, _, h1, h2⟩ := h; unfold refsLtL; rw [refs_of v h1, refs_ofL r h2]; rfl
end
mutual
theorem refs_less (hS : ∀ a, S a → S' a) (hp : R <+: R') : ∀ (v : EV) {x : V}, RelE G H S R' v x → refsLt R.length v = true → RelE G H S' R v x
  | .non, _, h, _ => by unfold RelE at h ⊢; exact h
  | .bl _, _, h, _ => by unfold RelE at h ⊢; exact h
  | .int _, _, h, _ => by unfold RelE at h ⊢; exact h
  | .str _, _, h, _ => by unfold RelE at h ⊢; exact h
  | .tup l, _, h, e => by
    unfold RelE at h ⊢
    obtain ⟨a, xs, e1, hq, hl⟩ := h
    unfold refsLt at e
    exact ⟨a, xs, e1, hq, refs_lessL hS hp l hl e⟩
  | .lst l, _, h, e => by
    unfold RelE at h ⊢
    obtain ⟨a, xs, e1, hs, hq, hl⟩ := h
    unfold refsLt at e
    exact ⟨a, xs, e1, hS _ hs, hq, refs_lessL hS hp l hl e⟩
  | .dic _ _, _, h, _ => by unfold RelE at h ⊢; obtain ⟨e1, e2, a, e3, h1, h2⟩ := h; exact ⟨e1, e2, a, e3, hS _ h1, h2⟩
  | .scr _, _, h, _ => by unfold RelE at h ⊢; exact h
  | .ins _ l, _, h, e => by
    unfold RelE at h ⊢
    obtain ⟨a, dx, xs, e1, hs, hq, hl⟩ := h
    unfold refsLt at e
    exact ⟨a, dx, xs, e1, hS _ hs, hq, refs_lessL hS hp l hl e⟩
  | .ref i, _, h, e => by
    unfold RelE at h ⊢
    obtain ⟨a, e1, h⟩ := h
    refine ⟨a, e1, ?_⟩
    obtain ⟨t, rfl⟩ := hp
    unfold refsLt at e
    rw [List.getElem?_append_left (of_decide_eq_true e)] at h
    exact h
  | .fn _, _, h, _ => by unfold RelE at h; exact h.elim
theorem refs_lessL (hS : ∀ a, S a → S' a) (hp : R <+: R') : ∀ (l : List EV) {xs : List V}, RelL G H S R' l xs → refsLtL R.length l = true → RelL G H S' R l xs
  | [], _, h, _ => by unfold RelL at h ⊢; exact h
  | v :: r, _, h, e => by
    unfold RelL at h ⊢
    obtain ⟨x, ys, e1, h1, h2⟩ := h
    unfold refsLtL at e
    rw [Bool.and_eq_true] at e
    exact ⟨x, ys, e1, refs_less hS hp v h1 e.1, refs_lessL hS hp r h2 e.2⟩
end
end
end Py
end
section
/-! PyComp: from the model's syntax to the small language. -/
namespace Py
open PySem

inductive Gn where
  | fn (f : Nat) | cls (c : Nat) | val (v : EV) | bi (b : Bi)
  | isi | rng | enum | zip
/-- what names stand for -/
structure CT where
  glo : List (Str × Gn)
  tys : List (Str × Ty)
  fld : List (Str × Nat)

/-- what a def's text is read by: mu, the slots of the lists that it changes; rst: a new list that it returns goes to the store -/
structure FC where
  c : CT
  N : List Str
  mu : List Nat
  rst : Bool

/-! ### names -/
section
variable (c : CT) (N : List Str)
/-- a name's slot -/
def slotOf (sc : Scope) (x : Str) : Option Nat := match sc.names.lookup x with
  | some .local => N.idxOf? x
  | some .cell => N.idxOf? x
  | some .free => N.idxOf? x
  | _ => none
/-- .. of one that may be stored -/
def slotL (sc : Scope) (x : Str) : Option Nat := match sc.names.lookup x with
  | some .local => N.idxOf? x
  | some .cell => N.idxOf? x
  | _ => none
/-- .. of a local that no block captures -/
def slotP (sc : Scope) (x : Str) : Option Nat := match sc.names.lookup x with
  | some .local => N.idxOf? x
  | _ => none
def okName (x : Str) : Bool := decide (x ≠ ("__debug__" : Str)) && decide (x ≠ ("__classdict__" : Str)) && decide (x ≠ ("__name__" : Str))
/-- what a module's or builtin name stands for -/
def gloOf (sc : Scope) (x : Str) : Option Gn := match sc.names.lookup x with
  | some .globalImplicit => if okName x = true then c.glo.lookup x else none
  | _ => none
end
def opOf : Operator → Option Op
  | .Add => some .add | .Sub => some .sub | .Mult => some .mul | .FloorDiv => some .fdiv | .Mod => some .mod | .Pow => some .pow
  | _ => none
def cmpOf : CmpOp → Option Cmp
  | .Eq => some .eq | .NotEq => some .ne | .Lt => some .lt | .LtE => some .le | .Gt => some .gt | .GtE => some .ge
  | .Is => some .is | .IsNot => some .isnot | .In => some .inn | .NotIn => some .notin
def isStar : Expr → Bool
  | .Starred .. => true
  | _ => false
/-- a plain thing on the right of in -/
def isSet : Expr → Bool
  | .Set .. => true
  | _ => false
def isCall0 : Expr → Bool
  | .Call _ [] _ _ => true
  | _ => false
def isSlice : Expr → Bool
  | .Slice .. => true
  | _ => false
def isNone : Expr → Bool
  | .Constant .none _ _ => true
  | _ => false
def isTup : Expr → Bool
  | .Tuple .. => true
  | _ => false
/-- a comprehension -/
def isComp : Expr → Bool
  | .ListComp .. => true
  | .SetComp .. => true
  | .DictComp .. => true
  | _ => false

/-! ### targets -/
section
variable (N : List Str)
mutual
/-- a target; b: of a def (its cells may be stored) -/
def cT (b : Bool) (sc : Scope) : Nat → Expr → Option Tgt
  | 0, _ => none
  | n + 1, e => match e with
    | .Name x _ => ((if b = true then slotL N sc x else slotP N sc x)).map Tgt.nm
    | .Tuple es _ _ => if (es.any isStar) = true then none else (cTs b sc n es).map Tgt.tu
    | _ => none
def cTs (b : Bool) (sc : Scope) : Nat → List Expr → Option (List Tgt)
  | 0, _ => none
  | _ + 1, [] => some []
  | n + 1, e :: r => match cT b sc n e with
    | some t => (cTs b sc n r).map (t :: ·)
    | none => none
end
/-- a block's own names that are slots -/
def ownOf (scope : Scope) : List (Str × Nat) := scope.names.filterMap fun y => match y.2 with
  | .local => (N.idxOf? y.1).map fun i => (y.1, i)
  | .cell => (N.idxOf? y.1).map fun i => (y.1, i)
  | _ => none
end
mutual
/-- its slots are of l -/
def tgIn (l : List Nat) : Tgt → Bool
  | .nm i => l.contains i
  | .tu ts => tgInL l ts
def tgInL (l : List Nat) : List Tgt → Bool
  | [] => true
  | t :: r => tgIn l t && tgInL l r
end

/-! ### expressions -/
section
variable (F : FC)
def nameE (sc : Scope) (x : Str) : E := if okName x = true then (match slotOf F.N sc x with
  | some i => .var i
  | none => (match gloOf F.c sc x with
    | some (.val v) => .lit v
    | _ => .bad)) else .bad
/-- a name that is a list that the def changes -/
def ownS (sc : Scope) : Expr → Option Nat
  | .Name x _ => if okName x = true then (match slotOf F.N sc x with
    | some i => if F.mu.contains i = true then some i else none
    | none => none) else none
  | _ => none
def cmp1 (o : CmpOp) (b : Expr) (x y : E) : E := if isSet b = true then .bad else (match cmpOf o with
  | some .is => if isNone b = true then .cmp .is x (.lit .non) else .bad
  | some .isnot => if isNone b = true then .cmp .isnot x (.lit .non) else .bad
  | some op => .cmp op x y
  | none => .bad)
def isIs : CmpOp → Bool
  | .Is => true
  | .IsNot => true
  | _ => false
def cmp2 (o o' : CmpOp) (b d : Expr) (x y z : E) : E := if (isSet b || isSet d || isIs o || isIs o') = true then .bad else (match cmpOf o, cmpOf o' with
  | some op, some op' => .chn op op' x y z
  | _, _ => .bad)
def callG (g : Option Gn) (xs : List E) : E := match g with
  | some (.fn f) => .call f xs
  | some (.cls k) => .mk k xs
  | some (.bi b) => .bi b xs
  | _ => .bad
/-- the type's name in isinstance -/
def tyE (sc : Scope) : List Expr → Option Ty
  | [.Name y _] => if okName y = true then (match sc.names.lookup y with
    | some .globalImplicit => F.c.tys.lookup y
    | _ => none) else none
  | _ => none
def isLen (g : Option Gn) (r : List Expr) : Bool := match g, r with
  | some (.bi .len), [] => true
  | _, _ => false
def isIsi : Option Gn → Bool
  | some .isi => true
  | _ => false
mutual
def cE (sc : Scope) : Nat → Expr → E
  | 0, _ => .bad
  | n + 1, e => match e with
    | .Name x _ => nameE F sc x
    | .Constant (.int i) _ _ => .lit (.int i)
    | .Constant (.bool b) _ _ => .lit (.bl b)
    | .Constant .none _ _ => .lit .non
    | .Constant (.str s) _ _ => .lit (.str s)
    | .Tuple es _ _ => if (es.any isStar || decide (1000 < es.length)) = true then .bad else .tup (es.map (cE sc n))
    | .Dict [] [] _ => .emp
    | .BinOp a op b _ => (match opOf op with
      | some o => .bop o (cE sc n a) (cE sc n b)
      | none => .bad)
    | .UnaryOp .USub a _ => .neg (cE sc n a)
    | .UnaryOp .Not a _ => .nt (.val (cE sc n a))
    | .Compare a [op] [b] _ => cmp1 op b (cE sc n a) (cE sc n b)
    | .Compare a [op, op'] [b, d] _ => cmp2 op op' b d (cE sc n a) (cE sc n b) (cE sc n d)
    | .BoolOp .And (a :: es) _ => .and (cE sc n a :: es.map (cE sc n))
    | .BoolOp .Or (a :: es) _ => .or (cE sc n a :: es.map (cE sc n))
    | .IfExp t a b _ => .ife (cTe sc n t) (cE sc n a) (cE sc n b)
    | .Subscript a (.Slice lo hi none _) _ => (match ownS F sc a with
      | some k => .slO k (match lo with
        | some e => .so (cE sc n e)
        | none => .no) (match hi with
        | some e => .so (cE sc n e)
        | none => .no)
      | none => .sl (cE sc n a) (match lo with
        | some e => .so (cE sc n e)
        | none => .no) (match hi with
        | some e => .so (cE sc n e)
        | none => .no))
    | .Subscript a i _ => if isSlice i = true then .bad else (match ownS F sc a with
      | some k => .idxO k (cE sc n i)
      | none => .idx (cE sc n a) (cE sc n i))
    | .Attribute a f _ => if isCall0 a = true then .bad else (match F.c.fld.lookup f with
      | some k => .att (cE sc n a) k
      | none => .bad)
    | .Call (.Name x _) (a :: r) [] _ => if ((a :: r).any isStar) = true then .bad else
      if isIsi (gloOf F.c sc x) = true then (match tyE F sc r with
        | some t => .isi (cE sc n a) t
        | none => .bad) else
      if isLen (gloOf F.c sc x) r = true then (match ownS F sc a with
        | some k => .biO .len k
        | none => .bi .len [cE sc n a]) else callG (gloOf F.c sc x) (cE sc n a :: r.map (cE sc n))
    | .List es p => (match cN sc n (.List es p) with
      | some x => x
      | none => .bad)
    | .ListComp e gs scope p => (match cN sc n (.ListComp e gs scope p) with
      | some x => x
      | none => .bad)
    | _ => .bad
/-- a new list -/
def cN (sc : Scope) : Nat → Expr → Option E
  | 0, _ => none
  | n + 1, e => match e with
    | .List es _ => if (es.any isStar || decide (1000 < es.length)) = true then none else some (.lst (es.map (cE sc n)))
    | .Call (.Name x _) [a] [] _ => if isStar a = true then none else (match gloOf F.c sc x with
      | some (.bi .list) => some (.bi .list [cE sc n a])
      | _ => none)
    | .ListComp e [⟨t, it, ifs, 0⟩] scope _ =>
      if (decide (1 < ifs.length) || isSet it || !L2.blkC F.N sc scope (ownOf F.N scope)) = true then none else
      (match cT F.N false (L2.relS scope sc) 50 t with
      | some tg => if tgIn ((ownOf F.N scope).map (·.2)) tg = true then
        some (.comp ((ownOf F.N scope).map (·.2)) tg (cI true sc n t it) (ifs.map (cTe (L2.relS scope sc) n)) (cE (L2.relS scope sc) n e)) else none
      | none => none)
    | _ => none
def cTe (sc : Scope) : Nat → Expr → Te
  | 0, _ => .val .bad
  | n + 1, e => match e with
    | .UnaryOp .Not a _ => .nt (cTe sc n a)
    | .BoolOp .And (a :: es) _ => .and (cTe sc n a :: es.map (cTe sc n))
    | .BoolOp .Or (a :: es) _ => .or (cTe sc n a :: es.map (cTe sc n))
    | .BoolOp _ _ _ => .val .bad
    | .Compare a [op] [b] _ => .val (cmp1 op b (cE sc n a) (cE sc n b))
    | .Compare a [op, op'] [b, d] _ => .val (cmp2 op op' b d (cE sc n a) (cE sc n b) (cE sc n d))
    | .Compare _ _ _ _ => .val .bad
    | .IfExp _ _ _ _ => .val .bad
    | e => .val (cE sc n e)
/-- what a for walks; t its target; b: a comprehension's -/
def cI (b : Bool) (sc : Scope) : Nat → Expr → Expr → It
  | 0, _, _ => .seq .bad
  | n + 1, t, e => match e with
    | .Call (.Name x p) [a] [] q => if isStar a = true then .seq .bad else (match gloOf F.c sc x with
      | some .rng => .rng1 (cE sc n a)
      | some .enum => if isTup t = true then .enum (cE sc n a) else .seq .bad
      | _ => .seq (cE sc n (.Call (.Name x p) [a] [] q)))
    | .Call (.Name x p) [a, a'] [] q => if (isStar a || isStar a') = true then .seq .bad else (match gloOf F.c sc x with
      | some .rng => .rng2 (cE sc n a) (cE sc n a')
      | some .zip => if isTup t = true then .zip (cE sc n a) (cE sc n a') else .seq .bad
      | _ => .seq (cE sc n (.Call (.Name x p) [a, a'] [] q)))
    | e => (match (if b = true then ownS F sc e else none) with
      | some k => .own k
      | none => .seq (cE sc n e))
end
end

/-! ### which lists a statement uses as values -/
section
variable (mu : List Nat)
mutual
def useE : E → List Nat
  | .bad | .lit _ | .emp => []
  | .var i => if mu.contains i = true then [i] else []
  | .tup es | .lst es | .and es | .or es | .call _ es | .mk _ es | .bi _ es => useEs es
  | .bop _ a b => useE a ++ useE b
  | .neg a => useE a
  | .nt a => useT a
  | .cmp _ a b => useE a ++ useE b
  | .chn _ _ a b c => useE a ++ useE b ++ useE c
  | .ife c a b => useT c ++ useE a ++ useE b
  | .idx a i => useE a ++ useE i
  | .sl a lo hi => useE a ++ useO lo ++ useO hi
  | .idxO _ i => useE i
  | .slO _ lo hi => useO lo ++ useO hi
  | .biO _ _ => []
  | .isi a _ => useE a
  | .att a _ => useE a
  | .comp _ _ it ifs e => useI it ++ useTs ifs ++ useE e
  | .sto e => useE e
def useO : Eo → List Nat
  | .no => []
  | .so e => useE e
def useT : Te → List Nat
  | .val e => useE e
  | .nt a => useT a
  | .and l => useTs l
  | .or l => useTs l
def useI : It → List Nat
  | .seq e => useE e
  | .rng1 a => useE a
  | .rng2 a b => useE a ++ useE b
  | .enum a => useE a
  | .zip a b => useE a ++ useE b
  | .own _ => []
def useEs : List E → List Nat
  | [] => []
  | e :: r => useE e ++ useEs r
def useTs : List Te → List Nat
  | [] => []
  | e :: r => useT e ++ useTs r
end
end
def fzS : List Nat → S → S
  | [], s => s
  | k :: r, s => .fz (k :: r) s

/-! ### statements -/
section
variable (F : FC)
def muOf (nm : Str) : Option Mu := if nm = ("append" : Str) then some .append else if nm = ("insert" : Str) then some .insert else if nm = ("extend" : Str) then some .extend else none
/-- the slot of a plain local (a cell) that is stored -/
def stoS (sc : Scope) (x : Str) : Option Nat := if okName x = true then slotL F.N sc x else none
/-- a, b = x, y on one line, of locals: not constants alone -/
def parOk (sc : Scope) (y z : Str) (py pz : Pos) (a b : Expr) : Bool := (match sc.names.lookup y with | some .local => true | _ => false) && (match sc.names.lookup z with | some .local => true | _ => false) && decide (py.line = pz.line) && !isStar a && !isStar b && decide (y ≠ z) && !([a, b].all (foldedForSure 8)) && !([a, b].all (constantsAlone 8))
/-- the comprehension's value is stored before its block ends -/
def swapS (sc : Scope) (y : Str) (py : Pos) (scope : Scope) (pos : Pos) : Bool := (match sc.names.lookup y with | some .local => true | _ => false) && decide (py.line = pos.line) && !(scope.names.any fun (n, k) => n == y && (k == .local || k == .cell))
def cS (sc : Scope) : Nat → Stmt → S
  | 0, _ => .bad
  | n + 1, s => match s with
    | .Pass _ => .pass
    | .Break _ => .brk
    | .Continue _ => .cnt
    | .Return none _ => .ret (.lit .non)
    | .Return (some e) _ => (match (if F.rst = true then cN F sc n e else none) with
      | some x => fzS (useE F.mu x) (.ret (.sto x))
      | none => fzS (useE F.mu (cE F sc n e)) (.ret (cE F sc n e)))
    | .Expr (.Call (.Attribute (.Name x _) nm ap) (a :: r) [] cp) _ => (match stoS F sc x, muOf nm with
      | some i, some mu => if (isStar a || r.any isStar || decide (1 < r.length) || !(ap.endLine == cp.line)) = true then .bad else fzS (useEs F.mu (cE F sc n a :: r.map (cE F sc n))) (.mut mu i (cE F sc n a :: r.map (cE F sc n)))
      | _, _ => .bad)
    | .Expr e _ => if isComp e = true then .bad else fzS (useE F.mu (cE F sc n e)) (.expr (cE F sc n e))
    | .If t a b _ => fzS (useT F.mu (cTe F sc n t)) (.ifs (cTe F sc n t) (a.map (cS sc n)) (b.map (cS sc n)))
    | .While t b [] _ => .whl (cTe F sc n t) (b.map (cS sc n))
    | .For t it b [] _ => if isSet it = true then .bad else (match cT F.N true sc 50 t with
      | some tg => fzS (useI F.mu (cI F false sc n t it)) (.fr tg (cI F false sc n t it) (b.map (cS sc n)))
      | none => .bad)
    | .Assign [.Name y py] e _ => (match slotL F.N sc y with
      | some i => if F.mu.contains i = true then (match cN F sc n e with
          | some x => fzS (useE F.mu x) (.own i x)
          | none => fzS (useE F.mu (cE F sc n e)) (if isComp e = true then .bad else .asg (.nm i) (cE F sc n e)))
        else (match e with
          | .ListComp e' gs scope p => (match cN F sc n (.ListComp e' gs scope p) with
            | some x => fzS (useE F.mu x) (.asg (.nm i) x)
            | none => .bad)
          | e => if isComp e = true then .bad else fzS (useE F.mu (cE F sc n e)) (.asg (.nm i) (cE F sc n e)))
      | none => .bad)
    | .Assign [.Tuple [.Name y py, .Name z pz] _ _] (.Tuple [a, b] _ _) _ => (match slotL F.N sc y, slotL F.N sc z with
      | some i, some j => if (parOk sc y z py pz a b && decide (i ≠ j)) = true then fzS (useEs F.mu [cE F sc n a, cE F sc n b]) (.par [i, j] [cE F sc n a, cE F sc n b]) else .bad
      | _, _ => .bad)
    | .Assign [.Tuple ts k p] e _ => if (isTup e || isComp e) = true then .bad else (match cT F.N true sc 50 (.Tuple ts k p) with
      | some tg => fzS (useE F.mu (cE F sc n e)) (.asg tg (cE F sc n e))
      | none => .bad)
    | .Assign [.Subscript (.Name y p) ix p2] e _ => if (isSlice ix || isComp e) = true then .bad else (match stoS F sc y with
      | some i => fzS (useE F.mu (cE F sc n e) ++ useE F.mu (cE F sc n ix)) (.setix i (cE F sc n ix) (cE F sc n e))
      | none => .bad)
    | .Assign [.Attribute (.Name y p) f p2] e _ => if isComp e = true then .bad else (match stoS F sc y, F.c.fld.lookup f with
      | some i, some k => fzS (useE F.mu (cE F sc n e)) (.setat i k (cE F sc n e))
      | _, _ => .bad)
    | .AugAssign (.Name y _) op e _ => (match opOf op with
      | some o => (match slotL F.N sc y with
        | some i => if (match op with | .Pow => true | _ => false) = true then .bad else fzS (useE F.mu (cE F sc n e)) (.aug i o (cE F sc n e))
        | none => .bad)
      | none => .bad)
    | _ => .bad
def cSs (sc : Scope) (n : Nat) (l : List Stmt) : List S := l.map (cS F sc n)
end
end Py
end
section
/-! PyOps: operators, comparisons, items, built-ins of trees, by the hand layer's rules. -/
namespace Py
open PySem PySem.Spec PyProof.Rows L2

section
variable {G : Wd} {H : Hp} {S : Ad} {R : List Addr} {x : V}
theorem rel_non : RelE G H S R .non x ↔ x = .non := by unfold RelE; exact Iff.rfl
theorem rel_bl {b : Bool} : RelE G H S R (.bl b) x ↔ x = .bl b := by unfold RelE; exact Iff.rfl
theorem rel_int {i : Int} : RelE G H S R (.int i) x ↔ x = .int i := by unfold RelE; exact Iff.rfl
theorem rel_str {s : Str} : RelE G H S R (.str s) x ↔ x = .str s := by unfold RelE; exact Iff.rfl
theorem rel_tupE {l : List EV} : RelE G H S R (.tup l) x ↔ ∃ a xs, x = .ref a ∧ SqT G.K H a xs ∧ RelL G H S R l xs := by unfold RelE; exact Iff.rfl
theorem rel_lstE {l : List EV} : RelE G H S R (.lst l) x ↔ ∃ a xs, x = .ref a ∧ S a ∧ H a = some (.lst xs) ∧ RelL G H S R l xs := by unfold RelE; exact Iff.rfl
theorem rel_refE {i : Nat} : RelE G H S R (.ref i) x ↔ ∃ a, x = .ref a ∧ R[i]? = some a := by unfold RelE; exact Iff.rfl
end

/-- two trees in, a tree out -/
def rV (G : Wd) (f : EV → EV → Option EV) : R2 := fun x y H Q => ∃ st S R v w z, StOk G H S R st ∧ RelE G H S R v x ∧ RelE G H S R w y ∧ f v w = some z ∧ ∀ u H' S', Gr S H S' H' → RelE G H' S' R z u → Q u H'
/-- .., a bool out -/
def rB (G : Wd) (f : EV → EV → Option Bool) : R2 := fun x y H Q => ∃ st S R v w z, StOk G H S R st ∧ RelE G H S R v x ∧ RelE G H S R w y ∧ f v w = some z ∧ Q (.bl z) H

section
variable {X : Cx} {G : Wd}
/-- what the division of very large ints asks -/
structure Pyl (X : Cx) : Prop where
  seer : X.base.NoSeer
  tree : X.prog.given.tree = none
  dp : X.A.depth + 100 < recursionLimit
  fr : ∃ env l, X.stack = env :: l ∧ env.scope.isGenerator = false ∧ env.scope.isCoroutine = false ∧ env.builtins = builtinsNs ∧ env.globals = mainGlobals
theorem Pyl.room (h : Pyl X) {pins : List (Addr × Obj)} {σ : L2.St} {s : Shared} (I : L2.Inv X pins σ H s) : PylongRoom (model X.prog X.w) X.A s := by
  obtain ⟨env, l, e, h1, h2, h3, h4⟩ := h.fr
  exact PylongRoom.of I.nolimit h.dp (SeerAt.of (h.seer.keeps I.bk) h.tree (by rw [I.ok.frames, e]) h1 h2 h3 h4)
theorem op_fdivG (hp : Pyl X) : OpR X (binaryOp .FloorDiv) (rI (fun _ j => j ≠ 0) fun i j => .int (i.fdiv j)) := by
  intro pins s σ H x y v u Q I rx ry h
  obtain ⟨i, j, rfl, rfl, hc, q⟩ := h
  obtain ⟨t, rfl⟩ := rx
  obtain ⟨t', rfl⟩ := ry
  exact floordiv_int hc ⟨.int (i.fdiv j), H, I.tok _, ⟨_, rfl⟩, q⟩ (.inr (hp.room I))
theorem iop_fdivG (hp : Pyl X) : OpR X (inplaceOp .FloorDiv) (rI (fun _ j => j ≠ 0) fun i j => .int (i.fdiv j)) := by
  intro pins s σ H x y v u Q I rx ry h
  obtain ⟨i, j, rfl, rfl, hc, q⟩ := h
  obtain ⟨t, rfl⟩ := rx
  obtain ⟨t', rfl⟩ := ry
  exact ifloordiv_int hc ⟨.int (i.fdiv j), H, I.tok _, ⟨_, rfl⟩, q⟩ (.inr (hp.room I))
theorem sm_mul {i j : Int} (h : (sm i ∧ sm j) ∨ i.natAbs ≤ 4294967296 ∨ j.natAbs ≤ 4294967296) : IntMulOk i j := by
  rcases h with ⟨h1, h2⟩ | h | h
  · refine CMulX.ok ?_
    unfold sm at h1 h2
    unfold CMulX Builtin.Int.intBits
    split <;> split <;> omega
  · exact (show CMul i j from Or.inl ⟨by omega, by omega⟩).ok
  · exact (show CMul i j from Or.inr ⟨by omega, by omega⟩).ok
theorem op_mulG : OpR X (binaryOp .Mult) (rI IntMulOk fun i j => .int (i * j)) := opI fun i j _ _ _ _ _ hc q => mul_int q hc
theorem op_intop (hp : Pyl X) {o : Operator} {op : Op} (ho : opOf o = some op) : OpR X (binaryOp o) (fun x y H Q => ∃ i j k, x = .int i ∧ y = .int j ∧ binI op i j = some k ∧ Q (.int k) H) := by
  intro pins s σ H x y v u Q I rx ry h
  obtain ⟨i, j, k, rfl, rfl, e, q⟩ := h
  cases o <;> cases ho
  · cases e; exact op_add pins s σ H _ _ v u Q I rx ry ⟨i, j, rfl, rfl, q⟩
  · cases e; exact op_sub pins s σ H _ _ v u Q I rx ry ⟨i, j, rfl, rfl, q⟩
  · have e' : (if (sm i ∧ sm j) ∨ i.natAbs ≤ 4294967296 ∨ j.natAbs ≤ 4294967296 then some (i * j) else none) = some k := e
    by_cases hc : (sm i ∧ sm j) ∨ i.natAbs ≤ 4294967296 ∨ j.natAbs ≤ 4294967296
    · rw [if_pos hc] at e'
      cases e'
      exact op_mulG pins s σ H _ _ v u Q I rx ry ⟨i, j, rfl, rfl, sm_mul hc, q⟩
    · rw [if_neg hc] at e'; cases e'
  · have e' : (if j ≠ 0 then some (i.fmod j) else none) = some k := e
    by_cases hc : j ≠ 0
    · rw [if_pos hc] at e'
      cases e'
      exact op_modN pins s σ H _ _ v u Q I rx ry ⟨i, j, rfl, rfl, hc, q⟩
    · rw [if_neg hc] at e'; cases e'
  · have e' : (if 0 ≤ j ∧ j ≤ 1000000 ∧ i.natAbs < 2 ^ 64 then some (i ^ j.toNat) else none) = some k := e
    by_cases hc : 0 ≤ j ∧ j ≤ 1000000 ∧ i.natAbs < 2 ^ 64
    · rw [if_pos hc] at e'
      cases e'
      exact op_pow pins s σ H _ _ v u Q I rx ry ⟨i, j, rfl, rfl, hc, q⟩
    · rw [if_neg hc] at e'; cases e'
  · have e' : (if j ≠ 0 then some (i.fdiv j) else none) = some k := e
    by_cases hc : j ≠ 0
    · rw [if_pos hc] at e'
      cases e'
      exact op_fdivG hp pins s σ H _ _ v u Q I rx ry ⟨i, j, rfl, rfl, hc, q⟩
    · rw [if_neg hc] at e'; cases e'
theorem iop_intop (hy : Pyl X) {o : Operator} {op : Op} (ho : opOf o = some op) (hp : o ≠ .Pow) : OpR X (inplaceOp o) (fun x y H Q => ∃ i j k, x = .int i ∧ y = .int j ∧ binI op i j = some k ∧ Q (.int k) H) := by
  intro pins s σ H x y v u Q I rx ry h
  obtain ⟨i, j, k, rfl, rfl, e, q⟩ := h
  cases o <;> cases ho
  · cases e; exact iop_add pins s σ H _ _ v u Q I rx ry ⟨i, j, rfl, rfl, q⟩
  · cases e; exact iop_sub pins s σ H _ _ v u Q I rx ry ⟨i, j, rfl, rfl, q⟩
  · have e' : (if (sm i ∧ sm j) ∨ i.natAbs ≤ 4294967296 ∨ j.natAbs ≤ 4294967296 then some (i * j) else none) = some k := e
    by_cases hc : (sm i ∧ sm j) ∨ i.natAbs ≤ 4294967296 ∨ j.natAbs ≤ 4294967296
    · rw [if_pos hc] at e'
      cases e'
      obtain ⟨t, rfl⟩ := rx
      obtain ⟨t', rfl⟩ := ry
      exact imul_int ⟨.int (i * j), H, I.tok _, ⟨_, rfl⟩, q⟩ (sm_mul hc)
    · rw [if_neg hc] at e'; cases e'
  · have e' : (if j ≠ 0 then some (i.fmod j) else none) = some k := e
    by_cases hc : j ≠ 0
    · rw [if_pos hc] at e'
      cases e'
      obtain ⟨t, rfl⟩ := rx
      obtain ⟨t', rfl⟩ := ry
      exact imod_int hc ⟨.int (i.fmod j), H, I.tok _, ⟨_, rfl⟩, q⟩
    · rw [if_neg hc] at e'; cases e'
  · exact absurd rfl hp
  · have e' : (if j ≠ 0 then some (i.fdiv j) else none) = some k := e
    by_cases hc : j ≠ 0
    · rw [if_pos hc] at e'
      cases e'
      exact iop_fdivG hy pins s σ H _ _ v u Q I rx ry ⟨i, j, rfl, rfl, hc, q⟩
    · rw [if_neg hc] at e'; cases e'

theorem binop_int {op : Op} {i j : Int} {z : EV} (h : binop op (.int i) (.int j) = some z) : ∃ k, binI op i j = some k ∧ z = .int k := by
  have h' : (binI op i j).map EV.int = some z := by
    unfold binop at h
    cases op <;> exact h
  obtain ⟨k, e, rfl⟩ := Option.map_eq_some_iff.mp h'
  exact ⟨k, e, rfl⟩
theorem op_bin (hy : Pyl X) (hK : X.K = G.K) {o : Operator} {op : Op} (ho : opOf o = some op) : OpR X (binaryOp o) (rV G (binop op)) := by
  intro pins s σ H x y v u Q I rx ry h
  obtain ⟨st, S, R, p, q, z, hs, hp, hq, e, k⟩ := h
  by_cases hi : (∃ i, p = .int i) ∧ ∃ j, q = .int j
  · obtain ⟨⟨i, rfl⟩, j, rfl⟩ := hi
    obtain ⟨n, e1, rfl⟩ := binop_int e
    rw [rel_int] at hp hq
    subst hp hq
    exact op_intop hy ho pins s σ H _ _ v u Q I rx ry ⟨i, j, n, rfl, rfl, e1, k _ _ _ (Gr.refl S H) (rel_int.mpr rfl)⟩
  · unfold binop at e
    split at e
    · exact absurd ⟨⟨_, rfl⟩, _, rfl⟩ hi
    · -- tuples
      rename_i a b
      split at e
      · rename_i hl
        cases e
        obtain rfl : o = .Add := by cases o <;> simp [opOf] at ho; rfl
        rw [rel_tupE] at hp hq
        obtain ⟨p1, xs, rfl, hx, rx1⟩ := hp
        obtain ⟨p2, ys, rfl, hy, ry1⟩ := hq
        refine op_catA pins s σ H _ _ v u Q I rx ry ⟨p1, p2, xs, ys, rfl, rfl, by rw [hK]; exact hx, by rw [hK]; exact hy, by rw [rx1.length, ry1.length]; exact hl, fun e0 => ?_, fun _ e0 => ?_, fun _ _ p hp => ?_⟩
        · subst e0
          have ea : a = [] := by have := rx1.length; simpa using this.symm
          subst ea
          exact k _ _ _ (Gr.refl S H) (rel_tupE.mpr ⟨p2, ys, rfl, hy, by simpa using ry1⟩)
        · subst e0
          have ea : b = [] := by have := ry1.length; simpa using this.symm
          subst ea
          exact k _ _ _ (Gr.refl S H) (rel_tupE.mpr ⟨p1, xs, rfl, hx, by simpa using rx1⟩)
        · exact k _ _ _ (gr_upd0 S hp) (rel_tup hs (rx1.append ry1) hp)
      · cases e
    · -- lists
      rename_i a b
      split at e
      · rename_i hl
        cases e
        obtain rfl : o = .Add := by cases o <;> simp [opOf] at ho; rfl
        rw [rel_lstE] at hp hq
        obtain ⟨p1, xs, rfl, _, hx, rx1⟩ := hp
        obtain ⟨p2, ys, rfl, _, hy, ry1⟩ := hq
        exact op_cat pins s σ H _ _ v u Q I rx ry ⟨p1, p2, xs, ys, rfl, rfl, hx, hy, by rw [rx1.length, ry1.length]; exact hl, fun p hp => k _ _ _ (gr_upd S hp) (rel_lst hs (rx1.append ry1) hp)⟩
      · cases e
    · -- texts
      split at e
      · rename_i hl
        cases e
        obtain rfl : o = .Add := by cases o <;> simp [opOf] at ho; rfl
        rw [rel_str] at hp hq
        subst hp hq
        exact op_add_str pins s σ H _ _ v u Q I rx ry ⟨_, _, rfl, rfl, hl, k _ _ _ (Gr.refl S H) (rel_str.mpr rfl)⟩
      · cases e
    · -- t * k
      rename_i a n
      split at e
      · rename_i hl
        cases e
        obtain ⟨h1, h2, h3, h4⟩ := hl
        obtain rfl : o = .Mult := by cases o <;> simp [opOf] at ho; rfl
        rw [rel_tupE] at hp
        rw [rel_int] at hq
        subst hq
        obtain ⟨p1, xs, rfl, hx, rx1⟩ := hp
        have rep : ∀ m : Nat, RelL G H S R (List.replicate m a).flatten (List.replicate m xs).flatten := by
          intro m
          induction m with
          | zero => exact RelL.nil
          | succ m ih => rw [List.replicate_succ, List.replicate_succ, List.flatten_cons, List.flatten_cons]; exact rx1.append ih
        exact op_repT pins s σ H _ _ v u Q I rx ry ⟨p1, n, xs, rfl, rfl, by rw [hK]; exact hx, (fun z => h1 (by subst z; have := rx1.length; simpa using this.symm)), h2, h3, by rw [rx1.length]; exact h4, fun p hp => k _ _ _ (gr_upd0 S hp) (rel_tup hs (rep _) hp)⟩
      · cases e
    · cases e

/-! ### data -/
mutual
theorem rel_dp {G : Wd} {H : Hp} {S : Ad} {R : List Addr} : ∀ (v : EV) {x : V} {d : PyData}, RelE G H S R v x → toD v = some d → Dp G.K H x d
  | .non, x, d, h, e => by rw [rel_non] at h; subst h; cases e; exact .non
  | .bl b, x, d, h, e => by rw [rel_bl] at h; subst h; cases e; exact .bl b
  | .int i, x, d, h, e => by rw [rel_int] at h; subst h; cases e; exact .int i
  | .str s, x, d, h, e => by rw [rel_str] at h; subst h; cases e; exact .str s
  | .tup l, x, d, h, e => by
    rw [rel_tupE] at h
    obtain ⟨a, xs, rfl, hq, hl⟩ := h
    unfold toD at e
    split at e
    · rename_i ds e1
      cases e
      exact .tup hq (rel_dps l hl e1)
    · cases e
  | .lst l, x, d, h, e => by
    rw [rel_lstE] at h
    obtain ⟨a, xs, rfl, _, hq, hl⟩ := h
    unfold toD at e
    split at e
    · rename_i ds e1
      cases e
      exact .lst (SqL.of hq) (rel_dps l hl e1)
    · cases e
  | .dic _ _, x, d, h, e => by unfold toD at e; cases e
  | .scr _, x, d, h, e => by unfold toD at e; cases e
  | .ins _ _, x, d, h, e => by unfold toD at e; cases e
  | .ref _, x, d, h, e => by unfold toD at e; cases e
  | .fn _, x, d, h, e => by unfold toD at e; cases e
theorem rel_dps {G : Wd} {H : Hp} {S : Ad} {R : List Addr} : ∀ (l : List EV) {xs : List V} {ds : List PyData}, RelL G H S R l xs → toDs l = some ds → DpAll G.K H xs ds
  | [], xs, ds, h, e => by unfold RelL at h; subst h; unfold toDs at e; cases e; exact .nil
  | v :: r, xs, ds, h, e => by
    unfold RelL at h
    obtain ⟨x, ys, rfl, h1, h2⟩ := h
    unfold toDs at e
    split at e
    · rename_i d e1
      split at e
      · rename_i ds' e2
        cases e
        exact .cons (rel_dp v h1 e1) (rel_dps r h2 e2)
      · cases e
    · cases e
end
theorem pyEqD_some {a b : EV} {z : Bool} (h : pyEqD a b = some z) : ∃ x y, toD a = some x ∧ toD b = some y ∧ SeqAt.shaped x = true ∧ SeqAt.shaped y = true ∧ z = PyData.eqv x y := by
  unfold pyEqD at h
  split at h
  · rename_i x e1
    split at h
    · rename_i y e2
      split at h
      · rename_i hc
        rw [Bool.and_eq_true] at hc
        cases h
        exact ⟨x, y, e1, e2, hc.1, hc.2, rfl⟩
      · cases h
    · cases h
  · cases h
theorem pyEq_cases {a b : EV} {z : Bool} (h : pyEq a b = some z) : (∃ s t, a = .str s ∧ b = .str t ∧ z = decide (s = t)) ∨ pyEqD a b = some z := by
  unfold pyEq at h
  split at h
  · cases h; exact .inl ⟨_, _, rfl, rfl, rfl⟩
  · exact .inr h
theorem op_eqE (hK : X.K = G.K) (hu : X.A.units + 64 < cLine) : OpR X (compareOp .Eq) (rB G pyEq) := by
  intro pins s σ H x y v u Q I rx ry h
  obtain ⟨st, S, R, p, q, z, hs, hp, hq, e, k⟩ := h
  rcases pyEq_cases e with ⟨t1, t2, rfl, rfl, rfl⟩ | e
  · rw [rel_str] at hp hq
    subst hp hq
    exact op_eq pins s σ H _ _ v u Q I rx ry ⟨rfl, by
      have e : decide (V.str t1 = V.str t2) = decide (t1 = t2) := by rw [Bool.eq_iff_iff]; simp
      rw [e]; exact k⟩
  obtain ⟨d1, d2, e1, e2, s1, s2, rfl⟩ := pyEqD_some e
  exact op_eqD hu pins s σ H x y v u Q I rx ry ⟨d1, d2, by rw [hK]; exact rel_dp p hp e1, by rw [hK]; exact rel_dp q hq e2, s1, s2, k⟩
theorem op_neE (hK : X.K = G.K) (hu : X.A.units + 64 < cLine) : OpR X (compareOp .NotEq) (rB G fun a b => (pyEq a b).map (!·)) := by
  intro pins s σ H x y v u Q I rx ry h
  obtain ⟨st, S, R, p, q, z, hs, hp, hq, e, k⟩ := h
  obtain ⟨z', e', rfl⟩ := Option.map_eq_some_iff.mp e
  rcases pyEq_cases e' with ⟨t1, t2, rfl, rfl, rfl⟩ | e'
  · rw [rel_str] at hp hq
    subst hp hq
    exact op_ne pins s σ H _ _ v u Q I rx ry ⟨rfl, by
      have e : decide (V.str t1 = V.str t2) = decide (t1 = t2) := by rw [Bool.eq_iff_iff]; simp
      rw [e]; exact k⟩
  obtain ⟨d1, d2, e1, e2, s1, s2, rfl⟩ := pyEqD_some e'
  exact op_neD hu pins s σ H x y v u Q I rx ry ⟨d1, d2, by rw [hK]; exact rel_dp p hp e1, by rw [hK]; exact rel_dp q hq e2, s1, s2, k⟩
end
end Py
namespace Py
open PySem PySem.Spec PyProof.Rows L2
section
variable {X : Cx} {G : Wd}
/-! ### comparisons -/
theorem scEq_some {a b : EV} {c : Bool} (h : cmpop.scEq b a = some c) {H : Hp} {S : Ad} {R : List Addr} {x y : V} (ha : RelE G H S R a x) (hb : RelE G H S R b y) : flatV x = true ∧ flatV y = true ∧ eqV y x = c := by
  unfold cmpop.scEq at h
  split at h
  · rw [rel_int] at ha hb
    subst ha hb
    cases h
    refine ⟨rfl, rfl, ?_⟩
    show (_ == _) = _
    rw [Bool.beq_eq_decide_eq]
  · rw [rel_str] at ha hb
    subst ha hb
    cases h
    refine ⟨rfl, rfl, ?_⟩
    show (_ == _) = _
    rw [Bool.beq_eq_decide_eq]
  · cases h
theorem pyIn_some {a : EV} {H : Hp} {S : Ad} {R : List Addr} {x : V} (ha : RelE G H S R a x) (fx : flatV x = true) : ∀ {l : List EV} {xs : List V} {c : Bool}, RelL G H S R l xs → cmpop.pyIn a l = some c → xs.all flatV = true ∧ inV x xs = c
  | [], xs, c, hl, h => by
    unfold RelL at hl
    subst hl
    unfold cmpop.pyIn at h
    cases h
    exact ⟨rfl, rfl⟩
  | b :: r, xs, c, hl, h => by
    unfold RelL at hl
    obtain ⟨y, ys, rfl, h1, h2⟩ := hl
    unfold cmpop.pyIn at h
    split at h
    · rename_i c1 e1
      obtain ⟨c2, e2, rfl⟩ := Option.map_eq_some_iff.mp h
      obtain ⟨_, f2, f3⟩ := scEq_some e1 ha h1
      obtain ⟨g1, g2⟩ := pyIn_some ha fx h2 e2
      refine ⟨?_, ?_⟩
      · rw [List.all_cons, f2, g1]; rfl
      · unfold inV at g2 ⊢
        rw [List.any_cons, f3, g2]
    · cases h
/-- in, not in: a list or tuple of scalars -/
theorem op_inE (hK : X.K = G.K) (neg : Bool) {l : List EV} {a z : EV} {c : Bool} {pins : List (Addr × Obj)} {s : Shared} {σ : L2.St} {H : Hp} {S : Ad} {R : List Addr} {x y : V} {v u : Value} {Q : VK}
    (hz : z = .tup l ∨ z = .lst l) (I : L2.Inv X pins σ H s) (rx : RelV x v) (ry : RelV y u) (ha : RelE G H S R a x) (hl : RelE G H S R z y) (hs : cmpop.isSc a = true) (e : cmpop.pyIn a l = some c) (k : Q (.bl (if neg then !c else c)) H) :
    wpAny (model X.prog X.w) X.A (compareOp (if neg then .NotIn else .In) v u) (EP X pins σ Q) X.xe s := by
  have fx : flatV x = true := by
    unfold cmpop.isSc at hs
    split at hs
    · rw [rel_int] at ha; subst ha; rfl
    · rw [rel_str] at ha; subst ha; rfl
    · cases hs
  have key : ∃ p xs, y = .ref p ∧ (SqL X.K H p xs ∨ SqT X.K H p xs) ∧ RelL G H S R l xs := by
    rcases hz with rfl | rfl
    · rw [rel_tupE] at hl
      obtain ⟨p, xs, e1, e2, e3⟩ := hl
      exact ⟨p, xs, e1, .inr (by rw [hK]; exact e2), e3⟩
    · rw [rel_lstE] at hl
      obtain ⟨p, xs, e1, _, e2, e3⟩ := hl
      exact ⟨p, xs, e1, .inl (SqL.of e2), e3⟩
  obtain ⟨p, xs, rfl, hq, r⟩ := key
  obtain ⟨g1, g2⟩ := pyIn_some ha fx r e
  cases neg with
  | true => exact op_notIn_seq pins s σ H _ _ v u Q I rx ry ⟨p, xs, rfl, hq, fx, g1, by rw [g2]; exact k⟩
  | false => exact op_in_seq pins s σ H _ _ v u Q I rx ry ⟨p, xs, rfl, hq, fx, g1, by rw [g2]; exact k⟩
theorem inC_some {a b : EV} {c : Bool} (h : cmpop.inC a b = some c) : ∃ l, (b = .tup l ∨ b = .lst l) ∧ cmpop.isSc a = true ∧ cmpop.pyIn a l = some c := by
  unfold cmpop.inC at h
  split at h
  · split at h
    · exact ⟨_, .inl rfl, by assumption, h⟩
    · cases h
  · split at h
    · exact ⟨_, .inr rfl, by assumption, h⟩
    · cases h
  · cases h
theorem isNon_eq {a : EV} {H : Hp} {S : Ad} {R : List Addr} {x : V} (h : RelE G H S R a x) : decide (x = .non) = isNon a := by
  cases a with
  | non => rw [rel_non] at h; subst h; rfl
  | bl _ => rw [rel_bl] at h; subst h; rfl
  | int _ => rw [rel_int] at h; subst h; rfl
  | str _ => rw [rel_str] at h; subst h; rfl
  | tup _ => rw [rel_tupE] at h; obtain ⟨_, _, rfl, _⟩ := h; rfl
  | lst _ => rw [rel_lstE] at h; obtain ⟨_, _, rfl, _⟩ := h; rfl
  | dic _ _ => unfold RelE at h; obtain ⟨_, _, _, rfl, _⟩ := h; rfl
  | scr _ => unfold RelE at h; obtain ⟨_, rfl, _⟩ := h; rfl
  | ins _ _ => unfold RelE at h; obtain ⟨_, _, _, rfl, _⟩ := h; rfl
  | ref _ => unfold RelE at h; obtain ⟨_, rfl, _⟩ := h; rfl
  | fn _ => unfold RelE at h; exact h.elim
theorem op_cmpE (hK : X.K = G.K) (hu : X.A.units + 64 < cLine) {o : CmpOp} {op : Cmp} (ho : cmpOf o = some op) (h1 : o ≠ .Is) (h2 : o ≠ .IsNot) : OpR X (compareOp o) (rB G (cmpop op)) := by
  intro pins s σ H x y v u Q I rx ry h
  cases o <;> cases ho
  · obtain ⟨st, S, R, p, q, z, hs, hp, hq, e, k⟩ := h
    exact op_eqE hK hu pins s σ H x y v u Q I rx ry ⟨st, S, R, p, q, z, hs, hp, hq, e, k⟩
  · obtain ⟨st, S, R, p, q, z, hs, hp, hq, e, k⟩ := h
    exact op_neE hK hu pins s σ H x y v u Q I rx ry ⟨st, S, R, p, q, z, hs, hp, hq, e, k⟩
  · obtain ⟨st, S, R, p, q, z, hs, hp, hq, e, k⟩ := h
    unfold cmpop at e
    split at e <;> first | cases e | skip
    all_goals try contradiction
    rw [rel_int] at hp hq
    subst hp hq
    exact op_lt pins s σ H _ _ v u Q I rx ry ⟨_, _, rfl, rfl, k⟩
  · obtain ⟨st, S, R, p, q, z, hs, hp, hq, e, k⟩ := h
    unfold cmpop at e
    split at e <;> first | cases e | skip
    all_goals try contradiction
    rw [rel_int] at hp hq
    subst hp hq
    exact op_le pins s σ H _ _ v u Q I rx ry ⟨_, _, rfl, rfl, k⟩
  · obtain ⟨st, S, R, p, q, z, hs, hp, hq, e, k⟩ := h
    unfold cmpop at e
    split at e <;> first | cases e | skip
    all_goals try contradiction
    rw [rel_int] at hp hq
    subst hp hq
    exact op_gt pins s σ H _ _ v u Q I rx ry ⟨_, _, rfl, rfl, k⟩
  · obtain ⟨st, S, R, p, q, z, hs, hp, hq, e, k⟩ := h
    unfold cmpop at e
    split at e <;> first | cases e | skip
    all_goals try contradiction
    rw [rel_int] at hp hq
    subst hp hq
    exact op_ge pins s σ H _ _ v u Q I rx ry ⟨_, _, rfl, rfl, k⟩
  · exact absurd rfl h1
  · exact absurd rfl h2
  · obtain ⟨st, S, R, p, q, z, hs, hp, hq, e, k⟩ := h
    have e' : cmpop.inC p q = some z := e
    obtain ⟨l, e1, e2, e3⟩ := inC_some e'
    exact op_inE hK false e1 I rx ry hp hq e2 e3 k
  · obtain ⟨st, S, R, p, q, z, hs, hp, hq, e, k⟩ := h
    have e' : (cmpop.inC p q).map (!·) = some z := e
    obtain ⟨c, e4, rfl⟩ := Option.map_eq_some_iff.mp e'
    obtain ⟨l, e1, e2, e3⟩ := inC_some e4
    exact op_inE hK true e1 I rx ry hp hq e2 e3 k
theorem op_isE (hK : X.K = G.K) {neg : Bool} {a : Expr} {j : Nat} {p p2 : Pos} {ta : TE} (ha : PE X a ta) : PE X (.Compare a [if neg then .IsNot else .Is] [.Constant .none j p] p2) (fun σ H Q => ta σ H fun x H1 => Q (.bl (if neg then !decide (x = .non) else decide (x = .non))) H1) := by
  cases neg with
  | true => exact pe_cmp (pc_notN ha) rfl
  | false => exact pe_cmp (pc_isN ha) rfl

/-! ### items, slices -/
/-- a[i]: of the store's lists too -/
def rIt (G : Wd) : R2 := fun x y H Q => ∃ st S R v w z, StOk G H S R st ∧ RelE G H S R v x ∧ RelE G H S R w y ∧ itemM v w st = .ok z st ∧ ∀ u, RelE G H S R z u → Q u H
theorem atI_get {l : List EV} {i : Int} {z : EV} (h : atI l i = some z) {H : Hp} {S : Ad} {R : List Addr} {xs : List V} (r : RelL G H S R l xs) : ∃ u, atI xs i = some u ∧ RelE G H S R z u := by
  unfold atI at h ⊢
  rw [r.length]
  cases e : ixN l.length i with
  | none => rw [e] at h; cases h
  | some k =>
    rw [e] at h
    exact r.get h
theorem ix_it (hK : X.K = G.K) : IxR X (rIt G) := by
  intro value slice pins s σ H x y v u Q I rx ry h hs
  obtain ⟨st, S, R, p, q, z, ok, hp, hq, e, k⟩ := h
  have fin : ∀ (l : List EV) (i : Int) (a : Addr) (xs : List V), x = .ref a → y = .int i → (SqL X.K H a xs ∨ SqT X.K H a xs) → RelL G H S R l xs → atI l i = some z → wpAny (model X.prog X.w) X.A (subscriptTail value slice v u) (EP X pins σ Q) X.xe s := by
    intro l i a xs ex ey hsq r hz
    subst ex ey
    obtain ⟨w, e1, e2⟩ := atI_get hz r
    rcases hsq with h5 | h5
    · exact ix_seq value slice pins s σ H _ _ v u Q I rx ry (.inl ⟨a, xs, i, w, rfl, rfl, h5, e1, k w e2⟩) hs
    · exact ix_seq value slice pins s σ H _ _ v u Q I rx ry (.inr (.inl ⟨a, xs, i, w, rfl, rfl, h5, e1, k w e2⟩)) hs
  unfold itemM at e
  split at e
  · rename_i kk
    rw [rel_refE] at hp
    obtain ⟨a, rfl, hR⟩ := hp
    cases es : st[kk]? with
    | none => rw [es] at e; cases e
    | some o =>
      rw [es] at e
      cases o with
      | ins c fs => cases e
      | lst l =>
        have so := ok.so kk a _ hR es
        obtain ⟨xs, e1, r⟩ := so
        cases q with
        | int i =>
          rw [rel_int] at hq
          have e' : (match atI l i with
            | some v => Res.ok v st
            | none => Res.bad) = Res.ok z st := e
          cases ez : atI l i with
          | none => rw [ez] at e'; cases e'
          | some z' =>
            rw [ez] at e'
            cases e'
            exact fin l i a xs rfl hq (.inl (SqL.of e1)) r ez
        | _ => cases e
  · rename_i hne
    have e' : item p q = some z := by
      cases ei : item p q with
      | none => rw [ei] at e; cases e
      | some z' => rw [ei] at e; cases e; rfl
    unfold item at e'
    split at e'
    · rw [rel_tupE] at hp
      obtain ⟨a, xs, rfl, h1, h2⟩ := hp
      rw [rel_int] at hq
      exact fin _ _ a xs rfl hq (.inr (by rw [hK]; exact h1)) h2 e'
    · rw [rel_lstE] at hp
      obtain ⟨a, xs, rfl, _, h1, h2⟩ := hp
      rw [rel_int] at hq
      exact fin _ _ a xs rfl hq (.inl (SqL.of h1)) h2 e'
    · cases e'
def rSlE (G : Wd) : V → Option Int → Option Int → Hp → VK → Prop := fun x lo hi H Q => ∃ st S R v z, StOk G H S R st ∧ RelE G H S R v x ∧ slice v lo hi = some z ∧ ∀ u H' S', Gr S H S' H' → RelE G H' S' R z u → Q u H'
theorem RelL.cut {l : List EV} {xs : List V} {lo hi : Option Int} {H : Hp} {S : Ad} {R : List Addr} (r : RelL G H S R l xs) : RelL G H S R (Py.cut l lo hi) (cutV xs lo hi) := by
  unfold Py.cut cutV
  rw [r.length]
  exact (r.drop _).take _
theorem cut_map {α β : Type} (f : α → β) (l : List α) (lo hi : Option Int) : (Py.cut l lo hi).map f = Py.cut (l.map f) lo hi := by
  unfold Py.cut
  rw [List.map_take, List.map_drop, List.length_map]
theorem relL_ints {H : Hp} {S : Ad} {R : List Addr} : ∀ ns : List Int, RelL G H S R (ns.map EV.int) (ns.map V.int)
  | [] => RelL.nil
  | n :: r => RelL.cons (rel_int.mpr rfl) (relL_ints r)
theorem cut_all {l : List EV} {lo hi : Option Int} (h : HT.sIx l.length 0 lo = 0 ∧ HT.sIx l.length l.length hi = l.length) : Py.cut l lo hi = l := by
  unfold Py.cut
  rw [h.1, h.2]
  simp
theorem sl_it (hK : X.K = G.K) : SlR X (rSlE G) := by
  intro pins s σ H x v vl vu lo hi sl Q I rx hs pl pu h
  obtain ⟨st, S, R, p, z, ok, hp, e, k⟩ := h
  unfold slice at e
  split at e
  · cases e
    rw [rel_tupE] at hp
    obtain ⟨a, xs, rfl, h1, h2⟩ := hp
    refine sl_tupA pins s σ H _ v vl vu lo hi sl Q I rx hs pl pu ⟨a, xs, rfl, by rw [hK]; exact h1, fun hw => ?_, fun _ q hq => k _ _ _ (gr_upd0 S hq) (rel_tup ok h2.cut hq)⟩
    refine k _ _ _ (Gr.refl S H) ?_
    rw [h2.length] at hw
    rw [cut_all hw]
    exact rel_tupE.mpr ⟨a, xs, rfl, h1, h2⟩
  · cases e
    rw [rel_lstE] at hp
    obtain ⟨a, xs, rfl, _, h1, h2⟩ := hp
    exact sl_list pins s σ H _ v vl vu lo hi sl Q I rx hs pl pu ⟨a, xs, rfl, SqL.of h1, fun q hq => k _ _ _ (gr_upd S hq) (rel_lst ok h2.cut hq)⟩
  · cases e
    unfold RelE at hp
    obtain ⟨a, rfl, h1⟩ := hp
    refine sl_list pins s σ H _ v vl vu lo hi sl Q I rx hs pl pu ⟨a, _, rfl, by rw [hK]; exact h1.seq, fun q hq => k _ _ _ (gr_upd S hq) (rel_lst ok ?_ hq)⟩
    rw [cut_map]
    exact (relL_ints _).cut
  · cases e
end
end Py
end
section
/-! PyBi: built-in functions over trees. -/
namespace Py
open PySem PySem.Spec PyProof.Rows L2 PySem.W

section
variable {prog : Program} {w : World} {A : Around} {E : Value → Shared → Prop} {s : Shared} {β : Type} {vs : List Value} {bs : List β} {enc : β → PyData} {RR : Value → β → Prop}
theorem keyLt_general (x y : Value) : keyLt' general' x y = oneLt' false x y := rfl
/-- one value alone can be sorted -/
theorem sorts_few {ds : List PyData} (hl : vs.length ≤ 1) (e : EachIs (fun v d => ∃ as, Reads s.heap v d as) vs ds) (hal : AllAlike ds) (hn : ∀ d ∈ ds, d ≠ .none) (hu : ∀ d, d ∈ ds → A.units + d.depth < cLine) : SortsAt prog w A s (dataKind s.heap ds) vs := by
  refine ⟨fun v hv => ?_, general', ?_, fun h2 => absurd h2 (by omega)⟩
  · obtain ⟨d, hd, as, r⟩ := e.left v hv
    exact ⟨_, dataKind_some hal hd r⟩
  · intro E x y a b Q ha hb hq
    obtain ⟨d, as, hd, ra, rfl⟩ := dataKind_inv ha
    obtain ⟨d', as', hd', rb, rfl⟩ := dataKind_inv hb
    rw [keyLt_general]
    exact oneLt_alike (fun z => nomatch z) ra rb (hal d hd d' hd') (hn d hd) (Nat.lt_of_le_of_lt (Nat.add_le_add_left (Nat.min_le_left _ _) _) (hu d hd)) hq
theorem sorted_data1 {l : Addr} {Q : Value → Shared → Prop} (hl : s.heap.IsList l vs.toArray) (e : EachIs RR vs bs) (er : EachIs (fun v b => ∃ as, Reads s.heap v (enc b) as) vs bs) (hal : AllAlike (bs.map enc)) (hk : Sortable (bs.map enc) ∨ (vs.length ≤ 1 ∧ ∀ d ∈ bs.map enc, d ≠ .none)) (hL : bs.length ≤ sizeLine)
    (hu : ∀ b, b ∈ bs → A.units + 2 + (enc b).depth < cLine) (h : ∀ out, out.length = bs.length → EachIs RR out (bs.mergeSort (dataLe false enc)) → Q (.ref (s.heap.objs.size + 1)) { s with heap := sortedAll s.heap vs (List.toArray out) }) :
    wpAny (model prog w) A (call (.builtin "sorted") [.ref l]) Q E s := by
  have er' : EachIs (fun v b => ∃ as, Reads (sortingHeap (copyHeap s.heap vs) (s.heap.objs.size + 1) vs) v (enc b) as) vs bs := er.mono fun _ _ ⟨as, r⟩ => ⟨as, PyProof.Rows.Reads.keeps (fun _ _ => sorting_copy_old) r⟩
  have em := each_map (R := fun v d => ∃ as, Reads (sortingHeap (copyHeap s.heap vs) (s.heap.objs.size + 1) vs) v d as) enc er'
  refine sorted_vals (κ := dataKind (sortingHeap (copyHeap s.heap vs) (s.heap.objs.size + 1) vs) (bs.map enc)) hl ?_ (by rw [e.length]; exact hL) (h _ (by rw [sortVals_length false rfl]; exact e.length) (sortVals_data false e er' hal))
  rcases hk with hk | ⟨h1, h2⟩
  · exact SortsAt.data (s := { s with heap := sortingHeap (copyHeap s.heap vs) (s.heap.objs.size + 1) vs }) em hal hk (bound_map hu)
  · exact sorts_few (s := { s with heap := sortingHeap (copyHeap s.heap vs) (s.heap.objs.size + 1) vs }) h1 em hal h2 (bound_map hu)
end
theorem dataLt_tups (x y : List Int) : dataLt (.tuple (x.map .int)) (.tuple (y.map .int)) = decide (x < y) := by
  rw [dataLt_tuple]
  exact dataLt_ints x y
theorem dataLe_tups : dataLe false (fun b : List Int => PyData.tuple (b.map .int)) = fun a b => !decide (b < a) := by
  funext a b
  show (!dataLt (.tuple (b.map .int)) (.tuple (a.map .int))) = _
  rw [dataLt_tups]

theorem each_of_vals {P : V → Value → Prop} {α : Type} {F : α → V → Prop} : ∀ {l : List α} {xs : List V} {us : List Value}, Vals xs us → l.length = xs.length → (∀ (i : Nat) (a : α) (x : V), l[i]? = some a → xs[i]? = some x → F a x) → EachIs (fun u a => ∃ x, RelV x u ∧ F a x) us l
  | [], [], _, .nil, _, _ => .nil
  | a :: l, x :: xs, _, .cons r t, hl, hf => .cons ⟨x, r, hf 0 a x rfl rfl⟩ (each_of_vals (P := P) t (by simpa using hl) fun i a x h1 h2 => hf (i + 1) a x (by simpa using h1) (by simpa using h2))
/-- the values behind a sort -/
theorem vals_of_each {α : Type} {F : α → V → Prop} : ∀ {us : List Value} {l : List α}, EachIs (fun u a => ∃ x, RelV x u ∧ F a x) us l → ∃ xs, Vals xs us ∧ xs.length = l.length ∧ ∀ (i : Nat) (a : α) (x : V), l[i]? = some a → xs[i]? = some x → F a x
  | _, _, .nil => ⟨[], .nil, rfl, fun i a x h _ => by simp at h⟩
  | _, _, .cons ⟨x, r, hf⟩ t => by
    obtain ⟨xs, h1, h2, h3⟩ := vals_of_each t
    refine ⟨x :: xs, .cons r h1, by simp [h2], fun i a y e1 e2 => ?_⟩
    cases i with
    | zero => simp at e1 e2; subst e1 e2; exact hf
    | succ i => exact h3 i a y (by simpa using e1) (by simpa using e2)
theorem relL_of {G : Wd} {H : Hp} {S : Ad} {R : List Addr} {α : Type} (f : α → EV) : ∀ {l : List α} {xs : List V}, xs.length = l.length → (∀ (i : Nat) (a : α) (x : V), l[i]? = some a → xs[i]? = some x → RelE G H S R (f a) x) → RelL G H S R (l.map f) xs
  | [], [], _, _ => RelL.nil
  | a :: l, x :: xs, hl, h => RelL.cons (h 0 a x rfl rfl) (relL_of f (by simpa using hl) fun i b y e1 e2 => h (i + 1) b y (by simpa using e1) (by simpa using e2))
theorem intsOf_some : ∀ {l : List EV} {ns : List Int}, intsOf l = some ns → l = ns.map EV.int
  | [], ns, h => by unfold intsOf at h; cases h; rfl
  | v :: r, ns, h => by
    unfold intsOf at h
    split at h
    · rename_i e0; cases e0
    · rename_i i r' e
      cases e
      obtain ⟨ms, e1, rfl⟩ := Option.map_eq_some_iff.mp h
      rw [intsOf_some e1]
      rfl
    · cases h
theorem boolsOf_some : ∀ {l : List EV} {ns : List Bool}, boolsOf l = some ns → l = ns.map EV.bl
  | [], ns, h => by unfold boolsOf at h; cases h; rfl
  | v :: r, ns, h => by
    unfold boolsOf at h
    split at h
    · rename_i e0; cases e0
    · rename_i i r' e
      cases e
      obtain ⟨ms, e1, rfl⟩ := Option.map_eq_some_iff.mp h
      rw [boolsOf_some e1]
      rfl
    · cases h
theorem intssOf_some : ∀ {l : List EV} {ns : List (List Int)}, intssOf l = some ns → l = ns.map fun n => EV.tup (n.map EV.int)
  | [], ns, h => by unfold intssOf at h; cases h; rfl
  | v :: r, ns, h => by
    unfold intssOf at h
    split at h
    · rename_i e0; cases e0
    · rename_i i r' e
      cases e
      split at h
      · rename_i ms e2
        obtain ⟨ms', e1, rfl⟩ := Option.map_eq_some_iff.mp h
        rw [intssOf_some e1, intsOf_some e2]
        rfl
      · cases h
    · cases h
theorem relL_intsV {G : Wd} {H : Hp} {S : Ad} {R : List Addr} : ∀ {ns : List Int} {xs : List V}, RelL G H S R (ns.map EV.int) xs → xs = ns.map V.int
  | [], xs, h => by simp only [List.map_nil] at h; unfold RelL at h; exact h
  | n :: r, xs, h => by
    simp only [List.map_cons] at h
    unfold RelL at h
    obtain ⟨x, ys, rfl, h1, h2⟩ := h
    rw [rel_int] at h1
    rw [h1, relL_intsV h2]
    rfl
theorem relL_blsV {G : Wd} {H : Hp} {S : Ad} {R : List Addr} : ∀ {ns : List Bool} {xs : List V}, RelL G H S R (ns.map EV.bl) xs → xs = ns.map V.bl
  | [], xs, h => by simp only [List.map_nil] at h; unfold RelL at h; exact h
  | n :: r, xs, h => by
    simp only [List.map_cons] at h
    unfold RelL at h
    obtain ⟨x, ys, rfl, h1, h2⟩ := h
    rw [rel_bl] at h1
    rw [h1, relL_blsV h2]
    rfl
theorem toDs_ints : ∀ ns : List Int, toDs (ns.map EV.int) = some (ns.map PyData.int)
  | [] => rfl
  | n :: r => by
    rw [List.map_cons, List.map_cons]
    unfold toDs
    rw [toDs_ints r]
    rfl
theorem toD_tup (n : List Int) : toD (.tup (n.map EV.int)) = some (.tuple (n.map PyData.int)) := by
  unfold toD
  rw [toDs_ints]

section
variable {X : Cx} {G : Wd}
mutual
theorem noDict : ∀ (v : EV) {d : PyData}, toD v = some d → d.hasDict = false
  | .non, d, h => by unfold toD at h; cases h; rfl
  | .bl _, d, h => by unfold toD at h; cases h; rfl
  | .int _, d, h => by unfold toD at h; cases h; rfl
  | .str _, d, h => by unfold toD at h; cases h; rfl
  | .tup l, d, h => by
    unfold toD at h
    cases e : toDs l with
    | none => rw [e] at h; cases h
    | some ds => rw [e] at h; cases h; exact noDictL l e
  | .lst l, d, h => by
    unfold toD at h
    cases e : toDs l with
    | none => rw [e] at h; cases h
    | some ds => rw [e] at h; cases h; exact noDictL l e
  | .dic _ _, d, h => by unfold toD at h; cases h
  | .scr _, d, h => by unfold toD at h; cases h
  | .ins _ _, d, h => by unfold toD at h; cases h
  | .ref _, d, h => by unfold toD at h; cases h
  | .fn _, d, h => by unfold toD at h; cases h
theorem noDictL : ∀ (l : List EV) {ds : List PyData}, toDs l = some ds → PyData.hasDictAll ds = false
  | [], ds, h => by unfold toDs at h; cases h; rfl
  | v :: r, ds, h => by
    unfold toDs at h
    cases e : toD v with
    | none => rw [e] at h; cases h
    | some d =>
      rw [e] at h
      cases e2 : toDs r with
      | none => rw [e2] at h; cases h
      | some dr =>
        rw [e2] at h
        cases h
        unfold PyData.hasDictAll
        rw [noDict v e, noDictL r e2]
        rfl
end
def rBi (G : Wd) (b : Bi) : List V → Hp → VK → Prop := fun xs H Q => ∃ st S R vs z, StOk G H S R st ∧ RelL G H S R vs xs ∧ bi b vs = some z ∧ ∀ u H' S', Gr S H S' H' → RelE G H' S' R z u → Q u H'
theorem relL1 {H : Hp} {S : Ad} {R : List Addr} {v : EV} {xs : List V} (h : RelL G H S R [v] xs) : ∃ x, xs = [x] ∧ RelE G H S R v x := by
  unfold RelL at h
  obtain ⟨x, ys, rfl, h1, h2⟩ := h
  unfold RelL at h2
  subst h2
  exact ⟨x, rfl, h1⟩
theorem cr_len (hK : X.K = G.K) : CallR X (.builtin "len") (rBi G .len) := by
  intro pins s σ H xs us Q I r h
  obtain ⟨st, S, R, vs, z, ok, hv, e, k⟩ := h
  unfold bi at e
  split at e <;> first | cases e | skip
  all_goals try contradiction
  · obtain ⟨x, rfl, h1⟩ := relL1 hv
    rw [rel_tupE] at h1
    obtain ⟨a, ys, rfl, h2, h3⟩ := h1
    refine call_len pins s σ H _ us Q I r ⟨_, _, rfl, .inr ⟨ys, by rw [hK]; exact h2, rfl⟩, ?_⟩
    rw [h3.length]
    exact k _ _ _ (Gr.refl S H) (rel_int.mpr rfl)
  · obtain ⟨x, rfl, h1⟩ := relL1 hv
    rw [rel_lstE] at h1
    obtain ⟨a, ys, rfl, _, h2, h3⟩ := h1
    refine call_len pins s σ H _ us Q I r ⟨_, _, rfl, .inl ⟨ys, SqL.of h2, rfl⟩, ?_⟩
    rw [h3.length]
    exact k _ _ _ (Gr.refl S H) (rel_int.mpr rfl)
theorem cr_int : CallR X (.type "int") (rBi G .int) := by
  intro pins s σ H xs us Q I r h
  obtain ⟨st, S, R, vs, z, ok, hv, e, k⟩ := h
  unfold bi at e
  split at e <;> first | cases e | skip
  all_goals try contradiction
  obtain ⟨x, rfl, h1⟩ := relL1 hv
  rw [rel_int] at h1
  subst h1
  exact call_int1 pins s σ H _ us Q I r (.inl ⟨_, rfl, k _ _ _ (Gr.refl S H) (rel_int.mpr rfl)⟩)
theorem cr_abs : CallR X (.builtin "abs") (rBi G .abs) := by
  intro pins s σ H xs us Q I r h
  obtain ⟨st, S, R, vs, z, ok, hv, e, k⟩ := h
  unfold bi at e
  split at e <;> first | cases e | skip
  all_goals try contradiction
  obtain ⟨x, rfl, h1⟩ := relL1 hv
  rw [rel_int] at h1
  subst h1
  exact call_abs pins s σ H _ us Q I r ⟨_, rfl, k _ _ _ (Gr.refl S H) (rel_int.mpr rfl)⟩
theorem cr_tuple (hK : X.K = G.K) : CallR X (.type "tuple") (rBi G .tuple) := by
  intro pins s σ H xs us Q I r h
  obtain ⟨st, S, R, vs, z, ok, hv, e, k⟩ := h
  unfold bi at e
  split at e <;> first | cases e | skip
  all_goals try contradiction
  · obtain ⟨x, rfl, h1⟩ := relL1 hv
    rw [rel_lstE] at h1
    obtain ⟨a, ys, rfl, _, h2, h3⟩ := h1
    exact call_tuple_of pins s σ H _ us Q I r ⟨a, ys, rfl, .inl ⟨SqL.of h2, fun l hl => k _ _ _ (gr_upd0 S hl) (rel_tup ok h3 hl)⟩⟩
  · obtain ⟨x, rfl, h1⟩ := relL1 hv
    have h1' := h1
    rw [rel_tupE] at h1
    obtain ⟨a, ys, rfl, h2, h3⟩ := h1
    exact call_tuple_of pins s σ H _ us Q I r ⟨a, ys, rfl, .inr ⟨by rw [hK]; exact h2, k _ _ _ (Gr.refl S H) h1'⟩⟩
theorem cr_list (hK : X.K = G.K) : CallR X (.type "list") (rBi G .list) := by
  intro pins s σ H xs us Q I r h
  obtain ⟨st, S, R, vs, z, ok, hv, e, k⟩ := h
  unfold bi at e
  split at e <;> first | cases e | skip
  all_goals try contradiction
  · obtain ⟨x, rfl, h1⟩ := relL1 hv
    rw [rel_lstE] at h1
    obtain ⟨a, ys, rfl, _, h2, h3⟩ := h1
    exact call_list_of pins s σ H _ us Q I r ⟨a, ys, rfl, .inl (SqL.of h2), fun l hl => k _ _ _ (gr_upd S hl) (rel_lst ok h3 hl)⟩
  · obtain ⟨x, rfl, h1⟩ := relL1 hv
    rw [rel_tupE] at h1
    obtain ⟨a, ys, rfl, h2, h3⟩ := h1
    exact call_list_of pins s σ H _ us Q I r ⟨a, ys, rfl, .inr (by rw [hK]; exact h2), fun l hl => k _ _ _ (gr_upd S hl) (rel_lst ok h3 hl)⟩
theorem cr_sumE (hc : X.calm = true) : CallR X (.builtin "sum") (rBi G .sum) := by
  intro pins s σ H xs us Q I r h
  obtain ⟨st, S, R, vs, z, ok, hv, e, k⟩ := h
  unfold bi at e
  split at e <;> first | cases e | skip
  all_goals try contradiction
  obtain ⟨x, rfl, h1⟩ := relL1 hv
  obtain ⟨ns, e1, rfl⟩ := Option.map_eq_some_iff.mp e
  rw [rel_lstE] at h1
  obtain ⟨a, ys, rfl, _, h2, h3⟩ := h1
  rw [intsOf_some e1] at h3
  rw [relL_intsV h3] at h2
  exact cr_sum hc pins s σ H _ us Q I r ⟨a, ns, rfl, SqL.of h2, k _ _ _ (Gr.refl S H) (rel_int.mpr rfl)⟩
theorem cr_allE (hc : X.calm = true) : CallR X (.builtin "all") (rBi G .all) := by
  intro pins s σ H xs us Q I r h
  obtain ⟨st, S, R, vs, z, ok, hv, e, k⟩ := h
  unfold bi at e
  split at e <;> first | cases e | skip
  all_goals try contradiction
  obtain ⟨x, rfl, h1⟩ := relL1 hv
  obtain ⟨ns, e1, rfl⟩ := Option.map_eq_some_iff.mp e
  rw [rel_lstE] at h1
  obtain ⟨a, ys, rfl, _, h2, h3⟩ := h1
  rw [boolsOf_some e1] at h3
  rw [relL_blsV h3] at h2
  exact cr_all hc pins s σ H _ us Q I r ⟨a, ns, rfl, SqL.of h2, k _ _ _ (Gr.refl S H) (rel_bl.mpr rfl)⟩
theorem cr_anyE (hc : X.calm = true) : CallR X (.builtin "any") (rBi G .any) := by
  intro pins s σ H xs us Q I r h
  obtain ⟨st, S, R, vs, z, ok, hv, e, k⟩ := h
  unfold bi at e
  split at e <;> first | cases e | skip
  all_goals try contradiction
  obtain ⟨x, rfl, h1⟩ := relL1 hv
  obtain ⟨ns, e1, rfl⟩ := Option.map_eq_some_iff.mp e
  rw [rel_lstE] at h1
  obtain ⟨a, ys, rfl, _, h2, h3⟩ := h1
  rw [boolsOf_some e1] at h3
  rw [relL_blsV h3] at h2
  exact cr_any hc pins s σ H _ us Q I r ⟨a, ns, rfl, SqL.of h2, k _ _ _ (Gr.refl S H) (rel_bl.mpr rfl)⟩
/-- sorted, by what the items read as -/
theorem sorted_by {β : Type} (f : β → EV) (enc : β → PyData) (hf : ∀ b, toD (f b) = some (enc b)) {pins : List (Addr × Obj)} {s : Shared} {σ : L2.St} {H : Hp} {S : Ad} {R : List Addr} {st : Store} {Q : VK} {bs : List β} {a : Addr} {xs : List V}
    (I : L2.Inv X pins σ H s) (hK : X.K = G.K) (ok : StOk G H S R st) (ha : H a = some (.lst xs)) (hl : RelL G H S R (bs.map f) xs) (hal : AllAlike (bs.map enc)) (hk : Sortable (bs.map enc) ∨ (bs.length ≤ 1 ∧ ∀ d ∈ bs.map enc, d ≠ .none)) (hu : X.A.units + 64 < cLine) (hd : ∀ b ∈ bs, (enc b).depth ≤ 60)
    (k : ∀ u H' S', Gr S H S' H' → RelE G H' S' R (.lst ((bs.mergeSort (dataLe false enc)).map f)) u → Q u H') : wpAny (model X.prog X.w) X.A (call (.builtin "sorted") [.ref a]) (EP X pins σ Q) X.xe s := by
  obtain ⟨its, rv, pl, hz⟩ := I.list (SqL.of ha)
  have len := hl.length
  rw [List.length_map] at len
  have fx : ∀ (i : Nat) (b : β) (x : V), bs[i]? = some b → xs[i]? = some x → RelE G H S R (f b) x := fun i b x e1 e2 => by
    obtain ⟨y, e3, e4⟩ := hl.get (i := i) (v := f b) (by rw [List.getElem?_map, e1]; rfl)
    rw [e2] at e3; cases e3; exact e4
  have e1 : EachIs (fun u b => ∃ x, RelV x u ∧ RelE G H S R (f b) x) its bs := each_of_vals (P := fun _ _ => True) rv len.symm fx
  have er : EachIs (fun u b => ∃ as, Reads s.heap u (enc b) as) its bs := e1.mono fun u b ⟨x, r, h⟩ => by
    have dp := rel_dp (f b) h (hf b)
    rw [← hK] at dp
    exact Dp.reads I _ _ _ dp r
  refine sorted_data1 (enc := enc) pl.isList e1 er hal (by rw [← rv.length, len]; exact hk) (by omega) (fun b hb => by have := hd b hb; omega) fun out hlen eo => ?_
  · obtain ⟨ys, r2, l2, h2⟩ := vals_of_each eo
    obtain ⟨ep, he'⟩ := PyProof.Rows.sortedAll_at s.heap its (List.toArray out)
    have hfr := I.hok.fresh (Nat.le_succ s.heap.objs.size)
    have rl : RelL G H S R ((bs.mergeSort (dataLe false enc)).map f) ys := relL_of f l2 h2
    have hlen2 : ys.length ≤ sizeLine := by
      rw [r2.length, hlen, ← len]
      exact hz
    refine ⟨.ref _, upd H (s.heap.objs.size + 1) (.lst ys), I.laid (t' := s.toks) (fun _ _ => PyProof.Rows.sortedAll_old) (Nat.le_succ _) ⟨hlen2, out, ep, r2, by simpa using he'⟩, rfl, k _ _ _ (gr_upd S hfr) (rel_lst ok rl hfr)⟩
theorem cr_sortedE (hK : X.K = G.K) (hu : X.A.units + 64 < cLine) : CallR X (.builtin "sorted") (rBi G .sorted) := by
  intro pins s σ H xs us Q I r h
  obtain ⟨st, S, R, vs, z, ok, hv, e, k⟩ := h
  unfold bi at e
  split at e <;> first | cases e | skip
  all_goals try contradiction
  obtain ⟨x, rfl, h1⟩ := relL1 hv
  rw [rel_lstE] at h1
  obtain ⟨a, ys, rfl, _, h2, h3⟩ := h1
  rw [Vals.ref1 r]
  split at e
  · rename_i ns e1
    cases e
    rw [intsOf_some e1] at h3
    refine sorted_by (G := G) (S := S) (R := R) (bs := ns) EV.int PyData.int (fun _ => rfl) I hK ok h2 h3 (AllAlike.of fun _ _ => by simp [alike]) (.inl (Sortable.others fun b => ⟨fun z => (nomatch z), fun xs z => (nomatch z)⟩)) hu (fun b _ => by simp [PyData.depth]) ?_
    rw [dataLe_int (fun b => b)]
    exact k
  · split at e
    · rename_i ns e1
      split at e
      · rename_i hc
        cases e
        rw [intssOf_some e1] at h3
        refine sorted_by (G := G) (S := S) (R := R) (bs := ns) (fun n => EV.tup (n.map EV.int)) (fun n => PyData.tuple (n.map .int)) toD_tup I hK ok h2 h3 (AllAlike.of fun b b' => by simp only [alike]; exact alike_ints b b') ?_ hu (fun b _ => ?_) ?_
        · rcases hc with hc | hc
          · refine .inr ⟨hc, fun d hd => ?_⟩
            obtain ⟨n, _, rfl⟩ := List.mem_map.mp hd
            exact (fun z => nomatch z)
          · refine .inl (.inl fun d hd => ?_)
            obtain ⟨n, hn, rfl⟩ := List.mem_map.mp hd
            cases n with
            | nil => exact absurd rfl (hc _ hn)
            | cons m ms => exact ⟨_, _, rfl⟩
        · simp only [PyData.depth]
          have := depth_ints b
          omega
        · rw [dataLe_tups]
          exact k
      · cases e
    · cases e
theorem cr_reprE (hK : X.K = G.K) (hgd : X.A.guards = some []) (hu : X.A.units + 100 < cLine) : CallR X (.builtin "repr") (rBi G .repr) := by
  intro pins s σ H xs us Q I r h
  obtain ⟨st, S, R, vs, z, ok, hv, e, k⟩ := h
  unfold bi at e
  split at e <;> first | cases e | skip
  all_goals try contradiction
  rename_i v _
  obtain ⟨x, rfl, h1⟩ := relL1 hv
  obtain ⟨u, rfl, ru⟩ := vals1 r
  split at e
  · rename_i d ed
    split at e
    · rename_i hc
      cases e
      obtain ⟨c1, c2, c3⟩ := hc
      have fin : ∀ (h' : Heap) (t tk : Tok), (∀ b o, s.heap.get? b = some o → h'.get? b = some o) → EP X pins σ Q (.str d.shown t) { s with heap := h', toks := tk } := fun h' t tk hk =>
        ⟨.str d.shown, H, I.kept (t' := tk) hk, ⟨_, rfl⟩, k _ _ _ (Gr.refl S H) (rel_str.mpr rfl)⟩
      have hz : d.shown.length ≤ sizeLine := by rw [show sizeLine = 16777216 from by decide]; omega
      -- what lies there
      obtain ⟨as, rd, hs⟩ : ∃ as, Reads s.heap u d as ∧ (d.hasDict = true → sysModules ∉ as) := by
        unfold reprD at ed
        split at ed
        · cases ed
          unfold RelE at h1
          obtain ⟨_, _, a, rfl, _, h2⟩ := h1
          cases ru
          obtain ⟨_, q2, ws, q3, o, es, ep, q4, q5, q6⟩ : ([] : List (Key × V)).length ≤ sizeLine ∧ (a == sysModules) = false ∧ ∃ vs, KV [] vs ∧ s.heap.DictOf (mixKind X.prog X.w) a vs := I.hok a _ h2
          obtain ⟨q6, q7, q8, _⟩ := q6
          cases q3
          have e0 : es.toList = [] := by
            cases hl : es.toList with
            | nil => rfl
            | cons _ _ => rw [hl] at q8; cases q8
          refine ⟨_, Reads.dict (kvs := []) q4 q5.1 q6 (by rw [e0]; exact .nil) (by rw [e0]; exact .nil), fun _ z => ?_⟩
          have z : sysModules = a := by simpa using z
          rw [z] at q2
          simp at q2
        · have dp := rel_dp v h1 ed
          rw [← hK] at dp
          obtain ⟨as, rd⟩ := Dp.reads I _ _ _ dp ru
          exact ⟨as, rd, fun z => by rw [noDict v ed] at z; cases z⟩
      cases rd with
      | none => exact PySem.P.repr_of_none (fin _ _ _ fun _ _ e => e)
      | bool b => exact PySem.P.repr_of_bool (fin _ _ _ fun _ _ e => e)
      | int i t => exact PySem.P.repr_of_int (of_decide_eq_true c1) (fin _ _ _ fun _ _ e => e)
      | str x t => exact PySem.P.repr_of_str (fin _ _ _ fun _ _ e => e) hz
      | list q1 q2 q3 q4 => exact repr_of_reads' (Reads.list q1 q2 q3 q4) c1 hs hgd (by omega) (fun _ _ e => e) (fun h' t tk hk => fin h' t tk hk) hz
      | tuple q1 q2 q3 q4 => exact repr_of_reads' (Reads.tuple q1 q2 q3 q4) c1 hs hgd (by omega) (fun _ _ e => e) (fun h' t tk hk => fin h' t tk hk) hz
      | dict q1 q2 q3 q4 q5 => exact repr_of_reads' (Reads.dict q1 q2 q3 q4 q5) c1 hs hgd (by omega) (fun _ _ e => e) (fun h' t tk hk => fin h' t tk hk) hz
    · cases e
  · cases e
end
end Py
end
section
/-! PyGd: defs called where no repr is under way (repr's rules ask this; the layer's FnOk does not carry it). -/
namespace Py
open PySem PySem.Spec PyProof.Rows L2
/-- no repr is under way, and there is room for the division of very large ints -/
structure Gd (k : Nat) (A : Around) : Prop where
  guards : A.guards = some []
  dp : A.depth + 3 * k + 102 < recursionLimit
theorem Gd.mono {j k : Nat} {A : Around} (r : Gd k A) (h : j ≤ k) : Gd j A := ⟨r.guards, by have := r.dp; omega⟩
/-- a def keeps its promise there -/
structure FnG (P : Program) (w : World) (K : PySem.W.Frag) (mg : Str → Option Value) (base : Heap) (CX : CXT) (k : Nat) (f : Addr) (fd : FuncData) (ps : List Str) (sp : Sp) : Prop where
  len : ∀ vs H Q E, sp vs H Q E → vs.length = ps.length
  run : ∀ (A : Around) (outer : List PySem.Env) (s : Shared) (H : Hp) (args : Args) (us : List Value) (vs : List V) (Q : VK) (E : XK), Room k A → Gd k A → Env0 P w K mg base A outer s H → BindsTo s fd args (ps.zip us) → Vals vs us → sp vs H Q E →
    codeAny (model P w) A (.call (.ref f) args) (CR CX outer P w H s Q E) s
section
variable {CX : CXT} {P : Program} {w : World} {K : PySem.W.Frag} {mg : Str → Option Value} {base : Heap} {k : Nat} {f : Addr} {sp : Sp}
/-- by its body -/
theorem FunD.okG {x qual : Str} {params : Arguments} {body : List Stmt} {scope : Scope} {dvs : List V} {kws : List (Str × V)} {fd : FuncData} {N ps : List Str} (F : FunD K x qual params body scope dvs kws f fd) (S : FnScope N ps scope) (len : ∀ vs H Q E, sp vs H Q E → vs.length = ps.length)
    (hbody : ∀ (cdv : Value) (A : Around) (outer : List PySem.Env) (s : Shared) (H : Hp) (vs : List V) (Q : VK) (E : XK), Room k (A.deeper (envOfC qual scope s.heap.objs.size f cdv)) → Gd k (A.deeper (envOfC qual scope s.heap.objs.size f cdv)) → sp vs H Q E →
      ∃ t, PSs (cxOf CX P w K mg base N qual scope f cdv A outer s H E) body t ∧ t { nx := fun _ H' => Q .non H', rt := Q } (L2.start N vs) H) : FnG P w K mg base CX (k + 1) f fd ps sp := by
  obtain ⟨oc, od, dV, kV, doc, pm, an, cdv, ct, osl, rfl, lk, hcd, _, _⟩ := F.ex
  refine ⟨len, fun A outer s H args us vs Q E hr hg e0 hb r hsp => ?_⟩
  have hl := len _ _ _ _ hsp
  have KX : K.In s.heap := e0.mod.kin.keeps fun b o e => (e0.bs b o e).1
  have lim : s.heap.NoLimit := e0.mod.nolimit.keeps fun b o e => (e0.bs b o e).1
  have hkind : ∀ y ∈ ps.zip us, scope.names.lookup y.1 = some .local ∨ (scope.names.lookup y.1 = some .cell ∧ ((cellsFrom (s.heap.objs.size + 1) scope.names []).lookup y.1).isSome = true) := fun ⟨n, v⟩ hy =>
    (S.par n (List.of_mem_zip hy).1).imp id fun q => ⟨q, PySem.W.cellsFrom_some _ _ _ (.inl q)⟩
  refine codeAny_call_function hr.depth (KX _ _ lk) rfl S.co S.gen rfl (PySem.W.codeRec_of KX hcd) (hb _ _ _ _ ?_)
  refine wpAny_newFunctionEnv_cells S.kind hkind fun env he s1 x => ?_
  subst he
  refine ⟨lim.keeps x.toInCall.keep, codeAny_func ?_⟩
  obtain ⟨t, ht, hq⟩ := hbody cdv A outer s H vs Q E (hr.deeper _) ⟨hg.guards, by have := hg.dp; show A.depth + 1 + 3 * k + 102 < _; omega⟩ hsp
  have I : Inv (cxOf CX P w K mg base N qual scope f cdv A outer s H E) [] (L2.start N vs) H s1 := inv_start S hr.hd e0 hl r x
  refine wpAny_mono (ht.run [] s1 (L2.start N vs) H _ I hq) (fun fl s' hs => ?_) fun e s' hs => hs
  cases fl with
  | ret u => exact let ⟨v, _, H', J, rv, q⟩ := hs; ⟨v, H', J.os, J.bare, J.base, J.hok, rv, q⟩
  | next => exact let ⟨_, H', J, q⟩ := hs; ⟨V.non, H', J.os, J.bare, J.base, J.hok, rfl, q⟩
  | brk => exact let ⟨_, _, _, q⟩ := hs; False.elim q
  | cont => exact let ⟨_, _, _, q⟩ := hs; False.elim q
end
section
variable {X : Cx} {CX : CXT} {k : Nat} {f : Addr} {fd : FuncData} {ps : List Str} {sp : Sp}
/-- a call from a body -/
theorem run_fnG {pins : List (Addr × Obj)} {σ : L2.St} {H : Hp} {s : Shared} {Q : VK} {us : List Value} {vs : List V} {E : XK} (F : FnG X.prog X.w X.K X.mg X.base CX k f fd ps sp) (hr : Room k X.A) (hg : Gd k X.A) (hb : Binds X.K fd ps []) (hx : PassesAt CX X σ E)
    (I : L2.Inv X pins σ H s) (r : Vals vs us) (h : sp vs H Q E) : wpAny (model X.prog X.w) X.A (PySem.call (.ref f) us) (EP X pins σ Q) X.xe s := by
  have b := hb s us I.kIn (by rw [List.append_nil, ← r.length]; exact F.len _ _ _ _ h)
  rw [List.append_nil] at b
  refine wpAny_call (codeAny_mono (F.run X.A X.stack s H ⟨us, []⟩ us vs Q E hr hg I.env0 b r h) fun r s' hq => ?_)
  match r, hq with
  | .error e, hq => exact hx pins H s e s' I hq
  | .ok (.ret u), hq => exact I.after hq
  | .ok .next, hq => exact False.elim hq
  | .ok .brk, hq => exact False.elim hq
  | .ok .cont, hq => exact False.elim hq
/-- no guard is laid by a class's call -/
theorem guards_make {A : Around} (h : A.guards = some []) (C : Addr) (us : List Value) : (A.under (.builtin "type.__call__" ⟨.ref C :: us, []⟩)).guards = some [] := by
  simp [Around.under, pushGuards, h, Code.guards, Code.isGuard, guardIds]
end
/-- the law's def, called from without: F as law_call has it, wherever no repr is under way -/
theorem law_callG {P : Program} {w : World} {K : PySem.W.Frag} {mg mb : Str → Option Value} {CX : CXT} {k : Nat} {fa a : Addr} {fd : FuncData} {x : Str} {sp : Sp} {s₁ : Shared} {vs : List Value} {ns : List Int}
    (KX : K.In s₁.heap) (hns : s₁.heap.Ns mainGlobals mg) (hb : s₁.heap.Ns builtinsNs mb) (hbb : ∀ x : Str, x ≠ "__name__" → mb x = bootBuiltins x) (hlim : s₁.heap.NoLimit) (hg : s₁.gens = #[])
    (ha : s₁.heap.get? a = some { cls := .type "list", data := .seq vs.toArray }) (hi : IntsAre vs ns) (hl : ns.length ≤ sizeLine) (hr : Room k callerA) (hgd : Gd k callerA) (hseer : s₁.heap.NoSeer)
    (F : ∀ base : Heap, K.In base → base.Ns mainGlobals mg → base.NoSeer → FnG P w K mg base CX k fa fd [x] sp) (hbind : ∀ (s : Shared) (u : Value), BindsTo s fd ⟨[u], []⟩ [(x, u)])
    (hsp : ∀ H : Hp, ScrOk K H a (ns.map V.int) → sp [.ref a] H (fun v _ => v = .bl true) fun _ _ _ => False)
    (hCX : ∀ H e s', CX [] H s₁ (fun _ _ _ => False) e s' → False) :
    codeAny (model P w) callerA (.call (.ref fa) ⟨[.ref a], []⟩) (fun r s' => r = .ok (.ret (.bool true)) ∧ OldK s₁.heap s'.heap ∧ s'.os = s₁.os ∧ AllBare s'.gens) s₁ := by
  have rv := vals_ints hi
  have lenV := hi.length
  -- what is tracked: the script, unless it is an object of the module
  obtain ⟨H, hH, hok, hS⟩ : ∃ H : Hp, (∀ b u, H b = some u → b = a ∧ K.lookup a = none ∧ ∃ o, u = .frz o (.lst (ns.map V.int))) ∧ HOk P w H s₁.heap ∧ ScrOk K H a (ns.map V.int) := by
    cases hk : K.lookup a with
    | some o =>
      have e := KX a o hk
      rw [ha] at e
      cases e
      exact ⟨fun _ => none, (fun _ _ z => nomatch z), (fun _ _ z => nomatch z), .inr <| .inr ⟨_, vs.toArray, _, hk, rfl, rfl, rfl, by rw [List.size_toArray, lenV]; exact hl, by simpa using rv⟩⟩
    | none =>
      have key : ∀ b u, (if b = a then some (HO.frz { cls := .type "list", data := .seq vs.toArray } (.lst (ns.map V.int))) else none) = some u → b = a ∧ u = .frz { cls := .type "list", data := .seq vs.toArray } (.lst (ns.map V.int)) := fun b u z => by
        by_cases hb : b = a
        · rw [if_pos hb] at z; cases z; exact ⟨hb, rfl⟩
        · rw [if_neg hb] at z; cases z
      refine ⟨fun b => if b = a then some (.frz { cls := .type "list", data := .seq vs.toArray } (.lst (ns.map V.int))) else none, fun b u z => ?_, fun b u z => ?_, .inl ⟨_, if_pos rfl⟩⟩
      · obtain ⟨e1, e2⟩ := key b u z
        exact ⟨e1, rfl, _, e2⟩
      · obtain ⟨rfl, rfl⟩ := key b u z
        exact ⟨ha, by rw [List.length_map]; exact hl, vs, _, rv, ha⟩
  have none_of : ∀ {b : Addr}, b ≠ a → H b = none := fun {b} hb => by
    cases q : H b with
    | none => rfl
    | some u => exact absurd (hH b u q).1 hb
  have keepD : ∀ {b : Addr} {o : Obj} {es : Array DictEntry} {ep : Nat}, s₁.heap.get? b = some o → o.data = .dict es ep → (hidT s₁.heap H).get? b = some o := fun {b o es ep} e d => by
    refine hidT_get e (none_of ?_)
    rintro rfl
    rw [ha] at e
    cases e
    cases (show Data.seq vs.toArray _ = Data.dict es ep from d)
  have nsK : ∀ {b : Addr} {m : Str → Option Value}, s₁.heap.Ns b m → (hidT s₁.heap H).Ns b m := fun {b m} ⟨o, es, ep, e, d, r⟩ => ⟨o, es, ep, keepD e d, d, r⟩
  have hKb : K.In (hidT s₁.heap H) := fun b o e => hidT_get (KX b o e) (by
    cases q : H b with
    | none => rfl
    | some u =>
      obtain ⟨rfl, e2, _⟩ := hH b u q
      rw [e2] at e; cases e)
  have hM : Mod K mg (hidT s₁.heap H) := ⟨hKb, nsK hns, ⟨mb, nsK hb, hbb⟩, let ⟨mc, h1, h2⟩ := hlim; ⟨mc, nsK h1, h2⟩⟩
  have hS2 : (hidT s₁.heap H).NoSeer := by
    refine ⟨let ⟨mc, a1, b1⟩ := hseer.statics; ⟨mc, nsK a1, b1⟩, let ⟨mc, a1, b1⟩ := hseer.mods; ⟨mc, nsK a1, b1⟩, let ⟨mc, a1, b1⟩ := hseer.imp; ⟨mc, nsK a1, b1⟩, ?_⟩
    obtain ⟨m1, bm, ob, g1, g2, g3, g4, g5⟩ := hseer.main
    refine ⟨m1, bm, ob, nsK g1, g2, hidT_get g3 (none_of ?_), g4, g5⟩
    rintro rfl
    rw [ha] at g3
    cases g3
    have g4 : Value.type "list" = Value.type "module" := g4
    injection g4 with g4
    exact absurd g4 (by decide)
  have e0 : Env0 P w K mg (hidT s₁.heap H) callerA [] s₁ H := ⟨rfl, hM, fun b o e => of_hidT e, Nat.le_of_eq (hidT_size _ _), trivial, (fun b hb => nomatch hb), hok, .of_eq hg⟩
  refine codeAny_mono ((F _ hKb (nsK hns) hS2).run callerA [] s₁ H ⟨[.ref a], []⟩ [.ref a] [.ref a] _ _ hr hgd e0 (hbind s₁ (.ref a)) (.cons rfl .nil) (hsp H hS)) fun r s' h => ?_
  match r, h with
  | .error e, h => exact (hCX H e s' h).elim
  | .ok .next, h => exact False.elim h
  | .ok .brk, h => exact False.elim h
  | .ok .cont, h => exact False.elim h
  | .ok (.ret u), h =>
    obtain ⟨v, H', os, bare, un, hok', r', q⟩ := h
    have q : v = .bl true := q
    subst q
    obtain rfl : u = Value.bool true := r'
    refine ⟨rfl, OldK.of_keep fun b o e => ?_, os, bare⟩
    cases q : H b with
    | none => exact un.keep b o e q (fun z => nomatch z) (fun z => nomatch z)
    | some u =>
      obtain ⟨_, _, ob, rfl⟩ := hH b u q
      have z2 := un.frzs b ob _ q
      obtain ⟨e1, _⟩ := hok b _ q
      obtain ⟨e2, _⟩ := hok' b _ z2
      rw [e] at e1
      cases e1
      exact e2
end Py
end
section
/-! PySnd: what the evaluator gives, the model's run gives: the state of a frame, runs. -/
namespace Py
open PySem PySem.Spec PyProof.Rows L2

/-- an exception as it lies -/
def ExOk (G : Wd) (H : Hp) (S : Ad) (R : List Addr) (e : Ex) (cls : Value) (d : Option Addr) : Prop := cls = .ref (G.cls e.cls) ∧ (e.fs = [] ∨ ∃ dx xs fl, d = some dx ∧ H dx = some (.xd ((fl : List Str).zip xs)) ∧ RelL G H S R e.fs xs)

section
variable (G : Wd) (en : En) (ρ : Env) (tm : List (EV × V)) (σ : L2.St) (Wx : WX) (S : Ad) (R : List Addr) (H : Hp)
/-- what comes of a computation in a frame -/
def Run {α β : Type} (r : Res α) (RA : Hp → Ad → List Addr → α → β → Prop) (Q : β → Hp → Prop) : Prop := match r with
  | .ok v st' => ∀ y H' S' R', Rel G en ρ tm st' S' R' σ H' → Stp R S H R' S' H' → RA H' S' R' v y → Q y H'
  | .ex e st' => ∀ cls d H' S' R', Rel G en ρ [] st' S' R' σ H' → ExOk G H' S' R' e cls d → Wx cls d σ H'
  | .bad => False
end
abbrev RAe (G : Wd) : Hp → Ad → List Addr → EV → V → Prop := fun H S R v y => RelE G H S R v y
abbrev RAl (G : Wd) : Hp → Ad → List Addr → List EV → List V → Prop := fun H S R v y => RelL G H S R v y
abbrev RAq {α : Type} : Hp → Ad → List Addr → α → α → Prop := fun _ _ _ v y => v = y

/-- the reading of a computation -/
def Rdg {α β : Type} (G : Wd) (Wx : WX) (m : Env → M α) (RA : Hp → Ad → List Addr → α → β → Prop) : L2.St → Hp → (β → Hp → Prop) → Prop := fun σ H Q =>
  ∃ en ρ tm st S R, Rel G en ρ tm st S R σ H ∧ Run G en ρ tm σ Wx S R H (m ρ st) RA Q
section
variable {G : Wd} {en : En} {ρ : Env} {tm : List (EV × V)} {σ : L2.St} {H H' : Hp} {Wx : WX} {st : Store} {S S' : Ad} {R R' : List Addr} {α β γ : Type}
theorem Run.drop {t : EV × V} {r : Res α} {RA : Hp → Ad → List Addr → α → β → Prop} {Q : β → Hp → Prop} (h : Run G en ρ tm σ Wx S R H r RA Q) : Run G en ρ (t :: tm) σ Wx S R H r RA Q := by
  cases r with
  | ok v st' => exact fun y H' S' R' h1 h2 => h y H' S' R' h1.drop h2
  | ex e st' => exact h
  | bad => exact h
theorem Rel.nil (h : Rel G en ρ tm st S R σ H) : Rel G en ρ [] st S R σ H := ⟨h.len, h.ext, h.pre, h.rnew, h.st, h.slot, h.own, fun p hp => nomatch hp⟩
theorem Run.mono {r : Res α} {RA : Hp → Ad → List Addr → α → β → Prop} {Q Q' : β → Hp → Prop} (h : Run G en ρ tm σ Wx S R H r RA Q) (hq : ∀ y H, Q y H → Q' y H) : Run G en ρ tm σ Wx S R H r RA Q' := by
  cases r with
  | ok v st' => exact fun y H' S' R' h1 h2 h3 => hq _ _ (h y H' S' R' h1 h2 h3)
  | ex e st' => exact h
  | bad => exact h
/-- .. that began later -/
theorem Run.late {r : Res α} {RA : Hp → Ad → List Addr → α → β → Prop} {Q : β → Hp → Prop} (h : Run G en ρ tm σ Wx S R H r RA Q) (s : Stp R S H R' S' H') : Run G en ρ tm σ Wx S' R' H' r RA Q := by
  cases r with
  | ok v st' => exact fun y H' S' R' h1 h2 h3 => h y H' S' R' h1 (s.trans h2) h3
  | ex e st' => exact h
  | bad => exact h
/-- one computation behind another: the first one's value stays -/
theorem run_bnd {m : M EV} {f : EV → M α} {RA : Hp → Ad → List Addr → α → β → Prop} {Q : β → Hp → Prop} (h : Run G en ρ tm σ Wx S R H (bnd m f st) RA Q) :
    Run G en ρ tm σ Wx S R H (m st) (RAe G) fun y H' => ∃ v st' S' R', Rel G en ρ ((v, y) :: tm) st' S' R' σ H' ∧ Run G en ρ ((v, y) :: tm) σ Wx S' R' H' (f v st') RA Q := by
  unfold bnd at h
  cases e : m st with
  | ok v st' =>
    rw [e] at h
    exact fun y H' S' R' h1 h2 h3 => ⟨v, st', S', R', h1.push h3, (Run.late h h2).drop⟩
  | ex x st' => rw [e] at h; exact h
  | bad => rw [e] at h; exact h
theorem run_bndq {m : M γ} {f : γ → M α} {RA : Hp → Ad → List Addr → α → β → Prop} {Q : β → Hp → Prop} (h : Run G en ρ tm σ Wx S R H (bnd m f st) RA Q) :
    Run G en ρ tm σ Wx S R H (m st) RAq fun y H' => ∃ st' S' R', Rel G en ρ tm st' S' R' σ H' ∧ Run G en ρ tm σ Wx S' R' H' (f y st') RA Q := by
  unfold bnd at h
  cases e : m st with
  | ok v st' =>
    rw [e] at h
    exact fun y H' S' R' h1 h2 h3 => by
      subst h3
      exact ⟨st', S', R', h1, Run.late h h2⟩
  | ex x st' => rw [e] at h; exact h
  | bad => rw [e] at h; exact h
/-- .. a list of values behind it -/
theorem run_bndl {m : M (List EV)} {f : List EV → M α} {RA : Hp → Ad → List Addr → α → β → Prop} {Q : β → Hp → Prop} (h : Run G en ρ tm σ Wx S R H (bnd m f st) RA Q) :
    Run G en ρ tm σ Wx S R H (m st) (RAl G) fun ys H' => ∃ vs st' S' R', Rel G en ρ tm st' S' R' σ H' ∧ RelL G H' S' R' vs ys ∧ m st = .ok vs st' ∧ Run G en ρ tm σ Wx S' R' H' (f vs st') RA Q := by
  unfold bnd at h
  cases e : m st with
  | ok v st' =>
    rw [e] at h
    exact fun y H' S' R' h1 h2 h3 => ⟨v, st', S', R', h1, h3, rfl, Run.late h h2⟩
  | ex x st' => rw [e] at h; exact h
  | bad => rw [e] at h; exact h
theorem run_ret {v : α} {y : β} {RA : Hp → Ad → List Addr → α → β → Prop} {Q : β → Hp → Prop} (h : Run G en ρ tm σ Wx S R H (ret v st) RA Q) (r : Rel G en ρ tm st S R σ H) (hv : RA H S R v y) : Q y H := h y H S R r (Stp.refl R S H) hv
theorem run_gr {v : α} {y : β} {RA : Hp → Ad → List Addr → α → β → Prop} {Q : β → Hp → Prop} (h : Run G en ρ tm σ Wx S R H (ret v st) RA Q) (r : Rel G en ρ tm st S R σ H) (g : Gr S H S' H') (hv : RA H' S' R v y) : Q y H' := h y H' S' R (r.gr g) (g.stp R) hv
theorem run_ofO {o : Option α} {RA : Hp → Ad → List Addr → α → β → Prop} {Q : β → Hp → Prop} (h : Run G en ρ tm σ Wx S R H (ofO o st) RA Q) : ∃ v, o = some v ∧ Run G en ρ tm σ Wx S R H (ret v st) RA Q := by
  cases o with
  | none => exact h.elim
  | some v => exact ⟨v, rfl, h⟩
end

/-- weaker readings -/
theorem pe_w {X : Cx} {e : Expr} {t t' : TE} (h : PE X e t) (hw : ∀ σ H Q, t' σ H Q → t σ H Q) : PE X e t' := ⟨fun pins s σ H Q I q => h.run pins s σ H Q I (hw σ H Q q)⟩
theorem pt_w {X : Cx} {e : Expr} {t t' : TT} (h : PT X e t) (hw : ∀ σ H Q, t' σ H Q → t σ H Q) : PT X e t' := ⟨fun pins s σ H Q I q => h.run pins s σ H Q I (hw σ H Q q)⟩
theorem pw_w {X : Cx} {e : Expr} {t t' : TT} (h : PW X e t) (hw : ∀ σ H Q, t' σ H Q → t σ H Q) : PW X e t' := ⟨fun wh pins s σ H Q I q => h.run wh pins s σ H Q I (hw σ H Q q)⟩
theorem pa_w {X : Cx} {e : List Expr} {t t' : TA} (h : PA X e t) (hw : ∀ σ H Q, t' σ H Q → t σ H Q) : PA X e t' := ⟨fun pos pins s σ H Q I q => h.run pos pins s σ H Q I (hw σ H Q q)⟩
theorem ps_w {X : Cx} {e : Stmt} {t t' : TS} (h : PS X e t) (hw : ∀ D σ H, t' D σ H → t D σ H) : PS X e t' := ⟨fun pins s σ H D I q => h.run pins s σ H D I (hw D σ H q)⟩
theorem pss_w {X : Cx} {e : List Stmt} {t t' : TS} (h : PSs X e t) (hw : ∀ D σ H, t' D σ H → t D σ H) : PSs X e t' := ⟨fun pins s σ H D I q => h.run pins s σ H D I (hw D σ H q)⟩
theorem pi_w {X : Cx} {g e : Expr} {t t' : TI} (h : PI X g e t) (hw : ∀ σ H Q, t' σ H Q → t σ H Q) : PI X g e t' := ⟨fun pins s σ H Q I q => h.run pins s σ H Q I (hw σ H Q q)⟩
theorem pe_no {X : Cx} {e : Expr} {t : TE} (hw : ∀ σ H Q, t σ H Q → False) : PE X e t := ⟨fun pins s σ H Q I q => (hw σ H Q q).elim⟩

/-! ### what a def promises -/
def spOf (G : Wd) (n : Nat) (m : List EV → M EV) : Sp := fun vs H Q E => ∃ args st S R, StOk G H S R st ∧ RelL G H S R args vs ∧ args.length = n ∧ match m args st with
  | .ok v st' => ∀ x H' S' R', Ext R S H S' H' → R <+: R' → (∀ a ∈ R', a ∈ R ∨ H a = none) → StOk G H' S' R' st' → RelE G H' S' R' v x → Q x H'
  | .ex e st' => ∀ cls d H' S' R', Ext R S H S' H' → R <+: R' → (∀ a ∈ R', a ∈ R ∨ H a = none) → StOk G H' S' R' st' → ExOk G H' S' R' e cls d → E cls d H'
  | .bad => False
def tyName : Ty → String
  | .int => "int" | .bool => "bool" | .str => "str" | .tuple => "tuple" | .list => "list" | .dict => "dict" | .cls _ => ""
def biName : Bi → String
  | .len => "len" | .int => "int" | .abs => "abs" | .tuple => "tuple" | .list => "list" | .sum => "sum" | .all => "all" | .any => "any" | .sorted => "sorted" | .repr => "repr"
/-- what the names of a program stand for, its defs kept by m to the level d, m1 one below -/
structure Defs (P : Program) (w : World) (mg : Str → Option Value) (base : Heap) (G : Wd) (c : CT) (ar : Nat → Nat) (d : Nat) (m m1 : Nat → List EV → M EV) : Prop where
  fn : ∀ x f, c.glo.lookup x = some (.fn f) → ∃ a fd ps, mg x = some (.ref a) ∧ PySem.W.keepIn G.K (.ref a) = true ∧ Binds G.K fd ps [] ∧ FnG P w G.K mg base (L2.CX P w) d a fd ps (spOf G (ar f) (m f))
  cls : ∀ x k, c.glo.lookup x = some (.cls k) → ∃ f fl b, G.tab.cls k = some (f, fl, b) ∧ ∃ fI fd ps, mg x = some (.ref (G.cls k)) ∧ Mk G.K (G.cls k) fI ∧ Binds G.K fd ps [] ∧ ((0 < d ∧ FnG P w G.K mg base (L2.CX P w) (d - 1) fI fd ps (spOf G (ar f) (m1 f))) ∨ ∀ g vs st, m1 g vs st = .bad)
  val : ∀ x v, c.glo.lookup x = some (.val v) → ∃ u y, mg x = some u ∧ RelV y u ∧ ∀ H S R, RelE G H S R v y
  bi : ∀ x b, c.glo.lookup x = some (.bi b) → mg x = none ∧ x = Str.ofString (biName b)
  isi : ∀ x, c.glo.lookup x = some .isi → mg x = none ∧ x = "isinstance"
  rng : ∀ x, c.glo.lookup x = some .rng → mg x = none ∧ x = "range"
  enum : ∀ x, c.glo.lookup x = some .enum → mg x = none ∧ x = "enumerate"
  zip : ∀ x, c.glo.lookup x = some .zip → mg x = none ∧ x = "zip"
  ty : ∀ x t, c.tys.lookup x = some t → (∀ k, t ≠ .cls k) ∧ mg x = none ∧ x = Str.ofString (tyName t)
  fld : ∀ x k, c.fld.lookup x = some k → G.fld k = x
  clsOk : ∀ k f fl b, G.tab.cls k = some (f, fl, b) → Cls G.K (G.cls k) ∧ ∀ x i, c.fld.lookup x = some i → NoAttr G.K (G.cls k) x

/-- .. calls of so many arguments alone -/
structure ArOk (ar : Nat → Nat) (m : Nat → List EV → M EV) : Prop where
  ne : ∀ f vs st, vs.length ≠ ar f → m f vs st = .bad
/-- a frame -/
structure CxOk (X : Cx) (G : Wd) (c : CT) (ar : Nat → Nat) (d : Nat) (m m1 : Nat → List EV → M EV) (Wx : WX) : Prop where
  calm : X.calm = true
  nd : X.N.Nodup
  room : Room d X.A
  gd : Gd d X.A
  pyl : Pyl X
  K : X.K = G.K
  tk : Takes X Wx
  po : PassesOwn (model X.prog X.w) X.A X.env X.xe
  defs : Defs X.prog X.w X.mg X.base G c ar d m m1
  arm : ArOk ar m
  arm1 : ArOk ar m1
end Py
end
section
/-! PySndE: expressions, one lemma a construct. -/
namespace Py
open PySem PySem.Spec PyProof.Rows L2

section
variable {X : Cx} {G : Wd} {c : CT} {ar : Nat → Nat} {d : Nat} {m m1 : Nat → List EV → M EV} {Wx : WX}
abbrev rE (G : Wd) (m m1 : Nat → List EV → M EV) (Wx : WX) (x : E) : TE := Rdg G Wx (fun ρ => evE G.tab m m1 ρ x) (RAe G)
abbrev rEs (G : Wd) (m m1 : Nat → List EV → M EV) (Wx : WX) (x : List E) : TA := Rdg G Wx (fun ρ => evEs G.tab m m1 ρ x) (RAl G)
abbrev rT (G : Wd) (m m1 : Nat → List EV → M EV) (Wx : WX) (x : Te) : TT := Rdg G Wx (fun ρ => evT G.tab m m1 ρ x) RAq
abbrev rAll (G : Wd) (m m1 : Nat → List EV → M EV) (Wx : WX) (x : List Te) : TT := Rdg G Wx (fun ρ => evAll G.tab m m1 ρ x) RAq
abbrev rAny (G : Wd) (m m1 : Nat → List EV → M EV) (Wx : WX) (x : List Te) : TT := Rdg G Wx (fun ρ => evAny G.tab m m1 ρ x) RAq

theorem s_bad {e : Expr} : PE X e (rE G m m1 Wx .bad) := pe_no fun σ H Q ⟨_, _, _, _, _, _, _, run⟩ => run
theorem s_lit {e : Expr} {v : EV} {y : V} (he : PE X e (tC y)) (hv : ∀ H S R, RelE G H S R v y) : PE X e (rE G m m1 Wx (.lit v)) :=
  pe_w he fun σ H Q ⟨_, _, _, _, _, _, rel, run⟩ => run_ret run rel (hv _ _ _)
theorem s_var {x : Str} {pos : Pos} {i : Nat} (hN : X.N[i]? = some x) (hv : Vis X.env.scope x) (hd : (x == ("__debug__" : Str)) = false) (hcd : (x == ("__classdict__" : Str)) = false) : PE X (.Name x pos) (rE G m m1 Wx (.var i)) :=
  pe_w (pe_var hN hv hd hcd) fun σ H Q ⟨en, ρ, tm, st, S, R, rel, run⟩ => by
    have run : Run G en ρ tm σ Wx _ _ _ (ofO (getE ρ i) st) (RAe G) Q := run
    obtain ⟨v, e, run⟩ := run_ofO run
    unfold getE at e
    split at e
    · rename_i w e1
      cases e
      obtain ⟨y, e2, r⟩ := rel.slot i _ e1
      exact ⟨y, e2, run_ret run rel r⟩
    · cases e
theorem s_nil : PA X [] (rEs G m m1 Wx []) := pa_w pa_nil fun σ H Q ⟨_, _, _, _, _, _, rel, run⟩ => run_ret run rel RelL.nil
theorem s_cons {e : Expr} {es : List Expr} {x : E} {xs : List E} (hs : isStar e = false) (he : PE X e (rE G m m1 Wx x)) (hr : PA X es (rEs G m m1 Wx xs)) : PA X (e :: es) (rEs G m m1 Wx (x :: xs)) :=
  pa_w (pa_cons he hr (by cases e <;> first | rfl | cases hs)) fun σ H Q ⟨en, ρ, tm, st, S, R, rel, run⟩ => by
    have run : Run G en ρ tm σ Wx _ _ _ (bnd (evE G.tab m m1 ρ x) (fun v => bnd (evEs G.tab m m1 ρ xs) fun vs => ret (v :: vs)) st) (RAl G) Q := run
    refine ⟨en, ρ, tm, st, S, R, rel, (run_bnd run).mono fun y H1 ⟨v, st1, S1, R1, rel1, run1⟩ => ?_⟩
    refine ⟨en, ρ, _, st1, S1, R1, rel1, (run_bndl run1).mono fun ys H2 ⟨vs, st2, S2, R2, rel2, rl, _, run2⟩ => ?_⟩
    exact run_ret run2 rel2 (RelL.cons rel2.top rl)
theorem evEs_len {T : Tab} {ρ : Env} : ∀ {xs : List E} {st st' : Store} {vs : List EV}, evEs T m m1 ρ xs st = .ok vs st' → vs.length = xs.length
  | [], st, st', vs, h => by
    have h' : Res.ok ([] : List EV) st = .ok vs st' := h
    cases h'; rfl
  | x :: xs, st, st', vs, h => by
    have h' : bnd (evE T m m1 ρ x) (fun v => bnd (evEs T m m1 ρ xs) fun vs => ret (v :: vs)) st = .ok vs st' := h
    obtain ⟨v, st1, _, h1⟩ := bnd_ok h'
    obtain ⟨ws, st2, e2, h2⟩ := bnd_ok h1
    have h3 : Res.ok (v :: ws) st2 = .ok vs st' := h2
    cases h3
    rw [List.length_cons, List.length_cons, evEs_len e2]
theorem szl_eq : sizeLine = szl := by decide
theorem s_tup {es : List Expr} {xs : List E} {k : Nat} {pos : Pos} (h : PA X es (rEs G m m1 Wx xs)) (hz : xs.length ≤ 1000) : PE X (.Tuple es k pos) (rE G m m1 Wx (.tup xs)) := by
  refine pe_w (pe_tup h) fun σ H Q ⟨en, ρ, tm, st, S, R, rel, run⟩ => ?_
  have run : Run G en ρ tm σ Wx _ _ _ (bnd (evEs G.tab m m1 ρ xs) (fun vs => ret (.tup vs)) st) (RAe G) Q := run
  refine ⟨en, ρ, tm, st, S, R, rel, (run_bndl run).mono fun ys H1 ⟨vs, st1, S1, R1, rel1, rl, e, run1⟩ => ⟨?_, fun p hp => ?_⟩⟩
  · rw [rl.length, evEs_len e, szl_eq]; show _ ≤ 16777216; omega
  · exact run_gr run1 rel1 (gr_upd0 S1 hp) (rel_tup rel1.st rl hp)
theorem s_lst {es : List Expr} {xs : List E} {pos : Pos} (h : PA X es (rEs G m m1 Wx xs)) (hz : xs.length ≤ 1000) : PE X (.List es pos) (rE G m m1 Wx (.lst xs)) := by
  refine pe_w (pe_lst h) fun σ H Q ⟨en, ρ, tm, st, S, R, rel, run⟩ => ?_
  have run : Run G en ρ tm σ Wx _ _ _ (bnd (evEs G.tab m m1 ρ xs) (fun vs => ret (.lst vs)) st) (RAe G) Q := run
  refine ⟨en, ρ, tm, st, S, R, rel, (run_bndl run).mono fun ys H1 ⟨vs, st1, S1, R1, rel1, rl, e, run1⟩ => ⟨?_, fun p hp => ?_⟩⟩
  · rw [rl.length, evEs_len e, szl_eq]; show _ ≤ 16777216; omega
  · exact run_gr run1 rel1 (gr_upd S1 hp) (rel_lst rel1.st rl hp)
theorem s_emp {pos : Pos} : PE X (.Dict [] [] pos) (rE G m m1 Wx .emp) := by
  refine pe_w pe_dnewK fun σ H Q ⟨en, ρ, tm, st, S, R, rel, run⟩ => ?_
  intro p hp
  refine run_gr run rel (gr_upd S hp) ?_
  unfold RelE
  exact ⟨rfl, rfl, p, rfl, .inr rfl, upd_same⟩
theorem s_bop (hX : CxOk X G c ar d m m1 Wx) {a b : Expr} {x y : E} {o : Operator} {op : Op} {pos : Pos} (ho : opOf o = some op) (ha : PE X a (rE G m m1 Wx x)) (hb : PE X b (rE G m m1 Wx y)) : PE X (.BinOp a o b pos) (rE G m m1 Wx (.bop op x y)) := by
  refine pe_w (pe_op (op_bin hX.pyl hX.K ho) ha hb) fun σ H Q ⟨en, ρ, tm, st, S, R, rel, run⟩ => ?_
  have run : Run G en ρ tm σ Wx _ _ _ (bnd (evE G.tab m m1 ρ x) (fun v => bnd (evE G.tab m m1 ρ y) fun w => ofO (binop op v w)) st) (RAe G) Q := run
  refine ⟨en, ρ, tm, st, S, R, rel, (run_bnd run).mono fun y H1 ⟨v, st1, S1, R1, rel1, run1⟩ => ?_⟩
  refine ⟨en, ρ, _, st1, S1, R1, rel1, (run_bnd run1).mono fun y2 H2 ⟨w, st2, S2, R2, rel2, run2⟩ => ?_⟩
  obtain ⟨z, e, run3⟩ := run_ofO run2
  exact ⟨st2, S2, R2, v, w, z, rel2.st, rel2.top2, rel2.top, e, fun u H' S' g hu => run_gr run3 rel2 g hu⟩
theorem s_neg (hX : CxOk X G c ar d m m1 Wx) {a : Expr} {x : E} {pos : Pos} (ha : PE X a (rE G m m1 Wx x)) : PE X (.UnaryOp .USub a pos) (rE G m m1 Wx (.neg x)) := by
  refine pe_w (pe_un un_neg ha) fun σ H Q ⟨en, ρ, tm, st, S, R, rel, run⟩ => ?_
  have run : Run G en ρ tm σ Wx _ _ _ (bnd (evE G.tab m m1 ρ x) (fun v => match v with
    | .int i => ret (.int (-i))
    | _ => bad) st) (RAe G) Q := run
  refine ⟨en, ρ, tm, st, S, R, rel, (run_bnd run).mono fun y H1 ⟨v, st1, S1, R1, rel1, run1⟩ => ?_⟩
  cases v with
  | int i =>
    have e := rel_int.mp rel1.top
    exact ⟨i, e, run_ret run1 rel1 (rel_int.mpr rfl)⟩
  | _ => exact run1.elim
theorem s_cmp (hX : CxOk X G c ar d m m1 Wx) {a b : Expr} {x y : E} {o : CmpOp} {op : Cmp} {pos : Pos} (ho : cmpOf o = some op) (h1 : o ≠ .Is) (h2 : o ≠ .IsNot) (hb' : isSet b = false) (ha : PE X a (rE G m m1 Wx x)) (hb : PE X b (rE G m m1 Wx y)) : PE X (.Compare a [o] [b] pos) (rE G m m1 Wx (.cmp op x y)) := by
  refine pe_w (pe_cmpR (op_cmpE hX.K (by have := hX.room.units; omega) ho h1 h2) ha hb (by cases b <;> first | rfl | cases hb')) fun σ H Q ⟨en, ρ, tm, st, S, R, rel, run⟩ => ?_
  have run : Run G en ρ tm σ Wx _ _ _ (bnd (evE G.tab m m1 ρ x) (fun v => bnd (evE G.tab m m1 ρ y) fun w => bnd (ofO (cmpop op v w)) fun r => ret (.bl r)) st) (RAe G) Q := run
  refine ⟨en, ρ, tm, st, S, R, rel, (run_bnd run).mono fun y H1 ⟨v, st1, S1, R1, rel1, run1⟩ => ?_⟩
  refine ⟨en, ρ, _, st1, S1, R1, rel1, (run_bnd run1).mono fun y2 H2 ⟨w, st2, S2, R2, rel2, run2⟩ => ?_⟩
  cases e : cmpop op v w with
  | none => rw [e] at run2; exact run2.elim
  | some z =>
    rw [e] at run2
    exact ⟨st2, S2, R2, v, w, z, rel2.st, rel2.top2, rel2.top, e, run_ret run2 rel2 (rel_bl.mpr rfl)⟩
theorem s_is (hX : CxOk X G c ar d m m1 Wx) (neg : Bool) {a : Expr} {x : E} {j : Nat} {p pos : Pos} (ha : PE X a (rE G m m1 Wx x)) : PE X (.Compare a [if neg then .IsNot else .Is] [.Constant .none j p] pos) (rE G m m1 Wx (.cmp (if neg then .isnot else .is) x (.lit .non))) := by
  refine pe_w (op_isE hX.K ha) fun σ H Q ⟨en, ρ, tm, st, S, R, rel, run⟩ => ?_
  have run : Run G en ρ tm σ Wx _ _ _ (bnd (evE G.tab m m1 ρ x) (fun v => bnd (ret EV.non) fun w => bnd (ofO (cmpop (if neg then .isnot else .is) v w)) fun r => ret (.bl r)) st) (RAe G) Q := run
  refine ⟨en, ρ, tm, st, S, R, rel, (run_bnd run).mono fun y H1 ⟨v, st1, S1, R1, rel1, run1⟩ => ?_⟩
  have e := isNon_eq rel1.top
  rw [e]
  cases neg with
  | true =>
    have run1 : Run G en ρ _ σ Wx _ _ _ (ret (EV.bl (!isNon v)) st1) (RAe G) Q := run1
    exact run_ret run1 rel1 (rel_bl.mpr rfl)
  | false =>
    have run1 : Run G en ρ _ σ Wx _ _ _ (ret (EV.bl (isNon v)) st1) (RAe G) Q := run1
    exact run_ret run1 rel1 (rel_bl.mpr rfl)
theorem s_idx (hX : CxOk X G c ar d m m1 Wx) {a b : Expr} {x y : E} {pos : Pos} (hs : isSlice b = false) (ha : PE X a (rE G m m1 Wx x)) (hb : PE X b (rE G m m1 Wx y)) : PE X (.Subscript a b pos) (rE G m m1 Wx (.idx x y)) := by
  refine pe_w (pe_ix (ix_it hX.K) ha hb (by cases b <;> first | exact fun _ _ => rfl | cases hs)) fun σ H Q ⟨en, ρ, tm, st, S, R, rel, run⟩ => ?_
  have run : Run G en ρ tm σ Wx _ _ _ (bnd (evE G.tab m m1 ρ x) (fun v => bnd (evE G.tab m m1 ρ y) fun w => itemM v w) st) (RAe G) Q := run
  refine ⟨en, ρ, tm, st, S, R, rel, (run_bnd run).mono fun y H1 ⟨v, st1, S1, R1, rel1, run1⟩ => ?_⟩
  refine ⟨en, ρ, _, st1, S1, R1, rel1, (run_bnd run1).mono fun y2 H2 ⟨w, st2, S2, R2, rel2, run2⟩ => ?_⟩
  cases e : itemM v w st2 with
  | bad => rw [e] at run2; exact run2.elim
  | ex e2 st3 =>
    exfalso
    unfold itemM at e
    repeat (first | cases e | split at e)
    cases ei : item v w with
    | none => rw [ei] at e; cases e
    | some _ => rw [ei] at e; cases e
  | ok z st3 =>
    have es : st3 = st2 := by
      unfold itemM at e
      split at e
      · split at e
        · split at e
          · split at e
            · cases e; rfl
            · cases e
          · cases e
        · cases e
      · cases ei : item v w with
        | none => rw [ei] at e; cases e
        | some _ => rw [ei] at e; cases e; rfl
    subst es
    rw [e] at run2
    exact ⟨st3, S2, R2, v, w, z, rel2.st, rel2.top2, rel2.top, e, fun u hu => run2 u _ _ _ rel2 (Stp.refl _ _ _) hu⟩
end
end Py

namespace Py
open PySem PySem.Spec PyProof.Rows L2
section
variable {X : Cx} {G : Wd} {c : CT} {ar : Nat → Nat} {d : Nat} {m m1 : Nat → List EV → M EV} {Wx : WX}
theorem isEmpty_len {α β : Type} {l : List α} {r : List β} (h : l.length = r.length) : r.isEmpty = l.isEmpty := by
  cases l <;> cases r <;> first | rfl | simp at h
theorem truV_of (hK : X.K = G.K) {v : EV} {b : Bool} (h : truthy v = some b) {H : Hp} {S : Ad} {R : List Addr} {x : V} (hv : RelE G H S R v x) : TruV X.K x H b := by
  unfold truthy at h
  split at h
  · cases h; rw [rel_bl] at hv; subst hv; exact rfl
  · cases h; rw [rel_int] at hv; subst hv; exact rfl
  · cases h; rw [rel_non] at hv; subst hv; exact rfl
  · cases h
    rw [rel_tupE] at hv
    obtain ⟨a, xs, rfl, h1, h2⟩ := hv
    exact .inr (.inl ⟨xs, by rw [hK]; exact h1, by rw [isEmpty_len h2.length]⟩)
  · cases h
    rw [rel_lstE] at hv
    obtain ⟨a, xs, rfl, _, h1, h2⟩ := hv
    exact .inl ⟨xs, SqL.of h1, by rw [isEmpty_len h2.length]⟩
  · cases h
theorem s_notv (hX : CxOk X G c ar d m m1 Wx) {a : Expr} {x : E} {pos : Pos} (ha : PE X a (rE G m m1 Wx x)) : PE X (.UnaryOp .Not a pos) (rE G m m1 Wx (.nt (.val x))) := by
  refine pe_w (pe_notT ha) fun σ H Q ⟨en, ρ, tm, st, S, R, rel, run⟩ => ?_
  have run : Run G en ρ tm σ Wx _ _ _ (bnd (bnd (evE G.tab m m1 ρ x) fun v => ofO (truthy v)) (fun b => ret (.bl (!b))) st) (RAe G) Q := run
  rw [bnd_bnd] at run
  refine ⟨en, ρ, tm, st, S, R, rel, (run_bnd run).mono fun y H1 ⟨v, st1, S1, R1, rel1, run1⟩ => ?_⟩
  cases e : truthy v with
  | none => rw [e] at run1; exact run1.elim
  | some b =>
    rw [e] at run1
    exact ⟨b, truV_of hX.K e rel1.top, run_ret run1 rel1 (rel_bl.mpr rfl)⟩
theorem s_val (hX : CxOk X G c ar d m m1 Wx) {a : Expr} {x : E} (ha : PE X a (rE G m m1 Wx x)) (he : ∀ whole, isTrue a X.env whole = (do let v ← whole; standAt a.pos; holding [v] (PySem.truthy v))) : PT X a (rT G m m1 Wx (.val x)) := by
  refine pt_w (pt_truth ha he) fun σ H Q ⟨en, ρ, tm, st, S, R, rel, run⟩ => ?_
  have run : Run G en ρ tm σ Wx _ _ _ (bnd (evE G.tab m m1 ρ x) (fun v => ofO (truthy v)) st) RAq Q := run
  refine ⟨en, ρ, tm, st, S, R, rel, (run_bnd run).mono fun y H1 ⟨v, st1, S1, R1, rel1, run1⟩ => ?_⟩
  cases e : truthy v with
  | none => rw [e] at run1; exact run1.elim
  | some b =>
    rw [e] at run1
    exact ⟨b, truV_of hX.K e rel1.top, run_ret run1 rel1 rfl⟩
/-- a comparison as a test -/
def isCmpE : Expr → Bool
  | .Compare .. => true
  | _ => false
theorem s_tnot {a : Expr} {x : Te} {pos : Pos} (ha : PT X a (rT G m m1 Wx x)) : PT X (.UnaryOp .Not a pos) (rT G m m1 Wx (.nt x)) := by
  refine pt_w (pt_not ha) fun σ H Q ⟨en, ρ, tm, st, S, R, rel, run⟩ => ?_
  have run : Run G en ρ tm σ Wx _ _ _ (bnd (evT G.tab m m1 ρ x) (fun b => ret (!b)) st) RAq Q := run
  exact ⟨en, ρ, tm, st, S, R, rel, (run_bndq run).mono fun b H1 ⟨st1, S1, R1, rel1, run1⟩ => run_ret run1 rel1 rfl⟩
theorem s_all1 {a : Expr} {x : Te} {pos : Pos} (ha : PT X a (rT G m m1 Wx x)) : PW X (.BoolOp .And [a] pos) (rAll G m m1 Wx [x]) := by
  refine pw_w (pw_and1 ha) fun σ H Q ⟨en, ρ, tm, st, S, R, rel, run⟩ => ?_
  have run : Run G en ρ tm σ Wx _ _ _ (bnd (evT G.tab m m1 ρ x) (fun b => if b = true then ret true else ret false) st) RAq Q := run
  refine ⟨en, ρ, tm, st, S, R, rel, (run_bndq run).mono fun b H1 ⟨st1, S1, R1, rel1, run1⟩ => ?_⟩
  cases b with
  | true => exact run_ret run1 rel1 rfl
  | false => exact run_ret run1 rel1 rfl
theorem s_all {a b : Expr} {es : List Expr} {x : Te} {xs : List Te} {pos : Pos} (ha : PT X a (rT G m m1 Wx x)) (hb : PW X (.BoolOp .And (b :: es) pos) (rAll G m m1 Wx xs)) : PW X (.BoolOp .And (a :: b :: es) pos) (rAll G m m1 Wx (x :: xs)) := by
  refine pw_w (pw_and ha hb) fun σ H Q ⟨en, ρ, tm, st, S, R, rel, run⟩ => ?_
  have run : Run G en ρ tm σ Wx _ _ _ (bnd (evT G.tab m m1 ρ x) (fun b => if b = true then evAll G.tab m m1 ρ xs else ret false) st) RAq Q := run
  refine ⟨en, ρ, tm, st, S, R, rel, (run_bndq run).mono fun b H1 ⟨st1, S1, R1, rel1, run1⟩ => ?_⟩
  cases b with
  | true => exact ⟨en, ρ, tm, st1, S1, R1, rel1, run1⟩
  | false => exact run_ret run1 rel1 rfl
theorem s_any1 {a : Expr} {x : Te} {pos : Pos} (ha : PT X a (rT G m m1 Wx x)) : PW X (.BoolOp .Or [a] pos) (rAny G m m1 Wx [x]) := by
  refine pw_w (pw_or1 ha) fun σ H Q ⟨en, ρ, tm, st, S, R, rel, run⟩ => ?_
  have run : Run G en ρ tm σ Wx _ _ _ (bnd (evT G.tab m m1 ρ x) (fun b => if b = true then ret true else ret false) st) RAq Q := run
  refine ⟨en, ρ, tm, st, S, R, rel, (run_bndq run).mono fun b H1 ⟨st1, S1, R1, rel1, run1⟩ => ?_⟩
  cases b with
  | true => exact run_ret run1 rel1 rfl
  | false => exact run_ret run1 rel1 rfl
theorem s_any {a b : Expr} {es : List Expr} {x : Te} {xs : List Te} {pos : Pos} (ha : PT X a (rT G m m1 Wx x)) (hb : PW X (.BoolOp .Or (b :: es) pos) (rAny G m m1 Wx xs)) : PW X (.BoolOp .Or (a :: b :: es) pos) (rAny G m m1 Wx (x :: xs)) := by
  refine pw_w (pw_or ha hb) fun σ H Q ⟨en, ρ, tm, st, S, R, rel, run⟩ => ?_
  have run : Run G en ρ tm σ Wx _ _ _ (bnd (evT G.tab m m1 ρ x) (fun b => if b = true then ret true else evAny G.tab m m1 ρ xs) st) RAq Q := run
  refine ⟨en, ρ, tm, st, S, R, rel, (run_bndq run).mono fun b H1 ⟨st1, S1, R1, rel1, run1⟩ => ?_⟩
  cases b with
  | true => exact run_ret run1 rel1 rfl
  | false => exact ⟨en, ρ, tm, st1, S1, R1, rel1, run1⟩
/-- and, or as values -/
theorem s_and {a b : Expr} {es : List Expr} {x y : E} {xs : List E} {pos : Pos} (ha : PE X a (rE G m m1 Wx x)) (hb : PE X (.BoolOp .And (b :: es) pos) (Rdg G Wx (fun ρ => evAnd G.tab m m1 ρ (y :: xs)) (RAe G))) :
    PE X (.BoolOp .And (a :: b :: es) pos) (Rdg G Wx (fun ρ => evAnd G.tab m m1 ρ (x :: y :: xs)) (RAe G)) := by
  refine pe_w (pe_and ha hb) fun σ H Q ⟨en, ρ, tm, st, S, R, rel, run⟩ => ?_
  have run : Run G en ρ tm σ Wx _ _ _ (bnd (evE G.tab m m1 ρ x) (fun v => match v with
    | .bl true => evAnd G.tab m m1 ρ (y :: xs)
    | .bl false => ret (.bl false)
    | _ => bad) st) (RAe G) Q := run
  refine ⟨en, ρ, tm, st, S, R, rel, (run_bnd run).mono fun y H1 ⟨v, st1, S1, R1, rel1, run1⟩ => ?_⟩
  cases v with
  | bl k =>
    have e := rel_bl.mp rel1.top
    refine ⟨k, e, ?_⟩
    cases k with
    | true => exact ⟨en, ρ, _, st1, S1, R1, rel1, run1⟩
    | false => exact run_ret run1 rel1 (rel_bl.mpr rfl)
  | _ => exact run1.elim
theorem s_or {a b : Expr} {es : List Expr} {x y : E} {xs : List E} {pos : Pos} (ha : PE X a (rE G m m1 Wx x)) (hb : PE X (.BoolOp .Or (b :: es) pos) (Rdg G Wx (fun ρ => evOr G.tab m m1 ρ (y :: xs)) (RAe G))) :
    PE X (.BoolOp .Or (a :: b :: es) pos) (Rdg G Wx (fun ρ => evOr G.tab m m1 ρ (x :: y :: xs)) (RAe G)) := by
  refine pe_w (pe_or ha hb) fun σ H Q ⟨en, ρ, tm, st, S, R, rel, run⟩ => ?_
  have run : Run G en ρ tm σ Wx _ _ _ (bnd (evE G.tab m m1 ρ x) (fun v => match v with
    | .bl true => ret (.bl true)
    | .bl false => evOr G.tab m m1 ρ (y :: xs)
    | _ => bad) st) (RAe G) Q := run
  refine ⟨en, ρ, tm, st, S, R, rel, (run_bnd run).mono fun y H1 ⟨v, st1, S1, R1, rel1, run1⟩ => ?_⟩
  cases v with
  | bl k =>
    have e := rel_bl.mp rel1.top
    refine ⟨k, e, ?_⟩
    cases k with
    | true => exact run_ret run1 rel1 (rel_bl.mpr rfl)
    | false => exact ⟨en, ρ, _, st1, S1, R1, rel1, run1⟩
  | _ => exact run1.elim
theorem s_ife {t a b : Expr} {z : Te} {x y : E} {pos : Pos} (ht : PT X t (rT G m m1 Wx z)) (ha : PE X a (rE G m m1 Wx x)) (hb : PE X b (rE G m m1 Wx y)) : PE X (.IfExp t a b pos) (rE G m m1 Wx (.ife z x y)) := by
  refine pe_w (pe_ifExp ht ha hb) fun σ H Q ⟨en, ρ, tm, st, S, R, rel, run⟩ => ?_
  have run : Run G en ρ tm σ Wx _ _ _ (bnd (evT G.tab m m1 ρ z) (fun r => if r = true then evE G.tab m m1 ρ x else evE G.tab m m1 ρ y) st) (RAe G) Q := run
  refine ⟨en, ρ, tm, st, S, R, rel, (run_bndq run).mono fun b H1 ⟨st1, S1, R1, rel1, run1⟩ => ?_⟩
  cases b with
  | true => exact ⟨en, ρ, tm, st1, S1, R1, rel1, run1⟩
  | false => exact ⟨en, ρ, tm, st1, S1, R1, rel1, run1⟩
/-- slices -/
abbrev rO (G : Wd) (m m1 : Nat → List EV → M EV) (Wx : WX) (x : Eo) : TO := Rdg G Wx (fun ρ => evO G.tab m m1 ρ x) RAq
theorem po_w {X : Cx} {e : Option Expr} {t t' : TO} (h : PO X e t) (hw : ∀ σ H Q, t' σ H Q → t σ H Q) : PO X e t' := ⟨fun pins s σ H Q I q => h.run pins s σ H Q I (hw σ H Q q)⟩
theorem s_no : PO X none (rO G m m1 Wx .no) := po_w po_none fun σ H Q ⟨_, _, _, _, _, _, rel, run⟩ => run_ret run rel rfl
theorem s_so {e : Expr} {x : E} (h : PE X e (rE G m m1 Wx x)) : PO X (some e) (rO G m m1 Wx (.so x)) := by
  refine po_w (po_some h) fun σ H Q ⟨en, ρ, tm, st, S, R, rel, run⟩ => ?_
  have run : Run G en ρ tm σ Wx _ _ _ (bnd (evE G.tab m m1 ρ x) (fun v => match v with
    | .int i => ret (some i)
    | _ => bad) st) RAq Q := run
  refine ⟨en, ρ, tm, st, S, R, rel, (run_bnd run).mono fun y H1 ⟨v, st1, S1, R1, rel1, run1⟩ => ?_⟩
  cases v with
  | int i => exact ⟨i, rel_int.mp rel1.top, run_ret run1 rel1 rfl⟩
  | _ => exact run1.elim
theorem s_sl (hX : CxOk X G c ar d m m1 Wx) {e : Expr} {lo hi : Option Expr} {x : E} {l h : Eo} {pos p2 : Pos} (he : PE X e (rE G m m1 Wx x)) (hl : PO X lo (rO G m m1 Wx l)) (hh : PO X hi (rO G m m1 Wx h)) : PE X (.Subscript e (.Slice lo hi none p2) pos) (rE G m m1 Wx (.sl x l h)) := by
  refine pe_w (pe_slice (sl_it hX.K) he hl hh) fun σ H Q ⟨en, ρ, tm, st, S, R, rel, run⟩ => ?_
  have run : Run G en ρ tm σ Wx _ _ _ (bnd (evE G.tab m m1 ρ x) (fun v => bnd (evO G.tab m m1 ρ l) fun l => bnd (evO G.tab m m1 ρ h) fun h => ofO (slice v l h)) st) (RAe G) Q := run
  refine ⟨en, ρ, tm, st, S, R, rel, (run_bnd run).mono fun y H1 ⟨v, st1, S1, R1, rel1, run1⟩ => ?_⟩
  refine ⟨en, ρ, _, st1, S1, R1, rel1, (run_bndq run1).mono fun l H2 ⟨st2, S2, R2, rel2, run2⟩ => ?_⟩
  refine ⟨en, ρ, _, st2, S2, R2, rel2, (run_bndq run2).mono fun h H3 ⟨st3, S3, R3, rel3, run3⟩ => ?_⟩
  obtain ⟨z, e, run4⟩ := run_ofO run3
  exact ⟨st3, S3, R3, v, z, rel3.st, rel3.top, e, fun u H' S' g hu => run_gr run4 rel3 g hu⟩
/-- a built-in function -/
theorem s_bi {b : Bi} {x : Str} {p pos : Pos} {e : Expr} {es : List Expr} {xs : List E} (he : PE X (.Call (.Name x p) (e :: es) [] pos) (tCB (rBi G b) (rEs G m m1 Wx xs))) : PE X (.Call (.Name x p) (e :: es) [] pos) (rE G m m1 Wx (.bi b xs)) := by
  refine pe_w he fun σ H Q ⟨en, ρ, tm, st, S, R, rel, run⟩ => ?_
  have run : Run G en ρ tm σ Wx _ _ _ (bnd (evEs G.tab m m1 ρ xs) (fun vs => ofO (bi b vs)) st) (RAe G) Q := run
  refine ⟨en, ρ, tm, st, S, R, rel, (run_bndl run).mono fun ys H1 ⟨vs, st1, S1, R1, rel1, rl, _, run1⟩ => ?_⟩
  obtain ⟨z, e, run2⟩ := run_ofO run1
  exact ⟨st1, S1, R1, vs, z, rel1.st, rl, e, fun u H' S' g hu => run_gr run2 rel1 g hu⟩
theorem star_tail {e : Expr} {es : List Expr} (env : PySem.Env) (h : isStar e = false) : starEach (e :: es) env = (false, eval e env) :: starEach es env := by cases e <;> first | rfl | cases h
theorem star_any {pos : Pos} {env : PySem.Env} : ∀ {es : List Expr}, es.any isStar = false → (backTo pos (starEach es env)).any (·.1) = false
  | [], _ => rfl
  | e :: es, h => by
    rw [List.any_cons, Bool.or_eq_false_iff] at h
    rw [star_tail env h.1]
    have := star_any (pos := pos) (env := env) h.2
    unfold backTo at this ⊢
    rw [List.map_cons, List.any_cons, this]
    rfl
theorem s_callbi (hX : CxOk X G c ar d m m1 Wx) {b : Bi} {x : Str} {p pos : Pos} {e : Expr} {es : List Expr} {xs : List E} (hx : c.glo.lookup x = some (.bi b)) (hg : Gl X x) (hs : (e :: es).any isStar = false) (ha : PA X (e :: es) (rEs G m m1 Wx xs)) : PE X (.Call (.Name x p) (e :: es) [] pos) (rE G m m1 Wx (.bi b xs)) := by
  obtain ⟨hm, ex⟩ := hX.defs.bi x b hx
  have hs' := hs
  rw [List.any_cons, Bool.or_eq_false_iff] at hs'
  have h1 : starEach (e :: es) X.env = (false, eval e X.env) :: starEach es X.env := star_tail X.env hs'.1
  have h2 : (backTo pos (starEach es X.env)).any (·.1) = false := star_any hs'.2
  have hu : X.A.units + 64 < cLine := hX.room.units
  cases b with
  | len => subst ex; exact s_bi (pe_callB (cr_len hX.K) hg hm PySem.boot_len ha (by decide +kernel) (by decide +kernel) h1 h2)
  | int => subst ex; exact s_bi (pe_callTy cr_int hg hm (by decide +kernel) ha (by decide +kernel) (by decide +kernel) h1 h2)
  | abs => subst ex; exact s_bi (pe_callB cr_abs hg hm (by decide +kernel) ha (by decide +kernel) (by decide +kernel) h1 h2)
  | tuple => subst ex; exact s_bi (pe_callTy (cr_tuple hX.K) hg hm (by decide +kernel) ha (by decide +kernel) (by decide +kernel) h1 h2)
  | list => subst ex; exact s_bi (pe_callTy (cr_list hX.K) hg hm (by decide +kernel) ha (by decide +kernel) (by decide +kernel) h1 h2)
  | sum => subst ex; exact s_bi (pe_callB (cr_sumE hX.calm) hg hm (by decide +kernel) ha (by decide +kernel) (by decide +kernel) h1 h2)
  | all => subst ex; exact s_bi (pe_callB (cr_allE hX.calm) hg hm (by decide +kernel) ha (by decide +kernel) (by decide +kernel) h1 h2)
  | any => subst ex; exact s_bi (pe_callB (cr_anyE hX.calm) hg hm (by decide +kernel) ha (by decide +kernel) (by decide +kernel) h1 h2)
  | sorted => subst ex; exact s_bi (pe_callB (cr_sortedE hX.K hu) hg hm (by decide +kernel) ha (by decide +kernel) (by decide +kernel) h1 h2)
  | repr => subst ex; exact s_bi (pe_callB (cr_reprE hX.K hX.gd.guards (by have := hX.room.un; omega)) hg hm (by decide +kernel) ha (by decide +kernel) (by decide +kernel) h1 h2)
end
end Py
namespace Py
open PySem PySem.Spec PyProof.Rows L2
section
variable {X : Cx} {G : Wd} {c : CT} {ar : Nat → Nat} {d : Nat} {m m1 : Nat → List EV → M EV} {Wx : WX}
/-! ### comparisons as tests, chains -/
theorem s_cmpT (hX : CxOk X G c ar d m m1 Wx) {a b : Expr} {x y : E} {o : CmpOp} {op : Cmp} {pos : Pos} (ho : cmpOf o = some op) (h1 : o ≠ .Is) (h2 : o ≠ .IsNot) (hb' : isSet b = false) (ha : PE X a (rE G m m1 Wx x)) (hb : PE X b (rE G m m1 Wx y)) : PT X (.Compare a [o] [b] pos) (rT G m m1 Wx (.val (.cmp op x y))) := by
  refine pt_w (pt_cmpR (op_cmpE hX.K (by have := hX.room.units; omega) ho h1 h2) ha hb (by cases b <;> first | rfl | cases hb')) fun σ H Q ⟨en, ρ, tm, st, S, R, rel, run⟩ => ?_
  have run : Run G en ρ tm σ Wx _ _ _ (bnd (bnd (evE G.tab m m1 ρ x) fun v => bnd (evE G.tab m m1 ρ y) fun w => bnd (ofO (cmpop op v w)) fun r => ret (.bl r)) (fun v => ofO (truthy v)) st) RAq Q := run
  rw [bnd_bnd] at run
  refine ⟨en, ρ, tm, st, S, R, rel, (run_bnd run).mono fun y H1 ⟨v, st1, S1, R1, rel1, run1⟩ => ?_⟩
  rw [bnd_bnd] at run1
  refine ⟨en, ρ, _, st1, S1, R1, rel1, (run_bnd run1).mono fun y2 H2 ⟨w, st2, S2, R2, rel2, run2⟩ => ?_⟩
  cases e : cmpop op v w with
  | none => rw [e] at run2; exact run2.elim
  | some z =>
    rw [e] at run2
    exact ⟨st2, S2, R2, v, w, z, rel2.st, rel2.top2, rel2.top, e, z, rfl, run_ret run2 rel2 rfl⟩
theorem s_isT (hX : CxOk X G c ar d m m1 Wx) (neg : Bool) {a : Expr} {x : E} {j : Nat} {p pos : Pos} (ha : PE X a (rE G m m1 Wx x)) : PT X (.Compare a [if neg then .IsNot else .Is] [.Constant .none j p] pos) (rT G m m1 Wx (.val (.cmp (if neg then .isnot else .is) x (.lit .non)))) := by
  have key : PT X (.Compare a [if neg then .IsNot else .Is] [.Constant .none j p] pos) (fun σ H Q => rE G m m1 Wx x σ H fun x H1 => Q (if neg then !decide (x = .non) else decide (x = .non)) H1) := by
    cases neg with
    | true => exact pt_w (pt_cmp (pc_notN ha) rfl) fun σ H Q ⟨en, ρ, tm, st, S, R, rel, run⟩ => ⟨en, ρ, tm, st, S, R, rel, run.mono fun y H1 h => ⟨_, rfl, h⟩⟩
    | false => exact pt_w (pt_cmp (pc_isN ha) rfl) fun σ H Q ⟨en, ρ, tm, st, S, R, rel, run⟩ => ⟨en, ρ, tm, st, S, R, rel, run.mono fun y H1 h => ⟨_, rfl, h⟩⟩
  refine pt_w key fun σ H Q ⟨en, ρ, tm, st, S, R, rel, run⟩ => ?_
  have run : Run G en ρ tm σ Wx _ _ _ (bnd (bnd (evE G.tab m m1 ρ x) fun v => bnd (ret EV.non) fun w => bnd (ofO (cmpop (if neg then .isnot else .is) v w)) fun r => ret (.bl r)) (fun v => ofO (truthy v)) st) RAq Q := run
  rw [bnd_bnd] at run
  refine ⟨en, ρ, tm, st, S, R, rel, (run_bnd run).mono fun y H1 ⟨v, st1, S1, R1, rel1, run1⟩ => ?_⟩
  have e := isNon_eq rel1.top
  rw [e]
  cases neg with
  | true =>
    have run1 : Run G en ρ _ σ Wx _ _ _ (ret (!isNon v) st1) RAq Q := run1
    exact run_ret run1 rel1 rfl
  | false =>
    have run1 : Run G en ρ _ σ Wx _ _ _ (ret (isNon v) st1) RAq Q := run1
    exact run_ret run1 rel1 rfl
theorem chain_marks {op op' : CmpOp} {b e : Expr} (h : isSet b = false) (h' : isSet e = false) : lastMarks [op, op'] [b, e] = false := by
  show behindInMarks op' e = false
  cases e <;> first | rfl | cases h'
theorem s_chn (hX : CxOk X G c ar d m m1 Wx) {a b e : Expr} {x y z : E} {o o' : CmpOp} {op op' : Cmp} {pos : Pos} (ho : cmpOf o = some op) (h1 : o ≠ .Is) (h2 : o ≠ .IsNot) (ho' : cmpOf o' = some op') (h1' : o' ≠ .Is) (h2' : o' ≠ .IsNot) (hb' : isSet b = false) (he' : isSet e = false)
    (ha : PE X a (rE G m m1 Wx x)) (hb : PE X b (rE G m m1 Wx y)) (he : PE X e (rE G m m1 Wx z)) : PE X (.Compare a [o, o'] [b, e] pos) (rE G m m1 Wx (.chn op op' x y z)) := by
  have hu : X.A.units + 64 < cLine := hX.room.units
  refine pe_w (pe_chain (op_cmpE hX.K hu ho h1 h2) (op_cmpE hX.K hu ho' h1' h2') ha hb he (chain_marks hb' he')) fun σ H Q ⟨en, ρ, tm, st, S, R, rel, run⟩ => ?_
  have run : Run G en ρ tm σ Wx _ _ _ (bnd (evE G.tab m m1 ρ x) (fun v => bnd (evE G.tab m m1 ρ y) fun w => bnd (ofO (cmpop op v w)) fun r => if r = true then bnd (evE G.tab m m1 ρ z) fun u => bnd (ofO (cmpop op' w u)) fun r => ret (.bl r) else ret (.bl false)) st) (RAe G) Q := run
  refine ⟨en, ρ, tm, st, S, R, rel, (run_bnd run).mono fun y H1 ⟨v, st1, S1, R1, rel1, run1⟩ => ?_⟩
  refine ⟨en, ρ, _, st1, S1, R1, rel1, (run_bnd run1).mono fun y2 H2 ⟨w, st2, S2, R2, rel2, run2⟩ => ?_⟩
  cases q : cmpop op v w with
  | none => rw [q] at run2; exact run2.elim
  | some k =>
    rw [q] at run2
    refine ⟨st2, S2, R2, v, w, k, rel2.st, rel2.top2, rel2.top, q, k, rfl, ?_⟩
    cases k with
    | false => exact run_ret run2 rel2 (rel_bl.mpr rfl)
    | true =>
      have run2 : Run G en ρ _ σ Wx _ _ _ (bnd (evE G.tab m m1 ρ z) (fun u => bnd (ofO (cmpop op' w u)) fun r => ret (.bl r)) st2) (RAe G) Q := run2
      refine ⟨en, ρ, _, st2, S2, R2, rel2, (run_bnd run2).mono fun y3 H3 ⟨u, st3, S3, R3, rel3, run3⟩ => ?_⟩
      cases q3 : cmpop op' w u with
      | none => rw [q3] at run3; exact run3.elim
      | some k3 =>
        rw [q3] at run3
        exact ⟨st3, S3, R3, w, u, k3, rel3.st, rel3.top2, rel3.top, q3, run_ret run3 rel3 (rel_bl.mpr rfl)⟩
theorem s_chnT (hX : CxOk X G c ar d m m1 Wx) {a b e : Expr} {x y z : E} {o o' : CmpOp} {op op' : Cmp} {pos : Pos} (ho : cmpOf o = some op) (h1 : o ≠ .Is) (h2 : o ≠ .IsNot) (ho' : cmpOf o' = some op') (h1' : o' ≠ .Is) (h2' : o' ≠ .IsNot) (hb' : isSet b = false) (he' : isSet e = false)
    (ha : PE X a (rE G m m1 Wx x)) (hb : PE X b (rE G m m1 Wx y)) (he : PE X e (rE G m m1 Wx z)) : PT X (.Compare a [o, o'] [b, e] pos) (rT G m m1 Wx (.val (.chn op op' x y z))) := by
  have hu : X.A.units + 64 < cLine := hX.room.units
  refine pt_w (pt_chain (op_cmpE hX.K hu ho h1 h2) (op_cmpE hX.K hu ho' h1' h2') ha hb he (chain_marks hb' he')) fun σ H Q ⟨en, ρ, tm, st, S, R, rel, run⟩ => ?_
  have run : Run G en ρ tm σ Wx _ _ _ (bnd (bnd (evE G.tab m m1 ρ x) fun v => bnd (evE G.tab m m1 ρ y) fun w => bnd (ofO (cmpop op v w)) fun r => if r = true then bnd (evE G.tab m m1 ρ z) fun u => bnd (ofO (cmpop op' w u)) fun r => ret (.bl r) else ret (.bl false)) (fun v => ofO (truthy v)) st) RAq Q := run
  rw [bnd_bnd] at run
  refine ⟨en, ρ, tm, st, S, R, rel, (run_bnd run).mono fun y H1 ⟨v, st1, S1, R1, rel1, run1⟩ => ?_⟩
  rw [bnd_bnd] at run1
  refine ⟨en, ρ, _, st1, S1, R1, rel1, (run_bnd run1).mono fun y2 H2 ⟨w, st2, S2, R2, rel2, run2⟩ => ?_⟩
  rw [bnd_bnd] at run2
  cases q : cmpop op v w with
  | none => rw [q] at run2; exact run2.elim
  | some k =>
    rw [q] at run2
    refine ⟨st2, S2, R2, v, w, k, rel2.st, rel2.top2, rel2.top, q, k, rfl, ?_⟩
    cases k with
    | false => exact ⟨false, rfl, run_ret run2 rel2 rfl⟩
    | true =>
      have run2 : Run G en ρ _ σ Wx _ _ _ (bnd (bnd (evE G.tab m m1 ρ z) (fun u => bnd (ofO (cmpop op' w u)) fun r => ret (.bl r))) (fun v => ofO (truthy v)) st2) RAq Q := run2
      rw [bnd_bnd] at run2
      refine ⟨en, ρ, _, st2, S2, R2, rel2, (run_bnd run2).mono fun y3 H3 ⟨u, st3, S3, R3, rel3, run3⟩ => ?_⟩
      cases q3 : cmpop op' w u with
      | none => rw [q3] at run3; exact run3.elim
      | some k3 =>
        rw [q3] at run3
        exact ⟨st3, S3, R3, w, u, k3, rel3.st, rel3.top2, rel3.top, q3, k3, rfl, run_ret run3 rel3 rfl⟩

/-! ### isinstance -/
theorem tyX_of (hK : X.K = G.K) {v : EV} {t : Ty} {b : Bool} (h : isTy v t = some b) (ht : ∀ k, t ≠ .cls k) {H : Hp} {S : Ad} {R : List Addr} {x : V} (hv : RelE G H S R v x) :
    ∃ u, TyX X.K H x u ∧ PySem.W.kitOne X.K u (.type (tyName t)) = some b := by
  have tupK : ∀ {a : Addr} {xs : List V}, SqT X.K H a xs → TyX X.K H (.ref a) (.type "tuple") := by
    intro a xs h
    rcases h with (h | ⟨o, h⟩) | ⟨o, its, n, h1, h2, _⟩
    · exact .base (.tup h)
    · exact .fTuple h
    · exact .kTuple h1 h2
  cases v with
  | non => rw [rel_non] at hv; subst hv; refine ⟨_, .base .non, ?_⟩; cases t <;> first | exact absurd rfl (ht _) | (cases h; exact kit_ty (by decide +kernel))
  | bl k => rw [rel_bl] at hv; subst hv; refine ⟨_, .base (.bl k), ?_⟩; cases t <;> first | exact absurd rfl (ht _) | (cases h; exact kit_ty (by decide +kernel))
  | int i => rw [rel_int] at hv; subst hv; refine ⟨_, .base (.int i), ?_⟩; cases t <;> first | exact absurd rfl (ht _) | (cases h; exact kit_ty (by decide +kernel))
  | str s => rw [rel_str] at hv; subst hv; refine ⟨_, .base (.str s), ?_⟩; cases t <;> first | exact absurd rfl (ht _) | (cases h; exact kit_ty (by decide +kernel))
  | tup l =>
    rw [rel_tupE] at hv
    obtain ⟨a, xs, rfl, h1, _⟩ := hv
    refine ⟨_, tupK (by rw [hK]; exact h1), ?_⟩
    cases t <;> first | exact absurd rfl (ht _) | (cases h; exact kit_ty (by decide +kernel))
  | lst l =>
    rw [rel_lstE] at hv
    obtain ⟨a, xs, rfl, _, h1, _⟩ := hv
    refine ⟨_, .base (.lst h1), ?_⟩
    cases t <;> first | exact absurd rfl (ht _) | (cases h; exact kit_ty (by decide +kernel))
  | dic ks vs =>
    unfold RelE at hv
    obtain ⟨_, _, a, rfl, _, h1⟩ := hv
    refine ⟨_, .base (.dK h1), ?_⟩
    cases t <;> first | exact absurd rfl (ht _) | (cases h; exact kit_ty (by decide +kernel))
  | scr _ => cases t <;> first | exact absurd rfl (ht _) | cases h
  | ins _ _ => cases t <;> first | exact absurd rfl (ht _) | cases h
  | ref _ => cases t <;> first | exact absurd rfl (ht _) | cases h
  | fn _ => cases t <;> first | exact absurd rfl (ht _) | cases h
theorem s_isi (hX : CxOk X G c ar d m m1 Wx) {x y : Str} {t : Ty} {p p2 pos : Pos} {a : Expr} {xa : E} (hx : c.glo.lookup x = some .isi) (hg : Gl X x) (hy : c.tys.lookup y = some t) (hgy : Gl X y) (hs : isStar a = false) (ha : PE X a (rE G m m1 Wx xa)) :
    PE X (.Call (.Name x p) [a, .Name y p2] [] pos) (rE G m m1 Wx (.isi xa t)) := by
  obtain ⟨hm, rfl⟩ := hX.defs.isi x hx
  obtain ⟨ht, hmy, ey⟩ := hX.defs.ty y t hy
  have hn : PE X (.Name y p2) (tC (.ty (tyName t))) := by
    cases t with
    | int => subst ey; exact pe_bltn hgy hmy (by decide +kernel) rfl (by decide +kernel) (by decide +kernel)
    | bool => subst ey; exact pe_bltn hgy hmy (by decide +kernel) rfl (by decide +kernel) (by decide +kernel)
    | str => subst ey; exact pe_bltn hgy hmy (by decide +kernel) rfl (by decide +kernel) (by decide +kernel)
    | tuple => subst ey; exact pe_bltn hgy hmy (by decide +kernel) rfl (by decide +kernel) (by decide +kernel)
    | list => subst ey; exact pe_bltn hgy hmy (by decide +kernel) rfl (by decide +kernel) (by decide +kernel)
    | dict => subst ey; exact pe_bltn hgy hmy (by decide +kernel) rfl (by decide +kernel) (by decide +kernel)
    | cls k => exact absurd rfl (ht k)
  refine pe_w (pe_callB call_isi hg hm (by decide +kernel) (pa_cons ha (pa_cons hn pa_nil rfl) (star_tail X.env hs)) (by decide +kernel) (by decide +kernel) (star_tail X.env hs) (by rfl)) fun σ H Q ⟨en, ρ, tm, st, S, R, rel, run⟩ => ?_
  have run : Run G en ρ tm σ Wx _ _ _ (bnd (evE G.tab m m1 ρ xa) (fun v => bnd (ofO (isTy v t)) fun r => ret (.bl r)) st) (RAe G) Q := run
  refine ⟨en, ρ, tm, st, S, R, rel, (run_bnd run).mono fun y H1 ⟨v, st1, S1, R1, rel1, run1⟩ => ?_⟩
  cases e : isTy v t with
  | none => rw [e] at run1; exact run1.elim
  | some b =>
    rw [e] at run1
    obtain ⟨u, h1, h2⟩ := tyX_of hX.K e ht rel1.top
    exact ⟨y, _, u, _, b, rfl, .ty _, h1, h2, run_ret run1 rel1 (rel_bl.mpr rfl)⟩

/-! ### fields -/
theorem lookup_rel {H : Hp} {S : Ad} {R : List Addr} {f : Nat} {z : EV} : ∀ {fl : List Nat} {vs : List EV} {xs : List V}, RelL G H S R vs xs → (fl.zip vs).lookup f = some z → ∃ x, ((fl.map G.fld).zip xs).lookup (G.fld f) = some x ∧ RelE G H S R z x
  | [], _, _, _, h => by simp at h
  | _ :: _, [], _, _, h => by simp at h
  | g :: fl, v :: vs, xs, hl, h => by
    unfold RelL at hl
    obtain ⟨x, ys, rfl, h1, h2⟩ := hl
    rw [List.zip_cons_cons, List.lookup_cons] at h
    rw [List.map_cons, List.zip_cons_cons, List.lookup_cons]
    cases e : f == g with
    | true =>
      rw [e] at h
      cases h
      rw [eq_of_beq e, beq_self_eq_true]
      exact ⟨x, rfl, h1⟩
    | false =>
      rw [e] at h
      have ne : (G.fld f == G.fld g) = false := by
        rw [beq_eq_false_iff_ne]
        intro q
        rw [G.finj _ _ q] at e
        simp at e
      rw [ne]
      exact lookup_rel h2 h
theorem lookup_fs {f : Nat} : ∀ {fs : List (Nat × EV)}, fs.lookup f = ((fs.map (·.1)).zip (fs.map (·.2))).lookup f
  | [] => rfl
  | p :: r => by
    rw [List.map_cons, List.map_cons, List.zip_cons_cons, List.lookup_cons]
    show (match f == p.1 with | true => some p.2 | false => r.lookup f) = (match f == p.1 with | true => some p.2 | false => _)
    rw [lookup_fs (fs := r)]
theorem s_att (hX : CxOk X G c ar d m m1 Wx) {a : Expr} {x : E} {f : Str} {k : Nat} {pos : Pos} (hf : c.fld.lookup f = some k) (h0 : isCall0 a = false) (ha : PE X a (rE G m m1 Wx x)) : PE X (.Attribute a f pos) (rE G m m1 Wx (.att x k)) := by
  have ef := hX.defs.fld f k hf
  refine pe_w (pe_fld ha ?_) fun σ H Q ⟨en, ρ, tm, st, S, R, rel, run⟩ => ?_
  · cases a <;> first | rfl | skip
    rename_i fn args kw p
    cases args with
    | nil => cases h0
    | cons b bs => cases fn <;> rfl
  have run : Run G en ρ tm σ Wx _ _ _ (bnd (evE G.tab m m1 ρ x) (fun v => attOf G.tab k v) st) (RAe G) Q := run
  refine ⟨en, ρ, tm, st, S, R, rel, (run_bnd run).mono fun y H1 ⟨v, st1, S1, R1, rel1, run1⟩ => ?_⟩
  cases v with
  | ins cl vs =>
    have run1 : Run G en ρ ((EV.ins cl vs, y) :: tm) σ Wx _ _ _ ((match G.tab.cls cl with
      | some (_, fl, _) => ofO ((fl.zip vs).lookup k)
      | none => bad) st1) (RAe G) Q := run1
    cases ec : G.tab.cls cl with
    | none => rw [ec] at run1; exact run1.elim
    | some t =>
      obtain ⟨fI, fl, b⟩ := t
      rw [ec] at run1
      obtain ⟨z, e, run2⟩ := run_ofO run1
      have top := rel1.top
      unfold RelE at top
      obtain ⟨a', dx, xs, rfl, hS, ⟨f2, fl2, e1, h1, h2⟩, rl⟩ := top
      rw [ec] at e1
      cases e1
      obtain ⟨u, e3, e4⟩ := lookup_rel rl e
      obtain ⟨cc, na⟩ := hX.defs.clsOk _ _ _ _ ec
      rw [ef] at e3
      exact ⟨a', _, dx, _, u, rfl, h1, by rw [hX.K]; exact cc, by rw [hX.K]; exact na f k hf, e3, run_ret run2 rel1 e4⟩
  | ref i =>
    have run1 : Run G en ρ ((EV.ref i, y) :: tm) σ Wx _ _ _ (match st1[i]? with
      | some (.ins _ fs) => (match fs.lookup k with
        | some v => Res.ok v st1
        | none => .bad)
      | _ => .bad) (RAe G) Q := run1
    have top := rel1.top
    rw [rel_refE] at top
    obtain ⟨a', rfl, hR⟩ := top
    cases es : st1[i]? with
    | none => rw [es] at run1; exact run1.elim
    | some o =>
      rw [es] at run1
      cases o with
      | lst l => exact run1.elim
      | ins cl fs =>
        have run1 : Run G en ρ ((EV.ref i, V.ref a') :: tm) σ Wx _ _ _ (match fs.lookup k with
          | some v => Res.ok v st1
          | none => .bad) (RAe G) Q := run1
        cases ez : fs.lookup k with
        | none => rw [ez] at run1; exact run1.elim
        | some z =>
          rw [ez] at run1
          obtain ⟨dx, xs, h1, h2, ⟨t, ec⟩, rl⟩ := rel1.st.so i a' _ hR es
          obtain ⟨fI, fl, b⟩ := t
          rw [lookup_fs] at ez
          obtain ⟨u, e3, e4⟩ := lookup_rel rl ez
          obtain ⟨cc, na⟩ := hX.defs.clsOk _ _ _ _ ec
          rw [ef] at e3
          exact ⟨a', _, dx, _, u, rfl, h1, by rw [hX.K]; exact cc, by rw [hX.K]; exact na f k hf, e3, run1 u _ _ _ rel1 (Stp.refl _ _ _) e4⟩
  | _ => exact run1.elim
end
end Py
namespace Py
open PySem PySem.Spec PyProof.Rows L2
section
variable {X : Cx} {G : Wd} {c : CT} {ar : Nat → Nat} {d : Nat} {m m1 : Nat → List EV → M EV} {Wx : WX}
/-! ### calls -/
theorem sp_run {n : Nat} {f : List EV → M EV} {en : En} {ρ : Env} {tm : List (EV × V)} {σ : L2.St} {H1 : Hp} {st1 : Store} {S1 : Ad} {R1 : List Addr} {vs : List EV} {ys : List V} {Q : VK} (rel1 : Rel G en ρ tm st1 S1 R1 σ H1) (rl : RelL G H1 S1 R1 vs ys) (hn : vs.length ≠ n → f vs st1 = .bad)
    (run1 : Run G en ρ tm σ Wx S1 R1 H1 (f vs st1) (RAe G) Q) : spOf G n f ys H1 Q (WE Wx σ) := by
  have hl : vs.length = n := by
    by_cases q : vs.length = n
    · exact q
    · rw [hn q] at run1; exact run1.elim
  refine ⟨vs, st1, S1, R1, rel1.st, rl, hl, ?_⟩
  cases e : f vs st1 with
  | bad => rw [e] at run1; exact run1.elim
  | ok v st' =>
    rw [e] at run1
    exact fun x H' S' R' E hp hn hs hv => run1 x H' S' R' (rel1.grow E hs hp hn) ⟨E, hp, hn⟩ hv
  | ex x st' =>
    rw [e] at run1
    exact fun cls dx H' S' R' E hp hn hs hv => run1 cls dx H' S' R' (rel1.nil.grow E hs hp hn) hv
theorem s_call (hX : CxOk X G c ar d m m1 Wx) {x : Str} {f : Nat} {p pos : Pos} {e : Expr} {es : List Expr} {xs : List E} (hx : c.glo.lookup x = some (.fn f)) (hg : Gl X x) (hdb : (x == ("__debug__" : Str)) = false) (hs : (e :: es).any isStar = false) (ha : PA X (e :: es) (rEs G m m1 Wx xs)) :
    PE X (.Call (.Name x p) (e :: es) [] pos) (rE G m m1 Wx (.call f xs)) := by
  obtain ⟨a, fd, ps, hm, hk, hb, hF⟩ := hX.defs.fn x f hx
  rw [List.any_cons, Bool.or_eq_false_iff] at hs
  rw [← hX.K] at hk hb hF
  refine ⟨fun pins s σ H Q I h => ?_⟩
  obtain ⟨en, ρ, tm, st, S, R, rel, run⟩ := h
  have run : Run G en ρ tm σ Wx S R H (bnd (evEs G.tab m m1 ρ xs) (fun vs => m f vs) st) (RAe G) Q := run
  have hh : rEs G m m1 Wx xs σ H fun ys H' => ∃ vs st' S' R', Rel G en ρ tm st' S' R' σ H' ∧ RelL G H' S' R' vs ys ∧ Run G en ρ tm σ Wx S' R' H' (m f vs st') (RAe G) Q :=
    ⟨en, ρ, tm, st, S, R, rel, (run_bndl run).mono fun ys H1 ⟨vs, st1, S1, R1, rel1, rl, _, run1⟩ => ⟨vs, st1, S1, R1, rel1, rl, run1⟩⟩
  refine wpAny_Call_Name_kw (ld_glob I hg hm ?_ hdb)
  refine PySem.W.callWith_K (h₀ := X.base) I.ok.mod.kin hk (thn (ha.run pos pins s σ H _ I hh) fun us s1 ⟨ys, H1, I1, r, vs, st1, S1, R1, rel1, rl, run1⟩ => ⟨I1.kIn, ?_⟩) (star_tail X.env hs.1) (star_any hs.2)
  exact run_fnG (E := WE Wx σ) hF hX.room hX.gd hb (passAt hX.tk σ) I1 r (sp_run rel1 rl (hX.arm.ne f vs st1) run1)

/-! ### instances -/
theorem run_makeS {CX : CXT} {k : Nat} {f C : Addr} {fd : FuncData} {ps : List Str} {sp : Sp} {ds : List Value} {dvs : List V} {E : XK} {pins : List (Addr × Obj)} {σ : L2.St} {H : Hp} {s : Shared} {Q : VK} {us : List Value} {vs : List V} (M : Mk X.K C f) (F : FnG X.prog X.w X.K X.mg X.base CX k f fd ps sp) (hr : Room (k + 1) X.A) (hgd : Gd (k + 1) X.A) (hb : Binds X.K fd ps ds) (hd : Vals dvs ds)
    (hx : PassesAt CX X σ E) (I : L2.Inv X pins σ H s) (r : Vals vs us)
    (h : ∀ x dx, H x = none → H dx = none → dx ≠ x → sp (.ref x :: (vs ++ dvs)) (upd (upd H dx (.own x)) x (.ins C dx [])) (fun v H2 => v = .non ∧ Q (.ref x) H2) E) :
    wpAny (model X.prog X.w) X.A (PySem.call (.ref C) us) (EP X pins σ Q) X.xe s := by
  have hq := h (s.heap.objs.size + 1) s.heap.objs.size (I.hok.fresh (Nat.le_succ _)) (I.hok.fresh (Nat.le_refl _)) (Nat.ne_of_lt (Nat.lt_succ_self _))
  have I2 := Inv.made (C := C) I
  have r2 : Vals (V.ref (s.heap.objs.size + 1) :: (vs ++ dvs)) (Value.ref (s.heap.objs.size + 1) :: (us ++ ds)) := .cons rfl (r.append hd)
  have hl : (Value.ref (s.heap.objs.size + 1) :: us ++ ds).length = ps.length := by
    have e := r2.length
    rw [F.len _ _ _ _ hq] at e
    exact e.symm
  refine wpAny_call (make_map (f := f) I.kIn M.makes M.init (beq_iff_eq.mp M.fn) (codeAny_mono (F.run _ X.stack _ _ ⟨Value.ref (s.heap.objs.size + 1) :: us, []⟩ (Value.ref (s.heap.objs.size + 1) :: (us ++ ds)) _ _ E (hr.make C us []) ⟨guards_make hgd.guards C us, by rw [make_depth]; have := hgd.dp; omega⟩
    (I2.env0.make C us []) (hb _ (Value.ref (s.heap.objs.size + 1) :: us) I2.kIn hl) r2 hq) fun r s' hq' => ?_))
  cases r with
  | error e => exact hx pins _ _ e s' I2 hq'
  | ok fl =>
    cases fl with
    | ret u =>
      obtain ⟨v, H', I3, rv, ev, q3⟩ := I2.after hq'
      subst ev
      exact ⟨rv, ⟨V.ref (s.heap.objs.size + 1), H', I3, rfl, q3⟩⟩
    | next => exact False.elim hq'
    | brk => exact False.elim hq'
    | cont => exact False.elim hq'
theorem s_mk (hX : CxOk X G c ar d m m1 Wx) {x : Str} {k : Nat} {p pos : Pos} {e : Expr} {es : List Expr} {xs : List E} (hx : c.glo.lookup x = some (.cls k)) (hg : Gl X x) (hdb : (x == ("__debug__" : Str)) = false) (hs : (e :: es).any isStar = false) (ha : PA X (e :: es) (rEs G m m1 Wx xs)) :
    PE X (.Call (.Name x p) (e :: es) [] pos) (rE G m m1 Wx (.mk k xs)) := by
  rw [List.any_cons, Bool.or_eq_false_iff] at hs
  obtain ⟨f, fl, b, ht, fI, fd, ps, hm, hM, hb, h0⟩ := hX.defs.cls x k hx
  rw [← hX.K] at hM hb h0
  refine ⟨fun pins s σ H Q I h => ?_⟩
  obtain ⟨en, ρ, tm, st, S, R, rel, run⟩ := h
  have run : Run G en ρ tm σ Wx _ _ _ (bnd (evEs G.tab m m1 ρ xs) (fun vs => mkM G.tab m1 k vs) st) (RAe G) Q := run
  have hh : rEs G m m1 Wx xs σ H fun ys H' => ∃ vs st' S' R', Rel G en ρ tm st' S' R' σ H' ∧ RelL G H' S' R' vs ys ∧ Run G en ρ tm σ Wx S' R' H' (mkM G.tab m1 k vs st') (RAe G) Q :=
    ⟨en, ρ, tm, st, S, R, rel, (run_bndl run).mono fun ys H1 ⟨vs, st1, S1, R1, rel1, rl, _, run1⟩ => ⟨vs, st1, S1, R1, rel1, rl, run1⟩⟩
  refine wpAny_Call_Name_kw (ld_glob I hg hm ?_ hdb)
  refine PySem.W.callWith_K (h₀ := X.base) I.ok.mod.kin hM.kp (thn (ha.run pos pins s σ H _ I hh) fun us s1 ⟨ys, H1, I1, r, vs, st1, S1, R1, rel1, rl, run1⟩ => ⟨I1.kIn, ?_⟩) (star_tail X.env hs.1) (star_any hs.2)
  rcases h0 with ⟨h0, hF⟩ | h0
  case inr =>
    exfalso
    have e : mkM G.tab m1 k vs st1 = .bad := by
      unfold mkM
      simp only [h0]
      split <;> rfl
    rw [e] at run1
    exact run1
  have hr : Room (d - 1 + 1) X.A := hX.room.mono (by omega)
  refine run_makeS (E := WE Wx σ) hM hF hr (hX.gd.mono (by omega)) hb .nil (passAt hX.tk σ) I1 r fun x dx nx nd ne => ?_
  rw [List.append_nil]
  -- the store with the new instance
  cases em : mkM G.tab m1 k vs st1 with
  | bad => rw [em] at run1; exact run1.elim
  | ex y st' => exact (mkM_ex em).elim
  | ok v st' =>
    rw [em] at run1
    obtain ⟨f', fl', fs, e1, e2, e3, rfl, e5, rfl⟩ := mkM_inv em
    rw [ht] at e1
    cases e1
    have keep : ∀ a o, H1 a = some o → (upd (upd H1 dx (.own x)) x (.ins (G.cls k) dx [])) a = some o := fun a o q => by
      rw [upd_ne (ne_of_none q nx), upd_ne (ne_of_none q nd)]; exact q
    have g2 : Gr S1 H1 S1 (upd (upd H1 dx (.own x)) x (.ins (G.cls k) dx [])) := ⟨keep, fun _ h => h, fun _ h => .inl h⟩
    have so2 := rel1.st.grow g2
    have nR : x ∉ R1 := fun z => by
      obtain ⟨o, q, _⟩ := rel1.st.isSo z
      rw [nx] at q; cases q
    have hp1 : R1 <+: R1 ++ [x] := ⟨[x], rfl⟩
    have so3 : StOk G (upd (upd H1 dx (.own x)) x (.ins (G.cls k) dx [])) S1 (R1 ++ [x]) (st' ++ [.ins k []]) := by
      refine ⟨by rw [List.length_append, List.length_append, rel1.st.len]; rfl, ?_, fun a ha z => ?_, so2.trk, fun i a o h1 h2 => ?_⟩
      · rw [List.nodup_append]
        exact ⟨rel1.st.nd, List.nodup_cons.mpr ⟨(fun z => nomatch z), List.nodup_nil⟩, fun a ha b hb => by
          rw [List.mem_singleton.mp hb]
          rintro rfl
          exact nR ha⟩
      · rcases List.mem_append.mp ha with q | q
        · exact rel1.st.dis a q z
        · rw [List.mem_singleton.mp q] at z
          exact rel1.st.trk x z nx
      · by_cases hi : i < R1.length
        · rw [List.getElem?_append_left hi] at h1
          rw [List.getElem?_append_left (by rw [← rel1.st.len]; exact hi)] at h2
          exact SoOk.mono (Ext.refl _ _ _) so2.both hp1 (fun _ q => q) (so2.so i a o h1 h2)
        · rw [List.getElem?_append_right (by omega)] at h1
          rw [List.getElem?_append_right (by rw [← rel1.st.len]; omega)] at h2
          rw [rel1.st.len] at h1
          have hi0 : i - st'.length = 0 := by
            have := (List.getElem?_eq_some_iff.mp h1).1
            simp at this; exact this
          rw [hi0] at h1 h2
          cases h1
          cases h2
          exact ⟨dx, [], by rw [upd_same]; rfl, rfl, ⟨_, ht⟩, RelL.nil⟩
    have rl3 : RelL G (upd (upd H1 dx (.own x)) x (.ins (G.cls k) dx [])) S1 (R1 ++ [x]) (.ref st'.length :: vs) (.ref x :: ys) := by
      refine RelL.cons (rel_refE.mpr ⟨x, rfl, ?_⟩) (RelL.mono (g2.ext R1) rel1.st.both hp1 vs rl)
      rw [← rel1.st.len, List.getElem?_append_right (Nat.le_refl _)]
      simp
    have hl : (EV.ref st'.length :: vs).length = ar f := by
      by_cases q : (EV.ref st'.length :: vs).length = ar f
      · exact q
      · rw [hX.arm1.ne f _ _ q] at e2; cases e2
    refine ⟨.ref st'.length :: vs, st' ++ [.ins k []], S1, R1 ++ [x], so3, rl3, hl, ?_⟩
    rw [e2]
    intro v H' S' R' E hp hn hs hv
    refine ⟨rel_non.mp hv, ?_⟩
    -- behind __init__
    have lenR : R' = R1 ++ [x] := by
      obtain ⟨t, rfl⟩ := hp
      have h1 := hs.len
      rw [List.length_append, List.length_append, List.length_append, rel1.st.len] at h1
      have : t = [] := by
        cases t with
        | nil => rfl
        | cons a t => simp at h1
      rw [this, List.append_nil]
    subst lenR
    have hx' : (R1 ++ [x])[st'.length]? = some x := by
      rw [← rel1.st.len, List.getElem?_append_right (Nat.le_refl _)]
      simp
    obtain ⟨dx', xs', h1, h2, _, h3⟩ := hs.so st'.length x (.ins k fs) hx' (by rw [List.getElem?_append_right (Nat.le_refl _)]; simp)
    have noS : ¬ S' x := hs.dis x (by simp)
    have E1 : Ext R1 S1 H1 (Sadd S' x) H' := by
      refine ⟨fun a o q hn => E.keep a o (keep a o q) fun z => ?_, fun a q => E.stay a ((g2.ext R1).stay a q), fun a q => .inl (E.sub a q), fun a q => ?_⟩
      · rcases List.mem_append.mp z with z | z
        · exact hn z
        · rw [List.mem_singleton.mp z, nx] at q; cases q
      · rcases q with q | rfl
        · rcases E.new a q with z | z
          · exact .inl z
          · refine .inr ⟨?_, z.2⟩
            cases h5 : H1 a with
            | none => rfl
            | some o => rw [keep a o h5] at z; cases z.1
        · exact .inr ⟨nx, by rw [h1]; exact (fun z => nomatch z)⟩
    have ok1 : StOk G H' (Sadd S' x) R1 st' := by
      refine ⟨rel1.st.len, rel1.st.nd, fun a ha z => ?_, fun a z => ?_, fun i a o h1 h2 => ?_⟩
      · rcases z with z | rfl
        · exact hs.dis a (List.mem_append_left _ ha) z
        · exact nR ha
      · rcases z with z | rfl
        · exact hs.trk a z
        · rw [h1]; exact (fun z => nomatch z)
      · have hi : i < R1.length := (List.getElem?_eq_some_iff.mp h1).1
        have hi2 : i < st'.length := by rw [← rel1.st.len]; exact hi
        have q := hs.so i a o (by rw [List.getElem?_append_left hi]; exact h1) (by rw [List.getElem?_append_left hi2]; exact h2)
        have q0 := rel1.st.so i a o h1 h2
        cases o with
        | lst l =>
          obtain ⟨zs, q1, q2⟩ := q
          obtain ⟨zs0, _, q3⟩ := q0
          exact ⟨zs, q1, refs_lessL (fun _ z => .inl z) hp1 l q2 (refs_ofL l q3)⟩
        | ins cc gs =>
          obtain ⟨dz, zs, q1, q2, q3, q4⟩ := q
          obtain ⟨_, _, _, _, _, q5⟩ := q0
          exact ⟨dz, zs, q1, q2, q3, refs_lessL (fun _ z => .inl z) hp1 _ q4 (refs_ofL _ q5)⟩
    refine run1 (.ref x) H' (Sadd S' x) R1 (rel1.grow E1 ok1 List.prefix_rfl fun _ ha => .inl ha) ⟨E1, List.prefix_rfl, fun _ ha => .inl ha⟩ ?_
    unfold RelE
    refine ⟨x, dx', xs', rfl, .inr rfl, ⟨f, fl, ht, by rw [← e3]; exact h1, by rw [← e3, List.length_map]; exact h2⟩, ?_⟩
    exact refs_lessL (fun _ z => .inl z) hp1 _ h3 (by rw [rel1.st.len]; exact e5)
end
end Py
end
section
/-! PyIt: what a for walks. -/
namespace Py
open PySem PySem.Spec PyProof.Rows L2

set_option maxHeartbeats 1000000 in
theorem meets_enum1 {v : Value} {o : Obj} {H : Heap → Prop} (B : Begins v o H) :
    Meets (Builtin.«enumerate.__new__» ⟨[.type "enumerate", v], []⟩) (fun _ R s => H s.heap ∧
      R (.ok (.ret (.ref (s.heap.push o).objs.size))) { s with heap := (s.heap.push o).push { cls := .type "enumerate", data := .fields #[.none, .bool false, .ref s.heap.objs.size, rawInt 0, .none, .none] } }) :=
  .of_wp fun prog w A R s h => by
    obtain ⟨hp, g, d, tk, os⟩ := s; obtain ⟨h1, h⟩ := h
    have hsub := sub_enumerate
    have q1 : ∀ {A' : Around} {E : Value → Shared → Prop} {Q : Value → Shared → Prop}, Q (.ref hp.objs.size) ⟨hp.push o, g, d, tk, os⟩ → wpAny (model prog w) A' (pyIter v) Q E ⟨hp, g, d, tk, os⟩ :=
      fun q => B.iter prog w _ _ ⟨hp, g, d, tk, os⟩ _ h1 q
    wp_walk using q1
    refine wpAny_stack_any fun st => wpAny_pure ?_
    split
    · rename_i c _ _ _ _ _
      cases (c == Value.type "enumerate")
      · wp_walk using q1
        exact ⟨_, rfl, h⟩
      · wp_walk using q1
        exact ⟨_, rfl, h⟩
    · wp_walk using q1
      exact ⟨_, rfl, h⟩
section
variable {prog : Program} {w : World} {A : Around} {E : Value → Shared → Prop} {s : Shared}
theorem enum_begins1 {v : Value} {o : Obj} {H : Heap → Prop} {Q : Value → Shared → Prop} (B : Begins v o H) (h1 : H s.heap)
    (h : ∀ h', IsEnum h' (s.heap.objs.size + 1) s.heap.objs.size 0 .none → h'.get? s.heap.objs.size = some o → h'.objs.size = s.heap.objs.size + 2 →
      (∀ b o, s.heap.get? b = some o → h'.get? b = some o) → Q (.ref (s.heap.objs.size + 1)) { s with heap := h' }) :
    wpAny (model prog w) A (PySem.call (.type "enumerate") [v]) Q E s := by
  refine callType_new F.called_enumerate (by decide) (F.typeCall_enumerate_1 _) (F.newCall_enumerate_1 _) (fun obj => F.args_object_init_2 obj _) F.entry_enumerate_new
    (meets_enum1 B) ⟨h1, ?_⟩
  have hz : (s.heap.push o).objs.size = s.heap.objs.size + 1 := Heap.size_push ..
  show _ ∧ _
  rw [hz]
  have he : IsEnum ((s.heap.push o).push { cls := .type "enumerate", data := .fields #[.none, .bool false, .ref s.heap.objs.size, rawInt 0, .none, .none] }) (s.heap.objs.size + 1) s.heap.objs.size 0 .none := by
    have := Heap.get?_push_size (s.heap.push o) (o := { cls := .type "enumerate", data := .fields #[.none, .bool false, .ref s.heap.objs.size, rawInt 0, .none, .none] }) rfl
    rw [hz] at this; exact this
  refine ⟨⟨_, he, rfl⟩, h _ he (Heap.get?_push_of_some _ (Heap.get?_push_size _ B.free)) (by rw [Heap.size_push, hz]) fun b o x => Heap.get?_push_of_some _ (Heap.get?_push_of_some _ x)⟩
end

/-- enumerate of a tuple -/
def IteT (K : PySem.W.Frag) (a : Addr) : L2.It :=
  ⟨fun i H => ∃ (xs : List V) (x : V), SqT K H a xs ∧ xs[i]? = some x, fun i H v H' => ∃ T x, v = .ref T ∧ H T = none ∧ H' = upd H T (.tup [.int (i : Nat), x]) ∧ ∀ xs, SqT K H a xs → xs[i]? = some x, fun i H => ∃ xs : List V, SqT K H a xs ∧ xs.length ≤ i⟩
theorem turn_enumT {P : Program} {w : World} {K : PySem.W.Frag} {elts : List Expr} {kk : Nat} {tpos : Pos} (a e it : Addr) :
    Turn P w K (.Tuple elts kk tpos) (IteT K a) [e, it] e (fun i h => (∃ old, IsEnum h e it ((i : Nat) : Int) old) ∧ h.IsTupleIter it a i ∧ e ≠ it ∧ a ≠ it ∧ a ≠ e) where
  mem := by simp
  obj := fun i h st b hb => by
    obtain ⟨⟨old, he⟩, ⟨o, ho, hc, hd⟩, _⟩ := st
    have e' : b = e ∨ b = it := by simpa using hb
    rcases e' with z | z
    · rw [z]; exact ⟨_, he, fun v q => nomatch q⟩
    · rw [z]; exact ⟨o, ho, fun v q => by rw [hd] at q; cases q⟩
  keep := fun i h h' st k => let ⟨⟨old, he⟩, hi, hne⟩ := st; ⟨⟨old, k e (by simp) _ he⟩, hi.at fun o q => k it (by simp) o q, hne⟩
  item := by
    intro X hP hw hK hc i pins s σ H E I hf st hg
    subst hP hw hK
    obtain ⟨⟨old, he⟩, hit, hne, hai, hae⟩ := st
    obtain ⟨xs, x, hq, hx⟩ := hg
    obtain ⟨its, rv, p, hz⟩ := I.tuple hq
    obtain ⟨u, hu, ru⟩ := rv.get hx
    have hel : e < s.heap.objs.size := Heap.lt_size he
    have hil : it < s.heap.objs.size := by obtain ⟨_, q, _⟩ := hit; exact Heap.lt_size q
    have D := Draws.tuple (prog := X.prog) (w := X.w) (A := X.A.in1) (by exact I.ok.hd hc) it a hai its.toArray
    refine wpAny_pyNext_enum_itemD D he ⟨hit, show s.heap.IsTuple a its.toArray from p⟩ (by have := (List.getElem?_eq_some_iff.mp hu).1; simpa using this) hne (by simp only [List.mem_cons, List.not_mem_nil, or_false, not_or]; exact ⟨hne, fun z => hae z.symm⟩) fun x' h' tk hP ho hst hT hsz hk => ?_
    have ex : x' = u := by
      have h1 : its.toArray[i]? = some x' := hP
      rw [List.getElem?_toArray, hu] at h1
      exact (Option.some.inj h1).symm
    subst ex
    refine ⟨_, rfl, wpAny_letOwnedTupleGo_enum (s := { s with heap := h', toks := tk + 1 }) ho fun h'' he' sb => ?_⟩
    have hT2 : h''.get? s.heap.objs.size = some { cls := .type "tuple", data := .seq #[.int i tk, x'] } := (sb.2 _ (Nat.ne_of_gt hel)).trans hT
    have new : ObjOk X.prog X.w (upd H s.heap.objs.size (.tup [.int (i : Nat), x])) h'' s.heap.objs.size (.tup [.int (i : Nat), x]) :=
      ⟨by show 2 ≤ sizeLine; decide, [.int i tk, x'], .cons ⟨_, rfl⟩ (.cons ru .nil), ⟨_, hT2, rfl, _, rfl⟩⟩
    have I1 : L2.Inv X pins σ (upd H s.heap.objs.size (.tup [.int (i : Nat), x])) { s with heap := h'', toks := tk + 1 } :=
      I.turnedNew (ch := [e, it]) (fun b ob hb q => (sb.2 b (fun z => hb (by simp [z]))).trans (hk b ob (fun z => hb (by simp [z])) (fun z => hb (by simp [z])) q)) hf (Nat.le_refl _) new
    refine ⟨.ref s.heap.objs.size, _, I1, rfl, ⟨_, x, rfl, I.hok.fresh (Nat.le_refl _), rfl, fun ys hy => by rw [I.tuple_inj hy hq]; exact hx⟩, ⟨⟨x', ?_⟩, hst.1.at fun o q => (sb.2 it (Ne.symm hne)).trans q, hne, hai, hae⟩, fun b hb => ?_⟩
    · have e1 : ((i + 1 : Nat) : Int) = (i : Int) + 1 := by omega
      rw [e1]; exact he'
    · have hb' : b < s.heap.objs.size := by
        have e' : b = e ∨ b = it := by simpa using hb
        rcases e' with z | z
        · rw [z]; exact hel
        · rw [z]; exact hil
      rw [upd_ne (Nat.ne_of_lt hb')]
      exact (hf b hb).1
  done := by
    intro X hP hw hK hc i pins s σ H E I hf st hg
    subst hP hw hK
    obtain ⟨⟨old, he⟩, hit, hne, hai, hae⟩ := st
    obtain ⟨xs, hq, hx⟩ := hg
    obtain ⟨its, rv, p, hz⟩ := I.tuple hq
    obtain ⟨f0, f1, f2, f3, f4, f5⟩ := hf it (by simp)
    have hl := rv.length
    have hT : s.TypeIs (.ref e) "enumerate" := ⟨_, he, rfl⟩
    unfold pyNext
    refine wpAny_bind (wpAny_attempt (wpAny_callSpecial?_slot (name := Str.ofString "__next__") hT F.slot_enumerate_next
      (wpAny_call_entry F.slot_enumerate_next hT F.entry_enumerate_next ?_ (F.args_enumerate_next_1 _))))
    show wpAny _ _ (field (.ref e) 2 >>= _) _ _ _
    refine wpAny_bind (wpAny_field he rfl (x := .ref it) rfl ?_)
    refine wpAny_bind (wpAny_nextOf_tuple_end (by exact I.ok.hd hc) hit (show s.heap.IsTuple a its.toArray from p) (by simp; omega) fun h' x he' hx' => ?_)
    obtain ⟨o, ho, hcc⟩ := hx'
    refine wpAny_bind (wpAny_isInstance (T := "StopIteration") (b := true) ⟨o, ho, hcc⟩ isSubtype_stop ?_)
    exact wpAny_pure ⟨rfl, I.turned (t' := s.toks) (fun b o hb q => he' b o hb q) f0 f1 f3 f4 f5⟩
  self := fun A i s Q E st h => let ⟨⟨_, he⟩, _⟩ := st; wpAny_pyIter_enum he h
end Py

namespace Py
open PySem PySem.Spec PyProof.Rows L2
/-- what an iterator leans on -/
abbrev Pr := Hp → Ad → List Addr → Prop
/-- .. that trees stand -/
abbrev Pt (G : Wd) (t : List (EV × V)) : Pr := fun H S R => ∀ p ∈ t, RelE G H S R p.1 p.2
def Stable (G : Wd) (P : Pr) : Prop := ∀ (R : List Addr) (S : Ad) (H : Hp) (st : Store) (R' : List Addr) (S' : Ad) (H' : Hp), StOk G H S R st → Stp R S H R' S' H' → P H S R → P H' S' R'
theorem pt_stable (G : Wd) (t : List (EV × V)) : Stable G (Pt G t) := fun _ _ _ _ _ _ _ ok s h p hp => RelE.stp s ok (h p hp)
/-- the iterator J draws the trees l, as long as P stands -/
structure JOk (G : Wd) (J : L2.It) (l : List EV) (P : Pr) : Prop where
  go : ∀ (i : Nat) (H : Hp) (S : Ad) (R : List Addr) (st : Store), StOk G H S R st → P H S R → i < l.length → J.go i H
  yld : ∀ (i : Nat) (H : Hp) (S : Ad) (R : List Addr) (st : Store) (v : EV), StOk G H S R st → P H S R → l[i]? = some v → ∀ x H', J.yld i H x H' → ∃ S', Gr S H S' H' ∧ RelE G H' S' R v x
  stop : ∀ (i : Nat) (H : Hp) (S : Ad) (R : List Addr) (st : Store), StOk G H S R st → P H S R → i = l.length → J.stop i H
def RunI (o : Bool) (G : Wd) (en : En) (ρ : Env) (tm : List (EV × V)) (σ : L2.St) (Wx : WX) (S : Ad) (R : List Addr) (H : Hp) (r : Res (List EV)) (Rk : L2.It → Hp → Prop) : Prop := match r with
  | .ok l st' => ∀ J P H' S' R', Rel G en ρ tm st' S' R' σ H' → Stp R S H R' S' H' → P H' S' R' → Stable G P → (o = false → ∃ t, P = Pt G t) → JOk G J l P → Rk J H'
  | .ex e st' => ∀ cls d H' S' R', Rel G en ρ [] st' S' R' σ H' → ExOk G H' S' R' e cls d → Wx cls d σ H'
  | .bad => False
def rI (G : Wd) (m m1 : Nat → List EV → M EV) (Wx : WX) (x : It) : TI := fun σ H Rk => ∃ en ρ tm st S R, Rel G en ρ tm st S R σ H ∧ RunI (itOwn x) G en ρ tm σ Wx S R H (evI G.tab m m1 ρ x st) Rk
section
variable {G : Wd} {K : PySem.W.Frag} {H : Hp} {S : Ad} {R : List Addr}
theorem jok_list (hK : K = G.K) (l : List EV) (a : Addr) : JOk G (Itl K a) l (Pt G [(.lst l, .ref a)]) := by
  subst hK
  refine ⟨fun i H S R st ok ht hi => ?_, fun i H S R st v ok ht hv x H' hy => ?_, fun i H S R st ok ht hi => ?_⟩
  all_goals
    have q := ht _ List.mem_cons_self
    rw [rel_lstE] at q
    obtain ⟨a', xs, e, _, h1, h2⟩ := q
    cases e
  · obtain ⟨x, hx, _⟩ := h2.get (List.getElem?_eq_getElem hi)
    exact ⟨xs, x, SqL.of h1, hx⟩
  · obtain ⟨rfl, hy⟩ := hy
    obtain ⟨y, e1, e2⟩ := h2.get hv
    rw [hy xs (SqL.of h1)] at e1
    cases e1
    exact ⟨S, Gr.refl S H', e2⟩
  · exact ⟨xs, SqL.of h1, by rw [h2.length]; omega⟩
theorem jok_tup (hK : K = G.K) (l : List EV) (a : Addr) : JOk G (Itt K a) l (Pt G [(.tup l, .ref a)]) := by
  subst hK
  refine ⟨fun i H S R st ok ht hi => ?_, fun i H S R st v ok ht hv x H' hy => ?_, fun i H S R st ok ht hi => ?_⟩
  all_goals
    have q := ht _ List.mem_cons_self
    rw [rel_tupE] at q
    obtain ⟨a', xs, e, h1, h2⟩ := q
    cases e
  · obtain ⟨x, hx, _⟩ := h2.get (List.getElem?_eq_getElem hi)
    exact ⟨xs, x, h1, hx⟩
  · obtain ⟨rfl, hy⟩ := hy
    obtain ⟨y, e1, e2⟩ := h2.get hv
    rw [hy xs h1] at e1
    cases e1
    exact ⟨S, Gr.refl S H', e2⟩
  · exact ⟨xs, h1, by rw [h2.length]; omega⟩
theorem rangeV_len : ∀ (n : Nat) (lo : Int), (rangeV lo n).length = n
  | 0, _ => rfl
  | n + 1, lo => by unfold rangeV; rw [List.length_cons, rangeV_len n]
theorem rangeV_get : ∀ (n : Nat) (lo : Int) (i : Nat), i < n → (rangeV lo n)[i]? = some (.int (lo + i))
  | 0, _, _, h => absurd h (Nat.not_lt_zero _)
  | n + 1, lo, 0, _ => by unfold rangeV; simp
  | n + 1, lo, i + 1, h => by
    unfold rangeV
    rw [List.getElem?_cons_succ, rangeV_get n (lo + 1) i (by omega)]
    congr 2
    omega
theorem jok_range (lo : Int) (n : Nat) : JOk G (Itr lo n) (rangeV lo n) (Pt G []) := by
  refine ⟨fun i H S R st ok ht hi => ?_, fun i H S R st v ok ht hv x H' hy => ?_, fun i H S R st ok ht hi => ?_⟩
  · rw [rangeV_len] at hi; exact hi
  · obtain ⟨rfl, rfl⟩ := hy
    have hi : i < n := by
      have := (List.getElem?_eq_some_iff.mp hv).1
      rw [rangeV_len] at this; exact this
    rw [rangeV_get n lo i hi] at hv
    cases hv
    exact ⟨S, Gr.refl S H', rel_int.mpr rfl⟩
  · rw [rangeV_len] at hi; exact Nat.le_of_eq hi.symm
theorem enumFrom_get : ∀ (l : List EV) (k i : Nat), (enumFrom k l)[i]? = (l[i]?).map fun v => .tup [.int ((k + i : Nat) : Int), v]
  | [], k, i => by simp [enumFrom]
  | v :: r, k, 0 => by unfold enumFrom; simp
  | v :: r, k, i + 1 => by
    unfold enumFrom
    rw [List.getElem?_cons_succ, List.getElem?_cons_succ, enumFrom_get r (k + 1) i, show k + 1 + i = k + (i + 1) by omega]
theorem enumFrom_len (l : List EV) (k : Nat) : (enumFrom k l).length = l.length := by
  induction l generalizing k with
  | nil => rfl
  | cons v r ih => unfold enumFrom; rw [List.length_cons, List.length_cons, ih]
theorem zipV_get : ∀ (l r : List EV) (i : Nat) (v : EV), (zipV l r)[i]? = some v → ∃ a b, l[i]? = some a ∧ r[i]? = some b ∧ v = .tup [a, b]
  | a :: l, b :: r, 0, v, h => by unfold zipV at h; simp at h; exact ⟨a, b, by simp, by simp, h.symm⟩
  | a :: l, b :: r, i + 1, v, h => by
    unfold zipV at h
    rw [List.getElem?_cons_succ] at h
    obtain ⟨x, y, h1, h2, h3⟩ := zipV_get l r i v h
    exact ⟨x, y, by simpa using h1, by simpa using h2, h3⟩
  | [], r, i, v, h => by unfold zipV at h; simp at h
  | a :: l, [], i, v, h => by unfold zipV at h; simp at h
theorem zipV_len : ∀ (l r : List EV), (zipV l r).length = min l.length r.length
  | a :: l, b :: r => by unfold zipV; rw [List.length_cons, List.length_cons, List.length_cons, zipV_len l r]; omega
  | [], r => by unfold zipV; simp
  | a :: l, [] => by unfold zipV; simp
/-- a pair that has just been laid -/
theorem rel_pair {st : Store} {p : Addr} {v w : EV} {x y : V} (ok : StOk G H S R st) (h1 : RelE G H S R v x) (h2 : RelE G H S R w y) (hp : H p = none) : ∃ S', Gr S H S' (upd H p (.tup [x, y])) ∧ RelE G (upd H p (.tup [x, y])) S' R (.tup [v, w]) (.ref p) :=
  ⟨S, gr_upd0 S hp, rel_tup ok (RelL.cons h1 (RelL.cons h2 RelL.nil)) hp⟩
theorem jok_enumL (hK : K = G.K) (l : List EV) (a : Addr) : JOk G (Ite K a) (enumFrom 0 l) (Pt G [(.lst l, .ref a)]) := by
  subst hK
  refine ⟨fun i H S R st ok ht hi => ?_, fun i H S R st v ok ht hv x H' hy => ?_, fun i H S R st ok ht hi => ?_⟩
  all_goals
    have q := ht _ List.mem_cons_self
    rw [rel_lstE] at q
    obtain ⟨a', xs, e, _, h1, h2⟩ := q
    cases e
  · rw [enumFrom_len] at hi
    obtain ⟨x, hx, _⟩ := h2.get (List.getElem?_eq_getElem hi)
    exact ⟨xs, x, SqL.of h1, hx⟩
  · obtain ⟨T, y, rfl, hT, rfl, hy⟩ := hy
    rw [enumFrom_get] at hv
    obtain ⟨w, e1, rfl⟩ := Option.map_eq_some_iff.mp hv
    obtain ⟨z, e2, e3⟩ := h2.get e1
    rw [hy xs (SqL.of h1)] at e2
    cases e2
    exact rel_pair ok (rel_int.mpr (by rw [Nat.zero_add])) e3 hT
  · rw [enumFrom_len] at hi
    exact ⟨xs, SqL.of h1, by rw [h2.length]; omega⟩
theorem jok_enumT (hK : K = G.K) (l : List EV) (a : Addr) : JOk G (IteT K a) (enumFrom 0 l) (Pt G [(.tup l, .ref a)]) := by
  subst hK
  refine ⟨fun i H S R st ok ht hi => ?_, fun i H S R st v ok ht hv x H' hy => ?_, fun i H S R st ok ht hi => ?_⟩
  all_goals
    have q := ht _ List.mem_cons_self
    rw [rel_tupE] at q
    obtain ⟨a', xs, e, h1, h2⟩ := q
    cases e
  · rw [enumFrom_len] at hi
    obtain ⟨x, hx, _⟩ := h2.get (List.getElem?_eq_getElem hi)
    exact ⟨xs, x, h1, hx⟩
  · obtain ⟨T, y, rfl, hT, rfl, hy⟩ := hy
    rw [enumFrom_get] at hv
    obtain ⟨w, e1, rfl⟩ := Option.map_eq_some_iff.mp hv
    obtain ⟨z, e2, e3⟩ := h2.get e1
    rw [hy xs h1] at e2
    cases e2
    exact rel_pair ok (rel_int.mpr (by rw [Nat.zero_add])) e3 hT
  · rw [enumFrom_len] at hi
    exact ⟨xs, h1, by rw [h2.length]; omega⟩
theorem jok_zipL (hK : K = G.K) (l r : List EV) (a b : Addr) : JOk G (Itz K a b) (zipV l r) (Pt G [(.lst l, .ref a), (.lst r, .ref b)]) := by
  subst hK
  refine ⟨fun i H S R st ok ht hi => ?_, fun i H S R st v ok ht hv x H' hy => ?_, fun i H S R st ok ht hi => ?_⟩
  all_goals
    have q := ht _ List.mem_cons_self
    have q' := ht _ (List.mem_cons_of_mem _ List.mem_cons_self)
    rw [rel_lstE] at q q'
    obtain ⟨a', xs, e, _, h1, h2⟩ := q
    obtain ⟨b', ys, e', _, h1', h2'⟩ := q'
    cases e
    cases e'
  · rw [zipV_len] at hi
    obtain ⟨x, hx, _⟩ := h2.get (List.getElem?_eq_getElem (show i < l.length by omega))
    obtain ⟨y, hy, _⟩ := h2'.get (List.getElem?_eq_getElem (show i < r.length by omega))
    exact ⟨xs, ys, x, y, SqL.of h1, SqL.of h1', hx, hy⟩
  · obtain ⟨T, y, z, rfl, hT, rfl, hy, hz⟩ := hy
    obtain ⟨v1, v2, e1, e2, rfl⟩ := zipV_get l r i v hv
    obtain ⟨u1, e3, e4⟩ := h2.get e1
    obtain ⟨u2, e5, e6⟩ := h2'.get e2
    rw [hy xs (SqL.of h1)] at e3
    rw [hz ys (SqL.of h1')] at e5
    cases e3
    cases e5
    exact rel_pair ok e4 e6 hT
  · rw [zipV_len] at hi
    exact ⟨xs, ys, SqL.of h1, SqL.of h1', by rw [h2.length, h2'.length]; omega⟩
theorem jok_zipT (hK : K = G.K) (l r : List EV) (a b : Addr) : JOk G (RZ.ItzT K a b) (zipV l r) (Pt G [(.tup l, .ref a), (.tup r, .ref b)]) := by
  subst hK
  refine ⟨fun i H S R st ok ht hi => ?_, fun i H S R st v ok ht hv x H' hy => ?_, fun i H S R st ok ht hi => ?_⟩
  all_goals
    have q := ht _ List.mem_cons_self
    have q' := ht _ (List.mem_cons_of_mem _ List.mem_cons_self)
    rw [rel_tupE] at q q'
    obtain ⟨a', xs, e, h1, h2⟩ := q
    obtain ⟨b', ys, e', h1', h2'⟩ := q'
    cases e
    cases e'
  · rw [zipV_len] at hi
    obtain ⟨x, hx, _⟩ := h2.get (List.getElem?_eq_getElem (show i < l.length by omega))
    obtain ⟨y, hy, _⟩ := h2'.get (List.getElem?_eq_getElem (show i < r.length by omega))
    exact ⟨xs, ys, x, y, h1, h1', hx, hy⟩
  · obtain ⟨T, y, z, rfl, hT, rfl, hy, hz⟩ := hy
    obtain ⟨v1, v2, e1, e2, rfl⟩ := zipV_get l r i v hv
    obtain ⟨u1, e3, e4⟩ := h2.get e1
    obtain ⟨u2, e5, e6⟩ := h2'.get e2
    rw [hy xs h1] at e3
    rw [hz ys h1'] at e5
    cases e3
    cases e5
    exact rel_pair ok e4 e6 hT
  · rw [zipV_len] at hi
    exact ⟨xs, ys, h1, h1', by rw [h2.length, h2'.length]; omega⟩
end

section
variable {X : Cx} {G : Wd} {c : CT} {ar : Nat → Nat} {d : Nat} {m m1 : Nat → List EV → M EV} {Wx : WX} {tg : Expr}
/-- over a list or a tuple -/
theorem pi_seq {l : Expr} {tl : TE} (hl : PE X l tl) : PI X tg l (fun σ H Rk => tl σ H fun x H1 => ∃ a, x = .ref a ∧ (((∃ xs, SqL X.K H1 a xs) ∧ Rk (Itl X.K a) H1) ∨ ((∃ xs, SqT X.K H1 a xs) ∧ Rk (Itt X.K a) H1))) := by
  refine ⟨fun pins s σ H R I h => ?_⟩
  refine thn (hl.run pins s σ H _ I h) fun v s1 ⟨x, H1, I1, r1, q1⟩ => ?_
  obtain ⟨a, e, q⟩ := q1
  subst e
  cases r1
  rcases q with ⟨⟨xs, hq⟩, q⟩ | ⟨⟨xs, hq⟩, q⟩
  · obtain ⟨its, rv, p, hz⟩ := I1.list hq
    refine wpAny_pyIter_list p.isList ?_
    refine ⟨s1.heap.objs.size, [s1.heap.objs.size], _, _, H1, rfl, I1.kept (t' := s1.toks) fun b o e => Heap.get?_push_of_some _ e, turn_list a _, ⟨_, Heap.get?_push_size _ rfl, rfl, rfl⟩, fun b hb => ?_, q⟩
    have e : b = s1.heap.objs.size := by simpa using hb
    subst e
    exact I1.fpOk (Nat.le_refl _) (I1.hok.fresh (Nat.le_refl _))
  · obtain ⟨its, rv, p, hz⟩ := I1.tuple hq
    refine wpAny_pyIter_tuple (show s1.heap.IsTuple a its.toArray from p) ?_
    refine ⟨s1.heap.objs.size, [s1.heap.objs.size], _, _, H1, rfl, I1.kept (t' := s1.toks) fun b o e => Heap.get?_push_of_some _ e, turn_tuple a _, ⟨_, Heap.get?_push_size _ rfl, rfl, rfl⟩, fun b hb => ?_, q⟩
    have e : b = s1.heap.objs.size := by simpa using hb
    subst e
    exact I1.fpOk (Nat.le_refl _) (I1.hok.fresh (Nat.le_refl _))
/-- enumerate of a list or a tuple -/
theorem pi_enumS {e : Expr} {ta : TA} {p pos tpos : Pos} {elts : List Expr} {kk : Nat} (hg : Gl X "enumerate") (hm : X.mg "enumerate" = none) (ha : PA X [e] ta) (hs : starEach [e] X.env = [(false, eval e X.env)]) :
    PI X (.Tuple elts kk tpos) (.Call (.Name "enumerate" p) [e] [] pos) (fun σ H Rk => ta σ H fun vs H1 => ∃ a, vs = [.ref a] ∧ (((∃ xs, SqL X.K H1 a xs) ∧ Rk (Ite X.K a) H1) ∨ ((∃ xs, SqT X.K H1 a xs) ∧ Rk (IteT X.K a) H1))) := by
  refine ⟨fun pins s σ H R I h => ?_⟩
  refine Call_ (ld_blt I hg hm boot_enumerate (PyProof.Rows.callWith_type1 (thn (ha.run pos pins s σ H _ I h) fun us s1 ⟨vs, H1, I1, r1, q1⟩ => ?_) hs rfl))
  obtain ⟨a, ex, q⟩ := q1
  subst ex
  cases r1 with
  | cons r rr =>
    cases rr
    cases r
    have fp : ∀ b ∈ [s1.heap.objs.size + 1, s1.heap.objs.size], FpOk X pins H1 b := fun b hb => by
      have e' : b = s1.heap.objs.size + 1 ∨ b = s1.heap.objs.size := by simpa using hb
      have hle : s1.heap.objs.size ≤ b := by
        rcases e' with z | z
        · rw [z]; exact Nat.le_add_right _ _
        · rw [z]; exact Nat.le_refl _
      exact I1.fpOk hle (I1.hok.fresh hle)
    rcases q with ⟨⟨xs, hq⟩, q⟩ | ⟨⟨xs, hq⟩, q⟩
    · obtain ⟨its, rv, p', hz⟩ := I1.list hq
      refine call_enumerate_list p'.isList fun h' he hit hsz hk => wpAny_pyIter_enum he ?_
      have I2 : L2.Inv X pins σ H1 { s1 with heap := h' } := I1.kept (t' := s1.toks) hk
      exact ⟨s1.heap.objs.size + 1, [s1.heap.objs.size + 1, s1.heap.objs.size], _, _, H1, rfl, I2, turn_enum a (s1.heap.objs.size + 1) s1.heap.objs.size, ⟨⟨.none, he⟩, hit, Nat.succ_ne_self _⟩, fp, q⟩
    · obtain ⟨its, rv, p', hz⟩ := I1.tuple hq
      have hal : a < s1.heap.objs.size := p'.lt
      refine enum_begins1 (begins_tuple a its.toArray) (show s1.heap.IsTuple a its.toArray from p') fun h' he hit hsz hk => wpAny_pyIter_enum he ?_
      have I2 : L2.Inv X pins σ H1 { s1 with heap := h' } := I1.kept (t' := s1.toks) hk
      exact ⟨s1.heap.objs.size + 1, [s1.heap.objs.size + 1, s1.heap.objs.size], _, _, H1, rfl, I2, turn_enumT a (s1.heap.objs.size + 1) s1.heap.objs.size, ⟨⟨.none, he⟩, ⟨_, hit, rfl, rfl⟩, Nat.succ_ne_self _, Nat.ne_of_lt hal, Nat.ne_of_lt (Nat.lt_succ_of_lt hal)⟩, fp, q⟩

theorem RunI.late {o : Bool} {en : En} {ρ : Env} {tm : List (EV × V)} {σ : L2.St} {r : Res (List EV)} {S S' : Ad} {R R' : List Addr} {H H' : Hp} {Rk : L2.It → Hp → Prop} (h : RunI o G en ρ tm σ Wx S R H r Rk) (s : Stp R S H R' S' H') : RunI o G en ρ tm σ Wx S' R' H' r Rk := by
  cases r with
  | ok l st' => exact fun J P H' S' R' h1 h2 h3 => h J P H' S' R' h1 (s.trans h2) h3
  | ex e st' => exact h
  | bad => exact h
theorem runI_bnd {o : Bool} {en : En} {ρ : Env} {tm : List (EV × V)} {σ : L2.St} {S : Ad} {R : List Addr} {H : Hp} {m0 : M EV} {f : EV → M (List EV)} {st : Store} {Rk : L2.It → Hp → Prop} (h : RunI o G en ρ tm σ Wx S R H (bnd m0 f st) Rk) :
    Run G en ρ tm σ Wx S R H (m0 st) (RAe G) fun y H' => ∃ v st' S' R', Rel G en ρ ((v, y) :: tm) st' S' R' σ H' ∧ RunI o G en ρ ((v, y) :: tm) σ Wx S' R' H' (f v st') Rk := by
  unfold bnd at h
  cases e : m0 st with
  | ok v st' =>
    rw [e] at h
    refine fun y H' S' R' h1 h2 h3 => ⟨v, st', S', R', h1.push h3, ?_⟩
    have h' : RunI o G en ρ tm σ Wx S' R' H' (f v st') Rk := RunI.late h h2
    cases e2 : f v st' with
    | ok l s2 =>
      rw [e2] at h'
      exact fun J P H' S' R' k1 => h' J P H' S' R' k1.drop
    | ex x s2 => rw [e2] at h'; exact h'
    | bad => rw [e2] at h'; exact h'
  | ex x st' => rw [e] at h; exact h
  | bad => rw [e] at h; exact h
theorem runI_ok {o : Bool} {en : En} {ρ : Env} {tm t : List (EV × V)} {σ : L2.St} {S : Ad} {R : List Addr} {H : Hp} {l : List EV} {st : Store} {Rk : L2.It → Hp → Prop} {J : L2.It} (run : RunI o G en ρ tm σ Wx S R H (ret l st) Rk) (rel : Rel G en ρ tm st S R σ H) (j : JOk G J l (Pt G t)) (ht : ∀ p ∈ t, RelE G H S R p.1 p.2) : Rk J H :=
  run J (Pt G t) H S R rel (Stp.refl R S H) ht (pt_stable G t) (fun _ => ⟨t, rfl⟩) j
theorem s_seq (hX : CxOk X G c ar d m m1 Wx) {e : Expr} {x : E} (he : PE X e (rE G m m1 Wx x)) : PI X tg e (rI G m m1 Wx (.seq x)) := by
  refine pi_w (pi_seq he) fun σ H Rk ⟨en, ρ, tm, st, S, R, rel, run⟩ => ?_
  have run : RunI false G en ρ tm σ Wx S R H (bnd (evE G.tab m m1 ρ x) (fun v => ofO (seqOf v)) st) Rk := run
  refine ⟨en, ρ, tm, st, S, R, rel, (runI_bnd run).mono fun y H1 ⟨v, st1, S1, R1, rel1, run1⟩ => ?_⟩
  have top := rel1.top
  cases v with
  | lst l =>
    have q := rel1.top
    rw [rel_lstE] at q
    obtain ⟨a, xs, rfl, _, h1, h2⟩ := q
    exact ⟨a, rfl, .inl ⟨⟨xs, SqL.of h1⟩, runI_ok run1 rel1 (jok_list hX.K l a) (by simpa using top)⟩⟩
  | tup l =>
    have q := rel1.top
    rw [rel_tupE] at q
    obtain ⟨a, xs, rfl, h1, h2⟩ := q
    exact ⟨a, rfl, .inr ⟨⟨xs, by rw [hX.K]; exact h1⟩, runI_ok run1 rel1 (jok_tup hX.K l a) (by simpa using top)⟩⟩
  | _ => exact run1.elim
theorem pa1 {e : Expr} {x : E} (hs : isStar e = false) (he : PE X e (rE G m m1 Wx x)) : PA X [e] (tCons (rE G m m1 Wx x) tNil) := pa_cons he pa_nil (star_tail X.env hs)
theorem s_rng1 (hX : CxOk X G c ar d m m1 Wx) {y : Str} {e : Expr} {x : E} {p pos : Pos} (hx : c.glo.lookup y = some .rng) (hg : Gl X y) (hs : isStar e = false) (he : PE X e (rE G m m1 Wx x)) : PI X tg (.Call (.Name y p) [e] [] pos) (rI G m m1 Wx (.rng1 x)) := by
  obtain ⟨hm, rfl⟩ := hX.defs.rng y hx
  refine pi_w (pi_range1 hg hm (pa1 hs he) (star_tail X.env hs)) fun σ H Rk ⟨en, ρ, tm, st, S, R, rel, run⟩ => ?_
  have run : RunI false G en ρ tm σ Wx S R H (bnd (evE G.tab m m1 ρ x) (fun v => match v with
    | .int j => if -(2 ^ 62) ≤ j ∧ j < 2 ^ 62 then ret (rangeV 0 j.toNat) else bad
    | _ => bad) st) Rk := run
  refine ⟨en, ρ, tm, st, S, R, rel, (runI_bnd run).mono fun y H1 ⟨v, st1, S1, R1, rel1, run1⟩ => ?_⟩
  cases v with
  | int j =>
    have e := rel_int.mp rel1.top
    subst e
    have run1 : RunI false G en ρ _ σ Wx S1 R1 H1 ((if -(2 ^ 62) ≤ j ∧ j < 2 ^ 62 then ret (rangeV 0 j.toNat) else bad) st1) Rk := run1
    by_cases hj : -(2 ^ 62) ≤ j ∧ j < 2 ^ 62
    · rw [if_pos hj] at run1
      exact ⟨j, rfl, hj.1, hj.2, runI_ok run1 rel1 (jok_range 0 _) (fun p hp => nomatch hp)⟩
    · rw [if_neg hj] at run1; exact run1.elim
  | _ => exact run1.elim
theorem s_rng2 (hX : CxOk X G c ar d m m1 Wx) {y : Str} {e e' : Expr} {x x' : E} {p pos : Pos} (hx : c.glo.lookup y = some .rng) (hg : Gl X y) (hs : isStar e = false) (hs' : isStar e' = false) (he : PE X e (rE G m m1 Wx x)) (he' : PE X e' (rE G m m1 Wx x')) : PI X tg (.Call (.Name y p) [e, e'] [] pos) (rI G m m1 Wx (.rng2 x x')) := by
  obtain ⟨hm, rfl⟩ := hX.defs.rng y hx
  refine pi_w (pi_range2 hg hm (pa_cons he (pa1 hs' he') (star_tail X.env hs)) (by rw [star_tail X.env hs, star_tail X.env hs']; rfl) (by rw [star_tail X.env hs']; rfl)) fun σ H Rk ⟨en, ρ, tm, st, S, R, rel, run⟩ => ?_
  have run : RunI false G en ρ tm σ Wx S R H (bnd (evE G.tab m m1 ρ x) (fun v => bnd (evE G.tab m m1 ρ x') fun w => match v, w with
    | .int i, .int j => if -(2 ^ 62) ≤ i ∧ i < 2 ^ 62 ∧ -(2 ^ 62) ≤ j ∧ j < 2 ^ 62 then ret (rangeV i (j - i).toNat) else bad
    | _, _ => bad) st) Rk := run
  refine ⟨en, ρ, tm, st, S, R, rel, (runI_bnd run).mono fun y H1 ⟨v, st1, S1, R1, rel1, run1⟩ => ?_⟩
  refine ⟨en, ρ, _, st1, S1, R1, rel1, (runI_bnd run1).mono fun y2 H2 ⟨w, st2, S2, R2, rel2, run2⟩ => ?_⟩
  cases v with
  | int i =>
    cases w with
    | int j =>
      have e1 := rel_int.mp rel2.top
      have e2 := rel_int.mp rel2.top2
      subst e1 e2
      have run2 : RunI false G en ρ _ σ Wx S2 R2 H2 ((if -(2 ^ 62) ≤ i ∧ i < 2 ^ 62 ∧ -(2 ^ 62) ≤ j ∧ j < 2 ^ 62 then ret (rangeV i (j - i).toNat) else bad) st2) Rk := run2
      by_cases hj : -(2 ^ 62) ≤ i ∧ i < 2 ^ 62 ∧ -(2 ^ 62) ≤ j ∧ j < 2 ^ 62
      · rw [if_pos hj] at run2
        exact ⟨i, j, rfl, hj, runI_ok run2 rel2 (jok_range i _) (fun p hp => nomatch hp)⟩
      · rw [if_neg hj] at run2; exact run2.elim
    | _ => exact run2.elim
  | _ => cases w <;> exact run2.elim
theorem s_enum (hX : CxOk X G c ar d m m1 Wx) {y : Str} {e : Expr} {x : E} {p pos tpos : Pos} {elts : List Expr} {kk : Nat} (hx : c.glo.lookup y = some .enum) (hg : Gl X y) (hs : isStar e = false) (he : PE X e (rE G m m1 Wx x)) : PI X (.Tuple elts kk tpos) (.Call (.Name y p) [e] [] pos) (rI G m m1 Wx (.enum x)) := by
  obtain ⟨hm, rfl⟩ := hX.defs.enum y hx
  refine pi_w (pi_enumS hg hm (pa1 hs he) (star_tail X.env hs)) fun σ H Rk ⟨en, ρ, tm, st, S, R, rel, run⟩ => ?_
  have run : RunI false G en ρ tm σ Wx S R H (bnd (evE G.tab m m1 ρ x) (fun v => bnd (ofO (seqOf v)) fun l => ret (enumFrom 0 l)) st) Rk := run
  refine ⟨en, ρ, tm, st, S, R, rel, (runI_bnd run).mono fun y H1 ⟨v, st1, S1, R1, rel1, run1⟩ => ?_⟩
  have top := rel1.top
  cases v with
  | lst l =>
    have q := rel1.top
    rw [rel_lstE] at q
    obtain ⟨a, xs, rfl, _, h1, h2⟩ := q
    exact ⟨a, rfl, .inl ⟨⟨xs, SqL.of h1⟩, runI_ok run1 rel1 (jok_enumL hX.K l a) (by simpa using top)⟩⟩
  | tup l =>
    have q := rel1.top
    rw [rel_tupE] at q
    obtain ⟨a, xs, rfl, h1, h2⟩ := q
    exact ⟨a, rfl, .inr ⟨⟨xs, by rw [hX.K]; exact h1⟩, runI_ok run1 rel1 (jok_enumT hX.K l a) (by simpa using top)⟩⟩
  | _ => exact run1.elim
theorem s_zip (hX : CxOk X G c ar d m m1 Wx) {y : Str} {e e' : Expr} {x x' : E} {p pos tpos : Pos} {elts : List Expr} {kk : Nat} (hx : c.glo.lookup y = some .zip) (hg : Gl X y) (hs : isStar e = false) (hs' : isStar e' = false) (he : PE X e (rE G m m1 Wx x)) (he' : PE X e' (rE G m m1 Wx x')) : PI X (.Tuple elts kk tpos) (.Call (.Name y p) [e, e'] [] pos) (rI G m m1 Wx (.zip x x')) := by
  obtain ⟨hm, rfl⟩ := hX.defs.zip y hx
  refine pi_w (RZ.pi_zipA hg hm (pa_cons he (pa1 hs' he') (star_tail X.env hs)) (star_tail X.env hs) (star_any (by simp [hs']))) fun σ H Rk ⟨en, ρ, tm, st, S, R, rel, run⟩ => ?_
  have run : RunI false G en ρ tm σ Wx S R H (bnd (evE G.tab m m1 ρ x) (fun v => bnd (evE G.tab m m1 ρ x') fun w => zipM v w) st) Rk := run
  refine ⟨en, ρ, tm, st, S, R, rel, (runI_bnd run).mono fun y H1 ⟨v, st1, S1, R1, rel1, run1⟩ => ?_⟩
  refine ⟨en, ρ, _, st1, S1, R1, rel1, (runI_bnd run1).mono fun y2 H2 ⟨w, st2, S2, R2, rel2, run2⟩ => ?_⟩
  have q1 := rel2.top
  have q2 := rel2.top2
  have two : ∀ p ∈ [(v, y), (w, y2)], RelE G H2 S2 R2 p.1 p.2 := fun p hp => by
    rcases List.mem_cons.mp hp with rfl | hp
    · exact q2
    · rw [List.mem_singleton.mp hp]; exact q1
  cases v with
  | lst l =>
    cases w with
    | lst r =>
      rw [rel_lstE] at q1 q2
      obtain ⟨a, xs, rfl, _, h1, h2⟩ := q2
      obtain ⟨b, ys, rfl, _, h1', h2'⟩ := q1
      exact ⟨a, b, xs, ys, rfl, .inl ⟨SqL.of h1, SqL.of h1', runI_ok run2 rel2 (jok_zipL hX.K l r a b) two⟩⟩
    | _ => exact run2.elim
  | tup l =>
    cases w with
    | tup r =>
      rw [rel_tupE] at q1 q2
      obtain ⟨a, xs, rfl, h1, h2⟩ := q2
      obtain ⟨b, ys, rfl, h1', h2'⟩ := q1
      exact ⟨a, b, xs, ys, rfl, .inr ⟨by rw [hX.K]; exact h1, by rw [hX.K]; exact h1', runI_ok run2 rel2 (jok_zipT hX.K l r a b) two⟩⟩
    | _ => exact run2.elim
  | _ => cases w <;> exact run2.elim
/-- over a list of the frame's own -/
def Po (G : Wd) (l : List EV) (a : Addr) : Pr := fun H S R => ¬ S a ∧ a ∉ R ∧ ∃ xs, H a = some (.lst xs) ∧ RelL G H S R l xs
theorem po_stable (l : List EV) (a : Addr) : Stable G (Po G l a) := fun R S H st R' S' H' ok s h => by
  obtain ⟨h1, h2, xs, h3, h4⟩ := h
  refine ⟨fun z => ?_, fun z => ?_, xs, s.ext.keep a _ h3 h2, RelL.stp s ok h4⟩
  · rcases s.ext.new a z with q | q
    · exact h1 q
    · rw [h3] at q; cases q.1
  · rcases s.new a z with q | q
    · exact h2 q
    · rw [h3] at q; cases q
theorem jok_own {K : PySem.W.Frag} (l : List EV) (a : Addr) : JOk G (Itl K a) l (Po G l a) := by
  refine ⟨fun i H S R st ok ht hi => ?_, fun i H S R st v ok ht hv x H' hy => ?_, fun i H S R st ok ht hi => ?_⟩
  all_goals obtain ⟨_, _, xs, h1, h2⟩ := ht
  · obtain ⟨x, hx, _⟩ := h2.get (List.getElem?_eq_getElem hi)
    exact ⟨xs, x, SqL.of h1, hx⟩
  · obtain ⟨rfl, hy⟩ := hy
    obtain ⟨y, e1, e2⟩ := h2.get hv
    rw [hy xs (SqL.of h1)] at e1
    cases e1
    exact ⟨S, Gr.refl S H', e2⟩
  · exact ⟨xs, SqL.of h1, by rw [h2.length]; omega⟩
theorem s_own (hX : CxOk X G c ar d m m1 Wx) {x : Str} {pos : Pos} {i : Nat} (hN : X.N[i]? = some x) (hv : Vis X.env.scope x) (hd : (x == ("__debug__" : Str)) = false) (hcd : (x == ("__classdict__" : Str)) = false) : PI X tg (.Name x pos) (rI G m m1 Wx (.own i)) := by
  refine pi_w (pi_seq (pe_var hN hv hd hcd)) fun σ H Rk ⟨en, ρ, tm, st, S, R, rel, run⟩ => ?_
  have run : RunI true G en ρ tm σ Wx S R H (bnd (ofO (getB ρ i)) (fun v => ofO (seqOf v)) st) Rk := run
  unfold getB at run
  cases e : ρ[i]? with
  | none => rw [e] at run; exact run.elim
  | some s =>
    rw [e] at run
    have q := rel.slot i s e
    cases s with
    | un => exact run.elim
    | sh v =>
      obtain ⟨y, e1, q⟩ := q
      have run : RunI true G en ρ tm σ Wx S R H (ofO (seqOf v) st) Rk := run
      refine ⟨y, e1, ?_⟩
      have top := q
      cases v with
      | lst l =>
        rw [rel_lstE] at q
        obtain ⟨a, xs, rfl, _, h1, h2⟩ := q
        exact ⟨a, rfl, .inl ⟨⟨xs, SqL.of h1⟩, runI_ok run rel (jok_list hX.K l a) (by simpa using top)⟩⟩
      | tup l =>
        rw [rel_tupE] at q
        obtain ⟨a, xs, rfl, h1, h2⟩ := q
        exact ⟨a, rfl, .inr ⟨⟨xs, by rw [hX.K]; exact h1⟩, runI_ok run rel (jok_tup hX.K l a) (by simpa using top)⟩⟩
      | _ => exact run.elim
    | ow v =>
      obtain ⟨a, xs, l, e1, rfl, h0, h1, h2, h3, h4⟩ := q
      exact ⟨_, e1, a, rfl, .inl ⟨⟨xs, SqL.of h3⟩, run (Itl X.K a) (Po G l a) H S R rel (Stp.refl R S H) ⟨h1, h2, xs, h3, h4⟩ (po_stable l a) (fun z => nomatch z) (jok_own l a)⟩⟩
end
end Py
end
section
/-! PyTg: writes at a frame's own list; targets. -/
namespace Py
open PySem PySem.Spec PyProof.Rows L2
section
variable {G : Wd} {R : List Addr} {S : Ad} {H H' : Hp}
/-- what the trees see is kept -/
def Seen (S : Ad) (H H' : Hp) : Prop := ∀ a o, H a = some o → S a ∨ ¬ isSo o → H' a = some o
theorem seen_sqT (h : Seen S H H') {K : PySem.W.Frag} {a : Addr} {xs : List V} (q : SqT K H a xs) : SqT K H' a xs := by
  rcases q with (q | ⟨o, q⟩) | q
  · exact .inl (.inl (h a _ q (.inr fun z => z)))
  · exact .inl (.inr ⟨o, h a _ q (.inr fun z => z)⟩)
  · exact .inr q
mutual
theorem RelE.chg (h : Seen S H H') : ∀ (v : EV) {x : V}, RelE G H S R v x → RelE G H' S R v x
  | .non, _, q => by unfold RelE at q ⊢; exact q
  | .bl _, _, q => by unfold RelE at q ⊢; exact q
  | .int _, _, q => by unfold RelE at q ⊢; exact q
  | .str _, _, q => by unfold RelE at q ⊢; exact q
  | .tup l, _, q => by
    unfold RelE at q ⊢
    obtain ⟨a, xs, e, hq, hl⟩ := q
    exact ⟨a, xs, e, seen_sqT h hq, RelL.chg h l hl⟩
  | .lst l, _, q => by
    unfold RelE at q ⊢
    obtain ⟨a, xs, e, hS, hq, hl⟩ := q
    exact ⟨a, xs, e, hS, h a _ hq (.inl hS), RelL.chg h l hl⟩
  | .dic _ _, _, q => by
    unfold RelE at q ⊢
    obtain ⟨e1, e2, a, e, hS, hq⟩ := q
    exact ⟨e1, e2, a, e, hS, h a _ hq (.inl hS)⟩
  | .scr l, _, q => by
    unfold RelE at q ⊢
    obtain ⟨a, e, hq⟩ := q
    refine ⟨a, e, ?_⟩
    rcases hq with ⟨o, hq⟩ | hq
    · exact .inl ⟨o, h a _ hq (.inr fun z => z)⟩
    · exact .inr hq
  | .ins _ vs, _, q => by
    unfold RelE at q ⊢
    obtain ⟨a, dx, xs, e, hS, ⟨f, fl, h1, h2, h3⟩, hl⟩ := q
    exact ⟨a, dx, xs, e, hS, ⟨f, fl, h1, h a _ h2 (.inl hS), h3⟩, RelL.chg h vs hl⟩
  | .ref _, _, q => by unfold RelE at q ⊢; exact q
  | .fn _, _, q => by unfold RelE at q; exact q.elim
theorem RelL.chg (h : Seen S H H') : ∀ (l : List EV) {xs : List V}, RelL G H S R l xs → RelL G H' S R l xs
  | [], _, q => by unfold RelL at q ⊢; exact q
  | v :: r, _, q => by
    unfold RelL at q ⊢
    obtain ⟨x, ys, e, h1, h2⟩ := q
    exact ⟨x, ys, e, RelE.chg h v h1, RelL.chg h r h2⟩
end
theorem seen_upd {p : Addr} {o o' : HO} (hp : H p = some o) (hs : isSo o) (hS : ¬ S p) : Seen S H (upd H p o') := fun a u e h => by
  have ne : a ≠ p := by
    rintro rfl
    rcases h with h | h
    · exact hS h
    · rw [hp] at e; cases e; exact h hs
  rw [upd_ne ne]; exact e
variable {st : Store} {en : En} {ρ : Env} {tm : List (EV × V)} {σ : L2.St}
theorem SoOk.chg {a : Addr} {o : SO} (h : Seen S H H') (k : ∀ u, H a = some u → H' a = some u) (q : SoOk G H S R a o) : SoOk G H' S R a o := by
  cases o with
  | lst l =>
    obtain ⟨xs, e, r⟩ := q
    exact ⟨xs, k _ e, RelL.chg h l r⟩
  | ins c fs =>
    obtain ⟨dx, xs, e, l, t, r⟩ := q
    exact ⟨dx, xs, k _ e, l, t, RelL.chg h _ r⟩
/-- a list that is neither the trees' nor the store's is changed -/
theorem StOk.wr (ok : StOk G H S R st) {p : Addr} {xs ys : List V} (hp : H p = some (.lst xs)) (hS : ¬ S p) (hR : p ∉ R) : StOk G (upd H p (.lst ys)) S R st := by
  have sn : Seen S H (upd H p (.lst ys)) := seen_upd hp trivial hS
  refine ⟨ok.len, ok.nd, ok.dis, fun a ha => ?_, fun i a o h1 h2 => SoOk.chg sn (fun u hu => ?_) (ok.so i a o h1 h2)⟩
  · rw [upd_ne (fun z : a = p => hS (z ▸ ha))]
    exact ok.trk a ha
  · rw [upd_ne (fun z : a = p => hR (z ▸ List.mem_of_getElem? h1))]
    exact hu
theorem Stp.wr {R0 : List Addr} {S0 : Ad} {H0 : Hp} (s : Stp R0 S0 H0 R S H) {p : Addr} {o : HO} (h0 : H0 p = none) : Stp R0 S0 H0 R S (upd H p o) := by
  have ne : ∀ a, H0 a ≠ none → a ≠ p := fun a h z => h (z ▸ h0)
  refine ⟨⟨fun a u e hR => ?_, fun a h => ?_, s.ext.sub, fun a h => ?_⟩, s.pre, s.new⟩
  · rw [upd_ne (ne a (by rw [e]; exact (fun z => nomatch z)))]
    exact s.ext.keep a u e hR
  · rw [upd_ne (ne a h)]
    exact s.ext.stay a h
  · rcases s.ext.new a h with q | q
    · exact .inl q
    · refine .inr ⟨q.1, ?_⟩
      by_cases z : a = p
      · rw [z, upd_same]; exact (fun z => nomatch z)
      · rw [upd_ne z]; exact q.2
/-- the slot i holds a list of the frame's own: it is changed -/
theorem Rel.wr (rel : Rel G en ρ tm st S R σ H) {i : Nat} {l l' : List EV} {a : Addr} {xs ys : List V} (hi : ρ[i]? = some (.ow (.lst l))) (hσ : σ[i]? = some (some (.ref a))) (ha : H a = some (.lst xs)) (hr : RelL G H S R l' ys) :
    Rel G en (ρ.set i (.ow (.lst l'))) tm st S R σ (upd H a (.lst ys)) := by
  obtain ⟨a', xs', l0, e1, e2, e3, e4, e5, e6, e7⟩ := rel.slot i _ hi
  rw [hσ] at e1
  cases e1
  cases e2
  rw [e6] at ha
  cases ha
  have il : i < ρ.length := (List.getElem?_eq_some_iff.mp hi).1
  have sn : Seen S H (upd H a (.lst ys)) := seen_upd e6 trivial e4
  have get : ∀ (j : Nat) (w : EV), (ρ.set i (Slot.ow (.lst l')))[j]? = some (Slot.ow w) → ∃ w0 : EV, ρ[j]? = some (Slot.ow w0) := fun j w h => by
    by_cases z : i = j
    · subst z; exact ⟨_, hi⟩
    · rw [List.getElem?_set_ne z] at h; exact ⟨w, h⟩
  refine ⟨by rw [List.length_set]; exact rel.len, ?_, rel.pre, rel.rnew, rel.st.wr e6 e4 e5, fun j s h => ?_, fun j k v w b h1 h2 h3 h4 => ?_, fun p hp => RelE.chg sn _ (rel.tm p hp)⟩
  · exact (Stp.wr ⟨rel.ext, rel.pre, rel.rnew⟩ e3).ext
  · by_cases z : i = j
    · subst z
      rw [List.getElem?_set_self il] at h
      cases h
      exact ⟨a, ys, l', hσ, rfl, e3, e4, e5, upd_same, RelL.chg sn _ hr⟩
    · rw [List.getElem?_set_ne z] at h
      have q := rel.slot j s h
      cases s with
      | un => trivial
      | sh v =>
        obtain ⟨y, k1, k2⟩ := q
        exact ⟨y, k1, RelE.chg sn _ k2⟩
      | ow v =>
        obtain ⟨b, zs, l2, k1, k2, k3, k4, k5, k6, k7⟩ := q
        have ne : b ≠ a := by
          rintro rfl
          exact z (rel.own i j _ _ b hi h hσ k1)
        exact ⟨b, zs, l2, k1, k2, k3, k4, k5, by rw [upd_ne ne]; exact k6, RelL.chg sn _ k7⟩
  · obtain ⟨v0, q1⟩ := get j v h1
    obtain ⟨w0, q2⟩ := get k w h2
    exact rel.own j k v0 w0 b q1 q2 h3 h4
/-- a slot is stored -/
theorem Rel.setsh (rel : Rel G en ρ tm st S R σ H) {i : Nat} {v : EV} {x : V} (hi : i < ρ.length) (hv : RelE G H S R v x) : Rel G en (ρ.set i (.sh v)) tm st S R (σ.set i (some x)) H := by
  have get : ∀ {j : Nat} {w : EV}, (ρ.set i (Slot.sh v))[j]? = some (Slot.ow w) → i ≠ j ∧ ρ[j]? = some (Slot.ow w) := fun {j w} h => by
    by_cases z : i = j
    · subst z; rw [List.getElem?_set_self hi] at h; cases h
    · rw [List.getElem?_set_ne z] at h; exact ⟨z, h⟩
  refine ⟨by rw [List.length_set, List.length_set]; exact rel.len, rel.ext, rel.pre, rel.rnew, rel.st, fun j s h => ?_, fun j k v w b h1 h2 h3 h4 => ?_, rel.tm⟩
  · by_cases z : i = j
    · subst z
      rw [List.getElem?_set_self hi] at h
      cases h
      exact ⟨x, by rw [List.getElem?_set_self (by rw [← rel.len]; exact hi)], hv⟩
    · rw [List.getElem?_set_ne z] at h ⊢
      exact rel.slot j s h
  · obtain ⟨n1, q1⟩ := get h1
    obtain ⟨n2, q2⟩ := get h2
    rw [List.getElem?_set_ne n1] at h3
    rw [List.getElem?_set_ne n2] at h4
    exact rel.own j k _ _ b q1 q2 h3 h4
/-- .., with a new list of the frame's own -/
theorem Rel.setow (rel : Rel G en ρ tm st S R σ H) {i : Nat} {l : List EV} {a : Addr} {xs : List V} (hi : i < ρ.length) (h1 : en.H a = none) (h2 : ¬ S a) (h3 : a ∉ R) (h4 : H a = some (.lst xs)) (h5 : RelL G H S R l xs) (h6 : ∀ (j : Nat) (w : EV), ρ[j]? = some (.ow w) → σ[j]? ≠ some (some (.ref a))) : Rel G en (ρ.set i (.ow (.lst l))) tm st S R (σ.set i (some (.ref a))) H := by
  have hs : i < σ.length := by rw [← rel.len]; exact hi
  refine ⟨by rw [List.length_set, List.length_set]; exact rel.len, rel.ext, rel.pre, rel.rnew, rel.st, fun j s h => ?_, fun j k v w b q1 q2 q3 q4 => ?_, rel.tm⟩
  · by_cases z : i = j
    · subst z
      rw [List.getElem?_set_self hi] at h
      cases h
      exact ⟨a, xs, l, by rw [List.getElem?_set_self hs], rfl, h1, h2, h3, h4, h5⟩
    · rw [List.getElem?_set_ne z] at h ⊢
      exact rel.slot j s h
  · by_cases z : i = j
    · subst z
      rw [List.getElem?_set_self hs] at q3
      cases q3
      by_cases z : i = k
      · exact z
      · rw [List.getElem?_set_ne z] at q2 q4
        exact absurd q4 (h6 k w q2)
    · rw [List.getElem?_set_ne z] at q1 q3
      by_cases z : i = k
      · subst z
        rw [List.getElem?_set_self hs] at q4
        cases q4
        exact absurd q3 (h6 j v q1)
      · rw [List.getElem?_set_ne z] at q2 q4
        exact rel.own j k v w b q1 q2 q3 q4
end

/-! ### targets -/
mutual
/-- its slots -/
def tsl : Tgt → List Nat
  | .nm i => [i]
  | .tu ts => tsls ts
def tsls : List Tgt → List Nat
  | [] => []
  | t :: r => tsl t ++ tsls r
end
/-- two states differ at l alone -/
def Off (l : List Nat) (σ σ' : L2.St) : Prop := σ'.length = σ.length ∧ ∀ i, i ∉ l → σ'[i]? = σ[i]?
def rG (G : Wd) (t : Tgt) : TG := fun x σ H Q => ∃ en ρ tm st S R v ρ', Rel G en ρ tm st S R σ H ∧ RelE G H S R v x ∧ asgT t v ρ = some ρ' ∧ ∀ σ', Rel G en ρ' tm st S R σ' H → Off (tsl t) σ σ' → Q σ' H
def rGs (G : Wd) (t : List Tgt) : TGs := fun x σ H Q => ∃ en ρ tm st S R v ρ', Rel G en ρ tm st S R σ H ∧ RelL G H S R v x ∧ asgTs t v ρ = some ρ' ∧ ∀ σ', Rel G en ρ' tm st S R σ' H → Off (tsls t) σ σ' → Q σ' H
theorem pg_w {X : Cx} {e : Expr} {t t' : TG} (h : PG X e t) (hw : ∀ x σ H Q, t' x σ H Q → t x σ H Q) : PG X e t' := ⟨fun pins s σ H v u Q I r q => h.run pins s σ H v u Q I r (hw v σ H Q q)⟩
theorem pgs_w {X : Cx} {e : List Expr} {t t' : TGs} (h : PGs X e t) (hw : ∀ x σ H Q, t' x σ H Q → t x σ H Q) : PGs X e t' := ⟨fun pins s σ H v u Q I r q => h.run pins s σ H v u Q I r (hw v σ H Q q)⟩
section
variable {X : Cx} {G : Wd}
theorem ae_cons {e : Expr} {es : List Expr} {env : PySem.Env} (h : isStar e = false) : assignEach (e :: es) env = (false, assign e env) :: assignEach es env := by cases e <;> first | rfl | cases h
theorem ae_len {env : PySem.Env} : ∀ {es : List Expr}, es.any isStar = false → (assignEach es env).length = es.length ∧ (assignEach es env).findIdx? (·.1) = none
  | [], _ => ⟨rfl, rfl⟩
  | e :: es, h => by
    rw [List.any_cons, Bool.or_eq_false_iff] at h
    obtain ⟨h1, h2⟩ := ae_len (env := env) h.2
    rw [ae_cons h.1]
    refine ⟨by rw [List.length_cons, List.length_cons, h1], ?_⟩
    rw [List.findIdx?_cons, h2]
    rfl
theorem g_name (hN : X.N.Nodup) {i : Nat} {x : Str} {pos : Pos} (hi : X.N[i]? = some x) (hx : Loc X.env.scope x) (hf : X.fn x = true ∨ X.env.scope.names.lookup x = some .local) : PG X (.Name x pos) (rG G (.nm i)) :=
  pg_w (pg_name hN hi hx hf) fun y σ H Q ⟨en, ρ, tm, st, S, R, v, ρ', rel, hv, e, h⟩ => by
    unfold asgT at e
    split at e
    · rename_i hi
      cases e
      refine h _ (rel.setsh hi hv) ⟨by rw [List.length_set], fun j hj => ?_⟩
      rw [List.getElem?_set_ne]
      rintro rfl
      exact hj (by unfold tsl; simp)
    · cases e
theorem gs_nil : PGs X [] (rGs G []) := pgs_w pgs_nil fun y σ H Q ⟨en, ρ, tm, st, S, R, v, ρ', rel, hv, e, h⟩ => by
  cases v with
  | nil =>
    unfold asgTs at e
    cases e
    unfold RelL at hv
    exact ⟨hv, h _ rel ⟨rfl, fun _ _ => rfl⟩⟩
  | cons a r => unfold asgTs at e; cases e
theorem gs_cons {e : Expr} {es : List Expr} {t : Tgt} {ts : List Tgt} (hs : isStar e = false) (h1 : PG X e (rG G t)) (h2 : PGs X es (rGs G ts)) : PGs X (e :: es) (rGs G (t :: ts)) := by
  refine pgs_w (pgs_cons h1 h2 (by rw [ae_cons hs]; rfl)) fun y σ H Q ⟨en, ρ, tm, st, S, R, v, ρ', rel, hv, e, h⟩ => ?_
  cases v with
  | nil => unfold asgTs at e; cases e
  | cons w r =>
    unfold asgTs at e
    cases e1 : asgT t w ρ with
    | none => rw [e1] at e; cases e
    | some ρ1 =>
      rw [e1] at e
      unfold RelL at hv
      obtain ⟨x, ys, rfl, r1, r2⟩ := hv
      refine ⟨x, ys, rfl, en, ρ, tm, st, S, R, w, ρ1, rel, r1, e1, fun σ1 rel1 o1 => ?_⟩
      refine ⟨en, ρ1, tm, st, S, R, r, ρ', rel1, r2, e, fun σ2 rel2 o2 => h σ2 rel2 ⟨o2.1.trans o1.1, fun i hi => ?_⟩⟩
      unfold tsls at hi
      rw [List.mem_append, not_or] at hi
      rw [o2.2 i hi.2, o1.2 i hi.1]
theorem g_tup (hc : X.calm = true) (hK : X.K = G.K) {es : List Expr} {ts : List Tgt} {k : Nat} {pos : Pos} (hl : ts.length = es.length) (hs : es.any isStar = false) (h : PGs X es (rGs G ts)) : PG X (.Tuple es k pos) (rG G (.tu ts)) := by
  obtain ⟨a1, a2⟩ := ae_len (env := X.env) hs
  refine pg_w (pg_tup hc h a1 a2) fun y σ H Q ⟨en, ρ, tm, st, S, R, v, ρ', rel, hv, e, h⟩ => ?_
  cases v with
  | tup vs =>
    unfold asgT at e
    split at e
    · rename_i hn
      rw [rel_tupE] at hv
      obtain ⟨a, xs, rfl, q1, q2⟩ := hv
      exact ⟨a, xs, rfl, by rw [hK]; exact q1, by rw [q2.length, ← hn, hl], en, ρ, tm, st, S, R, vs, ρ', rel, q2, e, h⟩
    · cases e
  | _ => cases e
theorem slotL_ok {N : List Str} {sc : Scope} {x : Str} {i : Nat} (h : slotL N sc x = some i) : N[i]? = some x ∧ Loc sc x := by
  unfold slotL at h
  have ix : ∀ {i}, N.idxOf? x = some i → N[i]? = some x := fun {i} h => by
    rw [List.idxOf?_eq_some_iff] at h
    obtain ⟨hi, e, _⟩ := h
    rw [List.getElem?_eq_getElem hi, e]
  split at h
  · rename_i e; exact ⟨ix h, .inl e⟩
  · rename_i e; exact ⟨ix h, .inr e⟩
  · cases h
theorem slotP_ok {N : List Str} {sc : Scope} {x : Str} {i : Nat} (h : slotP N sc x = some i) : N[i]? = some x ∧ sc.names.lookup x = some .local := by
  unfold slotP at h
  have ix : ∀ {i}, N.idxOf? x = some i → N[i]? = some x := fun {i} h => by
    rw [List.idxOf?_eq_some_iff] at h
    obtain ⟨hi, e, _⟩ := h
    rw [List.getElem?_eq_getElem hi, e]
  split at h
  · rename_i e; exact ⟨ix h, e⟩
  · cases h
variable (G) in
theorem cT_ok (b : Bool) (hc : X.calm = true) (hK : X.K = G.K) (hN : X.N.Nodup) (hf : b = true → ∀ x, X.fn x = true) (sc : Scope) (hsc : X.env.scope = sc) : ∀ (n : Nat), (∀ (e : Expr) (t : Tgt), cT X.N b sc n e = some t → PG X e (rG G t)) ∧ (∀ (es : List Expr) (ts : List Tgt), cTs X.N b sc n es = some ts → es.any isStar = false → ts.length = es.length ∧ PGs X es (rGs G ts))
  | 0 => ⟨(fun e t h => by unfold cT at h; cases h), (fun es ts h => by unfold cTs at h; cases h)⟩
  | n + 1 => by
    obtain ⟨ih1, ih2⟩ := cT_ok b hc hK hN hf sc hsc n
    refine ⟨fun e t h => ?_, fun es ts h hs => ?_⟩
    · unfold cT at h
      split at h
      · rename_i x pos
        cases b with
        | true =>
          obtain ⟨i, e, rfl⟩ := Option.map_eq_some_iff.mp h
          obtain ⟨h1, h2⟩ := slotL_ok e
          exact g_name hN h1 (by rw [hsc]; exact h2) (.inl (hf rfl x))
        | false =>
          obtain ⟨i, e, rfl⟩ := Option.map_eq_some_iff.mp h
          obtain ⟨h1, h2⟩ := slotP_ok e
          exact g_name hN h1 (by rw [hsc]; exact .inl h2) (.inr (by rw [hsc]; exact h2))
      · rename_i es k pos
        split at h
        · cases h
        · rename_i hs
          obtain ⟨ts, e, rfl⟩ := Option.map_eq_some_iff.mp h
          have hs : es.any isStar = false := by simpa using hs
          obtain ⟨h1, h2⟩ := ih2 es ts e hs
          exact g_tup hc hK h1 hs h2
      · cases h
    · cases es with
      | nil => unfold cTs at h; cases h; exact ⟨rfl, gs_nil⟩
      | cons e r =>
        unfold cTs at h
        rw [List.any_cons, Bool.or_eq_false_iff] at hs
        cases e1 : cT X.N b sc n e with
        | none => rw [e1] at h; cases h
        | some t =>
          rw [e1] at h
          obtain ⟨tr, e2, rfl⟩ := Option.map_eq_some_iff.mp h
          obtain ⟨h1, h2⟩ := ih2 r tr e2 hs.2
          exact ⟨by rw [List.length_cons, List.length_cons, h1], gs_cons hs.1 (ih1 e t e1) h2⟩
end
mutual
theorem tgIn_sl {l : List Nat} : ∀ (t : Tgt), tgIn l t = true → ∀ i ∈ tsl t, i ∈ l
  | .nm j, h, i, hi => by
    unfold tgIn at h
    unfold tsl at hi
    rw [List.mem_singleton.mp hi]
    simpa using h
  | .tu ts, h, i, hi => by
    unfold tgIn at h
    unfold tsl at hi
    exact tgInL_sl ts h i hi
theorem tgInL_sl {l : List Nat} : ∀ (t : List Tgt), tgInL l t = true → ∀ i ∈ tsls t, i ∈ l
  | [], _, i, hi => by unfold tsls at hi; cases hi
  | t :: ts, h, i, hi => by
    unfold tgInL at h
    unfold tsls at hi
    rw [Bool.and_eq_true] at h
    rcases List.mem_append.mp hi with z | z
    · exact tgIn_sl t h.1 i z
    · exact tgInL_sl ts h.2 i z
end
/-! ### wiping -/
theorem wipe_get {σ : L2.St} {i : Nat} : ∀ {vs : List Nat}, (wipe σ vs)[i]? = if i ∈ vs then (if i < σ.length then some none else none) else σ[i]?
  | [] => by simp [wipe]
  | v :: vs => by
    unfold wipe
    by_cases hi : v = i
    · subst hi
      rw [List.getElem?_set_self', if_pos List.mem_cons_self, wipe_get]
      by_cases hl : v < σ.length
      · rw [if_pos hl]
        split
        · rfl
        · rw [List.getElem?_eq_getElem hl]; rfl
      · rw [if_neg hl]
        split
        · rfl
        · rw [List.getElem?_eq_none (by omega)]; rfl
    · rw [List.getElem?_set_ne hi, wipe_get]
      have : (i ∈ v :: vs) ↔ i ∈ vs := by simp [Ne.symm hi]
      simp only [this]
theorem wipe_off {l vs : List Nat} {σ σ' : L2.St} (h : Off l σ σ') (hl : ∀ i ∈ l, i ∈ vs) : wipe σ' vs = wipe σ vs := by
  apply List.ext_getElem?
  intro i
  rw [wipe_get, wipe_get, h.1]
  by_cases hi : i ∈ vs
  · rw [if_pos hi, if_pos hi]
  · rw [if_neg hi, if_neg hi]
    exact h.2 i fun z => hi (hl i z)
theorem wipeE_get {σ : Env} {i : Nat} : ∀ {vs : List Nat}, (wipeE σ vs)[i]? = if i ∈ vs then (if i < σ.length then some .un else none) else σ[i]?
  | [] => by simp [wipeE]
  | v :: vs => by
    unfold wipeE
    by_cases hi : v = i
    · subst hi
      rw [List.getElem?_set_self', if_pos List.mem_cons_self, wipeE_get]
      by_cases hl : v < σ.length
      · rw [if_pos hl]
        split
        · rfl
        · rw [List.getElem?_eq_getElem hl]; rfl
      · rw [if_neg hl]
        split
        · rfl
        · rw [List.getElem?_eq_none (by omega)]; rfl
    · rw [List.getElem?_set_ne hi, wipeE_get]
      have : (i ∈ v :: vs) ↔ i ∈ vs := by simp [Ne.symm hi]
      simp only [this]
theorem wipeE_length (σ : Env) : ∀ vs : List Nat, (wipeE σ vs).length = σ.length
  | [] => rfl
  | v :: vs => by unfold wipeE; rw [List.length_set, wipeE_length σ vs]
section
variable {G : Wd} {R : List Addr} {S : Ad} {H : Hp} {st : Store} {en : En} {ρ : Env} {tm : List (EV × V)} {σ : L2.St}
theorem Rel.wiped (rel : Rel G en ρ tm st S R σ H) (vs : List Nat) : Rel G en (wipeE ρ vs) [] st S R (wipe σ vs) H := by
  have get : ∀ {j : Nat} {s : Slot}, (wipeE ρ vs)[j]? = some s → s ≠ .un → j ∉ vs ∧ ρ[j]? = some s := fun {j s} h hn => by
    rw [wipeE_get] at h
    by_cases z : j ∈ vs
    · rw [if_pos z] at h
      split at h
      · cases h; exact absurd rfl hn
      · cases h
    · rw [if_neg z] at h; exact ⟨z, h⟩
  refine ⟨by rw [wipeE_length, wipe_length]; exact rel.len, rel.ext, rel.pre, rel.rnew, rel.st, fun j s h => ?_, fun j k v w b h1 h2 h3 h4 => ?_, fun p hp => nomatch hp⟩
  · cases s with
    | un => trivial
    | sh v =>
      obtain ⟨z, q⟩ := get h (fun z => nomatch z)
      rw [wipe_get, if_neg z]
      exact rel.slot j _ q
    | ow v =>
      obtain ⟨z, q⟩ := get h (fun z => nomatch z)
      rw [wipe_get, if_neg z]
      exact rel.slot j _ q
  · obtain ⟨z1, q1⟩ := get h1 (fun z => nomatch z)
    obtain ⟨z2, q2⟩ := get h2 (fun z => nomatch z)
    rw [wipe_get, if_neg z1] at h3
    rw [wipe_get, if_neg z2] at h4
    exact rel.own j k v w b q1 q2 h3 h4
end
end Py
end
section
/-! PyLc: new lists; comprehensions; a frame's own lists read. -/
namespace Py
open PySem PySem.Spec PyProof.Rows L2
section
variable {G : Wd} {R : List Addr} {S S' : Ad} {H : Hp} {st : Store} {en : En} {ρ : Env} {tm : List (EV × V)} {σ : L2.St}
theorem RelE.sub {v : EV} {x : V} (h : ∀ a, S a → S' a) (r : RelE G H S R v x) : RelE G H S' R v x := refs_less h List.prefix_rfl v r (refs_of v r)
theorem RelL.sub {v : List EV} {x : List V} (h : ∀ a, S a → S' a) (r : RelL G H S R v x) : RelL G H S' R v x := refs_lessL h List.prefix_rfl v r (refs_ofL v r)
/-- a list that nobody tracks yet is frozen -/
theorem StOk.add (ok : StOk G H S R st) {p : Addr} (hp : H p ≠ none) (hR : p ∉ R) : StOk G H (Sadd S p) R st := by
  refine ⟨ok.len, ok.nd, fun a ha z => ?_, fun a z => ?_, fun i a o h1 h2 => ?_⟩
  · rcases z with z | rfl
    · exact ok.dis a ha z
    · exact hR ha
  · rcases z with z | rfl
    · exact ok.trk a z
    · exact hp
  · have q := ok.so i a o h1 h2
    cases o with
    | lst l =>
      obtain ⟨xs, e, r⟩ := q
      exact ⟨xs, e, RelL.sub (fun _ z => .inl z) r⟩
    | ins c fs =>
      obtain ⟨dx, xs, e, l, t, r⟩ := q
      exact ⟨dx, xs, e, l, t, RelL.sub (fun _ z => .inl z) r⟩
theorem Stp.add {R0 : List Addr} {S0 : Ad} {H0 : Hp} (s : Stp R0 S0 H0 R S H) {p : Addr} (h0 : H0 p = none) (hp : H p ≠ none) : Stp R0 S0 H0 R (Sadd S p) H :=
  ⟨⟨s.ext.keep, s.ext.stay, fun a h => .inl (s.ext.sub a h), fun a h => by
    rcases h with h | rfl
    · exact s.ext.new a h
    · exact .inr ⟨h0, hp⟩⟩, s.pre, s.new⟩
/-- .. of a frame -/
theorem Rel.add (rel : Rel G en ρ tm st S R σ H) {p : Addr} (h0 : en.H p = none) (hp : H p ≠ none) (hR : p ∉ R) (hj : ∀ (j : Nat) (w : EV), ρ[j]? = some (.ow w) → σ[j]? ≠ some (some (.ref p))) : Rel G en ρ tm st (Sadd S p) R σ H := by
  refine ⟨rel.len, (Stp.add ⟨rel.ext, rel.pre, rel.rnew⟩ h0 hp).ext, rel.pre, rel.rnew, rel.st.add hp hR, fun j s e => ?_, rel.own, fun q hq => RelE.sub (fun _ z => .inl z) (rel.tm q hq)⟩
  have q := rel.slot j s e
  cases s with
  | un => trivial
  | sh v =>
    obtain ⟨y, k1, k2⟩ := q
    exact ⟨y, k1, RelE.sub (fun _ z => .inl z) k2⟩
  | ow v =>
    obtain ⟨b, zs, l2, k1, k2, k3, k4, k5, k6, k7⟩ := q
    refine ⟨b, zs, l2, k1, k2, k3, fun z => ?_, k5, k6, RelL.sub (fun _ z => .inl z) k7⟩
    rcases z with z | rfl
    · exact k4 z
    · exact hj j v e k1
theorem Rel.fresh (rel : Rel G en ρ tm st S R σ H) {p : Addr} (hp : H p = none) : en.H p = none ∧ ¬ S p ∧ p ∉ R ∧ ∀ (j : Nat) (w : EV), ρ[j]? = some (.ow w) → σ[j]? ≠ some (some (.ref p)) := by
  refine ⟨?_, fun z => rel.st.trk p z hp, fun z => ?_, fun j w e q => ?_⟩
  · cases q : en.H p with
    | none => rfl
    | some o => exact absurd hp (rel.ext.stay p (by rw [q]; exact (fun z => nomatch z)))
  · obtain ⟨o, e, _⟩ := rel.st.isSo z
    rw [hp] at e; cases e
  · obtain ⟨a, xs, l, e1, _, _, _, _, e2, _⟩ := rel.slot j _ e
    rw [q] at e1; cases e1
    rw [hp] at e2; cases e2

/-- a new list: in no tree yet, new since H0 -/
abbrev RAn (G : Wd) (H0 : Hp) : Hp → Ad → List Addr → EV → V → Prop := fun H S R v y => ∃ l p xs, v = .lst l ∧ y = .ref p ∧ H0 p = none ∧ ¬ S p ∧ p ∉ R ∧ H p = some (.lst xs) ∧ RelL G H S R l xs
def rN (G : Wd) (m m1 : Nat → List EV → M EV) (Wx : WX) (x : E) : TE := fun σ H Q => ∃ en ρ tm st S R, Rel G en ρ tm st S R σ H ∧ Run G en ρ tm σ Wx S R H (evE G.tab m m1 ρ x st) (RAn G H) Q
/-- the new list is frozen -/
theorem run_frz {Wx : WX} {r : Res EV} {H1 : Hp} {Q : VK} {S1 : Ad} {R1 : List Addr} (hs : ∀ (j : Nat) (w : EV) (p : Addr), ρ[j]? = some (.ow w) → σ[j]? = some (some (.ref p)) → H1 p ≠ none) (he : ∀ p, H1 p = none → en.H p = none) (run : Run G en ρ tm σ Wx S1 R1 H1 r (RAe G) Q) : Run G en ρ tm σ Wx S1 R1 H1 r (RAn G H1) Q := by
  cases r with
  | ok v st' =>
    intro y H' S' R' rel s ⟨l, p, xs, e1, e2, h0, h1, h2, h3, h4⟩
    subst e1 e2
    have hp : H' p ≠ none := by rw [h3]; exact (fun z => nomatch z)
    refine run _ H' (Sadd S' p) R' (rel.add (he p h0) hp h2 fun j w e q => hs j w p e q h0) (s.add h0 hp) ?_
    unfold RAe RelE
    exact ⟨p, xs, rfl, .inr rfl, h3, RelL.sub (fun _ z => .inl z) h4⟩
  | ex e st' => exact run
  | bad => exact run
end
section
variable {X : Cx} {G : Wd} {c : CT} {ar : Nat → Nat} {d : Nat} {m m1 : Nat → List EV → M EV} {Wx : WX}
theorem e_n {x : E} (σ : L2.St) (H : Hp) (Q : VK) : rE G m m1 Wx x σ H Q → rN G m m1 Wx x σ H Q := fun ⟨en, ρ, tm, st, S, R, rel, run⟩ =>
  ⟨en, ρ, tm, st, S, R, rel, run_frz (fun j w p e1 e2 e3 => (rel.fresh e3).2.2.2 j w e1 e2) (fun p hp => (rel.fresh hp).1) run⟩
theorem n_to_e {e : Expr} {x : E} (h : PE X e (rN G m m1 Wx x)) : PE X e (rE G m m1 Wx x) := pe_w h e_n
/-- .., laid in the store -/
theorem n_to_sto {e : Expr} {x : E} (h : PE X e (rN G m m1 Wx x)) : PE X e (rE G m m1 Wx (.sto x)) := pe_w h fun σ H Q ⟨en, ρ, tm, st, S, R, rel, run⟩ => by
  have run : Run G en ρ tm σ Wx S R H (bnd (evE G.tab m m1 ρ x) (fun v => stoM v) st) (RAe G) Q := run
  refine ⟨en, ρ, tm, st, S, R, rel, ?_⟩
  unfold bnd at run
  cases e : evE G.tab m m1 ρ x st with
  | bad => rw [e] at run; exact run.elim
  | ex y st' => rw [e] at run; exact run
  | ok v st' =>
    rw [e] at run
    intro y H' S' R' rel' s ⟨l, p, xs, e1, e2, h0, h1, h2, h3, h4⟩
    subst e1 e2
    have run : Run G en ρ tm σ Wx S R H (Res.ok (.ref st'.length) (st' ++ [.lst l])) (RAe G) Q := run
    have hp1 : R' <+: R' ++ [p] := ⟨[p], rfl⟩
    have ok := rel'.st
    have so : StOk G H' S' (R' ++ [p]) (st' ++ [.lst l]) := by
      refine ⟨by rw [List.length_append, List.length_append, ok.len]; rfl, ?_, fun a ha z => ?_, ok.trk, fun i a o q1 q2 => ?_⟩
      · rw [List.nodup_append]
        exact ⟨ok.nd, List.nodup_cons.mpr ⟨(fun z => nomatch z), List.nodup_nil⟩, fun a ha b hb => by
          rw [List.mem_singleton.mp hb]
          rintro rfl
          exact h2 ha⟩
      · rcases List.mem_append.mp ha with q | q
        · exact ok.dis a q z
        · rw [List.mem_singleton.mp q] at z; exact h1 z
      · by_cases hi : i < R'.length
        · rw [List.getElem?_append_left hi] at q1
          rw [List.getElem?_append_left (by rw [← ok.len]; exact hi)] at q2
          exact SoOk.mono (Ext.refl _ _ _) ok.both hp1 (fun _ q => q) (ok.so i a o q1 q2)
        · rw [List.getElem?_append_right (by omega)] at q1
          rw [List.getElem?_append_right (by rw [← ok.len]; omega)] at q2
          rw [ok.len] at q1
          have hi0 : i - st'.length = 0 := by
            have := (List.getElem?_eq_some_iff.mp q1).1
            simp at this; exact this
          rw [hi0] at q1 q2
          cases q1
          cases q2
          exact ⟨xs, h3, RelL.mono (Ext.refl R' _ _) ok.both hp1 l h4⟩
    obtain ⟨f1, f2, f3, f4⟩ := rel.fresh h0
    refine run (.ref p) H' S' (R' ++ [p]) ⟨rel'.len, rel'.ext, List.IsPrefix.trans rel'.pre hp1, fun a ha => ?_, so, fun j z q => ?_, rel'.own, fun q hq => RelE.mono (Ext.refl R' _ _) ok.both hp1 _ (rel'.tm q hq)⟩ ⟨s.ext, List.IsPrefix.trans s.pre hp1, fun a ha => ?_⟩ ?_
    · rcases List.mem_append.mp ha with q | q
      · exact rel'.rnew a q
      · rw [List.mem_singleton.mp q]; exact .inr f1
    · have k := rel'.slot j z q
      cases z with
      | un => trivial
      | sh v =>
        obtain ⟨y, k1, k2⟩ := k
        exact ⟨y, k1, RelE.mono (Ext.refl R' _ _) ok.both hp1 _ k2⟩
      | ow v =>
        obtain ⟨b, zs, l2, k1, k2, k3, k4, k5, k6, k7⟩ := k
        refine ⟨b, zs, l2, k1, k2, k3, k4, fun z => ?_, k6, RelL.mono (Ext.refl R' _ _) ok.both hp1 _ k7⟩
        rcases List.mem_append.mp z with z | z
        · exact k5 z
        · rw [List.mem_singleton.mp z] at k1
          exact f4 j v q k1
    · rcases List.mem_append.mp ha with q | q
      · exact s.new a q
      · rw [List.mem_singleton.mp q]; exact .inr h0
    · refine rel_refE.mpr ⟨p, rfl, ?_⟩
      rw [← ok.len, List.getElem?_append_right (Nat.le_refl _)]
      simp
/-! ### new lists -/
theorem run_bndX {α β γ δ : Type} {en : En} {ρ : Env} {tm : List (EV × V)} {σ : L2.St} {S : Ad} {R : List Addr} {H : Hp} {st : Store} {m0 : M γ} {f : γ → M α} {RA : Hp → Ad → List Addr → α → β → Prop} {RA1 : Hp → Ad → List Addr → γ → δ → Prop} {Q : β → Hp → Prop} (h : Run G en ρ tm σ Wx S R H (bnd m0 f st) RA Q) :
    Run G en ρ tm σ Wx S R H (m0 st) RA1 fun y H' => ∃ v st' S' R', Rel G en ρ tm st' S' R' σ H' ∧ Stp R S H R' S' H' ∧ RA1 H' S' R' v y ∧ m0 st = .ok v st' ∧ Run G en ρ tm σ Wx S R H (f v st') RA Q := by
  unfold bnd at h
  cases e : m0 st with
  | ok v st' => rw [e] at h; exact fun y H' S' R' h1 h2 h3 => ⟨v, st', S', R', h1, h2, h3, rfl, h⟩
  | ex x st' => rw [e] at h; exact h
  | bad => rw [e] at h; exact h
theorem n_lst {es : List Expr} {xs : List E} {pos : Pos} (h : PA X es (rEs G m m1 Wx xs)) (hz : xs.length ≤ 1000) : PE X (.List es pos) (rN G m m1 Wx (.lst xs)) := by
  refine pe_w (pe_lst h) fun σ H Q ⟨en, ρ, tm, st, S, R, rel, run⟩ => ?_
  have run : Run G en ρ tm σ Wx S R H (bnd (evEs G.tab m m1 ρ xs) (fun vs => ret (.lst vs)) st) (RAn G H) Q := run
  refine ⟨en, ρ, tm, st, S, R, rel, (run_bndX (RA1 := RAl G) run).mono fun ys H1 ⟨vs, st', S1, R1, rel1, s, rl, e, run⟩ => ?_⟩
  · have run : Run G en ρ tm σ Wx S R H (Res.ok (EV.lst vs) st') (RAn G H) Q := run
    refine ⟨?_, fun p hp => ?_⟩
    · rw [rl.length, evEs_len e, szl_eq]; show _ ≤ 16777216; omega
    · have g := gr_upd0 (o := .lst ys) S1 hp
      obtain ⟨f1, f2, f3, f4⟩ := rel1.fresh hp
      have h0 : H p = none := by
        cases q : H p with
        | none => rfl
        | some o => exact absurd hp (s.ext.stay p (by rw [q]; exact (fun z => nomatch z)))
      exact run (.ref p) (upd H1 p (.lst ys)) S1 R1 (rel1.gr g) (s.trans (g.stp R1)) ⟨vs, p, ys, rfl, rfl, h0, f2, f3, upd_same, rl.gr g rel1.st⟩
/-- list(..) -/
def rListN (G : Wd) : List V → Hp → VK → Prop := fun xs H Q => ∃ st S R vs l, StOk G H S R st ∧ RelL G H S R vs xs ∧ bi .list vs = some (.lst l) ∧ ∀ ys p, H p = none → RelL G H S R l ys → Q (.ref p) (upd H p (.lst ys))
theorem cr_listN (hK : X.K = G.K) : CallR X (.type "list") (rListN G) := by
  intro pins s σ H xs us Q I r h
  obtain ⟨st, S, R, vs, z, ok, hv, e, k⟩ := h
  unfold bi at e
  split at e <;> first | cases e | skip
  all_goals try contradiction
  · obtain ⟨x, rfl, h1⟩ := relL1 hv
    rw [rel_lstE] at h1
    obtain ⟨a, ys, rfl, _, h2, h3⟩ := h1
    exact call_list_of pins s σ H _ us Q I r ⟨a, ys, rfl, .inl (SqL.of h2), fun l hl => k _ _ hl h3⟩
  · obtain ⟨x, rfl, h1⟩ := relL1 hv
    rw [rel_tupE] at h1
    obtain ⟨a, ys, rfl, h2, h3⟩ := h1
    exact call_list_of pins s σ H _ us Q I r ⟨a, ys, rfl, .inr (by rw [hK]; exact h2), fun l hl => k _ _ hl h3⟩
theorem bi_listL {vs : List EV} {z : EV} (h : bi .list vs = some z) : ∃ l, z = .lst l := by
  unfold bi at h
  split at h <;> first | cases h | skip
  all_goals first | exact ⟨_, rfl⟩ | contradiction
theorem n_list (hX : CxOk X G c ar d m m1 Wx) {x : Str} {p pos : Pos} {e : Expr} {es : List Expr} {xs : List E} (hx : c.glo.lookup x = some (.bi .list)) (hg : Gl X x) (hs : (e :: es).any isStar = false) (ha : PA X (e :: es) (rEs G m m1 Wx xs)) : PE X (.Call (.Name x p) (e :: es) [] pos) (rN G m m1 Wx (.bi .list xs)) := by
  obtain ⟨hm, ex⟩ := hX.defs.bi x .list hx
  have hs' := hs
  rw [List.any_cons, Bool.or_eq_false_iff] at hs'
  have h1 : starEach (e :: es) X.env = (false, eval e X.env) :: starEach es X.env := star_tail X.env hs'.1
  have h2 : (backTo pos (starEach es X.env)).any (·.1) = false := star_any hs'.2
  subst ex
  refine pe_w (pe_callTy (cr_listN hX.K) hg hm (by decide +kernel) ha (by decide +kernel) (by decide +kernel) h1 h2) fun σ H Q ⟨en, ρ, tm, st, S, R, rel, run⟩ => ?_
  have run : Run G en ρ tm σ Wx S R H (bnd (evEs G.tab m m1 ρ xs) (fun vs => ofO (bi .list vs)) st) (RAn G H) Q := run
  refine ⟨en, ρ, tm, st, S, R, rel, (run_bndX (RA1 := RAl G) run).mono fun ys H1 ⟨vs, st', S1, R1, rel1, s, rl, e, run⟩ => ?_⟩
  · have run : Run G en ρ tm σ Wx S R H (ofO (bi .list vs) st') (RAn G H) Q := run
    cases e2 : bi .list vs with
    | none => rw [e2] at run; exact run.elim
    | some z =>
      rw [e2] at run
      obtain ⟨l, rfl⟩ := bi_listL e2
      refine ⟨st', S1, R1, vs, l, rel1.st, rl, e2, fun zs p hp rz => ?_⟩
      have g := gr_upd0 (o := .lst zs) S1 hp
      obtain ⟨f1, f2, f3, f4⟩ := rel1.fresh hp
      have h0 : H p = none := by
        cases q : H p with
        | none => rfl
        | some o => exact absurd hp (s.ext.stay p (by rw [q]; exact (fun z => nomatch z)))
      exact run (.ref p) (upd H1 p (.lst zs)) S1 R1 (rel1.gr g) (s.trans (g.stp R1)) ⟨l, p, zs, rfl, rfl, h0, f2, f3, upd_same, rz.gr g rel1.st⟩
/-! ### comprehensions -/
/-- no exception is wanted -/
abbrev W0 : WX := fun _ _ _ _ => False
theorem cx_blk (hX : CxOk X G c ar d m m1 Wx) (s : Shared) (H : Hp) (scope : Scope) (ce : PySem.Env) (fp : List Addr) : CxOk (X.blk s H scope ce fp) G c ar d m m1 W0 :=
  ⟨hX.calm, hX.nd, hX.room, hX.gd, ⟨hX.pyl.seer, hX.pyl.tree, hX.pyl.dp, hX.pyl.fr⟩, hX.K, fun u s' ⟨_, _, _, _, _, _, _, _, _, _, _, _, _, _, _, _, w⟩ => w.elim, PassesOwn.never, hX.defs, hX.arm, hX.arm1⟩
theorem pts_w {e : List Expr} {t t' : TT} (h : PTs X e t) (hw : ∀ σ H Q, t' σ H Q → t σ H Q) : PTs X e t' := ⟨fun pins s σ H Q I q => h.run pins s σ H Q I (hw σ H Q q)⟩
theorem pts_all0 : PTs X [] (rAll G m m1 Wx []) := pts_w pts_nil fun σ H Q ⟨en, ρ, tm, st, S, R, rel, run⟩ => run_ret (RA := RAq) (v := true) (y := true) run rel rfl
theorem pts_all1 {e : Expr} {x : Te} (h : PT X e (rT G m m1 Wx x)) : PTs X [e] (rAll G m m1 Wx [x]) := pts_w (pts_one h) fun σ H Q ⟨en, ρ, tm, st, S, R, rel, run⟩ => by
  have run : Run G en ρ tm σ Wx S R H (bnd (evT G.tab m m1 ρ x) (fun b => if b = true then ret true else ret false) st) RAq Q := run
  refine ⟨en, ρ, tm, st, S, R, rel, (run_bndq run).mono fun b H1 ⟨st1, S1, R1, rel1, run1⟩ => ?_⟩
  cases b with
  | true => exact run_ret (RA := RAq) (v := true) (y := true) run1 rel1 rfl
  | false => exact run_ret (RA := RAq) (v := false) (y := false) run1 rel1 rfl
theorem noex_ok {α : Type} {m0 : M α} {s s' : Store} {a : α} (h : noex m0 s = .ok a s') : m0 s = .ok a s' := by
  unfold noex at h
  cases e : m0 s with
  | ok b t => rw [e] at h; exact h
  | ex b t => rw [e] at h; cases h
  | bad => rw [e] at h; cases h
theorem compL_noex {f : EV → M (Option EV)} : ∀ {l : List EV} {st st' : Store} {x : Ex}, compL (fun v => noex (f v)) l st ≠ .ex x st'
  | [], _, _, _, h => nomatch h
  | v :: r, st, st', x, h => by
    unfold compL bnd at h
    cases e : noex (f v) st with
    | ok o s1 =>
      rw [e] at h
      cases e2 : compL (fun v => noex (f v)) r s1 with
      | ok l s2 => simp only [e2] at h; cases h
      | ex y s2 => exact compL_noex e2
      | bad => simp only [e2] at h; cases h
    | ex y s1 =>
      unfold noex at e
      split at e <;> cases e
    | bad => rw [e] at h; cases h
theorem compL_cons {f : EV → M (Option EV)} {v : EV} {r l : List EV} {st st' : Store} (h : compL f (v :: r) st = .ok l st') : ∃ o s1 l', f v st = .ok o s1 ∧ compL f r s1 = .ok l' st' ∧ l = (match o with
    | some x => x :: l'
    | none => l') := by
  unfold compL at h
  obtain ⟨o, s1, e1, h⟩ := bnd_ok h
  obtain ⟨l', s2, e2, h⟩ := bnd_ok h
  cases h
  exact ⟨o, s1, l', e1, e2, rfl⟩
theorem wipe_wipe (σ : L2.St) (vs : List Nat) : wipe (wipe σ vs) vs = wipe σ vs := by
  apply List.ext_getElem?
  intro i
  rw [wipe_get, wipe_get, wipe_length]
  by_cases hi : i ∈ vs
  · rw [if_pos hi, if_pos hi]
  · rw [if_neg hi, if_neg hi]
/-- what stands at a turn of a comprehension -/
structure CInv (G : Wd) (f : EV → M (Option EV)) (l full : List EV) (stE : Store) (D : Addr) (S1 : Ad) (R1 : List Addr) (H1 : Hp) (i : Nat) (H : Hp) (st : Store) (S : Ad) (R : List Addr) (vs rest : List EV) (ws : List V) : Prop where
  stp : Stp R1 S1 H1 R S H
  ok : StOk G H S R st
  ns : ¬ S D
  nr : D ∉ R
  at_ : H D = some (.lst ws)
  rl : RelL G H S R vs ws
  run : compL f (l.drop i) st = .ok rest stE
  eq : full = vs ++ rest
theorem lc_reads {own : List (Str × Nat)} {t : Tgt} {it : It} {xifs : List Te} {xe : E} (hin : tgIn (own.map (·.2)) t = true) (σ : L2.St) (H : Hp) (Q : VK) : rN G m m1 Wx (.comp (own.map (·.2)) t it xifs xe) σ H Q →
    tLc (rI G m m1 Wx it) (rG G t) (rAll G m m1 W0 xifs) (rE G m m1 W0 xe) (own.map (·.2)) σ H Q := fun ⟨en, ρ, tm, st, S, R, rel, run⟩ => by
  generalize hvs : own.map (·.2) = vs at run hin
  have hf : ∃ f0 : EV → M (Option EV), f0 = fun v => (match asgT t v (wipeE ρ vs) with
      | none => bad
      | some ρ' => bnd (evAll G.tab m m1 ρ' xifs) fun r => if r = true then bnd (evE G.tab m m1 ρ' xe) fun x => ret (some x) else ret none) := ⟨_, rfl⟩
  obtain ⟨f0, hf⟩ := hf
  have run : Run G en ρ tm σ Wx S R H (bnd (evI G.tab m m1 ρ it) (fun l => bnd (compL (fun v => noex (f0 v)) l) fun l => if l.length < szl then ret (.lst l) else bad) st) (RAn G H) Q := by rw [hf]; exact run
  refine ⟨en, ρ, tm, st, S, R, rel, ?_⟩
  unfold bnd at run
  cases e1 : evI G.tab m m1 ρ it st with
  | bad => rw [e1] at run; exact run.elim
  | ex y st' => rw [e1] at run; exact run
  | ok l st1 =>
    rw [e1] at run
    have run : Run G en ρ tm σ Wx S R H (bnd (compL (fun v => noex (f0 v)) l) (fun l => if l.length < szl then ret (.lst l) else bad) st1) (RAn G H) Q := run
    intro J P H1 S1 R1 rel1 s1 hP stab _ jok D hD
    unfold bnd at run
    cases e2 : compL (fun v => noex (f0 v)) l st1 with
    | bad => rw [e2] at run; exact run.elim
    | ex y st' => exact (compL_noex e2).elim
    | ok full stE =>
      rw [e2] at run
      have run : Run G en ρ tm σ Wx S R H ((if full.length < szl then ret (EV.lst full) else bad) stE) (RAn G H) Q := run
      by_cases hz : full.length < szl
      · rw [if_pos hz] at run
        obtain ⟨f1, f2, f3, f4⟩ := rel1.fresh hD
        have h0 : H D = none := by
          cases q : H D with
          | none => rfl
          | some o => exact absurd hD (s1.ext.stay D (by rw [q]; exact (fun z => nomatch z)))
        have g1 := gr_upd0 (o := .lst []) S1 hD
        refine ⟨fun i n H' => n = l.length - i ∧ i ≤ l.length ∧ ∃ st S R vs rest ws, CInv G (fun v => noex (f0 v)) l full stE D S1 R1 H1 i H' st S R vs rest ws, ⟨l.length, by simp, Nat.zero_le _, st1, S1, R1, [], full, [], ⟨g1.stp R1, rel1.st.grow g1, f2, f3, upd_same, RelL.nil, e2, rfl⟩⟩, ?_⟩
        rintro i n H2 ⟨rfl, hil, st2, S2, R2, us, rest, ws, I⟩
        have hP2 : P H2 S2 R2 := stab _ _ _ _ _ _ _ rel1.st I.stp hP
        by_cases hlt : i < l.length
        · refine .inr ⟨jok.go i H2 S2 R2 st2 I.ok hP2 hlt, fun H' => ∃ st S R vs rest ws, CInv G (fun v => noex (f0 v)) l full stE D S1 R1 H1 (i + 1) H' st S R vs rest ws, fun H' q => ⟨l.length - (i + 1), by omega, rfl, hlt, q⟩, fun x H3 hy => ?_⟩
          obtain ⟨S3, g3, hv⟩ := jok.yld i H2 S2 R2 st2 l[i] I.ok hP2 (List.getElem?_eq_getElem hlt) x H3 hy
          have er := I.run
          rw [List.drop_eq_getElem_cons hlt] at er
          obtain ⟨o, s3, rest', e3, e4, e5⟩ := compL_cons er
          have e3 := noex_ok e3
          rw [hf] at e3
          cases e6 : asgT t l[i] (wipeE ρ vs) with
          | none => simp only [e6] at e3; cases e3
          | some ρ' =>
            simp only [e6] at e3
            have st3 : Stp R1 S1 H1 R2 S3 H3 := I.stp.trans (g3.stp R2)
            have ok3 : StOk G H3 S3 R2 st2 := I.ok.grow g3
            have relB : Rel G en (wipeE ρ vs) [] st2 S3 R2 (wipe σ vs) H3 := (rel1.wiped vs).stp st3 ok3
            refine ⟨en, wipeE ρ vs, [], st2, S3, R2, l[i], ρ', relB, hv, e6, fun σ2 relC off => ⟨?_, ?_⟩⟩
            · rw [wipe_off off (tgIn_sl t hin), wipe_wipe]
            · obtain ⟨b, s4, e7, e8⟩ := bnd_ok e3
              refine ⟨en, ρ', [], st2, S3, R2, relC, ?_⟩
              show Run G en ρ' [] σ2 W0 S3 R2 H3 (evAll G.tab m m1 ρ' xifs st2) RAq _
              rw [e7]
              intro b' H4 S4 R4 relD s34 eb
              have eb : b = b' := eb
              subst eb
              -- what is kept
              have D3 : H3 D = some (.lst ws) := g3.keep _ _ I.at_
              have nS3 : ¬ S3 D := fun z => by
                rcases g3.new D z with q | q
                · exact I.ns q
                · rw [I.at_] at q; cases q.1
              have keep : ∀ {R5 : List Addr} {S5 : Ad} {H5 : Hp}, Stp R2 S3 H3 R5 S5 H5 → ¬ S5 D ∧ D ∉ R5 ∧ H5 D = some (.lst ws) := fun {R5 S5 H5} s => by
                refine ⟨fun z => ?_, fun z => ?_, s.ext.keep _ _ D3 I.nr⟩
                · rcases s.ext.new D z with q | q
                  · exact nS3 q
                  · rw [D3] at q; cases q.1
                · rcases s.new D z with q | q
                  · exact I.nr q
                  · rw [D3] at q; cases q
              cases b with
              | false =>
                have e8 : Res.ok (none : Option EV) s4 = Res.ok o s3 := e8
                cases e8
                obtain ⟨k1, k2, k3⟩ := keep s34
                simp only [Bool.false_eq_true, if_false]
                exact ⟨s3, S4, R4, us, rest', ws, ⟨st3.trans s34, relD.st, k1, k2, k3, (I.rl.gr g3 I.ok).stp s34 ok3, e4, by rw [I.eq, e5]⟩⟩
              | true =>
                have e8 : bnd (evE G.tab m m1 ρ' xe) (fun x => ret (some x)) s4 = Res.ok o s3 := e8
                obtain ⟨xv, s5, e9, e10⟩ := bnd_ok e8
                cases e10
                simp only [if_true]
                refine ⟨en, ρ', [], s4, S4, R4, relD, ?_⟩
                show Run G en ρ' [] σ2 W0 S4 R4 H4 (evE G.tab m m1 ρ' xe s4) (RAe G) _
                rw [e9]
                intro y H5 S5 R5 relE s45 hy5
                have s35 := s34.trans s45
                obtain ⟨k1, k2, k3⟩ := keep s35
                have rl5 : RelL G H5 S5 R5 us ws := (I.rl.gr g3 I.ok).stp s35 ok3
                have fl : us.length ≤ full.length := by rw [I.eq, List.length_append]; omega
                have sn : Seen S5 H5 (upd H5 D (.lst (ws ++ [y]))) := seen_upd k3 trivial k1
                refine ⟨ws, k3, by rw [rl5.length, szl_eq]; omega, s3, S5, R5, us ++ [xv], rest', ws ++ [y], ⟨(st3.trans s35).wr hD, relE.st.wr k3 k1 k2, k1, k2, upd_same, RelL.chg sn _ (rl5.append (RelL.cons hy5 RelL.nil)), e4, ?_⟩⟩
                rw [I.eq, e5, List.append_assoc]
                rfl
        · have e : i = l.length := by omega
          subst e
          refine .inl ⟨jok.stop _ H2 S2 R2 st2 I.ok hP2 rfl, ?_⟩
          have er := I.run
          rw [List.drop_length] at er
          have er : Res.ok ([] : List EV) st2 = Res.ok rest stE := er
          cases er
          have ef : full = us := by rw [I.eq, List.append_nil]
          subst ef
          exact run (.ref D) H2 S2 R2 (rel1.stp I.stp I.ok) (s1.trans I.stp) ⟨full, D, ws, rfl, rfl, h0, I.ns, I.nr, I.at_, I.rl⟩
      · rw [if_neg hz] at run; exact run.elim
theorem n_comp (hX : CxOk X G c ar d m m1 Wx) {tg iter elt : Expr} {ifs : List Expr} {scope : Scope} {own : List (Str × Nat)} {pos : Pos} {t : Tgt} {it : It} {xifs : List Te} {xe : E} (hi : PI X tg iter (rI G m m1 Wx it)) (ok : BlkOk X.N X.env.scope scope own)
    (hg : ∀ (s : Shared) (H : Hp) (C : Addr) (cl : List (Str × Addr)) (fp : List Addr), PG (X.blk s H scope (compEnvC scope cl C X.env) fp) tg (rG G t))
    (ht : ∀ (s : Shared) (H : Hp) (C : Addr) (cl : List (Str × Addr)) (fp : List Addr), PTs (X.blk s H scope (compEnvC scope cl C X.env) fp) ifs (rAll G m m1 W0 xifs))
    (he : ∀ (s : Shared) (H : Hp) (C : Addr) (cl : List (Str × Addr)) (fp : List Addr), PE (X.blk s H scope (compEnvC scope cl C X.env) fp) elt (rE G m m1 W0 xe)) (hs : ∀ x, foldedSetIterable iter X.env x = pure x) (hin : tgIn (own.map (·.2)) t = true) :
    PE X (.ListComp elt [⟨tg, iter, ifs, 0⟩] scope pos) (rN G m m1 Wx (.comp (own.map (·.2)) t it xifs xe)) :=
  pe_w (pe_lc hX.calm hX.nd hi ok hg ht he hs) (lc_reads hin)
/-! ### a frame's own lists read -/
/-- what a slot that is read holds -/
inductive Hold (G : Wd) (H : Hp) (S : Ad) (R : List Addr) : EV → V → Prop where
  | sh (v : EV) (y : V) (h : RelE G H S R v y) : Hold G H S R v y
  | ow (l : List EV) (a : Addr) (xs : List V) (h : H a = some (.lst xs)) (r : RelL G H S R l xs) : Hold G H S R (.lst l) (.ref a)
theorem hold_of {G : Wd} {en : En} {ρ : Env} {tm : List (EV × V)} {st : Store} {S : Ad} {R : List Addr} {σ : L2.St} {H : Hp} (rel : Rel G en ρ tm st S R σ H) {k : Nat} {v : EV} (h : getB ρ k = some v) : ∃ y, σ[k]? = some (some y) ∧ Hold G H S R v y := by
  unfold getB at h
  split at h
  · rename_i w e
    cases h
    obtain ⟨y, e1, e2⟩ := rel.slot k _ e
    exact ⟨y, e1, .sh _ _ e2⟩
  · rename_i w e
    cases h
    obtain ⟨a, xs, l, e1, rfl, _, _, _, e2, e3⟩ := rel.slot k _ e
    exact ⟨_, e1, .ow l a xs e2 e3⟩
  · cases h
def rItO (G : Wd) : R2 := fun x y H Q => rIt G x y H Q ∨ ∃ a xs i w, x = .ref a ∧ y = .int i ∧ H a = some (.lst xs) ∧ atI xs i = some w ∧ Q w H
theorem ix_ito (hK : X.K = G.K) : IxR X (rItO G) := by
  intro value slice pins s σ H x y v u Q I rx ry h hs
  rcases h with h | ⟨a, xs, i, w, rfl, rfl, e1, e2, q⟩
  · exact ix_it hK value slice pins s σ H x y v u Q I rx ry h hs
  · exact ix_seq value slice pins s σ H _ _ v u Q I rx ry (.inl ⟨a, xs, i, w, rfl, rfl, SqL.of e1, e2, q⟩) hs
theorem itemM_ok {v w : EV} {st : Store} : itemM v w st = .bad ∨ ∃ z, itemM v w st = .ok z st := by
  have hb : (fun _ : Store => (Res.bad : Res EV)) st = .bad := rfl
  unfold itemM
  split
  · cases st[‹Nat›]? with
    | none => exact .inl rfl
    | some o =>
      cases o with
      | ins _ _ => exact .inl rfl
      | lst l =>
        cases w with
        | int j =>
          cases e : atI l j with
          | none => refine .inl ?_; simp only [e]
          | some z => refine .inr ⟨z, ?_⟩; simp only [e]
        | _ => exact .inl rfl
  · cases e : item v w with
    | none => exact .inl rfl
    | some z => exact .inr ⟨z, rfl⟩
theorem s_idxO (hX : CxOk X G c ar d m m1 Wx) {x : Str} {p : Pos} {b : Expr} {y : E} {k : Nat} {pos : Pos} (hN : X.N[k]? = some x) (hv : Vis X.env.scope x) (hd : (x == ("__debug__" : Str)) = false) (hcd : (x == ("__classdict__" : Str)) = false) (hs : isSlice b = false) (hb : PE X b (rE G m m1 Wx y)) : PE X (.Subscript (.Name x p) b pos) (rE G m m1 Wx (.idxO k y)) := by
  refine pe_w (pe_ix (ix_ito hX.K) (pe_var hN hv hd hcd) hb (by cases b <;> first | exact fun _ _ => rfl | cases hs)) fun σ H Q ⟨en, ρ, tm, st, S, R, rel, run⟩ => ?_
  have run : Run G en ρ tm σ Wx S R H (bnd (ofO (getB ρ k)) (fun v => bnd (evE G.tab m m1 ρ y) fun w => itemM v w) st) (RAe G) Q := run
  cases ev : getB ρ k with
  | none => rw [ev] at run; exact run.elim
  | some v =>
    rw [ev] at run
    obtain ⟨u, eu, _⟩ := hold_of rel ev
    refine ⟨u, eu, ?_⟩
    have run : Run G en ρ tm σ Wx S R H (bnd (evE G.tab m m1 ρ y) (fun w => itemM v w) st) (RAe G) Q := run
    refine ⟨en, ρ, tm, st, S, R, rel, (run_bnd run).mono fun y2 H2 ⟨w, st2, S2, R2, rel2, run2⟩ => ?_⟩
    obtain ⟨u', eu', hh⟩ := hold_of rel2 ev
    rw [eu] at eu'
    cases eu'
    rcases itemM_ok (v := v) (w := w) (st := st2) with e | ⟨z, e⟩
    · rw [e] at run2; exact run2.elim
    · rw [e] at run2
      cases hh with
      | sh _ _ h => exact .inl ⟨st2, S2, R2, v, w, z, rel2.st, h, rel2.top, e, fun t ht => run_ret run2 rel2 ht⟩
      | ow l a xs h1 h2 =>
        cases w with
        | int i =>
          have e' : ofO (atI l i) st2 = .ok z st2 := e
          cases ei : atI l i with
          | none => rw [ei] at e'; cases e'
          | some z' =>
            rw [ei] at e'
            cases e'
            obtain ⟨t, e3, e4⟩ := atI_get ei h2
            exact .inr ⟨a, xs, i, t, rfl, rel_int.mp rel2.top, h1, e3, run_ret run2 rel2 e4⟩
        | _ => cases e
def rSlO (G : Wd) : V → Option Int → Option Int → Hp → VK → Prop := fun x lo hi H Q => rSlE G x lo hi H Q ∨ ∃ a xs, x = .ref a ∧ H a = some (.lst xs) ∧ ∀ q, H q = none → Q (.ref q) (upd H q (.lst (cutV xs lo hi)))
theorem sl_ito (hK : X.K = G.K) : SlR X (rSlO G) := by
  intro pins s σ H x v vl vu lo hi sl Q I rx hs pl pu h
  rcases h with h | ⟨a, xs, rfl, h1, k⟩
  · exact sl_it hK pins s σ H x v vl vu lo hi sl Q I rx hs pl pu h
  · exact sl_list pins s σ H _ v vl vu lo hi sl Q I rx hs pl pu ⟨a, xs, rfl, SqL.of h1, k⟩
theorem s_slO (hX : CxOk X G c ar d m m1 Wx) {x : Str} {p : Pos} {k : Nat} {lo hi : Option Expr} {l h : Eo} {pos p2 : Pos} (hN : X.N[k]? = some x) (hv : Vis X.env.scope x) (hd : (x == ("__debug__" : Str)) = false) (hcd : (x == ("__classdict__" : Str)) = false) (hl : PO X lo (rO G m m1 Wx l)) (hh : PO X hi (rO G m m1 Wx h)) : PE X (.Subscript (.Name x p) (.Slice lo hi none p2) pos) (rE G m m1 Wx (.slO k l h)) := by
  refine pe_w (pe_slice (sl_ito hX.K) (pe_var hN hv hd hcd) hl hh) fun σ H Q ⟨en, ρ, tm, st, S, R, rel, run⟩ => ?_
  have run : Run G en ρ tm σ Wx S R H (bnd (ofO (getB ρ k)) (fun v => bnd (evO G.tab m m1 ρ l) fun l => bnd (evO G.tab m m1 ρ h) fun h => ofO (slice v l h)) st) (RAe G) Q := run
  cases ev : getB ρ k with
  | none => rw [ev] at run; exact run.elim
  | some v =>
    rw [ev] at run
    obtain ⟨u, eu, _⟩ := hold_of rel ev
    refine ⟨u, eu, ?_⟩
    have run : Run G en ρ tm σ Wx S R H (bnd (evO G.tab m m1 ρ l) (fun l => bnd (evO G.tab m m1 ρ h) fun h => ofO (slice v l h)) st) (RAe G) Q := run
    refine ⟨en, ρ, tm, st, S, R, rel, (run_bndq run).mono fun l H2 ⟨st2, S2, R2, rel2, run2⟩ => ?_⟩
    refine ⟨en, ρ, _, st2, S2, R2, rel2, (run_bndq run2).mono fun h H3 ⟨st3, S3, R3, rel3, run3⟩ => ?_⟩
    obtain ⟨z, e, run4⟩ := run_ofO run3
    obtain ⟨u', eu', hh⟩ := hold_of rel3 ev
    rw [eu] at eu'
    cases eu'
    cases hh with
    | sh _ _ h => exact .inl ⟨st3, S3, R3, v, z, rel3.st, h, e, fun u H' S' g hu => run_gr run4 rel3 g hu⟩
    | ow l a xs h1 h2 =>
      unfold slice at e
      cases e
      exact .inr ⟨a, xs, rfl, h1, fun q hq => run_gr run4 rel3 (gr_upd S3 hq) (rel_lst rel3.st h2.cut hq)⟩
def rLenO (G : Wd) : List V → Hp → VK → Prop := fun xs H Q => rBi G .len xs H Q ∨ ∃ a ys, xs = [.ref a] ∧ H a = some (.lst ys) ∧ Q (.int ys.length) H
theorem cr_leno (hK : X.K = G.K) : CallR X (.builtin "len") (rLenO G) := by
  intro pins s σ H xs us Q I r h
  rcases h with h | ⟨a, ys, rfl, h1, k⟩
  · exact cr_len hK pins s σ H xs us Q I r h
  · exact call_len pins s σ H _ us Q I r ⟨_, _, rfl, .inl ⟨ys, SqL.of h1, rfl⟩, k⟩
theorem s_lenO (hX : CxOk X G c ar d m m1 Wx) {y x : Str} {p pos p2 : Pos} {k : Nat} (hy : c.glo.lookup y = some (.bi .len)) (hg : Gl X y) (hN : X.N[k]? = some x) (hv : Vis X.env.scope x) (hd : (x == ("__debug__" : Str)) = false) (hcd : (x == ("__classdict__" : Str)) = false) : PE X (.Call (.Name y p) [.Name x p2] [] pos) (rE G m m1 Wx (.biO .len k)) := by
  obtain ⟨hm, ex⟩ := hX.defs.bi y .len hy
  subst ex
  refine pe_w (pe_callB (cr_leno hX.K) hg hm PySem.boot_len (pa_cons (pe_var hN hv hd hcd) pa_nil rfl) (by decide +kernel) (by decide +kernel) rfl rfl) fun σ H Q ⟨en, ρ, tm, st, S, R, rel, run⟩ => ?_
  have run : Run G en ρ tm σ Wx S R H (bnd (ofO (getB ρ k)) (fun v => ofO (bi .len [v])) st) (RAe G) Q := run
  cases ev : getB ρ k with
  | none => rw [ev] at run; exact run.elim
  | some v =>
    rw [ev] at run
    obtain ⟨u, eu, hh⟩ := hold_of rel ev
    refine ⟨u, eu, ?_⟩
    have run : Run G en ρ tm σ Wx S R H (ofO (bi .len [v]) st) (RAe G) Q := run
    obtain ⟨z, e, run4⟩ := run_ofO run
    cases hh with
    | sh _ _ h => exact .inl ⟨st, S, R, [v], z, rel.st, RelL.cons h RelL.nil, e, fun u H' S' g hu => run_gr run4 rel g hu⟩
    | ow l a xs h1 h2 =>
      unfold bi at e
      cases e
      exact .inr ⟨a, xs, rfl, h1, run_ret run4 rel (rel_int.mpr (by rw [h2.length]))⟩
end
end Py
end
section
/-! PySt: statements. -/
namespace Py
open PySem PySem.Spec PyProof.Rows L2
/-! ### writes at the store -/
section
variable {G : Wd} {R : List Addr} {S : Ad} {H : Hp} {st : Store} {en : En} {ρ : Env} {tm : List (EV × V)} {σ : L2.St}
theorem nodup_ix {l : List Addr} (h : l.Nodup) {i j : Nat} {a : Addr} (h1 : l[i]? = some a) (h2 : l[j]? = some a) : i = j := by
  exact (List.getElem?_inj (List.getElem?_eq_some_iff.mp h1).1 h).mp (h1.trans h2.symm)
theorem SoOk.isSo {a : Addr} {o : SO} (h : SoOk G H S R a o) : ∃ u, H a = some u ∧ Py.isSo u := by
  cases o with
  | lst l => obtain ⟨xs, e, _⟩ := h; exact ⟨_, e, trivial⟩
  | ins c fs => obtain ⟨dx, xs, e, _⟩ := h; exact ⟨_, e, trivial⟩
/-- a thing of the store is changed -/
theorem Rel.put (rel : Rel G en ρ tm st S R σ H) {k : Nat} {a : Addr} {o : SO} {u : HO} (hk : R[k]? = some a) (hu : Py.isSo u) (ho : SoOk G (upd H a u) S R a o) : Rel G en ρ tm (st.set k o) S R σ (upd H a u) := by
  have aR : a ∈ R := List.mem_of_getElem? hk
  obtain ⟨w, e1, e2⟩ := rel.st.isSo aR
  have aS := rel.st.dis a aR
  have sn : Seen S H (upd H a u) := seen_upd e1 e2 aS
  have keep : ∀ b o, H b = some o → b ≠ a → upd H a u b = some o := fun b o e ne => by rw [upd_ne ne]; exact e
  have some_ : ∀ b, H b ≠ none → upd H a u b ≠ none := fun b h => by
    by_cases z : b = a
    · rw [z, upd_same]; exact (fun z => nomatch z)
    · rw [upd_ne z]; exact h
  refine ⟨rel.len, ⟨fun b o e hb => keep b o (rel.ext.keep b o e hb) ?_, fun b h => some_ b (rel.ext.stay b h), rel.ext.sub, fun b h => ?_⟩, rel.pre, rel.rnew, ⟨?_, rel.st.nd, rel.st.dis, fun b h => some_ b (rel.st.trk b h), fun i b o' h1 h2 => ?_⟩, fun j s e => ?_, rel.own, fun p hp => RelE.chg sn _ (rel.tm p hp)⟩
  · rintro rfl
    rcases rel.rnew _ aR with q | q
    · exact hb q
    · rw [e] at q; cases q
  · rcases rel.ext.new b h with q | q
    · exact .inl q
    · exact .inr ⟨q.1, some_ b q.2⟩
  · rw [List.length_set]; exact rel.st.len
  · by_cases z : k = i
    · subst z
      rw [hk] at h1
      cases h1
      have hl : k < st.length := by
        have := (List.getElem?_eq_some_iff.mp h2).1
        rw [List.length_set] at this; exact this
      rw [List.getElem?_set_self hl] at h2
      cases h2
      exact ho
    · rw [List.getElem?_set_ne z] at h2
      have ne : b ≠ a := by
        rintro rfl
        exact z (nodup_ix rel.st.nd hk h1)
      have q := rel.st.so i b o' h1 h2
      cases o' with
      | lst l =>
        obtain ⟨xs, e, r⟩ := q
        exact ⟨xs, keep _ _ e ne, RelL.chg sn _ r⟩
      | ins c fs =>
        obtain ⟨dx, xs, e, l, t, r⟩ := q
        exact ⟨dx, xs, keep _ _ e ne, l, t, RelL.chg sn _ r⟩
  · have q := rel.slot j s e
    cases s with
    | un => trivial
    | sh v =>
      obtain ⟨y, k1, k2⟩ := q
      exact ⟨y, k1, RelE.chg sn _ k2⟩
    | ow v =>
      obtain ⟨b, zs, l2, k1, k2, k3, k4, k5, k6, k7⟩ := q
      have ne : b ≠ a := by
        rintro rfl
        exact k5 aR
      exact ⟨b, zs, l2, k1, k2, k3, k4, k5, keep _ _ k6 ne, RelL.chg sn _ k7⟩
/-- the lists of these slots are frozen -/
theorem Rel.frz1 (rel : Rel G en ρ tm st S R σ H) (k : Nat) : ∃ S', Rel G en (ρ.modify k Py.frz1) tm st S' R σ H := by
  cases e : ρ[k]? with
  | none =>
    refine ⟨S, ?_⟩
    have : ρ.modify k Py.frz1 = ρ := by
      rw [List.modify_eq_self]
      exact List.getElem?_eq_none_iff.mp e
    rw [this]; exact rel
  | some s =>
    have hk : k < ρ.length := (List.getElem?_eq_some_iff.mp e).1
    have em : ρ.modify k Py.frz1 = ρ.set k (Py.frz1 s) := by
      apply List.ext_getElem?
      intro i
      rw [List.getElem?_modify]
      by_cases z : k = i
      · subst z; rw [e, List.getElem?_set_self hk]; simp
      · rw [List.getElem?_set_ne z]; simp [z]
    cases s with
    | un =>
      refine ⟨S, ?_⟩
      rw [em]
      have : ρ.set k (Py.frz1 .un) = ρ := by
        apply List.ext_getElem?
        intro i
        by_cases z : k = i
        · subst z; rw [List.getElem?_set_self hk, e]; rfl
        · rw [List.getElem?_set_ne z]
      rw [this]; exact rel
    | sh v =>
      refine ⟨S, ?_⟩
      rw [em]
      have : ρ.set k (Py.frz1 (.sh v)) = ρ := by
        apply List.ext_getElem?
        intro i
        by_cases z : k = i
        · subst z; rw [List.getElem?_set_self hk, e]; rfl
        · rw [List.getElem?_set_ne z]
      rw [this]; exact rel
    | ow v =>
      obtain ⟨a, xs, l, k1, rfl, k3, k4, k5, k6, k7⟩ := rel.slot k _ e
      have hn : H a ≠ none := by rw [k6]; exact (fun z => nomatch z)
      refine ⟨Sadd S a, ?_⟩
      rw [em]
      show Rel G en (ρ.set k (.sh (.lst l))) tm st (Sadd S a) R σ H
      have ext := (Stp.add ⟨rel.ext, rel.pre, rel.rnew⟩ k3 hn).ext
      have get : ∀ {j : Nat} {w : EV}, (ρ.set k (Slot.sh (.lst l)))[j]? = some (Slot.ow w) → k ≠ j ∧ ρ[j]? = some (Slot.ow w) := fun {j w} h => by
        by_cases z : k = j
        · subst z; rw [List.getElem?_set_self hk] at h; cases h
        · rw [List.getElem?_set_ne z] at h; exact ⟨z, h⟩
      refine ⟨by rw [List.length_set]; exact rel.len, ext, rel.pre, rel.rnew, rel.st.add hn k5, fun j s h => ?_, fun i j v w b h1 h2 h3 h4 => ?_, fun q hq => RelE.sub (fun _ z => .inl z) (rel.tm q hq)⟩
      · by_cases z : k = j
        · subst z
          rw [List.getElem?_set_self hk] at h
          cases h
          refine ⟨_, k1, ?_⟩
          unfold RelE
          exact ⟨a, xs, rfl, .inr rfl, k6, RelL.sub (fun _ z => .inl z) k7⟩
        · rw [List.getElem?_set_ne z] at h
          have q := rel.slot j s h
          cases s with
          | un => trivial
          | sh v =>
            obtain ⟨y, q1, q2⟩ := q
            exact ⟨y, q1, RelE.sub (fun _ z => .inl z) q2⟩
          | ow v =>
            obtain ⟨b, zs, l2, q1, q2, q3, q4, q5, q6, q7⟩ := q
            refine ⟨b, zs, l2, q1, q2, q3, fun y => ?_, q5, q6, RelL.sub (fun _ z => .inl z) q7⟩
            rcases y with y | rfl
            · exact q4 y
            · exact z (rel.own k j _ _ b e h k1 q1)
      · obtain ⟨_, q1⟩ := get h1
        obtain ⟨_, q2⟩ := get h2
        exact rel.own i j v w b q1 q2 h3 h4
theorem Rel.frzK (rel : Rel G en ρ tm st S R σ H) : ∀ ks : List Nat, ∃ S', Rel G en (Py.frzK ρ ks) tm st S' R σ H
  | [] => ⟨S, rel⟩
  | k :: ks => by
    obtain ⟨S', h⟩ := Rel.frzK rel ks
    unfold Py.frzK
    exact h.frz1 k
end
/-! ### runs of statements -/
/-- what comes of a statement -/
def RunS (G : Wd) (en : En) (tm : List (EV × V)) (Wx : WX) (r : Res (Fl × Env)) (D : Ends) : Prop := match r with
  | .ok (.nx, ρ') st' => ∀ σ' H' S' R', Rel G en ρ' tm st' S' R' σ' H' → D.nx σ' H'
  | .ok (.ct, ρ') st' => ∀ σ' H' S' R', Rel G en ρ' tm st' S' R' σ' H' → D.ct σ' H'
  | .ok (.bk, ρ') st' => ∀ σ' H' S' R', Rel G en ρ' tm st' S' R' σ' H' → D.bk σ' H'
  | .ok (.rt v, ρ') st' => ∀ σ' y H' S' R', Rel G en ρ' tm st' S' R' σ' H' → RelE G H' S' R' v y → D.rt y H'
  | .ex e st' => ∀ cls d σ' H' S' R' ρ', Rel G en ρ' [] st' S' R' σ' H' → ExOk G H' S' R' e cls d → Wx cls d σ' H'
  | .bad => False
section
variable {X : Cx} {G : Wd} {c : CT} {ar : Nat → Nat} {d : Nat} {m m1 : Nat → List EV → M EV} {Wx : WX}
def rS (G : Wd) (m m1 : Nat → List EV → M EV) (Wx : WX) (W : Nat) (s : S) : TS := fun D σ H => ∃ en ρ tm st S R, Rel G en ρ tm st S R σ H ∧ RunS G en tm Wx (evS G.tab m m1 W ρ s st) D
def rSs (G : Wd) (m m1 : Nat → List EV → M EV) (Wx : WX) (W : Nat) (s : List S) : TS := fun D σ H => ∃ en ρ tm st S R, Rel G en ρ tm st S R σ H ∧ RunS G en tm Wx (evSs G.tab m m1 W ρ s st) D
variable {en : En} {ρ : Env} {tm : List (EV × V)} {σ : L2.St} {H : Hp} {st : Store} {S0 : Ad} {R : List Addr} {D : Ends} {W : Nat}
theorem RunS.drop {t : EV × V} {r : Res (Fl × Env)} (h : RunS G en tm Wx r D) : RunS G en (t :: tm) Wx r D := by
  cases r with
  | ok x st' =>
    obtain ⟨f, ρ'⟩ := x
    cases f with
    | nx => exact fun σ' H' S' R' q => h σ' H' S' R' q.drop
    | ct => exact fun σ' H' S' R' q => h σ' H' S' R' q.drop
    | bk => exact fun σ' H' S' R' q => h σ' H' S' R' q.drop
    | rt v => exact fun σ' y H' S' R' q => h σ' y H' S' R' q.drop
  | ex e st' => exact h
  | bad => exact h
/-- an expression ahead -/
theorem runS_bnd {γ δ : Type} {m0 : M γ} {f : γ → M (Fl × Env)} {RA : Hp → Ad → List Addr → γ → δ → Prop} (h : RunS G en tm Wx (bnd m0 f st) D) :
    Run G en ρ tm σ Wx S0 R H (m0 st) RA fun y H' => ∃ v st' S' R', Rel G en ρ tm st' S' R' σ H' ∧ Stp R S0 H R' S' H' ∧ RA H' S' R' v y ∧ RunS G en tm Wx (f v st') D := by
  unfold bnd at h
  cases e : m0 st with
  | ok v st' => rw [e] at h; exact fun y H' S' R' h1 h2 h3 => ⟨v, st', S', R', h1, h2, h3, h⟩
  | ex x st' => rw [e] at h; exact fun cls d H' S' R' h1 h2 => h cls d σ H' S' R' ρ h1 h2
  | bad => rw [e] at h; exact h
theorem runS_ofO {α : Type} {o : Option α} {f : α → M (Fl × Env)} (h : RunS G en tm Wx (bnd (ofO o) f st) D) : ∃ v, o = some v ∧ RunS G en tm Wx (f v st) D := by
  cases o with
  | none => exact h.elim
  | some v => exact ⟨v, rfl, h⟩
theorem ss_bad {s : Stmt} : PS X s (rS G m m1 Wx W .bad) := ps_w ps_never fun D σ H ⟨_, _, _, _, _, _, _, run⟩ => run
theorem sss_bad {s : List Stmt} {l : List S} : PSs X s (rSs G m m1 Wx W (.bad :: l)) := pss_w pss_never fun D σ H ⟨_, _, _, _, _, _, _, run⟩ => run
theorem ss_nil : PSs X [] (rSs G m m1 Wx W []) := pss_w pss_nil fun D σ H ⟨_, _, _, _, _, _, rel, run⟩ => run σ H _ _ rel
theorem ss_cons {s : Stmt} {l : List Stmt} {x : S} {xs : List S} (h1 : PS X s (rS G m m1 Wx W x)) (h2 : PSs X l (rSs G m m1 Wx W xs)) : PSs X (s :: l) (rSs G m m1 Wx W (x :: xs)) := by
  refine pss_w (pss_cons h1 h2) fun D σ H ⟨en, ρ, tm, st, S, R, rel, run⟩ => ⟨en, ρ, tm, st, S, R, rel, ?_⟩
  have run : RunS G en tm Wx (bnd (evS G.tab m m1 W ρ x) (fun y => match y.1 with
    | .nx => evSs G.tab m m1 W y.2 xs
    | _ => ret y) st) D := run
  unfold bnd at run
  cases e : evS G.tab m m1 W ρ x st with
  | bad => rw [e] at run; exact run
  | ex y st' => rw [e] at run; exact run
  | ok y st' =>
    rw [e] at run
    obtain ⟨f, ρ'⟩ := y
    cases f with
    | nx => exact fun σ' H' S' R' q => ⟨en, ρ', tm, st', S', R', q, run⟩
    | ct => exact run
    | bk => exact run
    | rt v => exact run
/-- one statement as several: none behind it -/
theorem ss_pass {pos : Pos} : PS X (.Pass pos) (rS G m m1 Wx W .pass) := ps_w ps_pass fun D σ H ⟨_, _, _, _, _, _, rel, run⟩ => run σ H _ _ rel
theorem ss_brk {pos : Pos} : PS X (.Break pos) (rS G m m1 Wx W .brk) := ps_w ps_break fun D σ H ⟨_, _, _, _, _, _, rel, run⟩ => run σ H _ _ rel
theorem ss_cnt {pos : Pos} : PS X (.Continue pos) (rS G m m1 Wx W .cnt) := ps_w ps_continue fun D σ H ⟨_, _, _, _, _, _, rel, run⟩ => run σ H _ _ rel
theorem ss_ret {e : Expr} {x : E} {pos : Pos} (he : PE X e (rE G m m1 Wx x)) : PS X (.Return (some e) pos) (rS G m m1 Wx W (.ret x)) := ps_w (ps_ret he) fun D σ H ⟨en, ρ, tm, st, S, R, rel, run⟩ => by
  have run : RunS G en tm Wx (bnd (evE G.tab m m1 ρ x) (fun v => ret (.rt v, ρ)) st) D := run
  exact ⟨en, ρ, tm, st, S, R, rel, (runS_bnd run).mono fun y H1 ⟨v, st1, S1, R1, rel1, _, hv, run1⟩ => run1 σ y H1 S1 R1 rel1 hv⟩
theorem ss_retN {pos : Pos} : PS X (.Return none pos) (rS G m m1 Wx W (.ret (.lit .non))) := ps_w ps_retN fun D σ H ⟨en, ρ, tm, st, S, R, rel, run⟩ => by
  have run : RunS G en tm Wx (.ok (.rt .non, ρ) st) D := run
  exact run σ .non H S R rel (rel_non.mpr rfl)
theorem ss_expr {e : Expr} {x : E} {pos : Pos} (he : PE X e (rE G m m1 Wx x)) (hs : swapsWith e none pos.line X.env = pure false) : PS X (.Expr e pos) (rS G m m1 Wx W (.expr x)) := ps_w (ps_expr he hs) fun D σ H ⟨en, ρ, tm, st, S, R, rel, run⟩ => by
  have run : RunS G en tm Wx (bnd (evE G.tab m m1 ρ x) (fun v => ret (.nx, ρ)) st) D := run
  exact ⟨en, ρ, tm, st, S, R, rel, (runS_bnd run).mono fun y H1 ⟨v, st1, S1, R1, rel1, _, hv, run1⟩ => run1 σ H1 S1 R1 rel1⟩
theorem ss_fz {s : Stmt} {x : S} (ks : List Nat) (h : PS X s (rS G m m1 Wx W x)) : PS X s (rS G m m1 Wx W (.fz ks x)) := ps_w h fun D σ H ⟨en, ρ, tm, st, S, R, rel, run⟩ => by
  obtain ⟨S', rel'⟩ := rel.frzK ks
  exact ⟨en, _, tm, st, S', R, rel', run⟩
theorem ss_if {t : Expr} {a b : List Stmt} {xt : Te} {xa xb : List S} {pos : Pos} (ht : PT X t (rT G m m1 Wx xt)) (ha : PSs X a (rSs G m m1 Wx W xa)) (hb : PSs X b (rSs G m m1 Wx W xb)) : PS X (.If t a b pos) (rS G m m1 Wx W (.ifs xt xa xb)) := ps_w (ps_if ht ha hb) fun D σ H ⟨en, ρ, tm, st, S, R, rel, run⟩ => by
  have run : RunS G en tm Wx (bnd (evT G.tab m m1 ρ xt) (fun r => if r = true then evSs G.tab m m1 W ρ xa else evSs G.tab m m1 W ρ xb) st) D := run
  refine ⟨en, ρ, tm, st, S, R, rel, (runS_bnd run).mono fun y H1 ⟨v, st1, S1, R1, rel1, _, hv, run1⟩ => ?_⟩
  have hv : v = y := hv
  subst hv
  cases v with
  | true => exact ⟨en, ρ, tm, st1, S1, R1, rel1, run1⟩
  | false => exact ⟨en, ρ, tm, st1, S1, R1, rel1, run1⟩
theorem ss_asg {tg e : Expr} {t : Tgt} {x : E} {pos : Pos} (he : PE X e (rE G m m1 Wx x)) (hg : PG X tg (rG G t)) (hs : swapsWithSole [tg] e pos.line X.env = pure false) (hw : swappedStores [tg] e X.env = pure none) (h1 : isStar tg = false) : PS X (.Assign [tg] e pos) (rS G m m1 Wx W (.asg t x)) := by
  refine ps_w (ps_asg he hg hs hw (by rw [ae_cons h1]; rfl)) fun D σ H ⟨en, ρ, tm, st, S, R, rel, run⟩ => ?_
  have run : RunS G en tm Wx (bnd (evE G.tab m m1 ρ x) (fun v => bnd (ofO (asgT t v ρ)) fun ρ' => ret (.nx, ρ')) st) D := run
  refine ⟨en, ρ, tm, st, S, R, rel, (runS_bnd run).mono fun y H1 ⟨v, st1, S1, R1, rel1, _, hv, run1⟩ => ?_⟩
  obtain ⟨ρ', e1, run2⟩ := runS_ofO run1
  exact ⟨en, ρ, tm, st1, S1, R1, v, ρ', rel1, hv, e1, fun σ' rel' _ => run2 σ' H1 S1 R1 rel'⟩
/-- name = a new list -/
theorem own_w {i : Nat} {x : E} {e : TE} (he : ∀ σ H Q, rN G m m1 Wx x σ H Q → e σ H Q) : ∀ D σ H, rS G m m1 Wx W (.own i x) D σ H → tAsg e (gName i) D σ H := fun D σ H ⟨en, ρ, tm, st, S, R, rel, run⟩ => by
  have run : RunS G en tm Wx (bnd (evE G.tab m m1 ρ x) (fun v => match v with
    | .lst l => if i < ρ.length then ret (.nx, ρ.set i (.ow (.lst l))) else bad
    | _ => bad) st) D := run
  refine he _ _ _ ⟨en, ρ, tm, st, S, R, rel, (runS_bnd run).mono fun y H1 ⟨v, st1, S1, R1, rel1, s, hv, run1⟩ => ?_⟩
  obtain ⟨l, p, xs, rfl, rfl, h0, h1, h2, h3, h4⟩ := hv
  have run1 : RunS G en tm Wx ((if i < ρ.length then ret (Fl.nx, ρ.set i (.ow (.lst l))) else bad) st1) D := run1
  by_cases hi : i < ρ.length
  · rw [if_pos hi] at run1
    obtain ⟨f1, f2, f3, f4⟩ := rel.fresh h0
    exact run1 _ H1 S1 R1 (rel1.setow hi f1 h1 h2 h3 h4 f4)
  · rw [if_neg hi] at run1; exact run1.elim
theorem ss_own (hN : X.N.Nodup) {i : Nat} {y : Str} {e : Expr} {x : E} {pos pos' : Pos} (hi : X.N[i]? = some y) (hx : Loc X.env.scope y) (hf : X.fn y = true ∨ X.env.scope.names.lookup y = some .local) (he : PE X e (rN G m m1 Wx x)) (hs : swapsWith e (some (.Name y pos')) pos.line X.env = pure false) : PS X (.Assign [.Name y pos'] e pos) (rS G m m1 Wx W (.own i x)) :=
  ps_w (ps_set hN hi hx he hs hf) (own_w fun _ _ _ h => h)
/-! ### loops -/
theorem ss_whl (hX : CxOk X G c ar d m m1 Wx) {t : Expr} {b : List Stmt} {xt : Te} {xb : List S} {pos : Pos} (ht : PT X t (rT G m m1 Wx xt)) (hb : PSs X b (rSs G m m1 Wx W xb)) : PS X (.While t b [] pos) (rS G m m1 Wx W (.whl xt xb)) := by
  refine ps_w (ps_while hX.po ht hb) fun D σ H ⟨en, ρ, tm, st, S, R, rel, run⟩ => ?_
  generalize hF : (fun ρ : Env => bnd (evT G.tab m m1 ρ xt) fun r => if r = true then bnd (evSs G.tab m m1 W ρ xb) fun y => ret (match y.1 with
    | .nx => (Sum.inl y.2 : Sum Env (Fl × Env))
    | .ct => .inl y.2
    | .bk => .inr (.nx, y.2)
    | .rt v => .inr (.rt v, y.2)) else ret (.inr (.nx, ρ))) = F
  have run : RunS G en tm Wx (loopW F W ρ st) D := by rw [← hF]; exact run
  have hFe : ∀ ρ, F ρ = bnd (evT G.tab m m1 ρ xt) fun r => if r = true then bnd (evSs G.tab m m1 W ρ xb) fun y => ret (match y.1 with
    | .nx => (Sum.inl y.2 : Sum Env (Fl × Env))
    | .ct => .inl y.2
    | .bk => .inr (.nx, y.2)
    | .rt v => .inr (.rt v, y.2)) else ret (.inr (.nx, ρ)) := fun ρ => by rw [← hF]
  refine ⟨fun n σ H => ∃ en ρ tm st S R, Rel G en ρ tm st S R σ H ∧ RunS G en tm Wx (loopW F n ρ st) D, ⟨W, en, ρ, tm, st, S, R, rel, run⟩, ?_⟩
  rintro n σ H ⟨en, ρ, tm, st, S, R, rel, run⟩
  cases n with
  | zero => exact run.elim
  | succ n =>
    have run : RunS G en tm Wx (bnd (F ρ) (fun r => match r with
      | .inl ρ' => loopW F n ρ'
      | .inr x => ret x) st) D := run
    rw [hFe ρ, bnd_bnd] at run
    refine ⟨en, ρ, tm, st, S, R, rel, (runS_bnd run).mono fun y H1 ⟨v, st1, S1, R1, rel1, _, hv, run1⟩ => ?_⟩
    have hv : v = y := hv
    subst hv
    cases v with
    | false => exact run1 σ H1 S1 R1 rel1
    | true =>
      rw [if_pos rfl]
      refine ⟨fun σ H => ∃ en ρ tm st S R, Rel G en ρ tm st S R σ H ∧ RunS G en tm Wx (loopW F n ρ st) D, fun σ' H' q => ⟨n, Nat.lt_succ_self n, q⟩, en, ρ, tm, st1, S1, R1, rel1, ?_⟩
      simp only [if_true] at run1
      rw [bnd_bnd] at run1
      unfold bnd at run1
      cases e : evSs G.tab m m1 W ρ xb st1 with
      | bad => rw [e] at run1; exact run1
      | ex y st' => rw [e] at run1; exact run1
      | ok y st' =>
        rw [e] at run1
        obtain ⟨f, ρ'⟩ := y
        have run1 := run1
        cases f with
        | nx => exact fun σ' H' S' R' q => ⟨en, ρ', tm, st', S', R', q, run1⟩
        | ct => exact fun σ' H' S' R' q => ⟨en, ρ', tm, st', S', R', q, run1⟩
        | bk => exact run1
        | rt v => exact run1
theorem Rel.pushes {t : List (EV × V)} {S : Ad} (rel : Rel G en ρ tm st S R σ H) (h : ∀ p ∈ t, RelE G H S R p.1 p.2) : Rel G en ρ (t ++ tm) st S R σ H := ⟨rel.len, rel.ext, rel.pre, rel.rnew, rel.st, rel.slot, rel.own, fun p hp => (List.mem_append.mp hp).elim (h p) (rel.tm p)⟩
theorem Rel.unpush {t : List (EV × V)} {S : Ad} (rel : Rel G en ρ (t ++ tm) st S R σ H) : Rel G en ρ tm st S R σ H := ⟨rel.len, rel.ext, rel.pre, rel.rnew, rel.st, rel.slot, rel.own, fun p hp => rel.tm p (List.mem_append_right _ hp)⟩
theorem RunS.drops (t : List (EV × V)) {r : Res (Fl × Env)} (h : RunS G en tm Wx r D) : RunS G en (t ++ tm) Wx r D := by
  cases r with
  | ok x st' =>
    obtain ⟨f, ρ'⟩ := x
    cases f with
    | nx => exact fun σ' H' S' R' q => h σ' H' S' R' q.unpush
    | ct => exact fun σ' H' S' R' q => h σ' H' S' R' q.unpush
    | bk => exact fun σ' H' S' R' q => h σ' H' S' R' q.unpush
    | rt v => exact fun σ' y H' S' R' q => h σ' y H' S' R' q.unpush
  | ex e st' => exact h
  | bad => exact h
theorem ss_fr (hX : CxOk X G c ar d m m1 Wx) {tg iter : Expr} {t : Tgt} {it : It} {b : List Stmt} {xb : List S} {pos : Pos} (hi : PI X tg iter (rI G m m1 Wx it)) (hg : PG X tg (rG G t)) (hb : PSs X b (rSs G m m1 Wx W xb)) (hs : ∀ x, foldedSetIterable iter X.env x = pure x) : PS X (.For tg iter b [] pos) (rS G m m1 Wx W (.fr t it xb)) := by
  refine ps_w (ps_for hX.po hX.calm hi hg hb hs) fun D σ H ⟨en, ρ, tm, st, S, R, rel, run⟩ => ?_
  generalize hF : (fun (v : EV) (ρ : Env) => match asgT t v ρ with
    | some ρ' => evSs G.tab m m1 W ρ' xb
    | none => bad) = F
  have run : RunS G en tm Wx ((if itOwn it = true then bad else bnd (evI G.tab m m1 ρ it) fun l => forL F l ρ) st) D := by rw [← hF]; exact run
  cases ho : itOwn it with
  | true => rw [ho] at run; exact run.elim
  | false =>
    rw [ho] at run
    have run : RunS G en tm Wx (bnd (evI G.tab m m1 ρ it) (fun l => forL F l ρ) st) D := run
    refine ⟨en, ρ, tm, st, S, R, rel, ?_⟩
    unfold bnd at run
    cases e1 : evI G.tab m m1 ρ it st with
    | bad => rw [e1] at run; exact run.elim
    | ex y st' => rw [e1] at run; exact fun cls d H' S' R' h1 h2 => run cls d σ H' S' R' ρ h1 h2
    | ok l st1 =>
      rw [e1] at run
      have run : RunS G en tm Wx (forL F l ρ st1) D := run
      intro J P H1 S1 R1 rel1 s1 hP _ hPt jok
      obtain ⟨t0, rfl⟩ := hPt ho
      refine ⟨fun i n σ H => n = l.length - i ∧ i ≤ l.length ∧ ∃ ρ st S R, Rel G en ρ (t0 ++ tm) st S R σ H ∧ RunS G en (t0 ++ tm) Wx (forL F (l.drop i) ρ st) D, ⟨l.length, by simp, Nat.zero_le _, ρ, st1, S1, R1, rel1.pushes hP, run.drops t0⟩, ?_⟩
      rintro i n σ2 H2 ⟨rfl, hil, ρ2, st2, S2, R2, rel2, run2⟩
      have hP2 : Pt G t0 H2 S2 R2 := fun p hp => rel2.tm p (List.mem_append_left _ hp)
      by_cases hlt : i < l.length
      · refine .inr ⟨jok.go i H2 S2 R2 st2 rel2.st hP2 hlt, fun σ H => ∃ ρ st S R, Rel G en ρ (t0 ++ tm) st S R σ H ∧ RunS G en (t0 ++ tm) Wx (forL F (l.drop (i + 1)) ρ st) D, fun σ' H' q => ⟨l.length - (i + 1), by omega, rfl, hlt, q⟩, fun x H3 hy => ?_⟩
        obtain ⟨S3, g3, hv⟩ := jok.yld i H2 S2 R2 st2 l[i] rel2.st hP2 (List.getElem?_eq_getElem hlt) x H3 hy
        rw [List.drop_eq_getElem_cons hlt] at run2
        have run2 : RunS G en (t0 ++ tm) Wx (bnd (F l[i] ρ2) (fun x => match x.1 with
          | .nx => forL F (l.drop (i + 1)) x.2
          | .ct => forL F (l.drop (i + 1)) x.2
          | .bk => ret (.nx, x.2)
          | .rt w => ret (.rt w, x.2)) st2) D := run2
        have eF : F l[i] ρ2 = (match asgT t l[i] ρ2 with
          | some ρ' => evSs G.tab m m1 W ρ' xb
          | none => bad) := by rw [← hF]
        rw [eF] at run2
        cases e2 : asgT t l[i] ρ2 with
        | none => rw [e2] at run2; exact run2.elim
        | some ρ3 =>
          rw [e2] at run2
          refine ⟨en, ρ2, t0 ++ tm, st2, S3, R2, l[i], ρ3, rel2.gr g3, hv, e2, fun σ4 rel4 _ => ⟨en, ρ3, t0 ++ tm, st2, S3, R2, rel4, ?_⟩⟩
          unfold bnd at run2
          cases e3 : evSs G.tab m m1 W ρ3 xb st2 with
          | bad => simp only [e3] at run2; exact run2
          | ex y st' => simp only [e3] at run2; exact run2
          | ok y st' =>
            simp only [e3] at run2
            obtain ⟨f, ρ'⟩ := y
            cases f with
            | nx => exact fun σ' H' S' R' q => ⟨ρ', st', S', R', q, run2⟩
            | ct => exact fun σ' H' S' R' q => ⟨ρ', st', S', R', q, run2⟩
            | bk => exact run2
            | rt v => exact run2
      · have e : i = l.length := by omega
        subst e
        refine .inl ⟨jok.stop _ H2 S2 R2 st2 rel2.st hP2 rfl, ?_⟩
        rw [List.drop_length] at run2
        exact run2 σ2 H2 S2 R2 rel2
/-! ### small ones -/
theorem ss_aug (hX : CxOk X G c ar d m m1 Wx) {i : Nat} {y : Str} {e : Expr} {x : E} {o : Operator} {op : Op} {pos pos' : Pos} (hN : X.N.Nodup) (ho : opOf o = some op) (hp : o ≠ .Pow) (hi : X.N[i]? = some y) (hx : Loc X.env.scope y) (hf : X.fn y = true ∨ X.env.scope.names.lookup y = some .local) (he : PE X e (rE G m m1 Wx x)) : PS X (.AugAssign (.Name y pos') o e pos) (rS G m m1 Wx W (.aug i op x)) := by
  refine ps_w (ps_aug hN hi hx he (iop_intop hX.pyl ho hp) hf) fun D σ H ⟨en, ρ, tm, st, S, R, rel, run⟩ => ?_
  have run : RunS G en tm Wx (bnd (ofO (getE ρ i)) (fun u => bnd (evE G.tab m m1 ρ x) fun w => bnd (ofO (match u, w with
    | .int a, .int b => (binI op a b).map EV.int
    | _, _ => none)) fun z => ret (.nx, ρ.set i (.sh z))) st) D := run
  obtain ⟨v, e1, run⟩ := runS_ofO run
  have hs : ρ[i]? = some (.sh v) := by
    unfold getE at e1
    split at e1
    · rename_i w e2; cases e1; exact e2
    · cases e1
  obtain ⟨u, e2, e3⟩ := rel.slot i _ hs
  refine ⟨u, e2, en, ρ, tm, st, S, R, rel, (runS_bnd run).mono fun y H1 ⟨w, st1, S1, R1, rel1, _, hv, run1⟩ => ?_⟩
  obtain ⟨z, e4, run2⟩ := runS_ofO run1
  obtain ⟨u', e5, e6⟩ := rel1.slot i _ hs
  rw [e2] at e5
  cases e5
  have il : i < ρ.length := (List.getElem?_eq_some_iff.mp hs).1
  cases v with
  | int a =>
    cases w with
    | int b =>
      have e4 : (binI op a b).map EV.int = some z := e4
      obtain ⟨k, e7, rfl⟩ := Option.map_eq_some_iff.mp e4
      exact ⟨a, b, k, rel_int.mp e6, rel_int.mp hv, e7, run2 _ H1 S1 R1 (rel1.setsh il (rel_int.mpr rfl))⟩
    | _ => cases e4
  | _ => cases w <;> cases e4
/-- name[i] = v -/
theorem ss_setix {i : Nat} {y : Str} {e ix : Expr} {x xi : E} {pos p p2 : Pos} (hN : X.N[i]? = some y) (hv : Vis X.env.scope y) (hd : (y == ("__debug__" : Str)) = false) (hcd : (y == ("__classdict__" : Str)) = false) (he : PE X e (rE G m m1 Wx x)) (hi : PE X ix (rE G m m1 Wx xi)) (hsl : isSlice ix = false) (hs : swapsWith e (some (.Subscript (.Name y p) ix p2)) pos.line X.env = pure false) :
    PS X (.Assign [.Subscript (.Name y p) ix p2] e pos) (rS G m m1 Wx W (.setix i xi x)) := by
  refine ps_w (ps_asg he (pg_sub (pe_var hN hv hd hcd) hi set_list (by cases ix <;> first | exact fun _ => rfl | cases hsl)) hs (by cases e <;> rfl) rfl) fun D σ H ⟨en, ρ, tm, st, S, R, rel, run⟩ => ?_
  have run : RunS G en tm Wx (bnd (evE G.tab m m1 ρ x) (fun v => bnd (ofO (getB ρ i)) fun _ => bnd (evE G.tab m m1 ρ xi) fun k => bnd (setIx ρ i k v) fun ρ' => ret (.nx, ρ')) st) D := run
  refine ⟨en, ρ, tm, st, S, R, rel, (runS_bnd run).mono fun y H1 ⟨v, st1, S1, R1, rel1, _, hv, run1⟩ => ?_⟩
  obtain ⟨b, eb, run1⟩ := runS_ofO run1
  obtain ⟨u, eu, _⟩ := hold_of rel1 eb
  refine ⟨u, eu, ?_⟩
  refine ⟨en, ρ, _, st1, S1, R1, rel1.push hv, (runS_bnd (run1.drop)).mono fun z H2 ⟨k, st2, S2, R2, rel2, _, hk, run2⟩ => ?_⟩
  have top := rel2.top
  unfold setIx at run2
  cases e1 : ρ[i]? with
  | none => rw [e1] at run2; exact run2.elim
  | some s =>
    rw [e1] at run2
    have sl := rel2.slot i s e1
    cases s with
    | un => exact run2.elim
    | ow w =>
      obtain ⟨a, xs, l, q1, rfl, q3, q4, q5, q6, q7⟩ := sl
      have q1' := q1
      rw [eu] at q1
      cases q1
      cases k with
      | int j =>
        cases e2 : ixN l.length j with
        | none => simp only [e2] at run2; exact run2.elim
        | some n =>
          simp only [e2] at run2
          exact ⟨a, xs, j, n, rfl, rel_int.mp hk, q6, by rw [q7.length]; exact e2, run2 σ _ S2 R2 (rel2.wr e1 q1' q6 (q7.set n top))⟩
      | _ => exact run2.elim
    | sh w =>
      obtain ⟨y', q1, q2⟩ := sl
      rw [eu] at q1
      cases q1
      cases w with
      | ref kk =>
        rw [rel_refE] at q2
        obtain ⟨a, rfl, hR⟩ := q2
        unfold bnd at run2
        cases e3 : st2[kk]? with
        | none => simp only [e3] at run2; exact run2.elim
        | some o =>
          cases o with
          | ins _ _ => simp only [e3] at run2; exact run2.elim
          | lst l =>
            cases k with
            | int j =>
              cases e2 : ixN l.length j with
              | none => simp only [e3, e2] at run2; exact run2.elim
              | some n =>
                simp only [e3, e2] at run2
                obtain ⟨xs, h1, h2⟩ := rel2.st.so kk a _ hR e3
                have sn : Seen S2 H2 (upd H2 a (.lst (xs.set n y))) := seen_upd h1 trivial (rel2.st.dis a (List.mem_of_getElem? hR))
                exact ⟨a, xs, j, n, rfl, rel_int.mp hk, h1, by rw [h2.length]; exact e2, run2 σ _ S2 R2 (rel2.put hR trivial ⟨xs.set n y, upd_same, RelL.chg sn _ (h2.set n top)⟩)⟩
            | _ => simp only [e3] at run2; exact run2.elim
      | _ => exact run2.elim
/-- name.append(e), name.insert(i, e), name.extend(e) -/
def rMu (G : Wd) (mu : Mu) : V → List V → Hp → VK → Prop := fun x vs H Q => ∃ S R ws l l' a xs, RelL G H S R ws vs ∧ x = .ref a ∧ H a = some (.lst xs) ∧ RelL G H S R l xs ∧ muOp mu (.lst l) ws = some (.lst l') ∧ ∀ ys, RelL G H S R l' ys → Q .non (upd H a (.lst ys))
def muName : Mu → String
  | .append => "append" | .insert => "insert" | .extend => "extend" | .pop => "pop"
theorem mt_appendE : MtR X "list.append" (rMu G .append) := by
  intro pins s σ H x vs v us Q I rx rv h
  obtain ⟨S, R, ws, l, l', a, xs, h1, rfl, h3, h4, e, k⟩ := h
  unfold muOp at e
  split at e <;> first | cases e | skip
  all_goals try contradiction
  rename_i l0 w0 _ e0
  cases e0
  obtain ⟨y, rfl, hy⟩ := relL1 h1
  split at e
  · rename_i hz
    cases e
    exact mt_append pins s σ H _ _ v us Q I rx rv ⟨a, xs, y, rfl, rfl, h3, by rw [h4.length, szl_eq]; exact hz, k _ (h4.append (RelL.cons hy RelL.nil))⟩
  · cases e
theorem mt_insertE : MtR X "list.insert" (rMu G .insert) := by
  intro pins s σ H x vs v us Q I rx rv h
  obtain ⟨S, R, ws, l, l', a, xs, h1, rfl, h3, h4, e, k⟩ := h
  unfold muOp at e
  split at e <;> first | cases e | skip
  all_goals try contradiction
  rename_i l0 i w0 _ e0
  cases e0
  unfold RelL at h1
  obtain ⟨y1, r1, rfl, hy1, h1⟩ := h1
  obtain ⟨y, rfl, hy⟩ := relL1 h1
  split at e
  · rename_i hz
    cases e
    exact mt_insert pins s σ H _ _ v us Q I rx rv ⟨a, xs, i, y, rfl, by rw [rel_int.mp hy1], h3, by rw [h4.length, szl_eq]; exact hz.1, hz.2.1, by omega, k _ (((h4.take _).append (RelL.cons hy RelL.nil)).append (h4.drop _))⟩
  · cases e
theorem mt_extendE : MtR X "list.extend" (rMu G .extend) := by
  intro pins s σ H x vs v us Q I rx rv h
  obtain ⟨S, R, ws, l, l', a, xs, h1, rfl, h3, h4, e, k⟩ := h
  unfold muOp at e
  split at e <;> first | cases e | skip
  all_goals try contradiction
  rename_i l0 r0 _ e0
  cases e0
  obtain ⟨y, rfl, hy⟩ := relL1 h1
  split at e
  · rename_i hz
    cases e
    rw [rel_lstE] at hy
    obtain ⟨b, zs, rfl, _, h5, h6⟩ := hy
    exact mt_extend pins s σ H _ _ v us Q I rx rv ⟨a, b, xs, zs, rfl, rfl, h3, h5, by rw [h4.length, h6.length, szl_eq]; exact hz, k _ (h4.append h6)⟩
  · cases e
theorem pe_mu {mu : Mu} {y : Str} {i : Nat} {p ap cp : Pos} {a : Expr} {es : List Expr} {t : TA} (hp : mu ≠ .pop) (hN : X.N[i]? = some y) (hv : Vis X.env.scope y) (hd : (y == ("__debug__" : Str)) = false) (hcd : (y == ("__classdict__" : Str)) = false) (hl : (ap.endLine == cp.line) = true)
    (ha : PA X (a :: es) t) (hs : isStar a = false) (hes : es = [] ∨ ∃ b, es = [b] ∧ isStar b = false) : PE X (.Call (.Attribute (.Name y p) (Str.ofString (muName mu)) ap) (a :: es) [] cp) (tBM X.K "list" (rMu G mu) (tVar i) t) := by
  have st := star_tail (es := es) X.env hs
  have hfew : ((backTo cp (starEach (a :: es) X.env)).all (fun x => !x.1) && (backToKw cp (keywordEach [] X.env)).all (fun x => x.1.isSome) && decide ((a :: es).length + ([] : List Keyword).length + (if ([] : List Keyword).isEmpty then 0 else 1) < 30)) = true := by
    rcases hes with rfl | ⟨b, rfl, hb⟩
    · rw [st]; rfl
    · rw [st, star_tail X.env hb]; rfl
  have hpl : (backTo cp (starEach es X.env)).any (·.1) = false := star_any (by
    rcases hes with rfl | ⟨b, rfl, hb⟩
    · rfl
    · simp [hb])
  cases mu with
  | append => exact pe_bm PySem.F.plainAttrs_list PySem.F.slot_list_append PySem.F.type_list_append mt_appendE (pe_var hN hv hd hcd) ha rfl hfew hl st hpl
  | insert => exact pe_bm PySem.F.plainAttrs_list PySem.F.slot_list_insert PySem.F.type_list_insert mt_insertE (pe_var hN hv hd hcd) ha rfl hfew hl st hpl
  | extend => exact pe_bm PySem.F.plainAttrs_list PySem.F.slot_list_extend PySem.F.type_list_extend mt_extendE (pe_var hN hv hd hcd) ha rfl hfew hl st hpl
  | pop => exact absurd rfl hp
theorem muOp_lst {mu : Mu} {v w : EV} {vs : List EV} (h : muOp mu v vs = some w) : ∃ l l', v = .lst l ∧ w = .lst l' := by
  unfold muOp at h
  split at h
  · split at h <;> cases h; exact ⟨_, _, rfl, rfl⟩
  · split at h <;> cases h; exact ⟨_, _, rfl, rfl⟩
  · split at h <;> cases h; exact ⟨_, _, rfl, rfl⟩
  · split at h <;> cases h; exact ⟨_, _, rfl, rfl⟩
  · cases h
theorem ss_mut {mu : Mu} {y : Str} {i : Nat} {p ap cp pos : Pos} {a : Expr} {es : List Expr} {xs : List E} (hp : mu ≠ .pop) (hN : X.N[i]? = some y) (hv : Vis X.env.scope y) (hd : (y == ("__debug__" : Str)) = false) (hcd : (y == ("__classdict__" : Str)) = false) (hl : (ap.endLine == cp.line) = true)
    (ha : PA X (a :: es) (rEs G m m1 Wx xs)) (hs : isStar a = false) (hes : es = [] ∨ ∃ b, es = [b] ∧ isStar b = false) : PS X (.Expr (.Call (.Attribute (.Name y p) (Str.ofString (muName mu)) ap) (a :: es) [] cp) pos) (rS G m m1 Wx W (.mut mu i xs)) := by
  refine ps_w (ps_expr (pe_mu (G := G) hp hN hv hd hcd hl ha hs hes) rfl) fun D σ H ⟨en, ρ, tm, st, S, R, rel, run⟩ => ?_
  have run : RunS G en tm Wx ((match ρ[i]? with
    | some (.ow v) => bnd (evEs G.tab m m1 ρ xs) fun vs => bnd (ofO (muOp mu v vs)) fun w => ret (Fl.nx, ρ.set i (.ow w))
    | some (.sh (.ref k)) => bnd (isLstM k) fun _ => bnd (evEs G.tab m m1 ρ xs) fun vs => bnd (muSto mu k vs) fun _ => ret (Fl.nx, ρ)
    | _ => bad) st) D := run
  cases e1 : ρ[i]? with
  | none => rw [e1] at run; exact run.elim
  | some s =>
    rw [e1] at run
    have sl := rel.slot i s e1
    cases s with
    | un => exact run.elim
    | ow v =>
      obtain ⟨q, ys, l, q1, rfl, q3, q4, q5, q6, q7⟩ := sl
      refine ⟨_, q1, .inl ⟨rfl, ys, SqL.of q6⟩, ?_⟩
      have run : RunS G en tm Wx (bnd (evEs G.tab m m1 ρ xs) (fun vs => bnd (ofO (muOp mu (.lst l) vs)) fun w => ret (Fl.nx, ρ.set i (.ow w))) st) D := run
      refine ⟨en, ρ, tm, st, S, R, rel, (runS_bnd run).mono fun zs H2 ⟨ws, st2, S2, R2, rel2, _, hz, run2⟩ => ?_⟩
      obtain ⟨w, e2, run3⟩ := runS_ofO run2
      obtain ⟨l0, l', _, rfl⟩ := muOp_lst e2
      obtain ⟨q', ys', l1, k1, k2, k3, k4, k5, k6, k7⟩ := rel2.slot i _ e1
      cases k2
      rw [q1] at k1
      cases k1
      exact ⟨S2, R2, ws, l, l', q, ys', hz, rfl, k6, k7, e2, fun us hu => run3 σ _ S2 R2 (rel2.wr e1 q1 k6 hu)⟩
    | sh v =>
      obtain ⟨u, q1, q2⟩ := sl
      cases v with
      | ref k =>
        have run : RunS G en tm Wx (bnd (isLstM k) (fun _ => bnd (evEs G.tab m m1 ρ xs) fun vs => bnd (muSto mu k vs) fun _ => ret (Fl.nx, ρ)) st) D := run
        rw [rel_refE] at q2
        obtain ⟨q, rfl, hR⟩ := q2
        unfold bnd isLstM at run
        cases e2 : st[k]? with
        | none => simp only [e2] at run; exact run.elim
        | some o =>
          cases o with
          | ins _ _ => simp only [e2] at run; exact run.elim
          | lst l =>
            simp only [e2] at run
            obtain ⟨ys, h1, h2⟩ := rel.st.so k q _ hR e2
            refine ⟨_, q1, .inl ⟨rfl, ys, SqL.of h1⟩, ?_⟩
            have run : RunS G en tm Wx (bnd (evEs G.tab m m1 ρ xs) (fun vs => bnd (muSto mu k vs) fun _ => ret (Fl.nx, ρ)) st) D := run
            refine ⟨en, ρ, tm, st, S, R, rel, (runS_bnd run).mono fun zs H2 ⟨ws, st2, S2, R2, rel2, s2, hz, run2⟩ => ?_⟩
            have hR2 : R2[k]? = some q := by
              obtain ⟨t, rfl⟩ := s2.pre
              rw [List.getElem?_append_left (List.getElem?_eq_some_iff.mp hR).1]
              exact hR
            unfold bnd muSto at run2
            cases e3 : st2[k]? with
            | none => simp only [e3] at run2; exact run2.elim
            | some o =>
              cases o with
              | ins _ _ => simp only [e3] at run2; exact run2.elim
              | lst l2 =>
                simp only [e3] at run2
                cases e4 : muOp mu (.lst l2) ws with
                | none => simp only [e4] at run2; exact run2.elim
                | some w =>
                  obtain ⟨l0, l', _, rfl⟩ := muOp_lst e4
                  simp only [e4] at run2
                  obtain ⟨xs2, h3, h4⟩ := rel2.st.so k q _ hR2 e3
                  exact ⟨S2, R2, ws, l2, l', q, xs2, hz, rfl, h3, h4, e4, fun us hu => run2 σ _ S2 R2 (rel2.put hR2 trivial ⟨us, upd_same, RelL.chg (seen_upd h3 trivial (rel2.st.dis q (List.mem_of_getElem? hR2))) _ hu⟩)⟩
      | _ => exact run.elim
/-! ### fields -/
theorem putF_rel {G : Wd} {H : Hp} {S : Ad} {R : List Addr} (f : Nat) {v : EV} {y : V} (hv : RelE G H S R v y) : ∀ {fs : List (Nat × EV)} {xs : List V}, fs.length = xs.length → RelL G H S R (fs.map (·.2)) xs →
    ∃ xs', L2.putF (G.fld f) y (((fs.map (·.1)).map G.fld).zip xs) = (((Py.putF f v fs).map (·.1)).map G.fld).zip xs' ∧ (Py.putF f v fs).length = xs'.length ∧ RelL G H S R ((Py.putF f v fs).map (·.2)) xs'
  | [], xs, hl, h => by
    cases xs with
    | cons _ _ => cases hl
    | nil => exact ⟨[y], rfl, rfl, RelL.cons hv RelL.nil⟩
  | (g, w) :: r, xs, hl, h => by
    cases xs with
    | nil => cases hl
    | cons x xs =>
      have h' : RelL G H S R (w :: r.map (·.2)) (x :: xs) := h
      unfold RelL at h'
      obtain ⟨x', ys, e, h1, h2⟩ := h'
      cases e
      show ∃ xs', (if G.fld g = G.fld f then (G.fld g, y) :: ((r.map (·.1)).map G.fld).zip xs else (G.fld g, x) :: L2.putF (G.fld f) y (((r.map (·.1)).map G.fld).zip xs)) = (((if g = f then (g, v) :: r else (g, w) :: Py.putF f v r).map (·.1)).map G.fld).zip xs' ∧ (if g = f then (g, v) :: r else (g, w) :: Py.putF f v r).length = xs'.length ∧ RelL G H S R ((if g = f then (g, v) :: r else (g, w) :: Py.putF f v r).map (·.2)) xs'
      by_cases z : g = f
      · subst z
        rw [if_pos rfl, if_pos rfl]
        exact ⟨y :: xs, rfl, by simpa using hl, RelL.cons hv h2⟩
      · rw [if_neg z, if_neg (fun q => z (G.finj _ _ q))]
        obtain ⟨xs', e1, e2, e3⟩ := putF_rel f hv (fs := r) (xs := xs) (by simpa using hl) h2
        exact ⟨x :: xs', by rw [e1]; rfl, by simpa using e2, RelL.cons h1 e3⟩
theorem ss_setat (hX : CxOk X G c ar d m m1 Wx) {i k : Nat} {y f : Str} {e : Expr} {x : E} {pos p p2 : Pos} (hf : c.fld.lookup f = some k) (hN : X.N[i]? = some y) (hv : Vis X.env.scope y) (hd : (y == ("__debug__" : Str)) = false) (hcd : (y == ("__classdict__" : Str)) = false) (he : PE X e (rE G m m1 Wx x)) (hs : swapsWith e (some (.Attribute (.Name y p) f p2)) pos.line X.env = pure false) :
    PS X (.Assign [.Attribute (.Name y p) f p2] e pos) (rS G m m1 Wx W (.setat i k x)) := by
  have ef := hX.defs.fld f k hf
  refine ps_w (ps_fld (pe_var hN hv hd hcd) he hs) fun D σ H ⟨en, ρ, tm, st, S, R, rel, run⟩ => ?_
  have run : RunS G en tm Wx (bnd (evE G.tab m m1 ρ x) (fun v => bnd (setAt ρ i k v) fun ρ' => ret (.nx, ρ')) st) D := run
  refine ⟨en, ρ, tm, st, S, R, rel, (runS_bnd run).mono fun y H1 ⟨v, st1, S1, R1, rel1, _, hv, run1⟩ => ?_⟩
  unfold setAt at run1
  cases e0 : getE ρ i with
  | none => rw [e0] at run1; exact run1.elim
  | some w =>
    rw [e0] at run1
    have e1 : ρ[i]? = some (.sh w) := by
      unfold getE at e0
      split at e0
      · rename_i w e2; cases e0; exact e2
      · cases e0
    obtain ⟨u, q1, q2⟩ := rel1.slot i _ e1
    refine ⟨u, q1, ?_⟩
    cases w with
    | ref kk =>
      rw [rel_refE] at q2
      obtain ⟨a, rfl, hR⟩ := q2
      unfold bnd at run1
      cases e3 : st1[kk]? with
      | none => simp only [e3] at run1; exact run1.elim
      | some o =>
        cases o with
        | lst _ => simp only [e3] at run1; exact run1.elim
        | ins cl fs =>
          simp only [e3] at run1
          by_cases hz : fs.length < 900
          · simp only [hz, if_true] at run1
            obtain ⟨dx, xs, h1, h2, ⟨t, h3⟩, h4⟩ := rel1.st.so kk a _ hR e3
            obtain ⟨f3, fl3, b3⟩ := t
            obtain ⟨cc, na⟩ := hX.defs.clsOk _ _ _ _ h3
            have lz : (((fs.map (·.1)).map G.fld).zip xs).length < 1000 := by
              rw [List.length_zip, List.length_map, List.length_map]; omega
            refine ⟨a, _, dx, _, rfl, h1, by rw [hX.K]; exact cc, by rw [hX.K]; exact na f k hf, lz, ?_⟩
            obtain ⟨xs', g1, g2, g3⟩ := putF_rel k hv h2 h4
            rw [ef] at g1
            rw [g1]
            have sn := seen_upd (o' := .ins (G.cls cl) dx ((((Py.putF k v fs).map (·.1)).map G.fld).zip xs')) h1 trivial (rel1.st.dis a (List.mem_of_getElem? hR))
            exact run1 σ _ S1 R1 (rel1.put hR trivial ⟨dx, xs', upd_same, g2, ⟨_, h3⟩, RelL.chg sn _ g3⟩)
          · simp only [hz, if_false] at run1; exact run1.elim
    | _ => exact run1.elim
/-! ### a, b = x, y -/
theorem asgTs_nm2 {i j : Nat} {v w : EV} {ρ' : Env} (h : asgTs [.nm i, .nm j] [v, w] ρ = some ρ') : i < ρ.length ∧ j < ρ.length ∧ ρ' = (ρ.set i (.sh v)).set j (.sh w) := by
  unfold asgTs asgT at h
  by_cases hi : i < ρ.length
  · rw [if_pos hi] at h
    simp only [asgTs, asgT, List.length_set] at h
    by_cases hj : j < ρ.length
    · rw [if_pos hj] at h
      cases h
      exact ⟨hi, hj, rfl⟩
    · rw [if_neg hj] at h; cases h
  · rw [if_neg hi] at h; cases h
theorem ss_par2 (hX : CxOk X G c ar d m m1 Wx) {i j : Nat} {y z : Str} {a b : Expr} {px py pt pos : Pos} {kt k2 : Nat} {pt2 : Pos} {xs : List E} (hi : X.N[i]? = some y) (hj : X.N[j]? = some z) (hij : i ≠ j) (hy : X.env.scope.names.lookup y = some .local) (hz : X.env.scope.names.lookup z = some .local)
    (ha : PA X [a, b] (rEs G m m1 Wx xs)) (hw : swappedStores [.Tuple [.Name y px, .Name z py] kt pt] (.Tuple [a, b] k2 pt2) X.env = pure (some [y, z])) : PS X (.Assign [.Tuple [.Name y px, .Name z py] kt pt] (.Tuple [a, b] k2 pt2) pos) (rS G m m1 Wx W (.par [i, j] xs)) := by
  refine ps_w (ps_par hX.calm hX.nd hi hj hij hy hz ha hw rfl) fun D σ H ⟨en, ρ, tm, st, S, R, rel, run⟩ => ?_
  have run : RunS G en tm Wx (bnd (evEs G.tab m m1 ρ xs) (fun vs => bnd (ofO (asgTs [.nm i, .nm j] vs ρ)) fun ρ' => ret (.nx, ρ')) st) D := run
  refine ⟨en, ρ, tm, st, S, R, rel, (runS_bnd run).mono fun ys H1 ⟨vs, st1, S1, R1, rel1, _, hv, run1⟩ => ?_⟩
  obtain ⟨ρ', e1, run2⟩ := runS_ofO run1
  match vs, e1, hv with
  | [], e1, _ => cases e1
  | [_], e1, _ =>
    unfold asgTs at e1
    split at e1
    · cases e1
    · cases e1
  | _ :: _ :: _ :: _, e1, _ =>
    unfold asgTs at e1
    split at e1
    · unfold asgTs at e1
      split at e1
      · cases e1
      · cases e1
    · cases e1
  | [v, w], e1, hv =>
    unfold RelL at hv
    obtain ⟨x1, r1, rfl, h1, hv⟩ := hv
    obtain ⟨x2, rfl, h2⟩ := relL1 hv
    obtain ⟨k1, k2, rfl⟩ := asgTs_nm2 e1
    exact ⟨x1, x2, rfl, run2 _ H1 S1 R1 ((rel1.setsh k1 h1).setsh (by rw [List.length_set]; exact k2) h2)⟩
/-! ### name = [.. for ..] on one line -/
theorem asgn_w {i : Nat} {x : E} {e : TE} (he : ∀ σ H Q, rE G m m1 Wx x σ H Q → e σ H Q) : ∀ D σ H, rS G m m1 Wx W (.asg (.nm i) x) D σ H → tAsg e (gName i) D σ H := fun D σ H ⟨en, ρ, tm, st, S, R, rel, run⟩ => by
  have run : RunS G en tm Wx (bnd (evE G.tab m m1 ρ x) (fun v => bnd (ofO (asgT (.nm i) v ρ)) fun ρ' => ret (.nx, ρ')) st) D := run
  refine he _ _ _ ⟨en, ρ, tm, st, S, R, rel, (runS_bnd run).mono fun y H1 ⟨v, st1, S1, R1, rel1, _, hv, run1⟩ => ?_⟩
  obtain ⟨ρ', e1, run2⟩ := runS_ofO run1
  unfold asgT at e1
  split at e1
  · rename_i hi
    cases e1
    exact run2 _ H1 S1 R1 (rel1.setsh hi hv)
  · cases e1
theorem ss_lc (hX : CxOk X G c ar d m m1 Wx) {tg iter elt : Expr} {ifs : List Expr} {scope : Scope} {own : List (Str × Nat)} {pos spos : Pos} {t : Tgt} {it : It} {xifs : List Te} {xe : E} {i : Nat} {y : Str} {py : Pos} (hN : X.N[i]? = some y) (hy : X.env.scope.names.lookup y = some .local) (hsw : swapsWith (.ListComp elt [⟨tg, iter, ifs, 0⟩] scope pos) (some (.Name y py)) spos.line X.env = pure true) (hi : PI X tg iter (rI G m m1 Wx it)) (ok : BlkOk X.N X.env.scope scope own)
    (hg : ∀ (s : Shared) (H : Hp) (C : Addr) (cl : List (Str × Addr)) (fp : List Addr), PG (X.blk s H scope (compEnvC scope cl C X.env) fp) tg (rG G t))
    (ht : ∀ (s : Shared) (H : Hp) (C : Addr) (cl : List (Str × Addr)) (fp : List Addr), PTs (X.blk s H scope (compEnvC scope cl C X.env) fp) ifs (rAll G m m1 W0 xifs))
    (he : ∀ (s : Shared) (H : Hp) (C : Addr) (cl : List (Str × Addr)) (fp : List Addr), PE (X.blk s H scope (compEnvC scope cl C X.env) fp) elt (rE G m m1 W0 xe)) (hs : ∀ x, foldedSetIterable iter X.env x = pure x) (hin : tgIn (own.map (·.2)) t = true) :
    PS X (.Assign [.Name y py] (.ListComp elt [⟨tg, iter, ifs, 0⟩] scope pos) spos) (rS G m m1 Wx W (.asg (.nm i) (.comp (own.map (·.2)) t it xifs xe))) ∧ PS X (.Assign [.Name y py] (.ListComp elt [⟨tg, iter, ifs, 0⟩] scope pos) spos) (rS G m m1 Wx W (.own i (.comp (own.map (·.2)) t it xifs xe))) := by
  have key := ps_setLc hX.calm hX.nd hN hy hsw hi ok hg ht he hs
  exact ⟨ps_w key (asgn_w fun σ H Q h => lc_reads hin σ H Q (e_n σ H Q h)), ps_w key (own_w (lc_reads hin))⟩
end
end Py
end
section
/-! PyCS: what the compiler prints is what the text does. -/
namespace Py
open PySem PySem.Spec PyProof.Rows L2
structure Cxt (X : Cx) (G : Wd) (F : FC) (ar : Nat → Nat) (d : Nat) (m m1 : Nat → List EV → M EV) (Wx : WX) (sc : Scope) : Prop where
  ok : CxOk X G F.c ar d m m1 Wx
  N : X.N = F.N
  sc : X.env.scope = sc
structure OkN (x : Str) : Prop where
  db : (x == ("__debug__" : Str)) = false
  cd : (x == ("__classdict__" : Str)) = false
  nm : x ≠ ("__name__" : Str)
theorem okName_of {x : Str} (h : okName x = true) : OkN x := by
  unfold okName at h
  simp only [Bool.and_eq_true, decide_eq_true_eq] at h
  exact ⟨beq_eq_false_iff_ne.mpr h.1.1, beq_eq_false_iff_ne.mpr h.1.2, h.2⟩
section
variable {X : Cx} {G : Wd} {F : FC} {ar : Nat → Nat} {d : Nat} {m m1 : Nat → List EV → M EV} {Wx : WX} {sc : Scope}
theorem slotOf_ok {N : List Str} {x : Str} {i : Nat} (h : slotOf N sc x = some i) : N[i]? = some x ∧ Vis sc x := by
  unfold slotOf at h
  have ix : ∀ {i}, N.idxOf? x = some i → N[i]? = some x := fun {i} h => by
    rw [List.idxOf?_eq_some_iff] at h
    obtain ⟨hi, e, _⟩ := h
    rw [List.getElem?_eq_getElem hi, e]
  split at h
  · rename_i e; exact ⟨ix h, .inl e⟩
  · rename_i e; exact ⟨ix h, .inr (.inl e)⟩
  · rename_i e; exact ⟨ix h, .inr (.inr e)⟩
  · cases h
theorem Cxt.slot (C : Cxt X G F ar d m m1 Wx sc) {x : Str} {i : Nat} (h : slotOf F.N sc x = some i) : X.N[i]? = some x ∧ Vis X.env.scope x := by
  obtain ⟨h1, h2⟩ := slotOf_ok h
  exact ⟨by rw [C.N]; exact h1, by rw [C.sc]; exact h2⟩
theorem Cxt.slotL (C : Cxt X G F ar d m m1 Wx sc) {x : Str} {i : Nat} (h : Py.slotL F.N sc x = some i) : X.N[i]? = some x ∧ Loc X.env.scope x ∧ Vis X.env.scope x := by
  obtain ⟨h1, h2⟩ := slotL_ok h
  exact ⟨by rw [C.N]; exact h1, by rw [C.sc]; exact h2, by rw [C.sc]; rcases h2 with q | q; exact .inl q; exact .inr (.inl q)⟩
theorem Cxt.glo (C : Cxt X G F ar d m m1 Wx sc) {x : Str} {g : Gn} (h : gloOf F.c sc x = some g) : Gl X x ∧ F.c.glo.lookup x = some g ∧ OkN x := by
  unfold gloOf at h
  split at h
  · rename_i e
    split at h
    · rename_i ho
      refine ⟨?_, h, okName_of ho⟩
      show X.env.scope.names.lookup x = _
      rw [C.sc]; exact e
    · cases h
  · cases h
theorem s_nameE (C : Cxt X G F ar d m m1 Wx sc) {x : Str} {p : Pos} : PE X (.Name x p) (rE G m m1 Wx (nameE F sc x)) := by
  unfold nameE
  split
  · rename_i ho
    have o := okName_of ho
    split
    · rename_i i e
      obtain ⟨h1, h2⟩ := C.slot e
      exact s_var h1 h2 o.db o.cd
    · split
      · rename_i v e
        obtain ⟨h1, h2, _⟩ := C.glo e
        obtain ⟨u, y, h3, h4, h5⟩ := C.ok.defs.val x v h2
        exact s_lit (pe_glob h1 h3 h4 o.db) h5
      · exact s_bad
  · exact s_bad
theorem ownS_ok (C : Cxt X G F ar d m m1 Wx sc) {e : Expr} {k : Nat} (h : ownS F sc e = some k) : ∃ x p, e = .Name x p ∧ X.N[k]? = some x ∧ Vis X.env.scope x ∧ OkN x := by
  unfold ownS at h
  split at h
  · rename_i x p
    split at h
    · rename_i ho
      split at h
      · rename_i i e
        split at h
        · cases h
          obtain ⟨h1, h2⟩ := C.slot e
          exact ⟨x, p, rfl, h1, h2, okName_of ho⟩
        · cases h
      · cases h
    · cases h
  · cases h
theorem isNone_ok {e : Expr} (h : isNone e = true) : ∃ j p, e = .Constant .none j p := by
  unfold isNone at h
  split at h
  · exact ⟨_, _, rfl⟩
  · cases h
theorem s_cmp1 (C : Cxt X G F ar d m m1 Wx sc) {a b : Expr} {o : CmpOp} {x y : E} {p : Pos} (ha : PE X a (rE G m m1 Wx x)) (hb : PE X b (rE G m m1 Wx y)) : PE X (.Compare a [o] [b] p) (rE G m m1 Wx (cmp1 o b x y)) ∧ PT X (.Compare a [o] [b] p) (rT G m m1 Wx (.val (cmp1 o b x y))) := by
  have bad : PE X (.Compare a [o] [b] p) (rE G m m1 Wx .bad) ∧ PT X (.Compare a [o] [b] p) (rT G m m1 Wx (.val .bad)) := ⟨s_bad, ⟨fun pins s σ H Q I ⟨_, _, _, _, _, _, _, q⟩ => q.elim⟩⟩
  unfold cmp1
  split
  · exact bad
  · rename_i hs
    have hs : isSet b = false := by simpa using hs
    split
    · rename_i e
      split
      · rename_i hn
        obtain ⟨j, q, rfl⟩ := isNone_ok hn
        have : o = .Is := by cases o <;> cases e <;> rfl
        subst this
        exact ⟨s_is C.ok false ha, s_isT C.ok false ha⟩
      · exact bad
    · rename_i e
      split
      · rename_i hn
        obtain ⟨j, q, rfl⟩ := isNone_ok hn
        have : o = .IsNot := by cases o <;> cases e <;> rfl
        subst this
        exact ⟨s_is C.ok true ha, s_isT C.ok true ha⟩
      · exact bad
    · rename_i op n1 n2 e
      have h1 : o ≠ .Is := by rintro rfl; cases e; exact n1 rfl
      have h2 : o ≠ .IsNot := by rintro rfl; cases e; exact n2 rfl
      exact ⟨s_cmp C.ok e h1 h2 hs ha hb, s_cmpT C.ok e h1 h2 hs ha hb⟩
    · exact bad
theorem s_cmp2 (C : Cxt X G F ar d m m1 Wx sc) {a b e : Expr} {o o' : CmpOp} {x y z : E} {p : Pos} (ha : PE X a (rE G m m1 Wx x)) (hb : PE X b (rE G m m1 Wx y)) (he : PE X e (rE G m m1 Wx z)) : PE X (.Compare a [o, o'] [b, e] p) (rE G m m1 Wx (cmp2 o o' b e x y z)) ∧ PT X (.Compare a [o, o'] [b, e] p) (rT G m m1 Wx (.val (cmp2 o o' b e x y z))) := by
  have bad : PE X (.Compare a [o, o'] [b, e] p) (rE G m m1 Wx .bad) ∧ PT X (.Compare a [o, o'] [b, e] p) (rT G m m1 Wx (.val .bad)) := ⟨s_bad, ⟨fun pins s σ H Q I ⟨_, _, _, _, _, _, _, q⟩ => q.elim⟩⟩
  unfold cmp2
  split
  · exact bad
  · rename_i hs
    have hs : (isSet b || isSet e || isIs o || isIs o') = false := by simpa using hs
    simp only [Bool.or_eq_false_iff] at hs
    obtain ⟨⟨⟨h1, h2⟩, h3⟩, h4⟩ := hs
    have n : ∀ {o : CmpOp}, isIs o = false → o ≠ .Is ∧ o ≠ .IsNot := fun {o} h => ⟨(by rintro rfl; cases h), (by rintro rfl; cases h)⟩
    split
    · rename_i op op' e1 e2
      exact ⟨s_chn C.ok e1 (n h3).1 (n h3).2 e2 (n h4).1 (n h4).2 h1 h2 ha hb he, s_chnT C.ok e1 (n h3).1 (n h3).2 e2 (n h4).1 (n h4).2 h1 h2 ha hb he⟩
    · exact bad
theorem s_callG (C : Cxt X G F ar d m m1 Wx sc) {x : Str} {a : Expr} {r : List Expr} {xs : List E} {p pos : Pos} (hs : (a :: r).any isStar = false) (ha : PA X (a :: r) (rEs G m m1 Wx xs)) : PE X (.Call (.Name x p) (a :: r) [] pos) (rE G m m1 Wx (callG (gloOf F.c sc x) xs)) := by
  unfold callG
  split
  · rename_i f e
    obtain ⟨h1, h2, o⟩ := C.glo e
    exact s_call C.ok h2 h1 o.db hs ha
  · rename_i k e
    obtain ⟨h1, h2, o⟩ := C.glo e
    exact s_mk C.ok h2 h1 o.db hs ha
  · rename_i b e
    obtain ⟨h1, h2, o⟩ := C.glo e
    exact s_callbi C.ok h2 h1 hs ha
  · exact s_bad
end
/-- the compiler at the depth n -/
structure Snd (G : Wd) (F : FC) (ar : Nat → Nat) (d : Nat) (m m1 : Nat → List EV → M EV) (n : Nat) : Prop where
  e : ∀ {X : Cx} {Wx : WX} {sc : Scope}, Cxt X G F ar d m m1 Wx sc → ∀ e, PE X e (rE G m m1 Wx (cE F sc n e))
  nw : ∀ {X : Cx} {Wx : WX} {sc : Scope}, Cxt X G F ar d m m1 Wx sc → ∀ e x, cN F sc n e = some x → PE X e (rN G m m1 Wx x)
  t : ∀ {X : Cx} {Wx : WX} {sc : Scope}, Cxt X G F ar d m m1 Wx sc → ∀ e, PT X e (rT G m m1 Wx (cTe F sc n e))
  i : ∀ {X : Cx} {Wx : WX} {sc : Scope}, Cxt X G F ar d m m1 Wx sc → ∀ b tg e, PI X tg e (rI G m m1 Wx (cI F b sc n tg e))
  lc : ∀ {X : Cx} {Wx : WX} {sc : Scope}, Cxt X G F ar d m m1 Wx sc → ∀ e gs scope p x, cN F sc n (.ListComp e gs scope p) = some x → ∀ (W i : Nat) (y : Str) (py spos : Pos), X.N[i]? = some y → X.env.scope.names.lookup y = some .local → swapsWith (.ListComp e gs scope p) (some (.Name y py)) spos.line X.env = pure true →
    PS X (.Assign [.Name y py] (.ListComp e gs scope p) spos) (rS G m m1 Wx W (.asg (.nm i) x)) ∧ PS X (.Assign [.Name y py] (.ListComp e gs scope p) spos) (rS G m m1 Wx W (.own i x))
section
variable {X : Cx} {G : Wd} {F : FC} {ar : Nat → Nat} {d : Nat} {m m1 : Nat → List EV → M EV} {Wx : WX} {sc : Scope} {n : Nat}
theorem Snd.es (I : Snd G F ar d m m1 n) (C : Cxt X G F ar d m m1 Wx sc) : ∀ {es : List Expr}, es.any isStar = false → PA X es (rEs G m m1 Wx (es.map (cE F sc n)))
  | [], _ => s_nil
  | e :: es, h => by
    rw [List.any_cons, Bool.or_eq_false_iff] at h
    exact s_cons h.1 (I.e C e) (I.es C h.2)
theorem Snd.and (I : Snd G F ar d m m1 n) (C : Cxt X G F ar d m m1 Wx sc) {p : Pos} : ∀ {es : List Expr} {a : Expr}, PE X (.BoolOp .And (a :: es) p) (Rdg G Wx (fun ρ => evAnd G.tab m m1 ρ (cE F sc n a :: es.map (cE F sc n))) (RAe G))
  | [], a => pe_one (I.e C a)
  | b :: es, a => s_and (I.e C a) (I.and C)
theorem Snd.or (I : Snd G F ar d m m1 n) (C : Cxt X G F ar d m m1 Wx sc) {p : Pos} : ∀ {es : List Expr} {a : Expr}, PE X (.BoolOp .Or (a :: es) p) (Rdg G Wx (fun ρ => evOr G.tab m m1 ρ (cE F sc n a :: es.map (cE F sc n))) (RAe G))
  | [], a => pe_one (I.e C a)
  | b :: es, a => s_or (I.e C a) (I.or C)
theorem Snd.all (I : Snd G F ar d m m1 n) (C : Cxt X G F ar d m m1 Wx sc) {p : Pos} : ∀ {es : List Expr} {a : Expr}, PW X (.BoolOp .And (a :: es) p) (rAll G m m1 Wx (cTe F sc n a :: es.map (cTe F sc n)))
  | [], a => s_all1 (I.t C a)
  | b :: es, a => s_all (I.t C a) (I.all C)
theorem Snd.any (I : Snd G F ar d m m1 n) (C : Cxt X G F ar d m m1 Wx sc) {p : Pos} : ∀ {es : List Expr} {a : Expr}, PW X (.BoolOp .Or (a :: es) p) (rAny G m m1 Wx (cTe F sc n a :: es.map (cTe F sc n)))
  | [], a => s_any1 (I.t C a)
  | b :: es, a => s_any (I.t C a) (I.any C)
theorem Snd.pts (I : Snd G F ar d m m1 n) (C : Cxt X G F ar d m m1 Wx sc) {ifs : List Expr} (h : ifs.length ≤ 1) : PTs X ifs (rAll G m m1 Wx (ifs.map (cTe F sc n))) := by
  match ifs, h with
  | [], _ => exact pts_all0
  | [c], _ => exact pts_all1 (I.t C c)
theorem Snd.o (I : Snd G F ar d m m1 n) (C : Cxt X G F ar d m m1 Wx sc) (lo : Option Expr) : PO X lo (rO G m m1 Wx (match lo with
    | some e => .so (cE F sc n e)
    | none => .no)) := by
  cases lo with
  | none => exact s_no
  | some e => exact s_so (I.e C e)
theorem folded_of {e : Expr} (h : isSet e = false) (env : PySem.Env) (x : Value) : foldedSetIterable e env x = pure x := by
  cases e <;> first | rfl | cases h
theorem pt_bad {e : Expr} : PT X e (rT G m m1 Wx (.val .bad)) := ⟨fun pins s σ H Q I ⟨_, _, _, _, _, _, _, q⟩ => q.elim⟩
theorem pi_bad {t e : Expr} : PI X t e (rI G m m1 Wx (.seq .bad)) := ⟨fun pins s σ H Q I ⟨_, _, _, _, _, _, _, q⟩ => q.elim⟩
theorem isTup_ok {e : Expr} (h : isTup e = true) : ∃ es k p, e = .Tuple es k p := by
  unfold isTup at h
  split at h
  · exact ⟨_, _, _, rfl⟩
  · cases h
/-- a comprehension's parts -/
theorem Snd.comp (I : Snd G F ar d m m1 n) (C : Cxt X G F ar d m m1 Wx sc) {e t it : Expr} {ifs : List Expr} {scope : Scope} {p : Pos} {x : E} (h : cN F sc (n + 1) (.ListComp e [⟨t, it, ifs, 0⟩] scope p) = some x) :
    ∃ tg, x = .comp ((ownOf F.N scope).map (·.2)) tg (cI F true sc n t it) (ifs.map (cTe F (L2.relS scope sc) n)) (cE F (L2.relS scope sc) n e) ∧ BlkOk X.N X.env.scope scope (ownOf F.N scope) ∧ tgIn ((ownOf F.N scope).map (·.2)) tg = true ∧ (∀ x, foldedSetIterable it X.env x = pure x) ∧
      (∀ (s : Shared) (H : Hp) (C : Addr) (cl : List (Str × Addr)) (fp : List Addr), PG (X.blk s H scope (compEnvC scope cl C X.env) fp) t (rG G tg)) ∧
      (∀ (s : Shared) (H : Hp) (C : Addr) (cl : List (Str × Addr)) (fp : List Addr), PTs (X.blk s H scope (compEnvC scope cl C X.env) fp) ifs (rAll G m m1 W0 (ifs.map (cTe F (L2.relS scope sc) n)))) ∧
      (∀ (s : Shared) (H : Hp) (C : Addr) (cl : List (Str × Addr)) (fp : List Addr), PE (X.blk s H scope (compEnvC scope cl C X.env) fp) e (rE G m m1 W0 (cE F (L2.relS scope sc) n e))) := by
  unfold cN at h
  simp only at h
  split at h
  · cases h
  · rename_i hc
    have hc : (decide (1 < ifs.length) || isSet it || !L2.blkC F.N sc scope (ownOf F.N scope)) = false := by simpa using hc
    simp only [Bool.or_eq_false_iff, Bool.not_eq_false', decide_eq_false_iff_not] at hc
    obtain ⟨⟨h1, h2⟩, h3⟩ := hc
    split at h
    · rename_i tg e1
      split at h
      · rename_i e2
        cases h
        have C2 : ∀ (s : Shared) (H : Hp) (A : Addr) (cl : List (Str × Addr)) (fp : List Addr), Cxt (X.blk s H scope (compEnvC scope cl A X.env) fp) G F ar d m m1 W0 (L2.relS scope sc) := fun s H A cl fp => ⟨cx_blk C.ok s H scope _ fp, C.N, by rw [← C.sc]; rfl⟩
        refine ⟨tg, rfl, by rw [C.N, C.sc]; exact blkOk_by h3, e2, folded_of h2 _, fun s H A cl fp => ?_, fun s H A cl fp => I.pts (C2 s H A cl fp) (by omega), fun s H A cl fp => I.e (C2 s H A cl fp) e⟩
        have D := C2 s H A cl fp
        exact (cT_ok (G := G) false D.ok.calm D.ok.K D.ok.nd (fun z => nomatch z) (L2.relS scope sc) D.sc 50).1 t tg (by rw [D.N]; exact e1)
      · cases h
    · cases h
/-- the compiler is sound -/
theorem snd : ∀ n, Snd G F ar d m m1 n
  | 0 => by
    refine ⟨fun C e => ?_, fun C e x h => ?_, fun C e => ?_, fun C b tg e => ?_, fun C e gs scope p x h => ?_⟩
    · unfold cE; exact s_bad
    · unfold cN at h; cases h
    · unfold cTe; exact pt_bad
    · unfold cI; exact pi_bad
    · unfold cN at h; cases h
  | n + 1 => by
    have I := snd n
    refine ⟨fun {X Wx sc} C e => ?_, fun {X Wx sc} C e x h => ?_, fun {X Wx sc} C e => ?_, fun {X Wx sc} C b tg e => ?_, fun {X Wx sc} C e gs scope p x h W i y py spos hN hy hsw => ?_⟩
    · unfold cE
      split
      · exact s_nameE C
      · exact s_lit pe_int fun _ _ _ => rel_int.mpr rfl
      · exact s_lit pe_bl fun _ _ _ => rel_bl.mpr rfl
      · exact s_lit pe_non fun _ _ _ => rel_non.mpr rfl
      · exact s_lit pe_str fun _ _ _ => rel_str.mpr rfl
      · rename_i es k p
        split
        · exact s_bad
        · rename_i hc
          have hc : (es.any isStar || decide (1000 < es.length)) = false := by simpa using hc
          simp only [Bool.or_eq_false_iff, decide_eq_false_iff_not] at hc
          exact s_tup (I.es C hc.1) (by rw [List.length_map]; omega)
      · exact s_emp
      · rename_i a op b p
        split
        · rename_i o e
          exact s_bop C.ok e (I.e C a) (I.e C b)
        · exact s_bad
      · rename_i a p; exact s_neg C.ok (I.e C a)
      · rename_i a p; exact s_notv C.ok (I.e C a)
      · rename_i a op b p; exact (s_cmp1 C (I.e C a) (I.e C b)).1
      · rename_i a op op' b d p; exact (s_cmp2 C (I.e C a) (I.e C b) (I.e C d)).1
      · exact I.and C
      · exact I.or C
      · rename_i t a b p; exact s_ife (I.t C t) (I.e C a) (I.e C b)
      · rename_i a lo hi p2 p
        split
        · rename_i k e
          obtain ⟨x, q, rfl, h1, h2, o⟩ := ownS_ok C e
          exact s_slO C.ok h1 h2 o.db o.cd (I.o C lo) (I.o C hi)
        · exact s_sl C.ok (I.e C a) (I.o C lo) (I.o C hi)
      · rename_i a i p _
        split
        · exact s_bad
        · rename_i hs
          have hs : isSlice i = false := by simpa using hs
          split
          · rename_i k e
            obtain ⟨x, q, rfl, h1, h2, o⟩ := ownS_ok C e
            exact s_idxO C.ok h1 h2 o.db o.cd hs (I.e C i)
          · exact s_idx C.ok hs (I.e C a) (I.e C i)
      · rename_i a f p
        split
        · exact s_bad
        · rename_i h0
          have h0 : isCall0 a = false := by simpa using h0
          split
          · rename_i k e
            exact s_att C.ok e h0 (I.e C a)
          · exact s_bad
      · rename_i x p a r q
        split
        · exact s_bad
        · rename_i hs
          have hs : (a :: r).any isStar = false := by simpa using hs
          split
          · rename_i hi
            split
            · rename_i t e
              unfold tyE at e
              split at e
              · rename_i y q2 _
                split at e
                · rename_i ho
                  split at e
                  · rename_i e2
                    cases eg : gloOf F.c sc x with
                    | none => rw [eg] at hi; cases hi
                    | some g =>
                      rw [eg] at hi
                      cases g <;> first | cases hi | skip
                      obtain ⟨h1, h2, _⟩ := C.glo eg
                      refine s_isi C.ok h2 h1 e ?_ ?_ (I.e C a)
                      · show X.env.scope.names.lookup y = _
                        rw [C.sc]; exact e2
                      · rw [List.any_cons, Bool.or_eq_false_iff] at hs; exact hs.1
                  · cases e
                · cases e
              · cases e
            · exact s_bad
          · split
            · rename_i hl
              unfold isLen at hl
              split at hl
              · rename_i eg _
                obtain ⟨h1, h2, _⟩ := C.glo eg
                split
                · rename_i k e
                  obtain ⟨z, q2, rfl, h3, h4, o⟩ := ownS_ok C e
                  exact s_lenO C.ok h2 h1 h3 h4 o.db o.cd
                · exact s_callbi C.ok h2 h1 hs (I.es C (es := [a]) hs)
              · cases hl
            · exact s_callG C hs (I.es C (es := a :: r) hs)
      · rename_i es p
        split
        · rename_i x e; exact n_to_e (I.nw C _ x e)
        · exact s_bad
      · rename_i e gs scope p
        split
        · rename_i x h; exact n_to_e (I.nw C _ x h)
        · exact s_bad
      · exact s_bad
    · have h0 := h
      unfold cN at h
      split at h
      · rename_i es p
        split at h
        · cases h
        · rename_i hc
          have hc : (es.any isStar || decide (1000 < es.length)) = false := by simpa using hc
          simp only [Bool.or_eq_false_iff, decide_eq_false_iff_not] at hc
          cases h
          exact n_lst (I.es C hc.1) (by rw [List.length_map]; omega)
      · rename_i x2 p a q
        split at h
        · cases h
        · rename_i hs
          have hs : isStar a = false := by simpa using hs
          split at h
          · rename_i eg
            cases h
            obtain ⟨h1, h2, _⟩ := C.glo eg
            exact n_list C.ok h2 h1 (by simp [hs]) (I.es C (es := [a]) (by simp [hs]))
          · cases h
      · rename_i e t it ifs scope p
        obtain ⟨tg, rfl, h1, h2, h3, h4, h5, h6⟩ := I.comp C h0
        exact n_comp C.ok (I.i C true t it) h1 h4 h5 h6 h3 h2
      · cases h
    · unfold cTe
      split
      · rename_i a p; exact s_tnot (I.t C a)
      · exact (I.all C).pt
      · exact (I.any C).pt
      · exact pt_bad
      · rename_i a op b p; exact (s_cmp1 C (I.e C a) (I.e C b)).2
      · rename_i a op op' b d p; exact (s_cmp2 C (I.e C a) (I.e C b) (I.e C d)).2
      · exact pt_bad
      · exact pt_bad
      · rename_i n1 n2 n3 n4 n5 n6 n7 n8
        refine s_val C.ok (I.e C e) fun whole => ?_
        cases e with
        | BoolOp op l p => exact (n4 _ _ _ rfl).elim
        | Compare a l r p => exact (n7 _ _ _ _ rfl).elim
        | IfExp a b e p => exact (n8 _ _ _ _ rfl).elim
        | UnaryOp op a p => cases op <;> first | rfl | exact (n1 _ _ rfl).elim
        | _ => rfl
    · unfold cI
      split
      · rename_i x p a q
        split
        · exact pi_bad
        · rename_i hs
          have hs : isStar a = false := by simpa using hs
          split
          · rename_i eg
            obtain ⟨h1, h2, _⟩ := C.glo eg
            exact s_rng1 C.ok h2 h1 hs (I.e C a)
          · rename_i eg
            obtain ⟨h1, h2, _⟩ := C.glo eg
            split
            · rename_i ht
              obtain ⟨es, k, tp, rfl⟩ := isTup_ok ht
              exact s_enum C.ok h2 h1 hs (I.e C a)
            · exact pi_bad
          · exact s_seq C.ok (I.e C _)
      · rename_i x p a a' q
        split
        · exact pi_bad
        · rename_i hs
          have hs : (isStar a || isStar a') = false := by simpa using hs
          rw [Bool.or_eq_false_iff] at hs
          split
          · rename_i eg
            obtain ⟨h1, h2, _⟩ := C.glo eg
            exact s_rng2 C.ok h2 h1 hs.1 hs.2 (I.e C a) (I.e C a')
          · rename_i eg
            obtain ⟨h1, h2, _⟩ := C.glo eg
            split
            · rename_i ht
              obtain ⟨es, k, tp, rfl⟩ := isTup_ok ht
              exact s_zip C.ok h2 h1 hs.1 hs.2 (I.e C a) (I.e C a')
            · exact pi_bad
          · exact s_seq C.ok (I.e C _)
      · split
        · rename_i k e1
          split at e1
          · obtain ⟨x, q, rfl, h1, h2, o⟩ := ownS_ok C e1
            exact s_own C.ok h1 h2 o.db o.cd
          · cases e1
        · exact s_seq C.ok (I.e C _)
    · have h0 := h
      unfold cN at h
      split at h
      · rename_i e2; cases e2
      · rename_i e2; cases e2
      · rename_i e t it ifs scope p e2
        cases e2
        obtain ⟨tg, rfl, h1, h2, h3, h4, h5, h6⟩ := I.comp C h0
        exact ss_lc C.ok hN hy hsw (I.i C true t it) h1 h4 h5 h6 h3 h2
      · cases h
end
end Py
end
section
/-! PyCT: the compiler of statements is sound. -/
namespace Py
open PySem PySem.Spec PyProof.Rows L2
theorem sw_val {e : Expr} {gs : List Comprehension} {scope : Scope} {p py : Pos} {y : Str} {l : Nat} {env : PySem.Env} : swapsWith (.ListComp e gs scope p) (some (.Name y py)) l env = pure (env.blockKind == .function && env.kindOf y == some .local && py.line == p.line && !(scope.names.any fun (n, k) => n == y && (k == .local || k == .cell))) := rfl
theorem sw_no {e : Expr} (h : isComp e = false) (t : Option Expr) (l : Nat) (env : PySem.Env) : swapsWith e t l env = pure false := by
  cases e <;> first | rfl | cases h
theorem sole {t e : Expr} {l : Nat} {env : PySem.Env} : swapsWithSole [t] e l env = swapsWith e (some t) l env := by unfold swapsWithSole; rfl
theorem sw1 {t e : Expr} (h : isComp e = false) (l : Nat) (env : PySem.Env) : swapsWithSole [t] e l env = pure false := by rw [sole, sw_no h]
theorem ss_no {e : Expr} {y : Str} {p : Pos} {env : PySem.Env} : swappedStores [.Name y p] e env = pure none := by cases e <;> rfl
theorem st_no {e : Expr} {ts : List Expr} {k : Nat} {p : Pos} {env : PySem.Env} (h : isTup e = false) : swappedStores [.Tuple ts k p] e env = pure none := by cases e <;> first | rfl | cases h
theorem local_of {o : Option NameKind} (h : (o == some NameKind.local) = true) : o = some .local := by
  cases o with
  | none => cases h
  | some k => cases k <;> first | rfl | cases h
theorem block_fn {env : PySem.Env} (h : env.scope.kind = .function) : env.blockKind = .function := by unfold PySem.Env.blockKind; rw [h]; rfl
theorem par_val {y z : Str} {py pz p p2 : Pos} {a b : Expr} {k k2 : Nat} {env : PySem.Env} (hk : env.scope.kind = .function) (h : parOk env.scope y z py pz a b = true) : swappedStores [.Tuple [.Name y py, .Name z pz] k p] (.Tuple [a, b] k2 p2) env = pure (some [y, z]) ∧ env.scope.names.lookup y = some .local ∧ env.scope.names.lookup z = some .local := by
  unfold parOk at h
  simp only [Bool.and_eq_true, Bool.not_eq_true', decide_eq_true_eq] at h
  obtain ⟨⟨⟨⟨⟨⟨⟨h1, h2⟩, h3⟩, h4⟩, h5⟩, h6⟩, h7⟩, h8⟩ := h
  have hy : env.scope.names.lookup y = some .local := by
    split at h1
    · assumption
    · cases h1
  have hz : env.scope.names.lookup z = some .local := by
    split at h2
    · assumption
    · cases h2
  refine ⟨?_, hy, hz⟩
  have ky : env.kindOf y = some .local := hy
  have kz : env.kindOf z = some .local := hz
  have star : ∀ e : Expr, isStar e = false → (match e with | .Starred .. => true | _ => false) = false := fun e h => by cases e <;> first | rfl | cases h
  have hs : ([a, b].any fun | .Starred .. => true | _ => false) = false := by
    rw [List.any_cons, List.any_cons, List.any_nil, Bool.or_false, Bool.or_eq_false_iff]
    exact ⟨star a h4, star b h5⟩
  have nm : ([Expr.Name y py, Expr.Name z pz].filterMap fun
    | .Name id pos => if (env.kindOf id == some .local && pos.line == py.line) = true then some id else none
    | _ => none) = [y, z] := by
    simp only [List.filterMap_cons, ky, kz, h3, List.filterMap_nil]
    simp
  have ed : ([y, z].eraseDups).length = 2 := by
    have : (z == y) = false := by rw [beq_eq_false_iff_ne]; exact fun q => h6 q.symm
    simp [List.eraseDups_cons, this]
  have bk := block_fn hk
  unfold swappedStores
  simp only [pure_bind, bk]
  refine (if_neg (by simp)).trans ?_
  refine (if_neg fun q => Bool.noConfusion (hs.symm.trans q)).trans ?_
  refine (if_neg fun q => ?_).trans ?_
  · have q : (([y, z].length != 2) || ([y, z].eraseDups.length != [y, z].length)) = true := by
      rw [← nm]; exact q
    rw [ed] at q
    exact absurd q (by simp)
  refine (if_neg (by rw [h7]; decide)).trans ?_
  refine (if_neg (by rw [h8]; decide)).trans ?_
  exact congrArg (fun l => (pure (some l) : Sem (Option (List Str)))) nm
section
variable {X : Cx} {G : Wd} {F : FC} {ar : Nat → Nat} {d : Nat} {m m1 : Nat → List EV → M EV} {Wx : WX} {sc : Scope} {W : Nat}
theorem ss_fzS {s : Stmt} {x : S} (ks : List Nat) (h : PS X s (rS G m m1 Wx W x)) : PS X s (rS G m m1 Wx W (fzS ks x)) := by
  unfold fzS
  split
  · exact h
  · exact ss_fz _ h
theorem stoS_ok (C : Cxt X G F ar d m m1 Wx sc) {x : Str} {i : Nat} (h : stoS F sc x = some i) : X.N[i]? = some x ∧ Loc X.env.scope x ∧ Vis X.env.scope x ∧ OkN x := by
  unfold stoS at h
  split at h
  · rename_i ho
    obtain ⟨h1, h2, h3⟩ := C.slotL h
    exact ⟨h1, h2, h3, okName_of ho⟩
  · cases h
theorem muOf_ok {nm : Str} {mu : Mu} (h : muOf nm = some mu) : mu ≠ .pop ∧ nm = Str.ofString (muName mu) := by
  unfold muOf at h
  split at h
  · rename_i e; cases h; exact ⟨(fun z => nomatch z), e⟩
  · split at h
    · rename_i e; cases h; exact ⟨(fun z => nomatch z), e⟩
    · split at h
      · rename_i e; cases h; exact ⟨(fun z => nomatch z), e⟩
      · cases h
theorem sss (I : ∀ s, PS X s (rS G m m1 Wx W (cS F sc n s))) : ∀ l : List Stmt, PSs X l (rSs G m m1 Wx W (l.map (cS F sc n)))
  | [] => ss_nil
  | s :: r => ss_cons (I s) (sss I r)
theorem Cxt.par (C : Cxt X G F ar d m m1 Wx sc) {y z : Str} {py pz p p2 : Pos} {a b : Expr} {k k2 : Nat} (hk : sc.kind = .function) (h : parOk sc y z py pz a b = true) : swappedStores [.Tuple [.Name y py, .Name z pz] k p] (.Tuple [a, b] k2 p2) X.env = pure (some [y, z]) ∧ X.env.scope.names.lookup y = some .local ∧ X.env.scope.names.lookup z = some .local :=
  par_val (by rw [C.sc]; exact hk) (by rw [C.sc]; exact h)
/-- the compiler of statements is sound -/
theorem ssnd (C : Cxt X G F ar d m m1 Wx sc) (hf : ∀ x, X.fn x = true) (hk : sc.kind = .function) : ∀ n s, PS X s (rS G m m1 Wx W (cS F sc n s))
  | 0, s => by unfold cS; exact ss_bad
  | n + 1, s => by
    have I := snd (G := G) (F := F) (ar := ar) (d := d) (m := m) (m1 := m1) n
    have IS := ssnd C hf hk n
    unfold cS
    split
    · exact ss_pass
    · exact ss_brk
    · exact ss_cnt
    · exact ss_retN
    · rename_i e p
      split
      · rename_i x h
        split at h
        · exact ss_fzS _ (ss_ret (n_to_sto (I.nw C _ x h)))
        · cases h
      · exact ss_fzS _ (ss_ret (I.e C e))
    · rename_i x p nm ap a r cp q
      split
      · rename_i i mu h1 h2
        split
        · exact ss_bad
        · rename_i hc
          have hc : (isStar a || r.any isStar || decide (1 < r.length) || !(ap.endLine == cp.line)) = false := by simpa using hc
          simp only [Bool.or_eq_false_iff, Bool.not_eq_false', decide_eq_false_iff_not] at hc
          obtain ⟨⟨⟨c1, c2⟩, c3⟩, c4⟩ := hc
          obtain ⟨k1, k2, k3, o⟩ := stoS_ok C h1
          obtain ⟨e1, rfl⟩ := muOf_ok h2
          refine ss_fzS _ (ss_mut e1 k1 k3 o.db o.cd c4 (I.es C (es := a :: r) (by simp [c1, c2])) c1 ?_)
          match r, c2, c3 with
          | [], _, _ => exact .inl rfl
          | [b], c2, _ => exact .inr ⟨b, rfl, by simpa using c2⟩
          | _ :: _ :: _, _, c3 => exact absurd (by simp) c3
      · exact ss_bad
    · rename_i e p _
      split
      · exact ss_bad
      · rename_i hc
        exact ss_fzS _ (ss_expr (I.e C e) (sw_no (by simpa using hc) _ _ _))
    · rename_i t a b p
      exact ss_fzS _ (ss_if (I.t C t) (sss IS a) (sss IS b))
    · rename_i t b p
      exact ss_whl C.ok (I.t C t) (sss IS b)
    · rename_i t it b p
      split
      · exact ss_bad
      · rename_i hs
        split
        · rename_i tg e
          exact ss_fzS _ (ss_fr C.ok (I.i C false t it) ((cT_ok (G := G) true C.ok.calm C.ok.K C.ok.nd (fun _ => hf) sc C.sc 50).1 t tg (by rw [C.N]; exact e)) (sss IS b) (folded_of (by simpa using hs) _))
        · exact ss_bad
    · rename_i y py e p
      split
      · rename_i i hi
        obtain ⟨k1, k2, k3⟩ := C.slotL hi
        split
        · split
          · rename_i x h
            refine ss_fzS _ ?_
            cases hc : isComp e with
            | false => exact ss_own C.ok.nd k1 k2 (.inl (hf y)) (I.nw C _ x h) (sw_no hc _ _ _)
            | true =>
              cases e with
              | ListComp e gs scope q =>
                cases hb : (X.env.blockKind == .function && X.env.kindOf y == some .local && py.line == q.line && !(scope.names.any fun (n, k) => n == y && (k == .local || k == .cell))) with
                | false => exact ss_own C.ok.nd k1 k2 (.inl (hf y)) (I.nw C _ x h) (by rw [sw_val, hb])
                | true =>
                  have hb' := hb
                  simp only [Bool.and_eq_true] at hb'
                  exact (I.lc C e gs scope q x h W i y py p k1 (local_of hb'.1.1.2) (by rw [sw_val, hb])).2
              | SetComp a b c e => exfalso; revert h; cases n <;> (unfold cN; intro h; cases h)
              | DictComp a b c e f => exfalso; revert h; cases n <;> (unfold cN; intro h; cases h)
              | _ => cases hc
          · refine ss_fzS _ ?_
            split
            · exact ss_bad
            · rename_i hc
              exact ss_asg (I.e C e) (g_name C.ok.nd k1 k2 (.inl (hf y))) (sw1 (by simpa using hc) _ _) ss_no rfl
        · split
          · rename_i e gs scope q
            split
            · rename_i x h
              refine ss_fzS _ ?_
              cases hb : (X.env.blockKind == .function && X.env.kindOf y == some .local && py.line == q.line && !(scope.names.any fun (n, k) => n == y && (k == .local || k == .cell))) with
              | false => exact ss_asg (n_to_e (I.nw C _ x h)) (g_name C.ok.nd k1 k2 (.inl (hf y))) (by rw [sole, sw_val, hb]) ss_no rfl
              | true =>
                have hb' := hb
                simp only [Bool.and_eq_true] at hb'
                exact (I.lc C e gs scope q x h W i y py p k1 (local_of hb'.1.1.2) (by rw [sw_val, hb])).1
            · exact ss_bad
          · split
            · exact ss_bad
            · rename_i hc
              exact ss_fzS _ (ss_asg (I.e C e) (g_name C.ok.nd k1 k2 (.inl (hf y))) (sw1 (by simpa using hc) _ _) ss_no rfl)
      · exact ss_bad
    · rename_i y py z pz k p a b k2 p2 q
      split
      · rename_i i j h1 h2
        split
        · rename_i hp
          rw [Bool.and_eq_true, decide_eq_true_eq] at hp
          obtain ⟨s1, s2, s3⟩ := C.par (p := p) (p2 := p2) (k := k) (k2 := k2) hk hp.1
          have st : [a, b].any isStar = false := by
            have := hp.1
            unfold parOk at this
            simp only [Bool.and_eq_true, Bool.not_eq_true'] at this
            simp [this.1.1.1.2, this.1.1.1.1.2]
          exact ss_fzS _ (ss_par2 C.ok (C.slotL h1).1 (C.slotL h2).1 hp.2 s2 s3 (I.es C (es := [a, b]) st) s1)
        · exact ss_bad
      · exact ss_bad
    · rename_i ts k p e q _
      split
      · exact ss_bad
      · rename_i hc
        have hc : (isTup e || isComp e) = false := by simpa using hc
        rw [Bool.or_eq_false_iff] at hc
        split
        · rename_i tg h
          exact ss_fzS _ (ss_asg (I.e C e) ((cT_ok (G := G) true C.ok.calm C.ok.K C.ok.nd (fun _ => hf) sc C.sc 50).1 _ tg (by rw [C.N]; exact h)) (sw1 hc.2 _ _) (st_no hc.1) rfl)
        · exact ss_bad
    · rename_i y p ix p2 e q
      split
      · exact ss_bad
      · rename_i hc
        have hc : (isSlice ix || isComp e) = false := by simpa using hc
        rw [Bool.or_eq_false_iff] at hc
        split
        · rename_i i h
          obtain ⟨k1, k2, k3, o⟩ := stoS_ok C h
          exact ss_fzS _ (ss_setix k1 k3 o.db o.cd (I.e C e) (I.e C ix) hc.1 (sw_no hc.2 _ _ _))
        · exact ss_bad
    · rename_i y p f p2 e q
      split
      · exact ss_bad
      · rename_i hc
        split
        · rename_i i k h1 h2
          obtain ⟨k1, k2, k3, o⟩ := stoS_ok C h1
          exact ss_fzS _ (ss_setat C.ok h2 k1 k3 o.db o.cd (I.e C e) (sw_no (by simpa using hc) _ _ _))
        · exact ss_bad
    · rename_i y p op e q
      split
      · rename_i o ho
        split
        · rename_i i hi
          split
          · exact ss_bad
          · rename_i hp
            obtain ⟨k1, k2, k3⟩ := C.slotL hi
            exact ss_fzS _ (ss_aug C.ok C.ok.nd ho (by rintro rfl; exact hp rfl) k1 k2 (.inl (hf y)) (I.e C e))
        · exact ss_bad
      · exact ss_bad
    · exact ss_bad
end
end Py
end
section
/-! PyProg: all defs of a program keep what the evaluator says. -/
namespace Py
open PySem PySem.Spec PyProof.Rows L2
theorem lookup_zip {α : Type} : ∀ {ps : List Str} {us : List α}, ps.Nodup → us.length = ps.length → (ps.filterMap fun n => ((ps.zip us).lookup n).map (n, ·)) = ps.zip us ∧ (ps.filter fun n => ((ps.zip us).lookup n).isNone) = []
  | [], _, _, _ => by simp
  | p :: ps, [], _, h => by cases h
  | p :: ps, u :: us, nd, h => by
    obtain ⟨n1, n2⟩ := List.nodup_cons.mp nd
    obtain ⟨h1, h2⟩ := lookup_zip (us := us) n2 (by simpa using h)
    have ne : ∀ n ∈ ps, (n == p) = false := fun n hn => by
      rw [beq_eq_false_iff_ne]
      rintro rfl
      exact n1 hn
    have lk : ∀ n ∈ ps, ((p :: ps).zip (u :: us)).lookup n = (ps.zip us).lookup n := fun n hn => by
      rw [List.zip_cons_cons, List.lookup_cons, ne n hn]
    constructor
    · rw [List.filterMap_cons]
      have e0 : ((p :: ps).zip (u :: us)).lookup p = some u := by simp [List.lookup_cons]
      rw [e0]
      simp only [Option.map_some]
      rw [List.zip_cons_cons]
      congr 1
      rw [← List.zip_cons_cons]
      refine Eq.trans ?_ h1
      have : ∀ (l : List Str), (∀ n ∈ l, n ∈ ps) → l.filterMap (fun n => (((p :: ps).zip (u :: us)).lookup n).map (n, ·)) = l.filterMap (fun n => ((ps.zip us).lookup n).map (n, ·)) := by
        intro l
        induction l with
        | nil => intro _; rfl
        | cons n l ih =>
          intro hl
          rw [List.filterMap_cons, List.filterMap_cons, lk n (hl n List.mem_cons_self), ih fun m hm => hl m (List.mem_cons_of_mem _ hm)]
      exact this ps fun _ h => h
    · rw [List.filter_cons]
      have e0 : ((p :: ps).zip (u :: us)).lookup p = some u := by simp [List.lookup_cons]
      rw [e0]
      simp only [Option.isNone_some, Bool.false_eq_true, if_false]
      rw [← h2]
      apply List.filter_congr
      intro n hn
      rw [lk n hn]
theorem bind_plain {fd : FuncData} {as : List Arg} {us : List Value} (h1 : fd.params.posonlyargs = []) (h2 : fd.params.args = as) (h3 : fd.params.vararg = none) (h4 : fd.params.kwonlyargs = []) (h5 : fd.params.kwarg = none) (hd : fd.defaults = .none) (nd : (as.map (·.arg)).Nodup) (hl : us.length = as.length) :
    bindArgs fd ⟨us, []⟩ = pure ((as.map (·.arg)).zip us) := by
  obtain ⟨k1, k2⟩ := lookup_zip (ps := as.map (·.arg)) (us := us) nd (by rw [List.length_map, hl])
  unfold bindArgs
  have hs : seqItems? Value.none = pure none := rfl
  simp only [h1, h2, h3, h4, h5, hd, hs, List.map_nil, List.nil_append, pure_bind, Option.getD_none, List.append_nil, List.forIn_nil, Option.isSome_none, List.drop_nil, List.length_nil, Nat.sub_zero]
  rw [if_neg (by simp [hl])]
  simp only [List.take_length, k2, List.isEmpty_nil, Bool.not_true, Bool.false_eq_true, if_false, List.drop_length, List.zip_nil_left, List.zip_nil_right, List.forIn_nil, pure_bind, k1]

/-- a def of a program: its names and lists, its parameters, its text, what the compiler prints of it -/
structure DI where
  N : List Str
  mu : List Nat
  rst : Bool
  ps : List Str
  dd : He.DefD
  ir : List S
def DI.F (I : DI) (c : CT) : FC := ⟨c, I.N, I.mu, I.rst⟩
def funOf (I : DI) : Fun := ⟨I.ps.length, I.N.length, I.ir⟩
/-- the program: its own defs, and others that it never calls -/
def progOf (tab : Tab) (ex : Nat → Option Fun) (di : Nat → Option DI) (W : Nat) : Prog := ⟨tab, fun f => match di f with
  | some I => some (funOf I)
  | none => ex f, W⟩
def arOf (ex : Nat → Option Fun) (di : Nat → Option DI) (f : Nat) : Nat := match di f with
  | some I => I.ps.length
  | none => match ex f with
    | some F => F.ar
    | none => 0
/-- plain parameters -/
def plainP (p : Arguments) (ps : List Str) : Bool := p.posonlyargs.isEmpty && decide (p.args.map (·.arg) = ps) && p.vararg.isNone && p.kwonlyargs.isEmpty && p.kwarg.isNone
/-- what a look at the text shows -/
structure DIok (c : CT) (I : DI) : Prop where
  sc : FnScope I.N I.ps I.dd.scope
  dfl : I.dd.dfl = []
  kwd : I.dd.kwd = []
  pl : plainP I.dd.params I.ps = true
  ir : cSs (I.F c) I.dd.scope 60 I.dd.body = I.ir
section
variable (w : World) (mg : Str → Option Value) (G : Wd) (c : CT) (di : Nat → Option DI)
/-- what the head tells -/
structure PrOk : Prop where
  ok : ∀ f I, di f = some I → DIok c I
  fd : ∀ f I, di f = some I → ∃ fd, FunD G.K I.dd.name I.dd.qual I.dd.params I.dd.body I.dd.scope [] [] (He.fAd G.K I.dd.at_) fd
  fn : ∀ x f, c.glo.lookup x = some (.fn f) → ∃ I, di f = some I ∧ mg x = some (.ref (He.fAd G.K I.dd.at_))
  cls : ∀ x k, c.glo.lookup x = some (.cls k) → ∃ f fl b I, G.tab.cls k = some (f, fl, b) ∧ di f = some I ∧ mg x = some (.ref (G.cls k)) ∧ Mk G.K (G.cls k) (He.fAd G.K I.dd.at_)
  val : ∀ x v, c.glo.lookup x = some (.val v) → ∃ u y, mg x = some u ∧ RelV y u ∧ ∀ H S R, RelE G H S R v y
  bi : ∀ x b, c.glo.lookup x = some (.bi b) → mg x = none ∧ x = Str.ofString (biName b)
  isi : ∀ x, c.glo.lookup x = some .isi → mg x = none ∧ x = "isinstance"
  rng : ∀ x, c.glo.lookup x = some .rng → mg x = none ∧ x = "range"
  enum : ∀ x, c.glo.lookup x = some .enum → mg x = none ∧ x = "enumerate"
  zip : ∀ x, c.glo.lookup x = some .zip → mg x = none ∧ x = "zip"
  ty : ∀ x t, c.tys.lookup x = some t → (∀ k, t ≠ .cls k) ∧ mg x = none ∧ x = Str.ofString (tyName t)
  fld : ∀ x k, c.fld.lookup x = some k → G.fld k = x
  clsOk : ∀ k f fl b, G.tab.cls k = some (f, fl, b) → Cls G.K (G.cls k) ∧ ∀ x i, c.fld.lookup x = some i → NoAttr G.K (G.cls k) x
end
section
variable {P : Program} {w : World} {mg : Str → Option Value} {base : Heap} {G : Wd} {c : CT} {di : Nat → Option DI} {ex : Nat → Option Fun} {W : Nat}
theorem binds_of {I : DI} {fd : FuncData} (D : DIok c I) (F : FunD G.K I.dd.name I.dd.qual I.dd.params I.dd.body I.dd.scope [] [] (He.fAd G.K I.dd.at_) fd) : ∀ (kV doc pm : Value) (an : Option Addr) (cdv ct : Value) (us : List Value), us.length = I.ps.length → bindArgs (PySem.W.fnOf I.dd.name I.dd.qual I.dd.params I.dd.body I.dd.scope .none kV doc pm an cdv ct) ⟨us, []⟩ = pure (I.ps.zip us) := by
  intro kV doc pm an cdv ct us hl
  have h := D.pl
  unfold plainP at h
  simp only [Bool.and_eq_true, decide_eq_true_eq, List.isEmpty_iff, Option.isNone_iff_eq_none] at h
  obtain ⟨⟨⟨⟨h1, h2⟩, h3⟩, h4⟩, h5⟩ := h
  have nd : I.ps.Nodup := by rw [← D.sc.pre]; exact D.sc.nd.sublist (List.take_sublist _ _)
  have e := bind_plain (fd := PySem.W.fnOf I.dd.name I.dd.qual I.dd.params I.dd.body I.dd.scope .none kV doc pm an cdv ct) (as := I.dd.params.args) (us := us) h1 rfl h3 h4 h5 rfl (by rw [h2]; exact nd) (by rw [hl, ← h2, List.length_map])
  rw [h2] at e
  exact e
theorem ar_callD (tab : Tab) : ∀ d, ArOk (arOf ex di) (callD (progOf tab ex di W) d)
  | 0 => ⟨fun f vs st _ => rfl⟩
  | d + 1 => ⟨fun f vs st h => by
    rw [callD_succ]
    unfold stepD
    show (match (match di f with
        | some I => some (funOf I)
        | none => ex f) with
      | none => (bad : M EV)
      | some F => _) st = .bad
    unfold arOf at h
    cases q : di f with
    | none =>
      rw [q] at h
      cases q2 : ex f with
      | none => simp only [q2]; rfl
      | some F =>
        rw [q2] at h
        simp only [q2]
        rw [if_neg h]
        rfl
    | some I =>
      rw [q] at h
      simp only []
      rw [if_neg (show ¬ vs.length = (funOf I).ar from h)]
      rfl⟩
theorem start_len {N : List Str} {vs : List V} (h : vs.length ≤ N.length) : (L2.start N vs).length = N.length := by
  unfold L2.start
  rw [List.length_append, List.length_map, List.length_replicate]
  omega
/-- the defs' promises -/
theorem fnAll (O : PrOk mg G c di) (hseer : base.NoSeer) (htree : P.given.tree = none) : ∀ d f I fd, di f = some I → FunD G.K I.dd.name I.dd.qual I.dd.params I.dd.body I.dd.scope [] [] (He.fAd G.K I.dd.at_) fd →
    FnG P w G.K mg base (L2.CX P w) d (He.fAd G.K I.dd.at_) fd I.ps (spOf G (arOf ex di f) (callD (progOf G.tab ex di W) d f)) := by
  intro d
  induction d using Nat.strongRecOn with
  | _ d ih =>
  intro f I fd hI F
  cases d with
  | zero => exact ⟨fun vs H Q E ⟨_, _, _, _, _, _, _, h⟩ => False.elim h, fun A outer s H args us vs Q E hr hg e0 hb r ⟨_, _, _, _, _, _, _, h⟩ => False.elim h⟩
  | succ d =>
  have D := O.ok f I hI
  have har : arOf ex di f = I.ps.length := by unfold arOf; rw [hI]
  refine FunD.okG F D.sc (fun vs H Q E ⟨args, st, S, R, ok, rl, hl, _⟩ => by rw [rl.length, hl, har]) fun cdv A outer s H vs Q E hr hgd ⟨args, st, S, R, ok, rl, hl, h⟩ => ?_
  rw [har] at hl
  -- the frame's context
  have lnN : I.ps.length ≤ I.N.length := by
    have := congrArg List.length D.sc.pre
    rw [List.length_take] at this; omega
  have defs : Defs P w mg base G c (arOf ex di) d (callD (progOf G.tab ex di W) d) (callD (progOf G.tab ex di W) (d - 1)) := by
    refine ⟨fun x g hx => ?_, fun x k hx => ?_, O.val, O.bi, O.isi, O.rng, O.enum, O.zip, O.ty, O.fld, O.clsOk⟩
    · obtain ⟨J, hJ, hm⟩ := O.fn x g hx
      obtain ⟨fd', F'⟩ := O.fd g J hJ
      exact ⟨_, fd', J.ps, hm, F'.kp, FunD.bindsN F' (binds_of (O.ok g J hJ) F'), ih d (Nat.lt_succ_self d) g J fd' hJ F'⟩
    · obtain ⟨g, fl, b, J, ht, hJ, hm, hM⟩ := O.cls x k hx
      obtain ⟨fd', F'⟩ := O.fd g J hJ
      refine ⟨g, fl, b, ht, _, fd', J.ps, hm, hM, FunD.bindsN F' (binds_of (O.ok g J hJ) F'), ?_⟩
      cases d with
      | zero => exact .inr fun _ _ _ => rfl
      | succ d => exact .inl ⟨Nat.succ_pos d, ih d (by omega) g J fd' hJ F'⟩
  generalize hX : cxOf (L2.CX P w) P w G.K mg base I.N I.dd.qual I.dd.scope (He.fAd G.K I.dd.at_) cdv A outer s H E = X
  have C : Cxt X G (I.F c) (arOf ex di) d (callD (progOf G.tab ex di W) d) (callD (progOf G.tab ex di W) (d - 1)) (fun cls dx _ H => E cls dx H) I.dd.scope := by
    subst hX
    exact ⟨⟨rfl, D.sc.nd, hr, hgd, ⟨hseer, htree, by have := hgd.dp; show A.depth + 1 + 100 < _; have : A.depth + 1 + 3 * d + 102 < recursionLimit := this; omega, _, _, rfl, D.sc.gen, D.sc.co, rfl, rfl⟩, rfl, takes_of rfl rfl rfl rfl, passes_of rfl, defs, ar_callD G.tab d, ar_callD G.tab (d - 1)⟩, rfl, rfl⟩
  have fnT : ∀ x, X.fn x = true := by subst hX; exact fun _ => rfl
  refine ⟨rSs G (callD (progOf G.tab ex di W) d) (callD (progOf G.tab ex di W) (d - 1)) (fun cls dx _ H => E cls dx H) W (cSs (I.F c) I.dd.scope 60 I.dd.body), sss (fun s => ssnd C fnT D.sc.kind 60 s) I.dd.body, ?_⟩
  have lv : vs.length = I.ps.length := by rw [rl.length, hl]
  -- the entry
  refine ⟨⟨H, S, R⟩, args.map Slot.sh ++ List.replicate (I.N.length - I.ps.length) Slot.un, [], st, S, R, ⟨?_, Ext.refl R S H, List.prefix_rfl, fun _ ha => .inl ha, ok, fun i s e => ?_, fun i j v u b h1 => ?_, fun p hp => nomatch hp⟩, ?_⟩
  · rw [start_len (by omega), List.length_append, List.length_map, List.length_replicate]; omega
  · by_cases hi : i < args.length
    · rw [List.getElem?_append_left (by rw [List.length_map]; exact hi), List.getElem?_map, List.getElem?_eq_getElem hi] at e
      cases e
      obtain ⟨x, e1, e2⟩ := rl.get (List.getElem?_eq_getElem hi)
      refine ⟨x, ?_, e2⟩
      unfold L2.start
      rw [List.getElem?_append_left (by rw [List.length_map]; exact (List.getElem?_eq_some_iff.mp e1).1), List.getElem?_map, e1]
      rfl
    · rw [List.getElem?_append_right (by rw [List.length_map]; omega), List.getElem?_replicate] at e
      split at e
      · cases e; trivial
      · cases e
  · by_cases hi : i < args.length
    · rw [List.getElem?_append_left (by rw [List.length_map]; exact hi), List.getElem?_map, List.getElem?_eq_getElem hi] at h1
      cases h1
    · rw [List.getElem?_append_right (by rw [List.length_map]; omega), List.getElem?_replicate] at h1
      split at h1
      · cases h1
      · cases h1
  · rw [D.ir]
    have e : callD (progOf G.tab ex di W) (d + 1) f args = bnd (evSs G.tab (callD (progOf G.tab ex di W) d) (callD (progOf G.tab ex di W) (d - 1)) W (args.map Slot.sh ++ List.replicate (I.N.length - I.ps.length) Slot.un) I.ir) fun x => match x.1 with
        | .rt v => ret v
        | .nx => ret .non
        | _ => bad := by
      rw [callD_succ]
      unfold stepD
      show (match (match di f with
          | some I => some (funOf I)
          | none => ex f) with
        | none => (bad : M EV)
        | some F => _) = _
      rw [hI]
      simp only []
      rw [if_pos (show args.length = (funOf I).ar from hl)]
      rfl
    rw [e] at h
    unfold bnd at h
    show RunS G ⟨H, S, R⟩ [] _ (evSs G.tab (callD (progOf G.tab ex di W) d) (callD (progOf G.tab ex di W) (d - 1)) W (args.map Slot.sh ++ List.replicate (I.N.length - I.ps.length) Slot.un) I.ir st) _
    cases q : evSs G.tab (callD (progOf G.tab ex di W) d) (callD (progOf G.tab ex di W) (d - 1)) W (args.map Slot.sh ++ List.replicate (I.N.length - I.ps.length) Slot.un) I.ir st with
    | bad => rw [q] at h; exact h
    | ex x st' =>
      rw [q] at h
      exact fun cls dx σ' H' S' R' ρ' rel ex => h cls dx H' S' R' rel.ext rel.pre rel.rnew rel.st ex
    | ok x st' =>
      rw [q] at h
      obtain ⟨fl, ρ'⟩ := x
      cases fl with
      | nx => exact fun σ' H' S' R' rel => h .non H' S' R' rel.ext rel.pre rel.rnew rel.st (rel_non.mpr rfl)
      | rt v => exact fun σ' y H' S' R' rel hv => h y H' S' R' rel.ext rel.pre rel.rnew rel.st hv
      | bk => exact False.elim h
      | ct => exact False.elim h
end
end Py
end
section
/-! PyHead: from a program's description to the facts that a head tells. -/
namespace Py
open PySem PySem.Spec PyProof.Rows L2
/-- a program: its defs, its names, its classes (name, __init__, fields, whether its instances are trees), its fields' names -/
structure PS0 where
  dis : List (Nat × DI)
  c : CT
  clss : List (Nat × (Str × Nat × List Nat × Bool))
  flds : List Str
/-- a name for every number -/
def pad (n : Nat) : Str := ⟨(List.replicate (1000 + n) 0).toArray⟩
def fldFn (l : List Str) (i : Nat) : Str := match l[i]? with
  | some x => x
  | none => pad i
theorem fldFn_inj {l : List Str} (h : l.Nodup) (hl : ∀ x ∈ l, x.cps.size < 1000) : ∀ i j, fldFn l i = fldFn l j → i = j := by
  intro i j e
  unfold fldFn at e
  cases h1 : l[i]? with
  | some x =>
    cases h2 : l[j]? with
    | some y =>
      rw [h1, h2] at e
      have e : x = y := e
      subst e
      exact (List.getElem?_inj (List.getElem?_eq_some_iff.mp h1).1 h).mp (h1.trans h2.symm)
    | none =>
      rw [h1, h2] at e
      have e : x = pad j := e
      have := hl x (List.mem_of_getElem? h1)
      rw [e] at this
      unfold pad at this
      simp at this
      omega
  | none =>
    cases h2 : l[j]? with
    | some y =>
      rw [h1, h2] at e
      have e : pad i = y := e
      have := hl y (List.mem_of_getElem? h2)
      rw [← e] at this
      unfold pad at this
      simp at this
      omega
    | none =>
      rw [h1, h2] at e
      have e : pad i = pad j := e
      unfold pad at e
      have := congrArg (fun s : Str => s.cps.size) e
      simp at this
      exact this
def PS0.di (sp : PS0) (f : Nat) : Option DI := sp.dis.lookup f
def PS0.cl (sp : PS0) (k : Nat) : Option (Str × Nat × List Nat × Bool) := sp.clss.lookup k
section
variable (sp : PS0)
def tabOf : Tab := ⟨fun k => (sp.cl k).map fun t => t.2⟩
def wdOf (K : PySem.W.Frag) (hi : ∀ i j, fldFn sp.flds i = fldFn sp.flds j → i = j) : Wd := ⟨K, fun k => match sp.cl k with
  | some t => He.ga K t.1
  | none => 0, fldFn sp.flds, hi, tabOf sp⟩
def evDv : EV → He.Dv
  | .int i => .int i
  | .bl b => .bl b
  | .str s => .str s
  | _ => .non
def scal : EV → Bool
  | .int _ => true
  | .bl _ => true
  | .str _ => true
  | .non => true
  | _ => false
/-- a constant that the head knows -/
def valOk : EV → Bool
  | .int _ => true
  | .str _ => true
  | .tup l => l.all scal
  | _ => false
def faV (x : Str) : EV → List He.Fa
  | .int i => [.int x i]
  | .str s => [.str x s]
  | _ => [.glo x]
def faG (x : Str) : Gn → List He.Fa
  | .fn _ => [.glo x]
  | .cls _ => [.glo x, .cls x, .mkr x] ++ sp.flds.map fun f => .noat x f
  | .val v => faV x v
  | _ => [.free x]
def faOf : List He.Fa := sp.c.glo.flatMap (fun p => faG sp p.1 p.2) ++ sp.c.tys.map fun p => .free p.1
def exOf (K : PySem.W.Frag) : Bool := sp.c.glo.all fun p => match p.2 with
  | .val (.tup l) => He.tupB K p.1 (l.map evDv)
  | _ => true
/-- what a look at a name shows -/
def okG (x : Str) : Gn → Bool
  | .fn f => (match sp.di f with
    | some I => decide (I.dd.at_ = (x, none))
    | none => false)
  | .cls k => (match sp.cl k with
    | some t => decide (t.1 = x) && (match sp.di t.2.1 with
      | some I => decide (I.dd.at_ = (x, some ("__init__" : Str)))
      | none => false)
    | none => false)
  | .val v => valOk v
  | .bi b => decide (x = Str.ofString (biName b))
  | .isi => decide (x = ("isinstance" : Str))
  | .rng => decide (x = ("range" : Str))
  | .enum => decide (x = ("enumerate" : Str))
  | .zip => decide (x = ("zip" : Str))
def okT (x : Str) : Ty → Bool
  | .cls _ => false
  | t => decide (x = Str.ofString (tyName t))
def okD (I : DI) : Bool := C8.scC I.N I.ps I.dd.scope && I.dd.dfl.isEmpty && I.dd.kwd.isEmpty && plainP I.dd.params I.ps
/-- .. at the whole -/
def okS : Bool := sp.c.glo.all (fun p => okG sp p.1 p.2) && sp.c.tys.all (fun p => okT p.1 p.2) && sp.dis.all (fun p => okD p.2) && decide sp.flds.Nodup && sp.flds.all (fun x => decide (x.cps.size < 1000)) && decide (sp.c.fld = sp.flds.zipIdx) && sp.clss.all (fun t => sp.c.glo.any fun p => match p.2 with
  | .cls k => decide (p.1 = t.2.1) && decide ((sp.cl k).map (·.1) = some t.2.1)
  | _ => false)
end
theorem mem_of_lookup {α β : Type} [BEq β] [LawfulBEq β] : ∀ {l : List (β × α)} {x : β} {a : α}, l.lookup x = some a → (x, a) ∈ l
  | (k, v) :: r, x, a, h => by
    rw [List.lookup_cons] at h
    cases e : x == k with
    | true =>
      rw [e] at h
      cases h
      rw [eq_of_beq e]
      exact List.mem_cons_self
    | false =>
      rw [e] at h
      exact List.mem_cons_of_mem _ (mem_of_lookup h)
theorem relV_scal {v : EV} (h : scal v = true) {K : PySem.W.Frag} {G : Wd} {H : Hp} {S : Ad} {R : List Addr} : RelE G H S R v ((evDv v).v K) := by
  cases v <;> first | cases h | skip
  · exact rel_non.mpr rfl
  · exact rel_bl.mpr rfl
  · exact rel_int.mpr rfl
  · exact rel_str.mpr rfl
theorem relL_scal {K : PySem.W.Frag} {G : Wd} {H : Hp} {S : Ad} {R : List Addr} : ∀ {l : List EV}, l.all scal = true → RelL G H S R l ((l.map evDv).map (He.Dv.v K))
  | [], _ => RelL.nil
  | v :: r, h => by
    rw [List.all_cons, Bool.and_eq_true] at h
    exact RelL.cons (relV_scal h.1) (relL_scal h.2)
section
variable {sp : PS0} {w : World} {mg : Str → Option Value} {K : PySem.W.Frag} {h : Heap}
/-- the facts -/
theorem prOk_of (hi : ∀ i j, fldFn sp.flds i = fldFn sp.flds j → i = j) (ok : okS sp = true) (ir : sp.dis.map (fun p => cSs (p.2.F sp.c) p.2.dd.scope 60 p.2.dd.body) = sp.dis.map (·.2.ir)) (X : K.In h) (G : h.Ns mainGlobals mg) (D : He.SaysD (faOf sp) (sp.dis.map (·.2.dd)) K) (ex : exOf sp K = true) :
    PrOk mg (wdOf sp K hi) sp.c sp.di := by
  unfold okS at ok
  simp only [Bool.and_eq_true, List.all_eq_true, decide_eq_true_eq] at ok
  obtain ⟨⟨⟨⟨⟨⟨o1, o2⟩, o3⟩, o4⟩, o5⟩, o6⟩, o7⟩ := ok
  have fact : ∀ {x : Str} {g : Gn} {f : He.Fa}, (x, g) ∈ sp.c.glo → f ∈ faG sp x g → f.ok K = true := fun {x g f} hx hf =>
    D.facts (List.mem_append_left _ (List.mem_flatMap.mpr ⟨(x, g), hx, hf⟩))
  have glo : ∀ {x : Str} {g : Gn}, (x, g) ∈ sp.c.glo → (He.Fa.glo x) ∈ faG sp x g → mg x = some (.ref (He.ga K x)) := fun {x g} hx hf => He.glo_ok X G (fact hx hf)
  have free : ∀ {x : Str} {g : Gn}, (x, g) ∈ sp.c.glo → (He.Fa.free x) ∈ faG sp x g → mg x = none := fun {x g} hx hf => He.free_ok X G (fact hx hf)
  have fds : ∀ (f : Nat) (I : DI), sp.di f = some I → ∃ fd, FunD K I.dd.name I.dd.qual I.dd.params I.dd.body I.dd.scope (I.dd.dvs K) (I.dd.kws K) (He.fAd K I.dd.at_) fd := fun f I hI => D.defs (List.mem_map.mpr ⟨(f, I), mem_of_lookup hI, rfl⟩)
  have dis : ∀ (f : Nat) (I : DI), sp.di f = some I → DIok sp.c I := fun f I hI => by
    have q := o3 (f, I) (mem_of_lookup hI)
    unfold okD at q
    simp only [Bool.and_eq_true, List.isEmpty_iff] at q
    obtain ⟨⟨⟨q1, q2⟩, q3⟩, q4⟩ := q
    refine ⟨C8.fnScope_by q1, q2, q3, q4, ?_⟩
    exact (List.map_inj_left.mp ir) (f, I) (mem_of_lookup hI)
  refine ⟨dis, fun f I hI => ?_, fun x f hx => ?_, fun x k hx => ?_, fun x v hx => ?_, fun x b hx => ?_, fun x hx => ?_, fun x hx => ?_, fun x hx => ?_, fun x hx => ?_, fun x t hx => ?_, fun x k hx => ?_, fun k f fl b hk => ?_⟩
  · obtain ⟨fd, F⟩ := fds f I hI
    have d := dis f I hI
    have e1 : I.dd.dvs K = [] := by unfold He.DefD.dvs; rw [d.dfl]; rfl
    have e2 : I.dd.kws K = [] := by unfold He.DefD.kws; rw [d.kwd]; rfl
    rw [e1, e2] at F
    exact ⟨fd, F⟩
  · have m := mem_of_lookup hx
    have q := o1 _ m
    have q : (match sp.di f with
      | some I => decide (I.dd.at_ = (x, none))
      | none => false) = true := q
    cases e : sp.di f with
    | none => rw [e] at q; cases q
    | some I =>
      rw [e] at q
      have q := of_decide_eq_true q
      refine ⟨I, rfl, ?_⟩
      rw [q]
      exact glo m List.mem_cons_self
  · have m := mem_of_lookup hx
    have q : (match sp.cl k with
      | some t => decide (t.1 = x) && (match sp.di t.2.1 with
        | some I => decide (I.dd.at_ = (x, some ("__init__" : Str)))
        | none => false)
      | none => false) = true := o1 _ m
    cases e : sp.cl k with
    | none => rw [e] at q; cases q
    | some t =>
      rw [e] at q
      have q : (decide (t.1 = x) && (match sp.di t.2.1 with
        | some I => decide (I.dd.at_ = (x, some ("__init__" : Str)))
        | none => false)) = true := q
      rw [Bool.and_eq_true, decide_eq_true_eq] at q
      obtain ⟨rfl, q⟩ := q
      cases e2 : sp.di t.2.1 with
      | none => rw [e2] at q; cases q
      | some I =>
        rw [e2] at q
        have q := of_decide_eq_true q
        have ec : (wdOf sp K hi).cls k = He.ga K t.1 := by
          show (match sp.cl k with
            | some t => He.ga K t.1
            | none => 0) = _
          rw [e]
        refine ⟨t.2.1, t.2.2.1, t.2.2.2, I, ?_, e2, ?_, ?_⟩
        · show (sp.cl k).map (fun t => t.2) = _
          rw [e]; rfl
        · rw [ec]
          exact glo m List.mem_cons_self
        · rw [ec, q]
          exact He.mkr_ok (fact m (List.mem_cons_of_mem _ (List.mem_cons_of_mem _ List.mem_cons_self)))
  · have m := mem_of_lookup hx
    have q : valOk v = true := o1 _ m
    cases v with
    | int i =>
      obtain ⟨t, e⟩ := He.int_ok X G (fact m (f := .int x i) List.mem_cons_self)
      exact ⟨_, .int i, e, ⟨t, rfl⟩, fun _ _ _ => rel_int.mpr rfl⟩
    | str s =>
      obtain ⟨t, e⟩ := He.str_ok X G (fact m (f := .str x s) List.mem_cons_self)
      exact ⟨_, .str s, e, ⟨t, rfl⟩, fun _ _ _ => rel_str.mpr rfl⟩
    | tup l =>
      have ex' := List.all_eq_true.mp ex _ m
      exact ⟨_, .ref (He.ga K x), glo m List.mem_cons_self, rfl, fun H S R => rel_tupE.mpr ⟨_, _, rfl, He.tupB_ok ex' H, relL_scal q⟩⟩
    | _ => cases q
  · have m := mem_of_lookup hx
    exact ⟨free m List.mem_cons_self, of_decide_eq_true (o1 _ m)⟩
  · have m := mem_of_lookup hx
    exact ⟨free m List.mem_cons_self, of_decide_eq_true (o1 _ m)⟩
  · have m := mem_of_lookup hx
    exact ⟨free m List.mem_cons_self, of_decide_eq_true (o1 _ m)⟩
  · have m := mem_of_lookup hx
    exact ⟨free m List.mem_cons_self, of_decide_eq_true (o1 _ m)⟩
  · have m := mem_of_lookup hx
    exact ⟨free m List.mem_cons_self, of_decide_eq_true (o1 _ m)⟩
  · have m := mem_of_lookup hx
    have q := o2 _ m
    have fr : mg x = none := He.free_ok X G (D.facts (List.mem_append_right _ (List.mem_map.mpr ⟨(x, t), m, rfl⟩)))
    cases t with
    | cls k => cases q
    | _ => exact ⟨(fun k z => nomatch z), fr, of_decide_eq_true q⟩
  · rw [o6] at hx
    have m := mem_of_lookup hx
    rw [List.mem_zipIdx_iff_getElem?] at m
    show fldFn sp.flds k = x
    unfold fldFn
    rw [m]
  · have hk : (sp.cl k).map (fun t => t.2) = some (f, fl, b) := hk
    cases e : sp.cl k with
    | none => rw [e] at hk; cases hk
    | some t =>
      have q := o7 (k, t) (mem_of_lookup e)
      rw [List.any_eq_true] at q
      obtain ⟨p, hp, q⟩ := q
      obtain ⟨px, pg⟩ := p
      cases pg with
      | cls j =>
        have q : (decide (px = t.1) && decide ((sp.cl j).map (·.1) = some t.1)) = true := q
        rw [Bool.and_eq_true, decide_eq_true_eq] at q
        obtain ⟨rfl, _⟩ := q
        have ec : (wdOf sp K hi).cls k = He.ga K t.1 := by
          show (match sp.cl k with
            | some t => He.ga K t.1
            | none => 0) = _
          rw [e]
        rw [ec]
        refine ⟨He.cls_ok (fact hp (f := .cls t.1) (List.mem_cons_of_mem _ List.mem_cons_self)), fun x i hx => ?_⟩
        rw [o6] at hx
        have m := mem_of_lookup hx
        rw [List.mem_zipIdx_iff_getElem?] at m
        exact He.noat_ok (fact hp (f := .noat t.1 x) (List.mem_append_right _ (List.mem_map.mpr ⟨x, List.mem_of_getElem? m, rfl⟩)))
      | _ => cases q
/-- the end: what callD gives is what the law gives -/
theorem walk_py {l : PySem.W.OpenLaw} {n D W f N : Nat} {ex : Nat → Option Fun} {I : DI} {x : Str} {q : Program} {loose : List Str} {XP : (Str → Option Value) → Heap → Prop} {d : DefRec} (hn : l.most = some n) (hn2 : n ≤ sizeLine) (hdf : d.params.defaults = []) (hr : Room D callerA) (hgd : Gd D callerA) (hin : importsNone q = true) (htree : l.prog.given.tree = none) (hdn : d.name = ("law" : Str))
    (hi : ∀ i j, fldFn sp.flds i = fldFn sp.flds j → i = j) (ok : okS sp = true) (ir : sp.dis.map (fun p => cSs (p.2.F sp.c) p.2.dd.scope 60 p.2.dd.body) = sp.dis.map (·.2.ir)) (hI : sp.di f = some I) (hps : I.ps = [x]) (hat : I.dd.at_ = (("law" : Str), none)) (hg : sp.c.glo.lookup ("law" : Str) = some (Gn.fn f))
    (main : ∀ ns : List Int, ns.length ≤ n → (∀ z ∈ ns, Builtin.Int.intBits z ≤ 1048576) → ∃ st', callD (progOf (tabOf sp) ex sp.di W) D f [EV.scr ns] [] = .ok (.bl true) st') :
    PySem.W.WalkO q loose XP (He.hookX N (faOf sp) (sp.dis.map (·.2.dd)) [] [] (exOf sp)).says l.row.toRowW d [] (fun f vs => PySem.call f vs) := by
  refine Att.attach_callB hn hdf fun w s₀ s₁ mg mb fa o pm cd doc a vs ns T Y ho hd hcd hmg hobj hints hlen hbits hgn => ?_
  obtain ⟨K, KX, S⟩ := Y
  rw [hdn] at hmg
  have O := prOk_of (K := K) hi ok ir KX T.T.g S.t.d S.more
  obtain ⟨fd, F⟩ := O.fd f I hI
  have ea : fa = He.fAd K I.dd.at_ := by
    have e := He.glo_ok KX T.T.g (S.t.d.facts (f := .glo ("law" : Str)) (List.mem_append_left _ (List.mem_flatMap.mpr ⟨_, mem_of_lookup hg, List.mem_cons_self⟩)))
    rw [hmg] at e
    cases e
    rw [hat]
    rfl
  subst ea
  refine law_callG (CX := L2.CX l.prog w) (x := x) (fd := fd) (sp := spOf (wdOf sp K hi) (arOf ex sp.di f) (callD (progOf (tabOf sp) ex sp.di W) D f)) KX T.T.g T.T.b T.T.builtins T.T.nolimit hgn hobj hints (Nat.le_trans hlen hn2) hr hgd (T.T.seer hin) (fun base Xb Gb Sb => ?_) (fun s u => ?_) (fun H hq => ?_) fun H e s' h => ?_
  · have O' := prOk_of (K := K) (h := base) hi ok ir Xb Gb S.t.d S.more
    rw [← hps]
    exact fnAll (P := l.prog) (w := w) (base := base) (ex := ex) (W := W) O' Sb htree D f I fd hI F
  · have b := FunD.bindsA (ps := I.ps) F (binds_of (O.ok f I hI) F) s [u] (by rw [hps]; rfl)
    rw [hps] at b
    exact b
  · have har : arOf ex sp.di f = 1 := by unfold arOf; simp only [hI, hps]; rfl
    rw [har]
    obtain ⟨st', e⟩ := main ns hlen hbits
    refine ⟨[.scr ns], [], (fun _ => False), [], ⟨rfl, List.nodup_nil, (fun b hb => nomatch hb), (fun b hb => hb.elim), fun i b o e => nomatch e⟩, RelL.cons ?_ RelL.nil, rfl, ?_⟩
    · unfold RelE
      exact ⟨a, rfl, hq⟩
    · rw [e]
      exact fun x H' S' R' _ _ _ _ hx => rel_bl.mp hx
  · obtain ⟨_, _, _, _, _, _, _, _, _, _, _, _, hE⟩ := h
    exact hE
end
end Py
end
section
/-! GT_k38: shared defs as the compiler prints them. -/
namespace Py
/-- is_integer: 0 thing -/
def ir0 : List S := [(.ret (.and [(.isi (.var 0) .int), (.nt (.val (.isi (.var 0) .bool)))]))]
def F0 : Fun := ⟨1, 1, ir0⟩
/-- divisor: 0 one, 1 other -/
def ir1 : List S := [(.par [0, 1] [(.bi .abs [(.var 0)]), (.bi .abs [(.var 1)])]), (.whl (.val (.cmp .gt (.var 1) (.lit (.int 0)))) [(.par [0, 1] [(.var 1), (.bop .mod (.var 0) (.var 1))])]), (.ret (.var 0))]
def F1 : Fun := ⟨2, 2, ir1⟩
/-- made: 0 top, 1 bottom, 2 common -/
def ir2 : List S := [(.asg (.nm 2) (.call 1 [(.var 0), (.var 1)])), (.ifs (.val (.cmp .lt (.var 1) (.lit (.int 0)))) [(.asg (.nm 2) (.neg (.var 2)))] []), (.ret (.tup [(.bop .fdiv (.var 0) (.var 2)), (.bop .fdiv (.var 1) (.var 2))]))]
def F2 : Fun := ⟨2, 3, ir2⟩
/-- plus: 0 one, 1 other -/
def ir3 : List S := [(.ret (.call 2 [(.bop .add (.bop .mul (.idx (.var 0) (.lit (.int 0))) (.idx (.var 1) (.lit (.int 1)))) (.bop .mul (.idx (.var 1) (.lit (.int 0))) (.idx (.var 0) (.lit (.int 1))))), (.bop .mul (.idx (.var 0) (.lit (.int 1))) (.idx (.var 1) (.lit (.int 1))))]))]
def F3 : Fun := ⟨2, 2, ir3⟩
/-- times: 0 one, 1 other -/
def ir4 : List S := [(.ret (.call 2 [(.bop .mul (.idx (.var 0) (.lit (.int 0))) (.idx (.var 1) (.lit (.int 0)))), (.bop .mul (.idx (.var 0) (.lit (.int 1))) (.idx (.var 1) (.lit (.int 1))))]))]
def F4 : Fun := ⟨2, 2, ir4⟩
/-- is_less: 0 one, 1 other -/
def ir5 : List S := [(.ret (.cmp .lt (.bop .mul (.idx (.var 0) (.lit (.int 0))) (.idx (.var 1) (.lit (.int 1)))) (.bop .mul (.idx (.var 1) (.lit (.int 0))) (.idx (.var 0) (.lit (.int 1))))))]
def F5 : Fun := ⟨2, 2, ir5⟩
/-- least_of: 0 fractions, 1 found, 2 fraction -/
def ir6 : List S := [(.asg (.nm 1) (.idx (.var 0) (.lit (.int 0)))), (.fr (.nm 2) (.seq (.sl (.var 0) (.so (.lit (.int 1))) .no)) [(.ifs (.val (.call 5 [(.var 2), (.var 1)])) [(.asg (.nm 1) (.var 2))] [])]), (.ret (.var 1))]
def F6 : Fun := ⟨1, 3, ir6⟩
/-- greatest_of: 0 fractions, 1 found, 2 fraction -/
def ir7 : List S := [(.asg (.nm 1) (.idx (.var 0) (.lit (.int 0)))), (.fr (.nm 2) (.seq (.sl (.var 0) (.so (.lit (.int 1))) .no)) [(.ifs (.val (.call 5 [(.var 1), (.var 2)])) [(.asg (.nm 1) (.var 2))] [])]), (.ret (.var 1))]
def F7 : Fun := ⟨1, 3, ir7⟩
/-- ascending: 0 fractions, 1 found, 2 fraction, 3 at -/
def ir8 : List S := [(.own 1 (.lst [])), (.fr (.nm 2) (.seq (.var 0)) [(.asg (.nm 3) (.biO .len 1)), (.whl (.and [(.val (.cmp .gt (.var 3) (.lit (.int 0)))), (.val (.call 5 [(.var 2), (.idxO 1 (.bop .sub (.var 3) (.lit (.int 1))))]))]) [(.aug 3 .sub (.lit (.int 1)))]), (.mut .insert 1 [(.var 3), (.var 2)])]), (.fz [1] (.ret (.var 1)))]
def F8 : Fun := ⟨1, 4, ir8⟩
/-- middle: 0 one, 1 two, 2 three -/
def ir9 : List S := [(.ret (.idx (.call 8 [(.lst [(.var 0), (.var 1), (.var 2)])]) (.lit (.int 1))))]
def F9 : Fun := ⟨3, 3, ir9⟩
/-- is_fraction: 0 thing, 1 part -/
def ir10 : List S := [(.ifs (.or [(.nt (.val (.isi (.var 0) .tuple))), (.val (.cmp .ne (.bi .len [(.var 0)]) (.lit (.int 2)))), (.nt (.val (.bi .all [(.comp [1] (.nm 1) (.seq (.var 0)) [] (.call 0 [(.var 1)]))])))]) [(.ret (.lit (.bl false)))] []), (.ret (.and [(.cmp .ge (.idx (.var 0) (.lit (.int 1))) (.lit (.int 1))), (.cmp .eq (.call 1 [(.idx (.var 0) (.lit (.int 0))), (.idx (.var 0) (.lit (.int 1)))]) (.lit (.int 1)))]))]
def F10 : Fun := ⟨1, 2, ir10⟩
/-- mean_of: 0 weights, 1 numbers, 2 total, 3 weight, 4 number -/
def ir11 : List S := [(.asg (.nm 2) (.lit (.tup [(.int 0), (.int 1)]))), (.fr (.tu [(.nm 3), (.nm 4)]) (.zip (.var 0) (.var 1)) [(.asg (.nm 2) (.call 3 [(.var 2), (.call 4 [(.tup [(.var 3), (.lit (.int 1))]), (.var 4)])]))]), (.ret (.call 4 [(.var 2), (.call 2 [(.lit (.int 1)), (.bi .sum [(.var 0)])])]))]
def F11 : Fun := ⟨2, 5, ir11⟩
/-- ranked_of: 0 k, 1 numbers -/
def ir12 : List S := [(.ret (.idx (.call 8 [(.var 1)]) (.bop .sub (.bi .len [(.var 1)]) (.var 0))))]
def F12 : Fun := ⟨2, 2, ir12⟩
/-- value_of: 0 term, 1 bids, 2 word, 3 numbers, 4 part, 5 weight -/
def ir13 : List S := [(.asg (.nm 2) (.idx (.var 0) (.lit (.int 0)))), (.ifs (.val (.cmp .eq (.var 2) (.lit (.str "bid")))) [(.ret (.idx (.var 1) (.idx (.var 0) (.lit (.int 1)))))] []), (.ifs (.val (.cmp .eq (.var 2) (.lit (.str "fixed")))) [(.ret (.idx (.var 0) (.lit (.int 1))))] []), (.ifs (.val (.cmp .eq (.var 2) (.lit (.str "mean")))) [(.ret (.call 11 [(.comp [5, 4] (.tu [(.nm 5), (.nm 4)]) (.seq (.idx (.var 0) (.lit (.int 1)))) [] (.var 5)), (.comp [5, 4] (.tu [(.nm 5), (.nm 4)]) (.seq (.idx (.var 0) (.lit (.int 1)))) [] (.call 13 [(.var 4), (.var 1)]))]))] []), (.ifs (.val (.cmp .eq (.var 2) (.lit (.str "between")))) [(.ret (.call 9 [(.idx (.var 0) (.lit (.int 1))), (.idx (.var 0) (.lit (.int 2))), (.call 13 [(.idx (.var 0) (.lit (.int 3))), (.var 1)])]))] []), (.asg (.nm 3) (.comp [4] (.nm 4) (.seq (.idx (.var 0) (.neg (.lit (.int 1))))) [] (.call 13 [(.var 4), (.var 1)]))), (.ifs (.val (.cmp .eq (.var 2) (.lit (.str "ranked")))) [(.ret (.call 12 [(.idx (.var 0) (.lit (.int 1))), (.var 3)]))] []), (.ret (.ife (.val (.cmp .eq (.var 2) (.lit (.str "least")))) (.call 6 [(.var 3)]) (.call 7 [(.var 3)])))]
def F13 : Fun := ⟨2, 6, ir13⟩
/-- is_within: 0 thing, 1 least, 2 most -/
def ir15 : List S := [(.ret (.and [(.call 0 [(.var 0)]), (.chn .le .le (.var 1) (.var 0) (.var 2))]))]
def F15 : Fun := ⟨3, 3, ir15⟩
/-- is_number: 0 thing -/
def ir16 : List S := [(.ret (.and [(.call 10 [(.var 0)]), (.chn .le .le (.lit (.int 0)) (.idx (.var 0) (.lit (.int 0))) (.idx (.var 0) (.lit (.int 1))))]))]
def F16 : Fun := ⟨1, 1, ir16⟩
/-- are_numbers: 0 thing, 1 many, 2 part -/
def ir17 : List S := [(.ret (.and [(.isi (.var 0) .tuple), (.cmp .eq (.bi .len [(.var 0)]) (.var 1)), (.bi .all [(.comp [2] (.nm 2) (.seq (.var 0)) [] (.call 16 [(.var 2)]))])]))]
def F17 : Fun := ⟨2, 3, ir17⟩
/-- check_wishes: 0 rule, 1 thing -/
def ir18 : List S := [(.ifs (.nt (.val (.call 17 [(.var 1), (.att (.var 0) 1)]))) [.bad] [])]
def F18 : Fun := ⟨2, 2, ir18⟩
/-- wishing_more: 0 wishes, 1 number, 2 person, 3 wish -/
def ir19 : List S := [(.ret (.bi .tuple [(.comp [2, 3] (.tu [(.nm 2), (.nm 3)]) (.enum (.var 0)) [(.val (.call 5 [(.var 1), (.var 3)]))] (.var 2))]))]
def F19 : Fun := ⟨2, 4, ir19⟩
/-- wishing_less: 0 wishes, 1 number, 2 person, 3 wish -/
def ir20 : List S := [(.ret (.bi .tuple [(.comp [2, 3] (.tu [(.nm 2), (.nm 3)]) (.enum (.var 0)) [(.val (.call 5 [(.var 3), (.var 1)]))] (.var 2))]))]
def F20 : Fun := ⟨2, 4, ir20⟩
/-- with_lot: 0 bids, 1 lot, 2 number, 3 person, 4 bid -/
def ir21 : List S := [(.ret (.bi .tuple [(.comp [3, 4] (.tu [(.nm 3), (.nm 4)]) (.enum (.var 0)) [] (.ife (.val (.cmp .inn (.var 3) (.var 1))) (.var 2) (.var 4)))]))]
def F21 : Fun := ⟨3, 5, ir21⟩
/-- pushed_up: 0 rule, 1 bids, 2 lot -/
def ir22 : List S := [(.ret (.call 13 [(.att (.var 0) 2), (.call 21 [(.var 1), (.var 2), (.lit (.tup [(.int 1), (.int 1)]))])]))]
def F22 : Fun := ⟨3, 3, ir22⟩
/-- pushed_down: 0 rule, 1 bids, 2 lot -/
def ir23 : List S := [(.ret (.call 13 [(.att (.var 0) 2), (.call 21 [(.var 1), (.var 2), (.lit (.tup [(.int 0), (.int 1)]))])]))]
def F23 : Fun := ⟨3, 3, ir23⟩
/-- lots_that_move: 0 rule, 1 wishes, 2 bids, 3 number, 4 above, 5 below -/
def ir24 : List S := [(.asg (.nm 3) (.call 13 [(.att (.var 0) 2), (.var 2)])), (.asg (.nm 4) (.call 19 [(.var 1), (.var 3)])), (.asg (.nm 5) (.call 20 [(.var 1), (.var 3)])), (.ifs (.nt (.val (.call 5 [(.var 3), (.call 22 [(.var 0), (.var 2), (.var 4)])]))) [(.asg (.nm 4) (.tup []))] []), (.ifs (.nt (.val (.call 5 [(.call 23 [(.var 0), (.var 2), (.var 5)]), (.var 3)]))) [(.asg (.nm 5) (.tup []))] []), (.ret (.tup [(.var 4), (.var 5)]))]
def F24 : Fun := ⟨3, 6, ir24⟩
/-- is_rest: 0 rule, 1 wishes, 2 thing -/
def ir25 : List S := [(.expr (.call 18 [(.var 0), (.var 1)])), (.ret (.and [(.call 17 [(.var 2), (.att (.var 0) 1)]), (.cmp .eq (.call 24 [(.var 0), (.var 1), (.var 2)]) (.tup [(.tup []), (.tup [])]))]))]
def F25 : Fun := ⟨3, 3, ir25⟩
/-- are_parts: 0 thing -/
def ir26 : List S := [(.ret (.and [(.isi (.var 0) .tuple), (.chn .le .le (.lit (.int 1)) (.bi .len [(.var 0)]) (.lit (.int 8)))]))]
def F26 : Fun := ⟨1, 1, ir26⟩
/-- is_weighted: 0 thing -/
def ir27 : List S := [(.ret (.and [(.isi (.var 0) .tuple), (.cmp .eq (.bi .len [(.var 0)]) (.lit (.int 2))), (.call 15 [(.idx (.var 0) (.lit (.int 0))), (.lit (.int 1)), (.lit (.int 99))])]))]
def F27 : Fun := ⟨1, 1, ir27⟩
/-- is_bound: 0 thing -/
def ir28 : List S := [(.ifs (.or [(.val (.cmp .ne (.bi .len [(.var 0)]) (.lit (.int 4)))), (.nt (.val (.call 16 [(.idx (.var 0) (.lit (.int 1)))]))), (.nt (.val (.call 16 [(.idx (.var 0) (.lit (.int 2)))])))]) [(.ret (.lit (.bl false)))] []), (.ret (.nt (.val (.call 5 [(.idx (.var 0) (.lit (.int 2))), (.idx (.var 0) (.lit (.int 1)))]))))]
def F28 : Fun := ⟨1, 1, ir28⟩
/-- parts_told: 0 thing, 1 word, 2 part -/
def ir29 : List S := [(.asg (.nm 1) (.idx (.var 0) (.lit (.int 0)))), (.ifs (.and [(.val (.cmp .eq (.var 1) (.lit (.str "mean")))), (.val (.cmp .eq (.bi .len [(.var 0)]) (.lit (.int 2)))), (.val (.call 26 [(.idx (.var 0) (.lit (.int 1)))]))]) [(.ret (.ife (.val (.bi .all [(.comp [2] (.nm 2) (.seq (.idx (.var 0) (.lit (.int 1)))) [] (.call 27 [(.var 2)]))])) (.comp [2] (.nm 2) (.seq (.idx (.var 0) (.lit (.int 1)))) [] (.idx (.var 2) (.lit (.int 1)))) (.lit .non)))] []), (.ifs (.and [(.val (.cmp .inn (.var 1) (.tup [(.lit (.str "least")), (.lit (.str "greatest"))]))), (.val (.cmp .eq (.bi .len [(.var 0)]) (.lit (.int 2)))), (.val (.call 26 [(.idx (.var 0) (.lit (.int 1)))]))]) [(.ret (.bi .list [(.idx (.var 0) (.lit (.int 1)))]))] []), (.ifs (.and [(.val (.cmp .eq (.var 1) (.lit (.str "ranked")))), (.val (.cmp .eq (.bi .len [(.var 0)]) (.lit (.int 3)))), (.val (.call 26 [(.idx (.var 0) (.lit (.int 2)))]))]) [(.ret (.ife (.val (.call 15 [(.idx (.var 0) (.lit (.int 1))), (.lit (.int 1)), (.bi .len [(.idx (.var 0) (.lit (.int 2)))])])) (.bi .list [(.idx (.var 0) (.lit (.int 2)))]) (.lit .non)))] []), (.ifs (.and [(.val (.cmp .eq (.var 1) (.lit (.str "between")))), (.val (.call 28 [(.var 0)]))]) [(.ret (.lst [(.idx (.var 0) (.lit (.int 3)))]))] []), (.ret (.lit .non))]
def F29 : Fun := ⟨1, 3, ir29⟩
/-- is_leaf: 0 people, 1 thing -/
def ir30 : List S := [(.ifs (.val (.cmp .ne (.bi .len [(.var 1)]) (.lit (.int 2)))) [(.ret (.lit (.bl false)))] []), (.ret (.or [(.and [(.cmp .eq (.idx (.var 1) (.lit (.int 0))) (.lit (.str "bid"))), (.call 15 [(.idx (.var 1) (.lit (.int 1))), (.lit (.int 0)), (.bop .sub (.var 0) (.lit (.int 1)))])]), (.and [(.cmp .eq (.idx (.var 1) (.lit (.int 0))) (.lit (.str "fixed"))), (.call 16 [(.idx (.var 1) (.lit (.int 1)))])])]))]
def F30 : Fun := ⟨2, 2, ir30⟩
/-- terms_told: 0 people, 1 thing, 2 deep, 3 parts, 4 many, 5 part, 6 inner -/
def ir31 : List S := [(.ifs (.or [(.val (.cmp .eq (.var 2) (.lit (.int 0)))), (.nt (.val (.isi (.var 1) .tuple))), (.val (.cmp .eq (.bi .len [(.var 1)]) (.lit (.int 0)))), (.nt (.val (.isi (.idx (.var 1) (.lit (.int 0))) .str)))]) [(.ret (.lit .non))] []), (.ifs (.val (.call 30 [(.var 0), (.var 1)])) [(.ret (.lit (.int 1)))] []), (.asg (.nm 3) (.call 29 [(.var 1)])), (.ifs (.val (.cmp .is (.var 3) (.lit .non))) [(.ret (.lit .non))] []), (.asg (.nm 4) (.lit (.int 1))), (.fr (.nm 5) (.seq (.var 3)) [(.asg (.nm 6) (.call 31 [(.var 0), (.var 5), (.bop .sub (.var 2) (.lit (.int 1)))])), (.ifs (.val (.cmp .is (.var 6) (.lit .non))) [(.ret (.lit .non))] []), (.aug 4 .add (.var 6))]), (.ret (.var 4))]
def F31 : Fun := ⟨3, 7, ir31⟩
/-- _law_dice: 0 _law_script, 1 _law_cell -/
def ir34 : List S := [(.ret (.sto (.lst [(.comp [1] (.nm 1) (.seq (.sl (.var 0) .no (.so (.lit (.int 63))))) [] (.bi .abs [(.bi .int [(.var 1)])])), (.lit (.int 0)), (.lit (.int 0)), (.lit (.int 1)), (.lit (.int 0))])))]
def F34 : Fun := ⟨1, 2, ir34⟩
/-- _law_draw: 0 _law_dice_here, 1 _law_faces, 2 _law_mixed, 3 _law_cell, 4 _law_digit -/
def ir35 : List S := [(.ifs (.and [(.val (.cmp .eq (.idx (.var 0) (.lit (.int 2))) (.lit (.int 0)))), (.val (.cmp .lt (.idx (.var 0) (.lit (.int 1))) (.bi .len [(.idx (.var 0) (.lit (.int 0)))])))]) [(.asg (.nm 3) (.idx (.idx (.var 0) (.lit (.int 0))) (.idx (.var 0) (.lit (.int 1))))), (.setix 0 (.lit (.int 1)) (.bop .add (.idx (.var 0) (.lit (.int 1))) (.lit (.int 1)))), (.ifs (.val (.cmp .ge (.var 3) (.bop .pow (.lit (.int 10)) (.lit (.int 18))))) [(.setix 0 (.lit (.int 2)) (.var 3))] [(.setix 0 (.lit (.int 3)) (.bop .mod (.bi .int [(.bop .add (.bop .add (.bop .mul (.idx (.var 0) (.lit (.int 3))) (.lit (.int 69621))) (.bop .mul (.var 3) (.lit (.int 40692)))) (.idx (.var 0) (.lit (.int 1))))]) (.lit (.int 2147483647))))])] []), (.ifs (.val (.cmp .gt (.idx (.var 0) (.lit (.int 2))) (.lit (.int 0)))) [(.asg (.nm 4) (.bop .mod (.bi .int [(.idx (.var 0) (.lit (.int 2)))]) (.var 1))), (.setix 0 (.lit (.int 2)) (.bop .fdiv (.bi .int [(.idx (.var 0) (.lit (.int 2)))]) (.var 1))), (.ret (.var 4))] []), (.setix 0 (.lit (.int 4)) (.bop .add (.idx (.var 0) (.lit (.int 4))) (.lit (.int 1)))), (.setix 0 (.lit (.int 3)) (.bop .mod (.bi .int [(.bop .add (.bop .add (.bop .mul (.idx (.var 0) (.lit (.int 3))) (.lit (.int 48271))) (.bop .mul (.idx (.var 0) (.lit (.int 4))) (.lit (.int 7919)))) (.lit (.int 1)))]) (.lit (.int 2147483647)))), (.asg (.nm 2) (.bop .mod (.bi .int [(.bop .mul (.idx (.var 0) (.lit (.int 3))) (.bop .add (.bop .fdiv (.idx (.var 0) (.lit (.int 3))) (.lit (.int 1009))) (.lit (.int 69623))))]) (.lit (.int 2147483399)))), (.asg (.nm 2) (.bop .mod (.bi .int [(.bop .mul (.var 2) (.bop .add (.bop .fdiv (.var 2) (.lit (.int 2003))) (.lit (.int 40693))))]) (.lit (.int 2147483563)))), (.ret (.bop .mod (.bi .int [(.bop .fdiv (.var 2) (.lit (.int 16)))]) (.var 1)))]
def F35 : Fun := ⟨2, 5, ir35⟩
/-- _law_lowest: 0 _law_top, 1 _law_bottom, 2 _law_one, 3 _law_other -/
def ir36 : List S := [(.par [2, 3] [(.bi .abs [(.var 0)]), (.var 1)]), (.whl (.val (.cmp .gt (.var 3) (.lit (.int 0)))) [(.par [2, 3] [(.var 3), (.bop .mod (.bi .int [(.var 2)]) (.var 3))])]), (.ret (.tup [(.bop .fdiv (.var 0) (.var 2)), (.bop .fdiv (.var 1) (.var 2))]))]
def F36 : Fun := ⟨2, 4, ir36⟩
/-- _law_sum: 0 _law_one, 1 _law_other, 2 _law_sign -/
def ir37 : List S := [(.ret (.call 36 [(.bop .add (.bop .mul (.idx (.var 0) (.lit (.int 0))) (.idx (.var 1) (.lit (.int 1)))) (.bop .mul (.bop .mul (.var 2) (.idx (.var 1) (.lit (.int 0)))) (.idx (.var 0) (.lit (.int 1))))), (.bop .mul (.idx (.var 0) (.lit (.int 1))) (.idx (.var 1) (.lit (.int 1))))]))]
def F37 : Fun := ⟨3, 3, ir37⟩
/-- _law_product: 0 _law_one, 1 _law_other -/
def ir38 : List S := [(.ret (.call 36 [(.bop .mul (.idx (.var 0) (.lit (.int 0))) (.idx (.var 1) (.lit (.int 0)))), (.bop .mul (.idx (.var 0) (.lit (.int 1))) (.idx (.var 1) (.lit (.int 1))))]))]
def F38 : Fun := ⟨2, 2, ir38⟩
/-- _law_less: 0 _law_one, 1 _law_other -/
def ir39 : List S := [(.ret (.cmp .lt (.bop .mul (.idx (.var 0) (.lit (.int 0))) (.idx (.var 1) (.lit (.int 1)))) (.bop .mul (.idx (.var 1) (.lit (.int 0))) (.idx (.var 0) (.lit (.int 1))))))]
def F39 : Fun := ⟨2, 2, ir39⟩
/-- _law_sorted: 0 _law_numbers_here, 1 _law_found, 2 _law_number_here, 3 _law_at, 4 _law_other -/
def ir40 : List S := [(.own 1 (.lst [])), (.fr (.nm 2) (.seq (.var 0)) [(.asg (.nm 3) (.bi .len [(.comp [4] (.nm 4) (.own 1) [(.nt (.val (.call 39 [(.var 2), (.var 4)])))] (.var 4))])), (.mut .insert 1 [(.var 3), (.var 2)])]), (.fz [1] (.ret (.var 1)))]
def F40 : Fun := ⟨1, 5, ir40⟩
/-- _law_number: 0 _law_dice_here, 1 _law_bottom -/
def ir41 : List S := [(.asg (.nm 1) (.idx (.lst [(.lit (.int 1)), (.lit (.int 2)), (.lit (.int 3)), (.lit (.int 4)), (.lit (.int 5)), (.lit (.int 6)), (.lit (.int 8)), (.lit (.int 10)), (.lit (.int 12)), (.lit (.int 60)), (.lit (.int 999983))]) (.call 35 [(.var 0), (.lit (.int 11))]))), (.ret (.call 36 [(.call 35 [(.var 0), (.bop .add (.var 1) (.lit (.int 1)))]), (.var 1)]))]
def F41 : Fun := ⟨1, 2, ir41⟩
/-- _law_numbers: 0 _law_dice_here, 1 _law_many, 2 _law_k -/
def ir42 : List S := [(.ret (.bi .tuple [(.comp [2] (.nm 2) (.rng1 (.var 1)) [] (.call 41 [(.var 0)]))]))]
def F42 : Fun := ⟨2, 3, ir42⟩
/-- _law_term: 0 _law_dice_here, 1 _law_people, 2 _law_deep, 3 _law_means, 4 _law_kind, 5 _law_parts, 6 _law_ends, 7 _law_k, 8 _law_part -/
def ir43 : List S := [(.asg (.nm 4) (.call 35 [(.var 0), (.lit (.int 8))])), (.ifs (.or [(.val (.cmp .eq (.var 2) (.lit (.int 1)))), (.val (.cmp .eq (.var 4) (.lit (.int 0))))]) [(.ifs (.val (.cmp .eq (.call 35 [(.var 0), (.lit (.int 5))]) (.lit (.int 0)))) [(.ret (.tup [(.lit (.str "fixed")), (.call 41 [(.var 0)])]))] []), (.ret (.tup [(.lit (.str "bid")), (.call 35 [(.var 0), (.var 1)])]))] []), (.asg (.nm 5) (.comp [7] (.nm 7) (.rng1 (.bop .add (.lit (.int 1)) (.call 35 [(.var 0), (.lit (.int 3))]))) [] (.call 43 [(.var 0), (.var 1), (.bop .sub (.var 2) (.lit (.int 1))), (.var 3)]))), (.ifs (.val (.cmp .eq (.var 4) (.lit (.int 1)))) [(.asg (.nm 6) (.call 40 [(.lst [(.call 41 [(.var 0)]), (.call 41 [(.var 0)])])])), (.ret (.tup [(.lit (.str "between")), (.idx (.var 6) (.lit (.int 0))), (.idx (.var 6) (.lit (.int 1))), (.idx (.var 5) (.lit (.int 0)))]))] []), (.ifs (.val (.cmp .eq (.var 4) (.lit (.int 2)))) [(.ret (.tup [(.lit (.str "least")), (.bi .tuple [(.var 5)])]))] []), (.ifs (.val (.cmp .eq (.var 4) (.lit (.int 3)))) [(.ret (.tup [(.lit (.str "greatest")), (.bi .tuple [(.var 5)])]))] []), (.ifs (.or [(.val (.cmp .eq (.var 4) (.lit (.int 4)))), (.nt (.val (.var 3)))]) [(.ret (.tup [(.lit (.str "ranked")), (.bop .add (.lit (.int 1)) (.call 35 [(.var 0), (.bi .len [(.var 5)])])), (.bi .tuple [(.var 5)])]))] []), (.ret (.tup [(.lit (.str "mean")), (.bi .tuple [(.comp [8] (.nm 8) (.seq (.var 5)) [] (.tup [(.bop .add (.lit (.int 1)) (.call 35 [(.var 0), (.lit (.int 5))])), (.var 8)]))])]))]
def F43 : Fun := ⟨4, 9, ir43⟩
/-- _law_rule_parts: 0 _law_dice_here, 1 _law_most, 2 _law_people, 3 _law_term_here, 4 _law_bids, 5 _law_person -/
def ir44 : List S := [(.asg (.nm 2) (.bop .add (.lit (.int 1)) (.call 35 [(.var 0), (.var 1)]))), (.asg (.nm 3) (.call 43 [(.var 0), (.var 2), (.bop .add (.lit (.int 1)) (.call 35 [(.var 0), (.lit (.int 4))])), (.lit (.bl true))])), (.ifs (.val (.cmp .eq (.call 35 [(.var 0), (.lit (.int 2))]) (.lit (.int 0)))) [(.asg (.nm 4) (.bi .tuple [(.comp [5] (.nm 5) (.rng1 (.var 2)) [] (.tup [(.bop .add (.lit (.int 1)) (.call 35 [(.var 0), (.lit (.int 3))])), (.tup [(.lit (.str "bid")), (.var 5)])]))])), (.asg (.nm 3) (.tup [(.lit (.str "mean")), (.tup [(.tup [(.bop .add (.lit (.int 1)) (.call 35 [(.var 0), (.lit (.int 3))])), (.var 3)]), (.tup [(.bop .add (.lit (.int 1)) (.call 35 [(.var 0), (.lit (.int 3))])), (.tup [(.lit (.str "mean")), (.var 4)])])])]))] []), (.ret (.tup [(.var 2), (.var 3)]))]
def F44 : Fun := ⟨2, 6, ir44⟩
/-- _law_value: 0 _law_term_here, 1 _law_bids, 2 _law_word, 3 _law_told, 4 _law_whole, 5 _law_weight, 6 _law_part -/
def ir45 : List S := [(.asg (.nm 2) (.idx (.var 0) (.lit (.int 0)))), (.ifs (.val (.cmp .eq (.var 2) (.lit (.str "bid")))) [(.ret (.idx (.var 1) (.idx (.var 0) (.lit (.int 1)))))] []), (.ifs (.val (.cmp .eq (.var 2) (.lit (.str "fixed")))) [(.ret (.idx (.var 0) (.lit (.int 1))))] []), (.ifs (.val (.cmp .eq (.var 2) (.lit (.str "mean")))) [(.asg (.nm 4) (.tup [(.lit (.int 0)), (.lit (.int 1))])), (.fr (.tu [(.nm 5), (.nm 6)]) (.seq (.idx (.var 0) (.lit (.int 1)))) [(.asg (.nm 4) (.call 37 [(.var 4), (.call 38 [(.tup [(.var 5), (.lit (.int 1))]), (.call 45 [(.var 6), (.var 1)])]), (.lit (.int 1))]))]), (.ret (.call 38 [(.var 4), (.tup [(.lit (.int 1)), (.bi .sum [(.comp [5, 6] (.tu [(.nm 5), (.nm 6)]) (.seq (.idx (.var 0) (.lit (.int 1)))) [] (.var 5))])])]))] []), (.ifs (.val (.cmp .eq (.var 2) (.lit (.str "between")))) [(.ret (.idx (.call 40 [(.lst [(.idx (.var 0) (.lit (.int 1))), (.idx (.var 0) (.lit (.int 2))), (.call 45 [(.idx (.var 0) (.lit (.int 3))), (.var 1)])])]) (.lit (.int 1))))] []), (.asg (.nm 3) (.call 40 [(.comp [6] (.nm 6) (.seq (.idx (.var 0) (.neg (.lit (.int 1))))) [] (.call 45 [(.var 6), (.var 1)]))])), (.ifs (.val (.cmp .eq (.var 2) (.lit (.str "least")))) [(.ret (.idx (.var 3) (.lit (.int 0))))] []), (.ifs (.val (.cmp .eq (.var 2) (.lit (.str "greatest")))) [(.ret (.idx (.var 3) (.neg (.lit (.int 1)))))] []), (.ret (.idx (.var 3) (.bop .sub (.bi .len [(.var 3)]) (.idx (.var 0) (.lit (.int 1))))))]
def F45 : Fun := ⟨2, 7, ir45⟩
/-- _law_lots: 0 _law_people, 1 _law_found, 2 _law_person, 3 _law_lot -/
def ir46 : List S := [(.asg (.nm 1) (.lst [(.tup [])])), (.fr (.nm 2) (.rng1 (.var 0)) [(.asg (.nm 1) (.bop .add (.var 1) (.comp [3] (.nm 3) (.seq (.var 1)) [] (.bop .add (.var 3) (.tup [(.var 2)])))))]), (.ret (.call 47 [(.var 1)]))]
def F46 : Fun := ⟨1, 4, ir46⟩
/-- _law_by_size: 0 _law_lots_here, 1 _law_found, 2 _law_size, 3 _law_lot -/
def ir47 : List S := [(.asg (.nm 1) (.lst [])), (.fr (.nm 2) (.rng1 (.bi .len [(.var 0)])) [(.asg (.nm 1) (.bop .add (.var 1) (.bi .sorted [(.comp [3] (.nm 3) (.seq (.var 0)) [(.val (.cmp .eq (.bi .len [(.var 3)]) (.var 2)))] (.var 3))])))]), (.ret (.var 1))]
def F47 : Fun := ⟨1, 4, ir47⟩
/-- _law_at_ends: 0 _law_people, 1 _law_lot, 2 _law_person -/
def ir48 : List S := [(.ret (.bi .tuple [(.comp [2] (.nm 2) (.rng1 (.var 0)) [] (.ife (.val (.cmp .inn (.var 2) (.var 1))) (.tup [(.lit (.int 1)), (.lit (.int 1))]) (.tup [(.lit (.int 0)), (.lit (.int 1))])))]))]
def F48 : Fun := ⟨2, 3, ir48⟩
/-- _law_corner: 0 _law_people, 1 _law_term_here, 2 _law_lot -/
def ir49 : List S := [(.ret (.call 45 [(.var 1), (.call 48 [(.var 0), (.var 2)])]))]
def F49 : Fun := ⟨3, 3, ir49⟩
/-- _law_wishing_more: 0 _law_wishes_here, 1 _law_number_here, 2 _law_person, 3 _law_wish -/
def ir50 : List S := [(.ret (.bi .tuple [(.comp [2, 3] (.tu [(.nm 2), (.nm 3)]) (.enum (.var 0)) [(.val (.call 39 [(.var 1), (.var 3)]))] (.var 2))]))]
def F50 : Fun := ⟨2, 4, ir50⟩
/-- _law_outcome: 0 _law_people, 1 _law_term_here, 2 _law_wishes_here, 3 _law_found, 4 _law_lot, 5 _law_person -/
def ir51 : List S := [(.own 3 (.lst [])), (.fr (.nm 4) (.seq (.call 46 [(.var 0)])) [(.mut .append 3 [(.idx (.call 40 [(.bop .add (.lst [(.call 49 [(.var 0), (.var 1), (.var 4)])]) (.comp [5] (.nm 5) (.seq (.var 4)) [] (.idx (.var 2) (.var 5))))]) (.lit (.int 0)))])]), (.fz [3] (.ret (.idx (.call 40 [(.var 3)]) (.neg (.lit (.int 1))))))]
def F51 : Fun := ⟨3, 6, ir51⟩
/-- _law_flag: 0 _law_told, 1 _law_due -/
def ir52 : List S := [(.ret (.and [(.isi (.var 0) .bool), (.cmp .eq (.var 0) (.var 1))]))]
def F52 : Fun := ⟨2, 2, ir52⟩
/-- _law_wishes: 0 _law_dice_here, 1 _law_people, 2 _law_term_here, 3 _law_found, 4 _law_person, 5 _law_kind, 6 _law_lots_here -/
def ir53 : List S := [(.own 3 (.bi .list [(.call 42 [(.var 0), (.var 1)])])), (.fr (.nm 4) (.rng1 (.var 1)) [(.asg (.nm 5) (.call 35 [(.var 0), (.lit (.int 6))])), (.ifs (.val (.cmp .eq (.var 5) (.lit (.int 0)))) [(.setix 3 (.var 4) (.idxO 3 (.lit (.int 0))))] []), (.ifs (.val (.cmp .eq (.var 5) (.lit (.int 1)))) [(.setix 3 (.var 4) (.idx (.lst [(.tup [(.lit (.int 0)), (.lit (.int 1))]), (.tup [(.lit (.int 1)), (.lit (.int 1))])]) (.call 35 [(.var 0), (.lit (.int 2))])))] []), (.ifs (.val (.cmp .eq (.var 5) (.lit (.int 2)))) [(.asg (.nm 6) (.call 46 [(.var 1)])), (.setix 3 (.var 4) (.call 49 [(.var 1), (.var 2), (.idx (.var 6) (.call 35 [(.var 0), (.bi .len [(.var 6)])]))]))] [])]), (.fz [3] (.ret (.bi .tuple [(.var 3)])))]
def F53 : Fun := ⟨3, 7, ir53⟩
/-- _law_put: 0 _law_bids, 1 _law_lot, 2 _law_number_here, 3 _law_person -/
def ir54 : List S := [(.ret (.bi .tuple [(.comp [3] (.nm 3) (.rng1 (.bi .len [(.var 0)])) [] (.ife (.val (.cmp .inn (.var 3) (.var 1))) (.var 2) (.idx (.var 0) (.var 3))))]))]
def F54 : Fun := ⟨3, 4, ir54⟩
/-- _law_moving: 0 _law_term_here, 1 _law_wishes_here, 2 _law_bids, 3 _law_number_here, 4 _law_above, 5 _law_below, 6 _law_person -/
def ir55 : List S := [(.asg (.nm 3) (.call 45 [(.var 0), (.var 2)])), (.asg (.nm 4) (.call 50 [(.var 1), (.var 3)])), (.asg (.nm 5) (.bi .tuple [(.comp [6] (.nm 6) (.rng1 (.bi .len [(.var 1)])) [(.val (.call 39 [(.idx (.var 1) (.var 6)), (.var 3)]))] (.var 6))])), (.ifs (.val (.cmp .eq (.call 45 [(.var 0), (.call 54 [(.var 2), (.var 4), (.tup [(.lit (.int 1)), (.lit (.int 1))])])]) (.var 3))) [(.asg (.nm 4) (.tup []))] []), (.ifs (.val (.cmp .eq (.call 45 [(.var 0), (.call 54 [(.var 2), (.var 5), (.tup [(.lit (.int 0)), (.lit (.int 1))])])]) (.var 3))) [(.asg (.nm 5) (.tup []))] []), (.ret (.tup [(.var 4), (.var 5)]))]
def F55 : Fun := ⟨3, 7, ir55⟩
/-- _law_some_bids: 0 _law_dice_here, 1 _law_people, 2 _law_term_here, 3 _law_wishes_here, 4 _law_kind, 5 _law_number_here, 6 _law_other, 7 _law_found, 8 _law_person, 9 _law_bid -/
def ir56 : List S := [(.asg (.nm 4) (.call 35 [(.var 0), (.lit (.int 5))])), (.ifs (.val (.cmp .eq (.var 4) (.lit (.int 0)))) [(.ret (.call 42 [(.var 0), (.var 1)]))] []), (.ifs (.val (.cmp .eq (.var 4) (.lit (.int 1)))) [(.ret (.bi .tuple [(.comp [8] (.nm 8) (.rng1 (.var 1)) [] (.idx (.lst [(.tup [(.lit (.int 0)), (.lit (.int 1))]), (.tup [(.lit (.int 1)), (.lit (.int 1))])]) (.call 35 [(.var 0), (.lit (.int 2))])))]))] []), (.ifs (.val (.cmp .eq (.var 4) (.lit (.int 2)))) [(.ret (.var 3))] []), (.asg (.nm 5) (.call 51 [(.var 1), (.var 2), (.var 3)])), (.asg (.nm 6) (.call 41 [(.var 0)])), (.own 7 (.lst [])), (.fr (.nm 8) (.rng1 (.var 1)) [(.asg (.nm 9) (.var 6)), (.ifs (.val (.call 39 [(.var 5), (.idx (.var 3) (.var 8))])) [(.asg (.nm 9) (.tup [(.lit (.int 1)), (.lit (.int 1))]))] []), (.ifs (.val (.call 39 [(.idx (.var 3) (.var 8)), (.var 5)])) [(.asg (.nm 9) (.tup [(.lit (.int 0)), (.lit (.int 1))]))] []), (.ifs (.and [(.val (.cmp .eq (.var 4) (.lit (.int 4)))), (.val (.cmp .eq (.call 35 [(.var 0), (.lit (.int 4))]) (.lit (.int 0))))]) [(.asg (.nm 9) (.call 41 [(.var 0)]))] []), (.mut .append 7 [(.var 9)])]), (.fz [7] (.ret (.bi .tuple [(.var 7)])))]
def F56 : Fun := ⟨4, 10, ir56⟩
/-- _law_odd: 0 _law_dice_here, 1 _law_things -/
def ir57 : List S := [(.asg (.nm 1) (.lst [(.lit .non), (.lit (.bl true)), (.lit (.bl false)), (.lit (.int 0)), (.lit (.int 1)), (.neg (.lit (.int 1))), (.bop .pow (.lit (.int 10)) (.lit (.int 30))), (.lit (.str "")), (.lit (.str "a")), (.lit (.str "0")), (.tup []), (.lst []), .emp, (.tup [(.lit (.int 0)), (.lit (.int 1))]), (.tup [(.lit (.int 1)), (.lit (.int 1))]), (.tup [(.tup [(.lit (.int 0)), (.lit (.int 1))])]), (.lst [(.tup [(.lit (.int 0)), (.lit (.int 1))])])])), (.asg (.nm 1) (.bop .add (.var 1) (.lst [(.tup [(.lit (.int 2)), (.lit (.int 1))]), (.tup [(.lit (.int 1)), (.lit (.int 2))]), (.tup [(.tup [(.lit (.int 2)), (.lit (.int 4))])]), (.tup [(.tup [(.lit (.bl true)), (.lit (.int 1))])]), (.tup [(.tup [(.lit (.int 0)), (.lit (.int 1))]), (.tup [(.lit (.int 1)), (.lit (.int 1))])]), (.tup [(.tup [(.lit (.int 1)), (.lit (.int 0))])]), (.tup [(.lit .non)]), (.tup [(.lit (.str "0"))]), (.tup [(.tup [(.lit (.int 0))])])]))), (.ret (.idx (.var 1) (.call 35 [(.var 0), (.bi .len [(.var 1)])])))]
def F57 : Fun := ⟨1, 2, ir57⟩
/-- _law_spoiled: 0 _law_dice_here, 1 _law_numbers_here, 2 _law_at, 3 _law_odd_here, 4 _law_kind -/
def ir58 : List S := [(.asg (.nm 2) (.call 35 [(.var 0), (.bi .len [(.var 1)])])), (.asg (.nm 3) (.lst [(.lit .non), (.lit (.bl true)), (.lit (.int 0)), (.lit (.str "0")), (.tup [(.lit (.int 2)), (.lit (.int 4))]), (.tup [(.lit (.int 3)), (.lit (.int 2))]), (.tup [(.neg (.lit (.int 1))), (.lit (.int 2))]), (.tup [(.lit (.int 0)), (.lit (.int 2))]), (.tup [(.lit (.int 1)), (.lit (.int 0))]), (.lst [(.lit (.int 0)), (.lit (.int 1))]), (.tup [(.lit (.bl true)), (.lit (.int 1))]), (.tup [(.lit (.int 0)), (.lit (.bl true))]), (.tup [(.lit (.int 0)), (.lit (.int 1)), (.lit (.int 1))]), (.tup [])])), (.asg (.nm 4) (.call 35 [(.var 0), (.lit (.int 8))])), (.ifs (.val (.cmp .eq (.var 4) (.lit (.int 0)))) [(.ret (.bi .list [(.var 1)]))] []), (.ifs (.val (.cmp .eq (.var 4) (.lit (.int 1)))) [(.ret (.bop .add (.sl (.var 1) .no (.so (.var 2))) (.sl (.var 1) (.so (.bop .add (.var 2) (.lit (.int 1)))) .no)))] []), (.ifs (.val (.cmp .eq (.var 4) (.lit (.int 2)))) [(.ret (.bop .add (.var 1) (.tup [(.tup [(.lit (.int 0)), (.lit (.int 1))])])))] []), (.ifs (.val (.cmp .eq (.var 4) (.lit (.int 3)))) [(.ret (.call 57 [(.var 0)]))] []), (.ret (.bop .add (.bop .add (.sl (.var 1) .no (.so (.var 2))) (.tup [(.idx (.var 3) (.call 35 [(.var 0), (.lit (.int 14))]))])) (.sl (.var 1) (.so (.bop .add (.var 2) (.lit (.int 1)))) .no)))]
def F58 : Fun := ⟨2, 5, ir58⟩
/-- _law_is_number: 0 _law_thing, 1 _law_part -/
def ir59 : List S := [(.ifs (.or [(.nt (.val (.isi (.var 0) .tuple))), (.val (.cmp .ne (.bi .len [(.var 0)]) (.lit (.int 2))))]) [(.ret (.lit (.bl false)))] []), (.ifs (.nt (.val (.bi .all [(.comp [1] (.nm 1) (.seq (.var 0)) [] (.and [(.isi (.var 1) .int), (.nt (.val (.isi (.var 1) .bool)))]))]))) [(.ret (.lit (.bl false)))] []), (.ret (.and [(.chn .le .le (.lit (.int 0)) (.idx (.var 0) (.lit (.int 0))) (.idx (.var 0) (.lit (.int 1)))), (.cmp .gt (.idx (.var 0) (.lit (.int 1))) (.lit (.int 0))), (.cmp .eq (.call 36 [(.idx (.var 0) (.lit (.int 0))), (.idx (.var 0) (.lit (.int 1)))]) (.var 0))]))]
def F59 : Fun := ⟨1, 2, ir59⟩
/-- _law_are_numbers: 0 _law_thing, 1 _law_many, 2 _law_part -/
def ir60 : List S := [(.ret (.and [(.isi (.var 0) .tuple), (.cmp .eq (.bi .len [(.var 0)]) (.var 1)), (.bi .all [(.comp [2] (.nm 2) (.seq (.var 0)) [] (.call 59 [(.var 2)]))])]))]
def F60 : Fun := ⟨2, 3, ir60⟩
/-- _law_fine: 0 _law_dice_here, 1 _law_bids, 2 _law_person -/
def ir61 : List S := [(.ifs (.val (.cmp .gt (.call 35 [(.var 0), (.lit (.int 6))]) (.lit (.int 0)))) [(.ret (.var 1))] []), (.asg (.nm 2) (.call 35 [(.var 0), (.bi .len [(.var 1)])])), (.ret (.call 54 [(.var 1), (.tup [(.var 2)]), (.call 36 [(.call 35 [(.var 0), (.bop .add (.bop .pow (.lit (.int 10)) (.lit (.int 40))) (.lit (.int 2)))]), (.bop .add (.bop .pow (.lit (.int 10)) (.lit (.int 40))) (.lit (.int 1)))])]))]
def F61 : Fun := ⟨2, 3, ir61⟩
/-- law: 0 _law_script, 1 _law_dice_here, 2 _law_turn, 3 _law_rule, 4 _law_wishes_here, 5 _law_more, 6 _law_people, 7 _law_term_here, 8 _law_bids, 9 _law_thing, 10 _law_shown, 11 _law_due -/
def ir62 : List S := [(.asg (.nm 1) (.call 34 [(.var 0)])), (.fr (.nm 2) (.rng1 (.lit (.int 3))) [(.asg (.tu [(.nm 6), (.nm 7)]) (.call 44 [(.var 1), (.lit (.int 6))])), (.asg (.nm 3) (.mk 3 [(.var 6), (.var 7)])), (.asg (.nm 4) (.call 53 [(.var 1), (.var 6), (.var 7)])), (.fr (.nm 5) (.rng1 (.lit (.int 3))) [(.asg (.nm 8) (.call 61 [(.var 1), (.call 56 [(.var 1), (.var 6), (.var 7), (.var 4)])])), (.ifs (.nt (.val (.call 52 [(.call 25 [(.var 3), (.var 4), (.var 8)]), (.cmp .eq (.call 55 [(.var 7), (.var 4), (.var 8)]) (.tup [(.tup []), (.tup [])]))]))) [(.ret (.lit (.bl false)))] []), (.asg (.nm 9) (.call 58 [(.var 1), (.var 8)])), (.asg (.nm 10) (.bi .repr [(.var 9)])), (.asg (.nm 11) (.and [(.call 60 [(.var 9), (.var 6)]), (.cmp .eq (.call 55 [(.var 7), (.var 4), (.var 9)]) (.tup [(.tup []), (.tup [])]))])), (.ifs (.or [(.nt (.val (.call 52 [(.call 25 [(.var 3), (.var 4), (.var 9)]), (.var 11)]))), (.val (.cmp .ne (.bi .repr [(.var 9)]) (.var 10)))]) [(.ret (.lit (.bl false)))] [])])]), (.ret (.lit (.bl true)))]
def F62 : Fun := ⟨1, 12, ir62⟩
/-- Rule.__init__: 0 self, 1 people, 2 term, 3 many -/
def ir32 : List S := [(.ifs (.nt (.val (.call 15 [(.var 1), (.lit (.int 1)), (.lit (.int 6))]))) [.bad] []), (.asg (.nm 3) (.call 31 [(.var 1), (.var 2), (.lit (.int 8))])), (.ifs (.or [(.val (.cmp .is (.var 3) (.lit .non))), (.val (.cmp .gt (.var 3) (.lit (.int 60))))]) [.bad] []), (.setat 0 1 (.var 1)), (.setat 0 2 (.var 2))]
def F32 : Fun := ⟨3, 4, ir32⟩
/-- Rule.__eq__: 0 self, 1 other -/
def ir33 : List S := [(.ifs (.nt (.val .bad)) [(.ret (.lit (.bl false)))] []), (.ret (.and [(.cmp .eq (.att (.var 0) 1) (.att (.var 1) 1)), (.cmp .eq (.att (.var 0) 2) (.att (.var 1) 2))]))]
def F33 : Fun := ⟨2, 2, ir33⟩
def GT_k38 : List (Nat × Fun) := [(0, F0), (1, F1), (2, F2), (3, F3), (4, F4), (5, F5), (6, F6), (7, F7), (8, F8), (9, F9), (10, F10), (11, F11), (12, F12), (13, F13), (15, F15), (16, F16), (17, F17), (18, F18), (19, F19), (20, F20), (21, F21), (22, F22), (23, F23), (24, F24), (25, F25), (26, F26), (27, F27), (28, F28), (29, F29), (30, F30), (31, F31), (34, F34), (35, F35), (36, F36), (37, F37), (38, F38), (39, F39), (40, F40), (41, F41), (42, F42), (43, F43), (44, F44), (45, F45), (46, F46), (47, F47), (48, F48), (49, F49), (50, F50), (51, F51), (52, F52), (53, F53), (54, F54), (55, F55), (56, F56), (57, F57), (58, F58), (59, F59), (60, F60), (61, F61), (62, F62), (32, F32), (33, F33)]
/-- a program that has these defs -/
class B_k38 (P : Prog) : Prop where
  fn : ∀ f F, GT_k38.lookup f = some F → P.fn f = some F
theorem fn0 {P : Prog} [h : B_k38 P] : P.fn 0 = some F0 := h.fn _ _ rfl
theorem fn1 {P : Prog} [h : B_k38 P] : P.fn 1 = some F1 := h.fn _ _ rfl
theorem fn2 {P : Prog} [h : B_k38 P] : P.fn 2 = some F2 := h.fn _ _ rfl
theorem fn3 {P : Prog} [h : B_k38 P] : P.fn 3 = some F3 := h.fn _ _ rfl
theorem fn4 {P : Prog} [h : B_k38 P] : P.fn 4 = some F4 := h.fn _ _ rfl
theorem fn5 {P : Prog} [h : B_k38 P] : P.fn 5 = some F5 := h.fn _ _ rfl
theorem fn6 {P : Prog} [h : B_k38 P] : P.fn 6 = some F6 := h.fn _ _ rfl
theorem fn7 {P : Prog} [h : B_k38 P] : P.fn 7 = some F7 := h.fn _ _ rfl
theorem fn8 {P : Prog} [h : B_k38 P] : P.fn 8 = some F8 := h.fn _ _ rfl
theorem fn9 {P : Prog} [h : B_k38 P] : P.fn 9 = some F9 := h.fn _ _ rfl
theorem fn10 {P : Prog} [h : B_k38 P] : P.fn 10 = some F10 := h.fn _ _ rfl
theorem fn11 {P : Prog} [h : B_k38 P] : P.fn 11 = some F11 := h.fn _ _ rfl
theorem fn12 {P : Prog} [h : B_k38 P] : P.fn 12 = some F12 := h.fn _ _ rfl
theorem fn13 {P : Prog} [h : B_k38 P] : P.fn 13 = some F13 := h.fn _ _ rfl
theorem fn15 {P : Prog} [h : B_k38 P] : P.fn 15 = some F15 := h.fn _ _ rfl
theorem fn16 {P : Prog} [h : B_k38 P] : P.fn 16 = some F16 := h.fn _ _ rfl
theorem fn17 {P : Prog} [h : B_k38 P] : P.fn 17 = some F17 := h.fn _ _ rfl
theorem fn18 {P : Prog} [h : B_k38 P] : P.fn 18 = some F18 := h.fn _ _ rfl
theorem fn19 {P : Prog} [h : B_k38 P] : P.fn 19 = some F19 := h.fn _ _ rfl
theorem fn20 {P : Prog} [h : B_k38 P] : P.fn 20 = some F20 := h.fn _ _ rfl
theorem fn21 {P : Prog} [h : B_k38 P] : P.fn 21 = some F21 := h.fn _ _ rfl
theorem fn22 {P : Prog} [h : B_k38 P] : P.fn 22 = some F22 := h.fn _ _ rfl
theorem fn23 {P : Prog} [h : B_k38 P] : P.fn 23 = some F23 := h.fn _ _ rfl
theorem fn24 {P : Prog} [h : B_k38 P] : P.fn 24 = some F24 := h.fn _ _ rfl
theorem fn25 {P : Prog} [h : B_k38 P] : P.fn 25 = some F25 := h.fn _ _ rfl
theorem fn26 {P : Prog} [h : B_k38 P] : P.fn 26 = some F26 := h.fn _ _ rfl
theorem fn27 {P : Prog} [h : B_k38 P] : P.fn 27 = some F27 := h.fn _ _ rfl
theorem fn28 {P : Prog} [h : B_k38 P] : P.fn 28 = some F28 := h.fn _ _ rfl
theorem fn29 {P : Prog} [h : B_k38 P] : P.fn 29 = some F29 := h.fn _ _ rfl
theorem fn30 {P : Prog} [h : B_k38 P] : P.fn 30 = some F30 := h.fn _ _ rfl
theorem fn31 {P : Prog} [h : B_k38 P] : P.fn 31 = some F31 := h.fn _ _ rfl
theorem fn34 {P : Prog} [h : B_k38 P] : P.fn 34 = some F34 := h.fn _ _ rfl
theorem fn35 {P : Prog} [h : B_k38 P] : P.fn 35 = some F35 := h.fn _ _ rfl
theorem fn36 {P : Prog} [h : B_k38 P] : P.fn 36 = some F36 := h.fn _ _ rfl
theorem fn37 {P : Prog} [h : B_k38 P] : P.fn 37 = some F37 := h.fn _ _ rfl
theorem fn38 {P : Prog} [h : B_k38 P] : P.fn 38 = some F38 := h.fn _ _ rfl
theorem fn39 {P : Prog} [h : B_k38 P] : P.fn 39 = some F39 := h.fn _ _ rfl
theorem fn40 {P : Prog} [h : B_k38 P] : P.fn 40 = some F40 := h.fn _ _ rfl
theorem fn41 {P : Prog} [h : B_k38 P] : P.fn 41 = some F41 := h.fn _ _ rfl
theorem fn42 {P : Prog} [h : B_k38 P] : P.fn 42 = some F42 := h.fn _ _ rfl
theorem fn43 {P : Prog} [h : B_k38 P] : P.fn 43 = some F43 := h.fn _ _ rfl
theorem fn44 {P : Prog} [h : B_k38 P] : P.fn 44 = some F44 := h.fn _ _ rfl
theorem fn45 {P : Prog} [h : B_k38 P] : P.fn 45 = some F45 := h.fn _ _ rfl
theorem fn46 {P : Prog} [h : B_k38 P] : P.fn 46 = some F46 := h.fn _ _ rfl
theorem fn47 {P : Prog} [h : B_k38 P] : P.fn 47 = some F47 := h.fn _ _ rfl
theorem fn48 {P : Prog} [h : B_k38 P] : P.fn 48 = some F48 := h.fn _ _ rfl
theorem fn49 {P : Prog} [h : B_k38 P] : P.fn 49 = some F49 := h.fn _ _ rfl
theorem fn50 {P : Prog} [h : B_k38 P] : P.fn 50 = some F50 := h.fn _ _ rfl
theorem fn51 {P : Prog} [h : B_k38 P] : P.fn 51 = some F51 := h.fn _ _ rfl
theorem fn52 {P : Prog} [h : B_k38 P] : P.fn 52 = some F52 := h.fn _ _ rfl
theorem fn53 {P : Prog} [h : B_k38 P] : P.fn 53 = some F53 := h.fn _ _ rfl
theorem fn54 {P : Prog} [h : B_k38 P] : P.fn 54 = some F54 := h.fn _ _ rfl
theorem fn55 {P : Prog} [h : B_k38 P] : P.fn 55 = some F55 := h.fn _ _ rfl
theorem fn56 {P : Prog} [h : B_k38 P] : P.fn 56 = some F56 := h.fn _ _ rfl
theorem fn57 {P : Prog} [h : B_k38 P] : P.fn 57 = some F57 := h.fn _ _ rfl
theorem fn58 {P : Prog} [h : B_k38 P] : P.fn 58 = some F58 := h.fn _ _ rfl
theorem fn59 {P : Prog} [h : B_k38 P] : P.fn 59 = some F59 := h.fn _ _ rfl
theorem fn60 {P : Prog} [h : B_k38 P] : P.fn 60 = some F60 := h.fn _ _ rfl
theorem fn61 {P : Prog} [h : B_k38 P] : P.fn 61 = some F61 := h.fn _ _ rfl
theorem fn62 {P : Prog} [h : B_k38 P] : P.fn 62 = some F62 := h.fn _ _ rfl
theorem fn32 {P : Prog} [h : B_k38 P] : P.fn 32 = some F32 := h.fn _ _ rfl
theorem fn33 {P : Prog} [h : B_k38 P] : P.fn 33 = some F33 := h.fn _ _ rfl
end Py
end
section
/-! PyEv: the evaluator, step by step. -/
namespace Py
open PySem (Str PyData)
open L2 (ixN atI)

/-- the same, told with a proof that is no rfl (the kernel then never opens f) -/
theorem ret_bnd' {α β : Type} (a : α) (f : α → M β) : bnd (ret a) f = f a := by
  have h : ∀ s, bnd (ret a) f s = f a s := fun s => ret_bnd a f ▸ Eq.refl _
  exact funext h
/-- how a def ends -/
def fin (x : Fl × Env) : M EV := match x.1 with
  | .rt v => ret v
  | .nx => ret .non
  | _ => bad
theorem callF {P : Prog} {f : Nat} {F : Fun} (h : P.fn f = some F) {d : Nat} (hd : 1 ≤ d) {vs : List EV} (hl : vs.length = F.ar) :
    callD P d f vs = bnd (evSs P.tab (callD P (d - 1)) (callD P (d - 2)) P.W (vs.map Slot.sh ++ List.replicate (F.n - F.ar) Slot.un) F.body) fin := by
  obtain ⟨e, rfl⟩ : ∃ e, d = e + 1 := ⟨d - 1, by omega⟩
  rw [callD_succ]
  unfold stepD
  rw [h]
  simp only []
  rw [if_pos hl]
  rfl
section
variable {T : Tab} {C C1 : Nat → List EV → M EV} {W : Nat} {ρ : Env}
/-- a statement, then the others -/
def nxt (k : Env → M (Fl × Env)) (x : Fl × Env) : M (Fl × Env) := match x.1 with
  | .nx => k x.2
  | _ => ret x
theorem nxt_nx {k : Env → M (Fl × Env)} {ρ : Env} : nxt k (.nx, ρ) = k ρ := rfl
theorem nxt_rt {k : Env → M (Fl × Env)} {ρ : Env} {v : EV} : nxt k (.rt v, ρ) = ret (.rt v, ρ) := rfl
theorem nxt_bk {k : Env → M (Fl × Env)} {ρ : Env} : nxt k (.bk, ρ) = ret (.bk, ρ) := rfl
theorem nxt_ct {k : Env → M (Fl × Env)} {ρ : Env} : nxt k (.ct, ρ) = ret (.ct, ρ) := rfl
theorem fin_nx {ρ : Env} : fin (.nx, ρ) = ret .non := rfl
theorem fin_rt {ρ : Env} {v : EV} : fin (.rt v, ρ) = ret v := rfl
theorem evSs_nil : evSs T C C1 W ρ [] = ret (.nx, ρ) := by rw [evSs]
theorem evSs_cons {s : S} {r : List S} : evSs T C C1 W ρ (s :: r) = bnd (evS T C C1 W ρ s) (nxt fun ρ => evSs T C C1 W ρ r) := by
  rw [evSs]
  rfl
/-- a turn of a for -/
def trn (f : EV → Env → M (Fl × Env)) (r : List EV) (x : Fl × Env) : M (Fl × Env) := match x.1 with
  | .nx => forL f r x.2
  | .ct => forL f r x.2
  | .bk => ret (.nx, x.2)
  | .rt w => ret (.rt w, x.2)
theorem forL_cons {f : EV → Env → M (Fl × Env)} {v : EV} {r : List EV} {ρ : Env} : forL f (v :: r) ρ = bnd (f v ρ) (trn f r) := rfl
/-- a turn of a while -/
def wht (y : Fl × Env) : Sum Env (Fl × Env) := match y.1 with
  | .nx => .inl y.2
  | .ct => .inl y.2
  | .bk => .inr (.nx, y.2)
  | .rt v => .inr (.rt v, y.2)
theorem evS_whl {c : Te} {b : List S} : evS T C C1 W ρ (.whl c b) = loopW (fun ρ => bnd (evT T C C1 ρ c) fun r => if r = true then bnd (evSs T C C1 W ρ b) fun y => ret (wht y) else ret (.inr (.nx, ρ))) W ρ := by
  rw [evS]
  rfl
/-- a turn of a for: the target, then the body -/
noncomputable def tgb (T : Tab) (C C1 : Nat → List EV → M EV) (W : Nat) (t : Tgt) (b : List S) (v : EV) (ρ : Env) : M (Fl × Env) := match asgT t v ρ with
  | some ρ' => evSs T C C1 W ρ' b
  | none => bad
theorem evS_fr {t : Tgt} {it : It} {b : List S} (h : itOwn it = false) : evS T C C1 W ρ (.fr t it b) = bnd (evI T C C1 ρ it) fun l => forL (tgb T C C1 W t b) l ρ := by
  rw [evS, if_neg (by rw [h]; exact Bool.false_ne_true)]
  rfl
/-- a turn of a comprehension -/
noncomputable def cmp1e (T : Tab) (C C1 : Nat → List EV → M EV) (ρ : Env) (t : Tgt) (ifs : List Te) (e : E) (v : EV) : M (Option EV) := match asgT t v ρ with
  | none => bad
  | some ρ' => bnd (evAll T C C1 ρ' ifs) fun r => if r = true then bnd (evE T C C1 ρ' e) fun x => ret (some x) else ret none
theorem evE_comp {own : List Nat} {t : Tgt} {it : It} {ifs : List Te} {e : E} : evE T C C1 ρ (.comp own t it ifs e) = bnd (evI T C C1 ρ it) fun l => bnd (compL (fun v => noex (cmp1e T C C1 (wipeE ρ own) t ifs e v)) l) fun l => if l.length < szl then ret (.lst l) else bad := by
  rw [evE]
  rfl
end
/-! ### loops -/
theorem forL_nil {f : EV → Env → M (Fl × Env)} {ρ : Env} : forL f [] ρ = ret (.nx, ρ) := rfl
/-- a for that goes on to the end, what it holds being told by a fold -/
theorem forL_fold {α σ : Type} (enc : α → EV) (I : σ → Env → Prop) (g : σ → α → σ) {f : EV → Env → M (Fl × Env)} (l : List α)
    (h : ∀ s x ρ, x ∈ l → I s ρ → ∃ ρ', f (enc x) ρ = ret (.nx, ρ') ∧ I (g s x) ρ') : ∀ s ρ, I s ρ → ∃ ρ', forL f (l.map enc) ρ = ret (.nx, ρ') ∧ I (l.foldl g s) ρ' := by
  induction l with
  | nil => exact fun s ρ i => ⟨ρ, rfl, i⟩
  | cons x r ih =>
    intro s ρ i
    obtain ⟨ρ1, e1, i1⟩ := h s x ρ List.mem_cons_self i
    obtain ⟨ρ2, e2, i2⟩ := ih (fun s x ρ hx => h s x ρ (List.mem_cons_of_mem _ hx)) (g s x) ρ1 i1
    refine ⟨ρ2, ?_, i2⟩
    rw [List.map_cons]
    unfold forL
    rw [e1, ret_bnd]
    exact e2
/-- .., by index -/
theorem forL_idx {α : Type} (enc : α → EV) (I : Nat → Env → Prop) {f : EV → Env → M (Fl × Env)} (l : List α)
    (h : ∀ i (hi : i < l.length) ρ, I i ρ → ∃ ρ', f (enc l[i]) ρ = ret (.nx, ρ') ∧ I (i + 1) ρ') {ρ : Env} (h0 : I 0 ρ) : ∃ ρ', forL f (l.map enc) ρ = ret (.nx, ρ') ∧ I l.length ρ' := by
  have key : ∀ (k : Nat) (ρ : Env), k ≤ l.length → I (l.length - k) ρ → ∃ ρ', forL f ((l.drop (l.length - k)).map enc) ρ = ret (.nx, ρ') ∧ I l.length ρ' := by
    intro k
    induction k with
    | zero =>
      intro ρ _ i
      rw [Nat.sub_zero] at i ⊢
      rw [List.drop_length]
      exact ⟨ρ, rfl, i⟩
    | succ k ih =>
      intro ρ hk i
      have hi : l.length - (k + 1) < l.length := by omega
      obtain ⟨ρ1, e1, i1⟩ := h _ hi ρ i
      have e : l.length - (k + 1) + 1 = l.length - k := by omega
      rw [e] at i1
      obtain ⟨ρ2, e2, i2⟩ := ih ρ1 (by omega) i1
      refine ⟨ρ2, ?_, i2⟩
      rw [List.drop_eq_getElem_cons hi, List.map_cons, e]
      unfold forL
      rw [e1, ret_bnd]
      exact e2
  have := key l.length ρ (Nat.le_refl _) (by rw [Nat.sub_self]; exact h0)
  rw [Nat.sub_self] at this
  exact this
/-- .., with a store: the state moves on -/
theorem forL_inv {f : EV → Env → M (Fl × Env)} (I : List EV → Env → Store → Prop)
    (h : ∀ v r ρ s, I (v :: r) ρ s → ∃ ρ' s', f v ρ s = .ok (.nx, ρ') s' ∧ I r ρ' s') : ∀ l ρ s, I l ρ s → ∃ ρ' s', forL f l ρ s = .ok (.nx, ρ') s' ∧ I [] ρ' s' := by
  intro l
  induction l with
  | nil => exact fun ρ s i => ⟨ρ, s, rfl, i⟩
  | cons x r ih =>
    intro ρ s i
    obtain ⟨ρ1, s1, e1, i1⟩ := h x r ρ s i
    obtain ⟨ρ2, s2, e2, i2⟩ := ih ρ1 s1 i1
    refine ⟨ρ2, s2, ?_, i2⟩
    unfold forL bnd
    rw [e1]
    exact e2
/-- a comprehension -/
theorem compL_map {α : Type} (enc : α → EV) (g : α → EV) {f : EV → M (Option EV)} (l : List α) (h : ∀ x, x ∈ l → f (enc x) = ret (some (g x))) : compL f (l.map enc) = ret (l.map g) := by
  induction l with
  | nil => rfl
  | cons x r ih =>
    rw [List.map_cons]
    unfold compL
    rw [h x List.mem_cons_self, ret_bnd, ih fun y hy => h y (List.mem_cons_of_mem _ hy), ret_bnd]
    rfl
theorem compL_filter {α : Type} (enc : α → EV) (p : α → Bool) (g : α → EV) {f : EV → M (Option EV)} (l : List α) (h : ∀ x, x ∈ l → f (enc x) = ret (if p x = true then some (g x) else none)) : compL f (l.map enc) = ret ((l.filter p).map g) := by
  induction l with
  | nil => rfl
  | cons x r ih =>
    rw [List.map_cons]
    unfold compL
    rw [h x List.mem_cons_self, ret_bnd, ih fun y hy => h y (List.mem_cons_of_mem _ hy), ret_bnd, List.filter_cons]
    cases p x <;> rfl
/-- .., with a store -/
theorem compL_st {α β : Type} (enc : α → EV) (dec : β → EV) (I : Store → Prop) (Pr : β → Prop) {f : EV → M (Option EV)} (l : List α) (h : ∀ x s, x ∈ l → I s → ∃ b s', f (enc x) s = .ok (some (dec b)) s' ∧ Pr b ∧ I s') :
    ∀ s, I s → ∃ (bs : List β) (s' : Store), compL f (l.map enc) s = .ok (bs.map dec) s' ∧ bs.length = l.length ∧ (∀ b ∈ bs, Pr b) ∧ I s' := by
  induction l with
  | nil => exact fun s i => ⟨[], s, rfl, rfl, (fun b hb => nomatch hb), i⟩
  | cons x r ih =>
    intro s i
    obtain ⟨b, s1, e1, p1, i1⟩ := h x s List.mem_cons_self i
    obtain ⟨bs, s2, e2, l2, p2, i2⟩ := ih (fun y s hy => h y s (List.mem_cons_of_mem _ hy)) s1 i1
    refine ⟨b :: bs, s2, ?_, by simp [l2], (fun c hc => ?_), i2⟩
    · rw [List.map_cons]
      unfold compL bnd
      rw [e1]
      simp only []
      rw [e2]
      rfl
    · rcases List.mem_cons.mp hc with rfl | hc
      · exact p1
      · exact p2 c hc
/-- a while -/
theorem loopW_stop {f : Env → M (Sum Env (Fl × Env))} {n : Nat} {ρ : Env} {x : Fl × Env} (hn : 1 ≤ n) (h : f ρ = ret (.inr x)) : loopW f n ρ = ret x := by
  obtain ⟨m, rfl⟩ : ∃ m, n = m + 1 := ⟨n - 1, by omega⟩
  unfold loopW
  rw [h]
  rfl
theorem loopW_step {f : Env → M (Sum Env (Fl × Env))} {n : Nat} {ρ ρ' : Env} (hn : 1 ≤ n) (h : f ρ = ret (.inl ρ')) : loopW f n ρ = loopW f (n - 1) ρ' := by
  obtain ⟨m, rfl⟩ : ∃ m, n = m + 1 := ⟨n - 1, by omega⟩
  conv => lhs; unfold loopW
  rw [h]
  rfl
theorem noex_ret {α : Type} (a : α) : noex (ret a) = ret a := rfl
theorem noex_ok' {α : Type} {m : M α} {s s' : Store} {a : α} (h : m s = .ok a s') : noex m s = .ok a s' := by unfold noex; rw [h]
theorem bnd_at {α β : Type} {m : M α} {f : α → M β} {s s' : Store} {a : α} (h : m s = .ok a s') : bnd m f s = f a s' := by unfold bnd; rw [h]
theorem ite_ret {α β : Type} {c : Prop} [Decidable c] {a b : M α} {f : α → M β} : bnd (if c then a else b) f = if c then bnd a f else bnd b f := by split <;> rfl
/-! ### slots -/
theorem getE_zero {v : EV} {r : Env} : getE (.sh v :: r) 0 = some v := rfl
theorem getE_succ {s : Slot} {r : Env} {n : Nat} : getE (s :: r) (n + 1) = getE r n := rfl
theorem getB_zero {v : EV} {r : Env} : getB (.sh v :: r) 0 = some v := rfl
theorem getB_zero' {v : EV} {r : Env} : getB (.ow v :: r) 0 = some v := rfl
theorem getB_succ {s : Slot} {r : Env} {n : Nat} : getB (s :: r) (n + 1) = getB r n := rfl
theorem frzK_nil {ρ : Env} : frzK ρ [] = ρ := rfl
theorem frzK_cons {ρ : Env} {v : Nat} {vs : List Nat} : frzK ρ (v :: vs) = (frzK ρ vs).modify v frz1 := rfl
theorem wipeE_nil {ρ : Env} : wipeE ρ [] = ρ := rfl
theorem wipeE_cons {ρ : Env} {v : Nat} {vs : List Nat} : wipeE ρ (v :: vs) = (wipeE ρ vs).set v .un := rfl
theorem frz1_ow {v : EV} : frz1 (.ow v) = .sh v := rfl
theorem frz1_sh {v : EV} : frz1 (.sh v) = .sh v := rfl
theorem frz1_un : frz1 .un = .un := rfl
/-! ### items -/
theorem atI_zero {α : Type} {a : α} {l : List α} : atI (a :: l) 0 = some a := by
  simp [atI, ixN]
theorem atI_nat {α : Type} {l : List α} {n : Nat} : atI l (n : Int) = l[n]? := by
  unfold atI ixN
  by_cases h : n < l.length
  · have : (n : Int) < (l.length : Int) := by omega
    simp [this]
  · have : ¬ (n : Int) < (l.length : Int) := by omega
    simp [this]
    omega
theorem atI0 {α : Type} {a : α} {l : List α} : atI (a :: l) 0 = some a := atI_zero
theorem atI1 {α : Type} {a b : α} {l : List α} : atI (a :: b :: l) 1 = some b := atI_nat (n := 1)
theorem atI2 {α : Type} {a b c : α} {l : List α} : atI (a :: b :: c :: l) 2 = some c := atI_nat (n := 2)
theorem atI3 {α : Type} {a b c d : α} {l : List α} : atI (a :: b :: c :: d :: l) 3 = some d := atI_nat (n := 3)
theorem atI4 {α : Type} {a b c d e : α} {l : List α} : atI (a :: b :: c :: d :: e :: l) 4 = some e := atI_nat (n := 4)
theorem atI_neg1 {α : Type} {l : List α} : atI l (-1) = l.getLast? := by
  unfold atI ixN
  cases l with
  | nil => simp
  | cons a r =>
    have h : (-1 : Int) + ((a :: r).length : Int) = (r.length : Int) := by simp only [List.length_cons]; omega
    simp only [show ¬ (0 : Int) ≤ -1 from by decide, if_false]
    rw [if_pos (by simp only [List.length_cons]; omega), h]
    simp [List.getLast?_eq_getElem?]
/-! ### operators -/
section
variable {i j : Int} {a b : List EV} {x y : EV}
theorem bop_add : binop .add (.int i) (.int j) = some (.int (i + j)) := rfl
theorem bop_sub : binop .sub (.int i) (.int j) = some (.int (i - j)) := rfl
theorem bop_mul (h : sm i) (h' : sm j) : binop .mul (.int i) (.int j) = some (.int (i * j)) := by
  show (if (sm i ∧ sm j) ∨ i.natAbs ≤ 4294967296 ∨ j.natAbs ≤ 4294967296 then some (i * j) else none).map EV.int = _
  rw [if_pos (.inl ⟨h, h'⟩)]; rfl
theorem bop_mulR (h : j.natAbs ≤ 4294967296) : binop .mul (.int i) (.int j) = some (.int (i * j)) := by
  show (if (sm i ∧ sm j) ∨ i.natAbs ≤ 4294967296 ∨ j.natAbs ≤ 4294967296 then some (i * j) else none).map EV.int = _
  rw [if_pos (.inr (.inr h))]; rfl
theorem bop_mulL (h : i.natAbs ≤ 4294967296) : binop .mul (.int i) (.int j) = some (.int (i * j)) := by
  show (if (sm i ∧ sm j) ∨ i.natAbs ≤ 4294967296 ∨ j.natAbs ≤ 4294967296 then some (i * j) else none).map EV.int = _
  rw [if_pos (.inr (.inl h))]; rfl
theorem bop_fdiv (h : j ≠ 0) : binop .fdiv (.int i) (.int j) = some (.int (i.fdiv j)) := by
  show (if j ≠ 0 then some (i.fdiv j) else none).map EV.int = _
  rw [if_pos h]; rfl
theorem bop_mod (h : j ≠ 0) : binop .mod (.int i) (.int j) = some (.int (i.fmod j)) := by
  show (if j ≠ 0 then some (i.fmod j) else none).map EV.int = _
  rw [if_pos h]; rfl
theorem bop_pow (h : 0 ≤ j ∧ j ≤ 1000000 ∧ i.natAbs < 2 ^ 64) : binop .pow (.int i) (.int j) = some (.int (i ^ j.toNat)) := by
  show (if 0 ≤ j ∧ j ≤ 1000000 ∧ i.natAbs < 2 ^ 64 then some (i ^ j.toNat) else none).map EV.int = _
  rw [if_pos h]; rfl
theorem bop_addT (h : a.length + b.length ≤ szl) : binop .add (.tup a) (.tup b) = some (.tup (a ++ b)) := by
  show (if _ then _ else _) = _
  rw [if_pos h]
theorem bop_addL (h : a.length + b.length ≤ szl) : binop .add (.lst a) (.lst b) = some (.lst (a ++ b)) := by
  show (if _ then _ else _) = _
  rw [if_pos h]
theorem cm_lt : cmpop .lt (.int i) (.int j) = some (decide (i < j)) := rfl
theorem cm_le : cmpop .le (.int i) (.int j) = some (decide (i ≤ j)) := rfl
theorem cm_gt : cmpop .gt (.int i) (.int j) = some (decide (j < i)) := rfl
theorem cm_ge : cmpop .ge (.int i) (.int j) = some (decide (j ≤ i)) := rfl
theorem pyEq_int : pyEq (.int i) (.int j) = some (decide (i = j)) := by
  show (if (PySem.SeqAt.shaped (.int i) && PySem.SeqAt.shaped (.int j)) = true then some (PyData.eqv (.int i) (.int j)) else none) = _
  rw [if_pos (by rfl)]
  rfl
theorem pyEq_str {s t : Str} : pyEq (.str s) (.str t) = some (decide (s = t)) := rfl
theorem pyEq_bl {a b : Bool} : pyEq (.bl a) (.bl b) = some (decide (a = b)) := by
  show (if (PySem.SeqAt.shaped (.bool a) && PySem.SeqAt.shaped (.bool b)) = true then some (PyData.eqv (.bool a) (.bool b)) else none) = _
  rw [if_pos (by rfl)]
  cases a <;> cases b <;> rfl
theorem cm_eq : cmpop .eq x y = pyEq x y := by
  cases x <;> first | rfl | (cases y <;> rfl)
theorem cm_ne : cmpop .ne x y = (pyEq x y).map (!·) := by
  cases x <;> first | rfl | (cases y <;> rfl)
theorem cm_is : cmpop .is x .non = some (isNon x) := by cases x <;> rfl
theorem cm_isnot : cmpop .isnot x .non = some (!isNon x) := by cases x <;> rfl
theorem isNon_non : isNon .non = true := rfl
theorem isNon_int : isNon (.int i) = false := rfl
theorem isNon_lst : isNon (.lst a) = false := rfl
theorem isNon_tup : isNon (.tup a) = false := rfl
theorem it_tup : itemM (.tup a) (.int i) = ofO (atI a i) := rfl
theorem it_lst : itemM (.lst a) (.int i) = ofO (atI a i) := rfl
theorem sl_tup {l h : Option Int} : slice (.tup a) l h = some (.tup (cut a l h)) := rfl
theorem sl_lst {l h : Option Int} : slice (.lst a) l h = some (.lst (cut a l h)) := rfl
theorem sl_scr {ns : List Int} {l h : Option Int} : slice (.scr ns) l h = some (.lst ((cut ns l h).map EV.int)) := rfl
theorem tr_bl {b : Bool} : truthy (.bl b) = some b := rfl
theorem tr_int : truthy (.int i) = some (i != 0) := rfl
theorem ty_int {t : Ty} : isTy (.int i) .int = some true := rfl
theorem ty_intb : isTy (.int i) .bool = some false := rfl
theorem ty_intt : isTy (.int i) .tuple = some false := rfl
theorem ty_ints : isTy (.int i) .str = some false := rfl
theorem ty_bl {b : Bool} : isTy (.bl b) .int = some true := rfl
theorem ty_blb {b : Bool} : isTy (.bl b) .bool = some true := rfl
theorem ty_blt {b : Bool} : isTy (.bl b) .tuple = some false := rfl
theorem ty_tup : isTy (.tup a) .tuple = some true := rfl
theorem ty_tupi : isTy (.tup a) .int = some false := rfl
theorem ty_tups : isTy (.tup a) .str = some false := rfl
theorem ty_str {s : Str} : isTy (.str s) .str = some true := rfl
theorem ty_strt {s : Str} : isTy (.str s) .tuple = some false := rfl
theorem ty_stri {s : Str} : isTy (.str s) .int = some false := rfl
theorem bi_lenT : bi .len [.tup a] = some (.int a.length) := rfl
theorem bi_lenL : bi .len [.lst a] = some (.int a.length) := rfl
theorem bi_int : bi .int [.int i] = some (.int i) := rfl
theorem bi_abs : bi .abs [.int i] = some (.int i.natAbs) := by
  show some (EV.int (if i < 0 then -i else i)) = _
  congr 2
  split <;> omega
theorem bi_tupL : bi .tuple [.lst a] = some (.tup a) := rfl
theorem bi_tupT : bi .tuple [.tup a] = some (.tup a) := rfl
theorem bi_lstL : bi .list [.lst a] = some (.lst a) := rfl
theorem bi_lstT : bi .list [.tup a] = some (.lst a) := rfl
theorem boolsOf_map {α : Type} {f : α → Bool} {l : List α} : boolsOf (l.map fun x => .bl (f x)) = some (l.map f) := by
  induction l with
  | nil => rfl
  | cons x r ih => rw [List.map_cons]; unfold boolsOf; rw [ih]; rfl
theorem intsOf_map {α : Type} {f : α → Int} {l : List α} : intsOf (l.map fun x => .int (f x)) = some (l.map f) := by
  induction l with
  | nil => rfl
  | cons x r ih => rw [List.map_cons]; unfold intsOf; rw [ih]; rfl
theorem bi_all {α : Type} {f : α → Bool} {l : List α} : bi .all [.lst (l.map fun x => .bl (f x))] = some (.bl (l.all f)) := by
  show (boolsOf _).map _ = _
  rw [boolsOf_map]
  simp [List.all_map, Function.comp_def]
theorem bi_any {α : Type} {f : α → Bool} {l : List α} : bi .any [.lst (l.map fun x => .bl (f x))] = some (.bl (l.any f)) := by
  show (boolsOf _).map _ = _
  rw [boolsOf_map]
  simp [List.any_map, Function.comp_def]
theorem bi_sum {α : Type} {f : α → Int} {l : List α} : bi .sum [.lst (l.map fun x => .int (f x))] = some (.int (l.map f).sum) := by
  show (intsOf _).map _ = _
  rw [intsOf_map]
  rfl
theorem sq_lst : seqOf (.lst a) = some a := rfl
theorem sq_tup : seqOf (.tup a) = some a := rfl
theorem mu_app (h : a.length < szl) : muOp .append (.lst a) [x] = some (.lst (a ++ [x])) := by
  show (if _ then _ else _) = _
  rw [if_pos h]
theorem mu_ins (h : a.length < szl) {n : Nat} (hn : n ≤ a.length) : muOp .insert (.lst a) [.int (n : Int), x] = some (.lst (a.take n ++ [x] ++ a.drop n)) := by
  show (if a.length < szl ∧ 0 ≤ (n : Int) ∧ (n : Int) < 2 ^ 62 then some (EV.lst (a.take (n : Int).toNat ++ [x] ++ a.drop (n : Int).toNat)) else none) = _
  have h2 : a.length < 16777216 := h
  rw [if_pos ⟨h, by omega, by omega⟩, Int.toNat_natCast]
theorem mu_ext (h : a.length + b.length ≤ szl) : muOp .extend (.lst a) [.lst b] = some (.lst (a ++ b)) := by
  show (if _ then _ else _) = _
  rw [if_pos h]
end
section
variable {T : Tab} {C C1 : Nat → List EV → M EV} {W : Nat} {ρ : Env}
def negV : EV → M EV
  | .int i => ret (.int (-i))
  | _ => bad
theorem negV_int {i : Int} : negV (.int i) = ret (.int (-i)) := rfl
theorem evE_neg {a : E} : evE T C C1 ρ (.neg a) = bnd (evE T C C1 ρ a) negV := by
  rw [evE]; rfl
def intO : EV → M (Option Int)
  | .int i => ret (some i)
  | _ => bad
theorem intO_int {i : Int} : intO (.int i) = ret (some i) := rfl
theorem evO_no : evO T C C1 ρ .no = ret none := by rw [evO]
theorem evO_so {a : E} : evO T C C1 ρ (.so a) = bnd (evE T C C1 ρ a) intO := by
  rw [evO]; rfl
noncomputable def andK (m : M EV) : EV → M EV
  | .bl true => m
  | .bl false => ret (.bl false)
  | _ => bad
theorem andK_bl {m : M EV} {b : Bool} : andK m (.bl b) = if b = true then m else ret (.bl false) := by cases b <;> rfl
theorem evAnd_one {e : E} : evAnd T C C1 ρ [e] = evE T C C1 ρ e := by rw [evAnd]
theorem evAnd_cons {e e' : E} {r : List E} : evAnd T C C1 ρ (e :: e' :: r) = bnd (evE T C C1 ρ e) (andK (evAnd T C C1 ρ (e' :: r))) := by
  rw [evAnd]
  · congr 1
  · exact fun h => nomatch h
noncomputable def orK (m : M EV) : EV → M EV
  | .bl true => ret (.bl true)
  | .bl false => m
  | _ => bad
theorem orK_bl {m : M EV} {b : Bool} : orK m (.bl b) = if b = true then ret (.bl true) else m := by cases b <;> rfl
theorem evOr_one {e : E} : evOr T C C1 ρ [e] = evE T C C1 ρ e := by rw [evOr]
theorem evOr_cons {e e' : E} {r : List E} : evOr T C C1 ρ (e :: e' :: r) = bnd (evE T C C1 ρ e) (orK (evOr T C C1 ρ (e' :: r))) := by
  rw [evOr]
  · congr 1
  · exact fun h => nomatch h
def rngV : EV → M (List EV)
  | .int j => if -(2 ^ 62) ≤ j ∧ j < 2 ^ 62 then ret (rangeV 0 j.toNat) else bad
  | _ => bad
theorem rangeV_eq (n : Nat) : ∀ lo : Int, rangeV lo n = (List.range n).map fun (k : Nat) => EV.int (lo + k) := by
  induction n with
  | zero => intro lo; rfl
  | succ n ih =>
    intro lo
    rw [List.range_succ_eq_map]
    unfold rangeV
    rw [ih, List.map_cons, List.map_map]
    congr 1
    · simp
    · apply List.map_congr_left
      intro k _
      show EV.int _ = EV.int _
      congr 1
      simp only [Nat.succ_eq_add_one]
      omega
theorem rngV_nat {n : Nat} (h : n < 2 ^ 62) : rngV (.int (n : Int)) = ret ((List.range n).map fun (k : Nat) => EV.int (k : Int)) := by
  unfold rngV
  simp only []
  rw [if_pos ⟨by omega, by omega⟩, rangeV_eq, Int.toNat_natCast]
  simp only [Int.zero_add]
theorem rngV_lt {n : Nat} (h : n < 10000) : rngV (.int (n : Int)) = ret ((List.range n).map fun (k : Nat) => EV.int (k : Int)) := rngV_nat (Nat.lt_trans h (by decide))
theorem evI_rng1 {a : E} : evI T C C1 ρ (.rng1 a) = bnd (evE T C C1 ρ a) rngV := by
  rw [evI]; rfl
def rngV2 (v w : EV) : M (List EV) := match v, w with
  | .int i, .int j => if -(2 ^ 62) ≤ i ∧ i < 2 ^ 62 ∧ -(2 ^ 62) ≤ j ∧ j < 2 ^ 62 then ret (rangeV i (j - i).toNat) else bad
  | _, _ => bad
theorem evI_rng2 {a b : E} : evI T C C1 ρ (.rng2 a b) = bnd (evE T C C1 ρ a) fun v => bnd (evE T C C1 ρ b) fun w => rngV2 v w := by
  rw [evI]; rfl
def augV (op : Op) (x y : EV) : Option EV := match x, y with
  | .int a, .int b => (binI op a b).map EV.int
  | _, _ => none
theorem augV_sub {i j : Int} : augV .sub (.int i) (.int j) = some (.int (i - j)) := rfl
theorem augV_add {i j : Int} : augV .add (.int i) (.int j) = some (.int (i + j)) := rfl
theorem evS_aug {i : Nat} {op : Op} {e : E} : evS T C C1 W ρ (.aug i op e) = bnd (ofO (getE ρ i)) fun x => bnd (evE T C C1 ρ e) fun y => bnd (ofO (augV op x y)) fun z => ret (.nx, ρ.set i (.sh z)) := by
  rw [evS]; rfl
def ownV (ρ : Env) (i : Nat) : EV → M (Fl × Env)
  | .lst l => if i < ρ.length then ret (.nx, ρ.set i (.ow (.lst l))) else bad
  | _ => bad
theorem evS_own {i : Nat} {e : E} : evS T C C1 W ρ (.own i e) = bnd (evE T C C1 ρ e) (ownV ρ i) := by
  rw [evS]; rfl
theorem ownV_lst {i : Nat} {l : List EV} : ownV ρ i (.lst l) = if i < ρ.length then ret (.nx, ρ.set i (.ow (.lst l))) else bad := rfl
noncomputable def mutV (T : Tab) (C C1 : Nat → List EV → M EV) (ρ : Env) (m : Mu) (i : Nat) (es : List E) : Option Slot → M (Fl × Env)
  | some (.ow v) => bnd (evEs T C C1 ρ es) fun vs => bnd (ofO (muOp m v vs)) fun w => ret (.nx, ρ.set i (.ow w))
  | some (.sh (.ref k)) => bnd (isLstM k) fun _ => bnd (evEs T C C1 ρ es) fun vs => bnd (muSto m k vs) fun _ => ret (.nx, ρ)
  | _ => bad
theorem mutV_ow {m : Mu} {i : Nat} {es : List E} {v : EV} : mutV T C C1 ρ m i es (some (.ow v)) = bnd (evEs T C C1 ρ es) fun vs => bnd (ofO (muOp m v vs)) fun w => ret (.nx, ρ.set i (.ow w)) := rfl
theorem mutV_ref {m : Mu} {i k : Nat} {es : List E} : mutV T C C1 ρ m i es (some (.sh (.ref k))) = bnd (isLstM k) fun _ => bnd (evEs T C C1 ρ es) fun vs => bnd (muSto m k vs) fun _ => ret (.nx, ρ) := rfl
theorem evS_mut {m : Mu} {i : Nat} {es : List E} : evS T C C1 W ρ (.mut m i es) = mutV T C C1 ρ m i es ρ[i]? := by
  rw [evS]
  unfold mutV
  generalize ρ[i]? = o
  rcases o with _ | (_ | v | v)
  · rfl
  · rfl
  · cases v <;> rfl
  · rfl
theorem asgT_nm {i : Nat} {v : EV} {ρ : Env} : asgT (.nm i) v ρ = if i < ρ.length then some (ρ.set i (.sh v)) else none := by rw [asgT]
theorem asgT_2 {t u : Tgt} {v w : EV} {ρ : Env} : asgT (.tu [t, u]) (.tup [v, w]) ρ = match asgT t v ρ with
    | some ρ' => (match asgT u w ρ' with
      | some ρ'' => some ρ''
      | none => none)
    | none => none := by
  rw [asgT, if_pos (by rfl), asgTs]
  cases asgT t v ρ with
  | none => rfl
  | some ρ' =>
    simp only []
    rw [asgTs]
    cases asgT u w ρ' with
    | none => rfl
    | some ρ'' => simp only []; rw [asgTs]
theorem tgb_eq {t : Tgt} {b : List S} {v : EV} {ρ : Env} : tgb T C C1 W t b v ρ = bnd (ofO (asgT t v ρ)) fun ρ' => evSs T C C1 W ρ' b := by
  unfold tgb
  cases asgT t v ρ <;> rfl
theorem cmp1e_eq {t : Tgt} {ifs : List Te} {e : E} {v : EV} : cmp1e T C C1 ρ t ifs e v = bnd (ofO (asgT t v ρ)) fun ρ' => bnd (evAll T C C1 ρ' ifs) fun r => if r = true then bnd (evE T C C1 ρ' e) fun x => ret (some x) else ret none := by
  unfold cmp1e
  cases asgT t v ρ <;> rfl
theorem evS_ifs {c : Te} {a b : List S} : evS T C C1 W ρ (.ifs c a b) = bnd (evT T C C1 ρ c) fun r => if r = true then evSs T C C1 W ρ a else evSs T C C1 W ρ b := by rw [evS]
end
theorem itOwn_seq (e : E) : itOwn (.seq e) = false := rfl
theorem itOwn_rng1 (e : E) : itOwn (.rng1 e) = false := rfl
theorem itOwn_rng2 (e f : E) : itOwn (.rng2 e f) = false := rfl
theorem itOwn_enum (e : E) : itOwn (.enum e) = false := rfl
theorem itOwn_zip (e f : E) : itOwn (.zip e f) = false := rfl
section
variable {a b c d e f g h i j k l m : Slot} {r : Env} {v : EV}
theorem getE0 : getE (.sh v :: r) 0 = some v := rfl
theorem getE1 : getE (a :: .sh v :: r) 1 = some v := rfl
theorem getE2 : getE (a :: b :: .sh v :: r) 2 = some v := rfl
theorem getE3 : getE (a :: b :: c :: .sh v :: r) 3 = some v := rfl
theorem getE4 : getE (a :: b :: c :: d :: .sh v :: r) 4 = some v := rfl
theorem getE5 : getE (a :: b :: c :: d :: e :: .sh v :: r) 5 = some v := rfl
theorem getE6 : getE (a :: b :: c :: d :: e :: f :: .sh v :: r) 6 = some v := rfl
theorem getE7 : getE (a :: b :: c :: d :: e :: f :: g :: .sh v :: r) 7 = some v := rfl
theorem getE8 : getE (a :: b :: c :: d :: e :: f :: g :: h :: .sh v :: r) 8 = some v := rfl
theorem getE9 : getE (a :: b :: c :: d :: e :: f :: g :: h :: i :: .sh v :: r) 9 = some v := rfl
theorem getE10 : getE (a :: b :: c :: d :: e :: f :: g :: h :: i :: j :: .sh v :: r) 10 = some v := rfl
theorem getE11 : getE (a :: b :: c :: d :: e :: f :: g :: h :: i :: j :: k :: .sh v :: r) 11 = some v := rfl
theorem getE12 : getE (a :: b :: c :: d :: e :: f :: g :: h :: i :: j :: k :: l :: .sh v :: r) 12 = some v := rfl
theorem getE13 : getE (a :: b :: c :: d :: e :: f :: g :: h :: i :: j :: k :: l :: m :: .sh v :: r) 13 = some v := rfl
theorem getB0 : getB (.sh v :: r) 0 = some v := rfl
theorem getB0' : getB (.ow v :: r) 0 = some v := rfl
theorem getB1 : getB (a :: .ow v :: r) 1 = some v := rfl
theorem getB2 : getB (a :: b :: .ow v :: r) 2 = some v := rfl
theorem getB3 : getB (a :: b :: c :: .ow v :: r) 3 = some v := rfl
theorem getB4 : getB (a :: b :: c :: d :: .ow v :: r) 4 = some v := rfl
theorem getB5 : getB (a :: b :: c :: d :: e :: .ow v :: r) 5 = some v := rfl
theorem getB6 : getB (a :: b :: c :: d :: e :: f :: .ow v :: r) 6 = some v := rfl
theorem getB7 : getB (a :: b :: c :: d :: e :: f :: g :: .ow v :: r) 7 = some v := rfl
theorem gt1 : (a :: b :: r)[1]? = some b := rfl
theorem gt2 : (a :: b :: c :: r)[2]? = some c := rfl
theorem gt3 : (a :: b :: c :: d :: r)[3]? = some d := rfl
theorem gt4 : (a :: b :: c :: d :: e :: r)[4]? = some e := rfl
theorem gt5 : (a :: b :: c :: d :: e :: f :: r)[5]? = some f := rfl
theorem gt6 : (a :: b :: c :: d :: e :: f :: g :: r)[6]? = some g := rfl
theorem gt7 : (a :: b :: c :: d :: e :: f :: g :: h :: r)[7]? = some h := rfl
theorem st1 {x : Slot} : (a :: b :: r).set 1 x = a :: x :: r := rfl
theorem st2 {x : Slot} : (a :: b :: c :: r).set 2 x = a :: b :: x :: r := rfl
theorem st3 {x : Slot} : (a :: b :: c :: d :: r).set 3 x = a :: b :: c :: x :: r := rfl
theorem st4 {x : Slot} : (a :: b :: c :: d :: e :: r).set 4 x = a :: b :: c :: d :: x :: r := rfl
theorem st5 {x : Slot} : (a :: b :: c :: d :: e :: f :: r).set 5 x = a :: b :: c :: d :: e :: x :: r := rfl
theorem st6 {x : Slot} : (a :: b :: c :: d :: e :: f :: g :: r).set 6 x = a :: b :: c :: d :: e :: f :: x :: r := rfl
theorem st7 {x : Slot} : (a :: b :: c :: d :: e :: f :: g :: h :: r).set 7 x = a :: b :: c :: d :: e :: f :: g :: x :: r := rfl
theorem st8 {x : Slot} : (a :: b :: c :: d :: e :: f :: g :: h :: i :: r).set 8 x = a :: b :: c :: d :: e :: f :: g :: h :: x :: r := rfl
theorem st9 {x : Slot} : (a :: b :: c :: d :: e :: f :: g :: h :: i :: j :: r).set 9 x = a :: b :: c :: d :: e :: f :: g :: h :: i :: x :: r := rfl
theorem st10 {x : Slot} : (a :: b :: c :: d :: e :: f :: g :: h :: i :: j :: k :: r).set 10 x = a :: b :: c :: d :: e :: f :: g :: h :: i :: j :: x :: r := rfl
theorem st11 {x : Slot} : (a :: b :: c :: d :: e :: f :: g :: h :: i :: j :: k :: l :: r).set 11 x = a :: b :: c :: d :: e :: f :: g :: h :: i :: j :: k :: x :: r := rfl
theorem st12 {x : Slot} : (a :: b :: c :: d :: e :: f :: g :: h :: i :: j :: k :: l :: m :: r).set 12 x = a :: b :: c :: d :: e :: f :: g :: h :: i :: j :: k :: l :: x :: r := rfl
end
/-- the while's fuel -/
class BW (P : Prog) : Prop where
  w : 1000000000000 ≤ P.W
theorem wht_nx {ρ : Env} : wht (.nx, ρ) = .inl ρ := rfl
theorem bnd_ex {α β : Type} {m : M (α × Env)} {K : α × Env → M β} {a : α} {r : M β} {I : Env → Prop} (h : ∃ ρ', m = ret (a, ρ') ∧ I ρ') (hk : ∀ ρ', I ρ' → K (a, ρ') = r) : bnd m K = r := by
  obtain ⟨ρ', e, i⟩ := h
  rw [e, ret_bnd]
  exact hk ρ' i
theorem bnd_eq {α β : Type} {m : M α} {K : α → M β} {a : α} {r : M β} (h : m = ret a) (hk : K a = r) : bnd m K = r := by
  rw [h, ret_bnd, hk]
theorem asgTs_2 {i j : Nat} {v w : EV} {ρ : Env} : asgTs [.nm i, .nm j] [v, w] ρ = if i < ρ.length then (if j < ρ.length then some ((ρ.set i (.sh v)).set j (.sh w)) else none) else none := by
  rw [asgTs, asgT]
  by_cases h : i < ρ.length
  · rw [if_pos h, if_pos h]
    simp only []
    rw [asgTs, asgT, List.length_set]
    by_cases h' : j < ρ.length
    · simp only [if_pos h']; rw [asgTs]
    · simp only [if_neg h']
  · rw [if_neg h, if_neg h]
end Py
end
section
/-! PyFr: the package's fractions. -/
namespace Py
open PySem (Str PyData)
open L2 (ixN atI)
/-- a fraction -/
def fr (q : Rat) : EV := .tup [.int q.num, .int q.den]
/-- of so many bits -/
def Bd (n : Nat) (q : Rat) : Prop := q.num.natAbs < 2 ^ n ∧ q.den < 2 ^ n
theorem Bd.mono {n m : Nat} {q : Rat} (h : Bd n q) (hm : n ≤ m) : Bd m q :=
  ⟨Nat.lt_of_lt_of_le h.1 (Nat.pow_le_pow_right (by omega) hm), Nat.lt_of_lt_of_le h.2 (Nat.pow_le_pow_right (by omega) hm)⟩
theorem sm_of {i : Int} {n : Nat} (h : i.natAbs < 2 ^ n) (hn : n ≤ 67108863) : sm i := by
  unfold sm
  rcases Nat.eq_zero_or_pos i.natAbs with e | e
  · rw [e]; decide
  · exact Nat.lt_of_lt_of_le ((Nat.log2_lt (by omega)).mpr h) hn
theorem Bd.smn {n : Nat} {q : Rat} (h : Bd n q) (hn : n ≤ 67108863) : sm q.num := sm_of h.1 hn
theorem Bd.smd {n : Nat} {q : Rat} (h : Bd n q) (hn : n ≤ 67108863) : sm (q.den : Int) := sm_of (i := (q.den : Int)) (by simpa using h.2) hn
theorem mul_lt_pow {a b n m : Nat} (h : a < 2 ^ n) (h' : b < 2 ^ m) : a * b < 2 ^ (n + m) := by
  rw [Nat.pow_add]
  exact Nat.mul_lt_mul'' h h'
theorem divInt_bd {a b : Int} {n : Nat} (hb : b ≠ 0) (h : a.natAbs < 2 ^ n) (h' : b.natAbs < 2 ^ n) : Bd n (Rat.divInt a b) := by
  have g : 0 < b.gcd a := Int.gcd_pos_of_ne_zero_left a hb
  constructor
  · rw [Rat.num_divInt]
    refine Nat.lt_of_le_of_lt ?_ h
    rw [Int.natAbs_ediv_of_dvd (Int.dvd_mul_of_dvd_right (Int.gcd_dvd_right ..))]
    refine Nat.le_trans (Nat.div_le_self ..) ?_
    rw [Int.natAbs_mul, Int.natAbs_sign]
    split <;> omega
  · rw [Rat.den_divInt, if_neg hb]
    exact Nat.lt_of_le_of_lt (Nat.div_le_self ..) h'
theorem Bd.add {n m : Nat} {p q : Rat} (h : Bd n p) (h' : Bd m q) : Bd (n + m + 1) (p + q) := by
  have e : p + q = Rat.divInt (p.num * q.den + q.num * p.den) (p.den * q.den) := by
    conv => lhs; rw [← Rat.num_divInt_den p, ← Rat.num_divInt_den q]
    rw [Rat.divInt_add_divInt _ _ (by have := p.den_nz; omega) (by have := q.den_nz; omega)]
  rw [e]
  have hp := p.den_nz
  have hq := q.den_nz
  refine divInt_bd ?_ ?_ ?_
  · exact Int.mul_ne_zero (by omega) (by omega)
  · have a1 := mul_lt_pow h.1 h'.2
    have a2 := mul_lt_pow h'.1 h.2
    rw [Nat.add_comm m n] at a2
    refine Nat.lt_of_le_of_lt (Int.natAbs_add_le _ _) ?_
    rw [Int.natAbs_mul, Int.natAbs_mul, Int.natAbs_natCast, Int.natAbs_natCast, Nat.pow_succ]
    omega
  · have a1 := mul_lt_pow h.2 h'.2
    rw [Int.natAbs_mul, Int.natAbs_natCast, Int.natAbs_natCast, Nat.pow_succ]
    omega
theorem Bd.mul {n m : Nat} {p q : Rat} (h : Bd n p) (h' : Bd m q) : Bd (n + m) (p * q) := by
  have e : p * q = Rat.divInt (p.num * q.num) (p.den * q.den) := by
    conv => lhs; rw [← Rat.num_divInt_den p, ← Rat.num_divInt_den q]
    rw [Rat.divInt_mul_divInt]
  rw [e]
  have hp := p.den_nz
  have hq := q.den_nz
  refine divInt_bd ?_ ?_ ?_
  · exact Int.mul_ne_zero (by omega) (by omega)
  · rw [Int.natAbs_mul]; exact mul_lt_pow h.1 h'.1
  · rw [Int.natAbs_mul, Int.natAbs_natCast, Int.natAbs_natCast]; exact mul_lt_pow h.2 h'.2
local macro_rules | `(tactic| simp_arith [$ts,*]) => `(tactic| simp only [evSs_nil, evSs_cons, nxt_nx, nxt_rt, nxt_bk, nxt_ct, fin_nx, fin_rt, evS_whl, evS_fr (itOwn_seq _), evS_fr (itOwn_rng1 _), evS_fr (itOwn_rng2 _ _), evS_fr (itOwn_enum _), evS_fr (itOwn_zip _ _), evE_comp, evS_mut, evS_own, ownV_lst, mutV_ow, mutV_ref, evS_aug, augV_sub, augV_add, evS_ifs, evS.eq_1, evS.eq_2, evS.eq_4, evS.eq_6, evS.eq_8, evS.eq_9, evS.eq_13, evS.eq_14, evS.eq_15, evS.eq_16, evS.eq_17, evE_neg, negV_int, evO_no, evO_so, intO_int, evAnd_one, evAnd_cons, andK_bl, evOr_one, evOr_cons, orK_bl, evI_rng1, evI_rng2, evE.eq_1, evE.eq_2, evE.eq_3, evE.eq_4, evE.eq_5, evE.eq_6, evE.eq_7, evE.eq_9, evE.eq_10, evE.eq_11, evE.eq_12, evE.eq_13, evE.eq_14, evE.eq_15, evE.eq_16, evE.eq_17, evE.eq_18, evE.eq_19, evE.eq_20, evE.eq_21, evE.eq_22, evE.eq_23, evE.eq_24, evE.eq_26, evEs, evT, evAll, evAny, evI.eq_1, evI.eq_4, evI.eq_5, evI.eq_6, ret_bnd', bad_bnd, bnd_bnd, ite_ret, ofO_some, ofO_none, getE0, getE1, getE2, getE3, getE4, getE5, getE6, getE7, getE8, getE9, getE10, getE11, getE12, getE13, getB0, getB0', getB1, getB2, getB3, getB4, getB5, getB6, getB7, gt1, gt2, gt3, gt4, gt5, gt6, gt7, st1, st2, st3, st4, st5, st6, st7, st8, st9, st10, st11, st12, List.getElem?_cons_zero, List.set_cons_zero, frzK_nil, frzK_cons, wipeE_nil, wipeE_cons, frz1_ow, frz1_sh, frz1_un, asgT_nm, asgT_2, bop_add, bop_sub, cm_lt, cm_le, cm_gt, cm_ge, cm_eq, cm_ne, cm_is, cm_isnot, isNon_non, isNon_int, isNon_lst, isNon_tup, pyEq_int, it_tup, it_lst, sl_tup, sl_lst, sl_scr, tr_bl, ty_int, ty_intb, ty_intt, ty_ints, ty_bl, ty_blb, ty_blt, ty_tup, ty_tupi, ty_tups, ty_str, ty_strt, ty_stri, bi_lenT, bi_lenL, bi_int, bi_abs, bi_tupL, bi_tupT, bi_lstL, bi_lstT, bi_all, bi_any, bi_sum, sq_lst, sq_tup, atI0, atI1, atI2, atI3, atI_neg1, List.map_cons, List.map_nil, List.length_cons, List.length_nil, Nat.reduceAdd, Nat.reduceSub, Nat.reduceLT, wht_nx, Nat.zero_add, List.replicate_succ, List.replicate_zero, List.append_nil, List.cons_append, List.nil_append, if_true, if_false, Bool.false_eq_true, Bool.not_true, Bool.not_false, Option.map_some, Option.map_none, decide_true, decide_false, ite_self, ne_eq, not_true_eq_false, not_false_eq_true, decide_eq_true_eq, Nat.lt_irrefl, Nat.succ_pos, Nat.zero_lt_succ, noex_ret, $ts,*])
/-! ### Euclid -/
theorem fmod_nat (a b : Nat) (hb : b ≠ 0) : (a : Int).fmod (b : Int) = ((a % b : Nat) : Int) := by
  rw [Int.fmod_eq_emod_of_nonneg _ (by omega)]
  exact (Int.natCast_emod a b).symm
/-- the loop of a, b = b, a % b -/
def gcdR (one other : Nat) (ρ : Env) : Prop := ∃ r, ρ = .sh (.int one) :: .sh (.int other) :: r
theorem gcd_loop {f : Env → M (Sum Env (Fl × Env))} {I : Nat → Nat → Env → Prop} (stop : ∀ a ρ, I a 0 ρ → f ρ = ret (.inr (.nx, ρ))) (step : ∀ a b ρ, b ≠ 0 → I a b ρ → ∃ ρ', f ρ = ret (.inl ρ') ∧ I b (a % b) ρ') :
    ∀ (k n a b : Nat) (ρ : Env), b < 2 ^ k → 2 * k + 1 ≤ n → I a b ρ → ∃ ρ', loopW f n ρ = ret (.nx, ρ') ∧ I (a.gcd b) 0 ρ' := by
  intro k
  induction k with
  | zero =>
    intro n a b ρ hb hn i
    have : b = 0 := by simp at hb; exact hb
    subst this
    exact ⟨ρ, loopW_stop (by omega) (stop a ρ i), by simpa using i⟩
  | succ k ih =>
    intro n a b ρ hb hn i
    by_cases h0 : b = 0
    · subst h0
      exact ⟨ρ, loopW_stop (by omega) (stop a ρ i), by simpa using i⟩
    · obtain ⟨ρ1, e1, i1⟩ := step a b ρ h0 i
      rw [loopW_step (by omega) e1]
      by_cases h1 : a % b = 0
      · rw [h1] at i1
        refine ⟨ρ1, loopW_stop (by omega) (stop _ _ i1), ?_⟩
        rw [Nat.gcd_comm, Nat.gcd_rec, h1, Nat.gcd_zero_left]
        exact i1
      · obtain ⟨ρ2, e2, i2⟩ := step _ _ ρ1 h1 i1
        rw [loopW_step (by omega) e2]
        have l1 : a % b < b := Nat.mod_lt _ (by omega)
        have l2 : b % (a % b) < a % b := Nat.mod_lt _ (by omega)
        have l3 : b % (a % b) + (a % b) ≤ b := by
          have := Nat.div_add_mod b (a % b)
          have q : 1 ≤ b / (a % b) := Nat.div_pos (by omega) (by omega)
          have := Nat.mul_le_mul_left (a % b) q
          omega
        obtain ⟨ρ3, e3, i3⟩ := ih (n - 1 - 1) (a % b) (b % (a % b)) ρ2 (by rw [Nat.pow_succ] at hb; omega) (by omega) i2
        refine ⟨ρ3, e3, ?_⟩
        have : a.gcd b = (a % b).gcd (b % (a % b)) := by
          rw [Nat.gcd_comm a b, Nat.gcd_rec b a, Nat.gcd_rec (a % b) b]
          exact Nat.gcd_comm _ _
        rw [this]
        exact i3
section
variable {P : Prog} [B_k38 P]
theorem ev_is_int {d : Nat} (hd : 1 ≤ d) (i : Int) : callD P d 0 [.int i] = ret (.bl true) := by
  rw [callF fn0 hd rfl]
  simp_arith [F0, ir0]
theorem ev_divisor [BW P] {d : Nat} (hd : 1 ≤ d) (t b : Int) {n : Nat} (h : b.natAbs < 2 ^ n) (hn : n ≤ 400000000000) : callD P d 1 [.int t, .int b] = ret (.int (t.natAbs.gcd b.natAbs : Nat)) := by
  rw [callF fn1 hd rfl]
  simp_arith [F1, ir1, asgTs_2]
  refine bnd_ex (gcd_loop (I := gcdR) ?_ ?_ n P.W t.natAbs b.natAbs _ h (by have := BW.w (P := P); omega) ⟨_, rfl⟩) ?_
  · rintro a ρ ⟨r, rfl⟩
    simp_arith [show decide ((0 : Int) < ((0 : Nat) : Int)) = false from by decide]
  · rintro a b ρ hb ⟨r, rfl⟩
    refine ⟨.sh (.int b) :: .sh (.int ((a % b : Nat) : Int)) :: r, ?_, r, rfl⟩
    simp_arith [show decide ((0 : Int) < (b : Int)) = true from by simp; omega, bop_mod (show (b : Int) ≠ 0 by omega), fmod_nat a b hb, List.length_cons, show 0 < r.length + 1 + 1 from by omega, show 1 < r.length + 1 + 1 from by omega]
  · rintro ρ ⟨r, rfl⟩
    simp_arith []
theorem fr_divInt {t b : Int} (hb : b ≠ 0) : fr (Rat.divInt t b) = .tup [.int (b.sign * t / (t.natAbs.gcd b.natAbs : Nat)), .int ((b.natAbs / t.natAbs.gcd b.natAbs : Nat) : Int)] := by
  unfold fr
  rw [Rat.num_divInt, Rat.den_divInt, if_neg hb, Int.gcd, Nat.gcd_comm]
theorem ev_made [BW P] {d : Nat} (hd : 2 ≤ d) (t b : Int) (hb : b ≠ 0) {n : Nat} (h : b.natAbs < 2 ^ n) (hn : n ≤ 400000000000) : callD P d 2 [.int t, .int b] = ret (fr (Rat.divInt t b)) := by
  have g0 : t.natAbs.gcd b.natAbs ≠ 0 := by
    intro e
    have := (Nat.gcd_eq_zero_iff.mp e).2
    omega
  obtain ⟨k, hk⟩ : ((t.natAbs.gcd b.natAbs : Nat) : Int) ∣ t := Int.ofNat_dvd_left.mpr (Nat.gcd_dvd_left ..)
  obtain ⟨l, hl⟩ : ((t.natAbs.gcd b.natAbs : Nat) : Int) ∣ b := Int.ofNat_dvd_left.mpr (Nat.gcd_dvd_right ..)
  rw [callF fn2 (by omega) rfl, fr_divInt hb]
  simp_arith [F2, ir2]
  rw [ev_divisor (by omega) t b h hn]
  generalize hg : t.natAbs.gcd b.natAbs = g at *
  have gz : (g : Int) ≠ 0 := by omega
  have e2 : ((b.natAbs / g : Nat) : Int) = (b.natAbs : Int) / (g : Int) := Int.natCast_ediv ..
  rw [e2]
  by_cases hn : b < 0
  · have e1 : b.sign * t / (g : Int) = -k := by
      rw [Int.sign_eq_neg_one_of_neg hn, hk, show (-1 : Int) * ((g : Int) * k) = (g : Int) * -k by rw [Int.mul_neg, Int.neg_mul, Int.one_mul]]
      exact Int.mul_ediv_cancel_left _ gz
    have e3 : (b.natAbs : Int) / (g : Int) = -l := by
      rw [show (b.natAbs : Int) = (g : Int) * -l by rw [Int.mul_neg, ← hl]; omega]
      exact Int.mul_ediv_cancel_left _ gz
    have e4 : t.fdiv (-(g : Int)) = -k := by
      rw [hk, show (g : Int) * k = -(g : Int) * -k by rw [Int.neg_mul_neg]]
      exact Int.mul_fdiv_cancel_left _ (by omega)
    have e5 : b.fdiv (-(g : Int)) = -l := by
      conv => lhs; rw [hl]
      rw [show (g : Int) * l = -(g : Int) * -l by rw [Int.neg_mul_neg]]
      exact Int.mul_fdiv_cancel_left _ (by omega)
    simp_arith [hn, bop_fdiv (show -(g : Int) ≠ 0 by omega), e1, e3, e4, e5]
  · have bp : 0 < b := by omega
    have e1 : b.sign * t / (g : Int) = k := by
      rw [Int.sign_eq_one_of_pos bp, Int.one_mul, hk]
      exact Int.mul_ediv_cancel_left _ gz
    have e3 : (b.natAbs : Int) / (g : Int) = l := by
      rw [show (b.natAbs : Int) = (g : Int) * l by rw [← hl]; omega]
      exact Int.mul_ediv_cancel_left _ gz
    have e4 : t.fdiv (g : Int) = k := by
      rw [hk]
      exact Int.mul_fdiv_cancel_left _ (by omega)
    have e5 : b.fdiv (g : Int) = l := by
      conv => lhs; rw [hl]
      exact Int.mul_fdiv_cancel_left _ (by omega)
    simp_arith [hn, bop_fdiv gz, e1, e3, e4, e5]
theorem rat_add (p q : Rat) : Rat.divInt (p.num * q.den + q.num * p.den) (p.den * q.den) = p + q := by
  conv => rhs; rw [← Rat.num_divInt_den p, ← Rat.num_divInt_den q]
  rw [Rat.divInt_add_divInt _ _ (by have := p.den_nz; omega) (by have := q.den_nz; omega)]
theorem rat_mul (p q : Rat) : Rat.divInt (p.num * q.num) (p.den * q.den) = p * q := by
  conv => rhs; rw [← Rat.num_divInt_den p, ← Rat.num_divInt_den q]
  rw [Rat.divInt_mul_divInt]
theorem den_mul_ne (p q : Rat) : (p.den : Int) * (q.den : Int) ≠ 0 := Int.mul_ne_zero (by have := p.den_nz; omega) (by have := q.den_nz; omega)
theorem den_mul_lt {p q : Rat} {n m : Nat} (h : Bd n p) (h' : Bd m q) : ((p.den : Int) * (q.den : Int)).natAbs < 2 ^ (n + m) := by
  rw [Int.natAbs_mul, Int.natAbs_natCast, Int.natAbs_natCast]; exact mul_lt_pow h.2 h'.2
theorem ev_plus [BW P] {d : Nat} (hd : 3 ≤ d) {p q : Rat} {n m : Nat} (h : Bd n p) (h' : Bd m q) (hn : n ≤ 60000000) (hm : m ≤ 60000000) : callD P d 3 [fr p, fr q] = ret (fr (p + q)) := by
  have s1 := h.smn (by omega); have s2 := h.smd (by omega); have s3 := h'.smn (by omega); have s4 := h'.smd (by omega)
  rw [callF fn3 (by omega) rfl]
  unfold fr
  simp_arith [F3, ir3, bop_mul s1 s4, bop_mul s3 s2, bop_mul s2 s4]
  rw [ev_made (by omega) _ _ (den_mul_ne p q) (den_mul_lt h h') (by omega), rat_add]
  simp_arith [fr]
theorem ev_times [BW P] {d : Nat} (hd : 3 ≤ d) {p q : Rat} {n m : Nat} (h : Bd n p) (h' : Bd m q) (hn : n ≤ 60000000) (hm : m ≤ 60000000) : callD P d 4 [fr p, fr q] = ret (fr (p * q)) := by
  have s1 := h.smn (by omega); have s2 := h.smd (by omega); have s3 := h'.smn (by omega); have s4 := h'.smd (by omega)
  rw [callF fn4 (by omega) rfl]
  unfold fr
  simp_arith [F4, ir4, bop_mul s1 s3, bop_mul s2 s4]
  rw [ev_made (by omega) _ _ (den_mul_ne p q) (den_mul_lt h h') (by omega), rat_mul]
  simp_arith [fr]
theorem ev_less {d : Nat} (hd : 1 ≤ d) {p q : Rat} {n m : Nat} (h : Bd n p) (h' : Bd m q) (hn : n ≤ 60000000) (hm : m ≤ 60000000) : callD P d 5 [fr p, fr q] = ret (.bl (decide (p < q))) := by
  have s1 := h.smn (by omega); have s2 := h.smd (by omega); have s3 := h'.smn (by omega); have s4 := h'.smd (by omega)
  rw [callF fn5 (by omega) rfl]
  unfold fr
  simp_arith [F5, ir5, bop_mul s1 s4, bop_mul s3 s2, ← Rat.lt_iff]
end
end Py
end
section
/-! PyVal: lists of fractions, terms and their numbers. -/
namespace Py
open PySem (Str PyData)
open L2 (ixN atI)
/-! ### plain: least, greatest, sorted -/
def minF (m x : Rat) : Rat := if x < m then x else m
def maxF (m x : Rat) : Rat := if m < x then x else m
def lstQ : List Rat → Rat
  | [] => 0
  | a :: l => l.foldl minF a
def grtQ : List Rat → Rat
  | [] => 0
  | a :: l => l.foldl maxF a
def ins (x : Rat) : List Rat → List Rat
  | [] => [x]
  | y :: r => if x < y then x :: y :: r else y :: ins x r
def srt (l : List Rat) : List Rat := l.foldl (fun acc x => ins x acc) []
def Srt : List Rat → Prop
  | [] => True
  | a :: r => (∀ b ∈ r, a ≤ b) ∧ Srt r
theorem mem_ins {x y : Rat} : ∀ {l : List Rat}, y ∈ ins x l ↔ y = x ∨ y ∈ l
  | [] => by unfold ins; simp
  | a :: r => by
    unfold ins
    split
    · simp
    · rw [List.mem_cons, mem_ins, List.mem_cons]
      constructor
      · rintro (h | h | h) <;> simp [h]
      · rintro (h | h | h) <;> simp [h]
theorem ins_len {x : Rat} : ∀ {l : List Rat}, (ins x l).length = l.length + 1
  | [] => rfl
  | a :: r => by
    unfold ins
    split
    · rfl
    · rw [List.length_cons, ins_len, List.length_cons]
theorem Srt.ins {x : Rat} : ∀ {l : List Rat}, Srt l → Srt (ins x l)
  | [], _ => ⟨(fun b hb => nomatch hb), trivial⟩
  | a :: r, ⟨h1, h2⟩ => by
    unfold Py.ins
    split
    · rename_i h
      refine ⟨fun b hb => ?_, h1, h2⟩
      rcases List.mem_cons.mp hb with rfl | hb
      · exact Rat.le_of_lt h
      · exact Rat.le_trans (Rat.le_of_lt h) (h1 b hb)
    · rename_i h
      refine ⟨fun b hb => ?_, h2.ins⟩
      rcases mem_ins.mp hb with rfl | hb
      · exact Rat.not_lt.mp h
      · exact h1 b hb
/-- where it goes -/
def posQ (x : Rat) (l : List Rat) : Nat := (l.filter fun y => !decide (x < y)).length
theorem posQ_le {x : Rat} {l : List Rat} : posQ x l ≤ l.length := List.length_filter_le ..
theorem posQ_zero {x : Rat} {l : List Rat} (h : ∀ y ∈ l, x < y) : posQ x l = 0 := by
  unfold posQ
  rw [List.filter_eq_nil_iff.mpr fun y hy => by simp [h y hy]]
  rfl
theorem Srt.pos {x : Rat} : ∀ {l : List Rat}, Srt l → (∀ i (h : i < l.length), (x < l[i]) ↔ posQ x l ≤ i) ∧ Py.ins x l = l.take (posQ x l) ++ [x] ++ l.drop (posQ x l)
  | [], _ => ⟨fun i h => absurd h (by simp), rfl⟩
  | a :: r, ⟨h1, h2⟩ => by
    by_cases h : x < a
    · have al : ∀ y ∈ a :: r, x < y := fun y hy => by
        rcases List.mem_cons.mp hy with rfl | hy
        · exact h
        · have := h1 y hy
          grind
      rw [posQ_zero al]
      refine ⟨fun i hi => ⟨fun _ => Nat.zero_le _, fun _ => al _ (List.getElem_mem hi)⟩, ?_⟩
      unfold Py.ins
      rw [if_pos h]
      rfl
    · have e : posQ x (a :: r) = posQ x r + 1 := by
        unfold posQ
        rw [List.filter_cons, if_pos (by simp [h])]
        rfl
      obtain ⟨p1, p2⟩ := Srt.pos (x := x) h2
      rw [e]
      refine ⟨fun i hi => ?_, ?_⟩
      · cases i with
        | zero => simp [h]
        | succ i =>
          rw [List.getElem_cons_succ, p1 i (by simpa using hi)]
          omega
      · unfold Py.ins
        rw [if_neg h, p2]
        rfl
theorem srt_aux (l : List Rat) : ∀ acc, Srt acc → Srt (l.foldl (fun acc x => ins x acc) acc) := by
  induction l with
  | nil => exact fun acc h => h
  | cons x r ih => exact fun acc h => ih _ h.ins
theorem srt_srt (l : List Rat) : Srt (srt l) := srt_aux l [] trivial
theorem srt_laux (l : List Rat) : ∀ acc, (l.foldl (fun acc x => ins x acc) acc).length = l.length + acc.length := by
  induction l with
  | nil => intro acc; simp
  | cons x r ih => intro acc; rw [List.foldl_cons, ih, ins_len, List.length_cons]; omega
theorem srt_len (l : List Rat) : (srt l).length = l.length := by
  have := srt_laux l []
  exact this
theorem srt_maux {x : Rat} (l : List Rat) : ∀ acc, x ∈ l.foldl (fun acc x => ins x acc) acc ↔ x ∈ l ∨ x ∈ acc := by
  induction l with
  | nil => intro acc; simp
  | cons y r ih =>
    intro acc
    rw [List.foldl_cons, ih, mem_ins, List.mem_cons]
    constructor
    · rintro (h | h | h) <;> simp [h]
    · rintro ((h | h) | h) <;> simp [h]
theorem mem_srt {x : Rat} {l : List Rat} : x ∈ srt l ↔ x ∈ l := by
  unfold srt
  rw [srt_maux]
  simp
theorem ins_head {x a : Rat} {r : List Rat} : (ins x (a :: r)).head? = some (minF a x) := by
  unfold ins minF
  split <;> rfl
theorem srt_haux (l : List Rat) : ∀ (a : Rat) (acc : List Rat), acc.head? = some a → (l.foldl (fun acc x => ins x acc) acc).head? = some (l.foldl minF a) := by
  induction l with
  | nil => exact fun a acc h => h
  | cons x r ih =>
    intro a acc h
    rw [List.foldl_cons, List.foldl_cons]
    refine ih _ _ ?_
    cases acc with
    | nil => cases h
    | cons b s => cases h; exact ins_head
theorem srt_head {a : Rat} {l : List Rat} : (srt (a :: l)).head? = some (lstQ (a :: l)) := srt_haux l a [a] rfl
theorem ins_last {x : Rat} : ∀ {l : List Rat} {m : Rat}, Srt l → l.getLast? = some m → (ins x l).getLast? = some (maxF m x)
  | [a], m, _, h => by
    obtain rfl : a = m := by simpa using h
    unfold ins maxF
    by_cases h : x < a
    · rw [if_pos h, if_neg (by grind)]; rfl
    · rw [if_neg h]
      unfold ins
      by_cases h2 : a < x
      · rw [if_pos h2]; rfl
      · rw [if_neg h2]
        have : a = x := by grind
        rw [this]; rfl
  | a :: b :: r, m, s, h => by
    have h2 : (b :: r).getLast? = some m := by rw [← h]; simp [List.getLast?_cons_cons]
    have mm : m ∈ b :: r := List.mem_of_getLast? h2
    unfold ins
    by_cases q : x < a
    · rw [if_pos q]
      have : a ≤ m := s.1 m mm
      unfold maxF
      rw [if_neg (by grind)]
      simp [List.getLast?_cons_cons] at h2 ⊢
      exact h2
    · rw [if_neg q]
      have := ins_last (x := x) s.2 h2
      cases e : ins x (b :: r) with
      | nil => rw [e] at this; cases this
      | cons c t => rw [e] at this; rw [List.getLast?_cons_cons, this]
theorem srt_gaux (l : List Rat) : ∀ (a : Rat) (acc : List Rat), Srt acc → acc.getLast? = some a → (l.foldl (fun acc x => ins x acc) acc).getLast? = some (l.foldl maxF a) := by
  induction l with
  | nil => exact fun a acc _ h => h
  | cons x r ih =>
    intro a acc s h
    rw [List.foldl_cons, List.foldl_cons]
    exact ih _ _ s.ins (ins_last s h)
theorem srt_last {a : Rat} {l : List Rat} : (srt (a :: l)).getLast? = some (grtQ (a :: l)) := srt_gaux l a [a] ⟨(fun b hb => nomatch hb), trivial⟩ rfl
theorem minF_mem {a x : Rat} : minF a x = a ∨ minF a x = x := by
  unfold minF
  split <;> simp
theorem foldl_mem {g : Rat → Rat → Rat} (hg : ∀ a x, g a x = a ∨ g a x = x) (l : List Rat) : ∀ a, l.foldl g a ∈ a :: l := by
  induction l with
  | nil => intro a; simp
  | cons x r ih =>
    intro a
    rw [List.foldl_cons]
    have := ih (g a x)
    rcases List.mem_cons.mp this with h | h
    · rw [h]
      rcases hg a x with e | e <;> rw [e] <;> simp
    · simp [h]
theorem lstQ_mem {l : List Rat} (h : l ≠ []) : lstQ l ∈ l := by
  cases l with
  | nil => exact absurd rfl h
  | cons a r => exact foldl_mem (fun a x => minF_mem) r a
theorem grtQ_mem {l : List Rat} (h : l ≠ []) : grtQ l ∈ l := by
  cases l with
  | nil => exact absurd rfl h
  | cons a r => exact foldl_mem (fun a x => by unfold maxF; split <;> simp) r a
theorem srt_ne {l : List Rat} (h : l ≠ []) : ∃ a r, srt l = a :: r := by
  cases e : srt l with
  | nil => have := srt_len l; rw [e] at this; exact absurd (List.length_eq_zero_iff.mp this.symm) h
  | cons a r => exact ⟨a, r, rfl⟩
/-- the i-th of the sorted -/
def nthQ (l : List Rat) (i : Nat) : Rat := (srt l).getD i 0
theorem nthQ_mem {l : List Rat} {i : Nat} (h : i < l.length) : nthQ l i ∈ l := by
  unfold nthQ
  rw [List.getD_eq_getElem?_getD, List.getElem?_eq_getElem (by rw [srt_len]; exact h)]
  exact mem_srt.mp (List.getElem_mem _)
theorem atI_srt {l : List Rat} {i : Nat} (h : i < l.length) : atI ((srt l).map fr) (i : Int) = some (fr (nthQ l i)) := by
  rw [atI_nat, List.getElem?_map]
  unfold nthQ
  rw [List.getD_eq_getElem?_getD, List.getElem?_eq_getElem (by rw [srt_len]; exact h)]
  rfl
theorem cut_1 {α : Type} {a : α} {l : List α} : cut (a :: l) (some 1) none = l := by
  unfold cut HT.sIx
  simp
/-- fractions of so many bits -/
def BdL (n : Nat) (l : List Rat) : Prop := ∀ q ∈ l, Bd n q
local macro_rules | `(tactic| simp_arith [$ts,*]) => `(tactic| simp only [evSs_nil, evSs_cons, nxt_nx, nxt_rt, nxt_bk, nxt_ct, fin_nx, fin_rt, evS_whl, evS_fr (itOwn_seq _), evS_fr (itOwn_rng1 _), evS_fr (itOwn_rng2 _ _), evS_fr (itOwn_enum _), evS_fr (itOwn_zip _ _), evE_comp, evS_mut, evS_own, ownV_lst, mutV_ow, mutV_ref, evS_aug, augV_sub, augV_add, evS_ifs, evS.eq_1, evS.eq_2, evS.eq_4, evS.eq_6, evS.eq_8, evS.eq_9, evS.eq_13, evS.eq_14, evS.eq_15, evS.eq_16, evS.eq_17, evE_neg, negV_int, evO_no, evO_so, intO_int, evAnd_one, evAnd_cons, andK_bl, evOr_one, evOr_cons, orK_bl, evI_rng1, evI_rng2, evE.eq_1, evE.eq_2, evE.eq_3, evE.eq_4, evE.eq_5, evE.eq_6, evE.eq_7, evE.eq_9, evE.eq_10, evE.eq_11, evE.eq_12, evE.eq_13, evE.eq_14, evE.eq_15, evE.eq_16, evE.eq_17, evE.eq_18, evE.eq_19, evE.eq_20, evE.eq_21, evE.eq_22, evE.eq_23, evE.eq_24, evE.eq_26, evEs, evT, evAll, evAny, evI.eq_1, evI.eq_4, evI.eq_5, evI.eq_6, ret_bnd', bad_bnd, bnd_bnd, ite_ret, ofO_some, ofO_none, getE0, getE1, getE2, getE3, getE4, getE5, getE6, getE7, getE8, getE9, getE10, getE11, getE12, getE13, getB0, getB0', getB1, getB2, getB3, getB4, getB5, getB6, getB7, gt1, gt2, gt3, gt4, gt5, gt6, gt7, st1, st2, st3, st4, st5, st6, st7, st8, st9, st10, st11, st12, List.getElem?_cons_zero, List.set_cons_zero, frzK_nil, frzK_cons, wipeE_nil, wipeE_cons, frz1_ow, frz1_sh, frz1_un, asgT_nm, asgT_2, bop_add, bop_sub, cm_lt, cm_le, cm_gt, cm_ge, cm_eq, cm_ne, cm_is, cm_isnot, isNon_non, isNon_int, isNon_lst, isNon_tup, pyEq_int, it_tup, it_lst, sl_tup, sl_lst, sl_scr, tr_bl, ty_int, ty_intb, ty_intt, ty_ints, ty_bl, ty_blb, ty_blt, ty_tup, ty_tupi, ty_tups, ty_str, ty_strt, ty_stri, bi_lenT, bi_lenL, bi_int, bi_abs, bi_tupL, bi_tupT, bi_lstL, bi_lstT, bi_all, bi_any, bi_sum, sq_lst, sq_tup, atI0, atI1, atI2, atI3, atI_neg1, List.map_cons, List.map_nil, List.length_cons, List.length_nil, Nat.reduceAdd, Nat.reduceSub, Nat.reduceLT, wht_nx, Nat.zero_add, List.replicate_succ, List.replicate_zero, List.append_nil, List.cons_append, List.nil_append, if_true, if_false, Bool.false_eq_true, Bool.not_true, Bool.not_false, Option.map_some, Option.map_none, decide_true, decide_false, ite_self, ne_eq, not_true_eq_false, not_false_eq_true, decide_eq_true_eq, Nat.lt_irrefl, Nat.succ_pos, Nat.zero_lt_succ, noex_ret, $ts,*])
section
variable {P : Prog} [B_k38 P]
theorem ev_least {d : Nat} (hd : 2 ≤ d) {l : List Rat} (h0 : l ≠ []) {n : Nat} (h : BdL n l) (hn : n ≤ 60000000) : callD P d 6 [.lst (l.map fr)] = ret (fr (lstQ l)) := by
  cases l with
  | nil => exact absurd rfl h0
  | cons a l =>
  rw [callF fn6 (by omega) rfl]
  simp_arith [F6, ir6, cut_1]
  refine bnd_ex (forL_fold fr (fun m ρ => Bd n m ∧ ∃ t, ρ = [.sh (.lst ((a :: l).map fr)), .sh (fr m), t]) minF l (fun m x ρ hx ⟨hm, t, hr⟩ => ?_) a _ ⟨h a List.mem_cons_self, _, rfl⟩) ?_
  · subst hr
    have hx := h x (List.mem_cons_of_mem _ hx)
    refine ⟨[.sh (.lst ((a :: l).map fr)), .sh (fr (minF m x)), .sh (fr x)], ?_, ?_, _, rfl⟩
    · simp_arith [tgb_eq, ev_less (show 1 ≤ d - 1 by omega) hx hm hn hn]
      unfold minF
      by_cases q : x < m
      · simp_arith [q]
      · simp_arith [q]
    · unfold minF; split <;> assumption
  · rintro ρ ⟨_, t, rfl⟩
    simp_arith [lstQ]
theorem ev_great {d : Nat} (hd : 2 ≤ d) {l : List Rat} (h0 : l ≠ []) {n : Nat} (h : BdL n l) (hn : n ≤ 60000000) : callD P d 7 [.lst (l.map fr)] = ret (fr (grtQ l)) := by
  cases l with
  | nil => exact absurd rfl h0
  | cons a l =>
  rw [callF fn7 (by omega) rfl]
  simp_arith [F7, ir7, cut_1]
  refine bnd_ex (forL_fold fr (fun m ρ => Bd n m ∧ ∃ t, ρ = [.sh (.lst ((a :: l).map fr)), .sh (fr m), t]) maxF l (fun m x ρ hx ⟨hm, t, hr⟩ => ?_) a _ ⟨h a List.mem_cons_self, _, rfl⟩) ?_
  · subst hr
    have hx := h x (List.mem_cons_of_mem _ hx)
    refine ⟨[.sh (.lst ((a :: l).map fr)), .sh (fr (maxF m x)), .sh (fr x)], ?_, ?_, _, rfl⟩
    · simp_arith [tgb_eq, ev_less (show 1 ≤ d - 1 by omega) hm hx hn hn]
      unfold maxF
      by_cases q : m < x
      · simp_arith [q]
      · simp_arith [q]
    · unfold maxF; split <;> assumption
  · rintro ρ ⟨_, t, rfl⟩
    simp_arith [grtQ]
/-- a while that counts down to p -/
theorem loop_down {f : Env → M (Sum Env (Fl × Env))} {I : Nat → Env → Prop} {p : Nat} (stop : ∀ ρ, I p ρ → f ρ = ret (.inr (.nx, ρ))) (step : ∀ a ρ, p < a → I a ρ → ∃ ρ', f ρ = ret (.inl ρ') ∧ I (a - 1) ρ') :
    ∀ (n a : Nat) (ρ : Env), p ≤ a → a - p + 1 ≤ n → I a ρ → ∃ ρ', loopW f n ρ = ret (.nx, ρ') ∧ I p ρ' := by
  intro n
  induction n with
  | zero => intro a ρ _ h; omega
  | succ n ih =>
    intro a ρ h1 h2 i
    by_cases e : a = p
    · subst e
      exact ⟨ρ, loopW_stop (by omega) (stop ρ i), i⟩
    · obtain ⟨ρ1, e1, i1⟩ := step a ρ (by omega) i
      rw [loopW_step (by omega) e1]
      exact ih (a - 1) ρ1 (by omega) (by omega) i1
theorem ev_asc [BW P] {d : Nat} (hd : 2 ≤ d) {l : List Rat} {n : Nat} (h : BdL n l) (hn : n ≤ 60000000) (hl : l.length < 10000) : callD P d 8 [.lst (l.map fr)] = ret (.lst ((srt l).map fr)) := by
  rw [callF fn8 (by omega) rfl]
  simp_arith [F8, ir8]
  refine bnd_ex (forL_idx fr (fun i ρ => ∃ t u, ρ = [.sh (.lst (l.map fr)), .ow (.lst ((srt (l.take i)).map fr)), t, u]) l (fun i hi ρ hI => ?_) ⟨_, _, rfl⟩) ?_
  · obtain ⟨t, u, rfl⟩ := hI
    have hs := srt_srt (l.take i)
    have hlen := srt_len (l.take i)
    rw [List.length_take, Nat.min_eq_left (by omega)] at hlen
    have hnext : srt (l.take (i + 1)) = ins l[i] (srt (l.take i)) := by
      unfold srt
      rw [List.take_succ_eq_append_getElem hi, List.foldl_append]
      rfl
    have hb : BdL n (srt (l.take i)) := fun q hq => h q (List.mem_of_mem_take (mem_srt.mp hq))
    obtain ⟨p1, p2⟩ := hs.pos (x := l[i])
    have pl := posQ_le (x := l[i]) (l := srt (l.take i))
    rw [hnext, p2]
    have hx := h _ (List.getElem_mem hi)
    generalize srt (l.take i) = a at *
    generalize l[i] = x at *
    refine ⟨[.sh (.lst (l.map fr)), .ow (.lst ((a.take (posQ x a) ++ [x] ++ a.drop (posQ x a)).map fr)), .sh (fr x), .sh (.int (posQ x a : Nat))], ?_, _, _, rfl⟩
    simp_arith [tgb_eq, List.length_map]
    refine bnd_ex (loop_down (I := fun k ρ => k ≤ a.length ∧ ρ = [.sh (.lst (l.map fr)), .ow (.lst (a.map fr)), .sh (fr x), .sh (.int (k : Nat))]) (p := posQ x a) ?_ ?_ P.W a.length _ pl ?_ ⟨Nat.le_refl _, rfl⟩) ?_
    · rintro ρ ⟨_, rfl⟩
      simp_arith []
      by_cases h0 : posQ x a = 0
      · simp_arith [h0, show ((0 : Int) < ((0 : Nat) : Int)) = False from by simp]
      · have lt : posQ x a - 1 < a.length := by omega
        have e : ((posQ x a : Nat) : Int) - 1 = ((posQ x a - 1 : Nat) : Int) := by omega
        have nl : ¬ x < a[posQ x a - 1] := by rw [p1 _ lt]; omega
        simp_arith [show decide ((0 : Int) < (posQ x a : Nat)) = true from by simp; omega, e, atI_nat, List.getElem?_map, List.getElem?_eq_getElem lt, ev_less (show 1 ≤ d - 1 by omega) hx (hb _ (List.getElem_mem lt)) hn hn, nl]
    · rintro k ρ hk ⟨hk2, rfl⟩
      have lt : k - 1 < a.length := by omega
      have e : ((k : Nat) : Int) - 1 = ((k - 1 : Nat) : Int) := by omega
      have nl : x < a[k - 1] := by rw [p1 _ lt]; omega
      refine ⟨_, ?_, by omega, rfl⟩
      simp_arith [show decide ((0 : Int) < (k : Nat)) = true from by simp; omega, e, atI_nat, List.getElem?_map, List.getElem?_eq_getElem lt, ev_less (show 1 ≤ d - 1 by omega) hx (hb _ (List.getElem_mem lt)) hn hn, nl]
    · have := BW.w (P := P)
      omega
    · rintro ρ ⟨_, rfl⟩
      simp_arith [mu_ins (show (a.map fr).length < szl by rw [List.length_map]; show _ < 16777216; omega) (show posQ x a ≤ (a.map fr).length by rw [List.length_map]; omega), List.map_append, List.map_take, List.map_drop]
  · rintro ρ ⟨t, u, rfl⟩
    simp_arith [List.take_length, List.modify_succ_cons, List.modify_zero_cons]
theorem ev_mid [BW P] {d : Nat} (hd : 3 ≤ d) {x y z : Rat} {n : Nat} (hx : Bd n x) (hy : Bd n y) (hz : Bd n z) (hn : n ≤ 60000000) : callD P d 9 [fr x, fr y, fr z] = ret (fr (nthQ [x, y, z] 1)) := by
  rw [callF fn9 (by omega) rfl]
  have e : callD P (d - 1) 8 [.lst [fr x, fr y, fr z]] = _ := ev_asc (by omega) (l := [x, y, z]) (n := n) (fun q hq => by
    simp only [List.mem_cons, List.not_mem_nil, or_false] at hq
    rcases hq with rfl | rfl | rfl <;> assumption) hn (by simp)
  simp_arith [F9, ir9, e, atI_srt (l := [x, y, z]) (i := 1) (by simp)]
  rw [show (1 : Int) = ((1 : Nat) : Int) from rfl, atI_srt (by simp)]
  simp_arith []
end
end Py
end
section
/-! PyTm: terms. -/
namespace Py
open PySem (Str PyData)
open L2 (ixN atI)
inductive Tm where
  | bid (i : Nat) | fix (q : Rat)
  | mean (ws : List Nat) (ts : List Tm)
  | least (ts : List Tm) | great (ts : List Tm)
  | rank (k : Nat) (ts : List Tm)
  | betw (lo hi : Rat) (t : Tm)
def wpair (w : Nat) (v : EV) : EV := .tup [.int (w : Int), v]
mutual
def encT : Tm → EV
  | .bid i => .tup [.str "bid", .int (i : Int)]
  | .fix q => .tup [.str "fixed", fr q]
  | .mean ws ts => .tup [.str "mean", .tup (List.zipWith wpair ws (encTs ts))]
  | .least ts => .tup [.str "least", .tup (encTs ts)]
  | .great ts => .tup [.str "greatest", .tup (encTs ts)]
  | .rank k ts => .tup [.str "ranked", .int (k : Int), .tup (encTs ts)]
  | .betw lo hi t => .tup [.str "between", fr lo, fr hi, encT t]
def encTs : List Tm → List EV
  | [] => []
  | t :: r => encT t :: encTs r
end
theorem encTs_map : ∀ l : List Tm, encTs l = l.map encT
  | [] => rfl
  | t :: r => by unfold encTs; rw [encTs_map r]; rfl
/-- the mean -/
def meanQ (ws : List Nat) (vs : List Rat) : Rat := (ws.zip vs).foldl (fun t p => t + (p.1 : Rat) * p.2) 0 * Rat.divInt 1 (ws.map Int.ofNat).sum
mutual
def val (b : List Rat) : Tm → Rat
  | .bid i => b.getD i 0
  | .fix q => q
  | .mean ws ts => meanQ ws (vals b ts)
  | .least ts => lstQ (vals b ts)
  | .great ts => grtQ (vals b ts)
  | .rank k ts => nthQ (vals b ts) (ts.length - k)
  | .betw lo hi t => nthQ [lo, hi, val b t] 1
def vals (b : List Rat) : List Tm → List Rat
  | [] => []
  | t :: r => val b t :: vals b r
end
theorem vals_map (b : List Rat) : ∀ l : List Tm, vals b l = l.map (val b)
  | [] => rfl
  | t :: r => by unfold vals; rw [vals_map b r]; rfl
mutual
/-- a term for so many people, its fixed numbers of so many bits -/
def WT (n φ : Nat) : Tm → Prop
  | .bid i => i < n
  | .fix q => Bd φ q ∧ 0 ≤ q ∧ q ≤ 1
  | .mean ws ts => ws.length = ts.length ∧ 1 ≤ ts.length ∧ ts.length ≤ 8 ∧ (∀ w ∈ ws, 1 ≤ w ∧ w ≤ 99) ∧ WTs n φ ts
  | .least ts => 1 ≤ ts.length ∧ ts.length ≤ 8 ∧ WTs n φ ts
  | .great ts => 1 ≤ ts.length ∧ ts.length ≤ 8 ∧ WTs n φ ts
  | .rank k ts => 1 ≤ k ∧ k ≤ ts.length ∧ ts.length ≤ 8 ∧ WTs n φ ts
  | .betw lo hi t => (Bd φ lo ∧ 0 ≤ lo ∧ lo ≤ 1) ∧ (Bd φ hi ∧ 0 ≤ hi ∧ hi ≤ 1) ∧ lo ≤ hi ∧ WT n φ t
def WTs (n φ : Nat) : List Tm → Prop
  | [] => True
  | t :: r => WT n φ t ∧ WTs n φ r
end
theorem WTs.mem {n φ : Nat} : ∀ {l : List Tm}, WTs n φ l → ∀ t ∈ l, WT n φ t
  | a :: r, h, t, ht => by
    unfold WTs at h
    rcases List.mem_cons.mp ht with rfl | ht
    · exact h.1
    · exact WTs.mem h.2 t ht
theorem WTs.of {n φ : Nat} : ∀ {l : List Tm}, (∀ t ∈ l, WT n φ t) → WTs n φ l
  | [], _ => by unfold WTs; trivial
  | a :: r, h => by unfold WTs; exact ⟨h a List.mem_cons_self, WTs.of fun t ht => h t (List.mem_cons_of_mem _ ht)⟩
mutual
/-- how many terms -/
def szT : Tm → Nat
  | .bid _ => 1
  | .fix _ => 1
  | .mean _ ts => 1 + szTs ts
  | .least ts => 1 + szTs ts
  | .great ts => 1 + szTs ts
  | .rank _ ts => 1 + szTs ts
  | .betw _ _ t => 1 + szT t
def szTs : List Tm → Nat
  | [] => 0
  | t :: r => szT t + szTs r
/-- how deep -/
def dpT : Tm → Nat
  | .bid _ => 1
  | .fix _ => 1
  | .mean _ ts => 1 + dpTs ts
  | .least ts => 1 + dpTs ts
  | .great ts => 1 + dpTs ts
  | .rank _ ts => 1 + dpTs ts
  | .betw _ _ t => 1 + dpT t
def dpTs : List Tm → Nat
  | [] => 0
  | t :: r => max (dpT t) (dpTs r)
end
theorem dpTs_mem : ∀ {l : List Tm} {t : Tm}, t ∈ l → dpT t ≤ dpTs l
  | a :: r, t, h => by
    unfold dpTs
    rcases List.mem_cons.mp h with rfl | h
    · exact Nat.le_max_left ..
    · exact Nat.le_trans (dpTs_mem h) (Nat.le_max_right ..)
theorem szTs_mem : ∀ {l : List Tm} {t : Tm}, t ∈ l → szT t ≤ szTs l
  | a :: r, t, h => by
    unfold szTs
    rcases List.mem_cons.mp h with rfl | h
    · omega
    · have := szTs_mem h; omega
theorem szT_pos : ∀ t : Tm, 1 ≤ szT t := fun t => by cases t <;> (unfold szT; omega)
theorem szTs_eq : ∀ l : List Tm, szTs l = (l.map szT).sum
  | [] => rfl
  | t :: r => by unfold szTs; rw [szTs_eq r]; rfl
theorem Bd.nat {w n : Nat} (h : w < 2 ^ n) (hn : 0 < n) : Bd n (w : Rat) := by
  refine ⟨?_, ?_⟩
  · rw [Rat.num_natCast]; simpa using h
  · rw [Rat.den_natCast]
    calc 1 < 2 ^ 1 := by decide
      _ ≤ 2 ^ n := Nat.pow_le_pow_right (by omega) hn
theorem Bd.zero {n : Nat} (hn : 0 < n) : Bd n 0 := Bd.nat (w := 0) (Nat.pow_pos (by omega)) hn
theorem Bd.one {n : Nat} (hn : 0 < n) : Bd n 1 := Bd.nat (w := 1) (by
    calc 1 < 2 ^ 1 := by decide
      _ ≤ 2 ^ n := Nat.pow_le_pow_right (by omega) hn) hn
theorem sum_ws {ws : List Nat} (h : ∀ w ∈ ws, 1 ≤ w ∧ w ≤ 99) : (ws.length : Int) ≤ (ws.map Int.ofNat).sum ∧ (ws.map Int.ofNat).sum ≤ 99 * ws.length := by
  induction ws with
  | nil => simp
  | cons w r ih =>
    obtain ⟨i1, i2⟩ := ih fun x hx => h x (List.mem_cons_of_mem _ hx)
    obtain ⟨h1, h2⟩ := h w List.mem_cons_self
    rw [List.map_cons, List.sum_cons, List.length_cons]
    have : Int.ofNat w = (w : Int) := rfl
    omega
/-- numbers of so many bits, one by one -/
def BdF : List Nat → List Rat → Prop
  | [], [] => True
  | k :: ks, v :: vs => Bd k v ∧ BdF ks vs
  | _, _ => False
theorem BdF.all {K : Nat} : ∀ {ks : List Nat} {vs : List Rat}, BdF ks vs → (∀ k ∈ ks, k ≤ K) → BdL K vs
  | [], [], _, _ => fun q hq => nomatch hq
  | k :: ks, v :: vs, h, hk => fun q hq => by
    rcases List.mem_cons.mp hq with rfl | hq
    · exact h.1.mono (hk k List.mem_cons_self)
    · exact BdF.all h.2 (fun x hx => hk x (List.mem_cons_of_mem _ hx)) q hq
  | [], _ :: _, h, _ => h.elim
  | _ :: _, [], h, _ => h.elim
theorem mean_fold {ws : List Nat} (hw : ∀ w ∈ ws, 1 ≤ w ∧ w ≤ 99) : ∀ {ks : List Nat} {vs : List Rat}, BdF ks vs → ∀ (t : Rat) (n : Nat), Bd n t → Bd (n + (ks.map (· + 8)).sum) ((ws.zip vs).foldl (fun t p => t + (p.1 : Rat) * p.2) t) := by
  induction ws with
  | nil => intro ks vs _ t n h; exact h.mono (by omega)
  | cons w r ih =>
    intro ks vs hv t n h
    cases vs with
    | nil => exact h.mono (by omega)
    | cons v s =>
      cases ks with
      | nil => exact hv.elim
      | cons k ks =>
      rw [List.zip_cons_cons, List.foldl_cons]
      have hw0 := hw w List.mem_cons_self
      have b1 : Bd 7 (w : Rat) := Bd.nat (by have := hw0.2; omega) (by omega)
      have := ih (fun x hx => hw x (List.mem_cons_of_mem _ hx)) hv.2 _ _ (h.add (b1.mul hv.1))
      refine this.mono ?_
      rw [List.map_cons, List.sum_cons]
      omega
theorem mean_bd {ws : List Nat} (hw : ∀ w ∈ ws, 1 ≤ w ∧ w ≤ 99) (h1 : 1 ≤ ws.length) (h8 : ws.length ≤ 8) {ks : List Nat} {vs : List Rat} (hv : BdF ks vs) : Bd (11 + (ks.map (· + 8)).sum) (meanQ ws vs) := by
  unfold meanQ
  have a := mean_fold hw hv 0 1 (Bd.zero (by omega))
  obtain ⟨s1, s2⟩ := sum_ws hw
  have b : Bd 10 (Rat.divInt 1 (ws.map Int.ofNat).sum) := divInt_bd (by omega) (by decide) (by
    have : (ws.map Int.ofNat).sum.natAbs ≤ 792 := by omega
    omega)
  exact (a.mul b).mono (by omega)
theorem szTs_cons {t : Tm} {r : List Tm} : szTs (t :: r) = szT t + szTs r := by rw [szTs]
theorem BdF.len : ∀ {ks : List Nat} {vs : List Rat}, BdF ks vs → ks.length = vs.length
  | [], [], _ => rfl
  | k :: ks, v :: vs, h => by rw [List.length_cons, BdF.len h.2, List.length_cons]
  | [], _ :: _, h => h.elim
  | _ :: _, [], h => h.elim
theorem BdF.get : ∀ {ks : List Nat} {vs : List Rat}, BdF ks vs → ∀ i (h1 : i < ks.length) (h2 : i < vs.length), Bd ks[i] vs[i]
  | k :: ks, v :: vs, h, 0, _, _ => h.1
  | k :: ks, v :: vs, h, i + 1, h1, h2 => by
    rw [List.getElem_cons_succ, List.getElem_cons_succ]
    exact BdF.get h.2 i _ _
  | [], _ :: _, h, _, _, _ => h.elim
  | _ :: _, [], h, _, _, _ => h.elim
  | [], [], _, i, h1, _ => absurd h1 (by simp)
theorem sum_sz {c : Nat} (hc : 8 ≤ c) : ∀ ts : List Tm, ((ts.map fun t => c * szT t - 8).map (· + 8)).sum = c * szTs ts
  | [] => by simp [szTs]
  | t :: r => by
    rw [List.map_cons, List.map_cons, List.sum_cons, sum_sz hc r]
    rw [szTs_cons, Nat.mul_add]
    have : c * 1 ≤ c * szT t := Nat.mul_le_mul_left _ (szT_pos t)
    omega
theorem vals_ne {b : List Rat} {ts : List Tm} (h : 1 ≤ ts.length) : vals b ts ≠ [] := by
  rw [vals_map]
  intro e
  have := congrArg List.length e
  rw [List.length_map] at this
  simp at this
  rw [this] at h
  simp at h
theorem valsB {c : Nat} {b : List Rat} {ts : List Tm} (ih : BdF (ts.map fun t => c * szT t - 8) (vals b ts)) : BdL (c * (1 + szTs ts) - 8) (vals b ts) := ih.all fun k hk => by
  obtain ⟨t, ht, rfl⟩ := List.mem_map.mp hk
  have := szTs_mem ht
  have : c * szT t ≤ c * (1 + szTs ts) := Nat.mul_le_mul_left _ (by omega)
  show _ - 8 ≤ _ - 8
  omega
mutual
/-- the bits of a term's number -/
theorem val_bd {n φ β c : Nat} {b : List Rat} (hb : BdL β b) (hn : b.length = n) (c1 : φ + 8 ≤ c) (c2 : β + 8 ≤ c) (c3 : 19 ≤ c) : ∀ t : Tm, WT n φ t → Bd (c * szT t - 8) (val b t)
  | .bid i, h => by
    unfold WT at h
    unfold val szT
    rw [List.getD_eq_getElem?_getD, List.getElem?_eq_getElem (by omega)]
    exact (hb _ (List.getElem_mem _)).mono (by omega)
  | .fix q, h => by
    unfold WT at h
    unfold val szT
    exact h.1.mono (by omega)
  | .mean ws ts, h => by
    unfold WT at h
    obtain ⟨h1, h2, h3, h4, h5⟩ := h
    unfold val szT
    have ih := vals_bd hb hn c1 c2 c3 ts h5
    refine (mean_bd h4 (by omega) (by omega) ih).mono ?_
    rw [sum_sz (by omega), Nat.mul_add]
    omega
  | .least ts, h => by
    unfold WT at h
    unfold val szT
    exact valsB (vals_bd hb hn c1 c2 c3 ts h.2.2) _ (lstQ_mem (vals_ne h.1))
  | .great ts, h => by
    unfold WT at h
    unfold val szT
    exact valsB (vals_bd hb hn c1 c2 c3 ts h.2.2) _ (grtQ_mem (vals_ne h.1))
  | .rank k ts, h => by
    unfold WT at h
    unfold val szT
    exact valsB (vals_bd hb hn c1 c2 c3 ts h.2.2.2) _ (nthQ_mem (by rw [vals_map, List.length_map]; omega))
  | .betw lo hi t, h => by
    unfold WT at h
    unfold val szT
    have ih := val_bd hb hn c1 c2 c3 t h.2.2.2
    have m := nthQ_mem (l := [lo, hi, val b t]) (i := 1) (by simp)
    have p := szT_pos t
    have : c * szT t + c ≤ c * (1 + szT t) := by rw [Nat.mul_add]; omega
    have : c * 1 ≤ c * szT t := Nat.mul_le_mul_left _ p
    simp only [List.mem_cons, List.not_mem_nil, or_false] at m
    rcases m with m | m | m
    · rw [m]; exact h.1.1.mono (by omega)
    · rw [m]; exact h.2.1.1.mono (by omega)
    · rw [m]; exact ih.mono (by omega)
theorem vals_bd {n φ β c : Nat} {b : List Rat} (hb : BdL β b) (hn : b.length = n) (c1 : φ + 8 ≤ c) (c2 : β + 8 ≤ c) (c3 : 19 ≤ c) : ∀ ts : List Tm, WTs n φ ts → BdF (ts.map fun t => c * szT t - 8) (vals b ts)
  | [], h => trivial
  | t :: r, h => by
    unfold WTs at h
    exact ⟨val_bd hb hn c1 c2 c3 t h.1, vals_bd hb hn c1 c2 c3 r h.2⟩
end
local macro_rules | `(tactic| simp_arith [$ts,*]) => `(tactic| simp only [evSs_nil, evSs_cons, nxt_nx, nxt_rt, nxt_bk, nxt_ct, fin_nx, fin_rt, evS_whl, evS_fr (itOwn_seq _), evS_fr (itOwn_rng1 _), evS_fr (itOwn_rng2 _ _), evS_fr (itOwn_enum _), evS_fr (itOwn_zip _ _), evE_comp, evS_mut, evS_own, ownV_lst, mutV_ow, mutV_ref, evS_aug, augV_sub, augV_add, evS_ifs, evS.eq_1, evS.eq_2, evS.eq_4, evS.eq_6, evS.eq_8, evS.eq_9, evS.eq_13, evS.eq_14, evS.eq_15, evS.eq_16, evS.eq_17, evE_neg, negV_int, evO_no, evO_so, intO_int, evAnd_one, evAnd_cons, andK_bl, evOr_one, evOr_cons, orK_bl, evI_rng1, evI_rng2, evE.eq_1, evE.eq_2, evE.eq_3, evE.eq_4, evE.eq_5, evE.eq_6, evE.eq_7, evE.eq_9, evE.eq_10, evE.eq_11, evE.eq_12, evE.eq_13, evE.eq_14, evE.eq_15, evE.eq_16, evE.eq_17, evE.eq_18, evE.eq_19, evE.eq_20, evE.eq_21, evE.eq_22, evE.eq_23, evE.eq_24, evE.eq_26, evEs, evT, evAll, evAny, evI.eq_1, evI.eq_4, evI.eq_5, evI.eq_6, ret_bnd', bad_bnd, bnd_bnd, ite_ret, ofO_some, ofO_none, getE0, getE1, getE2, getE3, getE4, getE5, getE6, getE7, getE8, getE9, getE10, getE11, getE12, getE13, getB0, getB0', getB1, getB2, getB3, getB4, getB5, getB6, getB7, gt1, gt2, gt3, gt4, gt5, gt6, gt7, st1, st2, st3, st4, st5, st6, st7, st8, st9, st10, st11, st12, List.getElem?_cons_zero, List.set_cons_zero, frzK_nil, frzK_cons, wipeE_nil, wipeE_cons, frz1_ow, frz1_sh, frz1_un, asgT_nm, asgT_2, bop_add, bop_sub, cm_lt, cm_le, cm_gt, cm_ge, cm_eq, cm_ne, cm_is, cm_isnot, isNon_non, isNon_int, isNon_lst, isNon_tup, pyEq_int, it_tup, it_lst, sl_tup, sl_lst, sl_scr, tr_bl, ty_int, ty_intb, ty_intt, ty_ints, ty_bl, ty_blb, ty_blt, ty_tup, ty_tupi, ty_tups, ty_str, ty_strt, ty_stri, bi_lenT, bi_lenL, bi_int, bi_abs, bi_tupL, bi_tupT, bi_lstL, bi_lstT, bi_all, bi_any, bi_sum, sq_lst, sq_tup, atI0, atI1, atI2, atI3, atI_neg1, List.map_cons, List.map_nil, List.length_cons, List.length_nil, Nat.reduceAdd, Nat.reduceSub, Nat.reduceLT, wht_nx, Nat.zero_add, List.replicate_succ, List.replicate_zero, List.append_nil, List.cons_append, List.nil_append, if_true, if_false, Bool.false_eq_true, Bool.not_true, Bool.not_false, Option.map_some, Option.map_none, decide_true, decide_false, ite_self, ne_eq, not_true_eq_false, not_false_eq_true, decide_eq_true_eq, Nat.lt_irrefl, Nat.succ_pos, Nat.zero_lt_succ, noex_ret, $ts,*])
section
variable {P : Prog} [B_k38 P] [BW P]
theorem zipV_map {α : Type} {f g : α → EV} : ∀ {l : List α}, zipV (l.map f) (l.map g) = l.map fun x => .tup [f x, g x]
  | [] => rfl
  | x :: r => by rw [List.map_cons, List.map_cons]; unfold zipV; rw [zipV_map]; rfl
theorem fr_nat (w : Nat) : EV.tup [.int (w : Int), .int 1] = fr (w : Rat) := by
  unfold fr
  rw [Rat.num_natCast, Rat.den_natCast]
  rfl
theorem zipV_zip {α β : Type} {f : α → EV} {g : β → EV} : ∀ {l : List α} {r : List β}, zipV (l.map f) (r.map g) = (l.zip r).map fun p => .tup [f p.1, g p.2]
  | [], _ => by simp [zipV]
  | _ :: _, [] => by simp [zipV]
  | x :: l, y :: r => by rw [List.map_cons, List.map_cons]; unfold zipV; rw [zipV_zip]; rfl
theorem zipM_lst {l r : List EV} : zipM (.lst l) (.lst r) = ret (zipV l r) := rfl
theorem zipM_tup {l r : List EV} : zipM (.tup l) (.tup r) = ret (zipV l r) := rfl
theorem fr_01 : EV.tup [.int 0, .int 1] = fr 0 := rfl
theorem fr_11 : EV.tup [.int 1, .int 1] = fr 1 := rfl
theorem ev_mean {d : Nat} (hd : 4 ≤ d) {ws : List Nat} {vs : List Rat} (hl : ws.length = vs.length) (hw : ∀ w ∈ ws, 1 ≤ w ∧ w ≤ 99) (h1 : 1 ≤ ws.length) (h8 : ws.length ≤ 8) {ks : List Nat} (hv : BdF ks vs) {K : Nat} (hK : 11 + (ks.map (· + 8)).sum ≤ K) (hK2 : K ≤ 50000000) :
    callD P d 11 [.lst (ws.map fun (w : Nat) => .int (w : Int)), .lst (vs.map fr)] = ret (fr (meanQ ws vs)) := by
  rw [callF fn11 (by omega) rfl]
  simp_arith [F11, ir11, zipM_lst, zipV_zip]
  obtain ⟨s1, s2⟩ := sum_ws hw
  have kl := hv.len
  refine bnd_ex (forL_idx (fun (p : Nat × Rat) => EV.tup [.int (p.1 : Int), fr p.2]) (fun i ρ => ∃ t n u v, Bd n t ∧ n + ((ks.drop i).map (· + 8)).sum + 10 ≤ K ∧ t = ((ws.zip vs).take i).foldl (fun t p => t + (p.1 : Rat) * p.2) 0 ∧ ρ = [.sh (.lst (ws.map fun (w : Nat) => .int (w : Int))), .sh (.lst (vs.map fr)), .sh (fr t), u, v]) (ws.zip vs) (fun i hi ρ hI => ?_) ⟨0, 1, _, _, Bd.zero (by omega), by rw [List.drop_zero]; omega, rfl, rfl⟩) ?_
  · obtain ⟨t, n, u, v, ht, hn, te, rfl⟩ := hI
    have hi1 : i < ws.length := by rw [List.length_zip] at hi; omega
    have hi2 : i < vs.length := by rw [List.length_zip] at hi; omega
    have hi3 : i < ks.length := by omega
    have hb := hv.get i hi3 hi2
    rw [List.drop_eq_getElem_cons hi3, List.map_cons, List.sum_cons] at hn
    have b1 : Bd 7 ((ws[i] : Nat) : Rat) := Bd.nat (by have := (hw _ (List.getElem_mem hi1)).2; omega) (by omega)
    have b2 := b1.mul hb
    have e1 : callD P (d - 1) 4 [fr ((ws[i] : Nat) : Rat), fr vs[i]] = _ := ev_times (by omega) b1 hb (by omega) (by omega)
    have e2 : callD P (d - 1) 3 [fr t, fr ((ws[i] : Nat) * vs[i])] = _ := ev_plus (by omega) ht b2 (by omega) (by omega)
    refine ⟨[.sh (.lst (ws.map fun (w : Nat) => .int (w : Int))), .sh (.lst (vs.map fr)), .sh (fr (t + (ws[i] : Nat) * vs[i])), .sh (.int (ws[i] : Nat)), .sh (fr vs[i])], ?_, t + (ws[i] : Nat) * vs[i], n + (7 + ks[i]) + 1, _, _, ht.add b2, by omega, ?_, rfl⟩
    · simp_arith [tgb_eq, List.getElem_zip, fr_nat, e1, e2]
    · rw [List.take_succ_eq_append_getElem hi, List.foldl_append, ← te, List.getElem_zip]
      rfl
  · rintro ρ ⟨t, n, u, v, ht, hn, te, rfl⟩
    rw [List.take_length] at te
    have se : bi .sum [.lst (ws.map fun (w : Nat) => .int (w : Int))] = some (.int (ws.map Int.ofNat).sum) := bi_sum (f := fun (w : Nat) => (w : Int))
    have sb : (ws.map Int.ofNat).sum.natAbs < 2 ^ 10 := by
      have : (ws.map Int.ofNat).sum.natAbs ≤ 792 := by omega
      omega
    have b : Bd 10 (Rat.divInt 1 (ws.map Int.ofNat).sum) := divInt_bd (by omega) (by decide) sb
    simp_arith [se]
    rw [ev_made (by omega) 1 _ (by omega) sb (by omega)]
    simp_arith []
    rw [ev_times (by omega) ht b (by omega) (by omega)]
    simp_arith [meanQ, te]
theorem ev_rank {d : Nat} (hd : 3 ≤ d) {k : Nat} {l : List Rat} (h1 : 1 ≤ k) (hk : k ≤ l.length) {n : Nat} (h : BdL n l) (hn : n ≤ 60000000) (hl : l.length < 10000) : callD P d 12 [.int (k : Int), .lst (l.map fr)] = ret (fr (nthQ l (l.length - k))) := by
  rw [callF fn12 (by omega) rfl]
  have e : (l.length : Int) - (k : Int) = ((l.length - k : Nat) : Int) := by omega
  simp_arith [F12, ir12, ev_asc (show 2 ≤ d - 1 by omega) h hn hl, List.length_map, e, atI_srt (show l.length - k < l.length by omega)]
/-- words -/
theorem sh_str {s : Str} (h : PySem.SeqAt.shaped (.str s) = true) : PySem.SeqAt.shaped (.str s) = true := h
theorem pe_bb : pyEq (.str "bid") (.str "bid") = some true := by decide +kernel
theorem pe_fb : pyEq (.str "fixed") (.str "bid") = some false := by decide +kernel
theorem pe_ff : pyEq (.str "fixed") (.str "fixed") = some true := by decide +kernel
theorem pe_mb : pyEq (.str "mean") (.str "bid") = some false := by decide +kernel
theorem pe_mf : pyEq (.str "mean") (.str "fixed") = some false := by decide +kernel
theorem pe_mm : pyEq (.str "mean") (.str "mean") = some true := by decide +kernel
theorem pe_lb : pyEq (.str "least") (.str "bid") = some false := by decide +kernel
theorem pe_lf : pyEq (.str "least") (.str "fixed") = some false := by decide +kernel
theorem pe_lm : pyEq (.str "least") (.str "mean") = some false := by decide +kernel
theorem pe_lw : pyEq (.str "least") (.str "between") = some false := by decide +kernel
theorem pe_lr : pyEq (.str "least") (.str "ranked") = some false := by decide +kernel
theorem pe_ll : pyEq (.str "least") (.str "least") = some true := by decide +kernel
theorem pe_gb : pyEq (.str "greatest") (.str "bid") = some false := by decide +kernel
theorem pe_gf : pyEq (.str "greatest") (.str "fixed") = some false := by decide +kernel
theorem pe_gm : pyEq (.str "greatest") (.str "mean") = some false := by decide +kernel
theorem pe_gw : pyEq (.str "greatest") (.str "between") = some false := by decide +kernel
theorem pe_gr : pyEq (.str "greatest") (.str "ranked") = some false := by decide +kernel
theorem pe_gl : pyEq (.str "greatest") (.str "least") = some false := by decide +kernel
theorem pe_gg : pyEq (.str "greatest") (.str "greatest") = some true := by decide +kernel
theorem pe_rb : pyEq (.str "ranked") (.str "bid") = some false := by decide +kernel
theorem pe_rf : pyEq (.str "ranked") (.str "fixed") = some false := by decide +kernel
theorem pe_rm : pyEq (.str "ranked") (.str "mean") = some false := by decide +kernel
theorem pe_rw : pyEq (.str "ranked") (.str "between") = some false := by decide +kernel
theorem pe_rr : pyEq (.str "ranked") (.str "ranked") = some true := by decide +kernel
theorem pe_rl : pyEq (.str "ranked") (.str "least") = some false := by decide +kernel
theorem pe_rg : pyEq (.str "ranked") (.str "greatest") = some false := by decide +kernel
theorem pe_wb : pyEq (.str "between") (.str "bid") = some false := by decide +kernel
theorem pe_wf : pyEq (.str "between") (.str "fixed") = some false := by decide +kernel
theorem pe_wm : pyEq (.str "between") (.str "mean") = some false := by decide +kernel
theorem pe_ww : pyEq (.str "between") (.str "between") = some true := by decide +kernel
theorem ev_value {n φ β c : Nat} {b : List Rat} (hb : BdL β b) (hn : b.length = n) (c1 : φ + 8 ≤ c) (c2 : β + 8 ≤ c) (c3 : 19 ≤ c) : ∀ (t : Tm), WT n φ t → c * szT t ≤ 40000000 → ∀ d, dpT t + 5 ≤ d → callD P d 13 [encT t, .tup (b.map fr)] = ret (fr (val b t))
  | .bid i, h, hs, d, hd => by
    unfold WT at h
    rw [callF fn13 (by omega) rfl]
    unfold encT
    simp_arith [F13, ir13, pe_bb, atI_nat, List.getElem?_map, List.getElem?_eq_getElem (show i < b.length by omega), val, List.getD_eq_getElem?_getD, Option.getD_some]
  | .fix q, h, hs, d, hd => by
    rw [callF fn13 (by omega) rfl]
    unfold encT
    simp_arith [F13, ir13, pe_fb, pe_ff, val]
  | .mean ws ts, h, hs, d, hd => by
    unfold WT at h
    obtain ⟨h1, h2, h3, h4, h5⟩ := h
    unfold dpT at hd
    unfold szT at hs
    rw [Nat.mul_add] at hs
    have ih : ∀ t ∈ ts, callD P (d - 1) 13 [encT t, .tup (b.map fr)] = ret (fr (val b t)) := fun t ht => ev_value hb hn c1 c2 c3 t (h5.mem t ht) (by have := Nat.mul_le_mul_left c (szTs_mem ht); omega) _ (by have := dpTs_mem ht; omega)
    have bv := vals_bd hb hn c1 c2 c3 ts h5
    rw [callF fn13 (by omega) rfl]
    unfold encT
    have ez : List.zipWith wpair ws (encTs ts) = (ws.zip ts).map fun p => wpair p.1 (encT p.2) := by
      rw [encTs_map, List.zip, List.map_zipWith, List.zipWith_map_right]
    have lz : (ws.zip ts).length = ts.length := by rw [List.length_zip]; omega
    rw [ez]
    simp_arith [F13, ir13, pe_mb, pe_mf, pe_mm]
    refine bnd_eq (compL_map (fun (p : Nat × Tm) => wpair p.1 (encT p.2)) (fun p => .int (p.1 : Int)) (ws.zip ts) fun p hp => ?_) ?_
    · simp_arith [cmp1e_eq, wpair]
    · simp_arith [List.length_map, show (ws.zip ts).length < szl by show _ < 16777216; omega]
      refine bnd_eq (compL_map (fun (p : Nat × Tm) => wpair p.1 (encT p.2)) (fun p => fr (val b p.2)) (ws.zip ts) fun p hp => ?_) ?_
      · have := ih p.2 (List.of_mem_zip hp).2
        simp_arith [cmp1e_eq, wpair, this]
      · have e1 : ((ws.zip ts).map fun p => EV.int (p.1 : Int)) = ws.map fun (w : Nat) => EV.int (w : Int) := by
          rw [show (fun (p : Nat × Tm) => EV.int (p.1 : Int)) = (fun (w : Nat) => EV.int (w : Int)) ∘ Prod.fst from rfl, ← List.map_map, List.map_fst_zip (by omega)]
        have e2 : ((ws.zip ts).map fun p => fr (val b p.2)) = (vals b ts).map fr := by
          rw [show (fun (p : Nat × Tm) => fr (val b p.2)) = (fun t => fr (val b t)) ∘ Prod.snd from rfl, ← List.map_map, List.map_snd_zip (by omega), vals_map, List.map_map]
          rfl
        have sz := sum_sz (c := c) (by omega) ts
        simp_arith [List.length_map, show (ws.zip ts).length < szl by show _ < 16777216; omega, e1, e2]
        rw [ev_mean (show 4 ≤ d - 1 by omega) (by rw [vals_map, List.length_map]; exact h1) h4 (by omega) (by omega) bv (K := 11 + c * szTs ts) (by rw [sz]; omega) (by omega)]
        simp_arith [val, show (vals b ts).length < szl by rw [vals_map, List.length_map]; show _ < 16777216; omega]
  | .least ts, h, hs, d, hd => by
    unfold WT at h
    obtain ⟨h2, h3, h5⟩ := h
    unfold dpT at hd
    have bv := valsB (vals_bd hb hn c1 c2 c3 ts h5)
    have hs' : c * (1 + szTs ts) ≤ 40000000 := by unfold szT at hs; exact hs
    have ih : ∀ t ∈ ts, callD P (d - 1) 13 [encT t, .tup (b.map fr)] = ret (fr (val b t)) := fun t ht => ev_value hb hn c1 c2 c3 t (h5.mem t ht) (by have := Nat.mul_le_mul_left c (show szT t ≤ 1 + szTs ts by have := szTs_mem ht; omega); omega) _ (by have := dpTs_mem ht; omega)
    rw [callF fn13 (by omega) rfl]
    unfold encT
    rw [encTs_map]
    simp_arith [F13, ir13, pe_lb, pe_lf, pe_lm, pe_lw, pe_lr, pe_ll, List.getLast?_cons_cons, List.getLast?_singleton]
    refine bnd_eq (compL_map encT (fun t => fr (val b t)) ts fun t ht => ?_) ?_
    · simp_arith [cmp1e_eq, ih t ht]
    · simp_arith [List.length_map, show ts.length < szl by show _ < 16777216; omega]
      rw [show ts.map (fun t => fr (val b t)) = (vals b ts).map fr by rw [vals_map, List.map_map]; rfl, ev_least (by omega) (vals_ne h2) bv (by omega)]
      simp_arith [val]
  | .great ts, h, hs, d, hd => by
    unfold WT at h
    obtain ⟨h2, h3, h5⟩ := h
    unfold dpT at hd
    have bv := valsB (vals_bd hb hn c1 c2 c3 ts h5)
    have hs' : c * (1 + szTs ts) ≤ 40000000 := by unfold szT at hs; exact hs
    have ih : ∀ t ∈ ts, callD P (d - 1) 13 [encT t, .tup (b.map fr)] = ret (fr (val b t)) := fun t ht => ev_value hb hn c1 c2 c3 t (h5.mem t ht) (by have := Nat.mul_le_mul_left c (show szT t ≤ 1 + szTs ts by have := szTs_mem ht; omega); omega) _ (by have := dpTs_mem ht; omega)
    rw [callF fn13 (by omega) rfl]
    unfold encT
    rw [encTs_map]
    simp_arith [F13, ir13, pe_gb, pe_gf, pe_gm, pe_gw, pe_gr, pe_gl, List.getLast?_cons_cons, List.getLast?_singleton]
    refine bnd_eq (compL_map encT (fun t => fr (val b t)) ts fun t ht => ?_) ?_
    · simp_arith [cmp1e_eq, ih t ht]
    · simp_arith [List.length_map, show ts.length < szl by show _ < 16777216; omega]
      rw [show ts.map (fun t => fr (val b t)) = (vals b ts).map fr by rw [vals_map, List.map_map]; rfl, ev_great (by omega) (vals_ne h2) bv (by omega)]
      simp_arith [val]
  | .rank k ts, h, hs, d, hd => by
    unfold WT at h
    obtain ⟨h1, h2, h3, h5⟩ := h
    unfold dpT at hd
    have bv := valsB (vals_bd hb hn c1 c2 c3 ts h5)
    have lv : (vals b ts).length = ts.length := by rw [vals_map, List.length_map]
    have hs' : c * (1 + szTs ts) ≤ 40000000 := by unfold szT at hs; exact hs
    have ih : ∀ t ∈ ts, callD P (d - 1) 13 [encT t, .tup (b.map fr)] = ret (fr (val b t)) := fun t ht => ev_value hb hn c1 c2 c3 t (h5.mem t ht) (by have := Nat.mul_le_mul_left c (show szT t ≤ 1 + szTs ts by have := szTs_mem ht; omega); omega) _ (by have := dpTs_mem ht; omega)
    rw [callF fn13 (by omega) rfl]
    unfold encT
    rw [encTs_map]
    simp_arith [F13, ir13, pe_rb, pe_rf, pe_rm, pe_rw, pe_rr, pe_rl, List.getLast?_cons_cons, List.getLast?_singleton]
    refine bnd_eq (compL_map encT (fun t => fr (val b t)) ts fun t ht => ?_) ?_
    · simp_arith [cmp1e_eq, ih t ht]
    · simp_arith [List.length_map, show ts.length < szl by show _ < 16777216; omega]
      rw [show ts.map (fun t => fr (val b t)) = (vals b ts).map fr by rw [vals_map, List.map_map]; rfl, ev_rank (by omega) h1 (by omega) bv (by omega) (by omega), lv]
      simp_arith [val]
  | .betw lo hi t, h, hs, d, hd => by
    unfold WT at h
    obtain ⟨h1, h2, h3, h5⟩ := h
    unfold dpT at hd
    unfold szT at hs
    rw [Nat.mul_add] at hs
    have ih := ev_value hb hn c1 c2 c3 t h5 (by omega) (d - 1) (by omega)
    have bv := val_bd hb hn c1 c2 c3 t h5
    have p : c * 1 ≤ c * szT t := Nat.mul_le_mul_left _ (szT_pos t)
    have em : callD P (d - 1) 9 [fr lo, fr hi, fr (val b t)] = _ := ev_mid (n := c * szT t) (by omega) (h1.1.mono (by omega)) (h2.1.mono (by omega)) (bv.mono (by omega)) (by omega)
    rw [callF fn13 (by omega) rfl]
    unfold encT
    simp_arith [F13, ir13, pe_wb, pe_wf, pe_wm, pe_ww, ih, em, val]
end
end Py
end
section
/-! PyChk: checks of things. -/
namespace Py
open PySem (Str PyData)
open L2 (ixN atI)
mutual
/-- data, its ints of so many bits -/
def dat (n : Nat) : EV → Bool
  | .non => true
  | .bl _ => true
  | .int i => decide (i.natAbs < 2 ^ n)
  | .str _ => true
  | .tup l => datL n l
  | .lst l => datL n l
  | .dic ks vs => ks.isEmpty && vs.isEmpty
  | _ => false
def datL (n : Nat) : List EV → Bool
  | [] => true
  | v :: r => dat n v && datL n r
end
theorem datL_mem {n : Nat} : ∀ {l : List EV}, datL n l = true → ∀ v ∈ l, dat n v = true
  | a :: r, h, v, hv => by
    unfold datL at h
    rw [Bool.and_eq_true] at h
    rcases List.mem_cons.mp hv with rfl | hv
    · exact h.1
    · exact datL_mem h.2 v hv
theorem datL_of {n : Nat} : ∀ {l : List EV}, (∀ v ∈ l, dat n v = true) → datL n l = true
  | [], _ => by unfold datL; rfl
  | a :: r, h => by
    unfold datL
    rw [h a List.mem_cons_self, datL_of fun v hv => h v (List.mem_cons_of_mem _ hv)]
    rfl
def intB : EV → Bool
  | .int _ => true
  | _ => false
def tupB : EV → Bool
  | .tup _ => true
  | _ => false
/-- a fraction -/
def fracB : EV → Bool
  | .tup [.int a, .int b] => decide (1 ≤ b) && decide (a.natAbs.gcd b.natAbs = 1)
  | _ => false
/-- a number -/
def numB : EV → Bool
  | .tup [.int a, .int b] => decide (1 ≤ b) && decide (a.natAbs.gcd b.natAbs = 1) && decide (0 ≤ a) && decide (a ≤ b)
  | _ => false
/-- so many numbers -/
def numsB (n : Int) : EV → Bool
  | .tup l => decide ((l.length : Int) = n) && l.all numB
  | _ => false
/-- a number from 0 to 1 -/
def Nm (q : Rat) : Prop := 0 ≤ q ∧ q ≤ 1
theorem numB_fr {v : EV} (h : numB v = true) : ∃ q, v = fr q ∧ Nm q := by
  unfold numB at h
  split at h
  · rename_i a b
    simp only [Bool.and_eq_true, decide_eq_true_eq] at h
    obtain ⟨⟨⟨h1, h2⟩, h3⟩, h4⟩ := h
    refine ⟨⟨a, b.toNat, by omega, by
      have : b.natAbs = b.toNat := by omega
      rw [← this]; exact h2⟩, ?_, ?_, ?_⟩
    · unfold fr
      simp only []
      rw [show ((b.toNat : Nat) : Int) = b by omega]
    · rw [Rat.le_iff]
      simp
      exact h3
    · rw [Rat.le_iff]
      simp
      omega
  · cases h
theorem num_of_nn {q : Rat} (h : 0 ≤ q) : 0 ≤ q.num := Rat.num_nonneg.mpr h
theorem num_le_den {q : Rat} (h : q ≤ 1) : q.num ≤ (q.den : Int) := by
  rw [Rat.le_iff] at h
  simpa using h
theorem fr_numB {q : Rat} (h : Nm q) : numB (fr q) = true := by
  unfold fr numB
  have h1 := num_of_nn h.1
  have h2 := num_le_den h.2
  have h3 := q.den_nz
  have h4 : q.num.natAbs.gcd q.den = 1 := q.reduced
  simp [h1, h2, h4]
  omega
theorem fr_fracB {q : Rat} : fracB (fr q) = true := by
  unfold fr fracB
  have h3 := q.den_nz
  have h4 : q.num.natAbs.gcd q.den = 1 := q.reduced
  simp [h4]
  omega
theorem bd_of_dat {n : Nat} {q : Rat} (h : dat n (fr q) = true) : Bd n q := by
  unfold fr dat at h
  have a := datL_mem h (.int q.num) (by simp)
  have b := datL_mem h (.int q.den) (by simp)
  unfold dat at a b
  exact ⟨of_decide_eq_true a, by simpa using b⟩
theorem dat_fr {n : Nat} {q : Rat} (h : Bd n q) : dat n (fr q) = true := by
  unfold fr dat
  refine datL_of fun v hv => ?_
  simp only [List.mem_cons, List.not_mem_nil, or_false] at hv
  rcases hv with rfl | rfl
  · unfold dat; exact decide_eq_true h.1
  · unfold dat; exact decide_eq_true (by simpa using h.2)
theorem numsB_ok {n : Nat} {v : EV} (h : numsB n v = true) : ∃ b : List Rat, v = .tup (b.map fr) ∧ b.length = n ∧ ∀ q ∈ b, Nm q := by
  unfold numsB at h
  split at h
  · rename_i l
    rw [Bool.and_eq_true, decide_eq_true_eq, List.all_eq_true] at h
    obtain ⟨h1, h2⟩ := h
    have : ∀ l : List EV, (∀ v ∈ l, numB v = true) → ∃ b : List Rat, l = b.map fr ∧ ∀ q ∈ b, Nm q := by
      intro l
      induction l with
      | nil => exact fun _ => ⟨[], rfl, fun q hq => nomatch hq⟩
      | cons v r ih =>
        intro h
        obtain ⟨q, e, hq⟩ := numB_fr (h v List.mem_cons_self)
        obtain ⟨b, e2, hb⟩ := ih fun v hv => h v (List.mem_cons_of_mem _ hv)
        refine ⟨q :: b, by rw [e, e2]; rfl, fun x hx => ?_⟩
        rcases List.mem_cons.mp hx with rfl | hx
        · exact hq
        · exact hb x hx
    obtain ⟨b, rfl, hb⟩ := this l h2
    exact ⟨b, rfl, by rw [List.length_map] at h1; omega, hb⟩
  · cases h
theorem nums_ok {b : List Rat} (h : ∀ q ∈ b, Nm q) : numsB b.length (.tup (b.map fr)) = true := by
  unfold numsB
  simp only []
  rw [List.length_map, decide_eq_true rfl, Bool.true_and, List.all_eq_true]
  intro v hv
  obtain ⟨q, hq, rfl⟩ := List.mem_map.mp hv
  exact fr_numB (h q hq)
local macro_rules | `(tactic| simp_arith [$ts,*]) => `(tactic| simp only [evSs_nil, evSs_cons, nxt_nx, nxt_rt, nxt_bk, nxt_ct, fin_nx, fin_rt, evS_whl, evS_fr (itOwn_seq _), evS_fr (itOwn_rng1 _), evS_fr (itOwn_rng2 _ _), evS_fr (itOwn_enum _), evS_fr (itOwn_zip _ _), evE_comp, evS_mut, evS_own, ownV_lst, mutV_ow, mutV_ref, evS_aug, augV_sub, augV_add, evS_ifs, evS.eq_1, evS.eq_2, evS.eq_4, evS.eq_6, evS.eq_8, evS.eq_9, evS.eq_13, evS.eq_14, evS.eq_15, evS.eq_16, evS.eq_17, evE_neg, negV_int, evO_no, evO_so, intO_int, evAnd_one, evAnd_cons, andK_bl, evOr_one, evOr_cons, orK_bl, evI_rng1, evI_rng2, evE.eq_1, evE.eq_2, evE.eq_3, evE.eq_4, evE.eq_5, evE.eq_6, evE.eq_7, evE.eq_9, evE.eq_10, evE.eq_11, evE.eq_12, evE.eq_13, evE.eq_14, evE.eq_15, evE.eq_16, evE.eq_17, evE.eq_18, evE.eq_19, evE.eq_20, evE.eq_21, evE.eq_22, evE.eq_23, evE.eq_24, evE.eq_26, evEs, evT, evAll, evAny, evI.eq_1, evI.eq_4, evI.eq_5, evI.eq_6, ret_bnd', bad_bnd, bnd_bnd, ite_ret, ofO_some, ofO_none, getE0, getE1, getE2, getE3, getE4, getE5, getE6, getE7, getE8, getE9, getE10, getE11, getE12, getE13, getB0, getB0', getB1, getB2, getB3, getB4, getB5, getB6, getB7, gt1, gt2, gt3, gt4, gt5, gt6, gt7, st1, st2, st3, st4, st5, st6, st7, st8, st9, st10, st11, st12, List.getElem?_cons_zero, List.set_cons_zero, frzK_nil, frzK_cons, wipeE_nil, wipeE_cons, frz1_ow, frz1_sh, frz1_un, asgT_nm, asgT_2, bop_add, bop_sub, cm_lt, cm_le, cm_gt, cm_ge, cm_eq, cm_ne, cm_is, cm_isnot, isNon_non, isNon_int, isNon_lst, isNon_tup, pyEq_int, it_tup, it_lst, sl_tup, sl_lst, sl_scr, tr_bl, ty_int, ty_intb, ty_intt, ty_ints, ty_bl, ty_blb, ty_blt, ty_tup, ty_tupi, ty_tups, ty_str, ty_strt, ty_stri, bi_lenT, bi_lenL, bi_int, bi_abs, bi_tupL, bi_tupT, bi_lstL, bi_lstT, bi_all, bi_any, bi_sum, sq_lst, sq_tup, atI0, atI1, atI2, atI3, atI_neg1, List.map_cons, List.map_nil, List.length_cons, List.length_nil, Nat.reduceAdd, Nat.reduceSub, Nat.reduceLT, wht_nx, Nat.zero_add, List.replicate_succ, List.replicate_zero, List.append_nil, List.cons_append, List.nil_append, if_true, if_false, Bool.false_eq_true, Bool.not_true, Bool.not_false, Option.map_some, Option.map_none, decide_true, decide_false, ite_self, ne_eq, not_true_eq_false, not_false_eq_true, decide_eq_true_eq, Nat.lt_irrefl, Nat.succ_pos, Nat.zero_lt_succ, noex_ret, $ts,*])
section
variable {P : Prog} [B_k38 P] [BW P]
theorem ev_is_integer {d : Nat} (hd : 1 ≤ d) {n : Nat} {v : EV} (h : dat n v = true) : callD P d 0 [v] = ret (.bl (intB v)) := by
  rw [callF fn0 hd rfl]
  cases v <;> first | (exfalso; unfold dat at h; exact Bool.false_ne_true h) | skip
  all_goals simp_arith [F0, ir0, isTy, intB]
theorem fracB_short {v : EV} (h : ∀ l, v = .tup l → l.length ≠ 2) : fracB v = false := by
  unfold fracB
  split
  · exact absurd rfl (h _ rfl)
  · rfl
theorem ev_is_fraction {d : Nat} (hd : 2 ≤ d) {n : Nat} (hn : n ≤ 60000000) {v : EV} (h : dat n v = true) : callD P d 10 [v] = ret (.bl (fracB v)) := by
  rw [callF fn10 (by omega) rfl]
  by_cases ht : ∃ l, v = .tup l
  case neg =>
    have e : isTy v .tuple = some false := by cases v <;> first | (exfalso; unfold dat at h; exact Bool.false_ne_true h) | rfl | exact absurd ⟨_, rfl⟩ ht
    simp_arith [F10, ir10, e, fracB_short (fun l hl => absurd ⟨l, hl⟩ ht)]
  obtain ⟨l, rfl⟩ := ht
  by_cases h2 : l.length = 2
  case neg =>
    have : ¬ (l.length : Int) = 2 := by omega
    simp_arith [F10, ir10, this, fracB_short (v := .tup l) (fun l' hl => by cases hl; exact h2)]
  unfold dat at h
  obtain ⟨x, y, rfl⟩ : ∃ x y, l = [x, y] := by
    match l, h2 with
    | [x, y], _ => exact ⟨x, y, rfl⟩
  have hx := datL_mem h x (by simp)
  have hy := datL_mem h y (by simp)
  simp_arith [F10, ir10, show ((2 : Nat) : Int) = 2 from rfl]
  refine bnd_eq (compL_map id (fun v => .bl (intB v)) [x, y] fun z hz => ?_) ?_
  · simp_arith [cmp1e_eq, id, ev_is_integer (show 1 ≤ d - 1 by omega) (datL_mem h z hz)]
  · simp_arith [show (2 : Nat) < szl from by decide, show bi .all [.lst [.bl (intB x), .bl (intB y)]] = some (.bl (intB x && (intB y && true))) from rfl]
    cases x with
    | int a =>
      cases y with
      | int b =>
        simp_arith [intB, Bool.and_true, Bool.and_self, fracB]
        by_cases hb : 1 ≤ b
        · unfold dat at hy
          rw [ev_divisor (by omega) a b (of_decide_eq_true hy) (by omega)]
          simp_arith [hb, Bool.true_and]
          congr 2
          rw [Bool.eq_iff_iff]; simp
          omega
        · simp_arith [hb, Bool.false_and]
      | _ => simp_arith [intB, Bool.and_true, Bool.true_and, fracB]
    | _ => simp_arith [intB, Bool.and_true, Bool.false_and, fracB]
end
end Py
end
section
/-! PyLw: the laws' own reckoning of fractions and terms. -/
namespace Py
open PySem (Str PyData)
open L2 (ixN atI)
local macro_rules | `(tactic| simp_arith [$ts,*]) => `(tactic| simp only [evSs_nil, evSs_cons, nxt_nx, nxt_rt, nxt_bk, nxt_ct, fin_nx, fin_rt, evS_whl, evS_fr (itOwn_seq _), evS_fr (itOwn_rng1 _), evS_fr (itOwn_rng2 _ _), evS_fr (itOwn_enum _), evS_fr (itOwn_zip _ _), evE_comp, evS_mut, evS_own, ownV_lst, mutV_ow, mutV_ref, evS_aug, augV_sub, augV_add, evS_ifs, evS.eq_1, evS.eq_2, evS.eq_4, evS.eq_6, evS.eq_8, evS.eq_9, evS.eq_13, evS.eq_14, evS.eq_15, evS.eq_16, evS.eq_17, evE_neg, negV_int, evO_no, evO_so, intO_int, evAnd_one, evAnd_cons, andK_bl, evOr_one, evOr_cons, orK_bl, evI_rng1, evI_rng2, evE.eq_1, evE.eq_2, evE.eq_3, evE.eq_4, evE.eq_5, evE.eq_6, evE.eq_7, evE.eq_9, evE.eq_10, evE.eq_11, evE.eq_12, evE.eq_13, evE.eq_14, evE.eq_15, evE.eq_16, evE.eq_17, evE.eq_18, evE.eq_19, evE.eq_20, evE.eq_21, evE.eq_22, evE.eq_23, evE.eq_24, evE.eq_26, evEs, evT, evAll, evAny, evI.eq_1, evI.eq_4, evI.eq_5, evI.eq_6, ret_bnd', bad_bnd, bnd_bnd, ite_ret, ofO_some, ofO_none, getE0, getE1, getE2, getE3, getE4, getE5, getE6, getE7, getE8, getE9, getE10, getE11, getE12, getE13, getB0, getB0', getB1, getB2, getB3, getB4, getB5, getB6, getB7, gt1, gt2, gt3, gt4, gt5, gt6, gt7, st1, st2, st3, st4, st5, st6, st7, st8, st9, st10, st11, st12, List.getElem?_cons_zero, List.set_cons_zero, frzK_nil, frzK_cons, wipeE_nil, wipeE_cons, frz1_ow, frz1_sh, frz1_un, asgT_nm, asgT_2, bop_add, bop_sub, cm_lt, cm_le, cm_gt, cm_ge, cm_eq, cm_ne, cm_is, cm_isnot, isNon_non, isNon_int, isNon_lst, isNon_tup, pyEq_int, it_tup, it_lst, sl_tup, sl_lst, sl_scr, tr_bl, ty_int, ty_intb, ty_intt, ty_ints, ty_bl, ty_blb, ty_blt, ty_tup, ty_tupi, ty_tups, ty_str, ty_strt, ty_stri, bi_lenT, bi_lenL, bi_int, bi_abs, bi_tupL, bi_tupT, bi_lstL, bi_lstT, bi_all, bi_any, bi_sum, sq_lst, sq_tup, atI0, atI1, atI2, atI3, atI_neg1, List.map_cons, List.map_nil, List.length_cons, List.length_nil, Nat.reduceAdd, Nat.reduceSub, Nat.reduceLT, wht_nx, Nat.zero_add, List.replicate_succ, List.replicate_zero, List.append_nil, List.cons_append, List.nil_append, if_true, if_false, Bool.false_eq_true, Bool.not_true, Bool.not_false, Option.map_some, Option.map_none, decide_true, decide_false, ite_self, ne_eq, not_true_eq_false, not_false_eq_true, decide_eq_true_eq, Nat.lt_irrefl, Nat.succ_pos, Nat.zero_lt_succ, noex_ret, $ts,*])
section
variable {P : Prog} [B_k38 P] [BW P]
theorem ev_lowest {d : Nat} (hd : 1 ≤ d) (t b : Int) (hb : 0 < b) {n : Nat} (h : b.natAbs < 2 ^ n) (hn : n ≤ 400000000000) : callD P d 36 [.int t, .int b] = ret (fr (Rat.divInt t b)) := by
  have g0 : t.natAbs.gcd b.natAbs ≠ 0 := by
    intro e
    have := (Nat.gcd_eq_zero_iff.mp e).2
    omega
  obtain ⟨k, hk⟩ : ((t.natAbs.gcd b.natAbs : Nat) : Int) ∣ t := Int.ofNat_dvd_left.mpr (Nat.gcd_dvd_left ..)
  obtain ⟨l, hl⟩ : ((t.natAbs.gcd b.natAbs : Nat) : Int) ∣ b := Int.ofNat_dvd_left.mpr (Nat.gcd_dvd_right ..)
  rw [callF fn36 (by omega) rfl, fr_divInt (by omega)]
  simp_arith [F36, ir36, asgTs_2]
  have eb : EV.int b = EV.int (b.natAbs : Nat) := by congr 1; omega
  rw [show [Slot.sh (.int t), Slot.sh (.int b), Slot.sh (.int (t.natAbs : Nat)), Slot.sh (.int b)] = [Slot.sh (.int t), Slot.sh (.int b), Slot.sh (.int (t.natAbs : Nat)), Slot.sh (.int (b.natAbs : Nat))] by rw [← eb]]
  refine bnd_ex (gcd_loop (I := fun x y ρ => ρ = [.sh (.int t), .sh (.int b), .sh (.int (x : Nat)), .sh (.int (y : Nat))]) ?_ ?_ n P.W t.natAbs b.natAbs _ h (by have := BW.w (P := P); omega) rfl) ?_
  · rintro a ρ rfl
    simp_arith [show ((0 : Int) < ((0 : Nat) : Int)) = False from by simp]
  · rintro x y ρ hy rfl
    refine ⟨[.sh (.int t), .sh (.int b), .sh (.int (y : Nat)), .sh (.int ((x % y : Nat) : Int))], ?_, rfl⟩
    simp_arith [show ((0 : Int) < (y : Int)) = True from by simp; omega, bop_mod (show (y : Int) ≠ 0 by omega), fmod_nat x y hy]
  · rintro ρ rfl
    generalize hg : t.natAbs.gcd b.natAbs = g at *
    have gz : (g : Int) ≠ 0 := by omega
    have e2 : ((b.natAbs / g : Nat) : Int) = (b.natAbs : Int) / (g : Int) := Int.natCast_ediv ..
    have e1 : b.sign * t / (g : Int) = k := by
      rw [Int.sign_eq_one_of_pos hb, Int.one_mul, hk]
      exact Int.mul_ediv_cancel_left _ gz
    have e3 : (b.natAbs : Int) / (g : Int) = l := by
      rw [show (b.natAbs : Int) = (g : Int) * l by rw [← hl]; omega]
      exact Int.mul_ediv_cancel_left _ gz
    have e4 : t.fdiv (g : Int) = k := by
      rw [hk]
      exact Int.mul_fdiv_cancel_left _ (by omega)
    have e5 : b.fdiv (g : Int) = l := by
      conv => lhs; rw [hl]
      exact Int.mul_fdiv_cancel_left _ (by omega)
    rw [e2]
    simp_arith [bop_fdiv gz, e1, e3, e4, e5]
theorem den_mul_pos (p q : Rat) : (0 : Int) < (p.den : Int) * (q.den : Int) := Int.mul_pos (by have := p.den_nz; omega) (by have := q.den_nz; omega)
theorem sm1 : sm 1 := by decide
theorem lw_sum {d : Nat} (hd : 2 ≤ d) {p q : Rat} {n m : Nat} (h : Bd n p) (h' : Bd m q) (hn : n ≤ 60000000) (hm : m ≤ 60000000) : callD P d 37 [fr p, fr q, .int 1] = ret (fr (p + q)) := by
  have s1 := h.smn (by omega); have s2 := h.smd (by omega); have s3 := h'.smn (by omega); have s4 := h'.smd (by omega)
  rw [callF fn37 (by omega) rfl]
  unfold fr
  simp_arith [F37, ir37, bop_mul s1 s4, bop_mul s3 s2, bop_mul s2 s4, bop_mul sm1 s3, Int.one_mul]
  rw [ev_lowest (by omega) _ _ (den_mul_pos p q) (den_mul_lt h h') (by omega), rat_add]
  simp_arith [fr]
theorem lw_prod {d : Nat} (hd : 2 ≤ d) {p q : Rat} {n m : Nat} (h : Bd n p) (h' : Bd m q) (hn : n ≤ 60000000) (hm : m ≤ 60000000) : callD P d 38 [fr p, fr q] = ret (fr (p * q)) := by
  have s1 := h.smn (by omega); have s2 := h.smd (by omega); have s3 := h'.smn (by omega); have s4 := h'.smd (by omega)
  rw [callF fn38 (by omega) rfl]
  unfold fr
  simp_arith [F38, ir38, bop_mul s1 s3, bop_mul s2 s4]
  rw [ev_lowest (by omega) _ _ (den_mul_pos p q) (den_mul_lt h h') (by omega), rat_mul]
  simp_arith [fr]
theorem lw_less {d : Nat} (hd : 1 ≤ d) {p q : Rat} {n m : Nat} (h : Bd n p) (h' : Bd m q) (hn : n ≤ 60000000) (hm : m ≤ 60000000) : callD P d 39 [fr p, fr q] = ret (.bl (decide (p < q))) := by
  have s1 := h.smn (by omega); have s2 := h.smd (by omega); have s3 := h'.smn (by omega); have s4 := h'.smd (by omega)
  rw [callF fn39 (by omega) rfl]
  unfold fr
  simp_arith [F39, ir39, bop_mul s1 s4, bop_mul s3 s2, ← Rat.lt_iff]
theorem evI_own {T : Tab} {C C1 : Nat → List EV → M EV} {ρ : Env} {k : Nat} : evI T C C1 ρ (.own k) = bnd (ofO (getB ρ k)) fun v => ofO (seqOf v) := by rw [evI]
theorem lw_sorted {d : Nat} (hd : 2 ≤ d) {l : List Rat} {n : Nat} (h : BdL n l) (hn : n ≤ 60000000) (hl : l.length < 10000) : callD P d 40 [.lst (l.map fr)] = ret (.lst ((srt l).map fr)) := by
  rw [callF fn40 (by omega) rfl]
  simp_arith [F40, ir40]
  refine bnd_ex (forL_idx fr (fun i ρ => ∃ t u v, ρ = [.sh (.lst (l.map fr)), .ow (.lst ((srt (l.take i)).map fr)), t, u, v]) l (fun i hi ρ hI => ?_) ⟨_, _, _, rfl⟩) ?_
  · obtain ⟨t, u, v, rfl⟩ := hI
    have hs := srt_srt (l.take i)
    have hlen := srt_len (l.take i)
    rw [List.length_take, Nat.min_eq_left (by omega)] at hlen
    have hnext : srt (l.take (i + 1)) = ins l[i] (srt (l.take i)) := by
      unfold srt
      rw [List.take_succ_eq_append_getElem hi, List.foldl_append]
      rfl
    have hb : BdL n (srt (l.take i)) := fun q hq => h q (List.mem_of_mem_take (mem_srt.mp hq))
    obtain ⟨p1, p2⟩ := hs.pos (x := l[i])
    have pl := posQ_le (x := l[i]) (l := srt (l.take i))
    rw [hnext, p2]
    have hx := h _ (List.getElem_mem hi)
    generalize srt (l.take i) = a at *
    generalize l[i] = x at *
    refine ⟨[.sh (.lst (l.map fr)), .ow (.lst ((a.take (posQ x a) ++ [x] ++ a.drop (posQ x a)).map fr)), .sh (fr x), .sh (.int (posQ x a : Nat)), v], ?_, _, _, _, rfl⟩
    simp_arith [tgb_eq, evI_own]
    refine bnd_eq (compL_filter fr (fun y => !decide (x < y)) fr a fun y hy => ?_) ?_
    · simp_arith [cmp1e_eq, lw_less (show 1 ≤ d - 1 by omega) hx (hb y hy) hn hn]
      by_cases q : x < y <;> simp_arith [q]
    · simp_arith [List.length_map, show (a.filter fun y => !decide (x < y)).length < szl by have : (a.filter fun y => !decide (x < y)).length ≤ a.length := posQ_le; show _ < 16777216; omega]
      rw [show ((a.filter fun y => !decide (x < y)).length : Int) = (posQ x a : Nat) from rfl]
      simp_arith [mu_ins (show (a.map fr).length < szl by rw [List.length_map]; show _ < 16777216; omega) (show posQ x a ≤ (a.map fr).length by rw [List.length_map]; omega), List.map_append, List.map_take, List.map_drop]
  · rintro ρ ⟨t, u, v, rfl⟩
    simp_arith [List.take_length, List.modify_succ_cons, List.modify_zero_cons]
theorem srt_get {l : List Rat} (h : l ≠ []) : atI ((srt l).map fr) 0 = some (fr (lstQ l)) ∧ ((srt l).map fr).getLast? = some (fr (grtQ l)) := by
  cases l with
  | nil => exact absurd rfl h
  | cons a r =>
    have h1 := srt_head (a := a) (l := r)
    have h2 := srt_last (a := a) (l := r)
    constructor
    · have := atI_nat (l := (srt (a :: r)).map fr) (n := 0)
      rw [show ((0 : Nat) : Int) = 0 from rfl] at this
      rw [this, List.getElem?_map, ← List.head?_eq_getElem?, h1]
      rfl
    · rw [List.getLast?_map, h2]
      rfl
theorem fr_inv {S : Int} (h : 1 ≤ S) : EV.tup [.int 1, .int S] = fr (Rat.divInt 1 S) := by
  rw [fr_divInt (by omega)]
  have e : (1 : Int).natAbs = 1 := rfl
  rw [e, Nat.gcd_one_left, Int.sign_eq_one_of_pos (by omega)]
  simp
  omega
theorem lw_value {n φ β c : Nat} {b : List Rat} (hb : BdL β b) (hn : b.length = n) (c1 : φ + 8 ≤ c) (c2 : β + 8 ≤ c) (c3 : 19 ≤ c) : ∀ (t : Tm), WT n φ t → c * szT t ≤ 40000000 → ∀ d, dpT t + 5 ≤ d → callD P d 45 [encT t, .tup (b.map fr)] = ret (fr (val b t))
  | .bid i, h, hs, d, hd => by
    unfold WT at h
    rw [callF fn45 (by omega) rfl]
    unfold encT
    simp_arith [F45, ir45, pe_bb, atI_nat, List.getElem?_map, List.getElem?_eq_getElem (show i < b.length by omega), val, List.getD_eq_getElem?_getD, Option.getD_some]
  | .fix q, h, hs, d, hd => by
    rw [callF fn45 (by omega) rfl]
    unfold encT
    simp_arith [F45, ir45, pe_fb, pe_ff, val]
  | .mean ws ts, h, hs, d, hd => by
    unfold WT at h
    obtain ⟨h1, h2, h3, h4, h5⟩ := h
    unfold dpT at hd
    unfold szT at hs
    rw [Nat.mul_add] at hs
    have ih : ∀ t ∈ ts, callD P (d - 1) 45 [encT t, .tup (b.map fr)] = ret (fr (val b t)) := fun t ht => lw_value hb hn c1 c2 c3 t (h5.mem t ht) (by have := Nat.mul_le_mul_left c (szTs_mem ht); omega) _ (by have := dpTs_mem ht; omega)
    have bv := vals_bd hb hn c1 c2 c3 ts h5
    have sz := sum_sz (c := c) (by omega) ts
    have kl := bv.len
    have lv : (vals b ts).length = ts.length := by rw [vals_map, List.length_map]
    obtain ⟨s1, s2⟩ := sum_ws h4
    rw [callF fn45 (by omega) rfl]
    unfold encT
    have ez : List.zipWith wpair ws (encTs ts) = (ws.zip ts).map fun p => wpair p.1 (encT p.2) := by
      rw [encTs_map, List.zip, List.map_zipWith, List.zipWith_map_right]
    have lz : (ws.zip ts).length = ts.length := by rw [List.length_zip]; omega
    rw [ez]
    simp_arith [F45, ir45, pe_mb, pe_mf, pe_mm]
    generalize hks : ts.map (fun t => c * szT t - 8) = ks at *
    refine bnd_ex (forL_idx (fun (p : Nat × Tm) => wpair p.1 (encT p.2)) (fun i ρ => ∃ t n u v, Bd n t ∧ n + ((ks.drop i).map (· + 8)).sum ≤ 1 + c * szTs ts ∧ t = ((ws.zip (vals b ts)).take i).foldl (fun t p => t + (p.1 : Rat) * p.2) 0 ∧ ρ = [.sh (.tup [.str "mean", .tup ((ws.zip ts).map fun p => wpair p.1 (encT p.2))]), .sh (.tup (b.map fr)), .sh (.str "mean"), .un, .sh (fr t), u, v]) (ws.zip ts) (fun i hi ρ hI => ?_) ⟨0, 1, _, _, Bd.zero (by omega), by rw [List.drop_zero, sz]; omega, rfl, rfl⟩) ?_
    · obtain ⟨t, n, u, v, ht, hn, te, rfl⟩ := hI
      have hi1 : i < ws.length := by omega
      have hi2 : i < (vals b ts).length := by omega
      have hi3 : i < ks.length := by omega
      have hi4 : i < ts.length := by omega
      have hb := bv.get i hi3 hi2
      have ev : (vals b ts)[i] = val b ts[i] := by simp only [vals_map, List.getElem_map]
      rw [ev] at hb
      rw [List.drop_eq_getElem_cons hi3, List.map_cons, List.sum_cons] at hn
      have b1 : Bd 7 ((ws[i] : Nat) : Rat) := Bd.nat (by have := (h4 _ (List.getElem_mem hi1)).2; omega) (by omega)
      have b2 := b1.mul hb
      have e0 := ih ts[i] (List.getElem_mem hi4)
      have e1 : callD P (d - 1) 38 [fr ((ws[i] : Nat) : Rat), fr (val b ts[i])] = _ := lw_prod (by omega) b1 hb (by omega) (by omega)
      have e2 : callD P (d - 1) 37 [fr t, fr ((ws[i] : Nat) * val b ts[i]), .int 1] = _ := lw_sum (by omega) ht b2 (by omega) (by omega)
      refine ⟨[.sh (.tup [.str "mean", .tup ((ws.zip ts).map fun p => wpair p.1 (encT p.2))]), .sh (.tup (b.map fr)), .sh (.str "mean"), .un, .sh (fr (t + (ws[i] : Nat) * val b ts[i])), .sh (.int (ws[i] : Nat)), .sh (encT ts[i])], ?_, t + (ws[i] : Nat) * val b ts[i], n + (7 + ks[i]) + 1, _, _, ht.add b2, by omega, ?_, rfl⟩
      · simp_arith [tgb_eq, List.getElem_zip, wpair, fr_nat, e0, e1, e2]
      · rw [List.take_succ_eq_append_getElem (by rw [List.length_zip]; omega), List.foldl_append, ← te, List.getElem_zip, ev]
        rfl
    · rintro ρ ⟨t, n, u, v, ht, hn, te, rfl⟩
      rw [show (ws.zip ts).length = (ws.zip (vals b ts)).length by rw [List.length_zip, List.length_zip, lv], List.take_length] at te
      simp_arith []
      refine bnd_eq (compL_map (fun (p : Nat × Tm) => wpair p.1 (encT p.2)) (fun p => .int (p.1 : Int)) (ws.zip ts) fun p hp => ?_) ?_
      · simp_arith [cmp1e_eq, wpair]
      · have e1 : ((ws.zip ts).map fun p => EV.int (p.1 : Int)) = ws.map fun (w : Nat) => EV.int (w : Int) := by
          rw [show (fun (p : Nat × Tm) => EV.int (p.1 : Int)) = (fun (w : Nat) => EV.int (w : Int)) ∘ Prod.fst from rfl, ← List.map_map, List.map_fst_zip (by omega)]
        have se : bi .sum [.lst (ws.map fun (w : Nat) => .int (w : Int))] = some (.int (ws.map Int.ofNat).sum) := bi_sum (f := fun (w : Nat) => (w : Int))
        have sb : (ws.map Int.ofNat).sum.natAbs < 2 ^ 10 := by
          have : (ws.map Int.ofNat).sum.natAbs ≤ 792 := by omega
          omega
        have b : Bd 10 (Rat.divInt 1 (ws.map Int.ofNat).sum) := divInt_bd (by omega) (by decide) sb
        simp_arith [List.length_map, show (ws.zip ts).length < szl by show _ < 16777216; omega, e1, se, fr_inv (show 1 ≤ (ws.map Int.ofNat).sum by omega)]
        rw [lw_prod (by omega) ht b (by omega) (by omega)]
        simp_arith [val, meanQ, te, show ws.length < szl by show _ < 16777216; omega]
  | .least ts, h, hs, d, hd => by
    unfold WT at h
    obtain ⟨h2, h3, h5⟩ := h
    unfold dpT at hd
    have bv := valsB (vals_bd hb hn c1 c2 c3 ts h5)
    have hs' : c * (1 + szTs ts) ≤ 40000000 := by unfold szT at hs; exact hs
    have ih : ∀ t ∈ ts, callD P (d - 1) 45 [encT t, .tup (b.map fr)] = ret (fr (val b t)) := fun t ht => lw_value hb hn c1 c2 c3 t (h5.mem t ht) (by have := Nat.mul_le_mul_left c (show szT t ≤ 1 + szTs ts by have := szTs_mem ht; omega); omega) _ (by have := dpTs_mem ht; omega)
    rw [callF fn45 (by omega) rfl]
    unfold encT
    rw [encTs_map]
    simp_arith [F45, ir45, pe_lb, pe_lf, pe_lm, pe_lw, pe_lr, pe_ll, List.getLast?_cons_cons, List.getLast?_singleton]
    refine bnd_eq (compL_map encT (fun t => fr (val b t)) ts fun t ht => ?_) ?_
    · simp_arith [cmp1e_eq, ih t ht]
    · simp_arith [List.length_map, show ts.length < szl by show _ < 16777216; omega]
      rw [show ts.map (fun t => fr (val b t)) = (vals b ts).map fr by rw [vals_map, List.map_map]; rfl, lw_sorted (by omega) bv (by omega) (by rw [vals_map, List.length_map]; omega)]
      simp_arith [val, (srt_get (vals_ne h2 (b := b))).1]
  | .great ts, h, hs, d, hd => by
    unfold WT at h
    obtain ⟨h2, h3, h5⟩ := h
    unfold dpT at hd
    have bv := valsB (vals_bd hb hn c1 c2 c3 ts h5)
    have hs' : c * (1 + szTs ts) ≤ 40000000 := by unfold szT at hs; exact hs
    have ih : ∀ t ∈ ts, callD P (d - 1) 45 [encT t, .tup (b.map fr)] = ret (fr (val b t)) := fun t ht => lw_value hb hn c1 c2 c3 t (h5.mem t ht) (by have := Nat.mul_le_mul_left c (show szT t ≤ 1 + szTs ts by have := szTs_mem ht; omega); omega) _ (by have := dpTs_mem ht; omega)
    rw [callF fn45 (by omega) rfl]
    unfold encT
    rw [encTs_map]
    simp_arith [F45, ir45, pe_gb, pe_gf, pe_gm, pe_gw, pe_gr, pe_gl, pe_gg, List.getLast?_cons_cons, List.getLast?_singleton]
    refine bnd_eq (compL_map encT (fun t => fr (val b t)) ts fun t ht => ?_) ?_
    · simp_arith [cmp1e_eq, ih t ht]
    · simp_arith [List.length_map, show ts.length < szl by show _ < 16777216; omega]
      rw [show ts.map (fun t => fr (val b t)) = (vals b ts).map fr by rw [vals_map, List.map_map]; rfl, lw_sorted (by omega) bv (by omega) (by rw [vals_map, List.length_map]; omega)]
      simp_arith [val, (srt_get (vals_ne h2 (b := b))).2]
  | .rank k ts, h, hs, d, hd => by
    unfold WT at h
    obtain ⟨h1, h2, h3, h5⟩ := h
    unfold dpT at hd
    have bv := valsB (vals_bd hb hn c1 c2 c3 ts h5)
    have lv : (vals b ts).length = ts.length := by rw [vals_map, List.length_map]
    have hs' : c * (1 + szTs ts) ≤ 40000000 := by unfold szT at hs; exact hs
    have ih : ∀ t ∈ ts, callD P (d - 1) 45 [encT t, .tup (b.map fr)] = ret (fr (val b t)) := fun t ht => lw_value hb hn c1 c2 c3 t (h5.mem t ht) (by have := Nat.mul_le_mul_left c (show szT t ≤ 1 + szTs ts by have := szTs_mem ht; omega); omega) _ (by have := dpTs_mem ht; omega)
    rw [callF fn45 (by omega) rfl]
    unfold encT
    rw [encTs_map]
    simp_arith [F45, ir45, pe_rb, pe_rf, pe_rm, pe_rw, pe_rr, pe_rl, pe_rg, List.getLast?_cons_cons, List.getLast?_singleton]
    refine bnd_eq (compL_map encT (fun t => fr (val b t)) ts fun t ht => ?_) ?_
    · simp_arith [cmp1e_eq, ih t ht]
    · simp_arith [List.length_map, show ts.length < szl by show _ < 16777216; omega]
      have e : (ts.length : Int) - (k : Int) = ((ts.length - k : Nat) : Int) := by omega
      rw [show ts.map (fun t => fr (val b t)) = (vals b ts).map fr by rw [vals_map, List.map_map]; rfl, lw_sorted (by omega) bv (by omega) (by omega)]
      simp_arith [val, List.length_map, srt_len, lv, e, atI_srt (show ts.length - k < (vals b ts).length by omega)]
  | .betw lo hi t, h, hs, d, hd => by
    unfold WT at h
    obtain ⟨h1, h2, h3, h5⟩ := h
    unfold dpT at hd
    unfold szT at hs
    rw [Nat.mul_add] at hs
    have ih := lw_value hb hn c1 c2 c3 t h5 (by omega) (d - 1) (by omega)
    have bv := val_bd hb hn c1 c2 c3 t h5
    have p : c * 1 ≤ c * szT t := Nat.mul_le_mul_left _ (szT_pos t)
    have em : callD P (d - 1) 40 [.lst [fr lo, fr hi, fr (val b t)]] = _ := lw_sorted (n := c * szT t) (l := [lo, hi, val b t]) (by omega) (fun q hq => by
      simp only [List.mem_cons, List.not_mem_nil, or_false] at hq
      rcases hq with rfl | rfl | rfl
      · exact h1.1.mono (by omega)
      · exact h2.1.mono (by omega)
      · exact bv.mono (by omega)) (by omega) (by simp)
    rw [callF fn45 (by omega) rfl]
    unfold encT
    simp_arith [F45, ir45, pe_wb, pe_wf, pe_wm, pe_ww, ih, em, val]
    rw [show (1 : Int) = ((1 : Nat) : Int) from rfl, atI_srt (by simp)]
    simp_arith []
end
end Py
end
section
/-! PyMon: numbers of terms grow with the bids, and are numbers. -/
namespace Py
/-- elementwise -/
inductive Le : List Rat → List Rat → Prop
  | nil : Le [] []
  | cons {a b : Rat} {l r : List Rat} : a ≤ b → Le l r → Le (a :: l) (b :: r)
theorem Le.len {l r : List Rat} (h : Le l r) : l.length = r.length := by
  induction h with
  | nil => rfl
  | cons _ _ ih => simp [ih]
theorem Le.refl : ∀ l : List Rat, Le l l
  | [] => .nil
  | a :: l => .cons Rat.le_refl (Le.refl l)
theorem Le.get {l r : List Rat} (h : Le l r) : ∀ i, l.getD i 0 ≤ r.getD i 0 := by
  induction h with
  | nil => intro i; exact Rat.le_refl
  | cons h _ ih =>
    intro i
    cases i with
    | zero => exact h
    | succ i => exact ih i
theorem Le.of {l r : List Rat} (hl : l.length = r.length) (h : ∀ i, i < l.length → l.getD i 0 ≤ r.getD i 0) : Le l r := by
  induction l generalizing r with
  | nil => cases r with
    | nil => exact .nil
    | cons _ _ => simp at hl
  | cons a l ih => cases r with
    | nil => simp at hl
    | cons b r =>
      exact .cons (h 0 (by simp)) (ih (by simpa using hl) fun i hi => h (i + 1) (by simpa using hi))
theorem min_mono {a b x y : Rat} (h : a ≤ b) (h' : x ≤ y) : minF a x ≤ minF b y := by
  unfold minF
  split <;> split <;> grind
theorem max_mono {a b x y : Rat} (h : a ≤ b) (h' : x ≤ y) : maxF a x ≤ maxF b y := by
  unfold maxF
  split <;> split <;> grind
theorem foldl_mono {g : Rat → Rat → Rat} (hg : ∀ {a b x y : Rat}, a ≤ b → x ≤ y → g a x ≤ g b y) {l r : List Rat} (h : Le l r) : ∀ a b, a ≤ b → l.foldl g a ≤ r.foldl g b := by
  induction h with
  | nil => intro a b h; exact h
  | cons h _ ih => intro a b hab; exact ih _ _ (hg hab h)
theorem lstQ_mono {l r : List Rat} (h : Le l r) : lstQ l ≤ lstQ r := by
  cases h with
  | nil => exact Rat.le_refl
  | cons h h' => exact foldl_mono min_mono h' _ _ h
theorem grtQ_mono {l r : List Rat} (h : Le l r) : grtQ l ≤ grtQ r := by
  cases h with
  | nil => exact Rat.le_refl
  | cons h h' => exact foldl_mono max_mono h' _ _ h
theorem insB {y : Rat} {l r : List Rat} (h : Le l r) : ∀ {z : Rat}, z ≤ y → (∀ e ∈ r, z ≤ e) → Srt r → Le (z :: l) (ins y r) := by
  induction h with
  | nil => intro z h1 _ _; exact .cons h1 .nil
  | cons h h' ih =>
    rename_i c e l r
    intro z h1 h2 s
    unfold ins
    by_cases q : y < e
    · rw [if_pos q]; exact .cons h1 (.cons h h')
    · rw [if_neg q]
      exact .cons (h2 e List.mem_cons_self) (ih (by grind) (fun f hf => by have := s.1 f hf; grind) s.2)
theorem insC {x : Rat} {l r : List Rat} (h : Le l r) : ∀ {z : Rat}, x ≤ z → (∀ e ∈ r, z ≤ e) → Srt r → Le (ins x l) (z :: r) := by
  induction h with
  | nil => intro z h1 _ _; exact .cons h1 .nil
  | cons h h' ih =>
    rename_i c e l r
    intro z h1 h2 s
    unfold ins
    by_cases q : x < c
    · rw [if_pos q]; exact .cons h1 (.cons h h')
    · rw [if_neg q]
      exact .cons (by grind) (ih (by have := h2 e List.mem_cons_self; grind) s.1 s.2)
theorem ins_mono {x y : Rat} (hxy : x ≤ y) {l r : List Rat} (h : Le l r) : Srt l → Srt r → Le (ins x l) (ins y r) := by
  induction h generalizing x y with
  | nil => intro _ _; exact .cons hxy .nil
  | cons h h' ih =>
    rename_i a b l r
    intro s1 s2
    unfold ins
    by_cases p : x < a
    · rw [if_pos p]
      by_cases q : y < b
      · rw [if_pos q]; exact .cons hxy (.cons h h')
      · rw [if_neg q]
        exact .cons (by grind) (insB h' (by grind) (fun e he => by have := s2.1 e he; grind) s2.2)
    · rw [if_neg p]
      by_cases q : y < b
      · rw [if_pos q]
        exact .cons (by grind) (insC h' (by grind) s2.1 s2.2)
      · rw [if_neg q]; exact .cons h (ih hxy s1.2 s2.2)
theorem srt_maux2 {l r : List Rat} (h : Le l r) : ∀ {a b : List Rat}, Le a b → Srt a → Srt b → Le (l.foldl (fun acc x => ins x acc) a) (r.foldl (fun acc x => ins x acc) b) := by
  induction h with
  | nil => intro a b h _ _; exact h
  | cons h _ ih => intro a b hab s1 s2; exact ih (ins_mono h hab s1 s2) s1.ins s2.ins
theorem srt_mono {l r : List Rat} (h : Le l r) : Le (srt l) (srt r) := srt_maux2 h .nil trivial trivial
theorem nthQ_mono {l r : List Rat} (h : Le l r) (i : Nat) : nthQ l i ≤ nthQ r i := (srt_mono h).get i
theorem inv_pos {ws : List Nat} (hw : ∀ w ∈ ws, 1 ≤ w ∧ w ≤ 99) (h1 : 1 ≤ ws.length) : (0 : Rat) ≤ Rat.divInt 1 (ws.map Int.ofNat).sum := by
  obtain ⟨s1, s2⟩ := sum_ws hw
  rw [← Rat.num_nonneg, Rat.num_divInt, Int.sign_eq_one_of_pos (by omega)]
  exact Int.ediv_nonneg (by omega) (Int.natCast_nonneg _)
theorem mean_mono_aux {l r : List Rat} (h : Le l r) : ∀ (ws : List Nat) (a b : Rat), a ≤ b → (ws.zip l).foldl (fun t p => t + (p.1 : Rat) * p.2) a ≤ (ws.zip r).foldl (fun t p => t + (p.1 : Rat) * p.2) b := by
  induction h with
  | nil => intro ws a b h; cases ws <;> exact h
  | cons h h2 ih =>
    rename_i c e l r
    intro ws a b hab
    cases ws with
    | nil => exact hab
    | cons w ws =>
      rw [List.zip_cons_cons, List.zip_cons_cons, List.foldl_cons, List.foldl_cons]
      refine ih ws _ _ ?_
      have : (w : Rat) * c ≤ (w : Rat) * e := Rat.mul_le_mul_of_nonneg_left h (by exact_mod_cast Nat.zero_le w)
      grind
theorem meanQ_mono {ws : List Nat} (hw : ∀ w ∈ ws, 1 ≤ w ∧ w ≤ 99) (h1 : 1 ≤ ws.length) {l r : List Rat} (h : Le l r) : meanQ ws l ≤ meanQ ws r := by
  unfold meanQ
  exact Rat.mul_le_mul_of_nonneg_right (mean_mono_aux h ws 0 0 Rat.le_refl) (inv_pos hw h1)
mutual
theorem val_mono {n φ : Nat} {b b' : List Rat} (h : Le b b') : ∀ t : Tm, WT n φ t → val b t ≤ val b' t
  | .bid i, _ => by unfold val; exact h.get i
  | .fix q, _ => by unfold val; exact Rat.le_refl
  | .mean ws ts, w => by
    unfold WT at w
    unfold val
    exact meanQ_mono w.2.2.2.1 (by omega) (vals_mono h ts w.2.2.2.2)
  | .least ts, w => by unfold WT at w; unfold val; exact lstQ_mono (vals_mono h ts w.2.2)
  | .great ts, w => by unfold WT at w; unfold val; exact grtQ_mono (vals_mono h ts w.2.2)
  | .rank k ts, w => by unfold WT at w; unfold val; exact nthQ_mono (vals_mono h ts w.2.2.2) _
  | .betw lo hi t, w => by
    unfold WT at w
    unfold val
    exact nthQ_mono (.cons Rat.le_refl (.cons Rat.le_refl (.cons (val_mono h t w.2.2.2) .nil))) 1
theorem vals_mono {n φ : Nat} {b b' : List Rat} (h : Le b b') : ∀ ts : List Tm, WTs n φ ts → Le (vals b ts) (vals b' ts)
  | [], _ => .nil
  | t :: r, w => by
    unfold WTs at w
    unfold vals
    exact .cons (val_mono h t w.1) (vals_mono h r w.2)
end
/-! ### numbers -/
theorem Nm.zero : Nm 0 := ⟨Rat.le_refl, by decide⟩
theorem Nm.one : Nm 1 := ⟨by decide, Rat.le_refl⟩
theorem mean_nm_aux : ∀ (ws : List Nat) (vs : List Rat), ws.length = vs.length → (∀ v ∈ vs, Nm v) → ∀ a : Rat, 0 ≤ a → a ≤ (ws.zip vs).foldl (fun t p => t + (p.1 : Rat) * p.2) a ∧ (ws.zip vs).foldl (fun t p => t + (p.1 : Rat) * p.2) a ≤ a + ((ws.map Int.ofNat).sum : Int)
  | [], [], _, _, a, h => by simp; grind
  | w :: ws, v :: vs, hl, hv, a, h => by
    rw [List.zip_cons_cons, List.foldl_cons, List.map_cons, List.sum_cons]
    have h0 := hv v List.mem_cons_self
    have w0 : (0 : Rat) ≤ (w : Rat) := by exact_mod_cast Nat.zero_le w
    have p1 : 0 ≤ (w : Rat) * v := Rat.mul_nonneg w0 h0.1
    have p2 : (w : Rat) * v ≤ (w : Rat) * 1 := Rat.mul_le_mul_of_nonneg_left h0.2 w0
    obtain ⟨i1, i2⟩ := mean_nm_aux ws vs (by simpa using hl) (fun x hx => hv x (List.mem_cons_of_mem _ hx)) (a + (w : Rat) * v) (by grind)
    have e : ((Int.ofNat w + (ws.map Int.ofNat).sum : Int) : Rat) = (w : Rat) + ((ws.map Int.ofNat).sum : Int) := by
      rw [Rat.intCast_add]
      rfl
    rw [e]
    constructor <;> grind
theorem meanQ_nm {ws : List Nat} {vs : List Rat} (hw : ∀ w ∈ ws, 1 ≤ w ∧ w ≤ 99) (h1 : 1 ≤ ws.length) (hl : ws.length = vs.length) (hv : ∀ v ∈ vs, Nm v) : Nm (meanQ ws vs) := by
  obtain ⟨a1, a2⟩ := mean_nm_aux ws vs hl hv 0 Rat.le_refl
  obtain ⟨s1, s2⟩ := sum_ws hw
  have ip := inv_pos hw h1
  unfold meanQ
  refine ⟨Rat.mul_nonneg a1 ip, ?_⟩
  generalize (ws.map Int.ofNat).sum = S at *
  have e : (S : Rat) * Rat.divInt 1 S = 1 := by
    have : (S : Rat) = Rat.divInt S 1 := by
      have q := Rat.num_divInt_den (S : Rat)
      rw [Rat.num_intCast, Rat.den_intCast] at q
      exact q.symm
    rw [this, Rat.divInt_mul_divInt, Int.mul_one, Int.one_mul]
    exact Rat.divInt_self' (by omega)
  have := Rat.mul_le_mul_of_nonneg_right a2 ip
  rw [Rat.zero_add, e] at this
  exact this
mutual
theorem val_nm {n φ : Nat} {b : List Rat} (hb : ∀ q ∈ b, Nm q) (hn : b.length = n) : ∀ t : Tm, WT n φ t → Nm (val b t)
  | .bid i, w => by
    unfold WT at w
    unfold val
    rw [List.getD_eq_getElem?_getD, List.getElem?_eq_getElem (by omega)]
    exact hb _ (List.getElem_mem _)
  | .fix q, w => by unfold WT at w; unfold val; exact w.2
  | .mean ws ts, w => by
    unfold WT at w
    unfold val
    exact meanQ_nm w.2.2.2.1 (by omega) (by rw [vals_map, List.length_map]; exact w.1) (vals_nm hb hn ts w.2.2.2.2)
  | .least ts, w => by unfold WT at w; unfold val; exact vals_nm hb hn ts w.2.2 _ (lstQ_mem (vals_ne w.1))
  | .great ts, w => by unfold WT at w; unfold val; exact vals_nm hb hn ts w.2.2 _ (grtQ_mem (vals_ne w.1))
  | .rank k ts, w => by
    unfold WT at w; unfold val
    exact vals_nm hb hn ts w.2.2.2 _ (nthQ_mem (by rw [vals_map, List.length_map]; omega))
  | .betw lo hi t, w => by
    unfold WT at w
    unfold val
    have m := nthQ_mem (l := [lo, hi, val b t]) (i := 1) (by simp)
    have ih := val_nm hb hn t w.2.2.2
    simp only [List.mem_cons, List.not_mem_nil, or_false] at m
    rcases m with m | m | m <;> rw [m]
    · exact w.1.2
    · exact w.2.1.2
    · exact ih
theorem vals_nm {n φ : Nat} {b : List Rat} (hb : ∀ q ∈ b, Nm q) (hn : b.length = n) : ∀ ts : List Tm, WTs n φ ts → ∀ v ∈ vals b ts, Nm v
  | [], _, v, hv => by unfold vals at hv; exact nomatch hv
  | t :: r, w, v, hv => by
    unfold WTs at w
    unfold vals at hv
    rcases List.mem_cons.mp hv with rfl | hv
    · exact val_nm hb hn t w.1
    · exact vals_nm hb hn r w.2 v hv
end
/-- a lot's bids are one number -/
def putL (b : List Rat) (lot : List Nat) (x : Rat) : List Rat := (List.range b.length).map fun i => if i ∈ lot then x else b.getD i 0
theorem putL_len {b : List Rat} {lot : List Nat} {x : Rat} : (putL b lot x).length = b.length := by unfold putL; simp
theorem putL_get {b : List Rat} {lot : List Nat} {x : Rat} {i : Nat} (h : i < b.length) : (putL b lot x).getD i 0 = if i ∈ lot then x else b.getD i 0 := by
  unfold putL
  rw [List.getD_eq_getElem?_getD, List.getElem?_map, List.getElem?_range h]
  rfl
theorem nm_getD {b : List Rat} (h : ∀ q ∈ b, Nm q) (i : Nat) : Nm (b.getD i 0) := by
  rw [List.getD_eq_getElem?_getD]
  by_cases hi : i < b.length
  · rw [List.getElem?_eq_getElem hi]; exact h _ (List.getElem_mem hi)
  · rw [List.getElem?_eq_none (by omega)]; exact Nm.zero
theorem putL_up {b : List Rat} {lot : List Nat} (h : ∀ q ∈ b, Nm q) : Le b (putL b lot 1) := by
  refine .of putL_len.symm fun i hi => ?_
  rw [putL_get hi]
  split
  · exact (nm_getD h i).2
  · exact Rat.le_refl
theorem putL_down {b : List Rat} {lot : List Nat} (h : ∀ q ∈ b, Nm q) : Le (putL b lot 0) b := by
  refine .of putL_len fun i hi => ?_
  rw [putL_len] at hi
  rw [putL_get hi]
  split
  · exact (nm_getD h i).1
  · exact Rat.le_refl
theorem putL_nm {b : List Rat} {lot : List Nat} {x : Rat} (h : ∀ q ∈ b, Nm q) (hx : Nm x) : ∀ q ∈ putL b lot x, Nm q := fun q hq => by
  unfold putL at hq
  obtain ⟨i, _, rfl⟩ := List.mem_map.mp hq
  split
  · exact hx
  · exact nm_getD h i
theorem bdL_getD {n : Nat} (hn : 0 < n) {b : List Rat} (h : BdL n b) (i : Nat) : Bd n (b.getD i 0) := by
  rw [List.getD_eq_getElem?_getD]
  by_cases hi : i < b.length
  · rw [List.getElem?_eq_getElem hi]; exact h _ (List.getElem_mem hi)
  · rw [List.getElem?_eq_none (by omega)]; exact Bd.zero hn
theorem putL_bd {n : Nat} (hn : 0 < n) {b : List Rat} {lot : List Nat} {x : Rat} (h : BdL n b) (hx : Bd n x) : BdL n (putL b lot x) := fun q hq => by
  unfold putL at hq
  obtain ⟨i, _, rfl⟩ := List.mem_map.mp hq
  split
  · exact hx
  · exact bdL_getD hn h i
/-- who wish more, less -/
def moreL (w : List Rat) (y : Rat) : List Nat := (List.range w.length).filter fun i => decide (y < w.getD i 0)
def lessL (w : List Rat) (y : Rat) : List Nat := (List.range w.length).filter fun i => decide (w.getD i 0 < y)
/-- the lots that can move -/
def movL (t : Tm) (w b : List Rat) : List Nat × List Nat :=
  (if val b t < val (putL b (moreL w (val b t)) 1) t then moreL w (val b t) else [], if val (putL b (lessL w (val b t)) 0) t < val b t then lessL w (val b t) else [])
/-- .., by the law's reading -/
theorem movL_eq {n φ : Nat} {t : Tm} (h : WT n φ t) {w b : List Rat} (hb : ∀ q ∈ b, Nm q) :
    movL t w b = (if val (putL b (moreL w (val b t)) 1) t = val b t then [] else moreL w (val b t), if val (putL b (lessL w (val b t)) 0) t = val b t then [] else lessL w (val b t)) := by
  have h1 := val_mono (putL_up (lot := moreL w (val b t)) hb) t h
  have h2 := val_mono (putL_down (lot := lessL w (val b t)) hb) t h
  unfold movL
  congr 1
  · split <;> split <;> first | rfl | (exfalso; grind)
  · split <;> split <;> first | rfl | (exfalso; grind)
end Py
end
section
/-! PyRest: the package's rests, the law's own reading of them. -/
namespace Py
open PySem (Str PyData)
open L2 (ixN atI)
/-- a class Rule -/
class BR (P : Prog) : Prop where
  c : P.tab.cls 3 = some (32, [1, 2], true)
def ruleV (n : Nat) (t : Tm) : EV := .ins 3 [.int (n : Int), encT t]
theorem att_people {P : Prog} [BR P] {n : Nat} {t : Tm} : attOf P.tab 1 (ruleV n t) = ret (.int (n : Int)) := by
  unfold ruleV attOf
  simp only [BR.c (P := P)]
  rfl
theorem att_term {P : Prog} [BR P] {n : Nat} {t : Tm} : attOf P.tab 2 (ruleV n t) = ret (encT t) := by
  unfold ruleV attOf
  simp only [BR.c (P := P)]
  rfl
def lotV (l : List Nat) : EV := .tup (l.map fun (i : Nat) => .int (i : Int))
/-- a term, its bits, how deep -/
structure TC (n φ c : Nat) (t : Tm) : Prop where
  wt : WT n φ t
  c1 : φ + 8 ≤ c
  c3 : 19 ≤ c
  sz : c * szT t ≤ 40000000
  dp : dpT t ≤ 20
/-- numbers of so many people -/
structure NB (n β : Nat) (b : List Rat) : Prop where
  len : b.length = n
  nm : ∀ q ∈ b, Nm q
  bd : BdL β b
theorem enum_map : ∀ (l : List Rat) (k : Nat), enumFrom k (l.map fr) = (List.range l.length).map fun (i : Nat) => EV.tup [.int ((k + i : Nat) : Int), fr (l.getD i 0)]
  | [], k => rfl
  | a :: r, k => by
    rw [List.map_cons]
    unfold enumFrom
    rw [enum_map r (k + 1), List.length_cons, List.range_succ_eq_map, List.map_cons, List.map_map]
    congr 1
    apply List.map_congr_left
    intro i _
    show EV.tup [.int ((k + 1 + i : Nat) : Int), fr (r.getD i 0)] = EV.tup [.int ((k + (i + 1) : Nat) : Int), fr ((a :: r).getD (i + 1) 0)]
    rw [show k + 1 + i = k + (i + 1) by omega]
    rfl
theorem enum_map0 (l : List Rat) : enumFrom 0 (l.map fr) = (List.range l.length).map fun (i : Nat) => EV.tup [.int (i : Int), fr (l.getD i 0)] := by
  rw [enum_map l 0]
  apply List.map_congr_left
  intro i _
  rw [Nat.zero_add]
theorem in_lot {i : Nat} {l : List Nat} : cmpop .inn (.int (i : Int)) (lotV l) = some (decide (i ∈ l)) := by
  show cmpop.pyIn (.int (i : Int)) (l.map fun (i : Nat) => .int (i : Int)) = _
  induction l with
  | nil => rfl
  | cons j r ih =>
    rw [List.map_cons]
    unfold cmpop.pyIn
    rw [ih]
    show (some _) = _
    congr 1
    rw [Bool.eq_iff_iff]
    simp
    constructor
    · rintro (h | h)
      · left; omega
      · right; exact h
    · rintro (h | h)
      · left; omega
      · right; exact h
/-! ### equal data -/
theorem toDs_nats {l : List Nat} : toDs (l.map fun (i : Nat) => EV.int (i : Int)) = some (l.map fun (i : Nat) => PyData.int (i : Int)) := by
  induction l with
  | nil => rfl
  | cons a r ih =>
    rw [List.map_cons]
    unfold toDs toD
    rw [ih]
    rfl
theorem toD_lot {l : List Nat} : toD (lotV l) = some (.tuple (l.map fun (i : Nat) => PyData.int (i : Int))) := by
  unfold lotV toD
  rw [toDs_nats]
theorem canLay_ints : ∀ {l : List Nat}, PyData.canLayAll0 (l.map fun (i : Nat) => PyData.int (i : Int)) = true
  | [] => by rw [List.map_nil, PyData.canLayAll0]
  | a :: r => by rw [List.map_cons, PyData.canLayAll0, PyData.canLay0, canLay_ints]; rfl
theorem depth_ints : ∀ {l : List Nat}, PyData.depthAll (l.map fun (i : Nat) => PyData.int (i : Int)) = 0
  | [] => by rw [List.map_nil, PyData.depthAll]
  | a :: r => by rw [List.map_cons, PyData.depthAll, PyData.depth, depth_ints]; rfl
theorem eqv_nil {l : List Nat} : PyData.eqvAll (l.map fun (i : Nat) => PyData.int (i : Int)) [] = decide (l = []) := by
  cases l with
  | nil => rfl
  | cons a r => rfl
theorem pyEq_tup {a : List EV} {y : EV} : pyEq (.tup a) y = pyEqD (.tup a) y := by
  unfold pyEq
  rfl
theorem pyEq_lots {a b : List Nat} : pyEq (.tup [lotV a, lotV b]) (.tup [.tup [], .tup []]) = some (decide ((a, b) = ([], []))) := by
  have e1 : toD (.tup [lotV a, lotV b]) = some (.tuple [.tuple (a.map fun (i : Nat) => PyData.int (i : Int)), .tuple (b.map fun (i : Nat) => PyData.int (i : Int))]) := by
    unfold toD toDs
    rw [toD_lot]
    simp only []
    unfold toDs
    rw [toD_lot]
    rfl
  have e2 : toD (.tup [.tup [], .tup []]) = some (.tuple [.tuple [], .tuple []]) := rfl
  rw [pyEq_tup]
  unfold pyEqD
  rw [e1, e2]
  simp only []
  have s1 : PySem.SeqAt.shaped (.tuple [.tuple (a.map fun (i : Nat) => PyData.int (i : Int)), .tuple (b.map fun (i : Nat) => PyData.int (i : Int))]) = true := by
    unfold PySem.SeqAt.shaped
    simp only [PyData.canLay0, PyData.canLayAll0, canLay_ints, PyData.depth, PyData.depthAll, depth_ints]
    rfl
  rw [s1, if_pos (by rfl)]
  simp only [PyData.eqv, PyData.eqvAll, eqv_nil, Bool.and_true]
  congr 1
  rw [Bool.eq_iff_iff]
  simp
theorem toD_fr {q : Rat} : toD (fr q) = some (.tuple [.int q.num, .int q.den]) := rfl
theorem pyEq_fr {p q : Rat} : pyEq (fr p) (fr q) = some (decide (p = q)) := by
  have e0 : pyEq (fr p) (fr q) = pyEqD (fr p) (fr q) := pyEq_tup
  rw [e0]
  unfold pyEqD
  rw [toD_fr, toD_fr]
  simp only []
  rw [if_pos (by rfl)]
  simp only [PyData.eqv, PyData.eqvAll, Bool.and_true]
  congr 1
  rw [Bool.eq_iff_iff]
  simp
  constructor
  · rintro ⟨h1, h2⟩
    exact Rat.ext h1 (by omega)
  · rintro rfl
    exact ⟨rfl, rfl⟩
local macro_rules | `(tactic| simp_arith [$ts,*]) => `(tactic| simp only [evSs_nil, evSs_cons, nxt_nx, nxt_rt, nxt_bk, nxt_ct, fin_nx, fin_rt, evS_whl, evS_fr (itOwn_seq _), evS_fr (itOwn_rng1 _), evS_fr (itOwn_rng2 _ _), evS_fr (itOwn_enum _), evS_fr (itOwn_zip _ _), evE_comp, evS_mut, evS_own, ownV_lst, mutV_ow, mutV_ref, evS_aug, augV_sub, augV_add, evS_ifs, evS.eq_1, evS.eq_2, evS.eq_4, evS.eq_6, evS.eq_8, evS.eq_9, evS.eq_13, evS.eq_14, evS.eq_15, evS.eq_16, evS.eq_17, evE_neg, negV_int, evO_no, evO_so, intO_int, evAnd_one, evAnd_cons, andK_bl, evOr_one, evOr_cons, orK_bl, evI_rng1, evI_rng2, evE.eq_1, evE.eq_2, evE.eq_3, evE.eq_4, evE.eq_5, evE.eq_6, evE.eq_7, evE.eq_9, evE.eq_10, evE.eq_11, evE.eq_12, evE.eq_13, evE.eq_14, evE.eq_15, evE.eq_16, evE.eq_17, evE.eq_18, evE.eq_19, evE.eq_20, evE.eq_21, evE.eq_22, evE.eq_23, evE.eq_24, evE.eq_26, evEs, evT, evAll, evAny, evI.eq_1, evI.eq_4, evI.eq_5, evI.eq_6, ret_bnd', bad_bnd, bnd_bnd, ite_ret, ofO_some, ofO_none, getE0, getE1, getE2, getE3, getE4, getE5, getE6, getE7, getE8, getE9, getE10, getE11, getE12, getE13, getB0, getB0', getB1, getB2, getB3, getB4, getB5, getB6, getB7, gt1, gt2, gt3, gt4, gt5, gt6, gt7, st1, st2, st3, st4, st5, st6, st7, st8, st9, st10, st11, st12, List.getElem?_cons_zero, List.set_cons_zero, frzK_nil, frzK_cons, wipeE_nil, wipeE_cons, frz1_ow, frz1_sh, frz1_un, asgT_nm, asgT_2, bop_add, bop_sub, cm_lt, cm_le, cm_gt, cm_ge, cm_eq, cm_ne, cm_is, cm_isnot, isNon_non, isNon_int, isNon_lst, isNon_tup, pyEq_int, it_tup, it_lst, sl_tup, sl_lst, sl_scr, tr_bl, ty_int, ty_intb, ty_intt, ty_ints, ty_bl, ty_blb, ty_blt, ty_tup, ty_tupi, ty_tups, ty_str, ty_strt, ty_stri, bi_lenT, bi_lenL, bi_int, bi_abs, bi_tupL, bi_tupT, bi_lstL, bi_lstT, bi_all, bi_any, bi_sum, sq_lst, sq_tup, atI0, atI1, atI2, atI3, atI_neg1, List.map_cons, List.map_nil, List.length_cons, List.length_nil, Nat.reduceAdd, Nat.reduceSub, Nat.reduceLT, wht_nx, Nat.zero_add, List.replicate_succ, List.replicate_zero, List.append_nil, List.cons_append, List.nil_append, if_true, if_false, Bool.false_eq_true, Bool.not_true, Bool.not_false, Option.map_some, Option.map_none, decide_true, decide_false, ite_self, ne_eq, not_true_eq_false, not_false_eq_true, decide_eq_true_eq, Nat.lt_irrefl, Nat.succ_pos, Nat.zero_lt_succ, noex_ret, $ts,*])
section
variable {P : Prog} [B_k38 P] [BW P] [BR P]
theorem ev_val {n φ β c : Nat} {t : Tm} (T : TC n φ c t) {b : List Rat} (B : NB n β b) (hβ : β + 8 ≤ c) {d : Nat} (hd : 25 ≤ d) : callD P d 13 [encT t, .tup (b.map fr)] = ret (fr (val b t)) :=
  ev_value B.bd B.len T.c1 hβ T.c3 t T.wt T.sz d (by have := T.dp; omega)
theorem lw_val {n φ β c : Nat} {t : Tm} (T : TC n φ c t) {b : List Rat} (B : NB n β b) (hβ : β + 8 ≤ c) {d : Nat} (hd : 25 ≤ d) : callD P d 45 [encT t, .tup (b.map fr)] = ret (fr (val b t)) :=
  lw_value B.bd B.len T.c1 hβ T.c3 t T.wt T.sz d (by have := T.dp; omega)
theorem TC.bd {n φ β c : Nat} {t : Tm} (T : TC n φ c t) {b : List Rat} (B : NB n β b) (hβ : β + 8 ≤ c) : Bd (c * szT t) (val b t) := (val_bd B.bd B.len T.c1 hβ T.c3 t T.wt).mono (by omega)
theorem ev_more {d : Nat} (hd : 2 ≤ d) {w : List Rat} {y : Rat} {n : Nat} (hw : BdL n w) (hy : Bd n y) (hn : n ≤ 60000000) (h0 : 0 < n) (hl : w.length < 10000) : callD P d 19 [.tup (w.map fr), fr y] = ret (lotV (moreL w y)) := by
  rw [callF fn19 (by omega) rfl]
  simp_arith [F19, ir19, enum_map0]
  refine bnd_eq (compL_filter (fun (i : Nat) => EV.tup [.int (i : Int), fr (w.getD i 0)]) (fun i => decide (y < w.getD i 0)) (fun (i : Nat) => .int (i : Int)) (List.range w.length) fun i hi => ?_) ?_
  · simp_arith [cmp1e_eq, ev_less (show 1 ≤ d - 1 by omega) hy (bdL_getD h0 hw i) hn hn]
    by_cases q : y < w.getD i 0 <;> simp_arith [q]
  · have : ((List.range w.length).filter fun i => decide (y < w.getD i 0)).length ≤ w.length := by
      have := List.length_filter_le (fun i => decide (y < w.getD i 0)) (List.range w.length)
      simpa using this
    simp_arith [List.length_map, show ((List.range w.length).filter fun i => decide (y < w.getD i 0)).length < szl by show _ < 16777216; omega, lotV, moreL]
theorem ev_lessL {d : Nat} (hd : 2 ≤ d) {w : List Rat} {y : Rat} {n : Nat} (hw : BdL n w) (hy : Bd n y) (hn : n ≤ 60000000) (h0 : 0 < n) (hl : w.length < 10000) : callD P d 20 [.tup (w.map fr), fr y] = ret (lotV (lessL w y)) := by
  rw [callF fn20 (by omega) rfl]
  simp_arith [F20, ir20, enum_map0]
  refine bnd_eq (compL_filter (fun (i : Nat) => EV.tup [.int (i : Int), fr (w.getD i 0)]) (fun i => decide (w.getD i 0 < y)) (fun (i : Nat) => .int (i : Int)) (List.range w.length) fun i hi => ?_) ?_
  · simp_arith [cmp1e_eq, ev_less (show 1 ≤ d - 1 by omega) (bdL_getD h0 hw i) hy hn hn]
    by_cases q : w.getD i 0 < y <;> simp_arith [q]
  · have : ((List.range w.length).filter fun i => decide (w.getD i 0 < y)).length ≤ w.length := by
      have := List.length_filter_le (fun i => decide (w.getD i 0 < y)) (List.range w.length)
      simpa using this
    simp_arith [List.length_map, show ((List.range w.length).filter fun i => decide (w.getD i 0 < y)).length < szl by show _ < 16777216; omega, lotV, lessL]
theorem ev_with {d : Nat} (hd : 1 ≤ d) {b : List Rat} {lot : List Nat} {x : Rat} (hl : b.length < 10000) : callD P d 21 [.tup (b.map fr), lotV lot, fr x] = ret (.tup ((putL b lot x).map fr)) := by
  rw [callF fn21 (by omega) rfl]
  simp_arith [F21, ir21, enum_map0]
  refine bnd_eq (compL_map (fun (i : Nat) => EV.tup [.int (i : Int), fr (b.getD i 0)]) (fun i => fr (if i ∈ lot then x else b.getD i 0)) (List.range b.length) fun i hi => ?_) ?_
  · simp_arith [cmp1e_eq, in_lot]
    by_cases q : i ∈ lot <;> simp_arith [q]
  · simp_arith [List.length_map, List.length_range, show b.length < szl by show _ < 16777216; omega, putL, List.map_map]
    rfl
theorem ev_up {n φ β c : Nat} {t : Tm} (T : TC n φ c t) {b : List Rat} (B : NB n β b) (h0 : 0 < β) (hβ : β + 8 ≤ c) (hn : n ≤ 100) {lot : List Nat} {d : Nat} (hd : 26 ≤ d) : callD P d 22 [ruleV n t, .tup (b.map fr), lotV lot] = ret (fr (val (putL b lot 1) t)) := by
  rw [callF fn22 (by omega) rfl]
  have B2 : NB n β (putL b lot 1) := ⟨by rw [putL_len, B.len], putL_nm B.nm Nm.one, putL_bd h0 B.bd (Bd.one h0)⟩
  simp_arith [F22, ir22, att_term, fr_11, ev_with (show 1 ≤ d - 1 by omega) (show b.length < 10000 by have := B.len; omega), ev_val T B2 hβ (show 25 ≤ d - 1 by omega)]
theorem ev_down {n φ β c : Nat} {t : Tm} (T : TC n φ c t) {b : List Rat} (B : NB n β b) (h0 : 0 < β) (hβ : β + 8 ≤ c) (hn : n ≤ 100) {lot : List Nat} {d : Nat} (hd : 26 ≤ d) : callD P d 23 [ruleV n t, .tup (b.map fr), lotV lot] = ret (fr (val (putL b lot 0) t)) := by
  rw [callF fn23 (by omega) rfl]
  have B2 : NB n β (putL b lot 0) := ⟨by rw [putL_len, B.len], putL_nm B.nm Nm.zero, putL_bd h0 B.bd (Bd.zero h0)⟩
  simp_arith [F23, ir23, att_term, fr_01, ev_with (show 1 ≤ d - 1 by omega) (show b.length < 10000 by have := B.len; omega), ev_val T B2 hβ (show 25 ≤ d - 1 by omega)]
theorem lotV_nil : EV.tup [] = lotV [] := rfl
theorem ev_lots {n φ β γ c : Nat} {t : Tm} (T : TC n φ c t) {w b : List Rat} (B : NB n β b) (W : NB n γ w) (h0 : 0 < β) (hβ : β + 8 ≤ c) (hγ : γ ≤ 40000000) (hn : n ≤ 100) {d : Nat} (hd : 27 ≤ d) :
    callD P d 24 [ruleV n t, .tup (w.map fr), .tup (b.map fr)] = ret (.tup [lotV (movL t w b).1, lotV (movL t w b).2]) := by
  rw [callF fn24 (by omega) rfl]
  have hc := T.sz
  have p : c * 1 ≤ c * szT t := Nat.mul_le_mul_left _ (szT_pos t)
  have by' := T.bd B hβ
  have hw : BdL (max γ (c * szT t)) w := fun q hq => (W.bd q hq).mono (Nat.le_max_left ..)
  have hy : Bd (max γ (c * szT t)) (val b t) := by'.mono (Nat.le_max_right ..)
  have B2 : NB n β (putL b (moreL w (val b t)) 1) := ⟨by rw [putL_len, B.len], putL_nm B.nm Nm.one, putL_bd h0 B.bd (Bd.one h0)⟩
  have B3 : NB n β (putL b (lessL w (val b t)) 0) := ⟨by rw [putL_len, B.len], putL_nm B.nm Nm.zero, putL_bd h0 B.bd (Bd.zero h0)⟩
  have m1 : max γ (c * szT t) ≤ 60000000 := by omega
  have m0 : 0 < max γ (c * szT t) := by have := T.c3; omega
  have wl : w.length < 10000 := by have := W.len; omega
  simp_arith [F24, ir24, att_term, ev_val T B hβ (show 25 ≤ d - 1 by omega), ev_more (show 2 ≤ d - 1 by omega) hw hy m1 m0 wl, ev_lessL (show 2 ≤ d - 1 by omega) hw hy m1 m0 wl, ev_up T B h0 hβ hn (show 26 ≤ d - 1 by omega), ev_less (show 1 ≤ d - 1 by omega) by' (T.bd B2 hβ) (by omega) (by omega)]
  unfold movL
  by_cases q1 : val b t < val (putL b (moreL w (val b t)) 1) t
  · simp_arith [q1, ev_down T B h0 hβ hn (show 26 ≤ d - 1 by omega), ev_less (show 1 ≤ d - 1 by omega) (T.bd B3 hβ) by' (show c * szT t ≤ 60000000 by omega) (show c * szT t ≤ 60000000 by omega)]
    by_cases q2 : val (putL b (lessL w (val b t)) 0) t < val b t
    · simp_arith [q2]
    · simp_arith [q2, lotV_nil]
  · simp_arith [q1, ev_down T B h0 hβ hn (show 26 ≤ d - 1 by omega), ev_less (show 1 ≤ d - 1 by omega) (T.bd B3 hβ) by' (show c * szT t ≤ 60000000 by omega) (show c * szT t ≤ 60000000 by omega)]
    by_cases q2 : val (putL b (lessL w (val b t)) 0) t < val b t
    · simp_arith [q2, lotV_nil]
    · simp_arith [q2, lotV_nil]
theorem fracB_tup {v : EV} (h : fracB v = true) : ∃ a b, v = .tup [.int a, .int b] ∧ 1 ≤ b ∧ a.natAbs.gcd b.natAbs = 1 := by
  unfold fracB at h
  split at h
  · rename_i a b
    simp only [Bool.and_eq_true, decide_eq_true_eq] at h
    exact ⟨a, b, rfl, h.1, h.2⟩
  · cases h
theorem numB_frac {v : EV} (h : fracB v = false) : numB v = false := by
  unfold numB
  split
  · rename_i a b
    have h : (decide (1 ≤ b) && decide (a.natAbs.gcd b.natAbs = 1)) = false := h
    rw [h]
    rfl
  · rfl
theorem ev_is_number {d : Nat} (hd : 3 ≤ d) {n : Nat} (hn : n ≤ 60000000) {v : EV} (h : dat n v = true) : callD P d 16 [v] = ret (.bl (numB v)) := by
  rw [callF fn16 (by omega) rfl]
  cases e : fracB v with
  | false => simp_arith [F16, ir16, ev_is_fraction (show 2 ≤ d - 1 by omega) hn h, e, numB_frac e]
  | true =>
    obtain ⟨a, b, rfl, h1, h2⟩ := fracB_tup e
    simp_arith [F16, ir16, ev_is_fraction (show 2 ≤ d - 1 by omega) hn h, e, numB, h1, h2, Bool.true_and]
    by_cases ha : 0 ≤ a
    · simp_arith [ha, Bool.true_and]
    · simp_arith [ha, Bool.false_and]
theorem numsB_tup {n : Int} {v : EV} (h : isTy v .tuple = some false) : numsB n v = false := by
  cases v <;> first | rfl | cases h
theorem dat_ty {n : Nat} {v : EV} (h : dat n v = true) : isTy v .tuple = some (tupB v) := by
  cases v <;> first | (exfalso; unfold dat at h; exact Bool.false_ne_true h) | rfl
theorem ev_are_numbers {d : Nat} (hd : 4 ≤ d) {n : Nat} (hn : n ≤ 60000000) {v : EV} (h : dat n v = true) (hl : ∀ l, v = .tup l → l.length < 10000) (m : Nat) : callD P d 17 [v, .int (m : Int)] = ret (.bl (numsB m v)) := by
  rw [callF fn17 (by omega) rfl]
  by_cases ht : ∃ l, v = .tup l
  case neg =>
    have e : isTy v .tuple = some false := by
      rw [dat_ty h]
      cases v <;> first | rfl | exact absurd ⟨_, rfl⟩ ht
    simp_arith [F17, ir17, e, numsB_tup e]
  obtain ⟨l, rfl⟩ := ht
  have hl := hl l rfl
  have h' : datL n l = true := by unfold dat at h; exact h
  by_cases q : (l.length : Int) = (m : Int)
  · simp_arith [F17, ir17, q]
    have e : l = l.map id := by simp
    refine bnd_eq (Eq.trans (congrArg (compL _) e) (compL_map id (fun v => .bl (numB v)) l fun z hz => ?_)) ?_
    · simp_arith [cmp1e_eq, id, ev_is_number (show 3 ≤ d - 1 by omega) hn (datL_mem h' z hz)]
    · simp_arith [List.length_map, show l.length < szl by show _ < 16777216; omega, numsB, q, Bool.true_and]
  · simp_arith [F17, ir17, q, numsB, Bool.false_and]
theorem dat_nums {n β : Nat} {b : List Rat} (B : NB n β b) : dat β (.tup (b.map fr)) = true := by
  unfold dat
  refine datL_of fun v hv => ?_
  obtain ⟨q, hq, rfl⟩ := List.mem_map.mp hv
  exact dat_fr (B.bd q hq)
theorem NB.numsB {n β : Nat} {b : List Rat} (B : NB n β b) : numsB n (.tup (b.map fr)) = true := by
  have := nums_ok B.nm
  rw [B.len] at this
  exact this
theorem tup_len {b : List Rat} {l : List EV} (h : EV.tup (b.map fr) = .tup l) : l.length = b.length := by
  cases h
  rw [List.length_map]
theorem ev_check_wishes {n γ : Nat} {t : Tm} {w : List Rat} (W : NB n γ w) (hγ : γ ≤ 40000000) (hn : n ≤ 100) {d : Nat} (hd : 5 ≤ d) : callD P d 18 [ruleV n t, .tup (w.map fr)] = ret .non := by
  rw [callF fn18 (by omega) rfl]
  simp_arith [F18, ir18, att_people, ev_are_numbers (show 4 ≤ d - 1 by omega) (show γ ≤ 60000000 by omega) (dat_nums W) (fun l hl => by rw [tup_len hl, W.len]; omega) n, W.numsB]
theorem ev_is_rest {n φ β γ c : Nat} {t : Tm} (T : TC n φ c t) {w : List Rat} (W : NB n γ w) (hβ : β + 8 ≤ c) (h0 : 0 < β) (hβ2 : β ≤ 40000000) (hγ : γ ≤ 40000000) (hn : n ≤ 100) {v : EV} (h : dat β v = true) (hl : ∀ l, v = .tup l → l.length < 10000) {d : Nat} (hd : 28 ≤ d) :
    (numsB n v = false → callD P d 25 [ruleV n t, .tup (w.map fr), v] = ret (.bl false)) ∧ ∀ b, v = .tup (b.map fr) → NB n β b → callD P d 25 [ruleV n t, .tup (w.map fr), v] = ret (.bl (decide (movL t w b = ([], [])))) := by
  refine ⟨fun e => ?_, ?_⟩
  · rw [callF fn25 (by omega) rfl]
    simp_arith [F25, ir25, ev_check_wishes W hγ hn (show 5 ≤ d - 1 by omega), att_people, ev_are_numbers (show 4 ≤ d - 1 by omega) (show β ≤ 60000000 by omega) h hl n, e]
  · rintro b rfl B
    rw [callF fn25 (by omega) rfl]
    simp_arith [F25, ir25, ev_check_wishes W hγ hn (show 5 ≤ d - 1 by omega), att_people, ev_are_numbers (show 4 ≤ d - 1 by omega) (show β ≤ 60000000 by omega) h hl n, B.numsB, ev_lots T B W h0 hβ hγ hn (show 27 ≤ d - 1 by omega), pyEq_lots]
/-! ### the law's reading -/
theorem lw_more {d : Nat} (hd : 2 ≤ d) {w : List Rat} {y : Rat} {n : Nat} (hw : BdL n w) (hy : Bd n y) (hn : n ≤ 60000000) (h0 : 0 < n) (hl : w.length < 10000) : callD P d 50 [.tup (w.map fr), fr y] = ret (lotV (moreL w y)) := by
  rw [callF fn50 (by omega) rfl]
  simp_arith [F50, ir50, enum_map0]
  refine bnd_eq (compL_filter (fun (i : Nat) => EV.tup [.int (i : Int), fr (w.getD i 0)]) (fun i => decide (y < w.getD i 0)) (fun (i : Nat) => .int (i : Int)) (List.range w.length) fun i hi => ?_) ?_
  · simp_arith [cmp1e_eq, lw_less (show 1 ≤ d - 1 by omega) hy (bdL_getD h0 hw i) hn hn]
    by_cases q : y < w.getD i 0 <;> simp_arith [q]
  · have : ((List.range w.length).filter fun i => decide (y < w.getD i 0)).length ≤ w.length := by
      have := List.length_filter_le (fun i => decide (y < w.getD i 0)) (List.range w.length)
      simpa using this
    simp_arith [List.length_map, show ((List.range w.length).filter fun i => decide (y < w.getD i 0)).length < szl by show _ < 16777216; omega, lotV, moreL]
theorem atI_frs {b : List Rat} {i : Nat} (h : i < b.length) : atI (b.map fr) (i : Int) = some (fr (b.getD i 0)) := by
  rw [atI_nat, List.getElem?_map, List.getD_eq_getElem?_getD, List.getElem?_eq_getElem h]
  rfl
theorem lw_put {d : Nat} (hd : 1 ≤ d) {b : List Rat} {lot : List Nat} {x : Rat} (hl : b.length < 10000) : callD P d 54 [.tup (b.map fr), lotV lot, fr x] = ret (.tup ((putL b lot x).map fr)) := by
  rw [callF fn54 (by omega) rfl]
  simp_arith [F54, ir54, List.length_map, rngV_lt hl]
  refine bnd_eq (compL_map (fun (i : Nat) => EV.int (i : Int)) (fun i => fr (if i ∈ lot then x else b.getD i 0)) (List.range b.length) fun i hi => ?_) ?_
  · have hi := List.mem_range.mp hi
    simp_arith [cmp1e_eq, in_lot, atI_frs hi]
    by_cases q : i ∈ lot <;> simp_arith [q]
  · simp_arith [List.length_map, List.length_range, show b.length < szl by show _ < 16777216; omega, putL, List.map_map]
    rfl
theorem lw_moving {n φ β γ c : Nat} {t : Tm} (T : TC n φ c t) {w b : List Rat} (B : NB n β b) (W : NB n γ w) (h0 : 0 < β) (hβ : β + 8 ≤ c) (hγ : γ ≤ 40000000) (hn : n ≤ 100) {d : Nat} (hd : 27 ≤ d) :
    callD P d 55 [encT t, .tup (w.map fr), .tup (b.map fr)] = ret (.tup [lotV (movL t w b).1, lotV (movL t w b).2]) := by
  rw [callF fn55 (by omega) rfl]
  have hc := T.sz
  have p : c * 1 ≤ c * szT t := Nat.mul_le_mul_left _ (szT_pos t)
  have by' := T.bd B hβ
  have hw : BdL (max γ (c * szT t)) w := fun q hq => (W.bd q hq).mono (Nat.le_max_left ..)
  have hy : Bd (max γ (c * szT t)) (val b t) := by'.mono (Nat.le_max_right ..)
  have B2 : NB n β (putL b (moreL w (val b t)) 1) := ⟨by rw [putL_len, B.len], putL_nm B.nm Nm.one, putL_bd h0 B.bd (Bd.one h0)⟩
  have B3 : NB n β (putL b (lessL w (val b t)) 0) := ⟨by rw [putL_len, B.len], putL_nm B.nm Nm.zero, putL_bd h0 B.bd (Bd.zero h0)⟩
  have m1 : max γ (c * szT t) ≤ 60000000 := by omega
  have m0 : 0 < max γ (c * szT t) := by have := T.c3; omega
  have wl : w.length < 10000 := by have := W.len; omega
  have bl : b.length < 10000 := by have := B.len; omega
  simp_arith [F55, ir55, List.length_map, rngV_lt wl, lw_val T B hβ (show 25 ≤ d - 1 by omega), lw_more (show 2 ≤ d - 1 by omega) hw hy m1 m0 wl]
  refine bnd_eq (compL_filter (fun (i : Nat) => EV.int (i : Int)) (fun i => decide (w.getD i 0 < val b t)) (fun (i : Nat) => .int (i : Int)) (List.range w.length) fun i hi => ?_) ?_
  · have hi := List.mem_range.mp hi
    simp_arith [cmp1e_eq, atI_frs hi, lw_less (show 1 ≤ d - 1 by omega) (bdL_getD m0 hw i) hy m1 m1]
    by_cases q : w.getD i 0 < val b t <;> simp_arith [q]
  · have : ((List.range w.length).filter fun i => decide (w.getD i 0 < val b t)).length ≤ w.length := by
      have := List.length_filter_le (fun i => decide (w.getD i 0 < val b t)) (List.range w.length)
      simpa using this
    have el : EV.tup (((List.range w.length).filter fun i => decide (w.getD i 0 < val b t)).map fun (i : Nat) => .int (i : Int)) = lotV (lessL w (val b t)) := rfl
    rw [movL_eq T.wt B.nm]
    simp_arith [List.length_map, show ((List.range w.length).filter fun i => decide (w.getD i 0 < val b t)).length < szl by show _ < 16777216; omega, el, fr_11, fr_01, lw_put (show 1 ≤ d - 1 by omega) bl, lw_val T B2 hβ (show 25 ≤ d - 1 by omega), lw_val T B3 hβ (show 25 ≤ d - 1 by omega), pyEq_fr]
    by_cases q1 : val (putL b (moreL w (val b t)) 1) t = val b t
    · by_cases q2 : val (putL b (lessL w (val b t)) 0) t = val b t
      · simp_arith [q1, q2, lotV_nil]
      · simp_arith [q1, q2, lotV_nil]
    · by_cases q2 : val (putL b (lessL w (val b t)) 0) t = val b t
      · simp_arith [q1, q2, lotV_nil]
      · simp_arith [q1, q2, lotV_nil]
end
end Py
end
section
/-! PyRule: rules are made. -/
namespace Py
open PySem (Str PyData)
open L2 (ixN atI)
local macro_rules | `(tactic| simp_arith [$ts,*]) => `(tactic| simp only [evSs_nil, evSs_cons, nxt_nx, nxt_rt, nxt_bk, nxt_ct, fin_nx, fin_rt, evS_whl, evS_fr (itOwn_seq _), evS_fr (itOwn_rng1 _), evS_fr (itOwn_rng2 _ _), evS_fr (itOwn_enum _), evS_fr (itOwn_zip _ _), evE_comp, evS_mut, evS_own, ownV_lst, mutV_ow, mutV_ref, evS_aug, augV_sub, augV_add, evS_ifs, evS.eq_1, evS.eq_2, evS.eq_4, evS.eq_6, evS.eq_8, evS.eq_9, evS.eq_13, evS.eq_14, evS.eq_15, evS.eq_16, evS.eq_17, evE_neg, negV_int, evO_no, evO_so, intO_int, evAnd_one, evAnd_cons, andK_bl, evOr_one, evOr_cons, orK_bl, evI_rng1, evI_rng2, evE.eq_1, evE.eq_2, evE.eq_3, evE.eq_4, evE.eq_5, evE.eq_6, evE.eq_7, evE.eq_9, evE.eq_10, evE.eq_11, evE.eq_12, evE.eq_13, evE.eq_14, evE.eq_15, evE.eq_16, evE.eq_17, evE.eq_18, evE.eq_19, evE.eq_20, evE.eq_21, evE.eq_22, evE.eq_23, evE.eq_24, evE.eq_26, evEs, evT, evAll, evAny, evI.eq_1, evI.eq_4, evI.eq_5, evI.eq_6, ret_bnd', bad_bnd, bnd_bnd, ite_ret, ofO_some, ofO_none, getE0, getE1, getE2, getE3, getE4, getE5, getE6, getE7, getE8, getE9, getE10, getE11, getE12, getE13, getB0, getB0', getB1, getB2, getB3, getB4, getB5, getB6, getB7, gt1, gt2, gt3, gt4, gt5, gt6, gt7, st1, st2, st3, st4, st5, st6, st7, st8, st9, st10, st11, st12, List.getElem?_cons_zero, List.set_cons_zero, frzK_nil, frzK_cons, wipeE_nil, wipeE_cons, frz1_ow, frz1_sh, frz1_un, asgT_nm, asgT_2, bop_add, bop_sub, cm_lt, cm_le, cm_gt, cm_ge, cm_eq, cm_ne, cm_is, cm_isnot, isNon_non, isNon_int, isNon_lst, isNon_tup, pyEq_int, it_tup, it_lst, sl_tup, sl_lst, sl_scr, tr_bl, ty_int, ty_intb, ty_intt, ty_ints, ty_bl, ty_blb, ty_blt, ty_tup, ty_tupi, ty_tups, ty_str, ty_strt, ty_stri, bi_lenT, bi_lenL, bi_int, bi_abs, bi_tupL, bi_tupT, bi_lstL, bi_lstT, bi_all, bi_any, bi_sum, sq_lst, sq_tup, atI0, atI1, atI2, atI3, atI_neg1, List.map_cons, List.map_nil, List.length_cons, List.length_nil, Nat.reduceAdd, Nat.reduceSub, Nat.reduceLT, wht_nx, Nat.zero_add, List.replicate_succ, List.replicate_zero, List.append_nil, List.cons_append, List.nil_append, if_true, if_false, Bool.false_eq_true, Bool.not_true, Bool.not_false, Option.map_some, Option.map_none, decide_true, decide_false, ite_self, ne_eq, not_true_eq_false, not_false_eq_true, decide_eq_true_eq, Nat.lt_irrefl, Nat.succ_pos, Nat.zero_lt_succ, noex_ret, $ts,*])
theorem in_m : cmpop .inn (.str "mean") (.tup [.str "least", .str "greatest"]) = some false := by decide +kernel
theorem in_l : cmpop .inn (.str "least") (.tup [.str "least", .str "greatest"]) = some true := by decide +kernel
theorem in_g : cmpop .inn (.str "greatest") (.tup [.str "least", .str "greatest"]) = some true := by decide +kernel
theorem in_r : cmpop .inn (.str "ranked") (.tup [.str "least", .str "greatest"]) = some false := by decide +kernel
theorem in_w : cmpop .inn (.str "between") (.tup [.str "least", .str "greatest"]) = some false := by decide +kernel
theorem pe_wr : pyEq (.str "between") (.str "ranked") = some false := by decide +kernel
section
variable {P : Prog} [B_k38 P] [BW P] [BR P]
theorem ev_within {d : Nat} (hd : 2 ≤ d) (i a b : Int) : callD P d 15 [.int i, .int a, .int b] = ret (.bl (decide (a ≤ i) && decide (i ≤ b))) := by
  rw [callF fn15 (by omega) rfl]
  simp_arith [F15, ir15, ev_is_int (show 1 ≤ d - 1 by omega) i]
  by_cases h : a ≤ i
  · simp_arith [h, Bool.true_and]
  · simp_arith [h, Bool.false_and]
theorem ev_parts {d : Nat} (hd : 1 ≤ d) {l : List EV} (h1 : 1 ≤ l.length) (h8 : l.length ≤ 8) : callD P d 26 [.tup l] = ret (.bl true) := by
  rw [callF fn26 (by omega) rfl]
  simp_arith [F26, ir26, show (1 : Int) ≤ (l.length : Int) from by omega, show (l.length : Int) ≤ 8 from by omega]
theorem ev_weighted {d : Nat} (hd : 3 ≤ d) {w : Nat} (hw : 1 ≤ w ∧ w ≤ 99) {v : EV} : callD P d 27 [wpair w v] = ret (.bl true) := by
  rw [callF fn27 (by omega) rfl]
  unfold wpair
  simp_arith [F27, ir27, show ((2 : Nat) : Int) = 2 from rfl, ev_within (show 2 ≤ d - 1 by omega), show (1 : Int) ≤ (w : Int) from by omega, show (w : Int) ≤ 99 from by omega, Bool.and_self]
theorem ev_bound {d : Nat} (hd : 4 ≤ d) {lo hi : Rat} {φ : Nat} (h1 : Bd φ lo ∧ Nm lo) (h2 : Bd φ hi ∧ Nm hi) (h : lo ≤ hi) (hφ : φ ≤ 60000000) {v : EV} : callD P d 28 [.tup [.str "between", fr lo, fr hi, v]] = ret (.bl true) := by
  rw [callF fn28 (by omega) rfl]
  simp_arith [F28, ir28, show ((4 : Nat) : Int) = 4 from rfl, ev_is_number (show 3 ≤ d - 1 by omega) hφ (dat_fr h1.1), ev_is_number (show 3 ≤ d - 1 by omega) hφ (dat_fr h2.1), fr_numB h1.2, fr_numB h2.2, ev_less (show 1 ≤ d - 1 by omega) h2.1 h1.1 hφ hφ, Rat.not_lt.mpr h]
theorem ev_leaf_bid {d : Nat} (hd : 3 ≤ d) {n i : Nat} (h : i < n) : callD P d 30 [.int (n : Int), encT (.bid i)] = ret (.bl true) := by
  rw [callF fn30 (by omega) rfl]
  unfold encT
  simp_arith [F30, ir30, show ((2 : Nat) : Int) = 2 from rfl, pe_bb, ev_within (show 2 ≤ d - 1 by omega), show (0 : Int) ≤ (i : Int) from by omega, show (i : Int) ≤ (n : Int) - 1 from by omega, Bool.and_self]
theorem ev_leaf_fix {d : Nat} (hd : 4 ≤ d) {n : Nat} {q : Rat} {φ : Nat} (h : Bd φ q ∧ Nm q) (hφ : φ ≤ 60000000) : callD P d 30 [.int (n : Int), encT (.fix q)] = ret (.bl true) := by
  rw [callF fn30 (by omega) rfl]
  unfold encT
  simp_arith [F30, ir30, show ((2 : Nat) : Int) = 2 from rfl, pe_fb, pe_ff, ev_is_number (show 3 ≤ d - 1 by omega) hφ (dat_fr h.1), fr_numB h.2]
/-- the parts of a term -/
def subT : Tm → List Tm
  | .bid _ => []
  | .fix _ => []
  | .mean _ ts => ts
  | .least ts => ts
  | .great ts => ts
  | .rank _ ts => ts
  | .betw _ _ t => [t]
def leafT : Tm → Bool
  | .bid _ => true
  | .fix _ => true
  | _ => false
theorem ev_leaf_no {d : Nat} (hd : 1 ≤ d) {n : Nat} {t : Tm} (h : leafT t = false) : callD P d 30 [.int (n : Int), encT t] = ret (.bl false) := by
  rw [callF fn30 (by omega) rfl]
  cases t <;> first | cases h | skip
  all_goals unfold encT
  · simp_arith [F30, ir30, show ((2 : Nat) : Int) = 2 from rfl, pe_mb, pe_mf]
  · simp_arith [F30, ir30, show ((2 : Nat) : Int) = 2 from rfl, pe_lb, pe_lf]
  · simp_arith [F30, ir30, show ((2 : Nat) : Int) = 2 from rfl, pe_gb, pe_gf]
  · simp_arith [F30, ir30, show (((3 : Nat) : Int) = 2) = False from by simp]
  · simp_arith [F30, ir30, show (((4 : Nat) : Int) = 2) = False from by simp]
theorem encT_tup (t : Tm) : ∃ w l, encT t = .tup (.str w :: l) := by
  cases t <;> (unfold encT; exact ⟨_, _, rfl⟩)
theorem ev_parts_told {d : Nat} (hd : 5 ≤ d) {n φ : Nat} (hφ : φ ≤ 60000000) {t : Tm} (w : WT n φ t) (h : leafT t = false) : callD P d 29 [encT t] = ret (.lst ((subT t).map encT)) := by
  rw [callF fn29 (by omega) rfl]
  cases t with
  | bid _ => cases h
  | fix _ => cases h
  | mean ws ts =>
    unfold WT at w
    obtain ⟨h1, h2, h3, h4, h5⟩ := w
    unfold encT
    have ez : List.zipWith wpair ws (encTs ts) = (ws.zip ts).map fun p => wpair p.1 (encT p.2) := by
      rw [encTs_map, List.zip, List.map_zipWith, List.zipWith_map_right]
    have lz : (ws.zip ts).length = ts.length := by rw [List.length_zip]; omega
    rw [ez]
    simp_arith [F29, ir29, pe_mm, show ((2 : Nat) : Int) = 2 from rfl, ev_parts (show 1 ≤ d - 1 by omega) (l := (ws.zip ts).map fun p => wpair p.1 (encT p.2)) (by rw [List.length_map]; omega) (by rw [List.length_map]; omega)]
    refine bnd_eq (compL_map (fun (p : Nat × Tm) => wpair p.1 (encT p.2)) (fun p => .bl true) (ws.zip ts) fun p hp => ?_) ?_
    · have := h4 p.1 (List.of_mem_zip hp).1
      simp_arith [cmp1e_eq, ev_weighted (show 3 ≤ d - 1 by omega) this]
    · have ea : bi .all [.lst ((ws.zip ts).map fun p => EV.bl true)] = some (.bl true) := by
        have := bi_all (f := fun (_ : Nat × Tm) => true) (l := ws.zip ts)
        rw [this]
        congr 2
        simp
      simp_arith [List.length_map, show (ws.zip ts).length < szl by show _ < 16777216; omega, ea]
      refine bnd_eq (compL_map (fun (p : Nat × Tm) => wpair p.1 (encT p.2)) (fun p => encT p.2) (ws.zip ts) fun p hp => ?_) ?_
      · simp_arith [cmp1e_eq, wpair]
      · have e2 : ((ws.zip ts).map fun p => encT p.2) = ts.map encT := by
          rw [show (fun (p : Nat × Tm) => encT p.2) = encT ∘ Prod.snd from rfl, ← List.map_map, List.map_snd_zip (by omega)]
        simp_arith [List.length_map, show (ws.zip ts).length < szl by show _ < 16777216; omega, e2, subT, show ts.length < szl by show _ < 16777216; omega]
  | least ts =>
    unfold WT at w
    unfold encT
    rw [encTs_map]
    simp_arith [F29, ir29, pe_lm, in_l, show ((2 : Nat) : Int) = 2 from rfl, ev_parts (show 1 ≤ d - 1 by omega) (l := ts.map encT) (by rw [List.length_map]; omega) (by rw [List.length_map]; omega), subT]
  | great ts =>
    unfold WT at w
    unfold encT
    rw [encTs_map]
    simp_arith [F29, ir29, pe_gm, in_g, show ((2 : Nat) : Int) = 2 from rfl, ev_parts (show 1 ≤ d - 1 by omega) (l := ts.map encT) (by rw [List.length_map]; omega) (by rw [List.length_map]; omega), subT]
  | rank k ts =>
    unfold WT at w
    unfold encT
    rw [encTs_map]
    simp_arith [F29, ir29, pe_rm, in_r, pe_rr, show ((3 : Nat) : Int) = 3 from rfl, ev_parts (show 1 ≤ d - 1 by omega) (l := ts.map encT) (by rw [List.length_map]; omega) (by rw [List.length_map]; omega), subT, List.length_map, ev_within (show 2 ≤ d - 1 by omega), show (1 : Int) ≤ (k : Int) from by omega, show (k : Int) ≤ (ts.length : Int) from by omega, Bool.and_self]
  | betw lo hi t =>
    unfold WT at w
    unfold encT
    simp_arith [F29, ir29, pe_wm, in_w, pe_wr, pe_ww, ev_bound (show 4 ≤ d - 1 by omega) w.1 w.2.1 w.2.2.1 hφ, subT]
theorem leaf_sz {t : Tm} (h : leafT t = true) : szT t = 1 := by cases t <;> first | rfl | cases h
theorem sub_sz {t : Tm} (h : leafT t = false) : szT t = 1 + szTs (subT t) := by
  cases t <;> first | cases h | skip
  all_goals unfold szT subT
  all_goals first | rfl | (rw [szTs_cons]; rfl)
theorem sub_dp {t : Tm} {s : Tm} (h : s ∈ subT t) : dpT s + 1 ≤ dpT t := by
  cases t with
  | bid _ => exact nomatch h
  | fix _ => exact nomatch h
  | betw _ _ t =>
    unfold subT at h
    have : s = t := by simpa using h
    subst this
    conv => rhs; unfold dpT
    omega
  | mean _ ts =>
    have h : s ∈ ts := h
    conv => rhs; unfold dpT
    have := dpTs_mem h
    omega
  | least ts =>
    have h : s ∈ ts := h
    conv => rhs; unfold dpT
    have := dpTs_mem h
    omega
  | great ts =>
    have h : s ∈ ts := h
    conv => rhs; unfold dpT
    have := dpTs_mem h
    omega
  | rank _ ts =>
    have h : s ∈ ts := h
    conv => rhs; unfold dpT
    have := dpTs_mem h
    omega
theorem sub_wt {n φ : Nat} {t : Tm} (w : WT n φ t) {s : Tm} (h : s ∈ subT t) : WT n φ s := by
  cases t with
  | bid _ => exact nomatch h
  | fix _ => exact nomatch h
  | mean _ _ => unfold WT at w; exact w.2.2.2.2.mem _ h
  | least _ => unfold WT at w; exact w.2.2.mem _ h
  | great _ => unfold WT at w; exact w.2.2.mem _ h
  | rank _ _ => unfold WT at w; exact w.2.2.2.mem _ h
  | betw _ _ t =>
    unfold WT at w
    unfold subT at h
    have : s = t := by simpa using h
    subst this
    exact w.2.2.2
theorem ev_terms_told {n φ : Nat} (hφ : φ ≤ 60000000) : ∀ (k : Nat) (t : Tm), WT n φ t → dpT t ≤ k → ∀ d, k + 6 ≤ d → callD P d 31 [.int (n : Int), encT t, .int (k : Int)] = ret (.int (szT t : Nat)) := by
  intro k
  induction k with
  | zero => intro t _ h; exfalso; cases t <;> (unfold dpT at h; omega)
  | succ k ih =>
    intro t w hk d hd
    have kz : (((k + 1 : Nat) : Int) = 0) = False := by simp; omega
    have lz : ∀ (m : Nat), (((m + 1 : Nat) : Int) = 0) = False := fun m => by simp; omega
    rw [callF fn31 (by omega) rfl]
    cases hl : leafT t with
    | true =>
      rw [leaf_sz hl]
      cases t <;> first | cases hl | skip
      · unfold WT at w
        have e := ev_leaf_bid (P := P) (show 3 ≤ d - 1 by omega) w
        unfold encT at e ⊢
        simp_arith [F31, ir31, kz, show (((2 : Nat) : Int) = 0) = False from by simp, e]
        rfl
      · unfold WT at w
        have e := ev_leaf_fix (P := P) (n := n) (show 4 ≤ d - 1 by omega) w hφ
        unfold encT at e ⊢
        simp_arith [F31, ir31, kz, show (((2 : Nat) : Int) = 0) = False from by simp, e]
        rfl
    | false =>
      have e1 := ev_leaf_no (P := P) (d := d - 1) (n := n) (by omega) hl
      have e2 := ev_parts_told (P := P) (d := d - 1) (by omega) hφ w hl
      have e3 : ∀ s ∈ subT t, callD P (d - 1) 31 [.int (n : Int), encT s, .int (k : Int)] = ret (.int (szT s : Nat)) := fun s hs => ih s (sub_wt w hs) (by have := sub_dp hs; omega) (d - 1) (by omega)
      have ek : ((k + 1 : Nat) : Int) - 1 = (k : Int) := by omega
      have es := sub_sz hl
      obtain ⟨wd, l, et⟩ := encT_tup t
      rw [et] at e1 e2 ⊢
      generalize subT t = ts at *
      simp_arith [F31, ir31, kz, lz, e1, e2]
      refine bnd_ex (forL_idx encT (fun i ρ => ∃ u v, ρ = [.sh (.int (n : Int)), .sh (.tup (.str wd :: l)), .sh (.int ((k + 1 : Nat) : Int)), .sh (.lst (ts.map encT)), .sh (.int ((1 + szTs (ts.take i) : Nat) : Int)), u, v]) ts (fun i hi ρ hI => ?_) ⟨_, _, rfl⟩) ?_
      · obtain ⟨u, v, rfl⟩ := hI
        have e4 := e3 ts[i] (List.getElem_mem hi)
        have e5 : szTs (ts.take (i + 1)) = szTs (ts.take i) + szT ts[i] := by
          rw [szTs_eq, szTs_eq, List.take_succ_eq_append_getElem hi, List.map_append, List.sum_append]
          simp
        refine ⟨[.sh (.int (n : Int)), .sh (.tup (.str wd :: l)), .sh (.int ((k + 1 : Nat) : Int)), .sh (.lst (ts.map encT)), .sh (.int ((1 + szTs (ts.take (i + 1)) : Nat) : Int)), .sh (encT ts[i]), .sh (.int (szT ts[i] : Nat))], ?_, _, _, rfl⟩
        have e6 : ((1 + szTs (ts.take i) : Nat) : Int) + (szT ts[i] : Nat) = ((1 + (szTs (ts.take i) + szT ts[i]) : Nat) : Int) := by omega
        simp_arith [tgb_eq, ek, e4, e5, e6]
      · rintro ρ ⟨u, v, rfl⟩
        simp_arith [List.take_length, es]
theorem setAt_ok {ρ : Env} {i f k c : Nat} {v : EV} {fs : List (Nat × EV)} {s : Store} (h1 : getE ρ i = some (.ref k)) (h2 : s[k]? = some (.ins c fs)) (h3 : fs.length < 900) : setAt ρ i f v s = .ok ρ (s.set k (.ins c (putF f v fs))) := by
  unfold setAt
  rw [h1]
  simp only [h2]
  rw [if_pos h3]
mutual
theorem refs_enc (k : Nat) : ∀ t : Tm, refsLt k (encT t) = true
  | .bid _ => by unfold encT; simp [refsLt, refsLtL]
  | .fix q => by unfold encT fr; simp [refsLt, refsLtL]
  | .mean ws ts => by
    unfold encT
    simp only [refsLt, refsLtL, Bool.true_and, Bool.and_true]
    exact refs_zip k ws (refs_encs k ts)
  | .least ts => by
    unfold encT
    simp only [refsLt, refsLtL, Bool.true_and, Bool.and_true]
    exact refs_encs k ts
  | .great ts => by
    unfold encT
    simp only [refsLt, refsLtL, Bool.true_and, Bool.and_true]
    exact refs_encs k ts
  | .rank _ ts => by
    unfold encT
    simp only [refsLt, refsLtL, Bool.true_and, Bool.and_true]
    exact refs_encs k ts
  | .betw lo hi t => by
    unfold encT fr
    simp only [refsLt, refsLtL, Bool.true_and, Bool.and_true]
    exact refs_enc k t
theorem refs_encs (k : Nat) : ∀ ts : List Tm, refsLtL k (encTs ts) = true
  | [] => by unfold encTs; rfl
  | t :: r => by
    unfold encTs
    simp only [refsLtL, refs_enc k t, refs_encs k r, Bool.and_self]
theorem refs_zip (k : Nat) : ∀ (ws : List Nat) {l : List EV}, refsLtL k l = true → refsLtL k (List.zipWith wpair ws l) = true
  | [], l, _ => by simp [refsLtL]
  | w :: ws, [], _ => by simp [refsLtL]
  | w :: ws, v :: l, h => by
    rw [List.zipWith_cons_cons]
    simp only [refsLtL, Bool.and_eq_true] at h ⊢
    refine ⟨?_, refs_zip k ws h.2⟩
    unfold wpair
    simp only [refsLt, refsLtL, h.1, Bool.and_self]
end
theorem ev_init {n φ : Nat} (hφ : φ ≤ 60000000) {t : Tm} (w : WT n φ t) (hn : 1 ≤ n ∧ n ≤ 6) (hz : szT t ≤ 60) (hk : dpT t ≤ 8) {d : Nat} (hd : 15 ≤ d) (s : Store) :
    callD P d 32 [.ref s.length, .int (n : Int), encT t] (s ++ [.ins 3 []]) = .ok .non (s ++ [.ins 3 [(1, .int (n : Int)), (2, encT t)]]) := by
  have e8 := ev_terms_told (P := P) hφ 8 t w hk (d - 1) (by omega)
  rw [show ((8 : Nat) : Int) = 8 from rfl] at e8
  rw [callF fn32 (by omega) rfl]
  simp_arith [F32, ir32, ev_within (show 2 ≤ d - 1 by omega), show (1 : Int) ≤ (n : Int) from by omega, show (n : Int) ≤ 6 from by omega, Bool.and_self, e8, show ((60 : Int) < (szT t : Nat)) = False from by simp; omega]
  have g1 : (s ++ [SO.ins 3 []])[s.length]? = some (.ins 3 []) := by simp
  rw [bnd_at (setAt_ok rfl g1 (by decide))]
  simp_arith []
  have g2 : ((s ++ [SO.ins 3 []]).set s.length (.ins 3 (putF 1 (.int (n : Int)) [])))[s.length]? = some (.ins 3 [(1, .int (n : Int))]) := by simp [putF]
  rw [bnd_at (setAt_ok rfl g2 (by simp))]
  simp [putF]
  rfl
theorem ev_mk {n φ : Nat} (hφ : φ ≤ 60000000) {t : Tm} (w : WT n φ t) (hn : 1 ≤ n ∧ n ≤ 6) (hz : szT t ≤ 60) (hk : dpT t ≤ 8) {d : Nat} (hd : 15 ≤ d) : mkM P.tab (callD P d) 3 [.int (n : Int), encT t] = ret (ruleV n t) := by
  funext s
  exact mkM_ok (BR.c (P := P)) (ev_init hφ w hn hz hk hd s) rfl rfl (by
    simp only [List.map_cons, List.map_nil, refsLtL, refsLt, refs_enc, Bool.and_self])
end
end Py
end
section
/-! PyDraw: the dice. -/
namespace Py
open PySem (Str PyData)
open L2 (ixN atI)
/-- the dice as they lie -/
structure Dc (D : List EV) : Prop where
  ex : ∃ (cs : List Int) (i : Nat) (b r c : Int), D = [.lst (cs.map EV.int), .int (i : Int), .int b, .int r, .int c] ∧ 0 ≤ b
section
variable {α : Type} {K : EV → M α} {tl : Store} {a b c d e : EV}
theorem rd0 : bnd (itemM (.ref 0) (.int 0)) K (.lst [a, b, c, d, e] :: tl) = K a (.lst [a, b, c, d, e] :: tl) := bnd_at (by
  show (match atI [a, b, c, d, e] 0 with
    | some v => Res.ok v _
    | none => .bad) = _
  rw [atI0])
theorem rd1 : bnd (itemM (.ref 0) (.int 1)) K (.lst [a, b, c, d, e] :: tl) = K b (.lst [a, b, c, d, e] :: tl) := bnd_at (by
  show (match atI [a, b, c, d, e] 1 with
    | some v => Res.ok v _
    | none => .bad) = _
  rw [atI1])
theorem rd2 : bnd (itemM (.ref 0) (.int 2)) K (.lst [a, b, c, d, e] :: tl) = K c (.lst [a, b, c, d, e] :: tl) := bnd_at (by
  show (match atI [a, b, c, d, e] 2 with
    | some v => Res.ok v _
    | none => .bad) = _
  rw [atI2])
theorem rd3 : bnd (itemM (.ref 0) (.int 3)) K (.lst [a, b, c, d, e] :: tl) = K d (.lst [a, b, c, d, e] :: tl) := bnd_at (by
  show (match atI [a, b, c, d, e] 3 with
    | some v => Res.ok v _
    | none => .bad) = _
  rw [atI3])
theorem rd4 : bnd (itemM (.ref 0) (.int 4)) K (.lst [a, b, c, d, e] :: tl) = K e (.lst [a, b, c, d, e] :: tl) := bnd_at (by
  show (match atI [a, b, c, d, e] 4 with
    | some v => Res.ok v _
    | none => .bad) = _
  rw [atI4])
variable {K' : Env → M α} {ρ : Env} {v : EV}
theorem setIx_ok {k : Nat} (hk : k < 5) : setIx (.sh (.ref 0) :: ρ) 0 (.int (k : Int)) v (.lst [a, b, c, d, e] :: tl) = .ok (.sh (.ref 0) :: ρ) (.lst ([a, b, c, d, e].set k v) :: tl) := by
  unfold setIx
  simp only [List.getElem?_cons_zero]
  have e : ixN ([a, b, c, d, e] : List EV).length (k : Int) = some k := by
    unfold ixN
    have : (k : Int) < (([a, b, c, d, e] : List EV).length : Int) := by simp; omega
    simp only [Int.natCast_nonneg, if_true, this, Int.toNat_natCast]
  rw [e]
  rfl
theorem wr1 : bnd (setIx (.sh (.ref 0) :: ρ) 0 (.int 1) v) K' (.lst [a, b, c, d, e] :: tl) = K' (.sh (.ref 0) :: ρ) (.lst [a, v, c, d, e] :: tl) := bnd_at (setIx_ok (k := 1) (by decide))
theorem wr2 : bnd (setIx (.sh (.ref 0) :: ρ) 0 (.int 2) v) K' (.lst [a, b, c, d, e] :: tl) = K' (.sh (.ref 0) :: ρ) (.lst [a, b, v, d, e] :: tl) := bnd_at (setIx_ok (k := 2) (by decide))
theorem wr3 : bnd (setIx (.sh (.ref 0) :: ρ) 0 (.int 3) v) K' (.lst [a, b, c, d, e] :: tl) = K' (.sh (.ref 0) :: ρ) (.lst [a, b, c, v, e] :: tl) := bnd_at (setIx_ok (k := 3) (by decide))
theorem wr4 : bnd (setIx (.sh (.ref 0) :: ρ) 0 (.int 4) v) K' (.lst [a, b, c, d, e] :: tl) = K' (.sh (.ref 0) :: ρ) (.lst [a, b, c, d, v] :: tl) := bnd_at (setIx_ok (k := 4) (by decide))
end
theorem ite_app {α : Type} {c : Prop} [Decidable c] {a b : M α} {s : Store} : (if c then a else b) s = if c then a s else b s := by split <;> rfl
theorem ret_app {α : Type} {a : α} {s : Store} : ret a s = .ok a s := rfl
theorem getB_ref {k : Nat} {r : Env} : getB (.sh (.ref k) :: r) 0 = some (.ref k) := rfl
local macro_rules | `(tactic| simp_arith [$ts,*]) => `(tactic| simp only [evSs_nil, evSs_cons, nxt_nx, nxt_rt, nxt_bk, nxt_ct, fin_nx, fin_rt, evS_whl, evS_fr (itOwn_seq _), evS_fr (itOwn_rng1 _), evS_fr (itOwn_rng2 _ _), evS_fr (itOwn_enum _), evS_fr (itOwn_zip _ _), evE_comp, evS_mut, evS_own, ownV_lst, mutV_ow, mutV_ref, evS_aug, augV_sub, augV_add, evS_ifs, evS.eq_1, evS.eq_2, evS.eq_4, evS.eq_6, evS.eq_8, evS.eq_9, evS.eq_13, evS.eq_14, evS.eq_15, evS.eq_16, evS.eq_17, evE_neg, negV_int, evO_no, evO_so, intO_int, evAnd_one, evAnd_cons, andK_bl, evOr_one, evOr_cons, orK_bl, evI_rng1, evI_rng2, evE.eq_1, evE.eq_2, evE.eq_3, evE.eq_4, evE.eq_5, evE.eq_6, evE.eq_7, evE.eq_9, evE.eq_10, evE.eq_11, evE.eq_12, evE.eq_13, evE.eq_14, evE.eq_15, evE.eq_16, evE.eq_17, evE.eq_18, evE.eq_19, evE.eq_20, evE.eq_21, evE.eq_22, evE.eq_23, evE.eq_24, evE.eq_26, evEs, evT, evAll, evAny, evI.eq_1, evI.eq_4, evI.eq_5, evI.eq_6, ret_bnd', bad_bnd, bnd_bnd, ite_ret, ofO_some, ofO_none, getE0, getE1, getE2, getE3, getE4, getE5, getE6, getE7, getE8, getE9, getE10, getE11, getE12, getE13, getB0, getB0', getB1, getB2, getB3, getB4, getB5, getB6, getB7, gt1, gt2, gt3, gt4, gt5, gt6, gt7, st1, st2, st3, st4, st5, st6, st7, st8, st9, st10, st11, st12, List.getElem?_cons_zero, List.set_cons_zero, frzK_nil, frzK_cons, wipeE_nil, wipeE_cons, frz1_ow, frz1_sh, frz1_un, asgT_nm, asgT_2, bop_add, bop_sub, cm_lt, cm_le, cm_gt, cm_ge, cm_eq, cm_ne, cm_is, cm_isnot, isNon_non, isNon_int, isNon_lst, isNon_tup, pyEq_int, it_tup, it_lst, sl_tup, sl_lst, sl_scr, tr_bl, ty_int, ty_intb, ty_intt, ty_ints, ty_bl, ty_blb, ty_blt, ty_tup, ty_tupi, ty_tups, ty_str, ty_strt, ty_stri, bi_lenT, bi_lenL, bi_int, bi_abs, bi_tupL, bi_tupT, bi_lstL, bi_lstT, bi_all, bi_any, bi_sum, sq_lst, sq_tup, atI0, atI1, atI2, atI3, atI_neg1, List.map_cons, List.map_nil, List.length_cons, List.length_nil, Nat.reduceAdd, Nat.reduceSub, Nat.reduceLT, wht_nx, Nat.zero_add, List.replicate_succ, List.replicate_zero, List.append_nil, List.cons_append, List.nil_append, if_true, if_false, Bool.false_eq_true, Bool.not_true, Bool.not_false, Option.map_some, Option.map_none, decide_true, decide_false, ite_self, ne_eq, not_true_eq_false, not_false_eq_true, decide_eq_true_eq, Nat.lt_irrefl, Nat.succ_pos, Nat.zero_lt_succ, noex_ret, $ts,*])
theorem pow18 : (10 : Int) ^ (18 : Int).toNat = 1000000000000000000 := by decide
section
variable {P : Prog} [B_k38 P]
theorem ev_draw {d : Nat} (hd : 1 ≤ d) {D : List EV} (hD : Dc D) {f : Int} (hf : 0 < f) (tl : Store) :
    ∃ (r : Int) (D' : List EV), callD P d 35 [.ref 0, .int f] (.lst D :: tl) = .ok (.int r) (.lst D' :: tl) ∧ Dc D' ∧ 0 ≤ r ∧ r < f := by
  obtain ⟨cs, i, b, r, c, rfl, hb⟩ := hD.ex
  have fz : f ≠ 0 := by omega
  rw [callF fn35 (by omega) rfl]
  have fm : ∀ x : Int, 0 ≤ x.fmod f ∧ x.fmod f < f := fun x => ⟨Int.fmod_nonneg_of_pos x hf, Int.fmod_lt_of_pos x hf⟩
  have sm' : ∀ (x : Int) {m : Int}, 0 < m → m ≤ 4294967296 → (x.fmod m).natAbs ≤ 4294967296 := fun x m h0 h1 => by
    have a := Int.fmod_nonneg_of_pos x h0
    have b := Int.fmod_lt_of_pos x h0
    omega
  have m1 : ∀ x j : Int, binop .mul (.int (x.fmod 2147483647)) (.int j) = some (.int (x.fmod 2147483647 * j)) := fun x j => bop_mulL (sm' x (by decide) (by decide))
  have m2 : ∀ x j : Int, binop .mul (.int (x.fmod 2147483399)) (.int j) = some (.int (x.fmod 2147483399 * j)) := fun x j => bop_mulL (sm' x (by decide) (by decide))
  have m3 : ∀ x : Int, binop .mul (.int x) (.int 69621) = some (.int (x * 69621)) := fun x => bop_mulR (by decide)
  have m4 : ∀ x : Int, binop .mul (.int x) (.int 40692) = some (.int (x * 40692)) := fun x => bop_mulR (by decide)
  have m5 : ∀ x : Int, binop .mul (.int x) (.int 48271) = some (.int (x * 48271)) := fun x => bop_mulR (by decide)
  have m6 : ∀ x : Int, binop .mul (.int x) (.int 7919) = some (.int (x * 7919)) := fun x => bop_mulR (by decide)
  have f1 : ∀ x : Int, binop .fdiv (.int x) (.int 1009) = some (.int (x.fdiv 1009)) := fun x => bop_fdiv (by decide)
  have f2 : ∀ x : Int, binop .fdiv (.int x) (.int 2003) = some (.int (x.fdiv 2003)) := fun x => bop_fdiv (by decide)
  have f3 : ∀ x : Int, binop .fdiv (.int x) (.int 16) = some (.int (x.fdiv 16)) := fun x => bop_fdiv (by decide)
  have q1 : ∀ x : Int, binop .mod (.int x) (.int 2147483647) = some (.int (x.fmod 2147483647)) := fun x => bop_mod (by decide)
  have q2 : ∀ x : Int, binop .mod (.int x) (.int 2147483399) = some (.int (x.fmod 2147483399)) := fun x => bop_mod (by decide)
  have q3 : ∀ x : Int, binop .mod (.int x) (.int 2147483563) = some (.int (x.fmod 2147483563)) := fun x => bop_mod (by decide)
  by_cases h0 : b = 0
  · subst h0
    by_cases h1 : i < cs.length
    · by_cases h2 : (1000000000000000000 : Int) ≤ cs[i]
      · refine ⟨(cs[i]).fmod f, [.lst (cs.map EV.int), .int ((i : Int) + 1), .int ((cs[i]).fdiv f), .int r, .int c], ?_, ⟨cs, i + 1, _, r, c, by simp, Int.fdiv_nonneg (show 0 ≤ cs[i] by omega) (show 0 ≤ f by omega)⟩, fm _⟩
        simp_arith [F35, ir35, rd0, rd1, rd2, rd3, rd4, wr1, wr2, wr3, wr4, ite_app, ret_app, getB_ref, List.length_map, show ((i : Int) < (cs.length : Int)) = True from by simp; omega, atI_nat, List.getElem?_map, List.getElem?_eq_getElem h1, bop_pow (show 0 ≤ (18 : Int) ∧ (18 : Int) ≤ 1000000 ∧ (10 : Int).natAbs < 2 ^ 64 by decide), pow18, h2, show (0 < cs[i]) = True from by simp; omega, bop_mod fz, bop_fdiv fz]
      · refine ⟨Int.fmod ?x f, [.lst (cs.map EV.int), .int ((i : Int) + 1), .int 0, .int ?r, .int ?c], ?e, ⟨cs, i + 1, 0, ?r, ?c, ?g, by omega⟩, fm _⟩
        case e =>
          simp_arith [F35, ir35, rd0, rd1, rd2, rd3, rd4, wr1, wr2, wr3, wr4, ite_app, ret_app, getB_ref, List.length_map, show ((i : Int) < (cs.length : Int)) = True from by simp; omega, atI_nat, List.getElem?_map, List.getElem?_eq_getElem h1, bop_pow (show 0 ≤ (18 : Int) ∧ (18 : Int) ≤ 1000000 ∧ (10 : Int).natAbs < 2 ^ 64 by decide), pow18, h2, Int.lt_irrefl, bop_mod fz, m1, m2, m3, m4, m5, m6, f1, f2, f3, q1, q2, q3]
          rfl
        case g => simp
    · refine ⟨Int.fmod ?x2 f, [.lst (cs.map EV.int), .int (i : Int), .int 0, .int ?r2, .int ?c2], ?e2, ⟨cs, i, 0, ?r2, ?c2, ?g2, by omega⟩, fm _⟩
      case e2 =>
        simp_arith [F35, ir35, rd0, rd1, rd2, rd3, rd4, wr1, wr2, wr3, wr4, ite_app, ret_app, getB_ref, List.length_map, show ((i : Int) < (cs.length : Int)) = False from by simp; omega, Int.lt_irrefl, bop_mod fz, m1, m2, m3, m4, m5, m6, f1, f2, f3, q1, q2, q3]
        rfl
      case g2 => rfl
  · refine ⟨b.fmod f, [.lst (cs.map EV.int), .int (i : Int), .int (b.fdiv f), .int r, .int c], ?_, ⟨cs, i, _, r, c, rfl, Int.fdiv_nonneg hb (show 0 ≤ f by omega)⟩, fm _⟩
    simp_arith [F35, ir35, rd0, rd1, rd2, rd3, rd4, wr1, wr2, wr3, wr4, ite_app, ret_app, getB_ref, h0, show (0 < b) = True from by simp; omega, bop_mod fz, bop_fdiv fz]
end
end Py
end
section
/-! PyDr: what is drawn. -/
namespace Py
open PySem (Str PyData)
open L2 (ixN atI)
/-- whatever the dice: it ends, its value is so -/
def Dr {α : Type} (m : M α) (Q : α → Prop) : Prop := ∀ D tl, Dc D → ∃ v D', m (.lst D :: tl) = .ok v (.lst D' :: tl) ∧ Dc D' ∧ Q v
theorem Dr.ret {α : Type} {v : α} {Q : α → Prop} (h : Q v) : Dr (Py.ret v) Q := fun D tl hD => ⟨v, D, rfl, hD, h⟩
theorem Dr.bnd {α β : Type} {m : M α} {f : α → M β} {Q : α → Prop} {R : β → Prop} (h : Dr m Q) (hf : ∀ v, Q v → Dr (f v) R) : Dr (Py.bnd m f) R := fun D tl hD => by
  obtain ⟨v, D1, e1, hD1, hq⟩ := h D tl hD
  obtain ⟨w, D2, e2, hD2, hr⟩ := hf v hq D1 tl hD1
  refine ⟨w, D2, ?_, hD2, hr⟩
  rw [bnd_at e1]
  exact e2
theorem Dr.bndE {α β : Type} {m : M α} {f : α → M β} {a : α} {R : β → Prop} (h : m = Py.ret a) (hf : Dr (f a) R) : Dr (Py.bnd m f) R := by
  rw [h, ret_bnd]
  exact hf
theorem Dr.mono {α : Type} {m : M α} {Q R : α → Prop} (h : Dr m Q) (hq : ∀ v, Q v → R v) : Dr m R := fun D tl hD => by
  obtain ⟨v, D1, e1, hD1, q⟩ := h D tl hD
  exact ⟨v, D1, e1, hD1, hq v q⟩
theorem Dr.noex {α : Type} {m : M α} {Q : α → Prop} (h : Dr m Q) : Dr (Py.noex m) Q := fun D tl hD => by
  obtain ⟨v, D1, e1, hD1, q⟩ := h D tl hD
  exact ⟨v, D1, noex_ok' e1, hD1, q⟩
theorem Dr.ite {α : Type} {c : Prop} [Decidable c] {a b : M α} {Q : α → Prop} (h1 : c → Dr a Q) (h2 : ¬ c → Dr b Q) : Dr (if c then a else b) Q := by
  split
  · exact h1 ‹_›
  · exact h2 ‹_›
/-- a comprehension -/
theorem Dr.comp {α β : Type} {enc : α → EV} {dec : β → EV} {p : α → β → Prop} {f : EV → M (Option EV)} : ∀ {l : List α}, (∀ x ∈ l, Dr (f (enc x)) fun o => ∃ b, o = some (dec b) ∧ p x b) →
    Dr (compL f (l.map enc)) fun vs => ∃ bs : List β, vs = bs.map dec ∧ bs.length = l.length ∧ ∀ i (h : i < l.length) (h' : i < bs.length), p l[i] bs[i]
  | [], _ => Dr.ret ⟨[], rfl, rfl, fun i h => absurd h (by simp)⟩
  | x :: r, h => by
    rw [List.map_cons]
    unfold compL
    refine Dr.bnd (h x List.mem_cons_self) fun o ⟨b, ho, hb⟩ => ?_
    subst ho
    refine Dr.bnd (Dr.comp fun y hy => h y (List.mem_cons_of_mem _ hy)) fun vs ⟨bs, hv, hl, hp⟩ => ?_
    subst hv
    refine Dr.ret ⟨b :: bs, rfl, by simp [hl], fun i h1 h2 => ?_⟩
    cases i with
    | zero => exact hb
    | succ i => exact hp i (by simpa using h1) (by simpa using h2)
/-- a for -/
theorem Dr.forL {α : Type} {enc : α → EV} {I : Nat → Env → Prop} {f : EV → Env → M (Fl × Env)} {l : List α}
    (h : ∀ i (hi : i < l.length) ρ, I i ρ → Dr (f (enc l[i]) ρ) fun x => ∃ ρ', x = (.nx, ρ') ∧ I (i + 1) ρ') {ρ : Env} (h0 : I 0 ρ) : Dr (Py.forL f (l.map enc) ρ) fun x => ∃ ρ', x = (.nx, ρ') ∧ I l.length ρ' := by
  have key : ∀ (k : Nat) (ρ : Env), k ≤ l.length → I (l.length - k) ρ → Dr (Py.forL f ((l.drop (l.length - k)).map enc) ρ) fun x => ∃ ρ', x = (.nx, ρ') ∧ I l.length ρ' := by
    intro k
    induction k with
    | zero =>
      intro ρ _ i
      rw [Nat.sub_zero] at i ⊢
      rw [List.drop_length]
      exact Dr.ret ⟨ρ, rfl, i⟩
    | succ k ih =>
      intro ρ hk i
      have hi : l.length - (k + 1) < l.length := by omega
      have e : l.length - (k + 1) + 1 = l.length - k := by omega
      rw [List.drop_eq_getElem_cons hi, List.map_cons, e]
      unfold Py.forL
      refine Dr.bnd (h _ hi ρ i) fun x ⟨ρ1, hx, i1⟩ => ?_
      subst hx
      rw [e] at i1
      exact ih ρ1 (by omega) i1
  have := key l.length ρ (Nat.le_refl _) (by rw [Nat.sub_self]; exact h0)
  rw [Nat.sub_self] at this
  exact this
theorem atI_ints {L : List Int} {r : Int} (h0 : 0 ≤ r) (h : r < L.length) : ∃ x, atI (L.map EV.int) r = some (.int x) ∧ x ∈ L := by
  obtain ⟨n, rfl⟩ := Int.eq_ofNat_of_zero_le h0
  have hn : n < L.length := by omega
  refine ⟨L[n], ?_, List.getElem_mem hn⟩
  show atI (L.map EV.int) (n : Int) = _
  rw [atI_nat, List.getElem?_map, List.getElem?_eq_getElem hn]
  rfl
theorem exists_map {α β : Type} {f : α → β} {p : α → Prop} : ∀ {l : List β}, (∀ v ∈ l, ∃ x, v = f x ∧ p x) → ∃ xs : List α, l = xs.map f ∧ ∀ x ∈ xs, p x
  | [], _ => ⟨[], rfl, fun x hx => nomatch hx⟩
  | v :: r, h => by
    obtain ⟨x, e, hx⟩ := h v List.mem_cons_self
    obtain ⟨xs, e2, hxs⟩ := exists_map fun w hw => h w (List.mem_cons_of_mem _ hw)
    refine ⟨x :: xs, by rw [e, e2]; rfl, fun y hy => ?_⟩
    rcases List.mem_cons.mp hy with rfl | hy
    · exact hx
    · exact hxs y hy
theorem divInt_nm {t b : Int} (h0 : 0 ≤ t) (h : t ≤ b) (hb : 0 < b) : Nm (Rat.divInt t b) := by
  constructor
  · rw [← Rat.num_nonneg, Rat.num_divInt, Int.sign_eq_one_of_pos hb, Int.one_mul]
    exact Int.ediv_nonneg h0 (Int.natCast_nonneg _)
  · rw [Rat.le_iff]
    show (Rat.divInt t b).num * 1 ≤ 1 * ((Rat.divInt t b).den : Int)
    rw [Int.mul_one, Int.one_mul, Rat.num_divInt, Rat.den_divInt, if_neg (by omega), Int.sign_eq_one_of_pos hb, Int.one_mul, Int.natCast_ediv, show (b.natAbs : Int) = b by omega]
    refine Int.ediv_le_ediv ?_ h
    have := Int.gcd_pos_of_ne_zero_left t (show b ≠ 0 by omega)
    omega
local macro_rules | `(tactic| simp_arith [$ts,*]) => `(tactic| simp only [evSs_nil, evSs_cons, nxt_nx, nxt_rt, nxt_bk, nxt_ct, fin_nx, fin_rt, evS_whl, evS_fr (itOwn_seq _), evS_fr (itOwn_rng1 _), evS_fr (itOwn_rng2 _ _), evS_fr (itOwn_enum _), evS_fr (itOwn_zip _ _), evE_comp, evS_mut, evS_own, ownV_lst, mutV_ow, mutV_ref, evS_aug, augV_sub, augV_add, evS_ifs, evS.eq_1, evS.eq_2, evS.eq_4, evS.eq_6, evS.eq_8, evS.eq_9, evS.eq_13, evS.eq_14, evS.eq_15, evS.eq_16, evS.eq_17, evE_neg, negV_int, evO_no, evO_so, intO_int, evAnd_one, evAnd_cons, andK_bl, evOr_one, evOr_cons, orK_bl, evI_rng1, evI_rng2, evE.eq_1, evE.eq_2, evE.eq_3, evE.eq_4, evE.eq_5, evE.eq_6, evE.eq_7, evE.eq_9, evE.eq_10, evE.eq_11, evE.eq_12, evE.eq_13, evE.eq_14, evE.eq_15, evE.eq_16, evE.eq_17, evE.eq_18, evE.eq_19, evE.eq_20, evE.eq_21, evE.eq_22, evE.eq_23, evE.eq_24, evE.eq_26, evEs, evT, evAll, evAny, evI.eq_1, evI.eq_4, evI.eq_5, evI.eq_6, ret_bnd', bad_bnd, bnd_bnd, ite_ret, ofO_some, ofO_none, getE0, getE1, getE2, getE3, getE4, getE5, getE6, getE7, getE8, getE9, getE10, getE11, getE12, getE13, getB0, getB0', getB1, getB2, getB3, getB4, getB5, getB6, getB7, gt1, gt2, gt3, gt4, gt5, gt6, gt7, st1, st2, st3, st4, st5, st6, st7, st8, st9, st10, st11, st12, List.getElem?_cons_zero, List.set_cons_zero, frzK_nil, frzK_cons, wipeE_nil, wipeE_cons, frz1_ow, frz1_sh, frz1_un, asgT_nm, asgT_2, bop_add, bop_sub, cm_lt, cm_le, cm_gt, cm_ge, cm_eq, cm_ne, cm_is, cm_isnot, isNon_non, isNon_int, isNon_lst, isNon_tup, pyEq_int, it_tup, it_lst, sl_tup, sl_lst, sl_scr, tr_bl, ty_int, ty_intb, ty_intt, ty_ints, ty_bl, ty_blb, ty_blt, ty_tup, ty_tupi, ty_tups, ty_str, ty_strt, ty_stri, bi_lenT, bi_lenL, bi_int, bi_abs, bi_tupL, bi_tupT, bi_lstL, bi_lstT, bi_all, bi_any, bi_sum, sq_lst, sq_tup, atI0, atI1, atI2, atI3, atI_neg1, List.map_cons, List.map_nil, List.length_cons, List.length_nil, Nat.reduceAdd, Nat.reduceSub, Nat.reduceLT, wht_nx, Nat.zero_add, List.replicate_succ, List.replicate_zero, List.append_nil, List.cons_append, List.nil_append, if_true, if_false, Bool.false_eq_true, Bool.not_true, Bool.not_false, Option.map_some, Option.map_none, decide_true, decide_false, ite_self, ne_eq, not_true_eq_false, not_false_eq_true, decide_eq_true_eq, Nat.lt_irrefl, Nat.succ_pos, Nat.zero_lt_succ, noex_ret, $ts,*])
section
variable {P : Prog} [B_k38 P] [BW P] [BR P]
theorem dr_draw {d : Nat} (hd : 1 ≤ d) {f : Int} (hf : 0 < f) : Dr (callD P d 35 [.ref 0, .int f]) fun v => ∃ r : Int, v = .int r ∧ 0 ≤ r ∧ r < f := fun D tl hD => by
  obtain ⟨r, D', e, h1, h2, h3⟩ := ev_draw (P := P) hd hD hf tl
  exact ⟨_, D', e, h1, r, rfl, h2, h3⟩
/-- a drawn number -/
def Q20 (q : Rat) : Prop := Nm q ∧ Bd 20 q
theorem dr_number {d : Nat} (hd : 2 ≤ d) : Dr (callD P d 41 [.ref 0]) fun v => ∃ q, v = fr q ∧ Q20 q := by
  rw [callF fn41 (by omega) rfl]
  simp_arith [F41, ir41]
  refine Dr.bnd (dr_draw (by omega) (by decide)) fun v ⟨r, hv, h0, h1⟩ => ?_
  subst hv
  obtain ⟨b, eb, hb⟩ := atI_ints (L := [1, 2, 3, 4, 5, 6, 8, 10, 12, 60, 999983]) h0 h1
  simp only [List.map_cons, List.map_nil] at eb
  have hb2 : 1 ≤ b ∧ b ≤ 999983 := by
    simp only [List.mem_cons, List.not_mem_nil, or_false] at hb
    omega
  simp_arith [eb]
  refine Dr.bnd (dr_draw (by omega) (by omega)) fun v ⟨t, hv, h2, h3⟩ => ?_
  subst hv
  simp_arith [ev_lowest (show 1 ≤ d - 1 by omega) t b (by omega) (n := 20) (by omega) (by omega)]
  exact Dr.ret ⟨_, rfl, divInt_nm h2 (by omega) (by omega), divInt_bd (by omega) (by omega) (by omega)⟩
theorem dr_numbers {d : Nat} (hd : 3 ≤ d) {n : Nat} (hn : n < 10000) : Dr (callD P d 42 [.ref 0, .int (n : Int)]) fun v => ∃ b : List Rat, v = .tup (b.map fr) ∧ b.length = n ∧ ∀ q ∈ b, Q20 q := by
  rw [callF fn42 (by omega) rfl]
  simp_arith [F42, ir42, rngV_lt hn]
  refine Dr.bnd (Dr.comp (dec := fr) (p := fun _ q => Q20 q) fun i hi => ?_) fun vs ⟨bs, hv, hl, hp⟩ => ?_
  · simp_arith [cmp1e_eq]
    refine Dr.noex ?_
    refine Dr.bnd (dr_number (by omega)) fun v ⟨q, hv, hq⟩ => ?_
    subst hv
    exact Dr.ret ⟨q, rfl, hq⟩
  · subst hv
    rw [List.length_range] at hl
    simp_arith [List.length_map, show bs.length < szl by show _ < 16777216; omega]
    refine Dr.ret ⟨bs, rfl, hl, fun q hq => ?_⟩
    obtain ⟨i, hi, rfl⟩ := List.getElem_of_mem hq
    exact hp i (by rw [List.length_range]; omega) hi
/-- a drawn term -/
structure DT (n k m : Nat) (t : Tm) : Prop where
  wt : WT n 20 t
  dp : dpT t ≤ k
  sz : szT t ≤ m
def capT : Nat → Nat
  | 0 => 0
  | k + 1 => 1 + 3 * capT k
theorem capT_pos : ∀ k, 1 ≤ k → 1 ≤ capT k
  | k + 1, _ => by unfold capT; omega
theorem encT_mean {ws : List Nat} {ts : List Tm} : encT (.mean ws ts) = .tup [.str "mean", .tup (List.zipWith wpair ws (encTs ts))] := by rw [encT]
theorem zip_fs : ∀ ps : List (Nat × Tm), List.zipWith wpair (ps.map (·.1)) (encTs (ps.map (·.2))) = ps.map fun p => wpair p.1 (encT p.2)
  | [] => by simp
  | p :: r => by
    have := zip_fs r
    rw [encTs_map] at this ⊢
    rw [List.map_cons, List.map_cons, List.map_cons, List.zipWith_cons_cons, this]
    rfl
theorem srt2 {p q : Rat} : srt [p, q] = (if q < p then [q, p] else [p, q]) := by
  show (if q < p then [q, p] else p :: ins q []) = _
  rfl
theorem WT.mk {n φ : Nat} {ts : List Tm} (h : ∀ t ∈ ts, WT n φ t) : WTs n φ ts := WTs.of h
theorem szTs_le {m : Nat} : ∀ {ts : List Tm}, (∀ t ∈ ts, szT t ≤ m) → szTs ts ≤ ts.length * m
  | [], _ => by simp [szTs]
  | t :: r, h => by
    rw [szTs_cons, List.length_cons, Nat.succ_mul]
    have a := h t List.mem_cons_self
    have b := szTs_le fun x hx => h x (List.mem_cons_of_mem _ hx)
    omega
theorem dpTs_le {m : Nat} : ∀ {ts : List Tm}, (∀ t ∈ ts, dpT t ≤ m) → dpTs ts ≤ m
  | [], _ => by unfold dpTs; omega
  | t :: r, h => by
    unfold dpTs
    have a := h t List.mem_cons_self
    have b := dpTs_le fun x hx => h x (List.mem_cons_of_mem _ hx)
    omega
theorem dr_term {n : Nat} (hn : 1 ≤ n) (mb : Bool) : ∀ (k : Nat), 1 ≤ k → ∀ d, k + 4 ≤ d → Dr (callD P d 43 [.ref 0, .int (n : Int), .int (k : Int), .bl mb]) fun v => ∃ t, v = encT t ∧ DT n k (capT k) t := by
  intro k
  induction k with
  | zero => intro h; omega
  | succ k ih =>
    intro _ d hd
    rw [callF fn43 (by omega) rfl]
    simp_arith [F43, ir43]
    refine Dr.bnd (dr_draw (by omega) (by decide)) fun v ⟨kd, hv, k0, k1⟩ => ?_
    subst hv
    have cp : 1 ≤ capT (k + 1) := capT_pos _ (by omega)
    by_cases hl : k = 0 ∨ kd = 0
    · have leaf : Dr (Py.bnd (callD P (d - 1) 35 [.ref 0, .int 5]) fun a => Py.bnd (ofO (pyEq a (.int 0))) fun r => if r = true then Py.bnd (callD P (d - 1) 41 [.ref 0]) fun a => Py.ret (EV.tup [.str "fixed", a]) else Py.bnd (callD P (d - 1) 35 [.ref 0, .int (n : Int)]) fun a => Py.ret (EV.tup [.str "bid", a])) fun v => ∃ t, v = encT t ∧ DT n (k + 1) (capT (k + 1)) t := by
        refine Dr.bnd (dr_draw (by omega) (by decide)) fun v ⟨r, hv, _, _⟩ => ?_
        subst hv
        simp_arith []
        refine Dr.ite (fun _ => ?_) fun _ => ?_
        · refine Dr.bnd (dr_number (by omega)) fun v ⟨q, hv, hq⟩ => ?_
          subst hv
          exact Dr.ret ⟨.fix q, rfl, by unfold WT; exact ⟨hq.2, hq.1⟩, by unfold dpT; omega, by unfold szT; exact cp⟩
        · refine Dr.bnd (dr_draw (by omega) (by omega)) fun v ⟨r, hv, r0, r1⟩ => ?_
          subst hv
          obtain ⟨i, rfl⟩ := Int.eq_ofNat_of_zero_le r0
          exact Dr.ret ⟨.bid i, rfl, by unfold WT; omega, by unfold dpT; omega, by unfold szT; exact cp⟩
      by_cases h0 : k = 0
      · subst h0
        simp_arith [show (((0 + 1 : Nat) : Int) = 1) = True from by simp]
        exact leaf
      · have : kd = 0 := by omega
        subst this
        simp_arith [show (((k + 1 : Nat) : Int) = 1) = False from by simp; omega]
        exact leaf
    · have kf : (((k + 1 : Nat) : Int) = 1) = False := by simp; omega
      have kdf : (kd = 0) = False := by simp; omega
      have ks : ((k + 1 : Nat) : Int) - 1 = (k : Int) := by omega
      simp_arith [kf, kdf]
      refine Dr.bnd (dr_draw (by omega) (by decide)) fun v ⟨r, hv, r0, r1⟩ => ?_
      subst hv
      obtain ⟨m, rfl⟩ := Int.eq_ofNat_of_zero_le r0
      have em : (1 : Int) + (m : Int) = ((1 + m : Nat) : Int) := by omega
      simp_arith [em, rngV_lt (show 1 + m < 10000 by omega)]
      refine Dr.bnd (Dr.comp (dec := encT) (p := fun _ t => DT n k (capT k) t) fun i hi => ?_) fun vs ⟨ts, hv, hlen, hp⟩ => ?_
      · simp_arith [cmp1e_eq, ks]
        refine Dr.noex ?_
        refine Dr.bnd (ih (by omega) (d - 1) (by omega)) fun v ⟨t, hv, ht⟩ => ?_
        subst hv
        exact Dr.ret ⟨t, rfl, ht⟩
      subst hv
      rw [List.length_range] at hlen
      have hts : ∀ t ∈ ts, DT n k (capT k) t := fun t ht => by
        obtain ⟨i, hi, rfl⟩ := List.getElem_of_mem ht
        exact hp i (by rw [List.length_range]; omega) hi
      have dw := WT.mk fun t ht => (hts t ht).wt
      have dz := szTs_le fun t ht => (hts t ht).sz
      have dz2 : ts.length * capT k ≤ 3 * capT k := Nat.mul_le_mul_right _ (by omega)
      have dd := dpTs_le fun t ht => (hts t ht).dp
      have ecap : capT (k + 1) = 1 + 3 * capT k := rfl
      simp_arith [List.length_map, show ts.length < szl by show _ < 16777216; omega]
      by_cases c1 : kd = 1
      · simp_arith [c1]
        refine Dr.bnd (dr_number (by omega)) fun v ⟨p, hv, hp1⟩ => ?_
        subst hv
        refine Dr.bnd (dr_number (by omega)) fun v ⟨q, hv, hq⟩ => ?_
        subst hv
        have es : callD P (d - 1) 40 [.lst [fr p, fr q]] = _ := lw_sorted (l := [p, q]) (n := 20) (by omega) (fun x hx => by
          simp only [List.mem_cons, List.not_mem_nil, or_false] at hx
          rcases hx with rfl | rfl
          · exact hp1.2
          · exact hq.2) (by omega) (by simp)
        rw [srt2] at es
        obtain ⟨t, r, rfl⟩ : ∃ t r, ts = t :: r := by
          cases ts with
          | nil => simp at hlen; omega
          | cons t r => exact ⟨t, r, rfl⟩
        have ht := hts t List.mem_cons_self
        by_cases q1 : q < p
        · rw [if_pos q1] at es
          simp_arith [es]
          refine Dr.ret ⟨.betw q p t, rfl, ?_, ?_, ?_⟩
          · unfold WT; exact ⟨⟨hq.2, hq.1⟩, ⟨hp1.2, hp1.1⟩, Rat.le_of_lt q1, ht.wt⟩
          · unfold dpT; have := ht.dp; omega
          · unfold szT; have := ht.sz; omega
        · rw [if_neg q1] at es
          simp_arith [es]
          refine Dr.ret ⟨.betw p q t, rfl, ?_, ?_, ?_⟩
          · unfold WT; exact ⟨⟨hp1.2, hp1.1⟩, ⟨hq.2, hq.1⟩, Rat.not_lt.mp q1, ht.wt⟩
          · unfold dpT; have := ht.dp; omega
          · unfold szT; have := ht.sz; omega
      have c1f : (kd = 1) = False := by simp [c1]
      by_cases c2 : kd = 2
      · simp_arith [c2, show ((2 : Int) = 1) = False from by simp]
        refine Dr.ret ⟨.least ts, by unfold encT; rw [encTs_map], ?_, ?_, ?_⟩
        · unfold WT; exact ⟨by omega, by omega, dw⟩
        · unfold dpT; omega
        · unfold szT; omega
      by_cases c3 : kd = 3
      · simp_arith [c3, show ((3 : Int) = 1) = False from by simp, show ((3 : Int) = 2) = False from by simp]
        refine Dr.ret ⟨.great ts, by unfold encT; rw [encTs_map], ?_, ?_, ?_⟩
        · unfold WT; exact ⟨by omega, by omega, dw⟩
        · unfold dpT; omega
        · unfold szT; omega
      have rank : Dr (Py.bnd (callD P (d - 1) 35 [.ref 0, .int (ts.length : Int)]) fun a => Py.bnd (ofO (binop .add (.int 1) a)) fun a => Py.ret (EV.tup [.str "ranked", a, .tup (ts.map encT)])) fun v => ∃ t, v = encT t ∧ DT n (k + 1) (capT (k + 1)) t := by
        refine Dr.bnd (dr_draw (by omega) (by omega)) fun v ⟨r, hv, r0, r1⟩ => ?_
        subst hv
        obtain ⟨x, rfl⟩ := Int.eq_ofNat_of_zero_le r0
        simp_arith [show (1 : Int) + (x : Int) = ((1 + x : Nat) : Int) from by omega]
        refine Dr.ret ⟨.rank (1 + x) ts, by unfold encT; rw [encTs_map], ?_, ?_, ?_⟩
        · unfold WT; exact ⟨by omega, by omega, by omega, dw⟩
        · unfold dpT; omega
        · unfold szT; omega
      by_cases c4 : kd = 4
      · simp_arith [c4, show ((4 : Int) = 1) = False from by simp, show ((4 : Int) = 2) = False from by simp, show ((4 : Int) = 3) = False from by simp]
        exact rank
      cases mb with
      | false =>
        simp_arith [c1, c2, c3, c4]
        exact rank
      | true =>
        simp_arith [c1, c2, c3, c4]
        refine Dr.bnd (Dr.comp (dec := fun (p : Nat × Tm) => wpair p.1 (encT p.2)) (p := fun t p => p.2 = t ∧ 1 ≤ p.1 ∧ p.1 ≤ 5) fun t ht => ?_) fun vs ⟨ps, hv, hl2, hp2⟩ => ?_
        · simp_arith [cmp1e_eq]
          refine Dr.noex ?_
          refine Dr.bnd (dr_draw (by omega) (by decide)) fun v ⟨r, hv, r0, r1⟩ => ?_
          subst hv
          obtain ⟨x, rfl⟩ := Int.eq_ofNat_of_zero_le r0
          simp_arith [show (1 : Int) + (x : Int) = ((1 + x : Nat) : Int) from by omega]
          exact Dr.ret ⟨(1 + x, t), rfl, rfl, by omega, by omega⟩
        · subst hv
          simp_arith [List.length_map, show ps.length < szl by show _ < 16777216; omega]
          have e2 : ps.map (·.2) = ts := by
            refine List.ext_getElem (by rw [List.length_map, hl2]) fun i h1 h2 => ?_
            rw [List.getElem_map]
            exact (hp2 i h2 (by rw [hl2]; exact h2)).1
          refine Dr.ret ⟨.mean (ps.map (·.1)) (ps.map (·.2)), by rw [encT_mean, zip_fs], ?_, ?_, ?_⟩
          · rw [e2]
            unfold WT
            refine ⟨by rw [List.length_map, hl2], by omega, by omega, fun w hw => ?_, dw⟩
            obtain ⟨p, hp, rfl⟩ := List.mem_map.mp hw
            obtain ⟨i, hi, rfl⟩ := List.getElem_of_mem hp
            have := (hp2 i (by omega) hi).2
            omega
          · rw [e2]; unfold dpT; omega
          · rw [e2]; unfold szT; omega
end
end Py
end
section
/-! PyDs: drawn rules, lots, wishes, bids. -/
namespace Py
open PySem (Str PyData)
open L2 (ixN atI)
local macro_rules | `(tactic| simp_arith [$ts,*]) => `(tactic| simp only [evSs_nil, evSs_cons, nxt_nx, nxt_rt, nxt_bk, nxt_ct, fin_nx, fin_rt, evS_whl, evS_fr (itOwn_seq _), evS_fr (itOwn_rng1 _), evS_fr (itOwn_rng2 _ _), evS_fr (itOwn_enum _), evS_fr (itOwn_zip _ _), evE_comp, evS_mut, evS_own, ownV_lst, mutV_ow, mutV_ref, evS_aug, augV_sub, augV_add, evS_ifs, evS.eq_1, evS.eq_2, evS.eq_4, evS.eq_6, evS.eq_8, evS.eq_9, evS.eq_13, evS.eq_14, evS.eq_15, evS.eq_16, evS.eq_17, evE_neg, negV_int, evO_no, evO_so, intO_int, evAnd_one, evAnd_cons, andK_bl, evOr_one, evOr_cons, orK_bl, evI_rng1, evI_rng2, evE.eq_1, evE.eq_2, evE.eq_3, evE.eq_4, evE.eq_5, evE.eq_6, evE.eq_7, evE.eq_9, evE.eq_10, evE.eq_11, evE.eq_12, evE.eq_13, evE.eq_14, evE.eq_15, evE.eq_16, evE.eq_17, evE.eq_18, evE.eq_19, evE.eq_20, evE.eq_21, evE.eq_22, evE.eq_23, evE.eq_24, evE.eq_26, evEs, evT, evAll, evAny, evI.eq_1, evI.eq_4, evI.eq_5, evI.eq_6, ret_bnd', bad_bnd, bnd_bnd, ite_ret, ofO_some, ofO_none, getE0, getE1, getE2, getE3, getE4, getE5, getE6, getE7, getE8, getE9, getE10, getE11, getE12, getE13, getB0, getB0', getB1, getB2, getB3, getB4, getB5, getB6, getB7, gt1, gt2, gt3, gt4, gt5, gt6, gt7, st1, st2, st3, st4, st5, st6, st7, st8, st9, st10, st11, st12, List.getElem?_cons_zero, List.set_cons_zero, frzK_nil, frzK_cons, wipeE_nil, wipeE_cons, frz1_ow, frz1_sh, frz1_un, asgT_nm, asgT_2, bop_add, bop_sub, cm_lt, cm_le, cm_gt, cm_ge, cm_eq, cm_ne, cm_is, cm_isnot, isNon_non, isNon_int, isNon_lst, isNon_tup, pyEq_int, it_tup, it_lst, sl_tup, sl_lst, sl_scr, tr_bl, ty_int, ty_intb, ty_intt, ty_ints, ty_bl, ty_blb, ty_blt, ty_tup, ty_tupi, ty_tups, ty_str, ty_strt, ty_stri, bi_lenT, bi_lenL, bi_int, bi_abs, bi_tupL, bi_tupT, bi_lstL, bi_lstT, bi_all, bi_any, bi_sum, sq_lst, sq_tup, atI0, atI1, atI2, atI3, atI_neg1, List.map_cons, List.map_nil, List.length_cons, List.length_nil, Nat.reduceAdd, Nat.reduceSub, Nat.reduceLT, wht_nx, Nat.zero_add, List.replicate_succ, List.replicate_zero, List.append_nil, List.cons_append, List.nil_append, if_true, if_false, Bool.false_eq_true, Bool.not_true, Bool.not_false, Option.map_some, Option.map_none, decide_true, decide_false, ite_self, ne_eq, not_true_eq_false, not_false_eq_true, decide_eq_true_eq, Nat.lt_irrefl, Nat.succ_pos, Nat.zero_lt_succ, noex_ret, $ts,*])
section
variable {P : Prog} [B_k38 P] [BW P] [BR P]
theorem one_add {x : Nat} : (1 : Int) + (x : Int) = ((1 + x : Nat) : Int) := by omega
theorem dpT_mean {ws : List Nat} {ts : List Tm} : dpT (.mean ws ts) = 1 + dpTs ts := by rw [dpT]
theorem dpTs_cons {t : Tm} {r : List Tm} : dpTs (t :: r) = max (dpT t) (dpTs r) := by rw [dpTs]
theorem dpTs_nil : dpTs [] = 0 := by rw [dpTs]
theorem szT_mean {ws : List Nat} {ts : List Tm} : szT (.mean ws ts) = 1 + szTs ts := by rw [szT]
theorem szTs_nil : szTs [] = 0 := by rw [szTs]
theorem capT_mono : ∀ {a b : Nat}, a ≤ b → capT a ≤ capT b
  | 0, b, _ => by unfold capT; omega
  | a + 1, b + 1, h => by unfold capT; have := capT_mono (show a ≤ b by omega); omega
theorem dr_rule_parts {m : Nat} (hm : 1 ≤ m) (hm6 : m ≤ 8) {d : Nat} (hd : 9 ≤ d) : Dr (callD P d 44 [.ref 0, .int (m : Int)]) fun v => ∃ (n : Nat) (t : Tm), v = .tup [.int (n : Int), encT t] ∧ 1 ≤ n ∧ n ≤ m ∧ DT n 5 (42 + n) t := by
  rw [callF fn44 (by omega) rfl]
  simp_arith [F44, ir44]
  refine Dr.bnd (dr_draw (by omega) (by omega)) fun v ⟨r, hv, r0, r1⟩ => ?_
  subst hv
  obtain ⟨x, rfl⟩ := Int.eq_ofNat_of_zero_le r0
  simp_arith [one_add]
  generalize hn : 1 + x = n
  have n1 : 1 ≤ n := by omega
  have nm : n ≤ m := by omega
  refine Dr.bnd (dr_draw (by omega) (by decide)) fun v ⟨r, hv, r0, r1⟩ => ?_
  subst hv
  obtain ⟨k, rfl⟩ := Int.eq_ofNat_of_zero_le r0
  simp_arith [one_add]
  refine Dr.bnd (dr_term n1 true (1 + k) (by omega) (d - 1) (by omega)) fun v ⟨t, hv, ht⟩ => ?_
  subst hv
  have cap : szT t ≤ 40 := Nat.le_trans ht.sz (capT_mono (show 1 + k ≤ 4 by omega))
  have dp4 : dpT t ≤ 4 := by have := ht.dp; omega
  refine Dr.bnd (dr_draw (by omega) (by decide)) fun v ⟨r, hv, _, _⟩ => ?_
  subst hv
  simp_arith []
  refine Dr.ite (fun _ => ?_) fun _ => ?_
  · simp_arith [rngV_lt (show n < 10000 by omega)]
    refine Dr.bnd (Dr.comp (dec := fun (p : Nat × Tm) => wpair p.1 (encT p.2)) (p := fun i p => p.2 = .bid i ∧ 1 ≤ p.1 ∧ p.1 ≤ 3) fun i hi => ?_) fun vs ⟨ps, hv, hl2, hp2⟩ => ?_
    · simp_arith [cmp1e_eq]
      refine Dr.noex ?_
      refine Dr.bnd (dr_draw (by omega) (by decide)) fun v ⟨r, hv, r0, r1⟩ => ?_
      subst hv
      obtain ⟨x, rfl⟩ := Int.eq_ofNat_of_zero_le r0
      simp_arith [one_add]
      exact Dr.ret ⟨(1 + x, .bid i), rfl, rfl, by omega, by omega⟩
    · subst hv
      rw [List.length_range] at hl2
      simp_arith [List.length_map, show ps.length < szl by show _ < 16777216; omega]
      refine Dr.bnd (dr_draw (by omega) (by decide)) fun v ⟨r, hv, r0, r1⟩ => ?_
      subst hv
      obtain ⟨y, rfl⟩ := Int.eq_ofNat_of_zero_le r0
      simp_arith [one_add]
      refine Dr.bnd (dr_draw (by omega) (by decide)) fun v ⟨r, hv, r2, r3⟩ => ?_
      subst hv
      obtain ⟨z, rfl⟩ := Int.eq_ofNat_of_zero_le r2
      simp_arith [one_add]
      have e2 : ps.map (·.2) = (List.range n).map Tm.bid := by
        refine List.ext_getElem (by rw [List.length_map, List.length_map, List.length_range, hl2]) fun i h1 h2 => ?_
        rw [List.length_map] at h1
        rw [List.getElem_map, List.getElem_map, List.getElem_range]
        have := (hp2 i (by rw [List.length_range]; omega) h1).1
        rw [List.getElem_range] at this
        exact this
      have bt : ∀ t ∈ (List.range n).map Tm.bid, WT n 20 t ∧ szT t ≤ 1 ∧ dpT t ≤ 1 := fun t ht => by
        obtain ⟨i, hi, rfl⟩ := List.mem_map.mp ht
        rw [List.mem_range] at hi
        exact ⟨by unfold WT; exact hi, by unfold szT; omega, by unfold dpT; omega⟩
      have bz := szTs_le fun t ht => (bt t ht).2.1
      have bd := dpTs_le fun t ht => (bt t ht).2.2
      have bl : ((List.range n).map Tm.bid).length = n := by rw [List.length_map, List.length_range]
      rw [bl] at bz
      refine Dr.ret ⟨n, .mean [1 + y, 1 + z] [t, .mean (ps.map (·.1)) (ps.map (·.2))], ?_, n1, nm, ?_, ?_, ?_⟩
      · rw [encT_mean]
        simp only [encTs, List.zipWith_cons_cons, List.zipWith_nil_left]
        rw [encT_mean, zip_fs]
        rfl
      · rw [e2]
        unfold WT
        refine ⟨rfl, by simp, by simp, fun w hw => ?_, ?_⟩
        · simp only [List.mem_cons, List.not_mem_nil, or_false] at hw
          omega
        · refine WT.mk fun u hu => ?_
          simp only [List.mem_cons, List.not_mem_nil, or_false] at hu
          rcases hu with rfl | rfl
          · exact ht.wt
          · unfold WT
            refine ⟨by rw [List.length_map, bl, hl2], by omega, by omega, fun w hw => ?_, WT.mk fun t ht => (bt t ht).1⟩
            obtain ⟨p, hp, rfl⟩ := List.mem_map.mp hw
            obtain ⟨i, hi, rfl⟩ := List.getElem_of_mem hp
            have := (hp2 i (by rw [List.length_range]; omega) hi).2
            omega
      · rw [e2]
        rw [dpT_mean, dpTs_cons, dpTs_cons, dpT_mean, dpTs_nil]
        omega
      · rw [e2]
        rw [szT_mean, szTs_cons, szTs_cons, szT_mean, szTs_nil]
        omega
  · exact Dr.ret ⟨n, t, rfl, n1, nm, ht.wt, by omega, by omega⟩
end
end Py
end
section
/-! PyLots: lots, corners, outcomes by the law's reading. -/
namespace Py
open PySem (Str PyData)
open L2 (ixN atI)
def endsL (n : Nat) (lot : List Nat) : List Rat := (List.range n).map fun i => if i ∈ lot then 1 else 0
theorem endsL_nb {n : Nat} {lot : List Nat} : NB n 1 (endsL n lot) := by
  refine ⟨by unfold endsL; simp, fun q hq => ?_, fun q hq => ?_⟩
  · unfold endsL at hq
    obtain ⟨i, _, rfl⟩ := List.mem_map.mp hq
    split
    · exact Nm.one
    · exact Nm.zero
  · unfold endsL at hq
    obtain ⟨i, _, rfl⟩ := List.mem_map.mp hq
    split
    · exact Bd.one (by omega)
    · exact Bd.zero (by omega)
def lotsF : Nat → List (List Nat)
  | 0 => [[]]
  | k + 1 => lotsF k ++ (lotsF k).map (· ++ [k])
theorem lotsF_len : ∀ k, (lotsF k).length = 2 ^ k
  | 0 => rfl
  | k + 1 => by
    unfold lotsF
    rw [List.length_append, List.length_map, lotsF_len k, Nat.pow_succ]
    omega
theorem lotsF_lt : ∀ {k : Nat} {l : List Nat}, l ∈ lotsF k → ∀ i ∈ l, i < k
  | 0, l, h, i, hi => by
    unfold lotsF at h
    have : l = [] := by simpa using h
    subst this
    exact nomatch hi
  | k + 1, l, h, i, hi => by
    unfold lotsF at h
    rcases List.mem_append.mp h with h | h
    · have := lotsF_lt h i hi
      omega
    · obtain ⟨m, hm, rfl⟩ := List.mem_map.mp h
      rcases List.mem_append.mp hi with hi | hi
      · have := lotsF_lt hm i hi
        omega
      · have : i = k := by simpa using hi
        omega
theorem lotsF_ll : ∀ {k : Nat} {l : List Nat}, l ∈ lotsF k → l.length ≤ k
  | 0, l, h => by
    unfold lotsF at h
    have : l = [] := by simpa using h
    subst this
    exact Nat.zero_le _
  | k + 1, l, h => by
    unfold lotsF at h
    rcases List.mem_append.mp h with h | h
    · have := lotsF_ll h
      omega
    · obtain ⟨m, hm, rfl⟩ := List.mem_map.mp h
      have := lotsF_ll hm
      rw [List.length_append]
      simp
      omega
theorem lotsF_nil : ∀ k, [] ∈ lotsF k
  | 0 => by unfold lotsF; simp
  | k + 1 => by
    unfold lotsF
    exact List.mem_append_left _ (lotsF_nil k)
theorem lotsF_one : ∀ k, ((lotsF k).filter fun l => decide (l.length = 0)).length ≤ 1
  | 0 => by unfold lotsF; simp
  | k + 1 => by
    unfold lotsF
    rw [List.filter_append, List.length_append]
    have : ((lotsF k).map (· ++ [k])).filter (fun l => decide (l.length = 0)) = [] := by
      rw [List.filter_eq_nil_iff]
      intro l hl
      obtain ⟨m, _, rfl⟩ := List.mem_map.mp hl
      simp
    rw [this]
    exact lotsF_one k
theorem intssOf_lots : ∀ {ls : List (List Nat)}, intssOf (ls.map lotV) = some (ls.map fun l => l.map fun (i : Nat) => (i : Int))
  | [] => rfl
  | l :: r => by
    rw [List.map_cons]
    unfold lotV intssOf
    rw [intsOf_map]
    have := intssOf_lots (ls := r)
    unfold lotV at this
    simp only [this]
    rfl
theorem sorted_lots {ls : List (List Nat)} (h : ls.length ≤ 1 ∨ ∀ l ∈ ls, l ≠ []) : ∃ ls' : List (List Nat), bi .sorted [.lst (ls.map lotV)] = some (.lst (ls'.map lotV)) ∧ (∀ x ∈ ls', x ∈ ls) ∧ ls'.length = ls.length := by
  cases ls with
  | nil => exact ⟨[], by show some (EV.lst ((([] : List Int).mergeSort _).map EV.int)) = _; simp, (fun x hx => nomatch hx), rfl⟩
  | cons a r =>
    have e1 : intsOf ((a :: r).map lotV) = none := rfl
    have e2 := intssOf_lots (ls := a :: r)
    have hc : ((a :: r).map fun l => l.map fun (i : Nat) => (i : Int)).length ≤ 1 ∨ ∀ n ∈ ((a :: r).map fun l => l.map fun (i : Nat) => (i : Int)), n ≠ [] := by
      rcases h with h | h
      · left; rw [List.length_map]; exact h
      · right
        intro n hn
        obtain ⟨l, hl, rfl⟩ := List.mem_map.mp hn
        intro z
        exact h l hl (List.map_eq_nil_iff.mp z)
    have e : bi .sorted [.lst ((a :: r).map lotV)] = some (.lst ((((a :: r).map fun l => l.map fun (i : Nat) => (i : Int)).mergeSort fun a b => !decide (b < a)).map fun (n : List Int) => EV.tup (n.map EV.int))) := by
      show (match intsOf ((a :: r).map lotV) with
        | some ns => some (EV.lst ((ns.mergeSort fun a b => decide (a ≤ b)).map EV.int))
        | none => (match intssOf ((a :: r).map lotV) with
          | some ns => if ns.length ≤ 1 ∨ ∀ n ∈ ns, n ≠ [] then some (EV.lst ((ns.mergeSort fun a b => !decide (b < a)).map fun (n : List Int) => EV.tup (n.map EV.int))) else none
          | none => none)) = _
      rw [e1, e2]
      simp only []
      rw [if_pos hc]
    obtain ⟨xs, ex, hx⟩ := exists_map (f := lotV) (p := fun l => l ∈ a :: r) (l := (((a :: r).map fun l => l.map fun (i : Nat) => (i : Int)).mergeSort fun a b => !decide (b < a)).map fun (n : List Int) => EV.tup (n.map EV.int)) fun v hv => by
      obtain ⟨n, hn, rfl⟩ := List.mem_map.mp hv
      rw [List.mem_mergeSort] at hn
      obtain ⟨l, hl, rfl⟩ := List.mem_map.mp hn
      refine ⟨l, ?_, hl⟩
      unfold lotV
      rw [List.map_map]
      rfl
    refine ⟨xs, by rw [e, ex], hx, ?_⟩
    have := congrArg List.length ex
    rw [List.length_map, List.length_mergeSort, List.length_map, List.length_map] at this
    exact this.symm
local macro_rules | `(tactic| simp_arith [$ts,*]) => `(tactic| simp only [evSs_nil, evSs_cons, nxt_nx, nxt_rt, nxt_bk, nxt_ct, fin_nx, fin_rt, evS_whl, evS_fr (itOwn_seq _), evS_fr (itOwn_rng1 _), evS_fr (itOwn_rng2 _ _), evS_fr (itOwn_enum _), evS_fr (itOwn_zip _ _), evE_comp, evS_mut, evS_own, ownV_lst, mutV_ow, mutV_ref, evS_aug, augV_sub, augV_add, evS_ifs, evS.eq_1, evS.eq_2, evS.eq_4, evS.eq_6, evS.eq_8, evS.eq_9, evS.eq_13, evS.eq_14, evS.eq_15, evS.eq_16, evS.eq_17, evE_neg, negV_int, evO_no, evO_so, intO_int, evAnd_one, evAnd_cons, andK_bl, evOr_one, evOr_cons, orK_bl, evI_rng1, evI_rng2, evE.eq_1, evE.eq_2, evE.eq_3, evE.eq_4, evE.eq_5, evE.eq_6, evE.eq_7, evE.eq_9, evE.eq_10, evE.eq_11, evE.eq_12, evE.eq_13, evE.eq_14, evE.eq_15, evE.eq_16, evE.eq_17, evE.eq_18, evE.eq_19, evE.eq_20, evE.eq_21, evE.eq_22, evE.eq_23, evE.eq_24, evE.eq_26, evEs, evT, evAll, evAny, evI.eq_1, evI.eq_4, evI.eq_5, evI.eq_6, ret_bnd', bad_bnd, bnd_bnd, ite_ret, ofO_some, ofO_none, getE0, getE1, getE2, getE3, getE4, getE5, getE6, getE7, getE8, getE9, getE10, getE11, getE12, getE13, getB0, getB0', getB1, getB2, getB3, getB4, getB5, getB6, getB7, gt1, gt2, gt3, gt4, gt5, gt6, gt7, st1, st2, st3, st4, st5, st6, st7, st8, st9, st10, st11, st12, List.getElem?_cons_zero, List.set_cons_zero, frzK_nil, frzK_cons, wipeE_nil, wipeE_cons, frz1_ow, frz1_sh, frz1_un, asgT_nm, asgT_2, bop_add, bop_sub, cm_lt, cm_le, cm_gt, cm_ge, cm_eq, cm_ne, cm_is, cm_isnot, isNon_non, isNon_int, isNon_lst, isNon_tup, pyEq_int, it_tup, it_lst, sl_tup, sl_lst, sl_scr, tr_bl, ty_int, ty_intb, ty_intt, ty_ints, ty_bl, ty_blb, ty_blt, ty_tup, ty_tupi, ty_tups, ty_str, ty_strt, ty_stri, bi_lenT, bi_lenL, bi_int, bi_abs, bi_tupL, bi_tupT, bi_lstL, bi_lstT, bi_all, bi_any, bi_sum, sq_lst, sq_tup, atI0, atI1, atI2, atI3, atI_neg1, List.map_cons, List.map_nil, List.length_cons, List.length_nil, Nat.reduceAdd, Nat.reduceSub, Nat.reduceLT, wht_nx, Nat.zero_add, List.replicate_succ, List.replicate_zero, List.append_nil, List.cons_append, List.nil_append, if_true, if_false, Bool.false_eq_true, Bool.not_true, Bool.not_false, Option.map_some, Option.map_none, decide_true, decide_false, ite_self, ne_eq, not_true_eq_false, not_false_eq_true, decide_eq_true_eq, Nat.lt_irrefl, Nat.succ_pos, Nat.zero_lt_succ, noex_ret, $ts,*])
section
variable {P : Prog} [B_k38 P] [BW P] [BR P]
theorem lw_at_ends {d : Nat} (hd : 1 ≤ d) {n : Nat} (hn : n < 10000) {lot : List Nat} : callD P d 48 [.int (n : Int), lotV lot] = ret (.tup ((endsL n lot).map fr)) := by
  rw [callF fn48 (by omega) rfl]
  simp_arith [F48, ir48, rngV_lt hn]
  refine bnd_eq (compL_map (fun (i : Nat) => EV.int (i : Int)) (fun i => fr (if i ∈ lot then 1 else 0)) (List.range n) fun i hi => ?_) ?_
  · simp_arith [cmp1e_eq, in_lot]
    by_cases q : i ∈ lot <;> simp_arith [q, fr_01, fr_11]
  · simp_arith [List.length_map, List.length_range, show n < szl by show _ < 16777216; omega, endsL, List.map_map]
    rfl
theorem lw_corner {n φ c : Nat} {t : Tm} (T : TC n φ c t) (hn : n < 100) {lot : List Nat} {d : Nat} (hd : 26 ≤ d) : callD P d 49 [.int (n : Int), encT t, lotV lot] = ret (fr (val (endsL n lot) t)) := by
  rw [callF fn49 (by omega) rfl]
  simp_arith [F49, ir49, lw_at_ends (show 1 ≤ d - 1 by omega) (show n < 10000 by omega), lw_val T endsL_nb (show 1 + 8 ≤ c by have := T.c3; omega) (show 25 ≤ d - 1 by omega)]
/-- some of the lots of so many people -/
def Lots (n : Nat) (ls : List (List Nat)) : Prop := ls ≠ [] ∧ ls.length ≤ 4096 ∧ ∀ l ∈ ls, l.length ≤ n ∧ ∀ i ∈ l, i < n
theorem lw_by_size {d : Nat} (hd : 1 ≤ d) {ls : List (List Nat)} (h1 : (ls.filter fun l => decide (l.length = 0)).length ≤ 1) (h64 : ls.length ≤ 64) (h0 : [] ∈ ls) :
    ∃ ls' : List (List Nat), callD P d 47 [.lst (ls.map lotV)] = ret (.lst (ls'.map lotV)) ∧ (∀ x ∈ ls', x ∈ ls) ∧ ls' ≠ [] ∧ ls'.length ≤ 4096 := by
  have key : ∃ ρ' : Env, forL (tgb P.tab (callD P (d - 1)) (callD P (d - 2)) P.W (.nm 2) [(.asg (.nm 1) (.bop .add (.var 1) (.bi .sorted [(.comp [3] (.nm 3) (.seq (.var 0)) [(.val (.cmp .eq (.bi .len [(.var 3)]) (.var 2)))] (.var 3))])))]) ((List.range ls.length).map fun (k : Nat) => EV.int (k : Int)) [.sh (.lst (ls.map lotV)), .sh (.lst []), .un, .un] = ret (.nx, ρ') ∧
      ∃ (acc : List (List Nat)) (t : Slot), ρ' = [.sh (.lst (ls.map lotV)), .sh (.lst (acc.map lotV)), t, .un] ∧ (∀ x ∈ acc, x ∈ ls) ∧ acc.length ≤ (List.range ls.length).length * ls.length ∧ (1 ≤ (List.range ls.length).length → acc ≠ []) := by
    refine forL_idx (fun (k : Nat) => EV.int (k : Int)) (fun i ρ => ∃ (acc : List (List Nat)) (t : Slot), ρ = [.sh (.lst (ls.map lotV)), .sh (.lst (acc.map lotV)), t, .un] ∧ (∀ x ∈ acc, x ∈ ls) ∧ acc.length ≤ i * ls.length ∧ (1 ≤ i → acc ≠ [])) (List.range ls.length) (fun i hi ρ hI => ?_) ⟨[], .un, rfl, (fun x hx => nomatch hx), by simp, fun h => by omega⟩
    obtain ⟨acc, t, rfl, a1, a2, a3⟩ := hI
    rw [List.length_range] at hi
    rw [List.getElem_range]
    have fl : (ls.filter fun l => decide (l.length = i)).length ≤ ls.length := List.length_filter_le ..
    obtain ⟨ls', es, s1, s2⟩ := sorted_lots (ls := ls.filter fun l => decide (l.length = i)) (by
      by_cases z : i = 0
      · subst z; exact .inl h1
      · refine .inr fun l hl => ?_
        rintro rfl
        have := (List.mem_filter.mp hl).2
        simp at this
        omega)
    have hle : i * ls.length ≤ 64 * 64 := Nat.mul_le_mul (by omega) h64
    refine ⟨[.sh (.lst (ls.map lotV)), .sh (.lst ((acc ++ ls').map lotV)), .sh (.int (i : Int)), .un], ?_, acc ++ ls', _, rfl, fun x hx => ?_, ?_, fun _ => ?_⟩
    · simp_arith [tgb_eq]
      refine bnd_eq (compL_filter lotV (fun l => decide (l.length = i)) lotV ls fun l hl => ?_) ?_
      · have : ((l.length : Int) = (i : Int)) = (l.length = i) := propext ⟨fun h => by omega, fun h => by omega⟩
        unfold lotV
        simp_arith [cmp1e_eq, List.length_map]
        by_cases q : l.length = i
        · simp_arith [q]
        · simp_arith [q, this]
      · simp_arith [List.length_map, show (ls.filter fun l => decide (l.length = i)).length < szl by show _ < 16777216; omega, es, bop_addL (show (acc.map lotV).length + (ls'.map lotV).length ≤ szl by rw [List.length_map, List.length_map]; show _ ≤ 16777216; omega), List.map_append]
    · rcases List.mem_append.mp hx with hx | hx
      · exact a1 x hx
      · exact (List.mem_filter.mp (s1 x hx)).1
    · rw [List.length_append, Nat.succ_mul]; omega
    · by_cases z : i = 0
      · subst z
        have : [] ∈ ls.filter fun l => decide (l.length = 0) := List.mem_filter.mpr ⟨h0, by simp⟩
        have q : 0 < (ls.filter fun l => decide (l.length = 0)).length := List.length_pos_of_mem this
        intro e
        have h2 := (List.append_eq_nil_iff.mp e).2
        rw [h2, List.length_nil] at s2
        omega
      · intro e
        exact a3 (by omega) (List.append_eq_nil_iff.mp e).1
  obtain ⟨ρ', ek, acc, t, rfl, a1, a2, a3⟩ := key
  rw [List.length_range] at a2 a3
  refine ⟨acc, ?_, a1, a3 (List.length_pos_of_mem h0), ?_⟩
  · rw [callF fn47 (by omega) rfl]
    simp_arith [F47, ir47, List.length_map, rngV_lt (show ls.length < 10000 by omega)]
    rw [ek]
    simp_arith []
  · have hle : ls.length * ls.length ≤ 64 * 64 := Nat.mul_le_mul h64 h64
    exact Nat.le_trans a2 hle
theorem lw_lots {d : Nat} (hd : 2 ≤ d) {n : Nat} (hn : n ≤ 6) : ∃ ls : List (List Nat), callD P d 46 [.int (n : Int)] = ret (.lst (ls.map lotV)) ∧ Lots n ls := by
  have p64 : ∀ k, k ≤ 6 → 2 ^ k ≤ 64 := fun k hk => Nat.pow_le_pow_right (n := 2) (by omega) hk
  obtain ⟨ls', es, s1, s2, s3⟩ := lw_by_size (P := P) (d := d - 1) (by omega) (ls := lotsF n) (lotsF_one n) (by rw [lotsF_len]; exact p64 n hn) (lotsF_nil n)
  refine ⟨ls', ?_, s2, s3, fun l hl => ⟨lotsF_ll (s1 l hl), lotsF_lt (s1 l hl)⟩⟩
  rw [callF fn46 (by omega) rfl]
  simp_arith [F46, ir46, rngV_lt (show n < 10000 by omega)]
  refine bnd_ex (forL_idx (fun (k : Nat) => EV.int (k : Int)) (fun i ρ => ∃ (t : Slot), ρ = [.sh (.int (n : Int)), .sh (.lst ((lotsF i).map lotV)), t, .un]) (List.range n) (fun i hi ρ hI => ?_) ⟨_, rfl⟩) ?_
  · obtain ⟨t, rfl⟩ := hI
    rw [List.length_range] at hi
    rw [List.getElem_range]
    have hl := lotsF_len i
    have hp := p64 i (by omega)
    refine ⟨[.sh (.int (n : Int)), .sh (.lst ((lotsF (i + 1)).map lotV)), .sh (.int (i : Int)), .un], ?_, _, rfl⟩
    simp_arith [tgb_eq]
    refine bnd_eq (compL_map lotV (fun l => lotV (l ++ [i])) (lotsF i) fun l hl' => ?_) ?_
    · have hll : l.length < 10000 := by
        have := lotsF_ll hl'
        omega
      unfold lotV
      simp_arith [cmp1e_eq, bop_addT (show (l.map fun (i : Nat) => EV.int (i : Int)).length + [EV.int (i : Int)].length ≤ szl by rw [List.length_map]; show _ ≤ 16777216; simp; omega), List.map_append]
    · simp_arith [List.length_map, show (lotsF i).length < szl by show _ < 16777216; omega, bop_addL (show ((lotsF i).map lotV).length + ((lotsF i).map fun l => lotV (l ++ [i])).length ≤ szl by rw [List.length_map, List.length_map]; show _ ≤ 16777216; omega), lotsF, List.map_append, List.map_map]
      rfl
  · rintro ρ ⟨t, rfl⟩
    rw [List.length_range]
    simp_arith [es]
theorem lw_outcome {n φ γ c : Nat} {t : Tm} (T : TC n φ c t) {w : List Rat} (W : NB n γ w) (hγ : γ ≤ 40000000) (hn : n ≤ 6) {d : Nat} (hd : 27 ≤ d) : ∃ y, callD P d 51 [.int (n : Int), encT t, .tup (w.map fr)] = ret (fr y) ∧ Nm y ∧ Bd (max (c * szT t) γ) y := by
  obtain ⟨ls, el, l0, l1, l2⟩ := lw_lots (P := P) (d := d - 1) (by omega) hn
  let K := max (c * szT t) γ
  have hK : K ≤ 60000000 := by have := T.sz; show max _ _ ≤ _; omega
  let row : List Nat → List Rat := fun lot => val (endsL n lot) t :: lot.map fun i => w.getD i 0
  have nr : ∀ lot ∈ ls, ∀ q ∈ row lot, Nm q ∧ Bd K q := fun lot hl q hq => by
    rcases List.mem_cons.mp hq with rfl | hq
    · exact ⟨val_nm endsL_nb.nm endsL_nb.len t T.wt, (T.bd endsL_nb (by have := T.c3; omega)).mono (Nat.le_max_left ..)⟩
    · obtain ⟨i, hi, rfl⟩ := List.mem_map.mp hq
      refine ⟨nm_getD W.nm i, ?_⟩
      rw [List.getD_eq_getElem?_getD, List.getElem?_eq_getElem (by rw [W.len]; exact (l2 lot hl).2 i hi)]
      exact (W.bd _ (List.getElem_mem _)).mono (Nat.le_max_right ..)
  have c49 : ∀ lot : List Nat, callD P (d - 1) 49 [.int (n : Int), encT t, lotV lot] = ret (fr (val (endsL n lot) t)) := fun lot => lw_corner T (by omega) (by omega)
  rw [show max (c * szT t) γ = K from rfl]
  have key : ∃ ρ' : Env, forL (tgb P.tab (callD P (d - 1)) (callD P (d - 2)) P.W (.nm 4) [(.mut .append 3 [(.idx (.call 40 [(.bop .add (.lst [(.call 49 [(.var 0), (.var 1), (.var 4)])]) (.comp [5] (.nm 5) (.seq (.var 4)) [] (.idx (.var 2) (.var 5))))]) (.lit (.int 0)))])]) (ls.map lotV) [.sh (.int (n : Int)), .sh (encT t), .sh (.tup (w.map fr)), .ow (.lst []), .un, .un] = ret (.nx, ρ') ∧
      ∃ (acc : List Rat) (u : Slot), ρ' = [.sh (.int (n : Int)), .sh (encT t), .sh (.tup (w.map fr)), .ow (.lst (acc.map fr)), u, .un] ∧ acc.length = ls.length ∧ ∀ q ∈ acc, Nm q ∧ Bd K q := by
    refine forL_idx lotV (fun i ρ => ∃ (acc : List Rat) (u : Slot), ρ = [.sh (.int (n : Int)), .sh (encT t), .sh (.tup (w.map fr)), .ow (.lst (acc.map fr)), u, .un] ∧ acc.length = i ∧ ∀ q ∈ acc, Nm q ∧ Bd K q) ls (fun i hi ρ hI => ?_) ⟨[], .un, rfl, rfl, fun q hq => nomatch hq⟩
    obtain ⟨acc, u, rfl, a1, a2⟩ := hI
    have hl := List.getElem_mem hi
    generalize ls[i] = lot at *
    have rl : (row lot).length ≤ 7 := by
      show (val (endsL n lot) t :: lot.map fun i => w.getD i 0).length ≤ 7
      rw [List.length_cons, List.length_map]
      have := (l2 lot hl).1
      omega
    have e40 : callD P (d - 1) 40 [.lst ((row lot).map fr)] = _ := lw_sorted (by omega) (fun q hq => (nr lot hl q hq).2) hK (by omega)
    have rne : row lot ≠ [] := List.cons_ne_nil _ _
    refine ⟨[.sh (.int (n : Int)), .sh (encT t), .sh (.tup (w.map fr)), .ow (.lst ((acc ++ [lstQ (row lot)]).map fr)), .sh (lotV lot), .un], ?_, acc ++ [lstQ (row lot)], _, rfl, by simp [a1], fun q hq => ?_⟩
    · have es : seqOf (lotV lot) = some (lot.map fun (i : Nat) => EV.int (i : Int)) := rfl
      simp_arith [tgb_eq, c49, es]
      refine bnd_eq (compL_map (fun (i : Nat) => EV.int (i : Int)) (fun i => fr (w.getD i 0)) lot fun i hi => ?_) ?_
      · simp_arith [cmp1e_eq, atI_frs (show i < w.length by rw [W.len]; exact (l2 lot hl).2 i hi)]
      · have er : fr (val (endsL n lot) t) :: lot.map (fun i => fr (w.getD i 0)) = (row lot).map fr := by
          show _ = fr (val (endsL n lot) t) :: (lot.map fun i => w.getD i 0).map fr
          rw [List.map_map]
          rfl
        have ll := (l2 lot hl).1
        simp_arith [List.length_map, show lot.length < szl by show _ < 16777216; omega, bop_addL (show [fr (val (endsL n lot) t)].length + (lot.map fun i => fr (w.getD i 0)).length ≤ szl by rw [List.length_map]; show _ ≤ 16777216; simp; omega), er, e40, (srt_get rne).1, mu_app (show (acc.map fr).length < szl by rw [List.length_map]; show _ < 16777216; omega), List.map_append]
    · rcases List.mem_append.mp hq with hq | hq
      · exact a2 q hq
      · have : q = lstQ (row lot) := by simpa using hq
        rw [this]
        exact nr lot hl _ (lstQ_mem rne)
  obtain ⟨ρ', ek, acc, u, rfl, a1, a2⟩ := key
  have ane : acc ≠ [] := by
    intro e
    rw [e, List.length_nil] at a1
    exact l0 (List.length_eq_zero_iff.mp a1.symm)
  have e40 : callD P (d - 1) 40 [.lst (acc.map fr)] = _ := lw_sorted (by omega) (fun q hq => (a2 q hq).2) hK (by omega)
  refine ⟨grtQ acc, ?_, (a2 _ (grtQ_mem ane)).1, (a2 _ (grtQ_mem ane)).2⟩
  rw [callF fn51 (by omega) rfl]
  simp_arith [F51, ir51, el]
  rw [ek]
  simp_arith [List.modify_succ_cons, List.modify_zero_cons, e40, (srt_get ane).2]
end
end Py
end
section
/-! PyK38a: the law's wishes, bids, checks. -/
namespace Py
open PySem (Str PyData)
open L2 (ixN atI)
theorem setIx_own3 {a b c : Slot} {l : List EV} {r : Env} {k : Nat} {v : EV} (h : k < l.length) : setIx (a :: b :: c :: .ow (.lst l) :: r) 3 (.int (k : Int)) v = ret (a :: b :: c :: .ow (.lst (l.set k v)) :: r) := by
  unfold setIx
  have e : ixN l.length (k : Int) = some k := by
    unfold ixN
    have : (k : Int) < (l.length : Int) := by omega
    simp only [Int.natCast_nonneg, if_true, this, Int.toNat_natCast]
  show (match ixN l.length (k : Int) with
    | some k => ret _
    | none => bad) = _
  rw [e]
  rfl
theorem pyEq_ii {a b c d : Int} : pyEq (.tup [.int a, .int b]) (.tup [.int c, .int d]) = some (decide (a = c) && decide (b = d)) := by
  rw [pyEq_tup]
  unfold pyEqD
  have e : ∀ x y : Int, toD (.tup [.int x, .int y]) = some (.tuple [.int x, .int y]) := fun _ _ => rfl
  rw [e, e]
  simp only []
  rw [if_pos (by rfl)]
  simp only [PyData.eqv, PyData.eqvAll, Bool.and_true]
  rfl
theorem atI_any {l : List EV} {r : Int} (h0 : 0 ≤ r) (h : r < l.length) : ∃ x, atI l r = some x ∧ x ∈ l := by
  obtain ⟨n, rfl⟩ := Int.eq_ofNat_of_zero_le h0
  have hn : n < l.length := by omega
  refine ⟨l[n], ?_, List.getElem_mem hn⟩
  show atI l (n : Int) = _
  rw [atI_nat, List.getElem?_eq_getElem hn]
theorem cut_take {α : Type} {l : List α} {k : Nat} : cut l none (some (k : Int)) = l.take k := by
  unfold cut HT.sIx
  simp only [List.drop_zero, Nat.sub_zero]
  rw [if_neg (by omega), Int.toNat_natCast]
  rw [List.take_eq_take_iff]
  omega
theorem cut_drop {α : Type} {l : List α} {k : Nat} : cut l (some (k : Int)) none = l.drop k := by
  unfold cut HT.sIx
  simp only []
  rw [if_neg (by omega), Int.toNat_natCast]
  by_cases h : k ≤ l.length
  · rw [Nat.min_eq_left h, List.take_of_length_le (by rw [List.length_drop]; omega)]
  · rw [Nat.min_eq_right (by omega), List.drop_eq_nil_of_le (by omega), List.drop_eq_nil_of_le (by omega)]
    simp
/-- numbers of so many bits -/
def NbK (K : Nat) (q : Rat) : Prop := Nm q ∧ Bd K q
theorem NB.of {n K : Nat} {b : List Rat} (h : b.length = n) (hb : ∀ q ∈ b, NbK K q) : NB n K b := ⟨h, fun q hq => (hb q hq).1, fun q hq => (hb q hq).2⟩
theorem NbK.mono {K L : Nat} {q : Rat} (h : NbK K q) (hl : K ≤ L) : NbK L q := ⟨h.1, h.2.mono hl⟩
local macro_rules | `(tactic| simp_arith [$ts,*]) => `(tactic| simp only [evSs_nil, evSs_cons, nxt_nx, nxt_rt, nxt_bk, nxt_ct, fin_nx, fin_rt, evS_whl, evS_fr (itOwn_seq _), evS_fr (itOwn_rng1 _), evS_fr (itOwn_rng2 _ _), evS_fr (itOwn_enum _), evS_fr (itOwn_zip _ _), evE_comp, evS_mut, evS_own, ownV_lst, mutV_ow, mutV_ref, evS_aug, augV_sub, augV_add, evS_ifs, evS.eq_1, evS.eq_2, evS.eq_4, evS.eq_6, evS.eq_8, evS.eq_9, evS.eq_13, evS.eq_14, evS.eq_15, evS.eq_16, evS.eq_17, evE_neg, negV_int, evO_no, evO_so, intO_int, evAnd_one, evAnd_cons, andK_bl, evOr_one, evOr_cons, orK_bl, evI_rng1, evI_rng2, evE.eq_1, evE.eq_2, evE.eq_3, evE.eq_4, evE.eq_5, evE.eq_6, evE.eq_7, evE.eq_9, evE.eq_10, evE.eq_11, evE.eq_12, evE.eq_13, evE.eq_14, evE.eq_15, evE.eq_16, evE.eq_17, evE.eq_18, evE.eq_19, evE.eq_20, evE.eq_21, evE.eq_22, evE.eq_23, evE.eq_24, evE.eq_26, evEs, evT, evAll, evAny, evI.eq_1, evI.eq_4, evI.eq_5, evI.eq_6, ret_bnd', bad_bnd, bnd_bnd, ite_ret, ofO_some, ofO_none, getE0, getE1, getE2, getE3, getE4, getE5, getE6, getE7, getE8, getE9, getE10, getE11, getE12, getE13, getB0, getB0', getB1, getB2, getB3, getB4, getB5, getB6, getB7, gt1, gt2, gt3, gt4, gt5, gt6, gt7, st1, st2, st3, st4, st5, st6, st7, st8, st9, st10, st11, st12, List.getElem?_cons_zero, List.set_cons_zero, frzK_nil, frzK_cons, wipeE_nil, wipeE_cons, frz1_ow, frz1_sh, frz1_un, asgT_nm, asgT_2, bop_add, bop_sub, cm_lt, cm_le, cm_gt, cm_ge, cm_eq, cm_ne, cm_is, cm_isnot, isNon_non, isNon_int, isNon_lst, isNon_tup, pyEq_int, it_tup, it_lst, sl_tup, sl_lst, sl_scr, tr_bl, ty_int, ty_intb, ty_intt, ty_ints, ty_bl, ty_blb, ty_blt, ty_tup, ty_tupi, ty_tups, ty_str, ty_strt, ty_stri, bi_lenT, bi_lenL, bi_int, bi_abs, bi_tupL, bi_tupT, bi_lstL, bi_lstT, bi_all, bi_any, bi_sum, sq_lst, sq_tup, atI0, atI1, atI2, atI3, atI_neg1, List.map_cons, List.map_nil, List.length_cons, List.length_nil, Nat.reduceAdd, Nat.reduceSub, Nat.reduceLT, wht_nx, Nat.zero_add, List.replicate_succ, List.replicate_zero, List.append_nil, List.cons_append, List.nil_append, if_true, if_false, Bool.false_eq_true, Bool.not_true, Bool.not_false, Option.map_some, Option.map_none, decide_true, decide_false, ite_self, ne_eq, not_true_eq_false, not_false_eq_true, decide_eq_true_eq, Nat.lt_irrefl, Nat.succ_pos, Nat.zero_lt_succ, noex_ret, $ts,*])
section
variable {P : Prog} [B_k38 P] [BW P] [BR P]
theorem lw_flag {d : Nat} (hd : 1 ≤ d) {a b : Bool} : callD P d 52 [.bl a, .bl b] = ret (.bl (decide (a = b))) := by
  rw [callF fn52 (by omega) rfl]
  simp_arith [F52, ir52, pyEq_bl]
theorem lw_is_number {d : Nat} (hd : 2 ≤ d) {n : Nat} (hn : n ≤ 60000000) {v : EV} (h : dat n v = true) : callD P d 59 [v] = ret (.bl (numB v)) := by
  rw [callF fn59 (by omega) rfl]
  have short : ∀ {v : EV}, (∀ l, v = .tup l → l.length ≠ 2) → numB v = false := fun {v} h => by
    unfold numB
    split
    · exact absurd rfl (h _ rfl)
    · rfl
  by_cases ht : ∃ l, v = .tup l
  case neg =>
    have e : isTy v .tuple = some false := by
      rw [dat_ty h]
      cases v <;> first | rfl | exact absurd ⟨_, rfl⟩ ht
    simp_arith [F59, ir59, e, short (fun l hl => absurd ⟨l, hl⟩ ht)]
  obtain ⟨l, rfl⟩ := ht
  by_cases h2 : l.length = 2
  case neg =>
    have : ¬ (l.length : Int) = 2 := by omega
    simp_arith [F59, ir59, this, short (v := .tup l) (fun l' hl => by cases hl; exact h2)]
  unfold dat at h
  obtain ⟨x, y, rfl⟩ : ∃ x y, l = [x, y] := by
    match l, h2 with
    | [x, y], _ => exact ⟨x, y, rfl⟩
  have hx := datL_mem h x (by simp)
  have hy := datL_mem h y (by simp)
  simp_arith [F59, ir59, show ((2 : Nat) : Int) = 2 from rfl]
  have ti : ∀ z ∈ [x, y], isTy z .int = some (intB z || (match z with | .bl _ => true | _ => false)) ∧ isTy z .bool = some (match z with | .bl _ => true | _ => false) := fun z hz => by
    have := datL_mem h z hz
    cases z <;> first | exact ⟨rfl, rfl⟩ | (exfalso; unfold dat at this; exact Bool.false_ne_true this)
  refine bnd_eq (compL_map id (fun v => .bl (intB v)) [x, y] fun z hz => ?_) ?_
  · obtain ⟨t1, t2⟩ := ti z hz
    cases z <;> simp_arith [cmp1e_eq, id, t1, t2, intB, Bool.true_or, Bool.or_true, Bool.or_false, Bool.false_or]
  · simp_arith [show (2 : Nat) < szl from by decide, show bi .all [.lst [.bl (intB x), .bl (intB y)]] = some (.bl (intB x && (intB y && true))) from rfl]
    cases x with
    | int a =>
      cases y with
      | int b =>
        simp_arith [intB, Bool.and_true, Bool.and_self, numB]
        by_cases h0 : 0 ≤ a
        · by_cases hab : a ≤ b
          · by_cases hb : 0 < b
            · unfold dat at hy
              simp_arith [h0, hab, hb, ev_lowest (show 1 ≤ d - 1 by omega) a b hb (of_decide_eq_true hy) (by omega), fr_divInt (show b ≠ 0 by omega), pyEq_ii, Bool.and_true]
              congr 2
              rw [Bool.eq_iff_iff]
              simp only [Bool.and_eq_true, decide_eq_true_eq, Int.sign_eq_one_of_pos hb, Int.one_mul]
              constructor
              · rintro ⟨e1, e2⟩
                refine ⟨by omega, ?_⟩
                have g0 : 0 < a.natAbs.gcd b.natAbs := Nat.gcd_pos_of_pos_right _ (by omega)
                have e3 : b.natAbs / a.natAbs.gcd b.natAbs = b.natAbs := by omega
                have dv := Nat.gcd_dvd_right a.natAbs b.natAbs
                have := Nat.div_mul_cancel dv
                rw [e3] at this
                have bp : 0 < b.natAbs := by omega
                exact Nat.eq_of_mul_eq_mul_left bp (by rw [this, Nat.mul_one])
              · rintro ⟨_, e⟩
                rw [e]
                constructor
                · simp
                · simp; omega
            · simp_arith [h0, hab, hb, Bool.and_true]
              congr 2
              rw [Bool.eq_iff_iff]; simp
              omega
          · simp_arith [h0, hab, Bool.and_false]
        · simp_arith [h0, Bool.and_false, Bool.false_and]
      | _ => simp_arith [intB, Bool.and_true, Bool.true_and, numB]
    | _ => simp_arith [intB, Bool.and_true, Bool.false_and, numB]
theorem lw_are_numbers {d : Nat} (hd : 3 ≤ d) {n : Nat} (hn : n ≤ 60000000) {v : EV} (h : dat n v = true) (hl : ∀ l, v = .tup l → l.length < 10000) (m : Nat) : callD P d 60 [v, .int (m : Int)] = ret (.bl (numsB m v)) := by
  rw [callF fn60 (by omega) rfl]
  by_cases ht : ∃ l, v = .tup l
  case neg =>
    have e : isTy v .tuple = some false := by
      rw [dat_ty h]
      cases v <;> first | rfl | exact absurd ⟨_, rfl⟩ ht
    simp_arith [F60, ir60, e, numsB_tup e]
  obtain ⟨l, rfl⟩ := ht
  have hl := hl l rfl
  have h' : datL n l = true := by unfold dat at h; exact h
  by_cases q : (l.length : Int) = (m : Int)
  · simp_arith [F60, ir60, q]
    have e : l = l.map id := by simp
    refine bnd_eq (Eq.trans (congrArg (compL _) e) (compL_map id (fun v => .bl (numB v)) l fun z hz => ?_)) ?_
    · simp_arith [cmp1e_eq, id, lw_is_number (show 2 ≤ d - 1 by omega) hn (datL_mem h' z hz)]
    · simp_arith [List.length_map, show l.length < szl by show _ < 16777216; omega, numsB, q, Bool.true_and]
  · simp_arith [F60, ir60, q, numsB, Bool.false_and]
end
end Py
end
section
/-! PyK38b: drawn wishes and bids. -/
namespace Py
open PySem (Str PyData)
open L2 (ixN atI)
theorem atI_fr0 {b : List Rat} (h : 0 < b.length) : atI (b.map fr) 0 = some (fr (b.getD 0 0)) := atI_frs (i := 0) h
theorem getD_mem {b : List Rat} {i : Nat} (h : i < b.length) : b.getD i 0 ∈ b := by
  rw [List.getD_eq_getElem?_getD, List.getElem?_eq_getElem h]
  exact List.getElem_mem h
theorem ends2 {r : Int} (h0 : 0 ≤ r) (h : r < 2) : ∃ q, atI [fr 0, fr 1] r = some (fr q) ∧ ∀ K, 0 < K → NbK K q := by
  have : r = 0 ∨ r = 1 := by omega
  rcases this with rfl | rfl
  · exact ⟨0, atI0, fun K hK => ⟨Nm.zero, Bd.zero hK⟩⟩
  · exact ⟨1, atI1, fun K hK => ⟨Nm.one, Bd.one hK⟩⟩
theorem Q20.nbk {q : Rat} (h : Q20 q) {K : Nat} (hK : 20 ≤ K) : NbK K q := ⟨h.1, h.2.mono hK⟩
theorem set_mem {K : Nat} {ws : List Rat} {i : Nat} {q : Rat} (h : ∀ q ∈ ws, NbK K q) (hq : NbK K q) : ∀ x ∈ ws.set i q, NbK K x := fun x hx => by
  rcases List.mem_or_eq_of_mem_set hx with h' | rfl
  · exact h x h'
  · exact hq
local macro_rules | `(tactic| simp_arith [$ts,*]) => `(tactic| simp only [evSs_nil, evSs_cons, nxt_nx, nxt_rt, nxt_bk, nxt_ct, fin_nx, fin_rt, evS_whl, evS_fr (itOwn_seq _), evS_fr (itOwn_rng1 _), evS_fr (itOwn_rng2 _ _), evS_fr (itOwn_enum _), evS_fr (itOwn_zip _ _), evE_comp, evS_mut, evS_own, ownV_lst, mutV_ow, mutV_ref, evS_aug, augV_sub, augV_add, evS_ifs, evS.eq_1, evS.eq_2, evS.eq_4, evS.eq_6, evS.eq_8, evS.eq_9, evS.eq_13, evS.eq_14, evS.eq_15, evS.eq_16, evS.eq_17, evE_neg, negV_int, evO_no, evO_so, intO_int, evAnd_one, evAnd_cons, andK_bl, evOr_one, evOr_cons, orK_bl, evI_rng1, evI_rng2, evE.eq_1, evE.eq_2, evE.eq_3, evE.eq_4, evE.eq_5, evE.eq_6, evE.eq_7, evE.eq_9, evE.eq_10, evE.eq_11, evE.eq_12, evE.eq_13, evE.eq_14, evE.eq_15, evE.eq_16, evE.eq_17, evE.eq_18, evE.eq_19, evE.eq_20, evE.eq_21, evE.eq_22, evE.eq_23, evE.eq_24, evE.eq_26, evEs, evT, evAll, evAny, evI.eq_1, evI.eq_4, evI.eq_5, evI.eq_6, ret_bnd', bad_bnd, bnd_bnd, ite_ret, ofO_some, ofO_none, getE0, getE1, getE2, getE3, getE4, getE5, getE6, getE7, getE8, getE9, getE10, getE11, getE12, getE13, getB0, getB0', getB1, getB2, getB3, getB4, getB5, getB6, getB7, gt1, gt2, gt3, gt4, gt5, gt6, gt7, st1, st2, st3, st4, st5, st6, st7, st8, st9, st10, st11, st12, List.getElem?_cons_zero, List.set_cons_zero, frzK_nil, frzK_cons, wipeE_nil, wipeE_cons, frz1_ow, frz1_sh, frz1_un, asgT_nm, asgT_2, bop_add, bop_sub, cm_lt, cm_le, cm_gt, cm_ge, cm_eq, cm_ne, cm_is, cm_isnot, isNon_non, isNon_int, isNon_lst, isNon_tup, pyEq_int, it_tup, it_lst, sl_tup, sl_lst, sl_scr, tr_bl, ty_int, ty_intb, ty_intt, ty_ints, ty_bl, ty_blb, ty_blt, ty_tup, ty_tupi, ty_tups, ty_str, ty_strt, ty_stri, bi_lenT, bi_lenL, bi_int, bi_abs, bi_tupL, bi_tupT, bi_lstL, bi_lstT, bi_all, bi_any, bi_sum, sq_lst, sq_tup, atI0, atI1, atI2, atI3, atI_neg1, List.map_cons, List.map_nil, List.length_cons, List.length_nil, Nat.reduceAdd, Nat.reduceSub, Nat.reduceLT, wht_nx, Nat.zero_add, List.replicate_succ, List.replicate_zero, List.append_nil, List.cons_append, List.nil_append, if_true, if_false, Bool.false_eq_true, Bool.not_true, Bool.not_false, Option.map_some, Option.map_none, decide_true, decide_false, ite_self, ne_eq, not_true_eq_false, not_false_eq_true, decide_eq_true_eq, Nat.lt_irrefl, Nat.succ_pos, Nat.zero_lt_succ, noex_ret, $ts,*])
section
variable {P : Prog} [B_k38 P] [BW P] [BR P]
theorem dr_wishes {n φ c K : Nat} {t : Tm} (T : TC n φ c t) (hn : 1 ≤ n ∧ n ≤ 6) (hK : 20 ≤ K) (hK2 : c * szT t ≤ K) {d : Nat} (hd : 27 ≤ d) : Dr (callD P d 53 [.ref 0, .int (n : Int), encT t]) fun v => ∃ w : List Rat, v = .tup (w.map fr) ∧ w.length = n ∧ ∀ q ∈ w, NbK K q := by
  obtain ⟨ls, el, l0, l1, l2⟩ := lw_lots (P := P) (d := d - 1) (by omega) hn.2
  have lpos : 0 < ls.length := List.length_pos_iff.mpr l0
  have c49 : ∀ lot : List Nat, callD P (d - 1) 49 [.int (n : Int), encT t, lotV lot] = ret (fr (val (endsL n lot) t)) := fun lot => lw_corner T (by omega) (by omega)
  have k49 : ∀ lot : List Nat, NbK K (val (endsL n lot) t) := fun lot => ⟨val_nm endsL_nb.nm endsL_nb.len t T.wt, (T.bd endsL_nb (by have := T.c3; omega)).mono hK2⟩
  rw [callF fn53 (by omega) rfl]
  simp_arith [F53, ir53]
  refine Dr.bnd (dr_numbers (by omega) (by omega)) fun v ⟨w0, hv, hl0, hw0⟩ => ?_
  subst hv
  simp_arith [rngV_lt (show n < 10000 by omega)]
  refine Dr.bnd (Dr.forL (enc := fun (k : Nat) => EV.int (k : Int)) (I := fun i ρ => ∃ (ws : List Rat) (t1 t2 t3 : Slot), ρ = [.sh (.ref 0), .sh (.int (n : Int)), .sh (encT t), .ow (.lst (ws.map fr)), t1, t2, t3] ∧ ws.length = n ∧ ∀ q ∈ ws, NbK K q) (fun i hi ρ hI => ?_) ⟨w0, _, _, _, rfl, hl0, fun q hq => (hw0 q hq).nbk hK⟩) fun x ⟨ρ', hx, hI⟩ => ?_
  · obtain ⟨ws, t1, t2, t3, rfl, hl, hw⟩ := hI
    rw [List.length_range] at hi
    rw [List.getElem_range]
    have hi2 : i < (ws.map fr).length := by rw [List.length_map]; omega
    simp_arith [tgb_eq]
    refine Dr.bnd (dr_draw (by omega) (by decide)) fun v ⟨kd, hv, k0, k1⟩ => ?_
    subst hv
    by_cases h0 : kd = 0
    · subst h0
      simp_arith [atI_fr0 (show 0 < ws.length by omega), setIx_own3 hi2, show ((0 : Int) = 1) = False from by simp, show ((0 : Int) = 2) = False from by simp]
      refine Dr.ret ⟨_, rfl, ws.set i (ws.getD 0 0), _, _, _, by rw [List.map_set], by rw [List.length_set]; exact hl, set_mem hw (hw _ (getD_mem (by omega)))⟩
    by_cases h1 : kd = 1
    · subst h1
      simp_arith [show ((1 : Int) = 0) = False from by simp, show ((1 : Int) = 2) = False from by simp, fr_01, fr_11]
      refine Dr.bnd (dr_draw (by omega) (by decide)) fun v ⟨r, hv, r0, r1⟩ => ?_
      subst hv
      obtain ⟨q, eq, hq⟩ := ends2 r0 r1
      simp_arith [eq, setIx_own3 hi2]
      exact Dr.ret ⟨_, rfl, ws.set i q, _, _, _, by rw [List.map_set], by rw [List.length_set]; exact hl, set_mem hw (hq K (by omega))⟩
    by_cases h2 : kd = 2
    · subst h2
      simp_arith [show ((2 : Int) = 0) = False from by simp, show ((2 : Int) = 1) = False from by simp, el, List.length_map]
      refine Dr.bnd (dr_draw (by omega) (by omega)) fun v ⟨r, hv, r0, r1⟩ => ?_
      subst hv
      obtain ⟨x, ex, hx⟩ := atI_any (l := ls.map lotV) r0 (by rw [List.length_map]; exact r1)
      obtain ⟨lot, _, rfl⟩ := List.mem_map.mp hx
      simp_arith [ex, c49, setIx_own3 hi2]
      exact Dr.ret ⟨_, rfl, ws.set i (val (endsL n lot) t), _, _, _, by rw [List.map_set], by rw [List.length_set]; exact hl, set_mem hw (k49 lot)⟩
    · simp_arith [h0, h1, h2]
      exact Dr.ret ⟨_, rfl, ws, _, _, _, rfl, hl, hw⟩
  · obtain ⟨ws, t1, t2, t3, rfl, hl, hw⟩ := hI
    subst hx
    simp_arith [List.modify_succ_cons, List.modify_zero_cons]
    exact Dr.ret ⟨ws, rfl, hl, hw⟩
theorem dr_some_bids {n φ c K : Nat} {t : Tm} (T : TC n φ c t) (hn : 1 ≤ n ∧ n ≤ 6) (hK : 20 ≤ K) (hK2 : c * szT t ≤ K) (hK3 : K ≤ 40000000) {w : List Rat} (hl : w.length = n) (hw : ∀ q ∈ w, NbK K q) {d : Nat} (hd : 28 ≤ d) :
    Dr (callD P d 56 [.ref 0, .int (n : Int), encT t, .tup (w.map fr)]) fun v => ∃ b : List Rat, v = .tup (b.map fr) ∧ b.length = n ∧ ∀ q ∈ b, NbK K q := by
  have W : NB n K w := NB.of hl hw
  obtain ⟨y, ey, hy1, hy2⟩ := lw_outcome (P := P) T W hK3 hn.2 (d := d - 1) (by omega)
  have hy3 : Bd K y := hy2.mono (by omega)
  have hK6 : K ≤ 60000000 := by omega
  have ls1 : ∀ i, callD P (d - 1) 39 [fr y, fr (w.getD i 0)] = ret (.bl (decide (y < w.getD i 0))) := fun i => lw_less (by omega) hy3 (bdL_getD (by omega) W.bd i) hK6 hK6
  have ls2 : ∀ i, callD P (d - 1) 39 [fr (w.getD i 0), fr y] = ret (.bl (decide (w.getD i 0 < y))) := fun i => lw_less (by omega) (bdL_getD (by omega) W.bd i) hy3 hK6 hK6
  rw [callF fn56 (by omega) rfl]
  simp_arith [F56, ir56]
  refine Dr.bnd (dr_draw (by omega) (by decide)) fun v ⟨kd, hv, k0, k1⟩ => ?_
  subst hv
  by_cases h0 : kd = 0
  · simp_arith [h0]
    refine Dr.bnd (dr_numbers (by omega) (by omega)) fun v ⟨b, hv, hl0, hb⟩ => ?_
    subst hv
    exact Dr.ret ⟨b, rfl, hl0, fun q hq => (hb q hq).nbk hK⟩
  by_cases h1 : kd = 1
  · simp_arith [h1, show ((1 : Int) = 0) = False from by simp, rngV_lt (show n < 10000 by omega)]
    refine Dr.bnd (Dr.comp (dec := fr) (p := fun _ q => NbK K q) fun i hi => ?_) fun vs ⟨bs, hv, hl, hp⟩ => ?_
    · simp_arith [cmp1e_eq, fr_01, fr_11]
      refine Dr.noex ?_
      refine Dr.bnd (dr_draw (by omega) (by decide)) fun v ⟨r, hv, r0, r1⟩ => ?_
      subst hv
      obtain ⟨q, eq, hq⟩ := ends2 r0 r1
      simp_arith [eq]
      exact Dr.ret ⟨q, rfl, hq K (by omega)⟩
    · subst hv
      rw [List.length_range] at hl
      simp_arith [List.length_map, show bs.length < szl by show _ < 16777216; omega]
      refine Dr.ret ⟨bs, rfl, hl, fun q hq => ?_⟩
      obtain ⟨i, hi, rfl⟩ := List.getElem_of_mem hq
      exact hp i (by rw [List.length_range]; omega) hi
  by_cases h2 : kd = 2
  · simp_arith [h2, show ((2 : Int) = 0) = False from by simp, show ((2 : Int) = 1) = False from by simp]
    exact Dr.ret ⟨w, rfl, hl, hw⟩
  simp_arith [h0, h1, h2, ey]
  refine Dr.bnd (dr_number (by omega)) fun v ⟨o, hv, ho⟩ => ?_
  subst hv
  simp_arith [rngV_lt (show n < 10000 by omega)]
  refine Dr.bnd (Dr.forL (enc := fun (k : Nat) => EV.int (k : Int)) (I := fun i ρ => ∃ (bs : List Rat) (t1 t2 : Slot), ρ = [.sh (.ref 0), .sh (.int (n : Int)), .sh (encT t), .sh (.tup (w.map fr)), .sh (.int kd), .sh (fr y), .sh (fr o), .ow (.lst (bs.map fr)), t1, t2] ∧ bs.length = i ∧ ∀ q ∈ bs, NbK K q) (fun i hi ρ hI => ?_) ⟨[], _, _, rfl, rfl, fun q hq => nomatch hq⟩) fun x ⟨ρ', hx, hI⟩ => ?_
  · obtain ⟨bs, t1, t2, rfl, hbl, hb⟩ := hI
    rw [List.length_range] at hi
    rw [List.getElem_range]
    have ai := atI_frs (b := w) (i := i) (by omega)
    have app : ∀ x : EV, muOp .append (.lst (bs.map fr)) [x] = some (.lst (bs.map fr ++ [x])) := fun x => mu_app (by rw [List.length_map]; show _ < 16777216; omega)
    have fin1 : ∀ (q : Rat) (t3 : Slot), NbK K q → Dr (Py.ret ((.nx, [.sh (.ref 0), .sh (.int (n : Int)), .sh (encT t), .sh (.tup (w.map fr)), .sh (.int kd), .sh (fr y), .sh (fr o), .ow (.lst (bs.map fr ++ [fr q])), .sh (.int (i : Int)), t3]) : Fl × Env)) fun x => ∃ ρ', x = (.nx, ρ') ∧ ∃ (bs : List Rat) (t1 t2 : Slot), ρ' = [.sh (.ref 0), .sh (.int (n : Int)), .sh (encT t), .sh (.tup (w.map fr)), .sh (.int kd), .sh (fr y), .sh (fr o), .ow (.lst (bs.map fr)), t1, t2] ∧ bs.length = i + 1 ∧ ∀ q ∈ bs, NbK K q := fun q t3 hq =>
      Dr.ret ⟨_, rfl, bs ++ [q], _, _, by rw [List.map_append]; rfl, by simp [hbl], fun x hx => by
        rcases List.mem_append.mp hx with hx | hx
        · exact hb x hx
        · have : x = q := by simpa using hx
          rw [this]; exact hq⟩
    have step : ∀ q, NbK K q → Dr (if kd = 4 then Py.bnd (callD P (d - 1) 35 [.ref 0, .int 4]) fun a => Py.bnd (ofO (pyEq a (.int 0))) fun r => if r = true then Py.bnd (callD P (d - 1) 41 [.ref 0]) fun a => Py.ret ((.nx, [.sh (.ref 0), .sh (.int (n : Int)), .sh (encT t), .sh (.tup (w.map fr)), .sh (.int kd), .sh (fr y), .sh (fr o), .ow (.lst (bs.map fr ++ [a])), .sh (.int (i : Int)), .sh a]) : Fl × Env) else Py.ret (.nx, [.sh (.ref 0), .sh (.int (n : Int)), .sh (encT t), .sh (.tup (w.map fr)), .sh (.int kd), .sh (fr y), .sh (fr o), .ow (.lst (bs.map fr ++ [fr q])), .sh (.int (i : Int)), .sh (fr q)]) else Py.ret (.nx, [.sh (.ref 0), .sh (.int (n : Int)), .sh (encT t), .sh (.tup (w.map fr)), .sh (.int kd), .sh (fr y), .sh (fr o), .ow (.lst (bs.map fr ++ [fr q])), .sh (.int (i : Int)), .sh (fr q)])) fun x => ∃ ρ', x = (.nx, ρ') ∧ ∃ (bs : List Rat) (t1 t2 : Slot), ρ' = [.sh (.ref 0), .sh (.int (n : Int)), .sh (encT t), .sh (.tup (w.map fr)), .sh (.int kd), .sh (fr y), .sh (fr o), .ow (.lst (bs.map fr)), t1, t2] ∧ bs.length = i + 1 ∧ ∀ q ∈ bs, NbK K q := fun q hq => by
      refine Dr.ite (fun _ => ?_) fun _ => fin1 q _ hq
      refine Dr.bnd (dr_draw (by omega) (by decide)) fun v ⟨r, hv, r0, r1⟩ => ?_
      subst hv
      simp_arith []
      refine Dr.ite (fun _ => ?_) fun _ => fin1 q _ hq
      refine Dr.bnd (dr_number (by omega)) fun v ⟨p, hv, hp⟩ => ?_
      subst hv
      exact fin1 p _ (hp.nbk hK)
    by_cases c1 : y < w.getD i 0
    · have c2 : ¬ w.getD i 0 < y := by grind
      simp_arith [tgb_eq, ai, ls1, ls2, c1, c2, fr_11, fr_01, app]
      exact step 1 ⟨Nm.one, Bd.one (by omega)⟩
    · by_cases c2 : w.getD i 0 < y
      · simp_arith [tgb_eq, ai, ls1, ls2, c1, c2, fr_11, fr_01, app]
        exact step 0 ⟨Nm.zero, Bd.zero (by omega)⟩
      · simp_arith [tgb_eq, ai, ls1, ls2, c1, c2, fr_11, fr_01, app]
        exact step o (ho.nbk hK)
  · obtain ⟨bs, t1, t2, rfl, hbl, hb⟩ := hI
    rw [List.length_range] at hbl
    subst hx
    simp_arith [List.modify_succ_cons, List.modify_zero_cons]
    exact Dr.ret ⟨bs, rfl, hbl, hb⟩
end
end Py
end
section
/-! PyK38c: things that are shown. -/
namespace Py
open PySem (Str PyData)
open L2 (ixN atI)
/-- data that is shown in so little room -/
structure SH (w dp : Nat) (d : PyData) : Prop where
  show' : d.showable = true
  dp : d.depth ≤ dp
  lf : d.leavesShort 580 = true
  w : d.weight ≤ w
theorem SH.mono {w w' dp dp' : Nat} {d : PyData} (h : SH w dp d) (h1 : w ≤ w') (h2 : dp ≤ dp') : SH w' dp' d := ⟨h.show', Nat.le_trans h.dp h2, h.lf, Nat.le_trans h.w h1⟩
theorem sh_all {w dp : Nat} : ∀ {ds : List PyData}, (∀ d ∈ ds, SH w dp d) → PyData.showableAll ds = true ∧ PyData.depthAll ds ≤ dp ∧ PyData.leavesShortAll 580 ds = true ∧ PyData.weightAll ds ≤ ds.length * (w + 1)
  | [], _ => by
    refine ⟨by rw [PyData.showableAll], by rw [PyData.depthAll]; omega, by rw [PyData.leavesShortAll], by rw [PyData.weightAll]; omega⟩
  | d :: r, h => by
    obtain ⟨a, b, c, e⟩ := sh_all fun x hx => h x (List.mem_cons_of_mem _ hx)
    have q := h d List.mem_cons_self
    refine ⟨by rw [PyData.showableAll, q.show', a]; rfl, by rw [PyData.depthAll]; have := q.dp; omega, by rw [PyData.leavesShortAll, q.lf, c]; rfl, ?_⟩
    rw [PyData.weightAll, List.length_cons, Nat.succ_mul]
    have := q.w
    omega
theorem SH.tup {w dp : Nat} {ds : List PyData} (h : ∀ d ∈ ds, SH w dp d) : SH (ds.length * (w + 1)) (dp + 1) (.tuple ds) := by
  obtain ⟨a, b, c, e⟩ := sh_all h
  exact ⟨by rw [PyData.showable]; exact a, by rw [PyData.depth]; omega, by rw [PyData.leavesShort]; exact c, by rw [PyData.weight]; exact e⟩
theorem SH.lst {w dp : Nat} {ds : List PyData} (h : ∀ d ∈ ds, SH w dp d) : SH (ds.length * (w + 1)) (dp + 1) (.list ds) := by
  obtain ⟨a, b, c, e⟩ := sh_all h
  exact ⟨by rw [PyData.showable]; exact a, by rw [PyData.depth]; omega, by rw [PyData.leavesShort]; exact c, by rw [PyData.weight]; exact e⟩
theorem pow_1900 : (2 : Nat) ^ 1900 < 10 ^ 573 := by decide +kernel
theorem SH.int {i : Int} {n : Nat} (h : i.natAbs < 2 ^ n) (hn : n ≤ 1900) (h0 : 0 < n) : SH n 0 (.int i) := by
  have l : i.natAbs = 0 ∨ i.natAbs.log2 < n := by
    rcases Nat.eq_zero_or_pos i.natAbs with e | e
    · exact .inl e
    · exact .inr ((Nat.log2_lt (by omega)).mpr h)
  refine ⟨?_, by rw [PyData.depth]; omega, ?_, ?_⟩
  · rw [PyData.showable]
    refine decide_eq_true ?_
    rcases l with e | e
    · rw [e]; decide
    · omega
  · rw [PyData.leavesShort]
    refine decide_eq_true ?_
    have h2 : i.natAbs < 10 ^ 573 := Nat.lt_trans (Nat.lt_of_lt_of_le h (Nat.pow_le_pow_right (by omega) hn)) pow_1900
    have e := PySem.int_text_length_le10 (k := 573) (by decide) h2
    show (Str.ofString (toString i)).length ≤ 580
    rw [PySem.ofString_length]
    omega
  · rw [PyData.weight]
    split
    · omega
    · rcases l with e | e
      · rw [e]; have : Nat.log2 0 = 0 := by decide
        omega
      · omega
theorem SH.fr {K : Nat} {q : Rat} (h : Bd K q) (hK : K ≤ 1900) (h0 : 0 < K) : SH (2 * (K + 1)) 1 (.tuple [.int q.num, .int q.den]) :=
  SH.tup (ds := [.int q.num, .int q.den]) fun d hd => by
    simp only [List.mem_cons, List.not_mem_nil, or_false] at hd
    rcases hd with rfl | rfl
    · exact SH.int h.1 hK h0
    · exact SH.int (i := (q.den : Int)) (by simpa using h.2) hK h0
theorem bi_repr {v : EV} {d : PyData} {w dp : Nat} (h : reprD v = some d) (s : SH w dp d) (hd : dp ≤ 60) (hw : w ≤ 28000) : bi .repr [v] = some (.str d.shown) := by
  show (match reprD v with
    | some d => if d.showable = true ∧ d.depth ≤ 60 ∧ d.shown.length ≤ 16777216 then some (EV.str d.shown) else none
    | none => none) = _
  rw [h]
  simp only []
  have := PyData.shown_le 580 (by decide) d s.lf
  have hm : (580 + 2) * d.weight ≤ (580 + 2) * 28000 := Nat.mul_le_mul_left _ (Nat.le_trans s.w hw)
  rw [if_pos ⟨s.show', Nat.le_trans s.dp hd, by omega⟩]
/-- as data, that is shown in so little room -/
def Shn (w dp : Nat) (v : EV) : Prop := ∃ d, toD v = some d ∧ SH w dp d
theorem toDs_of {w dp : Nat} : ∀ {l : List EV}, (∀ v ∈ l, Shn w dp v) → ∃ ds, toDs l = some ds ∧ ds.length = l.length ∧ ∀ d ∈ ds, SH w dp d
  | [], _ => ⟨[], by unfold toDs; rfl, rfl, fun d hd => nomatch hd⟩
  | v :: r, h => by
    obtain ⟨d, e, s⟩ := h v List.mem_cons_self
    obtain ⟨ds, e2, l2, s2⟩ := toDs_of fun x hx => h x (List.mem_cons_of_mem _ hx)
    refine ⟨d :: ds, by unfold toDs; rw [e, e2], by simp [l2], fun x hx => ?_⟩
    rcases List.mem_cons.mp hx with rfl | hx
    · exact s
    · exact s2 x hx
theorem Shn.tup {w dp : Nat} {l : List EV} (h : ∀ v ∈ l, Shn w dp v) : Shn (l.length * (w + 1)) (dp + 1) (.tup l) := by
  obtain ⟨ds, e, hl, s⟩ := toDs_of h
  refine ⟨.tuple ds, by unfold toD; rw [e], ?_⟩
  rw [← hl]
  exact SH.tup s
theorem Shn.lst {w dp : Nat} {l : List EV} (h : ∀ v ∈ l, Shn w dp v) : Shn (l.length * (w + 1)) (dp + 1) (.lst l) := by
  obtain ⟨ds, e, hl, s⟩ := toDs_of h
  refine ⟨.list ds, by unfold toD; rw [e], ?_⟩
  rw [← hl]
  exact SH.lst s
theorem Shn.fr {K : Nat} {q : Rat} (h : Bd K q) (hK : K ≤ 1900) (h0 : 0 < K) : Shn (2 * (K + 1)) 1 (fr q) := ⟨_, rfl, SH.fr h hK h0⟩
theorem Shn.repr {w dp : Nat} {v : EV} (h : Shn w dp v) (hd : dp ≤ 60) (hw : w ≤ 28000) : ∃ s, bi .repr [v] = some (.str s) := by
  obtain ⟨d, e, s⟩ := h
  refine ⟨_, bi_repr (d := d) ?_ s hd hw⟩
  unfold reprD
  split
  · unfold toD at e; cases e
  · exact e
/-- a look shows it -/
def okB (n w dp : Nat) (v : EV) : Bool := dat n v && (match reprD v with
  | some d => d.showable && decide (d.depth ≤ dp) && d.leavesShort 580 && decide (d.weight ≤ w)
  | none => false)
theorem okB_dat {n w dp : Nat} {v : EV} (h : okB n w dp v = true) : dat n v = true := by
  unfold okB at h
  rw [Bool.and_eq_true] at h
  exact h.1
theorem okB_repr {n w dp : Nat} {v : EV} (h : okB n w dp v = true) (hd : dp ≤ 60) (hw : w ≤ 28000) : ∃ s, bi .repr [v] = some (.str s) := by
  unfold okB at h
  rw [Bool.and_eq_true] at h
  obtain ⟨_, h⟩ := h
  split at h
  · rename_i d e
    simp only [Bool.and_eq_true, decide_eq_true_eq] at h
    exact ⟨_, bi_repr e ⟨h.1.1.1, h.1.1.2, h.1.2, h.2⟩ hd hw⟩
  · cases h
theorem okB_shn {n w dp : Nat} {v : EV} (h : okB n w dp v = true) (hv : ∀ a b, v ≠ .dic a b) : Shn w dp v := by
  unfold okB at h
  rw [Bool.and_eq_true] at h
  obtain ⟨_, h⟩ := h
  split at h
  · rename_i d e
    simp only [Bool.and_eq_true, decide_eq_true_eq] at h
    refine ⟨d, ?_, h.1.1.1, h.1.1.2, h.1.2, h.2⟩
    unfold reprD at e
    split at e
    · exact absurd rfl (hv _ _)
    · exact e
  · cases h
end Py
end
section
/-! PyK38d: spoiled things, the law. -/
namespace Py
open PySem (Str PyData)
open L2 (ixN atI)
def oddA : List EV := [.non, .bl true, .bl false, .int 0, .int 1, .int (-1), .int (10 ^ (30 : Int).toNat), .str "", .str "a", .str "0", .tup [], .lst [], .dic [] [], .tup [.int 0, .int 1], .tup [.int 1, .int 1], .tup [.tup [.int 0, .int 1]], .lst [.tup [.int 0, .int 1]]]
def oddB : List EV := [.tup [.int 2, .int 1], .tup [.int 1, .int 2], .tup [.tup [.int 2, .int 4]], .tup [.tup [.bl true, .int 1]], .tup [.tup [.int 0, .int 1], .tup [.int 1, .int 1]], .tup [.tup [.int 1, .int 0]], .tup [.non], .tup [.str "0"], .tup [.tup [.int 0]]]
def oddC : List EV := [.non, .bl true, .int 0, .str "0", .tup [.int 2, .int 4], .tup [.int 3, .int 2], .tup [.int (-1), .int 2], .tup [.int 0, .int 2], .tup [.int 1, .int 0], .lst [.int 0, .int 1], .tup [.bl true, .int 1], .tup [.int 0, .bl true], .tup [.int 0, .int 1, .int 1], .tup []]
/-- few things in it -/
def fewB : EV → Bool
  | .tup l => decide (l.length < 10000)
  | _ => true
theorem oddA_ok : (oddA.all fun v => okB 1344 2690 5 v && fewB v) = true := by decide +kernel
theorem oddB_ok : (oddB.all fun v => okB 1344 2690 5 v && fewB v) = true := by decide +kernel
def noDic : EV → Bool
  | .dic _ _ => false
  | _ => true
theorem oddC_ok : (oddC.all fun v => okB 1344 2690 1 v && noDic v) = true := by decide +kernel
/-- a thing to be judged -/
structure Thg (v : EV) : Prop where
  dat : dat 1344 v = true
  few : ∀ l, v = .tup l → l.length < 10000
  rep : ∃ s, bi .repr [v] = some (.str s)
theorem Thg.okB {v : EV} (h : (okB 1344 2690 5 v && fewB v) = true) : Thg v := by
  rw [Bool.and_eq_true] at h
  refine ⟨okB_dat h.1, fun l e => ?_, okB_repr h.1 (by decide) (by decide)⟩
  subst e
  exact of_decide_eq_true h.2
/-- a part of a spoiled tuple -/
def Prt (v : EV) : Prop := dat 1344 v = true ∧ Shn 2690 1 v
theorem Prt.fr {q : Rat} (h : NbK 1344 q) : Prt (fr q) := ⟨dat_fr h.2, Shn.fr h.2 (by decide) (by decide)⟩
theorem Prt.odd {v : EV} (h : v ∈ oddC) : Prt v := by
  have := List.all_eq_true.mp oddC_ok v h
  rw [Bool.and_eq_true] at this
  refine ⟨okB_dat this.1, okB_shn this.1 fun a b e => ?_⟩
  subst e
  exact Bool.false_ne_true this.2
theorem Thg.tup {l : List EV} (h : ∀ v ∈ l, Prt v) (hl : l.length ≤ 7) : Thg (.tup l) := by
  refine ⟨by unfold Py.dat; exact datL_of fun v hv => (h v hv).1, fun l' e => by cases e; omega, ?_⟩
  refine (Shn.tup fun v hv => (h v hv).2).repr (by decide) ?_
  have := Nat.mul_le_mul_right (2690 + 1) hl
  omega
theorem Thg.lst {l : List EV} (h : ∀ v ∈ l, Prt v) (hl : l.length ≤ 7) : Thg (.lst l) := by
  refine ⟨by unfold Py.dat; exact datL_of fun v hv => (h v hv).1, (fun l' e => nomatch e), ?_⟩
  refine (Shn.lst fun v hv => (h v hv).2).repr (by decide) ?_
  have := Nat.mul_le_mul_right (2690 + 1) hl
  omega
theorem Prt.frs {b : List Rat} (h : ∀ q ∈ b, NbK 1344 q) : ∀ v ∈ b.map Py.fr, Prt v := fun v hv => by
  obtain ⟨q, hq, rfl⟩ := List.mem_map.mp hv
  exact Prt.fr (h q hq)
theorem pow40 : (10 : Int) ^ (40 : Int).toNat = 10000000000000000000000000000000000000000 := by decide +kernel
local macro_rules | `(tactic| simp_arith [$ts,*]) => `(tactic| simp only [evSs_nil, evSs_cons, nxt_nx, nxt_rt, nxt_bk, nxt_ct, fin_nx, fin_rt, evS_whl, evS_fr (itOwn_seq _), evS_fr (itOwn_rng1 _), evS_fr (itOwn_rng2 _ _), evS_fr (itOwn_enum _), evS_fr (itOwn_zip _ _), evE_comp, evS_mut, evS_own, ownV_lst, mutV_ow, mutV_ref, evS_aug, augV_sub, augV_add, evS_ifs, evS.eq_1, evS.eq_2, evS.eq_4, evS.eq_6, evS.eq_8, evS.eq_9, evS.eq_13, evS.eq_14, evS.eq_15, evS.eq_16, evS.eq_17, evE_neg, negV_int, evO_no, evO_so, intO_int, evAnd_one, evAnd_cons, andK_bl, evOr_one, evOr_cons, orK_bl, evI_rng1, evI_rng2, evE.eq_1, evE.eq_2, evE.eq_3, evE.eq_4, evE.eq_5, evE.eq_6, evE.eq_7, evE.eq_9, evE.eq_10, evE.eq_11, evE.eq_12, evE.eq_13, evE.eq_14, evE.eq_15, evE.eq_16, evE.eq_17, evE.eq_18, evE.eq_19, evE.eq_20, evE.eq_21, evE.eq_22, evE.eq_23, evE.eq_24, evE.eq_26, evEs, evT, evAll, evAny, evI.eq_1, evI.eq_4, evI.eq_5, evI.eq_6, ret_bnd', bad_bnd, bnd_bnd, ite_ret, ofO_some, ofO_none, getE0, getE1, getE2, getE3, getE4, getE5, getE6, getE7, getE8, getE9, getE10, getE11, getE12, getE13, getB0, getB0', getB1, getB2, getB3, getB4, getB5, getB6, getB7, gt1, gt2, gt3, gt4, gt5, gt6, gt7, st1, st2, st3, st4, st5, st6, st7, st8, st9, st10, st11, st12, List.getElem?_cons_zero, List.set_cons_zero, frzK_nil, frzK_cons, wipeE_nil, wipeE_cons, frz1_ow, frz1_sh, frz1_un, asgT_nm, asgT_2, bop_add, bop_sub, cm_lt, cm_le, cm_gt, cm_ge, cm_eq, cm_ne, cm_is, cm_isnot, isNon_non, isNon_int, isNon_lst, isNon_tup, pyEq_int, it_tup, it_lst, sl_tup, sl_lst, sl_scr, tr_bl, ty_int, ty_intb, ty_intt, ty_ints, ty_bl, ty_blb, ty_blt, ty_tup, ty_tupi, ty_tups, ty_str, ty_strt, ty_stri, bi_lenT, bi_lenL, bi_int, bi_abs, bi_tupL, bi_tupT, bi_lstL, bi_lstT, bi_all, bi_any, bi_sum, sq_lst, sq_tup, atI0, atI1, atI2, atI3, atI_neg1, List.map_cons, List.map_nil, List.length_cons, List.length_nil, Nat.reduceAdd, Nat.reduceSub, Nat.reduceLT, wht_nx, Nat.zero_add, List.replicate_succ, List.replicate_zero, List.append_nil, List.cons_append, List.nil_append, if_true, if_false, Bool.false_eq_true, Bool.not_true, Bool.not_false, Option.map_some, Option.map_none, decide_true, decide_false, ite_self, ne_eq, not_true_eq_false, not_false_eq_true, decide_eq_true_eq, Nat.lt_irrefl, Nat.succ_pos, Nat.zero_lt_succ, noex_ret, $ts,*])
section
variable {P : Prog} [B_k38 P] [BW P] [BR P]
theorem dr_odd {d : Nat} (hd : 2 ≤ d) : Dr (callD P d 57 [.ref 0]) Thg := by
  rw [callF fn57 (by omega) rfl]
  simp_arith [F57, ir57, bop_pow (show 0 ≤ (30 : Int) ∧ (30 : Int) ≤ 1000000 ∧ (10 : Int).natAbs < 2 ^ 64 by decide)]
  have ea : binop .add (.lst oddA) (.lst oddB) = some (.lst (oddA ++ oddB)) := bop_addL (by decide)
  unfold oddA oddB at ea
  simp_arith [ea]
  refine Dr.bnd (dr_draw (by omega) (by decide)) fun v ⟨r, hv, r0, r1⟩ => ?_
  subst hv
  obtain ⟨x, ex, hx⟩ := atI_any (l := oddA ++ oddB) (r := r) r0 r1
  unfold oddA oddB at ex
  simp only [List.cons_append, List.nil_append] at ex
  simp_arith [ex]
  refine Dr.ret ?_
  rcases List.mem_append.mp hx with hx | hx
  · exact Thg.okB (List.all_eq_true.mp oddA_ok x hx)
  · exact Thg.okB (List.all_eq_true.mp oddB_ok x hx)
theorem dr_spoiled {n : Nat} (hn : 1 ≤ n ∧ n ≤ 6) {b : List Rat} (hl : b.length = n) (hb : ∀ q ∈ b, NbK 1344 q) {d : Nat} (hd : 3 ≤ d) : Dr (callD P d 58 [.ref 0, .tup (b.map fr)]) Thg := by
  rw [callF fn58 (by omega) rfl]
  simp_arith [F58, ir58, List.length_map]
  refine Dr.bnd (dr_draw (by omega) (by omega)) fun v ⟨r, hv, r0, r1⟩ => ?_
  subst hv
  obtain ⟨k, rfl⟩ := Int.eq_ofNat_of_zero_le r0
  refine Dr.bnd (dr_draw (by omega) (by decide)) fun v ⟨kd, hv, k0, k1⟩ => ?_
  subst hv
  have ek : (k : Int) + 1 = ((k + 1 : Nat) : Int) := by omega
  have lt : ((b.map fr).take k).length = k := by rw [List.length_take, List.length_map]; omega
  have ld : ((b.map fr).drop (k + 1)).length = n - (k + 1) := by rw [List.length_drop, List.length_map, hl]
  have mt : ∀ v ∈ (b.map fr).take k, Prt v := fun v hv => Prt.frs hb v (List.mem_of_mem_take hv)
  have md : ∀ v ∈ (b.map fr).drop (k + 1), Prt v := fun v hv => Prt.frs hb v (List.mem_of_mem_drop hv)
  by_cases h0 : kd = 0
  · simp_arith [h0]
    exact Dr.ret (Thg.lst (Prt.frs hb) (by rw [List.length_map]; omega))
  by_cases h1 : kd = 1
  · simp_arith [h1, show ((1 : Int) = 0) = False from by simp, ek, cut_take, cut_drop, bop_addT (show ((b.map fr).take k).length + ((b.map fr).drop (k + 1)).length ≤ szl by rw [lt, ld]; show _ ≤ 16777216; omega)]
    refine Dr.ret (Thg.tup (fun v hv => ?_) (by rw [List.length_append, lt, ld]; omega))
    rcases List.mem_append.mp hv with hv | hv
    · exact mt v hv
    · exact md v hv
  by_cases h2 : kd = 2
  · simp_arith [h2, show ((2 : Int) = 0) = False from by simp, show ((2 : Int) = 1) = False from by simp, fr_01, bop_addT (show (b.map fr).length + [fr 0].length ≤ szl by rw [List.length_map, hl]; show _ ≤ 16777216; simp; omega)]
    refine Dr.ret (Thg.tup (fun v hv => ?_) (by rw [List.length_append, List.length_map, hl]; simp; omega))
    rcases List.mem_append.mp hv with hv | hv
    · exact Prt.frs hb v hv
    · have : v = fr 0 := by simpa using hv
      rw [this]
      exact Prt.fr ⟨Nm.zero, Bd.zero (by decide)⟩
  by_cases h3 : kd = 3
  · simp_arith [h3, show ((3 : Int) = 0) = False from by simp, show ((3 : Int) = 1) = False from by simp, show ((3 : Int) = 2) = False from by simp]
    exact Dr.bnd (dr_odd (d := d - 1) (by omega)) fun v hv => Dr.ret hv
  · simp_arith [h0, h1, h2, h3, ek, cut_take, cut_drop]
    refine Dr.bnd (dr_draw (by omega) (by decide)) fun v ⟨r, hv, r0, r1⟩ => ?_
    subst hv
    obtain ⟨x, ex, hx⟩ := atI_any (l := oddC) (r := r) r0 r1
    unfold oddC at ex
    have l1 : ((b.map fr).take k ++ [x]).length = k + 1 := by rw [List.length_append, lt]; rfl
    simp_arith [ex, bop_addT (show ((b.map fr).take k).length + [x].length ≤ szl by rw [lt]; show _ ≤ 16777216; simp; omega), bop_addT (show ((b.map fr).take k ++ [x]).length + ((b.map fr).drop (k + 1)).length ≤ szl by rw [l1, ld]; show _ ≤ 16777216; omega)]
    refine Dr.ret (Thg.tup (l := (b.map fr).take k ++ [x] ++ (b.map fr).drop (k + 1)) (fun v hv => ?_) (by rw [List.length_append, l1, ld]; omega))
    rcases List.mem_append.mp hv with hv | hv
    · rcases List.mem_append.mp hv with hv | hv
      · exact mt v hv
      · have : v = x := by simpa using hv
        rw [this]
        exact Prt.odd hx
    · exact md v hv
theorem dr_fine {n : Nat} (hn : 1 ≤ n ∧ n ≤ 6) {b : List Rat} (hl : b.length = n) (hb : ∀ q ∈ b, NbK 1344 q) {d : Nat} (hd : 3 ≤ d) : Dr (callD P d 61 [.ref 0, .tup (b.map fr)]) fun v => ∃ b : List Rat, v = .tup (b.map fr) ∧ b.length = n ∧ ∀ q ∈ b, NbK 1344 q := by
  rw [callF fn61 (by omega) rfl]
  simp_arith [F61, ir61]
  refine Dr.bnd (dr_draw (by omega) (by decide)) fun v ⟨r, hv, r0, r1⟩ => ?_
  subst hv
  simp_arith []
  refine Dr.ite (fun _ => Dr.ret ⟨b, rfl, hl, hb⟩) fun _ => ?_
  simp_arith [List.length_map]
  refine Dr.bnd (dr_draw (by omega) (by omega)) fun v ⟨r, hv, r0, r1⟩ => ?_
  subst hv
  obtain ⟨k, rfl⟩ := Int.eq_ofNat_of_zero_le r0
  simp_arith [bop_pow (show 0 ≤ (40 : Int) ∧ (40 : Int) ≤ 1000000 ∧ (10 : Int).natAbs < 2 ^ 64 by decide), pow40]
  refine Dr.bnd (dr_draw (by omega) (by decide)) fun v ⟨t, hv, t0, t1⟩ => ?_
  subst hv
  have e := ev_lowest (P := P) (d := d - 1) (by omega) t 10000000000000000000000000000000000000001 (by decide) (n := 133) (by decide +kernel) (by decide)
  have nk : NbK 1344 (Rat.divInt t 10000000000000000000000000000000000000001) := ⟨divInt_nm t0 (by omega) (by decide), (divInt_bd (n := 133) (by decide) (by
    have h2 : (10000000000000000000000000000000000000001 : Nat) < 2 ^ 133 := by decide +kernel
    omega) (by decide +kernel)).mono (by decide)⟩
  have el : EV.tup [EV.int (k : Int)] = lotV [k] := rfl
  simp_arith [show (10000000000000000000000000000000000000000 : Int) + 1 = 10000000000000000000000000000000000000001 from by decide, e, el, lw_put (show 1 ≤ d - 1 by omega) (show b.length < 10000 by omega)]
  refine Dr.ret ⟨_, rfl, by rw [putL_len, hl], fun q hq => ?_⟩
  unfold putL at hq
  obtain ⟨i, hi, rfl⟩ := List.mem_map.mp hq
  rw [List.mem_range] at hi
  split
  · exact nk
  · exact hb _ (getD_mem hi)
end
end Py
end
section
/-! PyK38: the law. -/
namespace Py
open PySem (Str PyData)
open L2 (ixN atI)
local macro_rules | `(tactic| simp_arith [$ts,*]) => `(tactic| simp only [evSs_nil, evSs_cons, nxt_nx, nxt_rt, nxt_bk, nxt_ct, fin_nx, fin_rt, evS_whl, evS_fr (itOwn_seq _), evS_fr (itOwn_rng1 _), evS_fr (itOwn_rng2 _ _), evS_fr (itOwn_enum _), evS_fr (itOwn_zip _ _), evE_comp, evS_mut, evS_own, ownV_lst, mutV_ow, mutV_ref, evS_aug, augV_sub, augV_add, evS_ifs, evS.eq_1, evS.eq_2, evS.eq_4, evS.eq_6, evS.eq_8, evS.eq_9, evS.eq_13, evS.eq_14, evS.eq_15, evS.eq_16, evS.eq_17, evE_neg, negV_int, evO_no, evO_so, intO_int, evAnd_one, evAnd_cons, andK_bl, evOr_one, evOr_cons, orK_bl, evI_rng1, evI_rng2, evE.eq_1, evE.eq_2, evE.eq_3, evE.eq_4, evE.eq_5, evE.eq_6, evE.eq_7, evE.eq_9, evE.eq_10, evE.eq_11, evE.eq_12, evE.eq_13, evE.eq_14, evE.eq_15, evE.eq_16, evE.eq_17, evE.eq_18, evE.eq_19, evE.eq_20, evE.eq_21, evE.eq_22, evE.eq_23, evE.eq_24, evE.eq_26, evEs, evT, evAll, evAny, evI.eq_1, evI.eq_4, evI.eq_5, evI.eq_6, ret_bnd', bad_bnd, bnd_bnd, ite_ret, ofO_some, ofO_none, getE0, getE1, getE2, getE3, getE4, getE5, getE6, getE7, getE8, getE9, getE10, getE11, getE12, getE13, getB0, getB0', getB1, getB2, getB3, getB4, getB5, getB6, getB7, gt1, gt2, gt3, gt4, gt5, gt6, gt7, st1, st2, st3, st4, st5, st6, st7, st8, st9, st10, st11, st12, List.getElem?_cons_zero, List.set_cons_zero, frzK_nil, frzK_cons, wipeE_nil, wipeE_cons, frz1_ow, frz1_sh, frz1_un, asgT_nm, asgT_2, bop_add, bop_sub, cm_lt, cm_le, cm_gt, cm_ge, cm_eq, cm_ne, cm_is, cm_isnot, isNon_non, isNon_int, isNon_lst, isNon_tup, pyEq_int, it_tup, it_lst, sl_tup, sl_lst, sl_scr, tr_bl, ty_int, ty_intb, ty_intt, ty_ints, ty_bl, ty_blb, ty_blt, ty_tup, ty_tupi, ty_tups, ty_str, ty_strt, ty_stri, bi_lenT, bi_lenL, bi_int, bi_abs, bi_tupL, bi_tupT, bi_lstL, bi_lstT, bi_all, bi_any, bi_sum, sq_lst, sq_tup, atI0, atI1, atI2, atI3, atI_neg1, List.map_cons, List.map_nil, List.length_cons, List.length_nil, Nat.reduceAdd, Nat.reduceSub, Nat.reduceLT, wht_nx, Nat.zero_add, List.replicate_succ, List.replicate_zero, List.append_nil, List.cons_append, List.nil_append, if_true, if_false, Bool.false_eq_true, Bool.not_true, Bool.not_false, Option.map_some, Option.map_none, decide_true, decide_false, ite_self, ne_eq, not_true_eq_false, not_false_eq_true, decide_eq_true_eq, Nat.lt_irrefl, Nat.succ_pos, Nat.zero_lt_succ, noex_ret, $ts,*])
section
variable {P : Prog} [B_k38 P] [BW P] [BR P]
theorem lw_dice {d : Nat} (hd : 1 ≤ d) (ns : List Int) (hl : ns.length ≤ 63) : ∃ D, callD P d 34 [.scr ns] [] = .ok (.ref 0) [.lst D] ∧ Dc D := by
  rw [callF fn34 (by omega) rfl]
  refine ⟨[.lst ((ns.map fun z => (z.natAbs : Int)).map EV.int), .int 0, .int 0, .int 1, .int 0], ?_, _, 0, 0, 1, 0, rfl, by decide⟩
  simp_arith [F34, ir34]
  rw [show (63 : Int) = ((63 : Nat) : Int) from rfl, cut_take, List.take_of_length_le hl]
  have e : compL (fun v => noex (cmp1e P.tab (callD P (d - 1)) (callD P (d - 2)) [.sh (.scr ns), .un] (.nm 1) [] (.bi .abs [.bi .int [.var 1]]) v)) (ns.map EV.int) = ret (ns.map fun z => EV.int (z.natAbs : Int)) := compL_map EV.int (fun z => EV.int (z.natAbs : Int)) ns fun z hz => by
    simp_arith [cmp1e_eq]
  rw [e]
  simp_arith [List.length_map, show ns.length < szl by show _ < 16777216; omega]
  show Res.ok (EV.ref 0) _ = _
  rw [List.map_map]
  rfl
theorem law_k38 (ns : List Int) (hl : ns.length ≤ 63) : ∃ st', callD P 100 62 [.scr ns] [] = .ok (.bl true) st' := by
  obtain ⟨D, e34, hD⟩ := lw_dice (P := P) (d := 99) (by decide) ns hl
  rw [callF fn62 (by decide) rfl]
  simp_arith [F62, ir62]
  rw [bnd_at e34]
  simp_arith [rngV_lt (n := 3) (by decide), show (3 : Int) = ((3 : Nat) : Int) from rfl]
  suffices dr : Dr _ (fun v => v = EV.bl true) by
    obtain ⟨v, D', e, _, hv⟩ := dr D [] hD
    subst hv
    exact ⟨_, e⟩
  refine Dr.bnd (Dr.forL (enc := fun (k : Nat) => EV.int (k : Int)) (I := fun i ρ => ∃ t2 t3 t4 t5 t6 t7 t8 t9 t10 t11 : Slot, ρ = [.sh (.scr ns), .sh (.ref 0), t2, t3, t4, t5, t6, t7, t8, t9, t10, t11]) (fun i hi ρ hI => ?_) ⟨_, _, _, _, _, _, _, _, _, _, rfl⟩) fun x ⟨ρ', hx, hI⟩ => ?_
  case refine_2 =>
    obtain ⟨t2, t3, t4, t5, t6, t7, t8, t9, t10, t11, rfl⟩ := hI
    subst hx
    simp_arith []
    exact Dr.ret rfl
  obtain ⟨t2, t3, t4, t5, t6, t7, t8, t9, t10, t11, rfl⟩ := hI
  rw [List.getElem_range]
  simp_arith [tgb_eq]
  refine Dr.bnd (dr_rule_parts (m := 6) (by decide) (by decide) (d := 99) (by decide)) fun v ⟨n, t, hv, n1, n6, ht⟩ => ?_
  subst hv
  have hsz : szT t ≤ 48 := by have := ht.sz; omega
  have h28 : 28 * szT t ≤ 1344 := by have := Nat.mul_le_mul_left 28 hsz; omega
  have h1352 : 1352 * szT t ≤ 40000000 := by have := Nat.mul_le_mul_left 1352 hsz; omega
  have T : TC n 20 28 t := ⟨ht.wt, by decide, by decide, by omega, by have := ht.dp; omega⟩
  have T2 : TC n 20 1352 t := ⟨ht.wt, by decide, by decide, h1352, by have := ht.dp; omega⟩
  have em : mkM P.tab (callD P 98) 3 [.int (n : Int), encT t] = ret (ruleV n t) := ev_mk (φ := 20) (by decide) ht.wt ⟨n1, n6⟩ (by omega) (by have := ht.dp; omega) (by decide)
  simp_arith [em]
  refine Dr.bnd (dr_wishes (K := 1344) T ⟨n1, n6⟩ (by decide) h28 (d := 99) (by decide)) fun v ⟨w, hv, hwl, hw⟩ => ?_
  subst hv
  have W : NB n 1344 w := NB.of hwl hw
  simp_arith [rngV_lt (n := 3) (by decide)]
  refine Dr.bnd (Dr.forL (enc := fun (k : Nat) => EV.int (k : Int)) (I := fun i ρ => ∃ t2 t5 t8 t9 t10 t11 : Slot, ρ = [.sh (.scr ns), .sh (.ref 0), t2, .sh (ruleV n t), .sh (.tup (w.map fr)), t5, .sh (.int (n : Int)), .sh (encT t), t8, t9, t10, t11]) (fun i hi ρ hI => ?_) ⟨_, _, _, _, _, _, rfl⟩) fun x ⟨ρ', hx, hI⟩ => ?_
  case refine_2 =>
    obtain ⟨t2, t5, t8, t9, t10, t11, rfl⟩ := hI
    subst hx
    simp_arith []
    exact Dr.ret ⟨_, rfl, _, _, _, _, _, _, _, _, _, _, rfl⟩
  obtain ⟨t2, t5, t8, t9, t10, t11, rfl⟩ := hI
  rw [List.getElem_range]
  simp_arith [tgb_eq]
  refine Dr.bnd (dr_some_bids T ⟨n1, n6⟩ (by decide) h28 (by decide) hwl hw (d := 99) (by decide)) fun v ⟨b0, hv, hbl, hb⟩ => ?_
  subst hv
  refine Dr.bnd (dr_fine ⟨n1, n6⟩ hbl hb (d := 99) (by decide)) fun v ⟨b, hv, hbl, hb⟩ => ?_
  subst hv
  have B : NB n 1344 b := NB.of hbl hb
  have r1 := (ev_is_rest (P := P) T2 W (β := 1344) (by decide) (by decide) (by decide) (γ := 1344) (by decide) (by omega) (dat_nums B) (fun l hl => by rw [tup_len hl, B.len]; omega) (d := 99) (by decide)).2 b rfl B
  have r2 := lw_moving (P := P) T2 B W (by decide) (by decide) (by decide) (by omega) (d := 99) (by decide)
  simp_arith [r1, r2, pyEq_lots, lw_flag (P := P) (d := 99) (by decide)]
  refine Dr.bnd (dr_spoiled ⟨n1, n6⟩ hbl hb (d := 99) (by decide)) fun v hv => ?_
  obtain ⟨s, es⟩ := hv.rep
  have a1 := lw_are_numbers (P := P) (d := 99) (by decide) (n := 1344) (by decide) hv.dat hv.few n
  have rr := ev_is_rest (P := P) T2 W (β := 1344) (by decide) (by decide) (by decide) (γ := 1344) (by decide) (by omega) hv.dat hv.few (d := 99) (by decide)
  cases e : numsB n v with
  | false =>
    simp_arith [es, a1, e, rr.1 e, lw_flag (P := P) (d := 99) (by decide), pyEq_str]
    exact Dr.ret ⟨_, rfl, _, _, _, _, _, _, rfl⟩
  | true =>
    obtain ⟨b', rfl, l', m'⟩ := numsB_ok e
    have B' : NB n 1344 b' := ⟨l', m', fun q hq => by
      have h := hv.dat
      unfold dat at h
      exact bd_of_dat (datL_mem h (fr q) (List.mem_map_of_mem hq))⟩
    have r3 := lw_moving (P := P) T2 B' W (by decide) (by decide) (by decide) (by omega) (d := 99) (by decide)
    simp_arith [es, a1, e, r3, rr.2 b' rfl B', pyEq_lots, lw_flag (P := P) (d := 99) (by decide), pyEq_str]
    exact Dr.ret ⟨_, rfl, _, _, _, _, _, _, rfl⟩
end
end Py
end
section
set_option maxHeartbeats 0
namespace Lk38
open Py PySem PySem.Spec PyProof.Rows L2
def top (i : Nat) : Stmt := PySem.Challenge.pw_cornerbids_k38_whole_rests_by_own_asks.main.body.getD i (.Pass ⟨0, 0, 0, 0⟩)
def glo0 : List (PySem.Str × Gn) := [("is_integer", .fn 0), ("divisor", .fn 1), ("made", .fn 2), ("plus", .fn 3), ("times", .fn 4), ("is_less", .fn 5), ("least_of", .fn 6), ("greatest_of", .fn 7), ("ascending", .fn 8), ("middle", .fn 9), ("is_fraction", .fn 10), ("mean_of", .fn 11), ("ranked_of", .fn 12), ("value_of", .fn 13), ("is_within", .fn 15), ("is_number", .fn 16), ("are_numbers", .fn 17), ("check_wishes", .fn 18), ("wishing_more", .fn 19), ("wishing_less", .fn 20)]
def glo1 : List (PySem.Str × Gn) := [("with_lot", .fn 21), ("pushed_up", .fn 22), ("pushed_down", .fn 23), ("lots_that_move", .fn 24), ("is_rest", .fn 25), ("are_parts", .fn 26), ("is_weighted", .fn 27), ("is_bound", .fn 28), ("parts_told", .fn 29), ("is_leaf", .fn 30), ("terms_told", .fn 31), ("_law_dice", .fn 34), ("_law_draw", .fn 35), ("_law_lowest", .fn 36), ("_law_sum", .fn 37), ("_law_product", .fn 38), ("_law_less", .fn 39), ("_law_sorted", .fn 40), ("_law_number", .fn 41), ("_law_numbers", .fn 42)]
def glo2 : List (PySem.Str × Gn) := [("_law_term", .fn 43), ("_law_rule_parts", .fn 44), ("_law_value", .fn 45), ("_law_lots", .fn 46), ("_law_by_size", .fn 47), ("_law_at_ends", .fn 48), ("_law_corner", .fn 49), ("_law_wishing_more", .fn 50), ("_law_outcome", .fn 51), ("_law_flag", .fn 52), ("_law_wishes", .fn 53), ("_law_put", .fn 54), ("_law_moving", .fn 55), ("_law_some_bids", .fn 56), ("_law_odd", .fn 57), ("_law_spoiled", .fn 58), ("_law_is_number", .fn 59), ("_law_are_numbers", .fn 60), ("_law_fine", .fn 61), ("law", .fn 62)]
def glo3 : List (PySem.Str × Gn) := [("Rule", .cls 3), ("ZERO", .val (.tup [.int 0, .int 1])), ("ONE", .val (.tup [.int 1, .int 1])), ("MOST_PEOPLE", .val (.int 6)), ("MOST_DEEP", .val (.int 8)), ("MOST_TERMS", .val (.int 60)), ("MOST_PARTS", .val (.int 8)), ("MOST_WEIGHT", .val (.int 99)), ("abs", .bi .abs), ("all", .bi .all), ("enumerate", .enum), ("int", .bi .int), ("isinstance", .isi), ("len", .bi .len), ("list", .bi .list), ("range", .rng), ("repr", .bi .repr), ("sorted", .bi .sorted), ("sum", .bi .sum), ("tuple", .bi .tuple)]
def glo4 : List (PySem.Str × Gn) := [("zip", .zip)]
def cT0 : CT := ⟨glo0 ++ glo1 ++ glo2 ++ glo3 ++ glo4, [("bool", .bool), ("int", .int), ("str", .str), ("tuple", .tuple)], (["part", "people", "term"] : List PySem.Str).zipIdx⟩
def di0 : DI := ⟨["thing"], [], false, ["thing"], ⟨("is_integer", none), "is_integer", "is_integer", defArgs (top 3), defBody (top 3), defScope (top 3), [], []⟩, ir0⟩
def di1 : DI := ⟨["one", "other"], [], false, ["one", "other"], ⟨("divisor", none), "divisor", "divisor", defArgs (top 4), defBody (top 4), defScope (top 4), [], []⟩, ir1⟩
def di2 : DI := ⟨["top", "bottom", "common"], [], false, ["top", "bottom"], ⟨("made", none), "made", "made", defArgs (top 5), defBody (top 5), defScope (top 5), [], []⟩, ir2⟩
def di3 : DI := ⟨["one", "other"], [], false, ["one", "other"], ⟨("plus", none), "plus", "plus", defArgs (top 6), defBody (top 6), defScope (top 6), [], []⟩, ir3⟩
def di4 : DI := ⟨["one", "other"], [], false, ["one", "other"], ⟨("times", none), "times", "times", defArgs (top 7), defBody (top 7), defScope (top 7), [], []⟩, ir4⟩
def di5 : DI := ⟨["one", "other"], [], false, ["one", "other"], ⟨("is_less", none), "is_less", "is_less", defArgs (top 8), defBody (top 8), defScope (top 8), [], []⟩, ir5⟩
def di6 : DI := ⟨["fractions", "found", "fraction"], [], false, ["fractions"], ⟨("least_of", none), "least_of", "least_of", defArgs (top 9), defBody (top 9), defScope (top 9), [], []⟩, ir6⟩
def di7 : DI := ⟨["fractions", "found", "fraction"], [], false, ["fractions"], ⟨("greatest_of", none), "greatest_of", "greatest_of", defArgs (top 10), defBody (top 10), defScope (top 10), [], []⟩, ir7⟩
def di8 : DI := ⟨["fractions", "found", "fraction", "at"], [1], false, ["fractions"], ⟨("ascending", none), "ascending", "ascending", defArgs (top 11), defBody (top 11), defScope (top 11), [], []⟩, ir8⟩
def di9 : DI := ⟨["one", "two", "three"], [], false, ["one", "two", "three"], ⟨("middle", none), "middle", "middle", defArgs (top 12), defBody (top 12), defScope (top 12), [], []⟩, ir9⟩
def di10 : DI := ⟨["thing", "part"], [], false, ["thing"], ⟨("is_fraction", none), "is_fraction", "is_fraction", defArgs (top 13), defBody (top 13), defScope (top 13), [], []⟩, ir10⟩
def di11 : DI := ⟨["weights", "numbers", "total", "weight", "number"], [], false, ["weights", "numbers"], ⟨("mean_of", none), "mean_of", "mean_of", defArgs (top 15), defBody (top 15), defScope (top 15), [], []⟩, ir11⟩
def di12 : DI := ⟨["k", "numbers"], [], false, ["k", "numbers"], ⟨("ranked_of", none), "ranked_of", "ranked_of", defArgs (top 16), defBody (top 16), defScope (top 16), [], []⟩, ir12⟩
def di13 : DI := ⟨["term", "bids", "word", "numbers", "part", "weight"], [], false, ["term", "bids"], ⟨("value_of", none), "value_of", "value_of", defArgs (top 17), defBody (top 17), defScope (top 17), [], []⟩, ir13⟩
def di15 : DI := ⟨["thing", "least", "most"], [], false, ["thing", "least", "most"], ⟨("is_within", none), "is_within", "is_within", defArgs (top 24), defBody (top 24), defScope (top 24), [], []⟩, ir15⟩
def di16 : DI := ⟨["thing"], [], false, ["thing"], ⟨("is_number", none), "is_number", "is_number", defArgs (top 25), defBody (top 25), defScope (top 25), [], []⟩, ir16⟩
def di17 : DI := ⟨["thing", "many", "part"], [], false, ["thing", "many"], ⟨("are_numbers", none), "are_numbers", "are_numbers", defArgs (top 26), defBody (top 26), defScope (top 26), [], []⟩, ir17⟩
def di18 : DI := ⟨["rule", "thing"], [], false, ["rule", "thing"], ⟨("check_wishes", none), "check_wishes", "check_wishes", defArgs (top 27), defBody (top 27), defScope (top 27), [], []⟩, ir18⟩
def di19 : DI := ⟨["wishes", "number", "person", "wish"], [], false, ["wishes", "number"], ⟨("wishing_more", none), "wishing_more", "wishing_more", defArgs (top 29), defBody (top 29), defScope (top 29), [], []⟩, ir19⟩
def di20 : DI := ⟨["wishes", "number", "person", "wish"], [], false, ["wishes", "number"], ⟨("wishing_less", none), "wishing_less", "wishing_less", defArgs (top 31), defBody (top 31), defScope (top 31), [], []⟩, ir20⟩
def di21 : DI := ⟨["bids", "lot", "number", "person", "bid"], [], false, ["bids", "lot", "number"], ⟨("with_lot", none), "with_lot", "with_lot", defArgs (top 32), defBody (top 32), defScope (top 32), [], []⟩, ir21⟩
def di22 : DI := ⟨["rule", "bids", "lot"], [], false, ["rule", "bids", "lot"], ⟨("pushed_up", none), "pushed_up", "pushed_up", defArgs (top 33), defBody (top 33), defScope (top 33), [], []⟩, ir22⟩
def di23 : DI := ⟨["rule", "bids", "lot"], [], false, ["rule", "bids", "lot"], ⟨("pushed_down", none), "pushed_down", "pushed_down", defArgs (top 34), defBody (top 34), defScope (top 34), [], []⟩, ir23⟩
def di24 : DI := ⟨["rule", "wishes", "bids", "number", "above", "below"], [], false, ["rule", "wishes", "bids"], ⟨("lots_that_move", none), "lots_that_move", "lots_that_move", defArgs (top 35), defBody (top 35), defScope (top 35), [], []⟩, ir24⟩
def di25 : DI := ⟨["rule", "wishes", "thing"], [], false, ["rule", "wishes", "thing"], ⟨("is_rest", none), "is_rest", "is_rest", defArgs (top 36), defBody (top 36), defScope (top 36), [], []⟩, ir25⟩
def di26 : DI := ⟨["thing"], [], false, ["thing"], ⟨("are_parts", none), "are_parts", "are_parts", defArgs (top 42), defBody (top 42), defScope (top 42), [], []⟩, ir26⟩
def di27 : DI := ⟨["thing"], [], false, ["thing"], ⟨("is_weighted", none), "is_weighted", "is_weighted", defArgs (top 43), defBody (top 43), defScope (top 43), [], []⟩, ir27⟩
def di28 : DI := ⟨["thing"], [], false, ["thing"], ⟨("is_bound", none), "is_bound", "is_bound", defArgs (top 44), defBody (top 44), defScope (top 44), [], []⟩, ir28⟩
def di29 : DI := ⟨["thing", "word", "part"], [], false, ["thing"], ⟨("parts_told", none), "parts_told", "parts_told", defArgs (top 45), defBody (top 45), defScope (top 45), [], []⟩, ir29⟩
def di30 : DI := ⟨["people", "thing"], [], false, ["people", "thing"], ⟨("is_leaf", none), "is_leaf", "is_leaf", defArgs (top 46), defBody (top 46), defScope (top 46), [], []⟩, ir30⟩
def di31 : DI := ⟨["people", "thing", "deep", "parts", "many", "part", "inner"], [], false, ["people", "thing", "deep"], ⟨("terms_told", none), "terms_told", "terms_told", defArgs (top 47), defBody (top 47), defScope (top 47), [], []⟩, ir31⟩
def di34 : DI := ⟨["_law_script", "_law_cell"], [], true, ["_law_script"], ⟨("_law_dice", none), "_law_dice", "_law_dice", defArgs (top 50), defBody (top 50), defScope (top 50), [], []⟩, ir34⟩
def di35 : DI := ⟨["_law_dice_here", "_law_faces", "_law_mixed", "_law_cell", "_law_digit"], [], false, ["_law_dice_here", "_law_faces"], ⟨("_law_draw", none), "_law_draw", "_law_draw", defArgs (top 51), defBody (top 51), defScope (top 51), [], []⟩, ir35⟩
def di36 : DI := ⟨["_law_top", "_law_bottom", "_law_one", "_law_other"], [], false, ["_law_top", "_law_bottom"], ⟨("_law_lowest", none), "_law_lowest", "_law_lowest", defArgs (top 52), defBody (top 52), defScope (top 52), [], []⟩, ir36⟩
def di37 : DI := ⟨["_law_one", "_law_other", "_law_sign"], [], false, ["_law_one", "_law_other", "_law_sign"], ⟨("_law_sum", none), "_law_sum", "_law_sum", defArgs (top 53), defBody (top 53), defScope (top 53), [], []⟩, ir37⟩
def di38 : DI := ⟨["_law_one", "_law_other"], [], false, ["_law_one", "_law_other"], ⟨("_law_product", none), "_law_product", "_law_product", defArgs (top 54), defBody (top 54), defScope (top 54), [], []⟩, ir38⟩
def di39 : DI := ⟨["_law_one", "_law_other"], [], false, ["_law_one", "_law_other"], ⟨("_law_less", none), "_law_less", "_law_less", defArgs (top 55), defBody (top 55), defScope (top 55), [], []⟩, ir39⟩
def di40 : DI := ⟨["_law_numbers_here", "_law_found", "_law_number_here", "_law_at", "_law_other"], [1], false, ["_law_numbers_here"], ⟨("_law_sorted", none), "_law_sorted", "_law_sorted", defArgs (top 56), defBody (top 56), defScope (top 56), [], []⟩, ir40⟩
def di41 : DI := ⟨["_law_dice_here", "_law_bottom"], [], false, ["_law_dice_here"], ⟨("_law_number", none), "_law_number", "_law_number", defArgs (top 57), defBody (top 57), defScope (top 57), [], []⟩, ir41⟩
def di42 : DI := ⟨["_law_dice_here", "_law_many", "_law_k"], [], false, ["_law_dice_here", "_law_many"], ⟨("_law_numbers", none), "_law_numbers", "_law_numbers", defArgs (top 58), defBody (top 58), defScope (top 58), [], []⟩, ir42⟩
def di43 : DI := ⟨["_law_dice_here", "_law_people", "_law_deep", "_law_means", "_law_kind", "_law_parts", "_law_ends", "_law_k", "_law_part"], [], false, ["_law_dice_here", "_law_people", "_law_deep", "_law_means"], ⟨("_law_term", none), "_law_term", "_law_term", defArgs (top 59), defBody (top 59), defScope (top 59), [], []⟩, ir43⟩
def di44 : DI := ⟨["_law_dice_here", "_law_most", "_law_people", "_law_term_here", "_law_bids", "_law_person"], [], false, ["_law_dice_here", "_law_most"], ⟨("_law_rule_parts", none), "_law_rule_parts", "_law_rule_parts", defArgs (top 60), defBody (top 60), defScope (top 60), [], []⟩, ir44⟩
def di45 : DI := ⟨["_law_term_here", "_law_bids", "_law_word", "_law_told", "_law_whole", "_law_weight", "_law_part"], [], false, ["_law_term_here", "_law_bids"], ⟨("_law_value", none), "_law_value", "_law_value", defArgs (top 61), defBody (top 61), defScope (top 61), [], []⟩, ir45⟩
def di46 : DI := ⟨["_law_people", "_law_found", "_law_person", "_law_lot"], [], false, ["_law_people"], ⟨("_law_lots", none), "_law_lots", "_law_lots", defArgs (top 62), defBody (top 62), defScope (top 62), [], []⟩, ir46⟩
def di47 : DI := ⟨["_law_lots_here", "_law_found", "_law_size", "_law_lot"], [], false, ["_law_lots_here"], ⟨("_law_by_size", none), "_law_by_size", "_law_by_size", defArgs (top 63), defBody (top 63), defScope (top 63), [], []⟩, ir47⟩
def di48 : DI := ⟨["_law_people", "_law_lot", "_law_person"], [], false, ["_law_people", "_law_lot"], ⟨("_law_at_ends", none), "_law_at_ends", "_law_at_ends", defArgs (top 64), defBody (top 64), defScope (top 64), [], []⟩, ir48⟩
def di49 : DI := ⟨["_law_people", "_law_term_here", "_law_lot"], [], false, ["_law_people", "_law_term_here", "_law_lot"], ⟨("_law_corner", none), "_law_corner", "_law_corner", defArgs (top 65), defBody (top 65), defScope (top 65), [], []⟩, ir49⟩
def di50 : DI := ⟨["_law_wishes_here", "_law_number_here", "_law_person", "_law_wish"], [], false, ["_law_wishes_here", "_law_number_here"], ⟨("_law_wishing_more", none), "_law_wishing_more", "_law_wishing_more", defArgs (top 66), defBody (top 66), defScope (top 66), [], []⟩, ir50⟩
def di51 : DI := ⟨["_law_people", "_law_term_here", "_law_wishes_here", "_law_found", "_law_lot", "_law_person"], [3], false, ["_law_people", "_law_term_here", "_law_wishes_here"], ⟨("_law_outcome", none), "_law_outcome", "_law_outcome", defArgs (top 67), defBody (top 67), defScope (top 67), [], []⟩, ir51⟩
def di52 : DI := ⟨["_law_told", "_law_due"], [], false, ["_law_told", "_law_due"], ⟨("_law_flag", none), "_law_flag", "_law_flag", defArgs (top 68), defBody (top 68), defScope (top 68), [], []⟩, ir52⟩
def di53 : DI := ⟨["_law_dice_here", "_law_people", "_law_term_here", "_law_found", "_law_person", "_law_kind", "_law_lots_here"], [3], false, ["_law_dice_here", "_law_people", "_law_term_here"], ⟨("_law_wishes", none), "_law_wishes", "_law_wishes", defArgs (top 69), defBody (top 69), defScope (top 69), [], []⟩, ir53⟩
def di54 : DI := ⟨["_law_bids", "_law_lot", "_law_number_here", "_law_person"], [], false, ["_law_bids", "_law_lot", "_law_number_here"], ⟨("_law_put", none), "_law_put", "_law_put", defArgs (top 70), defBody (top 70), defScope (top 70), [], []⟩, ir54⟩
def di55 : DI := ⟨["_law_term_here", "_law_wishes_here", "_law_bids", "_law_number_here", "_law_above", "_law_below", "_law_person"], [], false, ["_law_term_here", "_law_wishes_here", "_law_bids"], ⟨("_law_moving", none), "_law_moving", "_law_moving", defArgs (top 71), defBody (top 71), defScope (top 71), [], []⟩, ir55⟩
def di56 : DI := ⟨["_law_dice_here", "_law_people", "_law_term_here", "_law_wishes_here", "_law_kind", "_law_number_here", "_law_other", "_law_found", "_law_person", "_law_bid"], [7], false, ["_law_dice_here", "_law_people", "_law_term_here", "_law_wishes_here"], ⟨("_law_some_bids", none), "_law_some_bids", "_law_some_bids", defArgs (top 72), defBody (top 72), defScope (top 72), [], []⟩, ir56⟩
def di57 : DI := ⟨["_law_dice_here", "_law_things"], [], false, ["_law_dice_here"], ⟨("_law_odd", none), "_law_odd", "_law_odd", defArgs (top 73), defBody (top 73), defScope (top 73), [], []⟩, ir57⟩
def di58 : DI := ⟨["_law_dice_here", "_law_numbers_here", "_law_at", "_law_odd_here", "_law_kind"], [], false, ["_law_dice_here", "_law_numbers_here"], ⟨("_law_spoiled", none), "_law_spoiled", "_law_spoiled", defArgs (top 74), defBody (top 74), defScope (top 74), [], []⟩, ir58⟩
def di59 : DI := ⟨["_law_thing", "_law_part"], [], false, ["_law_thing"], ⟨("_law_is_number", none), "_law_is_number", "_law_is_number", defArgs (top 75), defBody (top 75), defScope (top 75), [], []⟩, ir59⟩
def di60 : DI := ⟨["_law_thing", "_law_many", "_law_part"], [], false, ["_law_thing", "_law_many"], ⟨("_law_are_numbers", none), "_law_are_numbers", "_law_are_numbers", defArgs (top 76), defBody (top 76), defScope (top 76), [], []⟩, ir60⟩
def di61 : DI := ⟨["_law_dice_here", "_law_bids", "_law_person"], [], false, ["_law_dice_here", "_law_bids"], ⟨("_law_fine", none), "_law_fine", "_law_fine", defArgs (top 77), defBody (top 77), defScope (top 77), [], []⟩, ir61⟩
def di62 : DI := ⟨["_law_script", "_law_dice_here", "_law_turn", "_law_rule", "_law_wishes_here", "_law_more", "_law_people", "_law_term_here", "_law_bids", "_law_thing", "_law_shown", "_law_due"], [], false, ["_law_script"], ⟨("law", none), "law", "law", defArgs (top 78), defBody (top 78), defScope (top 78), [], []⟩, ir62⟩
def di32 : DI := ⟨["self", "people", "term", "many"], [], false, ["self", "people", "term"], ⟨("Rule", some "__init__"), "__init__", "Rule.__init__", defArgs (inClass (top 48) 0), defBody (inClass (top 48) 0), defScope (inClass (top 48) 0), [], []⟩, ir32⟩
def di33 : DI := ⟨["self", "other"], [], false, ["self", "other"], ⟨("Rule", some "__eq__"), "__eq__", "Rule.__eq__", defArgs (inClass (top 48) 1), defBody (inClass (top 48) 1), defScope (inClass (top 48) 1), [], []⟩, ir33⟩
def dis0 : List (Nat × DI) := [(0, di0), (1, di1), (2, di2), (3, di3), (4, di4), (5, di5), (6, di6), (7, di7), (8, di8), (9, di9), (10, di10), (11, di11), (12, di12), (13, di13), (15, di15), (16, di16), (17, di17), (18, di18), (19, di19), (20, di20)]
def dis1 : List (Nat × DI) := [(21, di21), (22, di22), (23, di23), (24, di24), (25, di25), (26, di26), (27, di27), (28, di28), (29, di29), (30, di30), (31, di31), (34, di34), (35, di35), (36, di36), (37, di37), (38, di38), (39, di39), (40, di40), (41, di41), (42, di42)]
def dis2 : List (Nat × DI) := [(43, di43), (44, di44), (45, di45), (46, di46), (47, di47), (48, di48), (49, di49), (50, di50), (51, di51), (52, di52), (53, di53), (54, di54), (55, di55), (56, di56), (57, di57), (58, di58), (59, di59), (60, di60), (61, di61), (62, di62)]
def dis3 : List (Nat × DI) := [(32, di32), (33, di33)]
def sp : PS0 := ⟨dis0 ++ dis1 ++ dis2 ++ dis3, cT0, [(3, "Rule", 32, [1, 2], true)], ["part", "people", "term"]⟩
def nm0 : List PySem.Str := ["ZERO", "ONE", "is_integer", "divisor", "made", "plus", "times", "is_less", "least_of", "greatest_of", "ascending", "middle", "is_fraction", "mean_of", "ranked_of", "value_of", "BidError", "BadRule", "NoWishes", "MOST_PEOPLE"]
def nm1 : List PySem.Str := ["is_within", "is_number", "are_numbers", "check_wishes", "wishing_more", "wishing_less", "with_lot", "pushed_up", "pushed_down", "lots_that_move", "is_rest", "MOST_DEEP", "MOST_TERMS", "MOST_PARTS", "MOST_WEIGHT", "are_parts", "is_weighted", "is_bound", "parts_told", "is_leaf"]
def nm2 : List PySem.Str := ["terms_told", "Rule", "_law_dice", "_law_draw", "_law_lowest", "_law_sum", "_law_product", "_law_less", "_law_sorted", "_law_number", "_law_numbers", "_law_term", "_law_rule_parts", "_law_value", "_law_lots", "_law_by_size", "_law_at_ends", "_law_corner", "_law_wishing_more", "_law_outcome"]
def nm3 : List PySem.Str := ["_law_flag", "_law_wishes", "_law_put", "_law_moving", "_law_some_bids", "_law_odd", "_law_spoiled", "_law_is_number", "_law_are_numbers", "_law_fine"]
def nm : List PySem.Str := nm0 ++ nm1 ++ nm2 ++ nm3
theorem ok : okS sp = true := by kernel_rfl
theorem irs : sp.dis.map (fun p => cSs (p.2.F sp.c) p.2.dd.scope 60 p.2.dd.body) = sp.dis.map (·.2.ir) := by kernel_rfl
theorem hi : ∀ i j, fldFn sp.flds i = fldFn sp.flds j → i = j := fldFn_inj (by decide) (by decide)
abbrev R : PySem.W.OpenRow := PySem.W.OpenLaw.row PySem.Challenge.rw_cornerbids_k38_whole_rests_by_own_asks
def fa : List He.Fa := faOf sp
def fn : List He.DefD := sp.dis.map (·.2.dd)
def ex (K : PySem.W.Frag) : Bool := exOf sp K
abbrev hk : PySem.W.Hook := He.hookX 4 fa fn [] [] ex
def ob (s : PySem.W.SharedT) : He.AlX := He.obsX 4 fa fn [] [] ex (HandSHeadRun.getT s)
theorem ob_eq (s : PySem.W.SharedT) : ob s = hk.obs s.abs := He.obsX_eq (HandSHeadRun.getT_eq s)
theorem run (w : World) : HandSHeadRun.RunEq R (PySem.W.view R.prog [78]) hk ob 3000 nm w := by
  intro os
  kernel_rfl
/-- the other defs of the shared table -/
def extra (f : Nat) : Option Fun := (GT_k38).lookup f
/-- the program, the deepest call, the law's number -/
noncomputable def pg : Prog := progOf (tabOf sp) extra sp.di 1000000000000
theorem same : sp.dis.map (fun p => some (funOf p.2)) = sp.dis.map (fun p => extra p.1) := by rfl
theorem pg_fn (f : Nat) : pg.fn f = extra f := by
  show (match sp.di f with
    | some I => some (funOf I)
    | none => extra f) = _
  cases e : sp.di f with
  | none => rfl
  | some I => exact (List.map_inj_left.mp same) (f, I) (mem_of_lookup e)
theorem has_k38 : ∀ p ∈ GT_k38, extra p.1 = some p.2 := by
  have e : GT_k38.map (fun p => extra p.1) = GT_k38.map (fun p => some p.2) := by rfl
  exact fun p hp => (List.map_inj_left.mp e) p hp
instance : B_k38 pg := ⟨fun f F h => by rw [pg_fn]; exact has_k38 (f, F) (mem_of_lookup h)⟩
end Lk38
open PySem PySem.W PySem.Calls PyProof.Rows in
theorem holds_k38 (main : ∀ ns : List Int, ns.length ≤ 63 → (∀ z ∈ ns, PySem.Builtin.Int.intBits z ≤ 1048576) → ∃ st', Py.callD Lk38.pg 100 62 [Py.EV.scr ns] [] = .ok (.bl true) st') : PySem.Challenge.rw_cornerbids_k38_whole_rests_by_own_asks.Holds := by
  w_on; o_law
  refine HandSHeadRun.head_any (r := OpenLaw.row PySem.Challenge.rw_cornerbids_k38_whole_rests_by_own_asks) (q := view (OpenLaw.row PySem.Challenge.rw_cornerbids_k38_whole_rests_by_own_asks).prog [78]) (H := Lk38.hk) (ob := Lk38.ob) (M := 3000) (loose := Lk38.nm) (d := HandSHeadRun.topDef (OpenLaw.row PySem.Challenge.rw_cornerbids_k38_whole_rests_by_own_asks).prog 78) (kwd := []) Lk38.ob_eq
    (by kernel_rfl) (fun s => by kernel_rfl) Lk38.run (by kernel_rfl) (by kernel_rfl) (by kernel_rfl) (by rfl) (by first | assumption | decide +kernel) (by decide +kernel) ⟨rfl, rfl, rfl, rfl, rfl, by decide +kernel⟩ ?hw ?hc
  case hw => w_witness2
  case hc => exact Py.walk_py (l := PySem.Challenge.rw_cornerbids_k38_whole_rests_by_own_asks) (sp := Lk38.sp) (n := 63) (D := 100) (W := 1000000000000) (f := 62) (N := 4) (ex := Lk38.extra) (I := Lk38.di62) (x := "_law_script") rfl (by decide) (by kernel_rfl) ⟨rfl, by decide, by decide⟩ ⟨rfl, by decide⟩ (by kernel_rfl) (by kernel_rfl) (by kernel_rfl) Lk38.hi Lk38.ok Lk38.irs rfl rfl rfl (by kernel_rfl) main
end
instance : Py.BW Lk38.pg := ⟨Nat.le_refl _⟩
instance : Py.BR Lk38.pg := ⟨rfl⟩
set_option maxRecDepth 100000 in
set_option maxHeartbeats 8000000 in
theorem PySem.Challenge.cw_cornerbids_k38_whole_rests_by_own_asks_holds : PySem.Challenge.rw_cornerbids_k38_whole_rests_by_own_asks.Holds := by
  exact holds_k38 fun ns hl _ => Py.law_k38 ns hl
