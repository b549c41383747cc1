import PyProof.Rows.All
import Wide.All
import OpenK.AllK
import Wide.FinOn
import KE.SortData
import KE.SortKeyHeap
import KE.DataCmp
import HandS.ForMost
import HandS.Deep
import HandS.Star
import HandS.Conv
import HandS.TupAny
import HandS.More
import HandS.Style
import HandS.RaiseMore
import HandS.NoneIn
import HandS.SetFor
import HandS.Strs
import HandS.SortKw
import HandS.Property
import HandS.IsInst
import HandS.Zip
import KE.KCallOwn
import KE.KOpsOwn
import HandS.Codes
import PySem.Challenge.RW_thesesothose_k36_whole_narrow_lots_are_n
set_option Elab.async false
set_option linter.all false
/-! Ev0: tree values, how an abstract heap holds them, what stays. -/
namespace Ev
open PySem L2
/-- a tree value -/
inductive D where
  | non
  | bl (b : Bool)
  | int (i : Int)
  | str (x : Str)
  | tup (xs : List D)
  | lst (xs : List D)
  | ins (c : Nat) (fs : List D)
  | bag
/-- where the bag's cells stand; the classes: their addresses, their fields -/
structure Cls where
  bc : Addr
  at_ : Nat → Option (Addr × List Str)
/-- where the proof stands: the written part, the bag's address, the classes -/
structure Gx where
  K : PySem.W.Frag
  b : Addr
  cl : Cls
mutual
inductive Rep (G : Gx) (H : Hp) : V → D → Prop
  | non : Rep G H .non .non
  | bl (b : Bool) : Rep G H (.bl b) (.bl b)
  | int (i : Int) : Rep G H (.int i) (.int i)
  | str (x : Str) : Rep G H (.str x) (.str x)
  | tup {a : Addr} {vs : List V} {ds : List D} : SqT G.K H a vs → Reps G H vs ds → Rep G H (.ref a) (.tup ds)
  | lst {a : Addr} {vs : List V} {ds : List D} : H a = some (.lst vs) → Reps G H vs ds → Rep G H (.ref a) (.lst ds)
  | ins {a C dx : Addr} {fs : List (Str × V)} {c : Nat} {ns : List Str} {ds : List D} : H a = some (.ins C dx fs) → G.cl.at_ c = some (C, ns) → fs.map (·.1) <+: ns → Reps G H (fs.map (·.2)) ds → Rep G H (.ref a) (.ins c ds)
  | bag : Rep G H (.ref G.b) .bag
inductive Reps (G : Gx) (H : Hp) : List V → List D → Prop
  | nil : Reps G H [] []
  | cons {v : V} {vs : List V} {d : D} {ds : List D} : Rep G H v d → Reps G H vs ds → Reps G H (v :: vs) (d :: ds)
end
/-- every tracked object of the first is in the second -/
def Sub (H H' : Hp) : Prop := ∀ a o, H a = some o → H' a = some o
theorem Sub.refl (H : Hp) : Sub H H := fun _ _ h => h
theorem Sub.trans {H1 H2 H3 : Hp} (a : Sub H1 H2) (b : Sub H2 H3) : Sub H1 H3 := fun c o h => b c o (a c o h)
theorem Sub.rd {H H' : Hp} (s : Sub H H') {a : Addr} {u : HO} (h : Rd H a u) : Rd H' a u := by
  rcases h with h | ⟨o, h⟩
  · exact .inl (s _ _ h)
  · exact .inr ⟨o, s _ _ h⟩
theorem Sub.sqL {K : PySem.W.Frag} {H H' : Hp} (s : Sub H H') {a : Addr} {xs : List V} (h : SqL K H a xs) : SqL K H' a xs := by
  rcases h with h | h
  · exact .inl (s.rd h)
  · exact .inr h
theorem Sub.sqT {K : PySem.W.Frag} {H H' : Hp} (s : Sub H H') {a : Addr} {xs : List V} (h : SqT K H a xs) : SqT K H' a xs := by
  rcases h with h | h
  · exact .inl (s.rd h)
  · exact .inr h
mutual
theorem Rep.mono {G : Gx} {H H' : Hp} (s : Sub H H') : ∀ {v : V} {d : D}, Rep G H v d → Rep G H' v d
  | _, _, .non => .non
  | _, _, .bl b => .bl b
  | _, _, .int i => .int i
  | _, _, .str x => .str x
  | _, _, .tup h r => .tup (s.sqT h) (Reps.mono s r)
  | _, _, .lst h r => .lst (s _ _ h) (Reps.mono s r)
  | _, _, .ins h c p r => .ins (s _ _ h) c p (Reps.mono s r)
  | _, _, .bag => .bag
theorem Reps.mono {G : Gx} {H H' : Hp} (s : Sub H H') : ∀ {vs : List V} {ds : List D}, Reps G H vs ds → Reps G H' vs ds
  | _, _, .nil => .nil
  | _, _, .cons r t => .cons (Rep.mono s r) (Reps.mono s t)
end
theorem Reps.length {G : Gx} {H : Hp} : ∀ {vs : List V} {ds : List D}, Reps G H vs ds → vs.length = ds.length
  | _, _, .nil => rfl
  | _, _, .cons _ t => by rw [List.length_cons, List.length_cons, Reps.length t]
theorem Reps.append {G : Gx} {H : Hp} : ∀ {vs ws : List V} {ds es : List D}, Reps G H vs ds → Reps G H ws es → Reps G H (vs ++ ws) (ds ++ es)
  | _, _, _, _, .nil, s => s
  | _, _, _, _, .cons r t, s => .cons r (Reps.append t s)
theorem Reps.get {G : Gx} {H : Hp} : ∀ {vs : List V} {ds : List D} {i : Nat} {v : V}, Reps G H vs ds → vs[i]? = some v → ∃ d, ds[i]? = some d ∧ Rep G H v d
  | _, _, _, _, .nil, e => by simp at e
  | _, _, 0, _, .cons r _, e => by
    simp at e
    subst e
    exact ⟨_, rfl, r⟩
  | _, _, i + 1, v, .cons _ t, e => by
    obtain ⟨d, h1, h2⟩ := Reps.get (i := i) (v := v) t (by simpa using e)
    exact ⟨d, by simpa using h1, h2⟩
theorem Reps.getD {G : Gx} {H : Hp} : ∀ {vs : List V} {ds : List D} {i : Nat} {d : D}, Reps G H vs ds → ds[i]? = some d → ∃ v, vs[i]? = some v ∧ Rep G H v d
  | _, _, _, _, .nil, e => by simp at e
  | _, _, 0, _, .cons r _, e => by
    simp at e
    subst e
    exact ⟨_, rfl, r⟩
  | _, _, i + 1, d, .cons _ t, e => by
    obtain ⟨v, h1, h2⟩ := Reps.getD (i := i) (d := d) t (by simpa using e)
    exact ⟨v, by simpa using h1, h2⟩
theorem Reps.take {G : Gx} {H : Hp} : ∀ {vs : List V} {ds : List D} (n : Nat), Reps G H vs ds → Reps G H (vs.take n) (ds.take n)
  | _, _, 0, _ => .nil
  | _, _, _ + 1, .nil => .nil
  | _, _, n + 1, .cons r t => .cons r (Reps.take n t)
theorem Reps.drop {G : Gx} {H : Hp} : ∀ {vs : List V} {ds : List D} (n : Nat), Reps G H vs ds → Reps G H (vs.drop n) (ds.drop n)
  | _, _, 0, r => r
  | _, _, _ + 1, .nil => .nil
  | _, _, n + 1, .cons _ t => Reps.drop n t
/-- what is to be seen: all that is not hidden -/
noncomputable def vis (M : Addr → Prop) (H : Hp) : Hp := fun a => if Classical.propDecidable (M a) |>.decide then none else H a
theorem vis_iff {M : Addr → Prop} {H : Hp} {a : Addr} {o : HO} : vis M H a = some o ↔ ¬ M a ∧ H a = some o := by
  unfold vis
  by_cases h : M a
  · simp [h]
  · simp [h]
theorem vis_sub (M : Addr → Prop) (H : Hp) : Sub (vis M H) H := fun _ _ h => (vis_iff.mp h).2
/-- all but the bag stays -/
def Ext (b : Addr) (H H' : Hp) : Prop := ∀ a o, a ≠ b → H a = some o → H' a = some o
theorem Ext.refl (b : Addr) (H : Hp) : Ext b H H := fun _ _ _ h => h
theorem Ext.trans {b : Addr} {H1 H2 H3 : Hp} (x : Ext b H1 H2) (y : Ext b H2 H3) : Ext b H1 H3 := fun a o n h => y a o n (x a o n h)
theorem Ext.of_sub {b : Addr} {H H' : Hp} (s : Sub H H') : Ext b H H' := fun a o _ h => s a o h
theorem Ext.new {b : Addr} {H : Hp} {p : Addr} {o : HO} (h : H p = none) : Ext b H (upd H p o) := fun a u _ e => by
  rw [upd_ne (ne_of_none e h)]
  exact e
theorem vis_ext {b : Addr} {M M' : Addr → Prop} {H H' : Hp} (x : Ext b H H') (hb : M b) (hm : ∀ a, M' a → M a) : Sub (vis M H) (vis M' H') := fun a o h => by
  obtain ⟨h1, h2⟩ := vis_iff.mp h
  exact vis_iff.mpr ⟨fun z => h1 (hm a z), x a o (fun e => h1 (e ▸ hb)) h2⟩
theorem sub_new {H : Hp} {p : Addr} {o : HO} (h : H p = none) : Sub H (upd H p o) := fun a u e => by
  rw [upd_ne (ne_of_none e h)]
  exact e
/-- an object that is one's own: a list -/
inductive Cell (G : Gx) (Hv : Hp) : HO → D → Prop
  | lst {vs : List V} {ds : List D} : Reps G Hv vs ds → Cell G Hv (.lst vs) (.lst ds)
  | ins {C dx : Addr} {fs : List (Str × V)} {c : Nat} {ns : List Str} {ds : List D} : G.cl.at_ c = some (C, ns) → fs.map (·.1) <+: ns → Reps G Hv (fs.map (·.2)) ds → Cell G Hv (.ins C dx fs) (.ins c ds)
theorem Cell.mono {G : Gx} {H H' : Hp} (s : Sub H H') {o : HO} {d : D} (h : Cell G H o d) : Cell G H' o d := by
  cases h with
  | lst r => exact .lst (r.mono s)
  | ins c p r => exact .ins c p (r.mono s)
/-- a cell that is to be seen is a value -/
theorem Cell.rep {G : Gx} {H H' : Hp} {p : Addr} {o : HO} {d : D} (h : Cell G H o d) (s : Sub H H') (e : H' p = some o) : Rep G H' (.ref p) d := by
  cases h with
  | lst r => exact .lst e (r.mono s)
  | ins c p r => exact .ins e c p (r.mono s)
/-- atoms hang on no heap -/
def D.atom : D → Bool
  | .non | .bl _ | .int _ | .str _ | .bag => true
  | _ => false
theorem Rep.atom {G : Gx} {H H' : Hp} {v : V} {d : D} (h : Rep G H v d) (a : d.atom = true) : Rep G H' v d := by
  cases h with
  | non => exact .non
  | bl b => exact .bl b
  | int i => exact .int i
  | str x => exact .str x
  | bag => exact .bag
  | tup _ _ => cases a
  | lst _ _ => cases a
  | ins _ _ _ _ => cases a
end Ev
set_option Elab.async false
set_option linter.all false
/-! Ev1: the tree language and its evaluator. -/
namespace Ev
open PySem L2
/-- what is drawn from -/
structure Bag where
  d : Int
  m : Int
  c : Int
  cells : List Int
/-- a reckoning that draws, or stops -/
def M (α : Type) := Bag → Option (α × Bag)
namespace M
variable {α β γ : Type}
def ret (a : α) : M α := fun b => some (a, b)
def fail : M α := fun _ => none
def bnd (x : M α) (f : α → M β) : M β := fun b => match x b with
  | none => none
  | some (a, b') => f a b'
@[simp] theorem ret_bnd (a : α) (f : α → M β) : bnd (ret a) f = f a := by
  funext b
  rfl
@[simp] theorem fail_bnd (f : α → M β) : bnd (fail : M α) f = fail := by
  funext b
  rfl
@[simp] theorem bnd_ret (x : M α) : bnd x ret = x := by
  funext b
  unfold bnd
  cases x b with
  | none => rfl
  | some p => rfl
@[simp] theorem bnd_bnd (x : M α) (f : α → M β) (g : β → M γ) : bnd (bnd x f) g = bnd x fun a => bnd (f a) g := by
  funext b
  unfold bnd
  cases x b with
  | none => rfl
  | some p => rfl
theorem bnd_fail (x : M α) : bnd x (fun _ => (fail : M β)) = fail := by
  funext b
  unfold bnd
  cases x b with
  | none => rfl
  | some p => rfl
theorem bnd_some {x : M α} {f : α → M β} {b b' : Bag} {r : β} (h : bnd x f b = some (r, b')) : ∃ a b1, x b = some (a, b1) ∧ f a b1 = some (r, b') := by
  unfold bnd at h
  cases e : x b with
  | none =>
    rw [e] at h
    cases h
  | some p =>
    obtain ⟨a, b1⟩ := p
    rw [e] at h
    exact ⟨a, b1, rfl, h⟩
theorem ret_some {a r : α} {b b' : Bag} (h : ret a b = some (r, b')) : a = r ∧ b = b' := by
  have e : (a, b) = (r, b') := Option.some.inj h
  exact ⟨congrArg Prod.fst e, congrArg Prod.snd e⟩
def opt : Option α → M α
  | some a => ret a
  | none => fail
@[simp] theorem opt_some (a : α) : opt (some a) = ret a := by
  funext b
  rfl
@[simp] theorem opt_none : opt (none : Option α) = fail := by
  funext b
  rfl
theorem opt_eq {o : Option α} {r : α} {b b' : Bag} (h : opt o b = some (r, b')) : o = some r ∧ b = b' := by
  cases o with
  | none => cases h
  | some a =>
    obtain ⟨h1, h2⟩ := ret_some h
    exact ⟨by rw [h1], h2⟩
def guard (c : Bool) (x : M α) : M α := if c then x else fail
@[simp] theorem guard_true (x : M α) : guard true x = x := by
  unfold guard
  rw [if_pos rfl]
@[simp] theorem guard_false (x : M α) : guard false x = fail := by
  unfold guard
  rw [if_neg Bool.false_ne_true]
theorem guard_eq {c : Bool} {x : M α} {r : α} {b b' : Bag} (h : guard c x b = some (r, b')) : c = true ∧ x b = some (r, b') := by
  cases c with
  | false => cases h
  | true => exact ⟨rfl, h⟩
end M
/-- how a value lies: perhaps over one's own cells; one's own cell itself; apart from them; a new cell -/
inductive Kd where
  | dirty | own | clean | fresh
  deriving DecidableEq
def Kd.ok : Kd → Bool
  | .clean | .fresh => true
  | _ => false
inductive Slot where
  | no
  | val (d : D)
  | own (d : D)
inductive Cop where
  | eq | ne | lt | le | gt | ge | isin | notin | isN | notN
  deriving DecidableEq
inductive Bop where
  | add | sub | mul | mod | fdiv | pow
  deriving DecidableEq
inductive Blt where
  | len | int | tuple | list | all | any | repr | sorted | sortset | abs | sum | max | min
  deriving DecidableEq
/-- operators that a class of the text defines itself -/
inductive Dop where
  | isin | notin | eq | add | bor | item
  deriving DecidableEq
inductive Tg where
  | one (i : Nat)
  | tup (is : List Nat)
/-- a def; a method; a method that the machine itself calls (a property, an own operator); the making of an instance -/
inductive Fn where
  | f (x : Str)
  | m (c : Nat) (x : Str)
  | p (c : Nat) (x : Str)
  | i (c : Nat)
inductive Ty where
  | int | bool | str | tuple | list
  | cls (c : Nat)
mutual
inductive E where
  | con (d : D)
  | var (i : Nat)
  | tup (es : Es)
  | lst (es : Es)
  | lc (g : Tg) (vs : List Nat) (it : It) (c : Oe) (e : E)
  | and (a b : E)
  | or (a b : E)
  | not (a : E)
  | ite (c a b : E)
  | cmp (op : Cop) (a b : E)
  | chain (op op' : Cop) (a b c : E)
  | bin (op : Bop) (a b : E)
  | neg (a : E)
  | idx (a i : E)
  | sli (a : E) (lo hi : Oe)
  | call (f : Str) (as : Es)
  | blt (f : Blt) (a : E)
  | srt (f : Str) (a : E)
  | split (a b : E)
  | bget (s i : Nat)
  | bcell (s : Nat)
  | blen (s : Nat)
  | glob (x : Str) (d : D)
  | fld (e : E) (x : Str) (tab : List (Nat × Option Nat))
  | meth (e : E) (m : Str) (cs : List Nat) (as : Es)
  | mk (c : Nat) (as : Es)
  | isi (e : E) (ts : List Ty)
  | rev (e : E)
  | app (e : E) (cs : List Nat) (as : Es)
  | dlen (e : E) (cs : List Nat)
  | dun (o : Dop) (a b : E) (cs : List Nat)
  | isc (e : E) (c : Nat)
  | lidx (a b : E)
inductive Oe where
  | no
  | yes (e : E)
inductive Es where
  | nil
  | cons (e : E) (r : Es)
  | star (e : E) (r : Es)
inductive It where
  | seq (e : E)
  | rng (e : E)
  | rng2 (a b : E)
  | enm (e : E)
  | zip (a b : E)
end
/-! ### data -/
mutual
def D.py : D → Option PyData
  | .non => some .none
  | .bl b => some (.bool b)
  | .int i => some (.int i)
  | .str x => some (.str x)
  | .tup xs => (D.pys xs).map .tuple
  | .lst xs => (D.pys xs).map .list
  | .ins _ _ => none
  | .bag => none
def D.pys : List D → Option (List PyData)
  | [] => some []
  | x :: xs => match D.py x, D.pys xs with
    | some y, some ys => some (y :: ys)
    | _, _ => none
end
def D.flat : D → Bool
  | .non | .bl _ | .int _ | .str _ => true
  | _ => false
def D.pyF : D → PyData
  | .bl b => .bool b
  | .int i => .int i
  | .str x => .str x
  | _ => .none
def truth : D → Option Bool
  | .non => some false
  | .bl b => some b
  | .int i => some (i != 0)
  | .str x => if x.length ≤ sizeLine then some ((x.length : Int) != 0) else none
  | .tup xs => some (!xs.isEmpty)
  | .lst xs => some (!xs.isEmpty)
  | _ => none
def notNone : PyData → Bool
  | .none => false
  | _ => true
/-- data that can be compared -/
def eqDP (a b : D) : Option Bool := match a.py, b.py with
  | some x, some y => if SeqAt.shaped x && SeqAt.shaped y then some (PyData.eqv x y) else none
  | _, _ => none
def eqD (a b : D) : Option Bool := match a, b with
  | .str x, .str y => some (x == y)
  | a, b => eqDP a b
def ltD (a b : D) : Option Bool := match a.py, b.py with
  | some x, some y => if SeqAt.shaped x && SeqAt.shaped y && PySem.W.alike x y && notNone x then some (PySem.W.dataLt x y) else none
  | _, _ => none
def inD (a : D) (b : D) : Option Bool := match a, b with
  | .str x, .str y => some (!(Builtin.Str.occurrences y x 0 y.length 1).isEmpty)
  | a, .tup xs => if a.flat && xs.all D.flat then some (xs.any fun z => PyData.eqv z.pyF a.pyF) else none
  | a, .lst xs => match a.py, D.pys xs with
    | some x, some ys => if SeqAt.shaped x && SeqAt.shaped (.list ys) then some (ys.any fun z => PyData.eqv z x) else none
    | _, _ => none
  | _, _ => none
def cmpD : Cop → D → D → Option Bool
  | .eq, a, b => eqD a b
  | .ne, a, b => (eqD a b).map not
  | .lt, a, b => ltD a b
  | .gt, a, b => ltD b a
  | .le, a, b => (ltD b a).map not
  | .ge, a, b => (ltD a b).map not
  | .isin, a, b => inD a b
  | .notin, a, b => (inD a b).map not
  | .isN, a, .non => some (match a with | .non => true | _ => false)
  | .notN, a, .non => some (match a with | .non => false | _ => true)
  | .isN, .bl a, .bl b => some (decide (a = b))
  | .notN, .bl a, .bl b => some (!decide (a = b))
  | _, _, _ => none
def line62 (i : Int) : Bool := decide (-(2 ^ 62) ≤ i) && decide (i < 2 ^ 62)
def revD : D → Option D
  | .lst xs => some (.lst xs.reverse)
  | _ => none
def zipD : List D → List D → List D
  | x :: xs, y :: ys => .tup [x, y] :: zipD xs ys
  | _, _ => []
def small (i : Int) : Bool := decide (-(2 ^ 64) < i) && decide (i < 2 ^ 64)
/-- a value of an operator: how it lies -/
def binD : Bop → D → D → Option (D × Kd)
  | .add, .int i, .int j => some (.int (i + j), .clean)
  | .add, .str x, .str y => if x.length + y.length ≤ sizeLine then some (.str (x ++ y), .clean) else none
  | .sub, .int i, .int j => some (.int (i - j), .clean)
  | .mul, .int i, .int j => if small i then some (.int (i * j), .clean) else none
  | .mod, .int i, .int j => if 0 < j then some (.int (i % j), .clean) else none
  | .fdiv, .int i, .int j => if 0 < j ∧ j < 1073741824 then some (.int (i / j), .clean) else none
  | .add, .tup xs, .tup ys => if xs.length + ys.length ≤ sizeLine then some (.tup (xs ++ ys), .clean) else none
  | .add, .lst xs, .lst ys => if xs.length + ys.length ≤ sizeLine then some (.lst (xs ++ ys), .fresh) else none
  | .mul, .lst xs, .int j => if line62 j ∧ xs.length * j.toNat ≤ sizeLine then some (.lst (List.replicate j.toNat xs).flatten, .fresh) else none
  | _, _, _ => none
def idxD : D → D → Option D
  | .tup xs, .int i => atI xs i
  | .lst xs, .int i => atI xs i
  | .str x, .int i => if x.length ≤ sizeLine then (atI x.cps.toList i).map fun c => .str ⟨#[c]⟩ else none
  | _, _ => none
def cutD {α : Type} (xs : List α) (lo hi : Option Int) : List α := (xs.drop (HT.sIx xs.length 0 lo)).take (HT.sIx xs.length xs.length hi - HT.sIx xs.length 0 lo)
def sliD : D → Option Int → Option Int → Option (D × Kd)
  | .tup xs, lo, hi => some (.tup (cutD xs lo hi), .clean)
  | .lst xs, lo, hi => some (.lst (cutD xs lo hi), .fresh)
  | .str x, lo, hi => if x.length ≤ sizeLine then some (.str (cutS x lo hi), .clean) else none
  | _, _, _ => none
end Ev
set_option Elab.async false
set_option linter.all false
set_option autoImplicit false
/-! Tx: texts in order, each once. -/
namespace Ev
open PySem
/-- the texts of a list, each once: the later ones first -/
def addAll : List Str → List Str → List Str
  | [], acc => acc
  | x :: r, acc => addAll r (if x ∈ acc then acc else x :: acc)
theorem addAll_mem : ∀ (l acc : List Str) (y : Str), y ∈ addAll l acc ↔ y ∈ l ∨ y ∈ acc
  | [], acc, y => by simp [addAll]
  | x :: r, acc, y => by
    rw [addAll, addAll_mem r]
    by_cases h : x ∈ acc
    · rw [if_pos h, List.mem_cons]
      constructor
      · rintro (z | z)
        · exact .inl (.inr z)
        · exact .inr z
      · rintro ((z | z) | z)
        · exact .inr (z ▸ h)
        · exact .inl z
        · exact .inr z
    · rw [if_neg h, List.mem_cons, List.mem_cons]
      constructor
      · rintro (z | z | z)
        · exact .inl (.inr z)
        · exact .inl (.inl z)
        · exact .inr z
      · rintro ((z | z) | z)
        · exact .inr (.inl z)
        · exact .inl z
        · exact .inr (.inr z)
theorem addAll_nodup : ∀ (l acc : List Str), acc.Nodup → (addAll l acc).Nodup
  | [], acc, h => h
  | x :: r, acc, h => by
    rw [addAll]
    refine addAll_nodup r _ ?_
    by_cases hx : x ∈ acc
    · rw [if_pos hx]
      exact h
    · rw [if_neg hx]
      exact List.nodup_cons.mpr ⟨hx, h⟩
theorem addAll_len : ∀ (l acc : List Str), (addAll l acc).length ≤ l.length + acc.length
  | [], acc => by simp [addAll]
  | x :: r, acc => by
    rw [addAll]
    have := addAll_len r (if x ∈ acc then acc else x :: acc)
    have e : (if x ∈ acc then acc else x :: acc).length ≤ acc.length + 1 := by
      split
      · omega
      · simp
    rw [List.length_cons]
    omega
def strLe (a b : Str) : Bool := decide (a.cps.toList ≤ b.cps.toList)
theorem strLe_total : PySem.W.TotalLe strLe := by
  have e : strLe = PySem.W.dataLe false (fun x : Str => PyData.str x) := (PySem.W.dataLe_str (fun x : Str => x)).symm
  rw [e]
  exact PySem.W.sortLe_total _ _ _
theorem strLe_anti {a b : Str} (h1 : strLe a b = true) (h2 : strLe b a = true) : a = b := by
  have q1 : a.cps.toList ≤ b.cps.toList := of_decide_eq_true h1
  have q2 : b.cps.toList ≤ a.cps.toList := of_decide_eq_true h2
  exact PySem.W.str_of_cps (List.le_antisymm q1 q2)
/-- ascending, each once -/
def sortSet (xs : List Str) : List Str := (addAll xs []).mergeSort strLe
theorem mergeSort_perm_eq {l m : List Str} (p : l.Perm m) : l.mergeSort strLe = m.mergeSort strLe := by
  have s1 := PySem.W.sort_pairwise strLe_total l
  have s2 := PySem.W.sort_pairwise strLe_total m
  have p2 : (l.mergeSort strLe).Perm (m.mergeSort strLe) := (List.mergeSort_perm l strLe).trans (p.trans (List.mergeSort_perm m strLe).symm)
  exact p2.eq_of_pairwise (fun a b _ _ h1 h2 => strLe_anti h1 h2) s1 s2
theorem sortSet_mem {xs : List Str} {y : Str} : y ∈ sortSet xs ↔ y ∈ xs := by
  unfold sortSet
  rw [List.mem_mergeSort, addAll_mem]
  simp
theorem sortSet_le (xs : List Str) : (sortSet xs).Pairwise (fun a b => strLe a b = true) := PySem.W.sort_pairwise strLe_total _
theorem sortSet_nodup (xs : List Str) : (sortSet xs).Nodup := (List.mergeSort_perm _ _).nodup_iff.mpr (addAll_nodup xs [] List.nodup_nil)
end Ev
set_option Elab.async false
set_option linter.all false
/-! Ev2: the evaluator. -/
namespace Ev
open PySem L2 M
def isOwn (ρ : List Slot) (i : Nat) : Bool := match ρ[i]? with
  | some (.own _) => true
  | _ => false
def put1 (ρ : List Slot) (i : Nat) (d : D) : Option (List Slot) := if isOwn ρ i then none else some (ρ.set i (.val d))
def puts : List Slot → List Nat → List D → Option (List Slot)
  | ρ, i :: is, d :: ds => (put1 ρ i d).bind fun ρ' => puts ρ' is ds
  | ρ, [], [] => some ρ
  | _, _, _ => none
def put (ρ : List Slot) : Tg → D → Option (List Slot)
  | .one i, d => put1 ρ i d
  | .tup is, .tup ds => puts ρ is ds
  | .tup is, .lst ds => puts ρ is ds
  | _, _ => none
def wipeS (ρ : List Slot) : List Nat → List Slot
  | [] => ρ
  | v :: vs => (wipeS ρ vs).set v .no
/-- the elements of a comprehension -/
def lcM (f : D → M (Option (D × Bool))) : List D → M (List D × Bool)
  | [] => ret ([], true)
  | x :: xs => bnd (f x) fun r => bnd (lcM f xs) fun q => match r with
    | none => ret q
    | some p => ret (p.1 :: q.1, p.2 && q.2)
def seqD : D → Option (List D)
  | .tup xs => some xs
  | .lst xs => some xs
  | .str x => if x.length ≤ sizeLine then some (x.cps.toList.map fun c => .str ⟨#[c]⟩) else none
  | _ => none
def rngD (lo : Int) (n : Nat) : List D := (List.range n).map fun (i : Nat) => .int (lo + i)
def enmD : Nat → List D → List D
  | _, [] => []
  | i, x :: xs => .tup [.int i, x] :: enmD (i + 1) xs
def boolsD : List D → Option (List Bool)
  | [] => some []
  | .bl b :: r => (boolsD r).map (b :: ·)
  | _ :: _ => none
def strsD : List D → Option (List Str)
  | [] => some []
  | .str x :: r => (strsD r).map (x :: ·)
  | _ :: _ => none
def pyD (d : D) : PyData := d.py.getD .none
/-- a list that Python can sort -/
def sortOk (ys : List PyData) : Bool := ys.all (fun a => SeqAt.shaped a && ys.all fun b => PySem.W.alike a b) &&
  (ys.all (fun d => match d with | .tuple (_ :: _) => true | _ => false) || ys.all fun d => match d with | .none => false | .tuple _ => false | _ => true)
def showOk (y : PyData) : Bool := y.showable && !y.hasDict && decide (y.depth ≤ 64) && decide (y.shown.length ≤ sizeLine)
def intsD : List D → Option (List Int)
  | [] => some []
  | .int i :: r => (intsD r).map (i :: ·)
  | _ :: _ => none
def bltD : Blt → D → Option (D × Kd)
  | .len, .tup xs => some (.int xs.length, .clean)
  | .len, .lst xs => some (.int xs.length, .clean)
  | .len, .str x => if x.length ≤ sizeLine then some (.int x.length, .clean) else none
  | .int, .int i => some (.int i, .clean)
  | .int, .bl b => some (.int (if b then 1 else 0), .clean)
  | .abs, .int i => some (.int (if i < 0 then -i else i), .clean)
  | .tuple, .tup xs => some (.tup xs, .clean)
  | .tuple, .lst xs => some (.tup xs, .clean)
  | .list, .tup xs => some (.lst xs, .fresh)
  | .list, .lst xs => some (.lst xs, .fresh)
  | .all, .lst xs => (boolsD xs).map fun bs => (.bl (bs.all id), .clean)
  | .any, .lst xs => (boolsD xs).map fun bs => (.bl (bs.any id), .clean)
  | .repr, d => match d with
    | .tup _ | .lst _ => d.py.bind fun y => if showOk y then some (.str y.shown, .clean) else none
    | .int i => if i.natAbs.log2 < 1920 then some (.str (toString i), .clean) else none
    | .non => some (.str "None", .clean)
    | .bl b => some (.str (if b then "True" else "False"), .clean)
    | .str x => if (reprText x).length ≤ sizeLine then some (.str (reprText x), .clean) else none
    | _ => none
  | .sorted, .lst xs => (D.pys xs).bind fun ys => if sortOk ys then some (.lst (xs.mergeSort (PySem.W.dataLe false pyD)), .fresh) else none
  | .sum, .lst xs => (intsD xs).map fun is => (.int is.sum, .clean)
  | .max, .lst xs => (intsD xs).bind fun is => is.max?.map fun m => (.int m, .clean)
  | .min, .lst xs => (intsD xs).bind fun is => is.min?.map fun m => (.int m, .clean)
  | .sortset, .lst xs => (strsD xs).bind fun ys => if ys.length < 1000 then some (.lst ((sortSet ys).map .str), .fresh) else none
  | .sortset, .tup xs => (strsD xs).bind fun ys => if ys.length < 1000 then some (.lst ((sortSet ys).map .str), .fresh) else none
  | _, _ => none
def lenD : D → Option Nat
  | .tup xs => some xs.length
  | .lst xs => some xs.length
  | _ => none
/-- by length, then by itself -/
def rankD (d : D) : D := .tup [.int ((lenD d).getD 0 : Nat), d]
def flatTup : D → Bool
  | .tup xs => xs.all D.flat
  | _ => false
def srtD : D → Option D
  | .lst xs => (D.pys (xs.map rankD)).bind fun ys => if sortOk ys && xs.all flatTup then some (.lst (xs.mergeSort (PySem.W.dataLe false fun x => pyD (rankD x)))) else none
  | _ => none
def splitD : D → D → Option D
  | .str a, .str b => if (b.length == 0) = false ∧ a.length + 2 ≤ sizeLine then some (.lst ((Txt.split a b).map .str)) else none
  | _, _ => none
/-- xs.index(y) -/
def lidxD : D → D → Option Int
  | .lst xs, d => match D.pys xs, d.py with
    | some ys, some y => if SeqAt.shaped (.list ys) && SeqAt.shaped y then (ys.findIdx? fun z => PyData.eqv z y).map (fun (i : Nat) => Int.ofNat i) else none
    | _, _ => none
  | _, _ => none
/-- how a result lies, by how its operands do -/
def Kd.by (k : Kd) (d : D) (ok : Bool) : Kd := if ok then k else if d.atom then .clean else .dirty
def Kd.nd : Kd → Bool
  | .dirty => false
  | _ => true
def boolM : D → M Bool
  | .bl b => ret b
  | _ => fail
def intM : D → M Int
  | .int i => ret i
  | _ => fail
/-- the value of a slot -/
def varM (i : Nat) (ρ : List Slot) : M (D × Kd) := match ρ[i]? with
  | some (.val d) => ret (d, .clean)
  | some (.own d) => ret (d, .own)
  | _ => fail
/-! the bag's own reading and writing -/
def isBag (s : Nat) (ρ : List Slot) : Bool := match ρ[s]? with
  | some (.val .bag) => true
  | _ => false
def Bag.get (g : Bag) : Nat → Option Int
  | 0 => some g.d
  | 1 => some g.m
  | 2 => some g.c
  | _ => none
def Bag.put (g : Bag) : Nat → Int → Option Bag
  | 0, v => some ⟨v, g.m, g.c, g.cells⟩
  | 1, v => some ⟨g.d, v, g.c, g.cells⟩
  | 2, v => some ⟨g.d, g.m, v, g.cells⟩
  | _, _ => none
def Bag.okB (g : Bag) : Bool := decide (0 ≤ g.d) && decide (0 ≤ g.m) && decide (g.m < 2147483647) && decide (0 ≤ g.c) && g.cells.all (fun x => decide (0 ≤ x)) && decide (g.cells.length ≤ 63)
def bgetM (s i : Nat) (ρ : List Slot) : M (D × Kd) := guard (isBag s ρ) fun g => (g.get i).map fun v => ((.int v, .clean), g)
def bcellM (s : Nat) (ρ : List Slot) : M (D × Kd) := guard (isBag s ρ) fun g => (atI g.cells g.c).map fun v => ((.int v, .clean), g)
def blenM (s : Nat) (ρ : List Slot) : M (D × Kd) := guard (isBag s ρ) fun g => some ((.int (g.cells.length : Nat), .clean), g)
def bsetM (s i : Nat) (v : Int) (ρ : List Slot) : M Unit := guard (isBag s ρ) fun g => (g.put i v).bind fun g' => if g'.okB then some ((), g') else none
abbrev Calls := Fn → List D → M (D × Kd)
/-- o.x: the place of the field by the class; a property -/
def fldM (C : Calls) (x : Str) (tab : List (Nat × Option Nat)) (p : D × Kd) : M (D × Kd) := match p.1 with
  | .ins c fs => (match tab.lookup c with
    | some (some j) => bnd (opt fs[j]?) fun r => ret (r, Kd.clean.by r p.2.nd)
    | some none => bnd (C (.p c x) [p.1]) fun r => ret (r.1, r.2.by r.1 p.2.ok)
    | none => fail)
  | _ => fail
/-- o.m(..) -/
def methM (C : Calls) (m : Str) (cs : List Nat) (p : D × Kd) (q : List D × Bool) : M (D × Kd) := match p.1 with
  | .ins c _ => guard (cs.contains c) (bnd (C (.m c m) (p.1 :: q.1)) fun r => ret (r.1, r.2.by r.1 (p.2.ok && q.2)))
  | _ => fail
/-- o(e, ..) -/
def appM (C : Calls) (cs : List Nat) (p : D × Kd) (q : List D × Bool) : M (D × Kd) := match p.1 with
  | .ins c _ => guard (cs.contains c) (bnd (C (.m c "__call__") (p.1 :: q.1)) fun r => ret (r.1, r.2.by r.1 (p.2.ok && q.2)))
  | _ => fail
/-- len(o) -/
def dlenM (C : Calls) (cs : List Nat) (p : D × Kd) : M (D × Kd) := match p.1 with
  | .ins c _ => guard (cs.contains c) (bnd (C (.p c "__len__") [p.1]) fun r => bnd (intM r.1) fun n => guard (decide (0 ≤ n) && decide (n < 2 ^ 62)) (ret (.int n, .clean)))
  | _ => fail
/-- x in o, x not in o -/
def dinM (C : Calls) (cs : List Nat) (neg : Bool) (p q : D × Kd) : M Bool := match q.1 with
  | .ins c _ => guard (cs.contains c) (bnd (C (.m c "__contains__") [q.1, p.1]) fun r => bnd (boolM r.1) fun t => ret (neg != t))
  | _ => fail
/-- o == o' -/
def deqM (C : Calls) (cs : List Nat) (p q : D × Kd) : M Bool := match p.1, q.1 with
  | .ins c _, .ins c' _ => guard (cs.contains c && decide (c = c')) (bnd (C (.m c "__eq__") [p.1, q.1]) fun r => boolM r.1)
  | _, _ => fail
/-- o + a tuple -/
def daddM (C : Calls) (cs : List Nat) (p q : D × Kd) : M (D × Kd) := match p.1, q.1 with
  | .ins c _, .tup _ => guard (cs.contains c) (bnd (C (.m c "__add__") [p.1, q.1]) fun r => ret (r.1, r.2.by r.1 (p.2.ok && q.2.ok)))
  | _, _ => fail
/-- o | o' -/
def dorM (C : Calls) (cs : List Nat) (p q : D × Kd) : M (D × Kd) := match p.1, q.1 with
  | .ins c _, .ins c' _ => guard (cs.contains c && decide (c = c')) (bnd (C (.m c "__or__") [p.1, q.1]) fun r => ret (r.1, r.2.by r.1 (p.2.ok && q.2.ok)))
  | _, _ => fail
/-- o[i] -/
def didxM (C : Calls) (cs : List Nat) (p q : D × Kd) : M (D × Kd) := match p.1 with
  | .ins c _ => guard (cs.contains c) (bnd (C (.p c "__getitem__") [p.1, q.1]) fun r => ret (r.1, r.2.by r.1 (p.2.ok && q.2.ok)))
  | _ => fail
def Dop.mt : Dop → Str
  | .isin => "__contains__"
  | .notin => "__contains__"
  | .eq => "__eq__"
  | .add => "__add__"
  | .bor => "__or__"
  | .item => "__getitem__"
def dunB (C : Calls) (cs : List Nat) : Dop → D × Kd → D × Kd → M Bool
  | .isin, p, q => dinM C cs false p q
  | .notin, p, q => dinM C cs true p q
  | .eq, p, q => deqM C cs p q
  | _, _, _ => fail
def dunM (C : Calls) (cs : List Nat) : Dop → D × Kd → D × Kd → M (D × Kd)
  | .add, p, q => daddM C cs p q
  | .bor, p, q => dorM C cs p q
  | .item, p, q => didxM C cs p q
  | o, p, q => bnd (dunB C cs o p q) fun t => ret (.bl t, .clean)
/-- .. in a test -/
def dunT (C : Calls) (cs : List Nat) : Dop → D × Kd → D × Kd → M Bool
  | .add, _, _ => fail
  | .bor, _, _ => fail
  | .item, p, q => bnd (didxM C cs p q) fun r => opt (truth r.1)
  | o, p, q => dunB C cs o p q
def isiOne : Ty → D → Option Bool
  | .cls _, _ => none
  | _, .bag => none
  | _, .ins _ _ => none
  | .int, .int _ => some true
  | .int, .bl _ => some true
  | .bool, .bl _ => some true
  | .str, .str _ => some true
  | .tuple, .tup _ => some true
  | .list, .lst _ => some true
  | _, _ => some false
def iscD (c : Nat) : D → Option Bool
  | .ins c' _ => some (decide (c' = c))
  | .bag => none
  | _ => some false
def isiD : List Ty → D → Option Bool
  | [], _ => some false
  | t :: ts, d => match isiOne t d with
    | none => none
    | some true => some true
    | some false => isiD ts d
variable (C : Calls)
mutual
def evE : E → List Slot → M (D × Kd)
  | .con d, _ => ret (d, .clean)
  | .var i, ρ => varM i ρ
  | .tup es, ρ => bnd (evEs es ρ) fun q => guard (decide (q.1.length ≤ sizeLine)) (ret (.tup q.1, if q.2 then .clean else .dirty))
  | .lst es, ρ => bnd (evEs es ρ) fun q => guard (decide (q.1.length ≤ sizeLine)) (ret (.lst q.1, if q.2 then .fresh else .dirty))
  | .lc g vs it c e, ρ => guard (vs.all fun i => !isOwn ρ i) <| bnd (evIt it true ρ) fun xs => bnd (lcM (fun x => match put (wipeS ρ vs) g x with
      | none => fail
      | some ρ' => bnd (evTo c ρ') fun t => if t then bnd (evE e ρ') fun p => ret (some (p.1, p.2.ok)) else ret none) xs) fun q => ret (.lst q.1, if q.2 then .fresh else .dirty)
  | .and a b, ρ => bnd (evE a ρ) fun p => bnd (boolM p.1) fun t => if t then evE b ρ else ret (.bl false, .clean)
  | .or a b, ρ => bnd (evE a ρ) fun p => bnd (boolM p.1) fun t => if t then ret (.bl true, .clean) else evE b ρ
  | .not a, ρ => bnd (evE a ρ) fun p => bnd (boolM p.1) fun t => ret (.bl (!t), .clean)
  | .ite c a b, ρ => bnd (evT c ρ) fun t => if t then evE a ρ else evE b ρ
  | .cmp op a b, ρ => bnd (evE a ρ) fun p => bnd (evE b ρ) fun q => bnd (opt (cmpD op p.1 q.1)) fun t => ret (.bl t, .clean)
  | .chain op op' a b c, ρ => bnd (evE a ρ) fun p => bnd (evE b ρ) fun q => bnd (opt (cmpD op p.1 q.1)) fun t =>
      if t then bnd (evE c ρ) fun r => bnd (opt (cmpD op' q.1 r.1)) fun u => ret (.bl u, .clean) else ret (.bl false, .clean)
  | .bin op a b, ρ => bnd (evE a ρ) fun p => bnd (evE b ρ) fun q => bnd (opt (binD op p.1 q.1)) fun r => ret (r.1, r.2.by r.1 (p.2.nd && q.2.nd))
  | .neg a, ρ => bnd (evE a ρ) fun p => bnd (intM p.1) fun i => ret (.int (-i), .clean)
  | .idx a i, ρ => bnd (evE a ρ) fun p => bnd (evE i ρ) fun q => bnd (opt (idxD p.1 q.1)) fun r => ret (r, Kd.clean.by r p.2.nd)
  | .sli a lo hi, ρ => bnd (evE a ρ) fun p => bnd (evOe lo ρ) fun l => bnd (evOe hi ρ) fun h => match l, h with
    | none, some (.int j) => bnd (opt (sliD p.1 none (some j))) fun r => ret (r.1, r.2.by r.1 p.2.nd)
    | some (.int i), none => bnd (opt (sliD p.1 (some i) none)) fun r => ret (r.1, r.2.by r.1 p.2.nd)
    | some (.int i), some (.int j) => bnd (opt (sliD p.1 (some i) (some j))) fun r => ret (r.1, r.2.by r.1 p.2.nd)
    | _, _ => fail
  | .call f as, ρ => bnd (evEs as ρ) fun q => bnd (C (.f f) q.1) fun r => ret (r.1, r.2.by r.1 q.2)
  | .blt f a, ρ => bnd (evE a ρ) fun p => bnd (opt (bltD f p.1)) fun r => ret (r.1, r.2.by r.1 p.2.nd)
  | .srt _ a, ρ => bnd (evE a ρ) fun p => bnd (opt (srtD p.1)) fun r => ret (r, Kd.fresh.by r p.2.nd)
  | .split a b, ρ => bnd (evE a ρ) fun p => bnd (evE b ρ) fun q => bnd (opt (splitD p.1 q.1)) fun r => ret (r, .fresh)
  | .bget s i, ρ => bgetM s i ρ
  | .bcell s, ρ => bcellM s ρ
  | .blen s, ρ => blenM s ρ
  | .glob _ d, _ => ret (d, .clean)
  | .fld e x tab, ρ => bnd (evE e ρ) fun p => fldM C x tab p
  | .meth e m cs as, ρ => bnd (evE e ρ) fun p => bnd (evEs as ρ) fun q => methM C m cs p q
  | .mk c as, ρ => bnd (evEs as ρ) fun q => bnd (C (.i c) q.1) fun r => ret (r.1, r.2.by r.1 q.2)
  | .isi e ts, ρ => bnd (evE e ρ) fun p => bnd (opt (isiD ts p.1)) fun t => ret (.bl t, .clean)
  | .rev e, ρ => bnd (evE e ρ) fun p => bnd (opt (revD p.1)) fun r => ret (r, Kd.fresh.by r p.2.nd)
  | .app e cs as, ρ => bnd (evE e ρ) fun p => bnd (evEs as ρ) fun q => appM C cs p q
  | .dlen e cs, ρ => bnd (evE e ρ) fun p => dlenM C cs p
  | .dun o a b cs, ρ => bnd (evE a ρ) fun p => bnd (evE b ρ) fun q => dunM C cs o p q
  | .isc e c, ρ => bnd (evE e ρ) fun p => bnd (opt (iscD c p.1)) fun t => ret (.bl t, .clean)
  | .lidx a b, ρ => bnd (evE a ρ) fun p => bnd (evE b ρ) fun q => bnd (opt (lidxD p.1 q.1)) fun i => ret (.int i, .clean)
/-- a test -/
def evT : E → List Slot → M Bool
  | .and a b, ρ => bnd (evT a ρ) fun t => if t then evT b ρ else ret false
  | .or a b, ρ => bnd (evT a ρ) fun t => if t then ret true else evT b ρ
  | .not a, ρ => bnd (evT a ρ) fun t => ret (!t)
  | .cmp op a b, ρ => bnd (evE a ρ) fun p => bnd (evE b ρ) fun q => opt (cmpD op p.1 q.1)
  | .chain op op' a b c, ρ => bnd (evE a ρ) fun p => bnd (evE b ρ) fun q => bnd (opt (cmpD op p.1 q.1)) fun t =>
      if t then bnd (evE c ρ) fun r => opt (cmpD op' q.1 r.1) else ret false
  | .ite _ _ _, _ => fail
  | .con d, _ => opt (truth d)
  | .var i, ρ => bnd (varM i ρ) fun p => opt (truth p.1)
  | .tup es, ρ => bnd (evEs es ρ) fun q => guard (decide (q.1.length ≤ sizeLine)) (ret (!q.1.isEmpty))
  | .call f as, ρ => bnd (evEs as ρ) fun q => bnd (C (.f f) q.1) fun r => opt (truth r.1)
  | .blt f a, ρ => bnd (evE a ρ) fun p => bnd (opt (bltD f p.1)) fun r => opt (truth r.1)
  | .idx a i, ρ => bnd (evE a ρ) fun p => bnd (evE i ρ) fun q => bnd (opt (idxD p.1 q.1)) fun r => opt (truth r)
  | .meth e m cs as, ρ => bnd (evE e ρ) fun p => bnd (evEs as ρ) fun q => bnd (methM C m cs p q) fun r => opt (truth r.1)
  | .fld e x tab, ρ => bnd (evE e ρ) fun p => bnd (fldM C x tab p) fun r => opt (truth r.1)
  | .isi e ts, ρ => bnd (evE e ρ) fun p => opt (isiD ts p.1)
  | .app e cs as, ρ => bnd (evE e ρ) fun p => bnd (evEs as ρ) fun q => bnd (appM C cs p q) fun r => opt (truth r.1)
  | .dlen e cs, ρ => bnd (evE e ρ) fun p => bnd (dlenM C cs p) fun r => opt (truth r.1)
  | .dun o a b cs, ρ => bnd (evE a ρ) fun p => bnd (evE b ρ) fun q => dunT C cs o p q
  | .isc e c, ρ => bnd (evE e ρ) fun p => opt (iscD c p.1)
  | _, _ => fail
def evTo : Oe → List Slot → M Bool
  | .no, _ => ret true
  | .yes e, ρ => evT e ρ
def evOe : Oe → List Slot → M (Option D)
  | .no, _ => ret none
  | .yes e, ρ => bnd (evE e ρ) fun p => ret (some p.1)
def evEs : Es → List Slot → M (List D × Bool)
  | .nil, _ => ret ([], true)
  | .cons e r, ρ => bnd (evE e ρ) fun p => bnd (evEs r ρ) fun q => ret (p.1 :: q.1, p.2.ok && q.2)
  | .star e r, ρ => bnd (evE e ρ) fun p => match p.1 with
    | .tup xs => bnd (evEs r ρ) fun q => ret (xs ++ q.1, p.2.nd && q.2)
    | .lst xs => bnd (evEs r ρ) fun q => ret (xs ++ q.1, p.2.nd && q.2)
    | _ => fail
def evIt : It → Bool → List Slot → M (List D)
  | .seq e, own, ρ => bnd (evE e ρ) fun p => guard (p.2.ok || (own && p.2.nd)) (opt (seqD p.1))
  | .rng e, _, ρ => bnd (evE e ρ) fun p => bnd (intM p.1) fun j => guard (line62 j && decide (j ≤ sizeLine)) (ret (rngD 0 j.toNat))
  | .rng2 a b, _, ρ => bnd (evE a ρ) fun p => bnd (evE b ρ) fun q => bnd (intM p.1) fun i => bnd (intM q.1) fun j =>
      guard (line62 i && line62 j && decide (j - i ≤ sizeLine)) (ret (rngD i (j - i).toNat))
  | .enm e, own, ρ => bnd (evE e ρ) fun p => guard (p.2.ok || (own && p.2.nd)) (match p.1 with
    | .lst xs => ret (enmD 0 xs)
    | _ => fail)
  | .zip a b, _, ρ => bnd (evE a ρ) fun p => bnd (evE b ρ) fun q => guard (p.2.ok && q.2.ok) (match p.1, q.1 with
    | .tup xs, .tup ys => ret (zipD xs ys)
    | _, _ => fail)
end
/-! ### statements -/
inductive Mt where
  | append | insert | clear
  deriving DecidableEq
mutual
inductive S where
  | set (i : Nat) (own : Bool) (e : E)
  | set2 (i j : Nat) (oi oj : Bool) (a b : E)
  | set3 (i j l : Nat) (oi oj ol : Bool) (a b c : E)
  | aug (i : Nat) (neg : Bool) (e : E)
  | unp (is : List Nat) (e : E)
  | mut (m : Mt) (i : Nat) (as : Es)
  | ext (i : Nat) (e : E)
  | expr (e : E)
  | ifs (c : E) (a b : Ss)
  | fors (g : Tg) (it : It) (body : Ss)
  | whl (c : E) (body : Ss)
  | ret (e : E)
  | bset (s i : Nat) (e : E)
  | baug (s i : Nat) (j : Int)
  | retc (f : Str) (as : Es)
  | fset (i : Nat) (x : Str) (c j : Nat) (e : E)
  | lput (i : Nat) (ix e : E)
  | pass
  | never
inductive Ss where
  | nil
  | cons (s : S) (r : Ss)
  | frz (i : Nat) (r : Ss)
end
inductive Fl where
  | nx (ρ : List Slot)
  | rt (d : D) (k : Kd)
  | bk (ρ : List Slot)
  | ct (ρ : List Slot)
def slotOf (own : Bool) (p : D × Kd) : M Slot := if own then (match p.2 with
    | .fresh => ret (.own p.1)
    | .clean => ret (.val p.1)
    | _ => fail) else guard p.2.ok (ret (.val p.1))
def mutD : Mt → D → List D → Option D
  | .append, .lst xs, [y] => if xs.length < sizeLine then some (.lst (xs ++ [y])) else none
  | .insert, .lst xs, [.int i, y] => if xs.length < sizeLine ∧ 0 ≤ i ∧ i < 2 ^ 63 then some (.lst (xs.take i.toNat ++ [y] ++ xs.drop i.toNat)) else none
  | .clear, .lst _, [] => some (.lst [])
  | _, _, _ => none
def forM (f : D → List Slot → M Fl) : List D → List Slot → M Fl
  | [], ρ => ret (.nx ρ)
  | x :: xs, ρ => bnd (f x ρ) fun l => match l with
    | .nx ρ' => forM f xs ρ'
    | .ct ρ' => forM f xs ρ'
    | .bk ρ' => ret (.nx ρ')
    | .rt d k => ret (.rt d k)
def whlM (c : List Slot → M Bool) (f : List Slot → M Fl) : Nat → List Slot → M Fl
  | 0, _ => fail
  | n + 1, ρ => bnd (c ρ) fun t => if t then bnd (f ρ) fun l => (match l with
    | .nx ρ' => whlM c f n ρ'
    | .ct ρ' => whlM c f n ρ'
    | .bk ρ' => ret (.nx ρ')
    | .rt d k => ret (.rt d k)) else ret (.nx ρ)
/-- self.x = v, in the order of the class's fields -/
def fsetM (ρ : List Slot) (i c j : Nat) (d : D) : M Fl := match ρ[i]? with
  | some (.own (.ins c' fs)) => guard (decide (c' = c) && decide (fs.length = j)) (ret (.nx (ρ.set i (.own (.ins c (fs ++ [d]))))))
  | _ => fail
/-- xs[n] = v -/
def lputM (ρ : List Slot) (i : Nat) (n : Int) (d : D) : M Fl := match ρ[i]? with
  | some (.own (.lst xs)) => bnd (opt (ixN xs.length n)) fun j => ret (.nx (ρ.set i (.own (.lst (xs.set j d)))))
  | _ => fail
/-- what a return hands back -/
def Kd.out : Kd → Kd
  | .own => .fresh
  | .fresh => .fresh
  | _ => .clean
mutual
def exS : S → List Slot → M Fl
  | .set i own e, ρ => bnd (evE C e ρ) fun p => bnd (slotOf own p) fun s => ret (.nx (ρ.set i s))
  | .set2 i j oi oj a b, ρ => bnd (evE C a ρ) fun p => bnd (evE C b ρ) fun q => bnd (slotOf oi p) fun s => bnd (slotOf oj q) fun t => ret (.nx ((ρ.set i s).set j t))
  | .set3 i j l oi oj ol a b c, ρ => bnd (evE C a ρ) fun p => bnd (evE C b ρ) fun q => bnd (evE C c ρ) fun r => bnd (slotOf oi p) fun s => bnd (slotOf oj q) fun t => bnd (slotOf ol r) fun u => ret (.nx (((ρ.set i s).set j t).set l u))
  | .aug i neg e, ρ => bnd (varM i ρ) fun q => bnd (intM q.1) fun x => bnd (evE C e ρ) fun p => bnd (intM p.1) fun y => ret (.nx (ρ.set i (.val (.int (if neg then x - y else x + y)))))
  | .unp is e, ρ => bnd (evE C e ρ) fun p => guard p.2.ok (bnd (opt (put ρ (.tup is) p.1)) fun ρ' => ret (.nx ρ'))
  | .mut m i as, ρ => match ρ[i]? with
    | some (.own d) => bnd (evEs C as ρ) fun q => guard q.2 (bnd (opt (mutD m d q.1)) fun d' => ret (.nx (ρ.set i (.own d'))))
    | _ => fail
  | .ext i e, ρ => match ρ[i]? with
    | some (.own (.lst xs)) => bnd (evE C e ρ) fun p => match p with
      | (.lst ys, .fresh) => guard (decide (xs.length + ys.length ≤ sizeLine)) (ret (.nx (ρ.set i (.own (.lst (xs ++ ys))))))
      | _ => fail
    | _ => fail
  | .expr e, ρ => bnd (evE C e ρ) fun _ => ret (.nx ρ)
  | .ifs c a b, ρ => bnd (evT C c ρ) fun t => if t then exSs a ρ else exSs b ρ
  | .fors g it body, ρ => bnd (evIt C it false ρ) fun xs => forM (fun x ρ => bnd (opt (put ρ g x)) fun ρ' => exSs body ρ') xs ρ
  | .whl c body, ρ => whlM (evT C c) (exSs body) 1000 ρ
  | .ret e, ρ => bnd (evE C e ρ) fun p => ret (.rt p.1 p.2.out)
  | .bset s i e, ρ => bnd (evE C e ρ) fun p => bnd (intM p.1) fun v => bnd (bsetM s i v ρ) fun _ => ret (.nx ρ)
  | .baug s i j, ρ => bnd (bgetM s i ρ) fun p => bnd (intM p.1) fun v => bnd (bsetM s i (v + j) ρ) fun _ => ret (.nx ρ)
  | .retc f as, ρ => bnd (evEs C as ρ) fun q => bnd (C (.f f) q.1) fun r => ret (.rt r.1 r.2)
  | .fset i _ c j e, ρ => bnd (evE C e ρ) fun p => guard p.2.ok (fsetM ρ i c j p.1)
  | .lput i ix e, ρ => bnd (evE C e ρ) fun p => bnd (evE C ix ρ) fun q => bnd (intM q.1) fun n => guard p.2.ok (lputM ρ i n p.1)
  | .pass, ρ => ret (.nx ρ)
  | .never, _ => fail
def exSs : Ss → List Slot → M Fl
  | .nil, ρ => ret (.nx ρ)
  | .frz i r, ρ => match ρ[i]? with
    | some (.own d) => exSs r (ρ.set i (.val d))
    | _ => fail
  | .cons s r, ρ => bnd (exS s ρ) fun l => match l with
    | .nx ρ' => exSs r ρ'
    | l => ret l
end
/-- a def: its slots, its body -/
structure Fd where
  np : Nat
  n : Nat
  body : Ss
def startS (n : Nat) (ds : List D) : List Slot := ds.map .val ++ List.replicate (n - ds.length) .no
/-- a def's body, run -/
def defM (o : Option Fd) (C : Calls) (ds : List D) : M (D × Kd) := match o with
  | none => fail
  | some fd => guard (decide (ds.length = fd.np)) <| bnd (exSs C fd.body (startS fd.n ds)) fun l => match l with
    | .rt d kd => ret (d, kd)
    | .nx _ => ret (.non, .clean)
    | _ => fail
def startI (n c : Nat) (ds : List D) : List Slot := .own (.ins c []) :: (ds.map .val ++ List.replicate (n - (ds.length + 1)) .no)
/-- what is made, behind the end of __init__ -/
def madeM : Fl → M (D × Kd)
  | .nx ρ => (match (ρ[0]? : Option Slot) with
    | some (.own d) => ret (d, .fresh)
    | _ => fail)
  | _ => fail
def initM (o : Option Fd) (c : Nat) (C : Calls) (ds : List D) : M (D × Kd) := match o with
  | none => fail
  | some fd => guard (decide (ds.length + 1 = fd.np)) <| bnd (exSs C fd.body (startI fd.n c ds)) madeM
/-- the defs by their trees, to a depth -/
def runF (Γ : Fn → Option Fd) : Nat → Calls
  | 0, _, _ => fail
  | k + 1, .f x, ds => defM (Γ (.f x)) (runF Γ k) ds
  | k + 1, .m c x, ds => defM (Γ (.m c x)) (runF Γ k) ds
  | 1, .p _ _, _ => fail
  | k + 2, .p c x, ds => defM (Γ (.m c x)) (runF Γ k) ds
  | 1, .i _, _ => fail
  | k + 2, .i c, ds => initM (Γ (.m c "__init__")) c (runF Γ k) ds
end Ev
set_option Elab.async false
set_option linter.all false
set_option autoImplicit false
/-! Ev3: what an evaluated tree says of the machine's run: the relation, the first rules. -/
namespace Ev
open PySem L2 M
/-! ### the strongest readings -/
def wpE (X : Cx) (e : Expr) : TE := fun σ H Q => ∀ (pins : List (Addr × Obj)) (s : Shared), Inv X pins σ H s → wpAny (model X.prog X.w) X.A (eval e X.env) (EP X pins σ Q) X.xe s
def wpT (X : Cx) (e : Expr) : TT := fun σ H Q => ∀ (pins : List (Addr × Obj)) (s : Shared), Inv X pins σ H s → wpAny (model X.prog X.w) X.A (isTrue e X.env (eval e X.env)) (TP X pins σ Q) X.xe s
def wpA (X : Cx) (es : List Expr) : TA := fun σ H Q => ∀ (pos : Pos) (pins : List (Addr × Obj)) (s : Shared), Inv X pins σ H s → wpAny (model X.prog X.w) X.A (spliced (backTo pos (starEach es X.env))) (AP X pins σ Q) X.xe s
def wpS (X : Cx) (st : Stmt) : TS := fun D σ H => ∀ (pins : List (Addr × Obj)) (s : Shared), Inv X pins σ H s → wpAny (model X.prog X.w) X.A (exec st X.env) (SP X pins D) X.xe s
def wpSs (X : Cx) (st : List Stmt) : TS := fun D σ H => ∀ (pins : List (Addr × Obj)) (s : Shared), Inv X pins σ H s → wpAny (model X.prog X.w) X.A (execs st X.env) (SP X pins D) X.xe s
section
variable {X : Cx} {e : Expr} {es : List Expr} {st : Stmt} {sts : List Stmt} {σ : St} {H : Hp}
theorem pe_wp : PE X e (wpE X e) := ⟨fun pins s _ _ _ I h => h pins s I⟩
theorem pt_wp : PT X e (wpT X e) := ⟨fun pins s _ _ _ I h => h pins s I⟩
theorem pa_wp : PA X es (wpA X es) := ⟨fun pos pins s _ _ _ I h => h pos pins s I⟩
theorem ps_wp : PS X st (wpS X st) := ⟨fun pins s _ _ _ I h => h pins s I⟩
theorem pss_wp : PSs X sts (wpSs X sts) := ⟨fun pins s _ _ _ I h => h pins s I⟩
theorem PE.wp {t : TE} (p : PE X e t) {Q : VK} (h : t σ H Q) : wpE X e σ H Q := fun pins s I => p.run pins s σ H Q I h
theorem PT.wp {t : TT} (p : PT X e t) {Q : Bool → Hp → Prop} (h : t σ H Q) : wpT X e σ H Q := fun pins s I => p.run pins s σ H Q I h
theorem PA.wp {t : TA} (p : PA X es t) {Q : List V → Hp → Prop} (h : t σ H Q) : wpA X es σ H Q := fun pos pins s I => p.run pos pins s σ H Q I h
theorem PS.wp {t : TS} (p : PS X st t) {Z : Ends} (h : t Z σ H) : wpS X st Z σ H := fun pins s I => p.run pins s σ H Z I h
theorem PSs.wp {t : TS} (p : PSs X sts t) {Z : Ends} (h : t Z σ H) : wpSs X sts Z σ H := fun pins s I => p.run pins s σ H Z I h
theorem wpE.mono {Q Q' : VK} (h : wpE X e σ H Q) (m : ∀ v H', Q v H' → Q' v H') : wpE X e σ H Q' := fun pins s I =>
  thn (h pins s I) fun u s1 ⟨v, H', I', r, q⟩ => ⟨v, H', I', r, m v H' q⟩
theorem wpT.mono {Q Q' : Bool → Hp → Prop} (h : wpT X e σ H Q) (m : ∀ t H', Q t H' → Q' t H') : wpT X e σ H Q' := fun pins s I =>
  thn (h pins s I) fun u s1 ⟨H', I', q⟩ => ⟨H', I', m u H' q⟩
end
/-! ### how slots lie -/
def hid (M₀ : Addr → Prop) (own : Nat → Addr) (ρ : List Slot) (a : Addr) : Prop := M₀ a ∨ ∃ (i : Nat) (d : D), ρ[i]? = some (.own d) ∧ own i = a
/-- the bag's own numbers are in their bounds -/
def Bag.ok (g : Bag) : Prop := 0 ≤ g.d ∧ 0 ≤ g.m ∧ g.m < 2147483647 ∧ 0 ≤ g.c ∧ (∀ x ∈ g.cells, 0 ≤ x) ∧ g.cells.length ≤ 63
structure BagAt (G : Gx) (H : Hp) (g : Bag) : Prop where
  at_ : G.cl.bc ≠ G.b ∧ H G.b = some (.lst [.int g.d, .int g.m, .int g.c, .ref G.cl.bc]) ∧ H G.cl.bc = some (.lst (g.cells.map V.int))
  ok : g.ok
theorem BagAt.some {G : Gx} {H : Hp} {g : Bag} (h : BagAt G H g) : H G.b ≠ none := by
  obtain ⟨_, e, _⟩ := h.at_
  rw [e]
  exact Option.some_ne_none _
structure Rel (G : Gx) (M₀ : Addr → Prop) (H₀ : Hp) (own : Nat → Addr) (ρ : List Slot) (σ : St) (H : Hp) : Prop where
  vl : ∀ (i : Nat) (d : D), ρ[i]? = some (.val d) → ∃ v, σ[i]? = some (some v) ∧ Rep G (vis (hid M₀ own ρ) H) v d
  ow : ∀ (i : Nat) (d : D), ρ[i]? = some (.own d) → σ[i]? = some (some (.ref (own i))) ∧ ¬ M₀ (own i) ∧ H₀ (own i) = none ∧ ∃ o, H (own i) = some o ∧ Cell G (vis (hid M₀ own ρ) H) o d
  inj : ∀ (i j : Nat) (d e : D), ρ[i]? = some (.own d) → ρ[j]? = some (.own e) → own i = own j → i = j
  hb : M₀ G.b
  hbc : M₀ G.cl.bc
  ext : Ext G.b H₀ H
  len : ρ.length = σ.length
  dom : ∀ a, M₀ a → H a ≠ none
section
variable {G : Gx} {M₀ : Addr → Prop} {H₀ H H' H'' : Hp} {own : Nat → Addr} {ρ : List Slot} {σ : St}
theorem hid.base {a : Addr} (h : M₀ a) : hid M₀ own ρ a := .inl h
theorem Rel.mb (R : Rel G M₀ H₀ own ρ σ H) : hid M₀ own ρ G.b := .inl R.hb
theorem Rel.move (R : Rel G M₀ H₀ own ρ σ H) (x : Ext G.b H H') (nb : H' G.b ≠ none) : Rel G M₀ H₀ own ρ σ H' where
  vl := fun i d e => by
    obtain ⟨v, h1, h2⟩ := R.vl i d e
    exact ⟨v, h1, h2.mono (vis_ext x R.mb fun _ z => z)⟩
  ow := fun i d e => by
    obtain ⟨h1, h2, h3, o, h4, h5⟩ := R.ow i d e
    exact ⟨h1, h2, h3, o, x _ _ (fun z => h2 (z ▸ R.hb)) h4, h5.mono (vis_ext x R.mb fun _ z => z)⟩
  inj := R.inj
  hb := R.hb
  hbc := R.hbc
  ext := R.ext.trans x
  len := R.len
  dom := fun a h => by
    by_cases e : a = G.b
    · rw [e]
      exact nb
    · have q := R.dom a h
      cases z : H a with
      | none => exact absurd z q
      | some o =>
        rw [x a o e z]
        exact Option.some_ne_none _
/-- every hidden address is there -/
theorem Rel.mdom (R : Rel G M₀ H₀ own ρ σ H) {a : Addr} (h : hid M₀ own ρ a) : H a ≠ none := by
  rcases h with h | ⟨i, d, e, rfl⟩
  · exact R.dom a h
  · obtain ⟨_, _, _, o, h4, _⟩ := R.ow i d e
    rw [h4]
    exact Option.some_ne_none _
theorem Rel.new (R : Rel G M₀ H₀ own ρ σ H) {a : Addr} (h : H a = none) : ¬ hid M₀ own ρ a := fun z => R.mdom z h
/-- how a value lies behind an evaluation from H to H' -/
def RV (G : Gx) (M₀ : Addr → Prop) (own : Nat → Addr) (ρ : List Slot) (H H' : Hp) (v : V) (d : D) : Kd → Prop
  | .dirty => Rep G (vis M₀ H') v d
  | .own => ∃ i, ρ[i]? = some (.own d) ∧ v = .ref (own i)
  | .clean => Rep G (vis (hid M₀ own ρ) H') v d
  | .fresh => ∃ p o, v = .ref p ∧ H p = none ∧ H' p = some o ∧ Cell G (vis (fun a => hid M₀ own ρ a ∨ a = p) H') o d
theorem sub_hid (H : Hp) : Sub (vis (hid M₀ own ρ) H) (vis M₀ H) := fun a o h => by
  obtain ⟨h1, h2⟩ := vis_iff.mp h
  exact vis_iff.mpr ⟨fun z => h1 (.inl z), h2⟩
theorem sub_or {M : Addr → Prop} {p : Addr} (H : Hp) : Sub (vis (fun a => M a ∨ a = p) H) (vis M H) := fun a o h => by
  obtain ⟨h1, h2⟩ := vis_iff.mp h
  exact vis_iff.mpr ⟨fun z => h1 (.inl z), h2⟩
/-- a value that may be kept -/
theorem RV.ok {v : V} {d : D} {k : Kd} (R : Rel G M₀ H₀ own ρ σ H) (h : RV G M₀ own ρ H H' v d k) (hk : k.ok = true) : Rep G (vis (hid M₀ own ρ) H') v d := by
  cases k with
  | dirty => cases hk
  | own => cases hk
  | clean => exact h
  | fresh =>
    obtain ⟨p, o, rfl, hp, ho, c⟩ := h
    exact c.rep (sub_or H') (vis_iff.mpr ⟨R.new hp, ho⟩)
/-- any value, as it is now -/
theorem RV.any {v : V} {d : D} {k : Kd} (R : Rel G M₀ H₀ own ρ σ H) (R' : Rel G M₀ H₀ own ρ σ H') (h : RV G M₀ own ρ H H' v d k) : Rep G (vis M₀ H') v d := by
  cases k with
  | dirty => exact h
  | own =>
    obtain ⟨i, e, rfl⟩ := h
    obtain ⟨_, h2, _, o, h4, h5⟩ := R'.ow i d e
    exact h5.rep (sub_hid H') (vis_iff.mpr ⟨h2, h4⟩)
  | clean => exact Rep.mono (sub_hid H') h
  | fresh => exact Rep.mono (sub_hid H') (RV.ok R h rfl)
/-- a value that lies over no cell of one's own but itself -/
theorem RV.nd_lst {v : V} {ds : List D} {k : Kd} (R : Rel G M₀ H₀ own ρ σ H) (R' : Rel G M₀ H₀ own ρ σ H') (h : RV G M₀ own ρ H H' v (.lst ds) k) (hk : k.nd = true) :
    ∃ p vs, v = .ref p ∧ H' p = some (.lst vs) ∧ Reps G (vis (hid M₀ own ρ) H') vs ds ∧ ¬ M₀ p ∧ (k.ok = true → ¬ hid M₀ own ρ p) := by
  cases k with
  | dirty => cases hk
  | own =>
    obtain ⟨i, e, rfl⟩ := h
    obtain ⟨_, h2, _, o, h4, h5⟩ := R'.ow i _ e
    cases h5 with
    | lst r => exact ⟨_, _, rfl, h4, r, h2, fun z => nomatch z⟩
  | clean =>
    cases h with
    | lst h9 r9 => exact ⟨_, _, rfl, (vis_iff.mp h9).2, r9, fun z => (vis_iff.mp h9).1 (.inl z), fun _ => (vis_iff.mp h9).1⟩
  | fresh =>
    have q := RV.ok R h rfl
    cases q with
    | lst h9 r9 => exact ⟨_, _, rfl, (vis_iff.mp h9).2, r9, fun z => (vis_iff.mp h9).1 (.inl z), fun _ => (vis_iff.mp h9).1⟩
theorem RV.nd_tup {v : V} {ds : List D} {k : Kd} (R : Rel G M₀ H₀ own ρ σ H) (R' : Rel G M₀ H₀ own ρ σ H') (h : RV G M₀ own ρ H H' v (.tup ds) k) (hk : k.nd = true) :
    ∃ p vs, v = .ref p ∧ SqT G.K (vis (hid M₀ own ρ) H') p vs ∧ Reps G (vis (hid M₀ own ρ) H') vs ds := by
  have go : Rep G (vis (hid M₀ own ρ) H') v (.tup ds) → ∃ p vs, v = .ref p ∧ SqT G.K (vis (hid M₀ own ρ) H') p vs ∧ Reps G (vis (hid M₀ own ρ) H') vs ds := fun q => by
    cases q with
    | tup h9 r9 => exact ⟨_, _, rfl, h9, r9⟩
  cases k with
  | dirty => cases hk
  | own =>
    obtain ⟨i, e, rfl⟩ := h
    obtain ⟨_, _, _, o, h4, h5⟩ := R'.ow i _ e
    cases h5
  | clean => exact go h
  | fresh =>
    obtain ⟨p, o, rfl, hp, ho, c⟩ := h
    cases c
theorem RV.move {v : V} {d : D} {k : Kd} (R : Rel G M₀ H₀ own ρ σ H) (h : RV G M₀ own ρ H H' v d k) (x : Ext G.b H' H'') : RV G M₀ own ρ H H'' v d k := by
  cases k with
  | dirty => exact Rep.mono (vis_ext x R.hb fun _ z => z) h
  | own => exact h
  | clean => exact Rep.mono (vis_ext x R.mb fun _ z => z) h
  | fresh =>
    obtain ⟨p, o, rfl, hp, ho, c⟩ := h
    exact ⟨p, o, rfl, hp, x _ _ (fun z => R.dom _ R.hb (z ▸ hp)) ho, c.mono (vis_ext x (.inl R.mb) fun _ z => z)⟩
/-- .. behind a step ahead of it -/
theorem RV.ahead {v : V} {d : D} {k : Kd} (R : Rel G M₀ H₀ own ρ σ H) (x : Ext G.b H H') (nb : H' G.b ≠ none) (h : RV G M₀ own ρ H' H'' v d k) : RV G M₀ own ρ H H'' v d k := by
  cases k with
  | dirty => exact h
  | own => exact h
  | clean => exact h
  | fresh =>
    obtain ⟨p, o, rfl, hp, ho, c⟩ := h
    refine ⟨p, o, rfl, ?_, ho, c⟩
    cases z : H p with
    | none => rfl
    | some u =>
      by_cases e : p = G.b
      · exact absurd (e ▸ hp) nb
      · rw [x p u e z] at hp
        cases hp
theorem RV.atom {v : V} {d : D} {k k' : Kd} (R : Rel G M₀ H₀ own ρ σ H) (R' : Rel G M₀ H₀ own ρ σ H') (h : RV G M₀ own ρ H H' v d k) (a : d.atom = true) : RV G M₀ own ρ H H'' v d .clean := (RV.any R R' h).atom a
theorem RV.of_atom {v : V} {d : D} {Hx : Hp} (h : Rep G Hx v d) (a : d.atom = true) : RV G M₀ own ρ H H' v d .clean := h.atom a
/-- a result by how its operands lay -/
theorem RV.by {v : V} {d : D} {k : Kd} {ok : Bool} (h1 : ok = true → RV G M₀ own ρ H H' v d k) (h2 : Rep G (vis M₀ H') v d) : RV G M₀ own ρ H H' v d (k.by d ok) := by
  unfold Kd.by
  cases ok with
  | true => exact h1 rfl
  | false =>
    by_cases a : d.atom = true
    · simp only [a]
      exact h2.atom a
    · simp only [a]
      exact h2
end
/-! ### what is promised of an expression, of arguments, of a test -/
abbrev gx (X : Cx) (b : Addr) (cl : Cls) : Gx := ⟨X.K, b, cl⟩
section
variable (b : Addr) (cl : Cls) (X : Cx)
def SE (e : Expr) (f : List Slot → M (D × Kd)) : Prop := ∀ (M₀ : Addr → Prop) (H₀ : Hp) (own : Nat → Addr) (ρ : List Slot) (σ : St) (H : Hp) (g : Bag) (d : D) (k : Kd) (g' : Bag) (Q : VK),
  Rel (gx X b cl) M₀ H₀ own ρ σ H → BagAt (gx X b cl) H g → f ρ g = some ((d, k), g') →
  (∀ v H', Ext b H H' → BagAt (gx X b cl) H' g' → RV (gx X b cl) M₀ own ρ H H' v d k → Q v H') → wpE X e σ H Q
def ST (e : Expr) (f : List Slot → M Bool) : Prop := ∀ (M₀ : Addr → Prop) (H₀ : Hp) (own : Nat → Addr) (ρ : List Slot) (σ : St) (H : Hp) (g : Bag) (t : Bool) (g' : Bag) (Q : Bool → Hp → Prop),
  Rel (gx X b cl) M₀ H₀ own ρ σ H → BagAt (gx X b cl) H g → f ρ g = some (t, g') → (∀ H', Ext b H H' → BagAt (gx X b cl) H' g' → Q t H') → wpT X e σ H Q
def RVs (G : Gx) (M₀ : Addr → Prop) (own : Nat → Addr) (ρ : List Slot) (H' : Hp) (vs : List V) (ds : List D) (ok : Bool) : Prop := Reps G (vis M₀ H') vs ds ∧ (ok = true → Reps G (vis (hid M₀ own ρ) H') vs ds)
def SA (es : List Expr) (f : List Slot → M (List D × Bool)) : Prop := ∀ (M₀ : Addr → Prop) (H₀ : Hp) (own : Nat → Addr) (ρ : List Slot) (σ : St) (H : Hp) (g : Bag) (ds : List D) (ok : Bool) (g' : Bag) (Q : List V → Hp → Prop),
  Rel (gx X b cl) M₀ H₀ own ρ σ H → BagAt (gx X b cl) H g → f ρ g = some ((ds, ok), g') →
  (∀ vs H', Ext b H H' → BagAt (gx X b cl) H' g' → RVs (gx X b cl) M₀ own ρ H' vs ds ok → Q vs H') → wpA X es σ H Q
end
/-- where one stands -/
structure CxOk (k : Nat) (X : Cx) : Prop where
  calm : X.calm = true
  nd : X.N.Nodup
  room : Room k X.A
  gd : X.A.guards = some []
end Ev
set_option Elab.async false
set_option linter.all false
set_option autoImplicit false
/-! Ev4: operators, subscripts and built-ins by tree values. -/
namespace Ev
open PySem L2 M
theorem pys_cons {x : D} {xs : List D} {ys : List PyData} (h : D.pys (x :: xs) = some ys) : ∃ y r, ys = y :: r ∧ x.py = some y ∧ D.pys xs = some r := by
  rw [D.pys] at h
  cases e1 : x.py with
  | none =>
    rw [e1] at h
    cases h
  | some y =>
    cases e2 : D.pys xs with
    | none =>
      rw [e1, e2] at h
      cases h
    | some r =>
      rw [e1, e2] at h
      cases h
      exact ⟨y, r, rfl, rfl, rfl⟩
theorem pys_map : ∀ {xs : List D} {ys : List PyData}, D.pys xs = some ys → ys = xs.map pyD
  | [], ys, h => by
    rw [D.pys] at h
    cases h
    rfl
  | x :: xs, ys, h => by
    obtain ⟨y, r, rfl, h1, h2⟩ := pys_cons h
    rw [List.map_cons, ← pys_map h2]
    unfold pyD
    rw [h1]
    rfl
theorem pys_all : ∀ {xs : List D} {ys : List PyData}, D.pys xs = some ys → ∀ x ∈ xs, x.py = some (pyD x)
  | [], _, _, x, hx => by cases hx
  | x :: xs, ys, h, z, hz => by
    obtain ⟨y, r, rfl, h1, h2⟩ := pys_cons h
    rcases List.mem_cons.mp hz with rfl | hz
    · unfold pyD
      rw [h1]
      rfl
    · exact pys_all h2 z hz
mutual
theorem Rep.dp {G : Gx} {H : Hp} : ∀ {v : V} {d : D} {y : PyData}, Rep G H v d → d.py = some y → Dp G.K H v y
  | _, _, _, .non, e => by
    rw [D.py] at e
    cases e
    exact .non
  | _, _, _, .bl b, e => by
    rw [D.py] at e
    cases e
    exact .bl b
  | _, _, _, .int i, e => by
    rw [D.py] at e
    cases e
    exact .int i
  | _, _, _, .str x, e => by
    rw [D.py] at e
    cases e
    exact .str x
  | _, .tup ds, _, .tup h r, e => by
    rw [D.py] at e
    cases z : D.pys ds with
    | none =>
      rw [z] at e
      cases e
    | some ys =>
      rw [z] at e
      cases e
      exact .tup h (Reps.dp r z)
  | _, .lst ds, _, .lst h r, e => by
    rw [D.py] at e
    cases z : D.pys ds with
    | none =>
      rw [z] at e
      cases e
    | some ys =>
      rw [z] at e
      cases e
      exact .lst (.of h) (Reps.dp r z)
  | _, _, _, .ins _ _ _ _, e => by
    rw [D.py] at e
    cases e
  | _, _, _, .bag, e => by
    rw [D.py] at e
    cases e
theorem Reps.dp {G : Gx} {H : Hp} : ∀ {vs : List V} {ds : List D} {ys : List PyData}, Reps G H vs ds → D.pys ds = some ys → DpAll G.K H vs ys
  | _, _, _, .nil, e => by
    rw [D.pys] at e
    cases e
    exact .nil
  | _, _, _, .cons r t, e => by
    obtain ⟨y, rr, rfl, h1, h2⟩ := pys_cons e
    exact .cons (Rep.dp r h1) (Reps.dp t h2)
end
section
variable {X : Cx} {b : Addr} {cl : Cls}
/-- two tree values, and what f is of them -/
def rTwo (G : Gx) (f : D → D → Option Bool) : R2 := fun x y H Q => ∃ d e t, Rep G H x d ∧ Rep G H y e ∧ f d e = some t ∧ Q (.bl t) H
theorem eqDP_some {d e : D} {t : Bool} (h : eqDP d e = some t) : ∃ x y, d.py = some x ∧ e.py = some y ∧ SeqAt.shaped x = true ∧ SeqAt.shaped y = true ∧ t = PyData.eqv x y := by
  unfold eqDP at h
  cases h1 : d.py with
  | none =>
    rw [h1] at h
    cases h
  | some x =>
    cases h2 : e.py with
    | none =>
      rw [h1, h2] at h
      cases h
    | some y =>
      rw [h1, h2] at h
      dsimp only at h
      split at h
      · rename_i hs
        rw [Bool.and_eq_true] at hs
        cases h
        exact ⟨x, y, rfl, rfl, hs.1, hs.2, rfl⟩
      · cases h
theorem eqD_cases {d e : D} {t : Bool} (h : eqD d e = some t) : (∃ x y, d = .str x ∧ e = .str y ∧ t = (x == y)) ∨ eqDP d e = some t := by
  unfold eqD at h
  split at h
  · cases h
    exact .inl ⟨_, _, rfl, rfl, rfl⟩
  · exact .inr h
theorem op_eqT (hu : X.A.units + 64 < cLine) : OpR X (compareOp .Eq) (rTwo (gx X b cl) eqD) := by
  intro pins s σ H x y v u Q I rx ry h
  obtain ⟨d, e, t, h1, h2, h3, q⟩ := h
  rcases eqD_cases h3 with ⟨a, c, rfl, rfl, rfl⟩ | h3
  · cases h1
    cases h2
    exact op_eq pins s σ H _ _ v u Q I rx ry ⟨rfl, by rw [dec_str]; exact q⟩
  obtain ⟨p, q', e1, e2, s1, s2, rfl⟩ := eqDP_some h3
  exact op_eqD hu pins s σ H x y v u Q I rx ry ⟨p, q', h1.dp e1, h2.dp e2, s1, s2, q⟩
theorem op_neT (hu : X.A.units + 64 < cLine) : OpR X (compareOp .NotEq) (rTwo (gx X b cl) fun d e => (eqD d e).map not) := by
  intro pins s σ H x y v u Q I rx ry h
  obtain ⟨d, e, t, h1, h2, h3, q⟩ := h
  obtain ⟨t', h4, rfl⟩ := Option.map_eq_some_iff.mp h3
  rcases eqD_cases h4 with ⟨a, c, rfl, rfl, rfl⟩ | h4
  · cases h1
    cases h2
    exact op_ne pins s σ H _ _ v u Q I rx ry ⟨rfl, by
      have z : (!decide (V.str a = V.str c)) = !(a == c) := by rw [dec_str]
      first | (rw [z]; exact q) | (simpa [dec_str] using q)⟩
  obtain ⟨p, q', e1, e2, s1, s2, rfl⟩ := eqDP_some h4
  exact op_neD hu pins s σ H x y v u Q I rx ry ⟨p, q', h1.dp e1, h2.dp e2, s1, s2, q⟩
theorem shaped_depth {y : PyData} (h : SeqAt.shaped y = true) : y.depth ≤ 64 := by
  unfold SeqAt.shaped at h
  rw [Bool.and_eq_true] at h
  exact of_decide_eq_true h.2
theorem ltD_some {d e : D} {t : Bool} (h : ltD d e = some t) : ∃ x y, d.py = some x ∧ e.py = some y ∧ x.depth ≤ 64 ∧ PySem.W.alike x y = true ∧ x ≠ .none ∧ t = PySem.W.dataLt x y := by
  unfold ltD at h
  cases h1 : d.py with
  | none =>
    rw [h1] at h
    cases h
  | some x =>
    cases h2 : e.py with
    | none =>
      rw [h1, h2] at h
      cases h
    | some y =>
      rw [h1, h2] at h
      dsimp only at h
      split at h
      · rename_i hs
        rw [Bool.and_eq_true, Bool.and_eq_true, Bool.and_eq_true] at hs
        cases h
        refine ⟨x, y, rfl, rfl, shaped_depth hs.1.1.1, hs.1.2, fun z => ?_, rfl⟩
        subst z
        cases hs.2
      · cases h
theorem alike_none {y : PyData} (h : PySem.W.alike .none y = true) : y = .none := by
  cases y <;> first | rfl | (simp [PySem.W.alike] at h)
theorem alike_none' {y : PyData} (h : PySem.W.alike y .none = true) : y = .none := by
  cases y <;> first | rfl | (simp [PySem.W.alike] at h)
theorem op_ltT (hu : X.A.units + 64 < cLine) : OpR X (compareOp .Lt) (rTwo (gx X b cl) ltD) := by
  intro pins s σ H x y v u Q I rx ry h
  obtain ⟨d, e, t, h1, h2, h3, q⟩ := h
  obtain ⟨p, r, e1, e2, hd, ha, hn, rfl⟩ := ltD_some h3
  obtain ⟨as, r1⟩ := Dp.reads I p x v (h1.dp e1) rx
  obtain ⟨bs, r2⟩ := Dp.reads I r y u (h2.dp e2) ry
  exact PySem.W.lt_data r1 r2 ha hn (by have := Nat.min_le_left p.depth r.depth; omega) ⟨.bl _, H, I, rfl, q⟩
theorem op_gtT (hu : X.A.units + 64 < cLine) : OpR X (compareOp .Gt) (rTwo (gx X b cl) fun d e => ltD e d) := by
  intro pins s σ H x y v u Q I rx ry h
  obtain ⟨d, e, t, h1, h2, h3, q⟩ := h
  obtain ⟨p, r, e1, e2, hd, ha, hn, rfl⟩ := ltD_some h3
  obtain ⟨as, r1⟩ := Dp.reads I r x v (h1.dp e2) rx
  obtain ⟨bs, r2⟩ := Dp.reads I p y u (h2.dp e1) ry
  refine PySem.W.gt_data r1 r2 (PySem.W.alike_comm _ _ ▸ ha) ?_ (by have := Nat.min_le_right r.depth p.depth; omega) ⟨.bl _, H, I, rfl, q⟩
  intro z
  subst z
  exact hn (alike_none' ha)
theorem op_leT (hu : X.A.units + 64 < cLine) : OpR X (compareOp .LtE) (rTwo (gx X b cl) fun d e => (ltD e d).map not) := by
  intro pins s σ H x y v u Q I rx ry h
  obtain ⟨d, e, t, h1, h2, h3, q⟩ := h
  obtain ⟨t', h4, rfl⟩ := Option.map_eq_some_iff.mp h3
  obtain ⟨p, r, e1, e2, hd, ha, hn, rfl⟩ := ltD_some h4
  obtain ⟨as, r1⟩ := Dp.reads I r x v (h1.dp e2) rx
  obtain ⟨bs, r2⟩ := Dp.reads I p y u (h2.dp e1) ry
  refine PySem.W.le_data r1 r2 (PySem.W.alike_comm _ _ ▸ ha) ?_ (by have := Nat.min_le_right r.depth p.depth; omega) ⟨.bl _, H, I, rfl, q⟩
  intro z
  subst z
  exact hn (alike_none' ha)
theorem op_geT (hu : X.A.units + 64 < cLine) : OpR X (compareOp .GtE) (rTwo (gx X b cl) fun d e => (ltD d e).map not) := by
  intro pins s σ H x y v u Q I rx ry h
  obtain ⟨d, e, t, h1, h2, h3, q⟩ := h
  obtain ⟨t', h4, rfl⟩ := Option.map_eq_some_iff.mp h3
  obtain ⟨p, r, e1, e2, hd, ha, hn, rfl⟩ := ltD_some h4
  obtain ⟨as, r1⟩ := Dp.reads I p x v (h1.dp e1) rx
  obtain ⟨bs, r2⟩ := Dp.reads I r y u (h2.dp e2) ry
  exact PySem.W.ge_data r1 r2 ha hn (by have := Nat.min_le_left p.depth r.depth; omega) ⟨.bl _, H, I, rfl, q⟩
/-! in -/
theorem flat_rep {G : Gx} {H : Hp} {v : V} {d : D} (h : Rep G H v d) (f : d.flat = true) : flatV v = true := by
  cases h with
  | non => rfl
  | bl _ => rfl
  | int _ => rfl
  | str _ => rfl
  | tup _ _ => cases f
  | lst _ _ => cases f
  | ins _ _ _ => cases f
  | bag => cases f
theorem flat_eqv {G : Gx} {H : Hp} {v w : V} {d e : D} (h : Rep G H v d) (k : Rep G H w e) (f : d.flat = true) (g : e.flat = true) : eqV v w = PyData.eqv d.pyF e.pyF := by
  cases h with
  | non => cases k <;> first | (simp [eqV, D.pyF, PyData.eqv]; done) | cases g
  | bl _ => cases k <;> first | (simp [eqV, D.pyF, PyData.eqv]; done) | cases g
  | int _ => cases k <;> first | (simp [eqV, D.pyF, PyData.eqv]; done) | cases g
  | str _ => cases k <;> first | (simp [eqV, D.pyF, PyData.eqv]; done) | cases g
  | tup _ _ => cases f
  | lst _ _ => cases f
  | ins _ _ _ => cases f
  | bag => cases f
theorem flats_rep {G : Gx} {H : Hp} : ∀ {vs : List V} {ds : List D}, Reps G H vs ds → ds.all D.flat = true → vs.all flatV = true
  | _, _, .nil, _ => rfl
  | _, _, .cons r t, f => by
    rw [List.all_cons, Bool.and_eq_true] at f
    rw [List.all_cons, flat_rep r f.1, flats_rep t f.2]
    rfl
theorem flats_any {G : Gx} {H : Hp} {w : V} {e : D} (k : Rep G H w e) (g : e.flat = true) : ∀ {vs : List V} {ds : List D}, Reps G H vs ds → ds.all D.flat = true → inV w vs = ds.any fun z => PyData.eqv z.pyF e.pyF
  | _, _, .nil, _ => rfl
  | _, _, .cons r t, f => by
    rw [List.all_cons, Bool.and_eq_true] at f
    have ih := flats_any k g t f.2
    unfold inV at ih ⊢
    rw [List.any_cons, List.any_cons, ih, flat_eqv r k f.1 g]
theorem op_inT (hu : X.A.units + 65 < cLine) : OpR X (compareOp .In) (rTwo (gx X b cl) inD) := by
  intro pins s σ H x y v u Q I rx ry h
  obtain ⟨d, e, t, h1, h2, h3, q⟩ := h
  unfold inD at h3
  split at h3
  · cases h1
    cases h2
    cases h3
    exact op_in_str pins s σ H _ _ v u Q I rx ry ⟨_, _, rfl, rfl, q⟩
  · split at h3
    · rename_i hf
      rw [Bool.and_eq_true] at hf
      cases h3
      cases h2 with
      | tup hs hr => exact op_in_seq pins s σ H x _ v u Q I rx ry ⟨_, _, rfl, .inr hs, flat_rep h1 hf.1, flats_rep hr hf.2, by rw [flats_any h1 hf.1 hr hf.2]; exact q⟩
    · cases h3
  · rename_i xs
    split at h3
    · rename_i p ys e1 e2
      split at h3
      · rename_i hs
        rw [Bool.and_eq_true] at hs
        cases h3
        have e3 : (D.lst xs).py = some (.list ys) := by
          rw [D.py, e2]
          rfl
        exact op_inD hu pins s σ H x y v u Q I rx ry ⟨p, ys, h1.dp e1, h2.dp e3, hs.1, hs.2, q⟩
      · cases h3
    · cases h3
  · cases h3
theorem op_notinT (hu : X.A.units + 65 < cLine) : OpR X (compareOp .NotIn) (rTwo (gx X b cl) fun d e => (inD d e).map not) := by
  intro pins s σ H x y v u Q I rx ry h
  obtain ⟨d, e, t, h1, h2, h3, q⟩ := h
  obtain ⟨t', h4, rfl⟩ := Option.map_eq_some_iff.mp h3
  unfold inD at h4
  split at h4
  · cases h1
    cases h2
    cases h4
    exact op_notin_str pins s σ H _ _ v u Q I rx ry ⟨_, _, rfl, rfl, q⟩
  · split at h4
    · rename_i hf
      rw [Bool.and_eq_true] at hf
      cases h4
      cases h2 with
      | tup hs hr => exact op_notIn_seq pins s σ H x _ v u Q I rx ry ⟨_, _, rfl, .inr hs, flat_rep h1 hf.1, flats_rep hr hf.2, by rw [flats_any h1 hf.1 hr hf.2]; exact q⟩
    · cases h4
  · rename_i xs
    split at h4
    · rename_i p ys e1 e2
      split at h4
      · rename_i hs
        rw [Bool.and_eq_true] at hs
        cases h4
        have e3 : (D.lst xs).py = some (.list ys) := by
          rw [D.py, e2]
          rfl
        exact op_notInD hu pins s σ H x y v u Q I rx ry ⟨p, ys, h1.dp e1, h2.dp e3, hs.1, hs.2, q⟩
      · cases h4
    · cases h4
  · cases h4
theorem rep_non {G : Gx} {H : Hp} {v : V} {d : D} (h : Rep G H v d) : decide (v = .non) = (match d with | .non => true | _ => false) := by
  cases h <;> first | rfl | exact decide_eq_false (by simp)
theorem op_isT : OpR X (compareOp .Is) (rTwo (gx X b cl) (cmpD .isN)) := by
  intro pins s σ H x y v u Q I rx ry h
  obtain ⟨d, e, t, h1, h2, h3, q⟩ := h
  by_cases hb : ∃ a b, d = .bl a ∧ e = .bl b
  · obtain ⟨a, b, rfl, rfl⟩ := hb
    cases h1
    cases h2
    simp only [cmpD, Option.some.injEq] at h3
    subst h3
    exact op_isBl pins s σ H _ _ v u Q I rx ry ⟨a, b, rfl, rfl, q⟩
  cases h2 <;> first | (simp [cmpD] at h3; done) | (cases d <;> first | (simp [cmpD] at h3; done) | (exact absurd ⟨_, _, rfl, rfl⟩ hb)) | skip
  refine op_isN pins s σ H x _ v u Q I rx ry ⟨rfl, ?_⟩
  rw [rep_non h1]
  cases d <;> (simp [cmpD] at h3; subst h3; exact q)
theorem op_notT : OpR X (compareOp .IsNot) (rTwo (gx X b cl) (cmpD .notN)) := by
  intro pins s σ H x y v u Q I rx ry h
  obtain ⟨d, e, t, h1, h2, h3, q⟩ := h
  by_cases hb : ∃ a b, d = .bl a ∧ e = .bl b
  · obtain ⟨a, b, rfl, rfl⟩ := hb
    cases h1
    cases h2
    simp only [cmpD, Option.some.injEq] at h3
    subst h3
    exact op_notBl pins s σ H _ _ v u Q I rx ry ⟨a, b, rfl, rfl, q⟩
  cases h2 <;> first | (simp [cmpD] at h3; done) | (cases d <;> first | (simp [cmpD] at h3; done) | (exact absurd ⟨_, _, rfl, rfl⟩ hb)) | skip
  refine op_notN pins s σ H x _ v u Q I rx ry ⟨rfl, ?_⟩
  rw [rep_non h1]
  cases d <;> (simp [cmpD] at h3; subst h3; exact q)
/-- the operator of a comparison -/
def Cop.ast : Cop → CmpOp
  | .eq => .Eq
  | .ne => .NotEq
  | .lt => .Lt
  | .le => .LtE
  | .gt => .Gt
  | .ge => .GtE
  | .isin => .In
  | .notin => .NotIn
  | .isN => .Is
  | .notN => .IsNot
theorem op_cmpT (o : Cop) (hu : X.A.units + 65 < cLine) : OpR X (compareOp o.ast) (rTwo (gx X b cl) (cmpD o)) := by
  cases o with
  | eq => exact op_eqT (by omega)
  | ne => exact op_neT (by omega)
  | lt => exact op_ltT (by omega)
  | le => exact op_leT (by omega)
  | gt => exact op_gtT (by omega)
  | ge => exact op_geT (by omega)
  | isin => exact op_inT hu
  | notin => exact op_notinT hu
  | isN => exact op_isT
  | notN => exact op_notT
end
end Ev
set_option Elab.async false
set_option linter.all false
set_option autoImplicit false
/-! Ev5: operators that make values. -/
namespace Ev
open PySem PySem.Spec PyProof.Rows L2 M
section
variable {G : Gx} {M₀ : Addr → Prop} {H₀ H H' H'' : Hp} {own : Nat → Addr} {ρ : List Slot} {σ : L2.St} {g : Bag}
theorem BagAt.new (B : BagAt G H g) {p : Addr} {o : HO} (h : H p = none) : BagAt G (upd H p o) g := by
  obtain ⟨h1, h2, h3⟩ := B.at_
  exact ⟨⟨h1, sub_new h _ _ h2, sub_new h _ _ h3⟩, B.ok⟩
/-- the items of a value: as they are now; apart from one's own cells where the value is -/
def Kids (G : Gx) (M₀ : Addr → Prop) (own : Nat → Addr) (ρ : List Slot) (H : Hp) (vs : List V) (ds : List D) (ok : Bool) : Prop := Reps G (vis M₀ H) vs ds ∧ (ok = true → Reps G (vis (hid M₀ own ρ) H) vs ds)
theorem Kids.of {vs : List V} {ds : List D} {ok : Bool} (h : Reps G (vis (hid M₀ own ρ) H) vs ds) : Kids G M₀ own ρ H vs ds ok := ⟨h.mono (sub_hid H), fun _ => h⟩
theorem Kids.get {vs : List V} {ds : List D} {ok : Bool} {i : Nat} {v : V} {d : D} (h : Kids G M₀ own ρ H vs ds ok) (hv : vs[i]? = some v) (hd : ds[i]? = some d) : Rep G (vis M₀ H) v d ∧ (ok = true → Rep G (vis (hid M₀ own ρ) H) v d) := by
  refine ⟨?_, fun z => ?_⟩
  · obtain ⟨d', e, r⟩ := h.1.get hv
    rw [hd] at e
    cases e
    exact r
  · obtain ⟨d', e, r⟩ := (h.2 z).get hv
    rw [hd] at e
    cases e
    exact r
theorem Kids.append {vs ws : List V} {ds es : List D} {k l : Bool} (h : Kids G M₀ own ρ H vs ds k) (h' : Kids G M₀ own ρ H ws es l) : Kids G M₀ own ρ H (vs ++ ws) (ds ++ es) (k && l) :=
  ⟨h.1.append h'.1, fun z => by
    rw [Bool.and_eq_true] at z
    exact (h.2 z.1).append (h'.2 z.2)⟩
theorem Kids.take {vs : List V} {ds : List D} {k : Bool} (n : Nat) (h : Kids G M₀ own ρ H vs ds k) : Kids G M₀ own ρ H (vs.take n) (ds.take n) k := ⟨h.1.take n, fun z => (h.2 z).take n⟩
theorem Kids.drop {vs : List V} {ds : List D} {k : Bool} (n : Nat) (h : Kids G M₀ own ρ H vs ds k) : Kids G M₀ own ρ H (vs.drop n) (ds.drop n) k := ⟨h.1.drop n, fun z => (h.2 z).drop n⟩
theorem Kids.length {vs : List V} {ds : List D} {k : Bool} (h : Kids G M₀ own ρ H vs ds k) : vs.length = ds.length := h.1.length
theorem Kids.mono {vs : List V} {ds : List D} {k l : Bool} (h : Kids G M₀ own ρ H vs ds k) (z : l = true → k = true) : Kids G M₀ own ρ H vs ds l := ⟨h.1, fun q => h.2 (z q)⟩
theorem Kids.rep {vs : List V} {ds : List D} {k : Bool} (n : Nat) (h : Kids G M₀ own ρ H vs ds k) : Kids G M₀ own ρ H (List.replicate n vs).flatten (List.replicate n ds).flatten k := by
  induction n with
  | zero => exact Kids.of .nil
  | succ n ih =>
    rw [List.replicate_succ, List.flatten_cons, List.replicate_succ, List.flatten_cons]
    exact Kids.mono (k := k && k) (h.append ih) fun z => by rw [z]; rfl
theorem RV.kids_tup {v : V} {ds : List D} {k : Kd} (R : Rel G M₀ H₀ own ρ σ H) (R' : Rel G M₀ H₀ own ρ σ H') (h : RV G M₀ own ρ H H' v (.tup ds) k) :
    ∃ p vs, v = .ref p ∧ SqT G.K H' p vs ∧ Kids G M₀ own ρ H' vs ds k.nd := by
  by_cases hk : k.nd = true
  · obtain ⟨p, vs, e, s, r⟩ := RV.nd_tup R R' h hk
    exact ⟨p, vs, e, (vis_sub _ _).sqT s, .of r⟩
  · cases RV.any R R' h with
    | tup h9 r9 => exact ⟨_, _, rfl, (vis_sub _ _).sqT h9, r9, fun z => absurd z hk⟩
theorem RV.kids_lst {v : V} {ds : List D} {k : Kd} (R : Rel G M₀ H₀ own ρ σ H) (R' : Rel G M₀ H₀ own ρ σ H') (h : RV G M₀ own ρ H H' v (.lst ds) k) :
    ∃ p vs, v = .ref p ∧ H' p = some (.lst vs) ∧ Kids G M₀ own ρ H' vs ds k.nd := by
  by_cases hk : k.nd = true
  · obtain ⟨p, vs, e, s, r, _⟩ := RV.nd_lst R R' h hk
    exact ⟨p, vs, e, s, .of r⟩
  · cases RV.any R R' h with
    | lst h9 r9 => exact ⟨_, _, rfl, (vis_iff.mp h9).2, r9, fun z => absurd z hk⟩
theorem vis_new {M : Addr → Prop} {p : Addr} {o : HO} (h : H p = none) : Sub (vis M H) (vis M (upd H p o)) := fun a u e => by
  obtain ⟨h1, h2⟩ := vis_iff.mp e
  exact vis_iff.mpr ⟨h1, sub_new h _ _ h2⟩
/-- a new tuple -/
theorem RV.tup_new {p : Addr} {vs : List V} {ds : List D} {ok : Bool} (R : Rel G M₀ H₀ own ρ σ H) (hp : H p = none) (h : Kids G M₀ own ρ H vs ds ok) : RV G M₀ own ρ H (upd H p (.tup vs)) (.ref p) (.tup ds) (if ok then .clean else .dirty) := by
  cases ok with
  | true => exact .tup (.of (vis_iff.mpr ⟨R.new hp, upd_same⟩)) ((h.2 rfl).mono (vis_new hp))
  | false => exact .tup (.of (vis_iff.mpr ⟨fun z => R.new hp (.inl z), upd_same⟩)) (h.1.mono (vis_new hp))
/-- a new list -/
theorem RV.lst_new {p : Addr} {vs : List V} {ds : List D} {ok : Bool} (R : Rel G M₀ H₀ own ρ σ H) (hp : H p = none) (h : Kids G M₀ own ρ H vs ds ok) : RV G M₀ own ρ H (upd H p (.lst vs)) (.ref p) (.lst ds) (if ok then .fresh else .dirty) := by
  cases ok with
  | true =>
    refine ⟨p, _, rfl, hp, upd_same, .lst ((h.2 rfl).mono fun a u e => ?_)⟩
    obtain ⟨h1, h2⟩ := vis_iff.mp e
    have ne : a ≠ p := fun e => by
      rw [e, hp] at h2
      cases h2
    exact vis_iff.mpr ⟨fun z => z.elim h1 ne, sub_new hp _ _ h2⟩
  | false => exact .lst (vis_iff.mpr ⟨fun z => R.new hp (.inl z), upd_same⟩) (h.1.mono (vis_new hp))
theorem by_tup {ds : List D} (ok : Bool) : Kd.clean.by (.tup ds) ok = if ok then .clean else .dirty := by cases ok <;> rfl
theorem by_lst {ds : List D} (ok : Bool) : Kd.fresh.by (.lst ds) ok = if ok then .fresh else .dirty := by cases ok <;> rfl
theorem by_atom {d : D} (a : d.atom = true) (ok : Bool) : Kd.clean.by d ok = .clean := by
  unfold Kd.by
  cases ok with
  | true => rfl
  | false => simp only [a, Bool.false_eq_true, if_false, if_true]
/-- what is wanted behind a step that makes values -/
def Wants (G : Gx) (M₀ : Addr → Prop) (own : Nat → Addr) (ρ : List Slot) (H : Hp) (g : Bag) (d : D) (k : Kd) (Q : VK) : Prop := ∀ v H', Ext G.b H H' → BagAt G H' g → RV G M₀ own ρ H H' v d k → Q v H'
theorem Wants.atom {d : D} {Q : VK} {v : V} (W : Wants G M₀ own ρ H g d .clean Q) (B : BagAt G H g) (a : d.atom = true) (r : Rep G H v d) : Q v H := W v H (Ext.refl _ _) B (r.atom a)
theorem Wants.tup {ds : List D} {ok : Bool} {Q : VK} {vs : List V} (W : Wants G M₀ own ρ H g (.tup ds) (if ok then .clean else .dirty) Q) (R : Rel G M₀ H₀ own ρ σ H) (B : BagAt G H g) (h : Kids G M₀ own ρ H vs ds ok) :
    ∀ p, H p = none → Q (.ref p) (upd H p (.tup vs)) := fun p hp => W _ _ (Ext.new hp) (B.new hp) (RV.tup_new R hp h)
theorem Wants.lst {ds : List D} {ok : Bool} {Q : VK} {vs : List V} (W : Wants G M₀ own ρ H g (.lst ds) (if ok then .fresh else .dirty) Q) (R : Rel G M₀ H₀ own ρ σ H) (B : BagAt G H g) (h : Kids G M₀ own ρ H vs ds ok) :
    ∀ p, H p = none → Q (.ref p) (upd H p (.lst vs)) := fun p hp => W _ _ (Ext.new hp) (B.new hp) (RV.lst_new R hp h)
/-- a tuple that stands already -/
theorem Wants.old {ds : List D} {k : Kd} {ok : Bool} {Q : VK} {v : V} {Hp' : Hp} (W : Wants G M₀ own ρ H g (.tup ds) (if ok then .clean else .dirty) Q) (B : BagAt G H g) (R' : Rel G M₀ H₀ own ρ σ Hp') (R : Rel G M₀ H₀ own ρ σ H)
    (h : RV G M₀ own ρ Hp' H v (.tup ds) k) (z : ok = true → k.nd = true) : Q v H := by
  refine W v H (Ext.refl _ _) B ?_
  cases ok with
  | true =>
    obtain ⟨_, _, rfl, q1, q2⟩ := RV.nd_tup R' R h (z rfl)
    exact .tup q1 q2
  | false => exact RV.any R' R h
end
/-! ### two-place operators -/
section
variable {X : Cx} {b : Addr} {cl : Cls} {M₀ : Addr → Prop} {H₀ H1 H2 H3 : Hp} {own : Nat → Addr} {ρ : List Slot} {σ : L2.St} {g : Bag}
def rB (X : Cx) (f : Value → Value → Sem Value) : R2 := fun x y H Q => ∀ (pins : List (Addr × Obj)) (s : Shared) (σ : L2.St) (v u : Value), Inv X pins σ H s → RelV x v → RelV y u → wpAny (model X.prog X.w) X.A (f v u) (EP X pins σ Q) X.xe s
theorem or_rB (f : Value → Value → Sem Value) : OpR X f (rB X f) := fun pins s σ H x y v u Q I rx ry h => h pins s σ v u I rx ry
theorem opRb {f : Value → Value → Sem Value} {r : R2} (h : OpR X f r) {x y : V} {H : Hp} {Q : VK} (q : r x y H Q) : rB X f x y H Q := fun pins s σ v u I rx ry => h pins s σ H x y v u Q I rx ry q
def Bop.ast : Bop → Operator
  | .add => .Add
  | .sub => .Sub
  | .mul => .Mult
  | .mod => .Mod
  | .fdiv => .FloorDiv
  | .pow => .Pow
theorem small_mul {i j : Int} (h : small i = true) : CMul i j := by
  unfold small at h
  rw [Bool.and_eq_true] at h
  exact .inl ⟨of_decide_eq_true h.1, of_decide_eq_true h.2⟩
/-- x op y: H1 behind x, H2 behind y -/
theorem bin_ok (o : Bop) {x y : V} {d e r : D} {k l m : Kd} {Q : VK} {Ha Hb : Hp} (Ra : Rel (gx X b cl) M₀ H₀ own ρ σ Ha) (Rb : Rel (gx X b cl) M₀ H₀ own ρ σ Hb) (R : Rel (gx X b cl) M₀ H₀ own ρ σ H2) (B : BagAt (gx X b cl) H2 g)
    (hx : RV (gx X b cl) M₀ own ρ Ha H2 x d k) (hy : RV (gx X b cl) M₀ own ρ Hb H2 y e l) (h : binD o d e = some (r, m)) (W : Wants (gx X b cl) M₀ own ρ H2 g r (m.by r (k.nd && l.nd)) Q) : rB X (binaryOp o.ast) x y H2 Q := by
  unfold binD at h
  split at h
  all_goals try (cases h; done)
  · -- ints
    cases h
    cases RV.any Ra R hx
    cases RV.any Rb R hy
    rw [by_atom rfl] at W
    exact opRb op_add ⟨_, _, rfl, rfl, W.atom B rfl (.int _)⟩
  · split at h
    · cases h
      cases RV.any Ra R hx
      cases RV.any Rb R hy
      rw [by_atom rfl] at W
      exact opRb op_add_str ⟨_, _, rfl, rfl, by assumption, W.atom B rfl (.str _)⟩
    · cases h
  · cases h
    cases RV.any Ra R hx
    cases RV.any Rb R hy
    rw [by_atom rfl] at W
    exact opRb op_sub ⟨_, _, rfl, rfl, W.atom B rfl (.int _)⟩
  · split at h
    · rename_i hs
      cases h
      cases RV.any Ra R hx
      cases RV.any Rb R hy
      rw [by_atom rfl] at W
      exact opRb op_mul ⟨_, _, rfl, rfl, small_mul hs, W.atom B rfl (.int _)⟩
    · cases h
  · split at h
    · rename_i hs
      cases h
      cases RV.any Ra R hx
      cases RV.any Rb R hy
      rw [by_atom rfl] at W
      exact opRb op_mod ⟨_, _, rfl, rfl, hs, W.atom B rfl (.int _)⟩
    · cases h
  · split at h
    · rename_i hs
      cases h
      cases RV.any Ra R hx
      cases RV.any Rb R hy
      rw [by_atom rfl] at W
      exact opRb op_fdiv ⟨_, _, rfl, rfl, hs, W.atom B rfl (.int _)⟩
    · cases h
  · split at h
    · rename_i hs
      cases h
      obtain ⟨p, vs, rfl, s1, k1⟩ := RV.kids_tup Ra R hx
      obtain ⟨q, ws, rfl, s2, k2⟩ := RV.kids_tup Rb R hy
      rw [by_tup] at W
      refine opRb op_catA ⟨p, q, vs, ws, rfl, rfl, s1, s2, by rw [k1.length, k2.length]; exact hs, fun z => ?_, fun _ z => ?_, fun _ _ => ?_⟩
      · subst z
        have e0 := k1.length
        cases (List.length_eq_zero_iff.mp e0.symm)
        exact W.old B Rb R hy fun z => by rw [Bool.and_eq_true] at z; exact z.2
      · subst z
        have e0 := k2.length
        cases (List.length_eq_zero_iff.mp e0.symm)
        rw [List.append_nil] at W
        exact W.old B Ra R hx fun z => by rw [Bool.and_eq_true] at z; exact z.1
      · exact W.tup R B (k1.append k2)
    · cases h
  · split at h
    · rename_i hs
      cases h
      obtain ⟨p, vs, rfl, s1, k1⟩ := RV.kids_lst Ra R hx
      obtain ⟨q, ws, rfl, s2, k2⟩ := RV.kids_lst Rb R hy
      rw [by_lst] at W
      exact opRb op_cat ⟨p, q, vs, ws, rfl, rfl, s1, s2, by rw [k1.length, k2.length]; exact hs, W.lst R B (k1.append k2)⟩
    · cases h
  · split at h
    · rename_i hs
      cases h
      obtain ⟨p, vs, rfl, s1, k1⟩ := RV.kids_lst Ra R hx
      cases RV.any Rb R hy
      rw [by_lst] at W
      have lj := hs.1
      unfold line62 at lj
      rw [Bool.and_eq_true] at lj
      have l1 := of_decide_eq_true lj.1
      have l2 := of_decide_eq_true lj.2
      refine opRb op_rep ⟨p, _, vs, rfl, rfl, s1, by omega, by omega, by rw [k1.length]; exact hs.2, W.lst R B ((k1.rep _).mono fun z => ?_)⟩
      rw [Bool.and_eq_true] at z
      exact z.1
    · cases h
/-! ### subscripts -/
def rIx (X : Cx) : R2 := fun x y H Q => ∀ (value slice : Expr) (pins : List (Addr × Obj)) (s : Shared) (σ : L2.St) (v u : Value), Inv X pins σ H s → RelV x v → RelV y u → subscripted slice false v u = operate [v, u] (getItem v u) → wpAny (model X.prog X.w) X.A (subscriptTail value slice v u) (EP X pins σ Q) X.xe s
theorem ix_rIx : IxR X (rIx X) := fun value slice pins s σ H x y v u Q I rx ry h hs => h value slice pins s σ v u I rx ry hs
theorem ixRx {r : R2} (h : IxR X r) {x y : V} {H : Hp} {Q : VK} (q : r x y H Q) : rIx X x y H Q := fun value slice pins s σ v u I rx ry hs => h value slice pins s σ H x y v u Q I rx ry q hs
theorem atI_get {α : Type} {xs : List α} {i : Int} {x : α} (h : atI xs i = some x) : ∃ j, ixN xs.length i = some j ∧ xs[j]? = some x := by
  unfold atI at h
  exact Option.bind_eq_some_iff.mp h
theorem kids_at {G : Gx} {H : Hp} {vs : List V} {ds : List D} {ok : Bool} {i : Int} {d : D} (h : Kids G M₀ own ρ H vs ds ok) (e : atI ds i = some d) : ∃ v, atI vs i = some v ∧ Rep G (vis M₀ H) v d ∧ (ok = true → Rep G (vis (hid M₀ own ρ) H) v d) := by
  obtain ⟨j, h1, h2⟩ := atI_get e
  obtain ⟨v, h3, _⟩ := h.1.getD h2
  refine ⟨v, ?_, h.get h3 h2⟩
  unfold atI
  rw [h.length, h1]
  exact h3
theorem idx_ok {x y : V} {d e r : D} {k l : Kd} {Q : VK} {Ha Hb : Hp} (Ra : Rel (gx X b cl) M₀ H₀ own ρ σ Ha) (Rb : Rel (gx X b cl) M₀ H₀ own ρ σ Hb) (R : Rel (gx X b cl) M₀ H₀ own ρ σ H2) (B : BagAt (gx X b cl) H2 g)
    (hx : RV (gx X b cl) M₀ own ρ Ha H2 x d k) (hy : RV (gx X b cl) M₀ own ρ Hb H2 y e l) (h : idxD d e = some r) (W : Wants (gx X b cl) M₀ own ρ H2 g r (Kd.clean.by r k.nd) Q) : rIx X x y H2 Q := by
  unfold idxD at h
  split at h
  · obtain ⟨p, vs, rfl, s1, k1⟩ := RV.kids_tup Ra R hx
    cases RV.any Rb R hy
    obtain ⟨v, e1, r1, r2⟩ := kids_at k1 h
    exact ixRx ix_tup ⟨p, vs, _, v, rfl, rfl, s1, e1, W v H2 (Ext.refl _ _) B (RV.by r2 r1)⟩
  · obtain ⟨p, vs, rfl, s1, k1⟩ := RV.kids_lst Ra R hx
    cases RV.any Rb R hy
    obtain ⟨v, e1, r1, r2⟩ := kids_at k1 h
    exact ixRx ix_list ⟨p, vs, _, v, rfl, rfl, .of s1, e1, W v H2 (Ext.refl _ _) B (RV.by r2 r1)⟩
  · split at h
    · rename_i hz
      obtain ⟨c, e1, rfl⟩ := Option.map_eq_some_iff.mp h
      cases RV.any Ra R hx
      cases RV.any Rb R hy
      rw [by_atom rfl] at W
      exact ixRx ix_str ⟨_, _, c, rfl, rfl, hz, e1, W.atom B rfl (.str _)⟩
    · cases h
  · cases h
/-! ### slices -/
def rSl (X : Cx) : V → Option Int → Option Int → Hp → VK → Prop := fun x lo hi H Q => ∀ (pins : List (Addr × Obj)) (s : Shared) (σ : L2.St) (v vl vu : Value) (sl : Addr), Inv X pins σ H s → RelV x v → s.heap.IsSliceOf sl vl vu .none → IsPart vl lo → IsPart vu hi →
    ∃ T id, typeLookup (.type T) "__getitem__" = pure (some (.builtin id)) ∧ s.TypeIs v T ∧ wpAny (model X.prog X.w) X.A (getItem v (.ref sl)) (EP X pins σ Q) X.xe s
theorem sl_rSl : SlR X (rSl X) := fun pins s σ H x v vl vu lo hi sl Q I rx hs pl pu h => h pins s σ v vl vu sl I rx hs pl pu
theorem slRs {r : V → Option Int → Option Int → Hp → VK → Prop} (h : SlR X r) {x : V} {lo hi : Option Int} {H : Hp} {Q : VK} (q : r x lo hi H Q) : rSl X x lo hi H Q := fun pins s σ v vl vu sl I rx hs pl pu => h pins s σ H x v vl vu lo hi sl Q I rx hs pl pu q
theorem Kids.cut {G : Gx} {H : Hp} {vs : List V} {ds : List D} {ok : Bool} (h : Kids G M₀ own ρ H vs ds ok) (lo hi : Option Int) : Kids G M₀ own ρ H (cutV vs lo hi) (cutD ds lo hi) ok := by
  unfold cutV cutD
  rw [h.length]
  exact (h.drop _).take _
theorem cut_all {α : Type} (xs : List α) {lo hi : Option Int} (h : HT.sIx xs.length 0 lo = 0 ∧ HT.sIx xs.length xs.length hi = xs.length) : cutD xs lo hi = xs := by
  unfold cutD
  rw [h.1, h.2]
  simp
theorem sli_ok {x : V} {d r : D} {k m : Kd} {lo hi : Option Int} {Q : VK} {Ha : Hp} (Ra : Rel (gx X b cl) M₀ H₀ own ρ σ Ha) (R : Rel (gx X b cl) M₀ H₀ own ρ σ H2) (B : BagAt (gx X b cl) H2 g)
    (hx : RV (gx X b cl) M₀ own ρ Ha H2 x d k) (h : sliD d lo hi = some (r, m)) (W : Wants (gx X b cl) M₀ own ρ H2 g r (m.by r k.nd) Q) : rSl X x lo hi H2 Q := by
  unfold sliD at h
  split at h
  · cases h
    obtain ⟨p, vs, rfl, s1, k1⟩ := RV.kids_tup Ra R hx
    rw [by_tup] at W
    refine slRs sl_tupA ⟨p, vs, rfl, s1, fun z => ?_, fun _ => W.tup R B (k1.cut lo hi)⟩
    rw [k1.length] at z
    rw [cut_all _ z] at W
    exact W.old B Ra R hx fun z => z
  · cases h
    obtain ⟨p, vs, rfl, s1, k1⟩ := RV.kids_lst Ra R hx
    rw [by_lst] at W
    exact slRs sl_list ⟨p, vs, rfl, .of s1, W.lst R B (k1.cut lo hi)⟩
  · split at h
    · rename_i hz
      cases h
      cases RV.any Ra R hx
      rw [by_atom rfl] at W
      exact slRs sl_str ⟨_, rfl, hz, W.atom B rfl (.str _)⟩
    · cases h
  · cases h
end
end Ev
set_option Elab.async false
set_option linter.all false
set_option autoImplicit false
/-! Ev6: built-in functions by tree values. -/
namespace Ev
open PySem PySem.Spec PyProof.Rows L2 M
section
variable {X : Cx} {b : Addr} {cl : Cls} {M₀ : Addr → Prop} {H₀ H1 H2 H3 : Hp} {own : Nat → Addr} {ρ : List Slot} {σ : L2.St} {g : Bag}
def rC (X : Cx) (f : Value) : List V → Hp → VK → Prop := fun xs H Q => ∀ (pins : List (Addr × Obj)) (s : Shared) (σ : L2.St) (us : List Value), Inv X pins σ H s → Vals xs us → wpAny (model X.prog X.w) X.A (call f us) (EP X pins σ Q) X.xe s
theorem cr_rC (f : Value) : CallR X f (rC X f) := fun pins s σ H xs us Q I r h => h pins s σ us I r
theorem callRc {f : Value} {r : List V → Hp → VK → Prop} (h : CallR X f r) {xs : List V} {H : Hp} {Q : VK} (q : r xs H Q) : rC X f xs H Q := fun pins s σ us I rs => h pins s σ H xs us Q I rs q
theorem bools_rep {G : Gx} {H : Hp} : ∀ {vs : List V} {ds : List D} {bs : List Bool}, Reps G H vs ds → boolsD ds = some bs → vs = bs.map V.bl
  | _, _, _, .nil, e => by
    cases e
    rfl
  | _, _, bs, .cons (d := d) r t, e => by
    cases r <;> first | (cases e; done) | skip
    unfold boolsD at e
    obtain ⟨bs', h1, rfl⟩ := Option.map_eq_some_iff.mp e
    rw [bools_rep t h1]
    rfl
theorem strs_rep {G : Gx} {H : Hp} : ∀ {vs : List V} {ds : List D} {ys : List Str}, Reps G H vs ds → strsD ds = some ys → vs = ys.map V.str
  | _, _, _, .nil, e => by
    cases e
    rfl
  | _, _, bs, .cons (d := d) r t, e => by
    cases r <;> first | (cases e; done) | skip
    unfold strsD at e
    obtain ⟨bs', h1, rfl⟩ := Option.map_eq_some_iff.mp e
    rw [strs_rep t h1]
    rfl
theorem reps_strs {G : Gx} {H : Hp} : ∀ (ys : List Str), Reps G H (ys.map V.str) (ys.map D.str)
  | [] => .nil
  | y :: ys => .cons (.str y) (reps_strs ys)
theorem ints_rep {G : Gx} {H : Hp} : ∀ {vs : List V} {ds : List D} {is : List Int}, Reps G H vs ds → intsD ds = some is → vs = is.map V.int
  | _, _, _, .nil, h => by
    cases h
    rfl
  | _, _, is, .cons (d := d) (ds := ds) r t, h => by
    cases r <;> first | (cases h; done) | skip
    rename_i i
    obtain ⟨js, h1, rfl⟩ := Option.map_eq_some_iff.mp (show (intsD ds).map (i :: ·) = some is from h)
    rw [ints_rep t h1]
    rfl
def Blt.val : Blt → Value
  | .len => .builtin "len"
  | .int => .type "int"
  | .tuple => .type "tuple"
  | .list => .type "list"
  | .all => .builtin "all"
  | .any => .builtin "any"
  | .repr => .builtin "repr"
  | .sorted => .builtin "sorted"
  | .sortset => .builtin "sorted"
  | .abs => .builtin "abs"
  | .sum => .builtin "sum"
  | .max => .builtin "max"
  | .min => .builtin "min"
/-! repr -/
theorem showOk_some {y : PyData} (h : showOk y = true) : y.showable = true ∧ y.hasDict = false ∧ y.depth ≤ 64 ∧ y.shown.length ≤ sizeLine := by
  unfold showOk at h
  rw [Bool.and_eq_true, Bool.and_eq_true, Bool.and_eq_true] at h
  exact ⟨h.1.1.1, by simpa using h.1.1.2, of_decide_eq_true h.1.2, of_decide_eq_true h.2⟩
theorem cr_reprT (hg : X.A.guards = some []) (hu : X.A.units + 66 < cLine) : CallR X (.builtin "repr") (fun xs H Q => ∃ a y, xs = [.ref a] ∧ Dp X.K H (.ref a) y ∧ showOk y = true ∧ Q (.str y.shown) H) := by
  intro pins s σ H xs us Q I r h
  obtain ⟨a, y, rfl, h1, h2, q⟩ := h
  obtain ⟨u, rfl, ru⟩ := vals1 r
  cases ru
  obtain ⟨as, rd⟩ := Dp.reads I y (.ref a) (.ref a) h1 rfl
  obtain ⟨e1, e2, e3, e4⟩ := showOk_some h2
  exact repr_of_reads' rd e1 (fun z => by rw [e2] at z; cases z) hg (by omega) (fun _ _ e => e) (fun h' t tk hk => ⟨.str y.shown, H, I.kept (t' := tk) hk, ⟨_, rfl⟩, q⟩) e4
theorem cr_reprN : CallR X (.builtin "repr") (fun xs H Q => xs = [.non] ∧ Q (.str "None") H) := by
  intro pins s σ H xs us Q I r h
  obtain ⟨rfl, q⟩ := h
  obtain ⟨u, rfl, ru⟩ := vals1 r
  cases ru
  exact PySem.P.repr_of_none ⟨.str _, H, I.tok _, ⟨_, rfl⟩, q⟩
theorem cr_reprB : CallR X (.builtin "repr") (fun xs H Q => ∃ b : Bool, xs = [.bl b] ∧ Q (.str (if b then "True" else "False")) H) := by
  intro pins s σ H xs us Q I r h
  obtain ⟨b, rfl, q⟩ := h
  obtain ⟨u, rfl, ru⟩ := vals1 r
  cases ru
  exact PySem.P.repr_of_bool ⟨.str _, H, I.tok _, ⟨_, rfl⟩, q⟩
theorem cr_reprS : CallR X (.builtin "repr") (fun xs H Q => ∃ x : Str, xs = [.str x] ∧ (reprText x).length ≤ sizeLine ∧ Q (.str (reprText x)) H) := by
  intro pins s σ H xs us Q I r h
  obtain ⟨x, rfl, hz, q⟩ := h
  obtain ⟨u, rfl, t, rfl⟩ := vals1 r
  exact PySem.P.repr_of_str ⟨.str _, H, I.tok _, ⟨_, rfl⟩, q⟩ hz
/-! sorted -/
theorem reps_pairs {G : Gx} {H : Hp} : ∀ {zs : List (V × D)}, (∀ p ∈ zs, Rep G H p.1 p.2) → Reps G H (zs.map Prod.fst) (zs.map Prod.snd)
  | [], _ => .nil
  | z :: zs, h => .cons (h z List.mem_cons_self) (reps_pairs fun p hp => h p (List.mem_cons_of_mem _ hp))
theorem pairs_reps {G : Gx} {H : Hp} : ∀ {vs : List V} {ds : List D}, Reps G H vs ds → ∀ p ∈ vs.zip ds, Rep G H p.1 p.2
  | _, _, .nil, p, hp => by cases hp
  | _, _, .cons r t, p, hp => by
    rcases List.mem_cons.mp hp with rfl | hp
    · exact r
    · exact pairs_reps t p hp
theorem each_vals : ∀ {vs : List V} {us : List Value} {ds : List D}, Vals vs us → vs.length = ds.length → PySem.W.EachIs (fun u (p : V × D) => RelV p.1 u) us (vs.zip ds)
  | _, _, [], .nil, _ => .nil
  | _, _, d :: ds, .cons r t, h => .cons r (each_vals t (by simpa using h))
theorem vals_each : ∀ {us : List Value} {zs : List (V × D)}, PySem.W.EachIs (fun u (p : V × D) => RelV p.1 u) us zs → Vals (zs.map Prod.fst) us
  | _, _, .nil => .nil
  | _, _, .cons r t => .cons r (vals_each t)
theorem each_and {α β : Type} {R R' : α → β → Prop} : ∀ {as : List α} {bs : List β}, PySem.W.EachIs R as bs → (∀ a b, (a, b) ∈ as.zip bs → R a b → R' a b) → PySem.W.EachIs R' as bs
  | _, _, .nil, _ => .nil
  | _, _, .cons r t, h => .cons (h _ _ List.mem_cons_self r) (each_and t fun a b m => h a b (List.mem_cons_of_mem _ m))
theorem sortOk_some {ys : List PyData} (h : sortOk ys = true) : PySem.W.AllAlike ys ∧ PySem.W.Sortable ys ∧ ∀ y ∈ ys, y.depth ≤ 64 := by
  unfold sortOk at h
  rw [Bool.and_eq_true, Bool.or_eq_true, List.all_eq_true, List.all_eq_true, List.all_eq_true] at h
  obtain ⟨h1, h2⟩ := h
  have h3 : ∀ y ∈ ys, SeqAt.shaped y = true ∧ ∀ z ∈ ys, PySem.W.alike y z = true := fun y hy => by
    have q := h1 y hy
    rw [Bool.and_eq_true, List.all_eq_true] at q
    exact q
  refine ⟨fun d hd e he => (h3 d hd).2 e he, ?_, fun y hy => shaped_depth (h3 y hy).1⟩
  rcases h2 with h2 | h2
  · left
    intro d hd
    have q := h2 d hd
    split at q
    · exact ⟨_, _, rfl⟩
    · cases q
  · right
    intro d hd
    have q := h2 d hd
    refine ⟨fun z => ?_, fun xs z => ?_⟩
    · subst z
      cases q
    · subst z
      cases q
theorem fst_zip {vs : List V} {ds : List D} (h : vs.length = ds.length) : (vs.zip ds).map Prod.fst = vs := List.map_fst_zip (by omega)
theorem snd_zip {vs : List V} {ds : List D} (h : vs.length = ds.length) : (vs.zip ds).map Prod.snd = ds := List.map_snd_zip (by omega)
/-- a list of new order, laid -/
theorem sorted_laid {pins : List (Addr × Obj)} {s : Shared} {H : Hp} {h' : Heap} {tk c : Nat} {out : List Value} {vs : List V} {p : Addr} (I : Inv X pins σ H s) (k : ∀ b o, s.heap.get? b = some o → h'.get? b = some o) (hp : s.heap.objs.size ≤ p)
    (hc : h'.get? p = some (seqObj "list" out.toArray c)) (r : Vals vs out) (hz : vs.length ≤ sizeLine) : Inv X pins σ (upd H p (.lst vs)) { s with heap := h', toks := tk } :=
  I.laid (t' := tk) k hp ⟨hz, out, c, r, hc⟩
theorem sorted_pairs {vs : List V} {ds : List D} (key : D → PyData) (h : vs.length = ds.length) : ((vs.zip ds).mergeSort (PySem.W.dataLe false fun p => key p.2)).map Prod.snd = ds.mergeSort (PySem.W.dataLe false key) := by
  have e := PySem.W.sort_maps (r := PySem.W.dataLe false fun (p : V × D) => key p.2) (s := PySem.W.dataLe false key) Prod.snd (l := vs.zip ds) (fun a _ b _ => rfl)
  rw [snd_zip h] at e
  exact e
def rSorted (G : Gx) (M₀ : Addr → Prop) (own : Nat → Addr) (ρ : List Slot) (ok : Bool) (key : D → PyData) : List V → Hp → VK → Prop := fun xs H Q => ∃ a vs ds, xs = [.ref a] ∧ H a = some (.lst vs) ∧ Kids G M₀ own ρ H vs ds ok ∧
  ∀ p ws, H p = none → Kids G M₀ own ρ H ws (ds.mergeSort (PySem.W.dataLe false key)) ok → Q (.ref p) (upd H p (.lst ws))
theorem kids_sorted {G : Gx} {H : Hp} {vs : List V} {ds : List D} {ok : Bool} (key : D → PyData) (h : Kids G M₀ own ρ H vs ds ok) :
    Kids G M₀ own ρ H (((vs.zip ds).mergeSort (PySem.W.dataLe false fun p => key p.2)).map Prod.fst) (ds.mergeSort (PySem.W.dataLe false key)) ok := by
  rw [← sorted_pairs key h.length]
  exact ⟨reps_pairs fun p hp => pairs_reps h.1 p (List.mem_mergeSort.mp hp), fun z => reps_pairs fun p hp => pairs_reps (h.2 z) p (List.mem_mergeSort.mp hp)⟩
theorem reads_zip {pins : List (Addr × Obj)} {s : Shared} {H : Hp} (I : Inv X pins σ H s) {G : Gx} (hG : G.K = X.K) : ∀ {vs : List V} {us : List Value} {ds : List D}, Reps G H vs ds → Vals vs us → (∀ d ∈ ds, d.py = some (pyD d)) →
    PySem.W.EachIs (fun u (p : V × D) => ∃ as, Reads s.heap u (pyD p.2) as) us (vs.zip ds)
  | _, _, _, .nil, .nil, _ => .nil
  | _, _, _, .cons r t, .cons q z, h => .cons (Dp.reads I _ _ _ (hG ▸ r.dp (h _ List.mem_cons_self)) q) (reads_zip I hG t z fun d hd => h d (List.mem_cons_of_mem _ hd))
theorem cr_sortedT (hu : X.A.units + 66 < cLine) (ok : Bool) (P : List D → Prop) (hP : ∀ ds, P ds → ∃ ys, D.pys ds = some ys ∧ sortOk ys = true) :
    CallR X (.builtin "sorted") (fun xs H Q => ∃ a vs ds, xs = [.ref a] ∧ H a = some (.lst vs) ∧ Kids (gx X b cl) M₀ own ρ H vs ds ok ∧ P ds ∧
      ∀ p ws, H p = none → Kids (gx X b cl) M₀ own ρ H ws (ds.mergeSort (PySem.W.dataLe false pyD)) ok → Q (.ref p) (upd H p (.lst ws))) := by
  intro pins s σ H xs us Q I r h
  obtain ⟨a, vs, ds, rfl, ha, hk, hp, q⟩ := h
  obtain ⟨ys, hys, hs⟩ := hP ds hp
  obtain ⟨u, rfl, ru⟩ := vals1 r
  cases ru
  obtain ⟨its, rv, pl, hz⟩ := I.list (.of ha)
  obtain ⟨h1, h2, h3⟩ := sortOk_some hs
  have hall := pys_all hys
  have e1 : (vs.zip ds).map (fun p => pyD p.2) = ys := by
    rw [pys_map hys, ← snd_zip hk.length, List.map_map, snd_zip hk.length]
    rfl
  have e2 := reads_zip I rfl (hk.1.mono (vis_sub _ _)) rv hall
  refine PySem.W.sorted_data (R := fun u (p : V × D) => RelV p.1 u) (enc := fun p => pyD p.2) (bs := vs.zip ds) pl.isList (each_vals rv hk.length) e2 (by rw [e1]; exact h1) (by rw [e1]; exact h2) (by rw [List.length_zip]; omega) (fun p hm => ?_) fun out ho eo => ?_
  · have hy : pyD p.2 ∈ ys := by
      rw [← e1]
      exact List.mem_map_of_mem hm
    have := h3 _ hy
    omega
  · obtain ⟨c, hc⟩ := sortedAll_at s.heap its out.toArray
    have rv2 := vals_each eo
    have kk := kids_sorted pyD hk
    have np : H (s.heap.objs.size + 1) = none := I.hok.fresh (Nat.le_succ _)
    refine ⟨.ref (s.heap.objs.size + 1), _, sorted_laid (tk := s.toks) I (fun _ _ => sortedAll_old) (Nat.le_succ _) hc rv2 ?_, rfl, q _ _ np kk⟩
    have := rv2.length
    rw [ho, List.length_zip] at this
    omega
theorem blt_ok (f : Blt) {k0 : Nat} (cx : CxOk k0 X) {x : V} {d r : D} {k m : Kd} {Q : VK} {Ha : Hp} (Ra : Rel (gx X b cl) M₀ H₀ own ρ σ Ha) (R : Rel (gx X b cl) M₀ H₀ own ρ σ H2) (B : BagAt (gx X b cl) H2 g)
    (hx : RV (gx X b cl) M₀ own ρ Ha H2 x d k) (h : bltD f d = some (r, m)) (hf : f ≠ .sortset) (W : Wants (gx X b cl) M₀ own ρ H2 g r (m.by r k.nd) Q) : rC X f.val [x] H2 Q := by
  have hu := cx.room.un
  unfold bltD at h
  split at h
  all_goals try (cases h; done)
  · cases h
    obtain ⟨p, vs, rfl, s1, k1⟩ := RV.kids_tup Ra R hx
    rw [by_atom rfl] at W
    exact callRc call_len ⟨_, _, rfl, .inr ⟨vs, s1, k1.length.symm⟩, W.atom B rfl (.int _)⟩
  · cases h
    obtain ⟨p, vs, rfl, s1, k1⟩ := RV.kids_lst Ra R hx
    rw [by_atom rfl] at W
    exact callRc call_len ⟨_, _, rfl, .inl ⟨vs, .of s1, k1.length.symm⟩, W.atom B rfl (.int _)⟩
  · split at h
    · rename_i hz
      cases h
      cases RV.any Ra R hx
      rw [by_atom rfl] at W
      exact callRc call_len ⟨_, _, rfl, ⟨hz, rfl⟩, W.atom B rfl (.int _)⟩
    · cases h
  · cases h
    cases RV.any Ra R hx
    rw [by_atom rfl] at W
    exact callRc call_int1 (.inl ⟨_, rfl, W.atom B rfl (.int _)⟩)
  · cases h
    cases RV.any Ra R hx
    rw [by_atom rfl] at W
    exact callRc call_int1 (.inr ⟨_, rfl, W.atom B rfl (.int _)⟩)
  · cases h
    cases RV.any Ra R hx
    rw [by_atom rfl] at W
    exact callRc call_abs ⟨_, rfl, W.atom B rfl (.int _)⟩
  · cases h
    obtain ⟨p, vs, rfl, s1, k1⟩ := RV.kids_tup Ra R hx
    rw [by_tup] at W
    exact callRc call_tuple_of ⟨_, _, rfl, .inr ⟨s1, W.old B Ra R hx fun z => z⟩⟩
  · cases h
    obtain ⟨p, vs, rfl, s1, k1⟩ := RV.kids_lst Ra R hx
    rw [by_tup] at W
    exact callRc call_tuple_of ⟨_, _, rfl, .inl ⟨.of s1, W.tup R B k1⟩⟩
  · cases h
    obtain ⟨p, vs, rfl, s1, k1⟩ := RV.kids_tup Ra R hx
    rw [by_lst] at W
    exact callRc call_list_of ⟨_, _, rfl, .inr s1, W.lst R B k1⟩
  · cases h
    obtain ⟨p, vs, rfl, s1, k1⟩ := RV.kids_lst Ra R hx
    rw [by_lst] at W
    exact callRc call_list_of ⟨_, _, rfl, .inl (.of s1), W.lst R B k1⟩
  · obtain ⟨bs, h1, h2⟩ := Option.map_eq_some_iff.mp h
    cases h2
    obtain ⟨p, vs, rfl, s1, k1⟩ := RV.kids_lst Ra R hx
    rw [by_atom rfl] at W
    have e := bools_rep k1.1 h1
    subst e
    exact callRc (cr_all cx.calm) ⟨_, _, rfl, .of s1, W.atom B rfl (.bl _)⟩
  · obtain ⟨bs, h1, h2⟩ := Option.map_eq_some_iff.mp h
    cases h2
    obtain ⟨p, vs, rfl, s1, k1⟩ := RV.kids_lst Ra R hx
    rw [by_atom rfl] at W
    have e := bools_rep k1.1 h1
    subst e
    exact callRc (cr_any cx.calm) ⟨_, _, rfl, .of s1, W.atom B rfl (.bl _)⟩
  · have hr := RV.any Ra R hx
    have go : ∀ {a : Addr}, x = .ref a → d.py.bind (fun y => if showOk y = true then some (D.str y.shown, Kd.clean) else none) = some (r, m) → rC X (.builtin "repr") [x] H2 Q := fun {a} e h => by
      obtain ⟨y, h1, h2⟩ := Option.bind_eq_some_iff.mp h
      split at h2
      · rename_i hs
        cases h2
        rw [by_atom rfl] at W
        subst e
        exact callRc (cr_reprT cx.gd (by omega)) ⟨_, y, rfl, (hr.mono (vis_sub _ _)).dp h1, hs, W.atom B rfl (.str _)⟩
      · cases h2
    split at h
    · obtain ⟨p, vs, e, s1, k1⟩ := RV.kids_tup Ra R hx
      exact go e h
    · obtain ⟨p, vs, e, s1, k1⟩ := RV.kids_lst Ra R hx
      exact go e h
    · split at h
      · cases h
        cases hr
        rw [by_atom rfl] at W
        exact callRc SkE.call_repr_int ⟨_, rfl, by assumption, W.atom B rfl (.str _)⟩
      · cases h
    · cases h
      cases hr
      rw [by_atom rfl] at W
      exact callRc cr_reprN ⟨rfl, W.atom B rfl (.str _)⟩
    · cases h
      cases hr
      rw [by_atom rfl] at W
      exact callRc cr_reprB ⟨_, rfl, W.atom B rfl (.str _)⟩
    · split at h
      · cases h
        cases hr
        rw [by_atom rfl] at W
        exact callRc cr_reprS ⟨_, rfl, by assumption, W.atom B rfl (.str _)⟩
      · cases h
    · cases h
  · obtain ⟨ys, h1, h2⟩ := Option.bind_eq_some_iff.mp h
    split at h2
    · rename_i hs
      cases h2
      obtain ⟨p, vs, rfl, s1, k1⟩ := RV.kids_lst Ra R hx
      rw [by_lst] at W
      exact callRc (cr_sortedT (b := b) (cl := cl) (M₀ := M₀) (own := own) (ρ := ρ) (by omega) k.nd (fun ds => ∃ ys, D.pys ds = some ys ∧ sortOk ys = true) fun _ z => z) ⟨p, vs, _, rfl, s1, k1, ⟨ys, h1, hs⟩, fun q ws hq kw => W.lst R B kw q hq⟩
    · cases h2
  · obtain ⟨is, h1, h2⟩ := Option.map_eq_some_iff.mp h
    cases h2
    obtain ⟨p, vs, rfl, s1, k1⟩ := RV.kids_lst Ra R hx
    have e := ints_rep k1.1 h1
    subst e
    rw [by_atom rfl] at W
    exact callRc (cr_sum cx.calm) ⟨p, is, rfl, .of s1, W.atom B rfl (.int _)⟩
  · obtain ⟨is, h1, h2⟩ := Option.bind_eq_some_iff.mp h
    obtain ⟨mx, h3, h4⟩ := Option.map_eq_some_iff.mp h2
    cases h4
    obtain ⟨p, vs, rfl, s1, k1⟩ := RV.kids_lst Ra R hx
    have e := ints_rep k1.1 h1
    subst e
    rw [by_atom rfl] at W
    obtain ⟨m1, m2⟩ := List.max?_eq_some_iff.mp h3
    refine callRc (cr_max cx.calm) ⟨p, is, rfl, .of s1, List.length_pos_of_mem m1, fun z z1 z2 => ?_⟩
    have e : z = mx := Int.le_antisymm (m2 z z1) (z2 mx m1)
    subst e
    exact W.atom B rfl (.int _)
  · obtain ⟨is, h1, h2⟩ := Option.bind_eq_some_iff.mp h
    obtain ⟨mx, h3, h4⟩ := Option.map_eq_some_iff.mp h2
    cases h4
    obtain ⟨p, vs, rfl, s1, k1⟩ := RV.kids_lst Ra R hx
    have e := ints_rep k1.1 h1
    subst e
    rw [by_atom rfl] at W
    obtain ⟨m1, m2⟩ := List.min?_eq_some_iff.mp h3
    refine callRc (cr_min cx.calm) ⟨p, is, rfl, .of s1, List.length_pos_of_mem m1, fun z z1 z2 => ?_⟩
    have e : z = mx := Int.le_antisymm (z2 mx m1) (m2 z z1)
    subst e
    exact W.atom B rfl (.int _)
  · exact absurd rfl hf
  · exact absurd rfl hf
end
end Ev
set_option Elab.async false
set_option linter.all false
set_option autoImplicit false
/-! Ev7: expressions, one rule a form. -/
namespace Ev
open PySem PySem.Spec PyProof.Rows L2 M
/-! ### side conditions of the text -/
def isStar : Expr → Bool
  | .Starred .. => true
  | _ => false
theorem star_no {e : Expr} (h : isStar e = false) (es : List Expr) (env : Env) : starEach (e :: es) env = (false, eval e env) :: starEach es env := by
  cases e <;> first | rfl | cases h
theorem stars_no {pos : Pos} {env : Env} : ∀ {es : List Expr}, es.all (fun e => !isStar e) = true → (backTo pos (starEach es env)).any (·.1) = false
  | [], _ => rfl
  | e :: es, h => by
    rw [List.all_cons, Bool.and_eq_true] at h
    rw [star_no (by simpa using h.1)]
    exact stars_no (es := es) h.2
def isSetD : Expr → Bool
  | .Set .. => true
  | _ => false
theorem mark_no {e : Expr} {op : CmpOp} (h : isSetD e = false) : behindInMarks op e = false := by
  cases e <;> first | rfl | cases h
theorem folded_no {e : Expr} {env : Env} (h : isSetD e = false) : ∀ x, foldedSetIterable e env x = pure x := by
  intro x
  cases e <;> first | rfl | cases h
def isSl : Expr → Bool
  | .Slice .. => true
  | _ => false
theorem plain_ix {e : Expr} (h : isSl e = false) : PlainIx e := by
  intro o i
  cases e <;> first | rfl | cases h
/-- a form whose truth is that of its value -/
def plainT : Expr → Bool
  | .UnaryOp .Not .. => false
  | .BoolOp .. => false
  | .IfExp .. => false
  | .Compare .. => false
  | _ => true
theorem plain_true {e : Expr} {env : Env} (h : plainT e = true) : ∀ whole, isTrue e env whole = (do let v ← whole; standAt e.pos; holding [v] (truthy v)) := by
  intro whole
  cases e with
  | UnaryOp op x p => cases op <;> first | rfl | cases h
  | BoolOp => cases h
  | IfExp => cases h
  | Compare => cases h
  | _ => rfl
def isComp : Expr → Bool
  | .ListComp .. => true
  | .SetComp .. => true
  | .DictComp .. => true
  | _ => false
theorem swaps_no {e : Expr} {t : Option Expr} {l : Nat} {env : Env} (h : isComp e = false) : swapsWith e t l env = pure false := by
  cases e <;> first | rfl | cases h
def isCall0 : Expr → Bool
  | .Call (.Name ..) [] [] _ => true
  | _ => false
theorem base_no {o : Expr} {a : Str} {env : Env} {whole : Sem Value} (h : isCall0 o = false) : attributeBase o a env whole = whole := by
  unfold attributeBase
  split
  · cases h
  · rfl
theorem intM_eq {d : D} {i : Int} {g g' : Bag} (h : intM d g = some (i, g')) : d = .int i ∧ g = g' := by
  cases d <;> first | (cases h; exact ⟨rfl, rfl⟩) | (cases h; done)
theorem boolM_eq {d : D} {t : Bool} {g g' : Bag} (h : boolM d g = some (t, g')) : d = .bl t ∧ g = g' := by
  cases d <;> first | (cases h; exact ⟨rfl, rfl⟩) | (cases h; done)
section
variable {X : Cx} {b : Addr} {cl : Cls}
/-! ### constants, names -/
theorem se_non {j : Nat} {pos : Pos} : SE b cl X (.Constant .none j pos) (fun _ => ret (.non, .clean)) := fun M₀ H₀ own ρ σ H g d k g' Q R B h q => by
  cases h
  exact PE.wp pe_non (q _ _ (Ext.refl _ _) B .non)
theorem se_bl {t : Bool} {j : Nat} {pos : Pos} : SE b cl X (.Constant (.bool t) j pos) (fun _ => ret (.bl t, .clean)) := fun M₀ H₀ own ρ σ H g d k g' Q R B h q => by
  cases h
  exact PE.wp pe_bl (q _ _ (Ext.refl _ _) B (.bl t))
theorem se_int {i : Int} {j : Nat} {pos : Pos} : SE b cl X (.Constant (.int i) j pos) (fun _ => ret (.int i, .clean)) := fun M₀ H₀ own ρ σ H g d k g' Q R B h q => by
  cases h
  exact PE.wp pe_int (q _ _ (Ext.refl _ _) B (.int i))
theorem se_str {x : Str} {j : Nat} {pos : Pos} : SE b cl X (.Constant (.str x) j pos) (fun _ => ret (.str x, .clean)) := fun M₀ H₀ own ρ σ H g d k g' Q R B h q => by
  cases h
  exact PE.wp pe_str (q _ _ (Ext.refl _ _) B (.str x))
theorem se_var {i : Nat} {x : Str} {pos : Pos} (hN : X.N[i]? = some x) (hv : Vis X.env.scope x) (hd : (x == ("__debug__" : Str)) = false) (hc : (x == ("__classdict__" : Str)) = false) : SE b cl X (.Name x pos) (varM i) := fun M₀ H₀ own ρ σ H g d k g' Q R B h q => by
  unfold varM at h
  cases e : ρ[i]? with
  | none =>
    rw [e] at h
    cases h
  | some sl =>
    rw [e] at h
    cases sl with
    | no => cases h
    | val d' =>
      cases h
      obtain ⟨v, h1, h2⟩ := R.vl i _ e
      exact PE.wp (pe_var hN hv hd hc) ⟨v, h1, q _ _ (Ext.refl _ _) B h2⟩
    | own d' =>
      cases h
      obtain ⟨h1, _⟩ := R.ow i _ e
      exact PE.wp (pe_var hN hv hd hc) ⟨_, h1, q _ _ (Ext.refl _ _) B ⟨i, e, rfl⟩⟩
/-! ### two expressions, one behind the other -/
theorem two {a c : Expr} {fa fc : List Slot → M (D × Kd)} (ha : SE b cl X a fa) (hc : SE b cl X c fc) {M₀ : Addr → Prop} {H₀ : Hp} {own : Nat → Addr} {ρ : List Slot} {σ : L2.St} {H : Hp} {g g1 g2 : Bag} {d e : D} {k l : Kd}
    {T : V → V → Hp → Prop} (R : Rel (gx X b cl) M₀ H₀ own ρ σ H) (B : BagAt (gx X b cl) H g) (h1 : fa ρ g = some ((d, k), g1)) (h2 : fc ρ g1 = some ((e, l), g2))
    (q : ∀ x y H1 H2, Ext b H H2 → Rel (gx X b cl) M₀ H₀ own ρ σ H1 → Rel (gx X b cl) M₀ H₀ own ρ σ H2 → BagAt (gx X b cl) H2 g2 → RV (gx X b cl) M₀ own ρ H H2 x d k → RV (gx X b cl) M₀ own ρ H1 H2 y e l → T x y H2) :
    wpE X a σ H fun x H1 => wpE X c σ H1 fun y H2 => T x y H2 := by
  refine ha M₀ H₀ own ρ σ H g d k g1 _ R B h1 fun x H1 x1 B1 r1 => ?_
  have R1 := R.move x1 B1.some
  refine hc M₀ H₀ own ρ σ H1 g1 e l g2 _ R1 B1 h2 fun y H2 x2 B2 r2 => ?_
  exact q x y H1 H2 (x1.trans x2) R1 (R1.move x2 B2.some) B2 (r1.move R x2) r2
/-! ### comparisons -/
theorem se_cmp {a c : Expr} {fa fc : List Slot → M (D × Kd)} {o : Cop} {pos : Pos} {k0 : Nat} (cx : CxOk k0 X) (ha : SE b cl X a fa) (hc : SE b cl X c fc) (hm : isSetD c = false) :
    SE b cl X (.Compare a [o.ast] [c] pos) (fun ρ => bnd (fa ρ) fun p => bnd (fc ρ) fun q => bnd (opt (cmpD o p.1 q.1)) fun t => ret (.bl t, .clean)) := fun M₀ H₀ own ρ σ H g d k g' Q R B h q => by
  have hu := cx.room.un
  obtain ⟨⟨x, kx⟩, g1, h1, h⟩ := bnd_some h
  obtain ⟨⟨y, ky⟩, g2, h2, h⟩ := bnd_some h
  obtain ⟨t, g3, h3, h⟩ := bnd_some h
  have e3 := (opt_eq h3).1
  have e4 := (opt_eq h3).2
  subst e4
  cases h
  refine PE.wp (pe_cmpR (op_cmpT (b := b) (cl := cl) o (by omega)) pe_wp pe_wp (mark_no hm)) (two ha hc R B h1 h2 fun vx vy H1 H2 xx R1 R2 B2 r1 r2 => ?_)
  exact ⟨x, y, t, (r1.any R R2).mono (vis_sub _ _), (r2.any R1 R2).mono (vis_sub _ _), e3, q _ _ xx B2 (.bl t)⟩
theorem st_cmp {a c : Expr} {fa fc : List Slot → M (D × Kd)} {o : Cop} {pos : Pos} {k0 : Nat} (cx : CxOk k0 X) (ha : SE b cl X a fa) (hc : SE b cl X c fc) (hm : isSetD c = false) :
    ST b cl X (.Compare a [o.ast] [c] pos) (fun ρ => bnd (fa ρ) fun p => bnd (fc ρ) fun q => opt (cmpD o p.1 q.1)) := fun M₀ H₀ own ρ σ H g t g' Q R B h q => by
  have hu := cx.room.un
  obtain ⟨⟨x, kx⟩, g1, h1, h⟩ := bnd_some h
  obtain ⟨⟨y, ky⟩, g2, h2, h⟩ := bnd_some h
  have e3 := (opt_eq h).1
  have e4 := (opt_eq h).2
  subst e4
  refine PT.wp (pt_cmpR (op_cmpT (b := b) (cl := cl) o (by omega)) pe_wp pe_wp (mark_no hm)) (two ha hc R B h1 h2 fun vx vy H1 H2 xx R1 R2 B2 r1 r2 => ?_)
  exact ⟨x, y, t, (r1.any R R2).mono (vis_sub _ _), (r2.any R1 R2).mono (vis_sub _ _), e3, t, rfl, q _ xx B2⟩
/-! ### operators, subscripts, slices -/
theorem se_bin {a c : Expr} {fa fc : List Slot → M (D × Kd)} {o : Bop} {pos : Pos} (ha : SE b cl X a fa) (hc : SE b cl X c fc) :
    SE b cl X (.BinOp a o.ast c pos) (fun ρ => bnd (fa ρ) fun p => bnd (fc ρ) fun q => bnd (opt (binD o p.1 q.1)) fun r => ret (r.1, r.2.by r.1 (p.2.nd && q.2.nd))) := fun M₀ H₀ own ρ σ H g d k g' Q R B h q => by
  obtain ⟨⟨x, kx⟩, g1, h1, h⟩ := bnd_some h
  obtain ⟨⟨y, ky⟩, g2, h2, h⟩ := bnd_some h
  obtain ⟨⟨r, m⟩, g3, h3, h⟩ := bnd_some h
  have e3 := (opt_eq h3).1
  have e4 := (opt_eq h3).2
  subst e4
  cases h
  refine PE.wp (pe_op (or_rB _) pe_wp pe_wp) (two ha hc R B h1 h2 fun vx vy H1 H2 xx R1 R2 B2 r1 r2 => ?_)
  exact bin_ok o R R1 R2 B2 r1 r2 e3 fun v H' x9 B9 r9 => q v H' (xx.trans x9) B9 (r9.ahead R xx B2.some)
theorem se_idx {a c : Expr} {fa fc : List Slot → M (D × Kd)} {pos : Pos} (ha : SE b cl X a fa) (hc : SE b cl X c fc) (hs : isSl c = false) :
    SE b cl X (.Subscript a c pos) (fun ρ => bnd (fa ρ) fun p => bnd (fc ρ) fun q => bnd (opt (idxD p.1 q.1)) fun r => ret (r, Kd.clean.by r p.2.nd)) := fun M₀ H₀ own ρ σ H g d k g' Q R B h q => by
  obtain ⟨⟨x, kx⟩, g1, h1, h⟩ := bnd_some h
  obtain ⟨⟨y, ky⟩, g2, h2, h⟩ := bnd_some h
  obtain ⟨r, g3, h3, h⟩ := bnd_some h
  have e3 := (opt_eq h3).1
  have e4 := (opt_eq h3).2
  subst e4
  cases h
  refine PE.wp (pe_ix ix_rIx pe_wp pe_wp (plain_ix hs)) (two ha hc R B h1 h2 fun vx vy H1 H2 xx R1 R2 B2 r1 r2 => ?_)
  exact idx_ok R R1 R2 B2 r1 r2 e3 fun v H' x9 B9 r9 => q v H' (xx.trans x9) B9 (r9.ahead R xx B2.some)
theorem se_neg {a : Expr} {fa : List Slot → M (D × Kd)} {pos : Pos} (ha : SE b cl X a fa) :
    SE b cl X (.UnaryOp .USub a pos) (fun ρ => bnd (fa ρ) fun p => bnd (intM p.1) fun i => ret (.int (-i), .clean)) := fun M₀ H₀ own ρ σ H g d k g' Q R B h q => by
  obtain ⟨⟨x, kx⟩, g1, h1, h⟩ := bnd_some h
  obtain ⟨i, g3, h3, h⟩ := bnd_some h
  cases h
  have e3 := (intM_eq h3).1
  have e4 := (intM_eq h3).2
  subst e4
  dsimp only at e3
  subst e3
  refine PE.wp (pe_un un_neg pe_wp) (ha M₀ H₀ own ρ σ H g _ _ _ _ R B h1 fun v H1 x1 B1 r1 => ?_)
  cases r1.any R (R.move x1 B1.some)
  exact ⟨_, rfl, q _ _ x1 B1 (.int _)⟩
theorem se_slHi {a c : Expr} {fa fc : List Slot → M (D × Kd)} {pos p2 : Pos} (ha : SE b cl X a fa) (hc : SE b cl X c fc) :
    SE b cl X (.Subscript a (.Slice none (some c) none p2) pos) (fun ρ => bnd (fa ρ) fun p => bnd (fc ρ) fun q => bnd (intM q.1) fun j => bnd (opt (sliD p.1 none (some j))) fun r => ret (r.1, r.2.by r.1 p.2.nd)) := fun M₀ H₀ own ρ σ H g d k g' Q R B h q => by
  obtain ⟨⟨x, kx⟩, g1, h1, h⟩ := bnd_some h
  obtain ⟨⟨y, ky⟩, g2, h2, h⟩ := bnd_some h
  obtain ⟨j, g4, h4, h⟩ := bnd_some h
  obtain ⟨⟨r, m⟩, g3, h3, h⟩ := bnd_some h
  have e3 := (opt_eq h3).1
  have e4 := (opt_eq h3).2
  subst e4
  cases h
  have e5 := (intM_eq h4).1
  have e6 := (intM_eq h4).2
  subst e6
  dsimp only at e5
  subst e5
  refine PE.wp (pe_slice sl_rSl pe_wp po_none (po_some pe_wp)) (two ha hc R B h1 h2 fun vx vy H1 H2 xx R1 R2 B2 r1 r2 => ?_)
  cases r2.any R1 R2
  exact ⟨_, rfl, sli_ok R R2 B2 r1 e3 fun v H' x9 B9 r9 => q v H' (xx.trans x9) B9 (r9.ahead R xx B2.some)⟩
theorem se_slLo {a c : Expr} {fa fc : List Slot → M (D × Kd)} {pos p2 : Pos} (ha : SE b cl X a fa) (hc : SE b cl X c fc) :
    SE b cl X (.Subscript a (.Slice (some c) none none p2) pos) (fun ρ => bnd (fa ρ) fun p => bnd (fc ρ) fun q => bnd (intM q.1) fun j => bnd (opt (sliD p.1 (some j) none)) fun r => ret (r.1, r.2.by r.1 p.2.nd)) := fun M₀ H₀ own ρ σ H g d k g' Q R B h q => by
  obtain ⟨⟨x, kx⟩, g1, h1, h⟩ := bnd_some h
  obtain ⟨⟨y, ky⟩, g2, h2, h⟩ := bnd_some h
  obtain ⟨j, g4, h4, h⟩ := bnd_some h
  obtain ⟨⟨r, m⟩, g3, h3, h⟩ := bnd_some h
  have e3 := (opt_eq h3).1
  have e4 := (opt_eq h3).2
  subst e4
  cases h
  have e5 := (intM_eq h4).1
  have e6 := (intM_eq h4).2
  subst e6
  dsimp only at e5
  subst e5
  refine PE.wp (pe_slice sl_rSl pe_wp (po_some pe_wp) po_none) (two ha hc R B h1 h2 fun vx vy H1 H2 xx R1 R2 B2 r1 r2 => ?_)
  cases r2.any R1 R2
  exact ⟨_, rfl, sli_ok R R2 B2 r1 e3 fun v H' x9 B9 r9 => q v H' (xx.trans x9) B9 (r9.ahead R xx B2.some)⟩
/-! ### tests -/
theorem truth_ok {G : Gx} {H : Hp} {v : V} {d : D} {t : Bool} (h : Rep G H v d) (e : truth d = some t) : TruV G.K v H t := by
  cases h with
  | non => cases e; rfl
  | bl _ => cases e; rfl
  | int _ => cases e; rfl
  | str x =>
    by_cases hz : x.length ≤ sizeLine
    · rw [show truth (.str x) = some ((x.length : Int) != 0) from if_pos hz] at e
      cases e
      exact ⟨hz, rfl⟩
    · rw [show truth (.str x) = none from if_neg hz] at e
      cases e
  | tup hs r =>
    cases e
    refine .inr (.inl ⟨_, hs, ?_⟩)
    cases r <;> rfl
  | lst hs r =>
    cases e
    refine .inl ⟨_, .of hs, ?_⟩
    cases r <;> rfl
  | ins _ _ _ => cases e
  | bag => cases e
theorem truV_sub {K : PySem.W.Frag} {H H' : Hp} (s : Sub H H') {v : V} {t : Bool} (h : TruV K v H t) : TruV K v H' t := by
  cases v with
  | ref p =>
    rcases h with ⟨xs, h1, h2⟩ | ⟨xs, h1, h2⟩ | ⟨kvs, h1, h2⟩
    · exact .inl ⟨xs, s.sqL h1, h2⟩
    · exact .inr (.inl ⟨xs, s.sqT h1, h2⟩)
    · exact .inr (.inr ⟨kvs, s _ _ h1, h2⟩)
  | non => exact h
  | bl _ => exact h
  | int _ => exact h
  | str _ => exact h
  | byt _ => exact h
  | flt _ => exact h
  | ty _ => exact h
/-- a form whose truth is that of its value -/
theorem st_plain {e : Expr} {f : List Slot → M (D × Kd)} (he : SE b cl X e f) (hp : plainT e = true) : ST b cl X e (fun ρ => bnd (f ρ) fun p => opt (truth p.1)) := fun M₀ H₀ own ρ σ H g t g' Q R B h q => by
  obtain ⟨⟨x, kx⟩, g1, h1, h⟩ := bnd_some h
  have e3 := (opt_eq h).1
  have e4 := (opt_eq h).2
  subst e4
  refine PT.wp (pt_truth pe_wp (plain_true hp)) (he M₀ H₀ own ρ σ H g _ _ _ _ R B h1 fun v H1 x1 B1 r1 => ?_)
  exact ⟨t, truV_sub (vis_sub _ _) (truth_ok (r1.any R (R.move x1 B1.some)) e3), q _ x1 B1⟩
/-! ### if .. else -/
theorem se_ite {c a e : Expr} {fc : List Slot → M Bool} {fa fe : List Slot → M (D × Kd)} {pos : Pos} (hc : ST b cl X c fc) (ha : SE b cl X a fa) (he : SE b cl X e fe) :
    SE b cl X (.IfExp c a e pos) (fun ρ => bnd (fc ρ) fun t => if t then fa ρ else fe ρ) := fun M₀ H₀ own ρ σ H g d k g' Q R B h q => by
  obtain ⟨t, g1, h1, h⟩ := bnd_some h
  refine PE.wp (pe_ifExp pt_wp pe_wp pe_wp) (hc M₀ H₀ own ρ σ H g t g1 _ R B h1 fun H1 x1 B1 => ?_)
  have R1 := R.move x1 B1.some
  cases t with
  | true => exact ha M₀ H₀ own ρ σ H1 g1 d k g' Q R1 B1 h fun v H' x9 B9 r9 => q v H' (x1.trans x9) B9 (r9.ahead R x1 B1.some)
  | false => exact he M₀ H₀ own ρ σ H1 g1 d k g' Q R1 B1 h fun v H' x9 B9 r9 => q v H' (x1.trans x9) B9 (r9.ahead R x1 B1.some)
end
end Ev
set_option Elab.async false
set_option linter.all false
set_option autoImplicit false
/-! Ev8: and, or, not, chains, arguments, displays, calls. -/
namespace Ev
open PySem PySem.Spec PyProof.Rows L2 M
def wpW (X : Cx) (e : Expr) : TT := fun σ H Q => ∀ (whole : Sem Value) (pins : List (Addr × Obj)) (s : Shared), Inv X pins σ H s → wpAny (model X.prog X.w) X.A (isTrue e X.env whole) (TP X pins σ Q) X.xe s
theorem pw_wp {X : Cx} {e : Expr} : PW X e (wpW X e) := ⟨fun whole pins s _ _ _ I h => h whole pins s I⟩
theorem PW.wp {X : Cx} {e : Expr} {t : TT} {σ : L2.St} {H : Hp} (p : PW X e t) {Q : Bool → Hp → Prop} (h : t σ H Q) : wpW X e σ H Q := fun whole pins s I => p.run whole pins s σ H Q I h
section
variable {X : Cx} {b : Addr} {cl : Cls}
def SW (b : Addr) (cl : Cls) (X : Cx) (e : Expr) (f : List Slot → M Bool) : Prop := ∀ (M₀ : Addr → Prop) (H₀ : Hp) (own : Nat → Addr) (ρ : List Slot) (σ : L2.St) (H : Hp) (g : Bag) (t : Bool) (g' : Bag) (Q : Bool → Hp → Prop),
  Rel (gx X b cl) M₀ H₀ own ρ σ H → BagAt (gx X b cl) H g → f ρ g = some (t, g') → (∀ H', Ext b H H' → BagAt (gx X b cl) H' g' → Q t H') → wpW X e σ H Q
theorem SW.st {e : Expr} {f : List Slot → M Bool} (h : SW b cl X e f) : ST b cl X e f := fun M₀ H₀ own ρ σ H g t g' Q R B e q => fun pins s I => h M₀ H₀ own ρ σ H g t g' Q R B e q _ pins s I
theorem sw_and1 {a : Expr} {f : List Slot → M Bool} {pos : Pos} (h : ST b cl X a f) : SW b cl X (.BoolOp .And [a] pos) f := fun M₀ H₀ own ρ σ H g t g' Q R B e q => PW.wp (pw_and1 pt_wp) (h M₀ H₀ own ρ σ H g t g' Q R B e q)
theorem sw_or1 {a : Expr} {f : List Slot → M Bool} {pos : Pos} (h : ST b cl X a f) : SW b cl X (.BoolOp .Or [a] pos) f := fun M₀ H₀ own ρ σ H g t g' Q R B e q => PW.wp (pw_or1 pt_wp) (h M₀ H₀ own ρ σ H g t g' Q R B e q)
theorem sw_and {a c : Expr} {es : List Expr} {f r : List Slot → M Bool} {pos : Pos} (h : ST b cl X a f) (hr : SW b cl X (.BoolOp .And (c :: es) pos) r) :
    SW b cl X (.BoolOp .And (a :: c :: es) pos) (fun ρ => bnd (f ρ) fun t => if t then r ρ else ret false) := fun M₀ H₀ own ρ σ H g t g' Q R B e q => by
  obtain ⟨u, g1, h1, e⟩ := bnd_some e
  refine PW.wp (pw_and pt_wp pw_wp) (h M₀ H₀ own ρ σ H g u g1 _ R B h1 fun H1 x1 B1 => ?_)
  cases u with
  | true => exact hr M₀ H₀ own ρ σ H1 g1 t g' Q (R.move x1 B1.some) B1 e fun H2 x2 B2 => q H2 (x1.trans x2) B2
  | false =>
    cases e
    exact q _ x1 B1
theorem sw_or {a c : Expr} {es : List Expr} {f r : List Slot → M Bool} {pos : Pos} (h : ST b cl X a f) (hr : SW b cl X (.BoolOp .Or (c :: es) pos) r) :
    SW b cl X (.BoolOp .Or (a :: c :: es) pos) (fun ρ => bnd (f ρ) fun t => if t then ret true else r ρ) := fun M₀ H₀ own ρ σ H g t g' Q R B e q => by
  obtain ⟨u, g1, h1, e⟩ := bnd_some e
  refine PW.wp (pw_or pt_wp pw_wp) (h M₀ H₀ own ρ σ H g u g1 _ R B h1 fun H1 x1 B1 => ?_)
  cases u with
  | false => exact hr M₀ H₀ own ρ σ H1 g1 t g' Q (R.move x1 B1.some) B1 e fun H2 x2 B2 => q H2 (x1.trans x2) B2
  | true =>
    cases e
    exact q _ x1 B1
theorem st_not {a : Expr} {f : List Slot → M Bool} {pos : Pos} (h : ST b cl X a f) : ST b cl X (.UnaryOp .Not a pos) (fun ρ => bnd (f ρ) fun t => ret (!t)) := fun M₀ H₀ own ρ σ H g t g' Q R B e q => by
  obtain ⟨u, g1, h1, e⟩ := bnd_some e
  cases e
  exact PT.wp (pt_not pt_wp) (h M₀ H₀ own ρ σ H g u _ _ R B h1 q)
/-! as values -/
theorem se_one {a : Expr} {o : BoolOp} {f : List Slot → M (D × Kd)} {pos : Pos} (h : SE b cl X a f) : SE b cl X (.BoolOp o [a] pos) f := fun M₀ H₀ own ρ σ H g d k g' Q R B e q => PE.wp (pe_one pe_wp) (h M₀ H₀ own ρ σ H g d k g' Q R B e q)
theorem se_and {a c : Expr} {es : List Expr} {f r : List Slot → M (D × Kd)} {pos : Pos} (h : SE b cl X a f) (hr : SE b cl X (.BoolOp .And (c :: es) pos) r) :
    SE b cl X (.BoolOp .And (a :: c :: es) pos) (fun ρ => bnd (f ρ) fun p => bnd (boolM p.1) fun t => if t then r ρ else ret (.bl false, .clean)) := fun M₀ H₀ own ρ σ H g d k g' Q R B e q => by
  obtain ⟨⟨x, kx⟩, g1, h1, e⟩ := bnd_some e
  obtain ⟨u, g2, h2, e⟩ := bnd_some e
  obtain ⟨e1, e2⟩ := boolM_eq h2
  dsimp only at e1
  subst e1 e2
  refine PE.wp (pe_and pe_wp pe_wp) (h M₀ H₀ own ρ σ H g _ kx g1 _ R B h1 fun v H1 x1 B1 r1 => ?_)
  have R1 := R.move x1 B1.some
  cases r1.any R R1
  refine ⟨u, rfl, ?_⟩
  cases u with
  | true => exact hr M₀ H₀ own ρ σ H1 g1 d k g' Q R1 B1 e fun v H' x9 B9 r9 => q v H' (x1.trans x9) B9 (r9.ahead R x1 B1.some)
  | false =>
    cases e
    exact q _ _ x1 B1 (.bl false)
theorem se_or {a c : Expr} {es : List Expr} {f r : List Slot → M (D × Kd)} {pos : Pos} (h : SE b cl X a f) (hr : SE b cl X (.BoolOp .Or (c :: es) pos) r) :
    SE b cl X (.BoolOp .Or (a :: c :: es) pos) (fun ρ => bnd (f ρ) fun p => bnd (boolM p.1) fun t => if t then ret (.bl true, .clean) else r ρ) := fun M₀ H₀ own ρ σ H g d k g' Q R B e q => by
  obtain ⟨⟨x, kx⟩, g1, h1, e⟩ := bnd_some e
  obtain ⟨u, g2, h2, e⟩ := bnd_some e
  obtain ⟨e1, e2⟩ := boolM_eq h2
  dsimp only at e1
  subst e1 e2
  refine PE.wp (pe_or pe_wp pe_wp) (h M₀ H₀ own ρ σ H g _ kx g1 _ R B h1 fun v H1 x1 B1 r1 => ?_)
  have R1 := R.move x1 B1.some
  cases r1.any R R1
  refine ⟨u, rfl, ?_⟩
  cases u with
  | false => exact hr M₀ H₀ own ρ σ H1 g1 d k g' Q R1 B1 e fun v H' x9 B9 r9 => q v H' (x1.trans x9) B9 (r9.ahead R x1 B1.some)
  | true =>
    cases e
    exact q _ _ x1 B1 (.bl true)
theorem se_not {a : Expr} {f : List Slot → M (D × Kd)} {pos : Pos} (h : SE b cl X a f) :
    SE b cl X (.UnaryOp .Not a pos) (fun ρ => bnd (f ρ) fun p => bnd (boolM p.1) fun t => ret (.bl (!t), .clean)) := fun M₀ H₀ own ρ σ H g d k g' Q R B e q => by
  obtain ⟨⟨x, kx⟩, g1, h1, e⟩ := bnd_some e
  obtain ⟨u, g2, h2, e⟩ := bnd_some e
  obtain ⟨e1, e2⟩ := boolM_eq h2
  dsimp only at e1
  subst e1 e2
  cases e
  refine PE.wp (pe_not pe_wp) (h M₀ H₀ own ρ σ H g _ kx _ _ R B h1 fun v H1 x1 B1 r1 => ?_)
  cases r1.any R (R.move x1 B1.some)
  exact ⟨u, rfl, q _ _ x1 B1 (.bl _)⟩
/-! ### chains -/
theorem chain_core {a c e : Expr} {fa fc fe : List Slot → M (D × Kd)} {o o' : Cop} {k0 : Nat} (cx : CxOk k0 X) (ha : SE b cl X a fa) (hc : SE b cl X c fc) (he : SE b cl X e fe)
    {M₀ : Addr → Prop} {H₀ : Hp} {own : Nat → Addr} {ρ : List Slot} {σ : L2.St} {H : Hp} {g : Bag} {t : Bool} {g' : Bag} {Q : VK} (R : Rel (gx X b cl) M₀ H₀ own ρ σ H) (B : BagAt (gx X b cl) H g)
    (h : bnd (fa ρ) (fun p => bnd (fc ρ) fun q => bnd (opt (cmpD o p.1 q.1)) fun t => if t then bnd (fe ρ) fun r => opt (cmpD o' q.1 r.1) else ret false) g = some (t, g')) (q : ∀ H', Ext b H H' → BagAt (gx X b cl) H' g' → Q (.bl t) H') :
    tChain (rTwo (gx X b cl) (cmpD o)) (rTwo (gx X b cl) (cmpD o')) (wpE X a) (wpE X c) (wpE X e) σ H Q := by
  obtain ⟨⟨x, kx⟩, g1, h1, h⟩ := bnd_some h
  obtain ⟨⟨y, ky⟩, g2, h2, h⟩ := bnd_some h
  obtain ⟨u, g3, h3, h⟩ := bnd_some h
  have e3 := (opt_eq h3).1
  have e4 := (opt_eq h3).2
  subst e4
  refine two ha hc R B h1 h2 fun vx vy H1 H2 xx R1 R2 B2 r1 r2 => ?_
  refine ⟨x, y, u, (r1.any R R2).mono (vis_sub _ _), (r2.any R1 R2).mono (vis_sub _ _), e3, u, rfl, ?_⟩
  cases u with
  | false =>
    cases h
    exact q _ xx B2
  | true =>
    obtain ⟨⟨z, kz⟩, g5, h5, h⟩ := bnd_some h
    have e6 := (opt_eq h).1
    have e7 := (opt_eq h).2
    subst e7
    refine he M₀ H₀ own ρ σ H2 _ z kz _ _ R2 B2 h5 fun w H5 x5 B5 r5 => ?_
    have R5 := R2.move x5 B5.some
    exact ⟨y, z, t, ((r2.move R1 x5).any R1 R5).mono (vis_sub _ _), (r5.any R2 R5).mono (vis_sub _ _), e6, q _ (xx.trans x5) B5⟩
theorem last_no {e : Expr} {o o' : CmpOp} {c : Expr} (h : isSetD e = false) : lastMarks [o, o'] [c, e] = false := mark_no h
theorem se_chain {a c e : Expr} {fa fc fe : List Slot → M (D × Kd)} {o o' : Cop} {pos : Pos} {k0 : Nat} (cx : CxOk k0 X) (ha : SE b cl X a fa) (hc : SE b cl X c fc) (he : SE b cl X e fe) (hm : isSetD e = false) :
    SE b cl X (.Compare a [o.ast, o'.ast] [c, e] pos) (fun ρ => bnd (bnd (fa ρ) fun p => bnd (fc ρ) fun q => bnd (opt (cmpD o p.1 q.1)) fun t => if t then bnd (fe ρ) fun r => opt (cmpD o' q.1 r.1) else ret false) fun t => ret (.bl t, .clean)) := fun M₀ H₀ own ρ σ H g d k g' Q R B h q => by
  have hu := cx.room.un
  obtain ⟨t, g1, h1, h⟩ := bnd_some h
  cases h
  exact PE.wp (pe_chain (op_cmpT o (by omega)) (op_cmpT o' (by omega)) pe_wp pe_wp pe_wp (last_no hm)) (chain_core cx ha hc he R B h1 fun H' x9 B9 => q _ _ x9 B9 (.bl t))
theorem st_chain {a c e : Expr} {fa fc fe : List Slot → M (D × Kd)} {o o' : Cop} {pos : Pos} {k0 : Nat} (cx : CxOk k0 X) (ha : SE b cl X a fa) (hc : SE b cl X c fc) (he : SE b cl X e fe) (hm : isSetD e = false) :
    ST b cl X (.Compare a [o.ast, o'.ast] [c, e] pos) (fun ρ => bnd (fa ρ) fun p => bnd (fc ρ) fun q => bnd (opt (cmpD o p.1 q.1)) fun t => if t then bnd (fe ρ) fun r => opt (cmpD o' q.1 r.1) else ret false) := fun M₀ H₀ own ρ σ H g t g' Q R B h q => by
  have hu := cx.room.un
  exact PT.wp (pt_chain (op_cmpT o (by omega)) (op_cmpT o' (by omega)) pe_wp pe_wp pe_wp (last_no hm)) (chain_core cx ha hc he R B h fun H' x9 B9 => ⟨t, rfl, q _ x9 B9⟩)
/-! ### arguments -/
theorem sa_nil : SA b cl X [] (fun _ => ret ([], true)) := fun M₀ H₀ own ρ σ H g ds ok g' Q R B h q => by
  cases h
  exact PA.wp pa_nil (q _ _ (Ext.refl _ _) B ⟨.nil, fun _ => .nil⟩)
theorem sa_cons {e : Expr} {es : List Expr} {f : List Slot → M (D × Kd)} {r : List Slot → M (List D × Bool)} (he : SE b cl X e f) (hr : SA b cl X es r) (hs : isStar e = false) :
    SA b cl X (e :: es) (fun ρ => bnd (f ρ) fun p => bnd (r ρ) fun q => ret (p.1 :: q.1, p.2.ok && q.2)) := fun M₀ H₀ own ρ σ H g ds ok g' Q R B h q => by
  obtain ⟨⟨x, kx⟩, g1, h1, h⟩ := bnd_some h
  obtain ⟨⟨ys, ok'⟩, g2, h2, h⟩ := bnd_some h
  cases h
  refine PA.wp (pa_cons pe_wp pa_wp (star_no hs _ _)) (he M₀ H₀ own ρ σ H g x kx g1 _ R B h1 fun v H1 x1 B1 r1 => ?_)
  have R1 := R.move x1 B1.some
  refine hr M₀ H₀ own ρ σ H1 g1 ys ok' _ _ R1 B1 h2 fun vs H2 x2 B2 r2 => ?_
  have R2 := R1.move x2 B2.some
  have r3 := r1.move R x2
  refine q _ _ (x1.trans x2) B2 ⟨.cons (r3.any R R2) r2.1, fun z => ?_⟩
  rw [Bool.and_eq_true] at z
  exact .cons (r3.ok R z.1) (r2.2 z.2)
theorem sa_star {e : Expr} {es : List Expr} {f : List Slot → M (D × Kd)} {r : List Slot → M (List D × Bool)} {pos : Pos} (he : SE b cl X e f) (hr : SA b cl X es r) :
    SA b cl X (.Starred e pos :: es) (fun ρ => bnd (f ρ) fun p => match p.1 with
    | .tup xs => bnd (r ρ) fun q => ret (xs ++ q.1, p.2.nd && q.2)
    | .lst xs => bnd (r ρ) fun q => ret (xs ++ q.1, p.2.nd && q.2)
    | _ => fail) := fun M₀ H₀ own ρ σ H g ds ok g' Q R B h q => by
  obtain ⟨⟨x, kx⟩, g1, h1, h⟩ := bnd_some h
  have go : ∀ {xs : List D}, (x = .tup xs ∨ x = .lst xs) → bnd (r ρ) (fun q => ret (xs ++ q.1, kx.nd && q.2)) g1 = some ((ds, ok), g') → wpA X (.Starred e pos :: es) σ H Q := fun {xs} hx h => by
    obtain ⟨⟨ys, ok'⟩, g2, h2, h⟩ := bnd_some h
    cases h
    refine PA.wp (StX.pa_star pe_wp pa_wp) (he M₀ H₀ own ρ σ H g x kx g1 _ R B h1 fun v H1 x1 B1 r1 => ?_)
    have R1 := R.move x1 B1.some
    have key : ∃ p vs, v = .ref p ∧ (SqT X.K H1 p vs ∨ SqL X.K H1 p vs) ∧ Kids (gx X b cl) M₀ own ρ H1 vs xs kx.nd := by
      rcases hx with rfl | rfl
      · obtain ⟨p, vs, e1, e2, e3⟩ := RV.kids_tup R R1 r1
        exact ⟨p, vs, e1, .inl e2, e3⟩
      · obtain ⟨p, vs, e1, e2, e3⟩ := RV.kids_lst R R1 r1
        exact ⟨p, vs, e1, .inr (.of e2), e3⟩
    obtain ⟨p, vs, rfl, hs, kk⟩ := key
    refine ⟨p, vs, rfl, hs, hr M₀ H₀ own ρ σ H1 g1 ys ok' _ _ R1 B1 h2 fun ws H2 x2 B2 r2 => ?_⟩
    refine q _ _ (x1.trans x2) B2 ⟨(kk.1.mono (vis_ext x2 R.hb fun _ z => z)).append r2.1, fun z => ?_⟩
    rw [Bool.and_eq_true] at z
    exact ((kk.2 z.1).mono (vis_ext x2 R.mb fun _ z => z)).append (r2.2 z.2)
  dsimp only at h
  split at h
  · exact go (.inl rfl) h
  · exact go (.inr rfl) h
  · cases h
/-! ### displays -/
theorem se_tup {es : List Expr} {f : List Slot → M (List D × Bool)} {n : Nat} {pos : Pos} (h : SA b cl X es f) :
    SE b cl X (.Tuple es n pos) (fun ρ => bnd (f ρ) fun q => guard (decide (q.1.length ≤ sizeLine)) (ret (.tup q.1, if q.2 then .clean else .dirty))) := fun M₀ H₀ own ρ σ H g d k g' Q R B e q => by
  obtain ⟨⟨ds, ok⟩, g1, h1, e⟩ := bnd_some e
  obtain ⟨hl, e⟩ := guard_eq e
  cases e
  refine PE.wp (pe_tup pa_wp) (h M₀ H₀ own ρ σ H g ds ok _ _ R B h1 fun vs H1 x1 B1 r1 => ?_)
  have R1 := R.move x1 B1.some
  have W : Wants (gx X b cl) M₀ own ρ H1 g' (.tup ds) (if ok then .clean else .dirty) Q := fun v H' x9 B9 r9 => q v H' (x1.trans x9) B9 (r9.ahead R x1 B1.some)
  exact ⟨by rw [r1.1.length]; exact of_decide_eq_true hl, W.tup R1 B1 r1⟩
theorem se_lst {es : List Expr} {f : List Slot → M (List D × Bool)} {pos : Pos} (h : SA b cl X es f) :
    SE b cl X (.List es pos) (fun ρ => bnd (f ρ) fun q => guard (decide (q.1.length ≤ sizeLine)) (ret (.lst q.1, if q.2 then .fresh else .dirty))) := fun M₀ H₀ own ρ σ H g d k g' Q R B e q => by
  obtain ⟨⟨ds, ok⟩, g1, h1, e⟩ := bnd_some e
  obtain ⟨hl, e⟩ := guard_eq e
  cases e
  refine PE.wp (pe_lst pa_wp) (h M₀ H₀ own ρ σ H g ds ok _ _ R B h1 fun vs H1 x1 B1 r1 => ?_)
  have R1 := R.move x1 B1.some
  have W : Wants (gx X b cl) M₀ own ρ H1 g' (.lst ds) (if ok then .fresh else .dirty) Q := fun v H' x9 B9 r9 => q v H' (x1.trans x9) B9 (r9.ahead R x1 B1.some)
  exact ⟨by rw [r1.1.length]; exact of_decide_eq_true hl, W.lst R1 B1 r1⟩
/-! ### built-in functions of one argument -/
def Blt.nm : Blt → Str
  | .len => "len"
  | .int => "int"
  | .tuple => "tuple"
  | .list => "list"
  | .all => "all"
  | .any => "any"
  | .repr => "repr"
  | .sorted => "sorted"
  | .sortset => "sorted"
  | .abs => "abs"
  | .sum => "sum"
  | .max => "max"
  | .min => "min"
theorem boot_ok (f : Blt) : bootBuiltins f.nm = some f.val := by
  cases f <;> decide +kernel
theorem nm_name (f : Blt) : f.nm ≠ "__name__" ∧ (f.nm == ("__debug__" : Str)) = false := by
  cases f <;> decide +kernel
theorem pe_blt {f : Blt} {a : Expr} {ta : TE} {r : List V → Hp → VK → Prop} {p pos : Pos} (hc : CallR X f.val r) (hg : Gl X f.nm) (hm : X.mg f.nm = none) (ha : PE X a ta) (hs : isStar a = false) :
    PE X (.Call (.Name f.nm p) [a] [] pos) (tCB r (tCons ta tNil)) := by
  have pa : PA X [a] (tCons ta tNil) := pa_cons ha pa_nil (star_no hs _ _)
  have hb := boot_ok f
  have hn := nm_name f
  have pl : (backTo pos (starEach [] X.env)).any (·.1) = false := rfl
  cases f <;> first
    | exact pe_callB hc hg hm hb pa hn.1 hn.2 (star_no hs _ _) pl
    | exact pe_callTy hc hg hm hb pa hn.1 hn.2 (star_no hs _ _) pl
theorem se_blt {f : Blt} {a : Expr} {fa : List Slot → M (D × Kd)} {p pos : Pos} {k0 : Nat} (cx : CxOk k0 X) (hg : Gl X f.nm) (hm : X.mg f.nm = none) (ha : SE b cl X a fa) (hs : isStar a = false) (hf : f ≠ .sortset) :
    SE b cl X (.Call (.Name f.nm p) [a] [] pos) (fun ρ => bnd (fa ρ) fun p => bnd (opt (bltD f p.1)) fun r => ret (r.1, r.2.by r.1 p.2.nd)) := fun M₀ H₀ own ρ σ H g d k g' Q R B e q => by
  obtain ⟨⟨x, kx⟩, g1, h1, h⟩ := bnd_some e
  obtain ⟨⟨r, m⟩, g3, h3, h⟩ := bnd_some h
  have e3 := (opt_eq h3).1
  have e4 := (opt_eq h3).2
  subst e4
  cases h
  refine PE.wp (pe_blt (cr_rC f.val) hg hm pe_wp hs) (ha M₀ H₀ own ρ σ H g x kx _ _ R B h1 fun v H1 x1 B1 r1 => ?_)
  have R1 := R.move x1 B1.some
  exact blt_ok f cx R R1 B1 r1 e3 hf fun v H' x9 B9 r9 => q v H' (x1.trans x9) B9 (r9.ahead R x1 B1.some)
end
end Ev
set_option Elab.async false
set_option linter.all false
set_option autoImplicit false
/-! Ev9: calls of the program's own defs; what is walked; targets. -/
namespace Ev
open PySem PySem.Spec PyProof.Rows L2 M
/-! ### a def keeps a promise, where nothing is being shown -/
abbrev SpT := List V → Hp → VK → Prop
structure FnG (P : Program) (w : World) (K : PySem.W.Frag) (mg : Str → Option Value) (base : Heap) (k : Nat) (f : Addr) (fd : FuncData) (ps : List Str) (sp : SpT) : Prop where
  len : ∀ vs H Q, sp vs H Q → vs.length = ps.length
  run : ∀ (A : Around) (outer : List Env) (s : Shared) (H : Hp) (args : Args) (us : List Value) (vs : List V) (Q : VK), Room k A → A.guards = some [] → Env0 P w K mg base A outer s H → BindsTo s fd args (ps.zip us) → Vals vs us → sp vs H Q →
    codeAny (model P w) A (.call (.ref f) args) (CR CX0 outer P w H s Q E0) s
theorem FnG.mono {P : Program} {w : World} {K : PySem.W.Frag} {mg : Str → Option Value} {base : Heap} {j k : Nat} {f : Addr} {fd : FuncData} {ps : List Str} {sp : SpT} (F : FnG P w K mg base j f fd ps sp) (h : j ≤ k) : FnG P w K mg base k f fd ps sp :=
  ⟨F.len, fun A outer s H args us vs Q hr => F.run A outer s H args us vs Q (hr.mono h)⟩
section
variable {X : Cx} {k : Nat} {f : Addr} {fd : FuncData} {ps : List Str} {sp : SpT}
theorem runG {pins : List (Addr × Obj)} {σ : L2.St} {H : Hp} {s : Shared} {Q : VK} {us : List Value} {vs : List V} (F : FnG X.prog X.w X.K X.mg X.base k f fd ps sp) (hr : Room k X.A) (hg : X.A.guards = some []) (hb : Binds X.K fd ps [])
    (I : Inv X pins σ H s) (r : Vals vs us) (h : sp vs H Q) : wpAny (model X.prog X.w) X.A (call (.ref f) us) (EP X pins σ Q) X.xe s := by
  have hl : (us ++ []).length = ps.length := by
    rw [List.append_nil, ← r.length]
    exact F.len _ _ _ h
  have hb' := hb s us I.kIn hl
  rw [List.append_nil] at hb'
  refine wpAny_call (codeAny_mono (F.run X.A X.stack s H ⟨us, []⟩ us vs Q hr hg I.env0 hb' r h) fun z s' hq => ?_)
  match z, hq with
  | .ok (.ret u), hq => exact I.after hq
end
/-- how a result lies for whoever called -/
def RR (G : Gx) (M₀ : Addr → Prop) (H H' : Hp) (v : V) (d : D) : Kd → Prop
  | .clean => Rep G (vis M₀ H') v d
  | .fresh => ∃ p o, v = .ref p ∧ H p = none ∧ H' p = some o ∧ Cell G (vis (fun a => M₀ a ∨ a = p) H') o d
  | _ => False
/-- the promise of a def by its tree function -/
def spF (G : Gx) (F : List D → M (D × Kd)) : SpT := fun vs H Q => ∃ (M₀ : Addr → Prop) (ds : List D) (g g' : Bag) (d : D) (k : Kd), M₀ G.b ∧ M₀ G.cl.bc ∧ (∀ a, M₀ a → H a ≠ none) ∧ BagAt G H g ∧ Reps G (vis M₀ H) vs ds ∧ F ds g = some ((d, k), g') ∧
  ∀ v H', Ext G.b H H' → BagAt G H' g' → RR G M₀ H H' v d k → Q v H'
/-- a name of the module that is such a def -/
def FnFact (b : Addr) (cl : Cls) (X : Cx) (k : Nat) (x : Str) (F : List D → M (D × Kd)) : Prop :=
  ∃ (f : Addr) (fd : FuncData) (ps : List Str), X.mg x = some (.ref f) ∧ PySem.W.keepIn X.K (.ref f) = true ∧ Binds X.K fd ps [] ∧ FnG X.prog X.w X.K X.mg X.base k f fd ps (spF (gx X b cl) F)
section
variable {X : Cx} {b : Addr} {cl : Cls}
/-- what a callee's result is here -/
theorem RR.rv {M₀ : Addr → Prop} {H₀ H H' : Hp} {own : Nat → Addr} {ρ : List Slot} {σ : L2.St} {v : V} {d : D} {k : Kd} {G : Gx} (h : RR G (hid M₀ own ρ) H H' v d k) : RV G M₀ own ρ H H' v d k := by
  cases k with
  | clean => exact h
  | fresh => exact h
  | own => exact h.elim
  | dirty => exact h.elim
theorem RR.rep {G : Gx} {M : Addr → Prop} {H H' : Hp} {v : V} {d : D} {k : Kd} (hM : ∀ a, M a → H a ≠ none) (h : RR G M H H' v d k) : Rep G (vis M H') v d := by
  cases k with
  | clean => exact h
  | fresh =>
    obtain ⟨p, o, rfl, hp, ho, c⟩ := h
    exact c.rep (sub_or H') (vis_iff.mpr ⟨fun z => hM p z hp, ho⟩)
  | own => exact h.elim
  | dirty => exact h.elim
/-- a call, its arguments there -/
theorem call_core {M₀ : Addr → Prop} {H₀ H : Hp} {own : Nat → Addr} {ρ : List Slot} {σ : L2.St} {g g' : Bag} {vs : List V} {ds : List D} {ok : Bool} {d : D} {k : Kd} {Q : VK} {F : List D → M (D × Kd)}
    (R : Rel (gx X b cl) M₀ H₀ own ρ σ H) (B : BagAt (gx X b cl) H g) (rs : RVs (gx X b cl) M₀ own ρ H vs ds ok) (h : F ds g = some ((d, k), g')) (W : Wants (gx X b cl) M₀ own ρ H g' d (k.by d ok) Q) : spF (gx X b cl) F vs H Q := by
  cases ok with
  | true => exact ⟨hid M₀ own ρ, ds, g, g', d, k, R.mb, .inl R.hbc, fun a z => R.mdom z, B, rs.2 rfl, h, fun v H' x9 B9 r9 => W v H' x9 B9 (RR.rv (H₀ := H₀) (σ := σ) r9)⟩
  | false => exact ⟨M₀, ds, g, g', d, k, R.hb, R.hbc, R.dom, B, rs.1, h, fun v H' x9 B9 r9 => W v H' x9 B9 (RV.by (fun z => nomatch z) (r9.rep R.dom))⟩
theorem se_call {x : Str} {a : Expr} {es : List Expr} {fa : List Slot → M (List D × Bool)} {F : List D → M (D × Kd)} {p pos : Pos} {k0 : Nat} (cx : CxOk k0 X) (ff : FnFact b cl X k0 x F) (hg : Gl X x) (hd : (x == ("__debug__" : Str)) = false) (ha : SA b cl X (a :: es) fa)
    (hs : isStar a = false) (hss : es.all (fun e => !isStar e) = true) :
    SE b cl X (.Call (.Name x p) (a :: es) [] pos) (fun ρ => bnd (fa ρ) fun q => bnd (F q.1) fun r => ret (r.1, r.2.by r.1 q.2)) := fun M₀ H₀ own ρ σ H g d k g' Q R B e q => by
  obtain ⟨⟨ds, ok⟩, g1, h1, e⟩ := bnd_some e
  obtain ⟨⟨d', k'⟩, g2, h2, e⟩ := bnd_some e
  cases e
  obtain ⟨f, fd, ps, hm, hk, hb, hF⟩ := ff
  intro pins s I
  refine wpAny_Call_Name_kw (ld_glob I hg hm ?_ hd)
  refine PySem.W.callWith_K (h₀ := X.base) I.ok.mod.kin hk ?_ (star_no hs _ _) (stars_no hss)
  refine thn (ha M₀ H₀ own ρ σ H g ds ok g1 (fun vs H1 => spF (gx X b cl) F vs H1 Q) R B h1 (fun vs H1 x1 B1 r1 => ?_) pos pins s I) fun us s1 ⟨vs, H1, I1, r, z⟩ => ⟨I1.kIn, runG hF cx.room cx.gd hb I1 r z⟩
  have R1 := R.move x1 B1.some
  exact call_core R1 B1 r1 h2 fun v H' x9 B9 r9 => q v H' (x1.trans x9) B9 (r9.ahead R x1 B1.some)
theorem se_call0 {x : Str} {F : List D → M (D × Kd)} {p pos : Pos} {k0 : Nat} (cx : CxOk k0 X) (ff : FnFact b cl X k0 x F) (hg : Gl X x) (hd : (x == ("__debug__" : Str)) = false) :
    SE b cl X (.Call (.Name x p) [] [] pos) (fun ρ => bnd (ret (([] : List D), true)) fun q => bnd (F q.1) fun r => ret (r.1, r.2.by r.1 q.2)) := fun M₀ H₀ own ρ σ H g d k g' Q R B e q => by
  obtain ⟨⟨ds, ok⟩, g1, h1, e⟩ := bnd_some e
  cases h1
  obtain ⟨⟨d', k'⟩, g2, h2, e⟩ := bnd_some e
  cases e
  obtain ⟨f, fd, ps, hm, hk, hb, hF⟩ := ff
  intro pins s I
  refine wpAny_Call_Name_kw (ld_glob I hg hm ?_ hd)
  exact PySem.W.callWith_K0 I.kIn hk (runG (us := []) (vs := []) hF cx.room cx.gd hb I .nil (call_core R B ⟨.nil, fun _ => .nil⟩ h2 q))
/-! ### what is walked -/
def wpI (X : Cx) (tg iter : Expr) : TI := fun σ H T => ∀ (pins : List (Addr × Obj)) (s : Shared), Inv X pins σ H s → wpAny (model X.prog X.w) X.A (eval iter X.env) (fun v s1 => wpAny (model X.prog X.w) X.A (pyIter v) (PIE X pins σ tg T) X.xe s1) X.xe s
theorem pi_wp {tg iter : Expr} : PI X tg iter (wpI X tg iter) := ⟨fun pins s _ _ _ I h => h pins s I⟩
theorem PI.wp {tg iter : Expr} {t : TI} (p : PI X tg iter t) {σ : L2.St} {H : Hp} {T : L2.It → Hp → Prop} (h : t σ H T) : wpI X tg iter σ H T := fun pins s I => p.run pins s σ H T I h
/-- J walks the items ds, out of vs (the trees es), while F stands -/
structure WalkP (G : Gx) (J : L2.It) (vs : List V) (es : List D) (F : Hp → Prop) (ds : List D) : Prop where
  go : ∀ (i : Nat) (H : Hp), F H → i < ds.length → J.go i H
  stop : ∀ (i : Nat) (H : Hp), F H → ds.length ≤ i → J.stop i H
  yld : ∀ (i : Nat) (H : Hp) (x : V) (H' : Hp) (d : D), F H → J.yld i H x H' → ds[i]? = some d → Sub H H' ∧ ∀ M : Addr → Prop, (∀ a, M a → H a ≠ none) → Reps G (vis M H) vs es → Rep G (vis M H') x d
/-- .. from here on, while what is seen stays -/
def Walk (G : Gx) (Hv H : Hp) (J : L2.It) (ds : List D) (own : Bool) : Prop := ∃ (vs : List V) (es : List D) (F : Hp → Prop), WalkP G J vs es F ds ∧ Reps G Hv vs es ∧ (∀ H', Ext G.b H H' → F H') ∧ (own = false → ∀ Hw H', Sub Hv Hw → Sub Hw H' → F H') ∧ ds.length ≤ sizeLine
def SI (b : Addr) (cl : Cls) (X : Cx) (tg iter : Expr) (own? : Bool) (f : List Slot → M (List D)) : Prop := ∀ (M₀ : Addr → Prop) (H₀ : Hp) (own : Nat → Addr) (ρ : List Slot) (σ : L2.St) (H : Hp) (g : Bag) (ds : List D) (g' : Bag) (T : L2.It → Hp → Prop),
  Rel (gx X b cl) M₀ H₀ own ρ σ H → BagAt (gx X b cl) H g → f ρ g = some (ds, g') → (∀ J H', Ext b H H' → BagAt (gx X b cl) H' g' → Walk (gx X b cl) (vis (hid M₀ own ρ) H') H' J ds own? → T J H') → wpI X tg iter σ H T
theorem walk_list {G : Gx} {a : Addr} {vs : List V} {ds : List D} (hl : vs.length = ds.length) : WalkP G (Itl G.K a) vs ds (fun H => SqL G.K H a vs) ds where
  go := fun i H h hi => ⟨vs, vs[i]'(by omega), h, List.getElem?_eq_getElem (by omega)⟩
  stop := fun i H h hi => ⟨vs, h, by omega⟩
  yld := fun i H x H' d h hy hd => by
    obtain ⟨rfl, hy⟩ := hy
    refine ⟨Sub.refl _, fun M _ r => ?_⟩
    obtain ⟨d', e1, e2⟩ := r.get (hy vs h)
    rw [hd] at e1
    cases e1
    exact e2
theorem walk_tup {G : Gx} {a : Addr} {vs : List V} {ds : List D} (hl : vs.length = ds.length) : WalkP G (Itt G.K a) vs ds (fun H => SqT G.K H a vs) ds where
  go := fun i H h hi => ⟨vs, vs[i]'(by omega), h, List.getElem?_eq_getElem (by omega)⟩
  stop := fun i H h hi => ⟨vs, h, by omega⟩
  yld := fun i H x H' d h hy hd => by
    obtain ⟨rfl, hy⟩ := hy
    refine ⟨Sub.refl _, fun M _ r => ?_⟩
    obtain ⟨d', e1, e2⟩ := r.get (hy vs h)
    rw [hd] at e1
    cases e1
    exact e2
theorem walk_str {G : Gx} {x : Str} : WalkP G (Its x) [] [] (fun _ => True) (x.cps.toList.map fun c => .str ⟨#[c]⟩) where
  go := fun i H h hi => by
    rw [List.length_map, Array.length_toList] at hi
    exact hi
  stop := fun i H h hi => by
    rw [List.length_map, Array.length_toList] at hi
    exact hi
  yld := fun i H v H' d h hy hd => by
    obtain ⟨rfl, c, e1, rfl⟩ := hy
    refine ⟨Sub.refl _, fun M _ r => ?_⟩
    rw [List.getElem?_map, Array.getElem?_toList, e1] at hd
    cases hd
    exact .str _
theorem walk_rng {G : Gx} {lo : Int} {n : Nat} : WalkP G (Itr lo n) [] [] (fun _ => True) (rngD lo n) where
  go := fun i H h hi => by
    rw [rngD, List.length_map, List.length_range] at hi
    exact hi
  stop := fun i H h hi => by
    rw [rngD, List.length_map, List.length_range] at hi
    exact hi
  yld := fun i H v H' d h hy hd => by
    obtain ⟨rfl, rfl⟩ := hy
    refine ⟨Sub.refl _, fun M _ r => ?_⟩
    unfold rngD at hd
    rw [List.getElem?_map] at hd
    obtain ⟨j, e1, rfl⟩ := Option.map_eq_some_iff.mp hd
    have e2 : j = i := by
      rw [List.getElem?_range] at e1
      · exact (Option.some.inj e1).symm
      · have := List.getElem?_eq_some_iff.mp e1
        obtain ⟨q, _⟩ := this
        simpa using q
    subst e2
    exact .int _
theorem enm_get : ∀ {xs : List D} {n i : Nat} {d : D}, (enmD n xs)[i]? = some d → ∃ x, xs[i]? = some x ∧ d = .tup [.int ((n + i : Nat) : Int), x]
  | [], n, i, d, h => by simp [enmD] at h
  | x :: xs, n, 0, d, h => by
    simp [enmD] at h
    exact ⟨x, rfl, by rw [← h, Nat.add_zero]⟩
  | x :: xs, n, i + 1, d, h => by
    rw [enmD, List.getElem?_cons_succ] at h
    obtain ⟨y, e1, e2⟩ := enm_get h
    exact ⟨y, by simpa using e1, by rw [e2, Nat.add_assoc, Nat.add_comm 1 i]⟩
theorem enm_len : ∀ (xs : List D) (n : Nat), (enmD n xs).length = xs.length
  | [], _ => rfl
  | x :: xs, n => by rw [enmD, List.length_cons, List.length_cons, enm_len xs (n + 1)]
theorem walk_enm {G : Gx} {a : Addr} {vs : List V} {es : List D} (hl : vs.length = es.length) : WalkP G (Ite G.K a) vs es (fun H => SqL G.K H a vs) (enmD 0 es) where
  go := fun i H h hi => by
    rw [enm_len] at hi
    exact ⟨vs, vs[i]'(by omega), h, List.getElem?_eq_getElem (by omega)⟩
  stop := fun i H h hi => by
    rw [enm_len] at hi
    exact ⟨vs, h, by omega⟩
  yld := fun i H v H' d h hy hd => by
    obtain ⟨T, x, rfl, hT, rfl, hy⟩ := hy
    refine ⟨sub_new hT, fun M hM r => ?_⟩
    obtain ⟨y, e1, rfl⟩ := enm_get hd
    obtain ⟨d', e2, e3⟩ := r.get (hy vs h)
    rw [e1] at e2
    cases e2
    rw [Nat.zero_add]
    exact .tup (.of (vis_iff.mpr ⟨fun z => hM T z hT, upd_same⟩)) (.cons (.int _) (.cons (e3.mono (vis_new hT)) .nil))
theorem sq_line {pins : List (Addr × Obj)} {σ : L2.St} {H : Hp} {s : Shared} {a : Addr} {vs : List V} (I : Inv X pins σ H s) (h : SqL X.K H a vs) : vs.length ≤ sizeLine := (I.list h).choose_spec.2.2
theorem sqT_line {pins : List (Addr × Obj)} {σ : L2.St} {H : Hp} {s : Shared} {a : Addr} {vs : List V} (I : Inv X pins σ H s) (h : SqT X.K H a vs) : vs.length ≤ sizeLine := (I.tuple h).choose_spec.2.2
/-- what holds of the heap may be used -/
theorem wpI.inv {tg iter : Expr} {σ : L2.St} {H : Hp} {T : L2.It → Hp → Prop} (h : (∃ pins s, Inv X pins σ H s) → wpI X tg iter σ H T) : wpI X tg iter σ H T := fun pins s I => h ⟨pins, s, I⟩ pins s I
end
section
variable {X : Cx} {b : Addr} {cl : Cls}
/-- a reading with the invariant at hand -/
theorem wpE.inv {e : Expr} {σ : L2.St} {H : Hp} {Q : VK} (h : wpE X e σ H fun v H' => (∃ pins s, Inv X pins σ H' s) → Q v H') : wpE X e σ H Q := fun pins s I =>
  thn (h pins s I) fun u s1 ⟨v, H', I', r, q⟩ => ⟨v, H', I', r, q ⟨pins, s1, I'⟩⟩
theorem si_seq {tg e : Expr} {f : List Slot → M (D × Kd)} {own? : Bool} (he : SE b cl X e f) :
    SI b cl X tg e own? (fun ρ => bnd (f ρ) fun p => guard (p.2.ok || (own? && p.2.nd)) (opt (seqD p.1))) := fun M₀ H₀ own ρ σ H g ds g' T R B h q => by
  obtain ⟨⟨x, kx⟩, g1, h1, h⟩ := bnd_some h
  obtain ⟨hk, h⟩ := guard_eq h
  have e3 := (opt_eq h).1
  have e4 := (opt_eq h).2
  subst e4
  have knd : kx.nd = true := by
    cases kx <;> first | rfl | (cases own? <;> cases hk)
  have kok : own? = false → kx.ok = true := fun z => by
    subst z
    simpa using hk
  have run : ∀ Q : VK, (∀ v H', Ext b H H' → BagAt (gx X b cl) H' _ → RV (gx X b cl) M₀ own ρ H H' v x kx → (∃ pins s, Inv X pins σ H' s) → Q v H') → wpE X e σ H Q := fun Q hQ => wpE.inv (he M₀ H₀ own ρ σ H g x kx _ _ R B h1 fun v H' x1 B1 r1 i1 => hQ v H' x1 B1 r1 i1)
  dsimp only at e3
  unfold seqD at e3
  split at e3
  · -- a tuple
    cases e3
    refine PI.wp (pi_tup pe_wp) (run _ fun v H1 x1 B1 r1 i1 => ?_)
    have R1 := R.move x1 B1.some
    obtain ⟨p, vs, rfl, s1, k1⟩ := RV.nd_tup R R1 r1 knd
    obtain ⟨pins, s, I⟩ := i1
    have s2 := (vis_sub _ _).sqT s1
    exact ⟨p, rfl, ⟨vs, s2⟩, q _ _ x1 B1 ⟨vs, _, _, walk_tup k1.length, k1, fun H' x' => (vis_sub _ _).sqT ((vis_ext (M' := hid M₀ own ρ) x' R.mb fun _ z => z).sqT s1), fun z Hw H' w1 w2 => w2.sqT (w1.sqT s1), by rw [← k1.length]; exact sqT_line I s2⟩⟩
  · -- a list
    cases e3
    refine PI.wp (pi_list pe_wp) (run _ fun v H1 x1 B1 r1 i1 => ?_)
    have R1 := R.move x1 B1.some
    obtain ⟨p, vs, rfl, s1, k1, n0, n1⟩ := RV.nd_lst R R1 r1 knd
    obtain ⟨pins, s, I⟩ := i1
    exact ⟨p, rfl, ⟨vs, .of s1⟩, q _ _ x1 B1 ⟨vs, _, _, walk_list k1.length, k1, fun H' x' => .of (x' _ _ (fun z => n0 (z ▸ R.hb)) s1), fun z Hw H' w1 w2 => .of (w2 _ _ (w1 _ _ (vis_iff.mpr ⟨n1 (kok z), s1⟩))), by rw [← k1.length]; exact sq_line I (.of s1)⟩⟩
  · split at e3
    · rename_i hz
      cases e3
      refine PI.wp (pi_str pe_wp) (run _ fun v H1 x1 B1 r1 i1 => ?_)
      have R1 := R.move x1 B1.some
      cases r1.any R R1
      exact ⟨_, rfl, q _ _ x1 B1 ⟨[], [], _, walk_str, .nil, fun _ _ => trivial, fun _ _ _ _ _ => trivial, by rw [List.length_map, Array.length_toList]; exact hz⟩⟩
    · cases e3
  · cases e3
theorem si_rng {tg e : Expr} {f : List Slot → M (D × Kd)} {own? : Bool} {p pos : Pos} (hg : Gl X "range") (hm : X.mg "range" = none) (he : SE b cl X e f) (hs : isStar e = false) :
    SI b cl X tg (.Call (.Name "range" p) [e] [] pos) own? (fun ρ => bnd (f ρ) fun p => bnd (intM p.1) fun j => guard (line62 j && decide (j ≤ sizeLine)) (ret (rngD 0 j.toNat))) := fun M₀ H₀ own ρ σ H g ds g' T R B h q => by
  obtain ⟨⟨x, kx⟩, g1, h1, h⟩ := bnd_some h
  obtain ⟨j, g2, h2, h⟩ := bnd_some h
  obtain ⟨e1, e2⟩ := intM_eq h2
  dsimp only at e1
  subst e1 e2
  obtain ⟨hk, h⟩ := guard_eq h
  cases h
  unfold line62 at hk
  rw [Bool.and_eq_true, Bool.and_eq_true] at hk
  obtain ⟨⟨k1, k2⟩, k3⟩ := hk
  have k1 := of_decide_eq_true k1
  have k2 := of_decide_eq_true k2
  have k3 := of_decide_eq_true k3
  refine PI.wp (pi_range1 hg hm (pa_cons pe_wp pa_nil (star_no hs _ _)) (star_no hs _ _)) (he M₀ H₀ own ρ σ H g _ kx _ _ R B h1 fun v H1 x1 B1 r1 => ?_)
  cases r1.any R (R.move x1 B1.some)
  exact ⟨j, rfl, k1, k2, q _ _ x1 B1 ⟨[], [], _, walk_rng, .nil, fun _ _ => trivial, fun _ _ _ _ _ => trivial, by rw [rngD, List.length_map, List.length_range]; omega⟩⟩
theorem si_rng2 {tg e c : Expr} {f fc : List Slot → M (D × Kd)} {own? : Bool} {p pos : Pos} (hg : Gl X "range") (hm : X.mg "range" = none) (he : SE b cl X e f) (hc : SE b cl X c fc) (hs : isStar e = false) (hs2 : isStar c = false) :
    SI b cl X tg (.Call (.Name "range" p) [e, c] [] pos) own? (fun ρ => bnd (f ρ) fun p => bnd (fc ρ) fun q => bnd (intM p.1) fun i => bnd (intM q.1) fun j => guard (line62 i && line62 j && decide (j - i ≤ sizeLine)) (ret (rngD i (j - i).toNat))) := fun M₀ H₀ own ρ σ H g ds g' T R B h q => by
  obtain ⟨⟨x, kx⟩, g1, h1, h⟩ := bnd_some h
  obtain ⟨⟨y, ky⟩, g2, h2, h⟩ := bnd_some h
  obtain ⟨i, g3, h3, h⟩ := bnd_some h
  obtain ⟨e1, e2⟩ := intM_eq h3
  dsimp only at e1
  subst e1 e2
  obtain ⟨j, g4, h4, h⟩ := bnd_some h
  obtain ⟨e1, e2⟩ := intM_eq h4
  dsimp only at e1
  subst e1 e2
  obtain ⟨hk, h⟩ := guard_eq h
  cases h
  unfold line62 at hk
  rw [Bool.and_eq_true, Bool.and_eq_true, Bool.and_eq_true, Bool.and_eq_true] at hk
  obtain ⟨⟨⟨k1, k2⟩, k4, k5⟩, k3⟩ := hk
  have k1 := of_decide_eq_true k1
  have k2 := of_decide_eq_true k2
  have k3 := of_decide_eq_true k3
  have k4 := of_decide_eq_true k4
  have k5 := of_decide_eq_true k5
  refine PI.wp (pi_range2 hg hm (pa_cons pe_wp (pa_cons pe_wp pa_nil (star_no hs2 _ _)) (star_no hs _ _)) (by rw [star_no hs, star_no hs2]; rfl) (star_no hs2 _ _)) (two he hc R B h1 h2 fun vx vy H1 H2 xx R1 R2 B2 r1 r2 => ?_)
  cases r1.any R R2
  cases r2.any R1 R2
  exact ⟨i, j, rfl, ⟨k1, k2, k4, k5⟩, q _ _ xx B2 ⟨[], [], _, walk_rng, .nil, fun _ _ => trivial, fun _ _ _ _ _ => trivial, by rw [rngD, List.length_map, List.length_range]; omega⟩⟩
theorem si_enm {e : Expr} {elts : List Expr} {kk : Nat} {tpos : Pos} {f : List Slot → M (D × Kd)} {own? : Bool} {p pos : Pos} (hg : Gl X "enumerate") (hm : X.mg "enumerate" = none) (he : SE b cl X e f) (hs : isStar e = false) :
    SI b cl X (.Tuple elts kk tpos) (.Call (.Name "enumerate" p) [e] [] pos) own? (fun ρ => bnd (f ρ) fun p => guard (p.2.ok || (own? && p.2.nd)) (match p.1 with
    | .lst xs => ret (enmD 0 xs)
    | _ => fail)) := fun M₀ H₀ own ρ σ H g ds g' T R B h q => by
  obtain ⟨⟨x, kx⟩, g1, h1, h⟩ := bnd_some h
  obtain ⟨hk, h⟩ := guard_eq h
  have knd : kx.nd = true := by
    cases kx <;> first | rfl | (cases own? <;> cases hk)
  have kok : own? = false → kx.ok = true := fun z => by
    subst z
    simpa using hk
  cases x <;> first | (cases h; done) | skip
  cases h
  refine PI.wp (pi_enum hg hm (pa_cons pe_wp pa_nil (star_no hs _ _)) (star_no hs _ _)) (wpE.inv (he M₀ H₀ own ρ σ H g _ kx _ _ R B h1 fun v H1 x1 B1 r1 i1 => ?_))
  have R1 := R.move x1 B1.some
  obtain ⟨p, vs, rfl, s1, k1, n0, n1⟩ := RV.nd_lst R R1 r1 knd
  obtain ⟨pins, s, I⟩ := i1
  exact ⟨p, vs, rfl, .of s1, q _ _ x1 B1 ⟨vs, _, _, walk_enm k1.length, k1, fun H' x' => .of (x' _ _ (fun z => n0 (z ▸ R.hb)) s1), fun z Hw H' w1 w2 => .of (w2 _ _ (w1 _ _ (vis_iff.mpr ⟨n1 (kok z), s1⟩))), by rw [enm_len, ← k1.length]; exact sq_line I (.of s1)⟩⟩
end
end Ev
set_option Elab.async false
set_option linter.all false
set_option autoImplicit false
/-! Ev10: targets; list comprehensions. -/
namespace Ev
open PySem PySem.Spec PyProof.Rows L2 M
section
variable {G : Gx} {M₀ : Addr → Prop} {H₀ H H' : Hp} {own : Nat → Addr} {ρ ρ' : List Slot} {σ : L2.St}
theorem put1_some {i : Nat} {d : D} (h : put1 ρ i d = some ρ') : isOwn ρ i = false ∧ ρ' = ρ.set i (.val d) := by
  unfold put1 at h
  split at h
  · cases h
  · rename_i z
    cases h
    exact ⟨by simpa using z, rfl⟩
theorem own_of {i : Nat} {d : D} (h : ρ[i]? = some (.own d)) : isOwn ρ i = true := by
  unfold isOwn
  rw [h]
theorem set_own {i j : Nat} {s : Slot} {d : D} (hs : ∀ d, s ≠ .own d) (h : (ρ.set i s)[j]? = some (.own d)) : j ≠ i ∧ ρ[j]? = some (.own d) := by
  by_cases e : i = j
  · subst e
    by_cases l : i < ρ.length
    · rw [List.getElem?_set_self l] at h
      exact absurd (Option.some.inj h) (hs d)
    · rw [List.getElem?_eq_none (by rw [List.length_set]; omega)] at h
      cases h
  · rw [List.getElem?_set_ne e] at h
    exact ⟨fun z => e z.symm, h⟩
theorem hid_set {i : Nat} {s : Slot} (hs : ∀ d, s ≠ .own d) (hi : isOwn ρ i = false) : hid M₀ own (ρ.set i s) = hid M₀ own ρ := by
  funext a
  apply propext
  constructor
  · rintro (h | ⟨j, d, h, e⟩)
    · exact .inl h
    · exact .inr ⟨j, d, (set_own hs h).2, e⟩
  · rintro (h | ⟨j, d, h, e⟩)
    · exact .inl h
    · refine .inr ⟨j, d, ?_, e⟩
      rw [List.getElem?_set_ne fun z => ?_]
      · exact h
      · subst z
        rw [own_of h] at hi
        cases hi
/-- a slot that is nobody's cell takes a value -/
theorem Rel.store (R : Rel G M₀ H₀ own ρ σ H) {i : Nat} {s : Slot} {v : Option V} (hi : isOwn ρ i = false) (hs : ∀ d, s ≠ .own d) (hv : ∀ d, s = .val d → ∃ x, v = some x ∧ Rep G (vis (hid M₀ own ρ) H) x d) : Rel G M₀ H₀ own (ρ.set i s) (σ.set i v) H := by
  have hh : hid M₀ own (ρ.set i s) = hid M₀ own ρ := hid_set hs hi
  refine ⟨fun j d h => ?_, fun j d h => ?_, fun j l d e h1 h2 => R.inj j l d e (set_own hs h1).2 (set_own hs h2).2, R.hb, R.hbc, R.ext, by rw [List.length_set, List.length_set]; exact R.len, R.dom⟩
  · rw [hh]
    by_cases e : i = j
    · subst e
      by_cases l : i < ρ.length
      · rw [List.getElem?_set_self l] at h
        obtain ⟨x, rfl, r⟩ := hv d (Option.some.inj h)
        refine ⟨x, ?_, r⟩
        rw [List.getElem?_set_self (by rw [← R.len]; exact l)]
      · rw [List.getElem?_eq_none (by rw [List.length_set]; omega)] at h
        cases h
    · rw [List.getElem?_set_ne e] at h ⊢
      exact R.vl j d h
  · obtain ⟨n, h2⟩ := set_own hs h
    rw [hh, List.getElem?_set_ne fun z => n z.symm]
    exact R.ow j d h2
theorem Rel.put1 (R : Rel G M₀ H₀ own ρ σ H) {i : Nat} {d : D} {v : V} (h : put1 ρ i d = some ρ') (r : Rep G (vis (hid M₀ own ρ) H) v d) : Rel G M₀ H₀ own ρ' (σ.set i (some v)) H ∧ hid M₀ own ρ' = hid M₀ own ρ := by
  obtain ⟨h1, rfl⟩ := put1_some h
  exact ⟨R.store h1 (fun _ z => (nomatch z)) (fun d' z => ⟨v, rfl, by cases z; exact r⟩), hid_set (fun _ z => (nomatch z)) h1⟩
/-- the slots of a block's names are forgotten -/
theorem Rel.wipe (R : Rel G M₀ H₀ own ρ σ H) : ∀ {vs : List Nat}, vs.all (fun i => !isOwn ρ i) = true → Rel G M₀ H₀ own (wipeS ρ vs) (wipe σ vs) H ∧ hid M₀ own (wipeS ρ vs) = hid M₀ own ρ ∧ ∀ i, isOwn (wipeS ρ vs) i = isOwn ρ i
  | [], _ => ⟨R, rfl, fun _ => rfl⟩
  | v :: vs, h => by
    rw [List.all_cons, Bool.and_eq_true] at h
    obtain ⟨r1, r2, r3⟩ := R.wipe h.2
    have hv : isOwn (wipeS ρ vs) v = false := by
      rw [r3]
      simpa using h.1
    have hs : ∀ d, Slot.no ≠ .own d := fun _ z => nomatch z
    refine ⟨r1.store hv hs (fun d z => (nomatch z)), (hid_set hs hv).trans r2, fun i => ?_⟩
    show isOwn ((wipeS ρ vs).set v .no) i = isOwn ρ i
    rw [← r3 i]
    unfold isOwn
    by_cases e : v = i
    · subst e
      have : isOwn (wipeS ρ vs) v = false := hv
      unfold isOwn at this
      rw [this]
      by_cases l : v < (wipeS ρ vs).length
      · rw [List.getElem?_set_self l]
      · rw [List.getElem?_eq_none (by rw [List.length_set]; omega)]
    · rw [List.getElem?_set_ne e]
end
theorem wipe_get {σ : L2.St} {i : Nat} : ∀ {vs : List Nat}, (wipe σ vs)[i]? = if i ∈ vs then (if i < σ.length then some none else none) else σ[i]?
  | [] => by simp [wipe]
  | v :: vs => by
    unfold wipe
    by_cases e : v = i
    · subst e
      by_cases l : v < σ.length
      · rw [List.getElem?_set_self (by rw [wipe_length]; exact l)]
        simp [l]
      · rw [List.getElem?_eq_none (by rw [List.length_set, wipe_length]; omega)]
        simp [l]
    · rw [List.getElem?_set_ne e, wipe_get (vs := vs)]
      have : i ≠ v := fun z => e z.symm
      simp [this]
theorem wipe_same {σ τ : L2.St} {vs : List Nat} (hl : σ.length = τ.length) (h : ∀ j, j ∉ vs → σ[j]? = τ[j]?) : wipe σ vs = wipe τ vs := by
  apply List.ext_getElem?
  intro i
  rw [wipe_get, wipe_get, hl]
  by_cases m : i ∈ vs
  · simp [m]
  · simp only [m, if_false]
    exact h i m
theorem wipe_wipe {σ : L2.St} {vs : List Nat} : wipe (wipe σ vs) vs = wipe σ vs := by
  apply List.ext_getElem?
  intro i
  rw [wipe_get, wipe_get, wipe_length]
  by_cases m : i ∈ vs <;> simp [m]
def wpG (X : Cx) (tg : Expr) : TG := fun v σ H Q => ∀ (pins : List (Addr × Obj)) (s : Shared) (u : Value), Inv X pins σ H s → RelV v u → wpAny (model X.prog X.w) X.A (assign tg X.env u) (fun _ s' => ∃ σ' H', Inv X pins σ' H' s' ∧ Q σ' H') X.xe s
theorem pg_wp {X : Cx} {tg : Expr} : PG X tg (wpG X tg) := ⟨fun pins s _ _ _ u _ I r h => h pins s u I r⟩
theorem PG.wp {X : Cx} {tg : Expr} {t : TG} (p : PG X tg t) {v : V} {σ : L2.St} {H : Hp} {Q : L2.St → Hp → Prop} (h : t v σ H Q) : wpG X tg v σ H Q := fun pins s u I r => p.run pins s σ H v u Q I r h
section
variable {X : Cx} {b : Addr} {cl : Cls}
/-- behind a store: the slots, nothing else -/
def After (G : Gx) (M₀ : Addr → Prop) (H₀ : Hp) (own : Nat → Addr) (ρ ρ' : List Slot) (σ : L2.St) (H : Hp) (is : List Nat) (Q : L2.St → Hp → Prop) : Prop :=
  ∀ σ', Rel G M₀ H₀ own ρ' σ' H → hid M₀ own ρ' = hid M₀ own ρ → (∀ j, j ∉ is → σ'[j]? = σ[j]?) → σ'.length = σ.length → Q σ' H
def Tg.slots : Tg → List Nat
  | .one i => [i]
  | .tup is => is
def SG (b : Addr) (cl : Cls) (X : Cx) (tg : Expr) (t : Tg) : Prop := ∀ (M₀ : Addr → Prop) (H₀ : Hp) (own : Nat → Addr) (ρ : List Slot) (σ : L2.St) (H : Hp) (v : V) (d : D) (ρ' : List Slot) (Q : L2.St → Hp → Prop),
  Rel (gx X b cl) M₀ H₀ own ρ σ H → Rep (gx X b cl) (vis (hid M₀ own ρ) H) v d → put ρ t d = some ρ' → After (gx X b cl) M₀ H₀ own ρ ρ' σ H t.slots Q → wpG X tg v σ H Q
/-- a name that can be stored -/
structure Nm (X : Cx) (x : Str) (i : Nat) : Prop where
  at_ : X.N[i]? = some x
  loc : Loc X.env.scope x
  fn : X.fn x = true ∨ X.env.scope.names.lookup x = some .local
theorem sg_one {x : Str} {i : Nat} {pos : Pos} (nd : X.N.Nodup) (n : Nm X x i) : SG b cl X (.Name x pos) (.one i) := fun M₀ H₀ own ρ σ H v d ρ' Q R r h q => by
  obtain ⟨R', hh⟩ := R.put1 h r
  refine PG.wp (pg_name nd n.at_ n.loc n.fn) (q _ R' hh (fun j hj => ?_) (List.length_set ..))
  rw [List.getElem?_set_ne fun z => hj (by rw [← z]; exact List.mem_singleton.mpr rfl)]
/-- names and their slots -/
inductive Nms (X : Cx) : List Expr → List Nat → Prop
  | nil : Nms X [] []
  | cons {x : Str} {pos : Pos} {i : Nat} {es : List Expr} {is : List Nat} : Nm X x i → Nms X es is → Nms X (.Name x pos :: es) (i :: is)
theorem Nms.len {es : List Expr} {is : List Nat} (h : Nms X es is) : (assignEach es X.env).length = is.length ∧ (assignEach es X.env).findIdx? (·.1) = none := by
  induction h with
  | nil => exact ⟨rfl, rfl⟩
  | cons n t ih =>
    refine ⟨?_, ?_⟩
    · show (assignEach _ X.env).length + 1 = _
      rw [ih.1, List.length_cons]
    · show List.findIdx? (·.1) ((false, _) :: assignEach _ X.env) = none
      rw [List.findIdx?_cons, ih.2]
      rfl
theorem sgs_names (nd : X.N.Nodup) {M₀ : Addr → Prop} {H₀ H : Hp} {own : Nat → Addr} {es : List Expr} {is : List Nat} (h : Nms X es is) : ∃ t : TGs, PGs X es t ∧ ∀ (ρ : List Slot) (σ : L2.St) (vs : List V) (ds : List D) (ρ' : List Slot) (Q : L2.St → Hp → Prop),
    Rel (gx X b cl) M₀ H₀ own ρ σ H → Reps (gx X b cl) (vis (hid M₀ own ρ) H) vs ds → puts ρ is ds = some ρ' → After (gx X b cl) M₀ H₀ own ρ ρ' σ H is Q → t vs σ H Q := by
  induction h with
  | nil =>
    refine ⟨gNil, pgs_nil, fun ρ σ vs ds ρ' Q R r h q => ?_⟩
    cases ds with
    | nil =>
      cases h
      cases r
      exact ⟨rfl, q σ R rfl (fun _ _ => rfl) rfl⟩
    | cons d ds => cases h
  | cons n t ih =>
    rename_i x pos i es is
    obtain ⟨u, hu, hq⟩ := ih
    refine ⟨gCons (gName i) u, pgs_cons (pg_name nd n.at_ n.loc n.fn) hu, fun ρ σ vs ds ρ' Q R r h q => ?_⟩
    cases r with
    | nil => cases h
    | cons r1 r2 =>
      rename_i v vr d dr
      obtain ⟨ρ1, h1, h2⟩ := Option.bind_eq_some_iff.mp h
      obtain ⟨R1, e1⟩ := R.put1 h1 r1
      refine ⟨v, vr, rfl, hq ρ1 _ vr dr ρ' Q R1 (by rw [e1]; exact r2) h2 fun σ' R' e2 e3 e4 => q σ' R' (e2.trans e1) (fun j hj => ?_) (by rw [e4, List.length_set])⟩
      rw [e3 j (fun z => hj (List.mem_cons_of_mem _ z)), List.getElem?_set_ne fun z => hj (by rw [← z]; exact List.mem_cons_self)]
theorem puts_len : ∀ {is : List Nat} {ds : List D} {ρ ρ' : List Slot}, puts ρ is ds = some ρ' → is.length = ds.length
  | [], [], _, _, _ => rfl
  | [], _ :: _, _, _, h => by cases h
  | _ :: _, [], _, _, h => by cases h
  | i :: is, d :: ds, _, _, h => by
    obtain ⟨ρ1, _, h2⟩ := Option.bind_eq_some_iff.mp h
    rw [List.length_cons, List.length_cons, puts_len h2]
theorem sg_tup {es : List Expr} {is : List Nat} {k : Nat} {pos : Pos} (calm : X.calm = true) (nd : X.N.Nodup) (h : Nms X es is) : SG b cl X (.Tuple es k pos) (.tup is) := fun M₀ H₀ own ρ σ H v d ρ' Q R r hp q => by
  obtain ⟨t, ht, hq⟩ := sgs_names (b := b) (cl := cl) (M₀ := M₀) (H₀ := H₀) (H := H) (own := own) nd h
  cases r with
  | tup hs hr =>
    rename_i a vs ds
    have hl : vs.length = is.length := by rw [hr.length, puts_len hp]
    exact PG.wp (pg_tup (n := is.length) calm ht (Nms.len h).1 (Nms.len h).2) ⟨a, vs, rfl, (vis_sub _ _).sqT hs, hl, hq ρ σ vs ds ρ' Q R hr hp q⟩
  | lst hs hr =>
    rename_i a vs ds
    have hl : vs.length = is.length := by rw [hr.length, puts_len hp]
    exact PG.wp (pg_unl (n := is.length) calm ht (Nms.len h).1 (Nms.len h).2) ⟨a, vs, rfl, .inl (.inl (vis_sub _ _ a _ hs)), hl, hq ρ σ vs ds ρ' Q R hr hp q⟩
  | _ => cases hp
end
end Ev
set_option Elab.async false
set_option linter.all false
set_option autoImplicit false
/-! Ev11: list comprehensions. -/
namespace Ev
open PySem PySem.Spec PyProof.Rows L2 M
section
variable {X : Cx} {b : Addr} {cl : Cls}
/-- a block's context -/
abbrev bx (X : Cx) (scope : Scope) (s : Shared) (H : Hp) (C : Addr) (c : List (Str × Addr)) (fp : List Addr) : Cx := X.blk s H scope (compEnvC scope c C X.env) fp
/-- the tests of a comprehension -/
def STs (b : Addr) (cl : Cls) (X : Cx) (ifs : List Expr) (f : List Slot → M Bool) : Prop := (ifs = [] ∧ f = fun _ => ret true) ∨ ∃ c, ifs = [c] ∧ ST b cl X c f
theorem lcM_cons {f : D → M (Option (D × Bool))} {x : D} {xs : List D} {g g' : Bag} {q : List D × Bool} (h : lcM f (x :: xs) g = some (q, g')) : ∃ r g1 q', f x g = some (r, g1) ∧ lcM f xs g1 = some (q', g') ∧ q = (match r with | none => q' | some p => (p.1 :: q'.1, p.2 && q'.2)) := by
  rw [lcM] at h
  obtain ⟨r, g1, h1, h⟩ := bnd_some h
  obtain ⟨q', g2, h2, h⟩ := bnd_some h
  cases r with
  | none =>
    cases h
    exact ⟨none, g1, _, h1, h2, rfl⟩
  | some p =>
    cases h
    exact ⟨some p, g1, _, h1, h2, rfl⟩
/-- one turn of a comprehension -/
def lcT (g : Tg) (vs : List Nat) (ft : List Slot → M Bool) (fe : List Slot → M (D × Kd)) (ρ : List Slot) (x : D) : M (Option (D × Bool)) := match put (wipeS ρ vs) g x with
  | none => fail
  | some ρ' => bnd (ft ρ') fun t => if t then bnd (fe ρ') fun p => ret (some (p.1, p.2.ok)) else ret none
theorem lcT_some {g : Tg} {vs : List Nat} {ft : List Slot → M Bool} {fe : List Slot → M (D × Kd)} {ρ : List Slot} {x : D} {r : Option (D × Bool)} {g1 g2 : Bag} (h : lcT g vs ft fe ρ x g1 = some (r, g2)) :
    ∃ ρ' t g3, put (wipeS ρ vs) g x = some ρ' ∧ ft ρ' g1 = some (t, g3) ∧ ((t = false ∧ r = none ∧ g3 = g2) ∨ (t = true ∧ ∃ p, fe ρ' g3 = some (p, g2) ∧ r = some (p.1, p.2.ok))) := by
  unfold lcT at h
  cases e : put (wipeS ρ vs) g x with
  | none =>
    rw [e] at h
    cases h
  | some ρ' =>
    rw [e] at h
    obtain ⟨t, g3, h1, h⟩ := bnd_some h
    refine ⟨ρ', t, g3, rfl, h1, ?_⟩
    cases t with
    | false =>
      cases h
      exact .inl ⟨rfl, rfl, rfl⟩
    | true =>
      obtain ⟨p, g4, h2, h⟩ := bnd_some h
      cases h
      exact .inr ⟨rfl, p, h2, rfl⟩
/-- the block's hiding: the list that grows is hidden, too -/
theorem Rel.more {G : Gx} {M₀ : Addr → Prop} {H₀ H H' : Hp} {own : Nat → Addr} {ρ : List Slot} {σ : L2.St} {L : Addr} (R : Rel G M₀ H₀ own ρ σ H) (hL : H L = none) (x : Ext G.b H H') (hL' : H' L ≠ none) (nb : H' G.b ≠ none) :
    Rel G (fun a => M₀ a ∨ a = L) H₀ own ρ σ H' ∧ ∀ a, hid (fun a => M₀ a ∨ a = L) own ρ a ↔ (hid M₀ own ρ a ∨ a = L) := by
  have hid1 : ∀ a, hid (fun a => M₀ a ∨ a = L) own ρ a ↔ (hid M₀ own ρ a ∨ a = L) := fun a => by
    constructor
    · rintro ((h | h) | h)
      · exact .inl (.inl h)
      · exact .inr h
      · exact .inl (.inr h)
    · rintro ((h | h) | h)
      · exact .inl (.inl h)
      · exact .inr h
      · exact .inl (.inr h)
  have R' := R.move x nb
  have sub : Sub (vis (hid M₀ own ρ) H) (vis (hid (fun a => M₀ a ∨ a = L) own ρ) H') := fun a o e => by
    obtain ⟨h1, h2⟩ := vis_iff.mp e
    refine vis_iff.mpr ⟨fun z => ?_, x _ _ (fun z => h1 (z ▸ R.mb)) h2⟩
    rcases (hid1 a).mp z with z | z
    · exact h1 z
    · rw [z, hL] at h2
      cases h2
  refine ⟨⟨fun i d e => ?_, fun i d e => ?_, R.inj, .inl R.hb, .inl R.hbc, R'.ext, R.len, fun a h => ?_⟩, hid1⟩
  · obtain ⟨v, h1, h2⟩ := R.vl i d e
    exact ⟨v, h1, h2.mono sub⟩
  · obtain ⟨h1, h2, h3, o, h4, h5⟩ := R.ow i d e
    refine ⟨h1, fun z => ?_, h3, o, x _ _ (fun z => h2 (z ▸ R.hb)) h4, h5.mono sub⟩
    rcases z with z | z
    · exact h2 z
    · rw [z, hL] at h4
      cases h4
  · rcases h with h | h
    · exact R'.dom a h
    · rw [h]
      exact hL'
/-- the tree function of a comprehension -/
def lcF (gt : Tg) (vs : List Nat) (fit : List Slot → M (List D)) (ft : List Slot → M Bool) (fe : List Slot → M (D × Kd)) (ρ : List Slot) : M (D × Kd) :=
  guard (vs.all fun i => !isOwn ρ i) (bnd (fit ρ) fun xs => bnd (lcM (lcT gt vs ft fe ρ) xs) fun q => ret (.lst q.1, if q.2 then .fresh else .dirty))
/-- a comprehension's readings, and that they hold -/
def LcR (b : Addr) (cl : Cls) (X : Cx) (elt tg iter : Expr) (ifs : List Expr) (scope : Scope) (vs : List Nat) (f : List Slot → M (D × Kd)) : Prop := ∃ (tG : TG) (tT : TT) (tE : TE),
  (∀ s H C c fp, PG (bx X scope s H C c fp) tg tG) ∧ (∀ s H C c fp, PTs (bx X scope s H C c fp) ifs tT) ∧ (∀ s H C c fp, PE (bx X scope s H C c fp) elt tE) ∧
  ∀ (M₀ : Addr → Prop) (H₀ : Hp) (own : Nat → Addr) (ρ : List Slot) (σ : L2.St) (H : Hp) (g : Bag) (d : D) (k : Kd) (g' : Bag) (Q : VK), Rel (gx X b cl) M₀ H₀ own ρ σ H → BagAt (gx X b cl) H g → f ρ g = some ((d, k), g') →
    (∀ v H', Ext b H H' → BagAt (gx X b cl) H' g' → RV (gx X b cl) M₀ own ρ H H' v d k → Q v H') → tLc (wpI X tg iter) tG tT tE vs σ H Q
theorem lc_reads {elt tg iter : Expr} {ifs : List Expr} {scope : Scope} {own1 : List (Str × Nat)} {gt : Tg} {pos : Pos} {fit : List Slot → M (List D)} {ft : List Slot → M Bool} {fe : List Slot → M (D × Kd)} {k0 : Nat} (cx : CxOk k0 X)
    (hi : SI b cl X tg iter true fit) (ok : BlkOk X.N X.env.scope scope own1) (hg : ∀ s H C c fp, SG b cl (bx X scope s H C c fp) tg gt) (ht : (ifs = [] ∧ ft = fun _ => ret true) ∨ ∃ c, ifs = [c] ∧ ∀ s H C l fp, ST b cl (bx X scope s H C l fp) c ft)
    (he : ∀ s H C c fp, SE b cl (bx X scope s H C c fp) elt fe) (hsub : ∀ i ∈ gt.slots, i ∈ own1.map (·.2)) :
    LcR b cl X elt tg iter ifs scope (own1.map (·.2)) (lcF gt (own1.map (·.2)) fit ft fe) := by
  -- the readings of the block
  let tG : TG := fun v σ H Q => ∀ s H0 C c fp, wpG (bx X scope s H0 C c fp) tg v σ H Q
  let tE : TE := fun σ H Q => ∀ s H0 C c fp, wpE (bx X scope s H0 C c fp) elt σ H Q
  have pG : ∀ (s : Shared) (H : Hp) (C : Addr) (c : List (Str × Addr)) (fp : List Addr), PG (bx X scope s H C c fp) tg tG := fun s H C c fp => ⟨fun pins s1 σ H1 v u Q I r z => z s H C c fp pins s1 u I r⟩
  have pE : ∀ (s : Shared) (H : Hp) (C : Addr) (c : List (Str × Addr)) (fp : List Addr), PE (bx X scope s H C c fp) elt tE := fun s H C c fp => ⟨fun pins s1 σ H1 Q I z => z s H C c fp pins s1 I⟩
  have pT : ∃ tT : TT, (∀ (s : Shared) (H : Hp) (C : Addr) (c : List (Str × Addr)) (fp : List Addr), PTs (bx X scope s H C c fp) ifs tT) ∧ ∀ (M₀ : Addr → Prop) (H₀ : Hp) (own : Nat → Addr) (ρ : List Slot) (σ : L2.St) (H : Hp) (g : Bag) (t : Bool) (g' : Bag) (Q : Bool → Hp → Prop),
      Rel (gx X b cl) M₀ H₀ own ρ σ H → BagAt (gx X b cl) H g → ft ρ g = some (t, g') → (∀ H', Ext b H H' → BagAt (gx X b cl) H' g' → Q t H') → tT σ H Q := by
    rcases ht with ⟨rfl, rfl⟩ | ⟨c, rfl, hc⟩
    · exact ⟨tYes, fun _ _ _ _ _ => pts_nil, fun M₀ H₀ own ρ σ H g t g' Q R B e z => by cases e; exact z _ (Ext.refl _ _) B⟩
    · refine ⟨fun σ H Q => ∀ s H0 C l fp, wpT (bx X scope s H0 C l fp) c σ H Q, fun s H C l fp => pts_one ⟨fun pins s1 σ H1 Q I z => z s H C l fp pins s1 I⟩, fun M₀ H₀ own ρ σ H g t g' Q R B e z s H0 C l fp => hc s H0 C l fp M₀ H₀ own ρ σ H g t g' Q R B e z⟩
  obtain ⟨tT, pT, rT⟩ := pT
  refine ⟨tG, tT, tE, pG, pT, pE, ?_⟩
  intro M₀ H₀ own ρ σ H g d k g' Q R B h q
  obtain ⟨hw, h⟩ := guard_eq h
  obtain ⟨xs, g1, h1, h⟩ := bnd_some h
  obtain ⟨⟨ds, okd⟩, g2, h2, h⟩ := bnd_some h
  cases h
  refine hi M₀ H₀ own ρ σ H g xs g1 _ R B h1 fun J H1 x1 B1 wk => ?_
  have R1 := R.move x1 B1.some
  obtain ⟨vs, es, F, W, rs, pF, _, hlen⟩ := wk
  intro L hL
  refine ⟨fun i m Hc => i + m = xs.length ∧ ∃ gi acc da oa dr okr, Ext b H1 Hc ∧ BagAt (gx X b cl) Hc gi ∧ Hc L = some (.lst acc) ∧ acc.length ≤ i ∧ lcM (lcT gt (own1.map (·.2)) ft fe ρ) (xs.drop i) gi = some ((dr, okr), g') ∧ ds = da ++ dr ∧ okd = (oa && okr) ∧
      Reps (gx X b cl) (vis (fun a => M₀ a ∨ a = L) Hc) acc da ∧ (oa = true → Reps (gx X b cl) (vis (fun a => hid M₀ own ρ a ∨ a = L) Hc) acc da),
    ⟨xs.length, by omega, g1, [], [], true, ds, okd, Ext.new hL, B1.new hL, upd_same, Nat.zero_le _, h2, rfl, by cases okd <;> rfl, .nil, fun _ => .nil⟩, ?_⟩
  rintro i m Hc ⟨em, gi, acc, da, oa, dr, okr, xc, Bc, hLc, hac, hr, rfl, rfl, k1, k2⟩
  have hF : F Hc := pF Hc xc
  by_cases hi' : i < xs.length
  · refine .inr ⟨W.go i Hc hF hi', fun H' => i + 1 + (m - 1) = xs.length ∧ ∃ gi acc da' oa' dr' okr', Ext b H1 H' ∧ BagAt (gx X b cl) H' gi ∧ H' L = some (.lst acc) ∧ acc.length ≤ i + 1 ∧ lcM (lcT gt (own1.map (·.2)) ft fe ρ) (xs.drop (i + 1)) gi = some ((dr', okr'), g') ∧ da ++ dr = da' ++ dr' ∧ (oa && okr) = (oa' && okr') ∧
        Reps (gx X b cl) (vis (fun a => M₀ a ∨ a = L) H') acc da' ∧ (oa' = true → Reps (gx X b cl) (vis (fun a => hid M₀ own ρ a ∨ a = L) H') acc da'), fun H' z => ⟨m - 1, by omega, z⟩, fun x H2 hy => ?_⟩
    -- the item
    have e0 : xs.drop i = xs[i] :: xs.drop (i + 1) := List.drop_eq_getElem_cons hi'
    rw [e0] at hr
    obtain ⟨r, g3, q', e1, e2, e3⟩ := lcM_cons hr
    obtain ⟨ρ', t, g4, e4, e5, e6⟩ := lcT_some e1
    obtain ⟨sub2, yr⟩ := W.yld i Hc x H2 xs[i] hF hy (List.getElem?_eq_getElem hi')
    have x2 : Ext b Hc H2 := Ext.of_sub sub2
    have B2 : BagAt (gx X b cl) H2 gi := by
      obtain ⟨q1, q2, q3⟩ := Bc.at_
      exact ⟨⟨q1, sub2 _ _ q2, sub2 _ _ q3⟩, Bc.ok⟩
    have hL2 : H2 L = some (.lst acc) := sub2 _ _ hLc
    obtain ⟨R2, hd2⟩ := R1.more hL (xc.trans x2) (by rw [hL2]; exact Option.some_ne_none _) B2.some
    obtain ⟨R3, hd3, _⟩ := R2.wipe (vs := own1.map (·.2)) hw
    have rx : Rep (gx X b cl) (vis (hid (fun a => M₀ a ∨ a = L) own (wipeS ρ (own1.map (·.2)))) H2) x xs[i] := by
      rw [hd3]
      refine yr _ (fun a z => ?_) (rs.mono fun a o e => ?_)
      · rcases (hd2 a).mp z with z | z
        · have q := R1.mdom z
          cases w : H1 a with
          | none => exact absurd w q
          | some o =>
            by_cases eb : a = b
            · rw [eb]
              exact Bc.some
            · rw [xc a o eb w]
              exact Option.some_ne_none _
        · rw [z, hLc]
          exact Option.some_ne_none _
      · obtain ⟨w1, w2⟩ := vis_iff.mp e
        refine vis_iff.mpr ⟨fun z => ?_, xc _ _ (fun z => w1 (z ▸ R1.mb)) w2⟩
        rcases (hd2 a).mp z with z | z
        · exact w1 z
        · rw [z, hL] at w2
          cases w2
    refine fun s H0 C c fp => hg s H0 C c fp _ _ _ _ _ _ _ _ _ _ R3 rx e4 fun σ3 R4 hd4 hj hl => ⟨?_, ?_⟩
    · refine (wipe_same (τ := wipe σ (own1.map (·.2))) hl fun j hj' => hj j fun z => hj' (hsub j z)).trans wipe_wipe
    · refine rT _ _ _ _ _ _ _ _ _ _ R4 B2 e5 fun H3 x3 B3 => ?_
      have hL3 : H3 L = some (.lst acc) := x3 _ _ (fun z => by rw [z] at hL; exact B1.some hL) hL2
      have x13 : Ext b H1 H3 := (xc.trans x2).trans x3
      have mono3 : ∀ {M : Addr → Prop} {H9 : Hp} {vv : List V} {dd : List D}, M b → Ext b Hc H9 → Reps (gx X b cl) (vis M Hc) vv dd → Reps (gx X b cl) (vis M H9) vv dd := fun hb xx z => z.mono (vis_ext xx hb fun _ y => y)
      rcases e6 with ⟨rfl, rfl, rfl⟩ | ⟨rfl, p, e7, rfl⟩
      · -- left out
        dsimp only at e3
        refine ⟨by omega, _, acc, da, oa, dr, okr, x13, B3, hL3, by omega, ?_, rfl, rfl, mono3 (.inl R.hb) (x2.trans x3) k1, fun z => mono3 (.inl R.mb) (x2.trans x3) (k2 z)⟩
        rw [e3]
        exact e2
      · refine fun s H0 C c fp => he s H0 C c fp _ _ _ _ _ _ _ p.1 p.2 _ _ (R4.move x3 B3.some) B3 e7 fun y H4 x4 B4 r4 => ?_
        have hL4 : H4 L = some (.lst acc) := x4 _ _ (fun z => by rw [z] at hL; exact B1.some hL) hL3
        have R5 := (R4.move x3 B3.some)
        have R6 := R5.move x4 B4.some
        have x24 : Ext b Hc H4 := (x2.trans x3).trans x4
        have up : ∀ {M : Addr → Prop} {vv : List V} {dd : List D} {ac : List V}, M L → Reps (gx X b cl) (vis M H4) vv dd → Reps (gx X b cl) (vis M (upd H4 L (.lst ac))) vv dd := fun hM z => z.mono fun a o e => by
          obtain ⟨w1, w2⟩ := vis_iff.mp e
          have na : a ≠ L := fun z => by
            rw [z] at w1
            exact w1 hM
          exact vis_iff.mpr ⟨w1, by rw [upd_ne na]; exact w2⟩
        have up1 : ∀ {M : Addr → Prop} {v : V} {d : D} {ac : List V}, M L → Rep (gx X b cl) (vis M H4) v d → Rep (gx X b cl) (vis M (upd H4 L (.lst ac))) v d := fun hM z => z.mono fun a o e => by
          obtain ⟨w1, w2⟩ := vis_iff.mp e
          have na : a ≠ L := fun z => by
            rw [z] at w1
            exact w1 hM
          exact vis_iff.mpr ⟨w1, by rw [upd_ne na]; exact w2⟩
        have hidE : hid (fun a => M₀ a ∨ a = L) own ρ' = fun a => hid M₀ own ρ a ∨ a = L := by
          rw [hd4, hd3]
          funext a
          exact propext (hd2 a)
        have hLb : L ≠ b := fun z => by
          rw [z] at hL
          exact B1.some hL
        have ry := r4.any R5 R6
        obtain ⟨dr', okr'⟩ := q'
        have e3' : (dr, okr) = (p.1 :: dr', p.2.ok && okr') := e3
        injection e3' with e8 e9
        subst e8 e9
        refine ⟨acc, hL4, by omega, by omega, g3, acc ++ [y], da ++ [p.1], oa && p.2.ok, dr', okr', fun a o na ha => ?_, ?_, upd_same, by rw [List.length_append, List.length_singleton]; omega, e2, by simp, by rw [Bool.and_assoc], ?_, fun z => ?_⟩
        · rw [upd_ne fun z => by rw [z, hL] at ha; cases ha]
          exact (xc.trans x24) a o na ha
        · obtain ⟨q1, q2, q3⟩ := B4.at_
          have nc : (gx X b cl).cl.bc ≠ L := fun z => by
            have q4 := B1.at_.2.2
            rw [z, hL] at q4
            cases q4
          exact ⟨⟨q1, by rw [upd_ne (show (gx X b cl).b ≠ L from fun z => hLb z.symm)]; exact q2, by rw [upd_ne nc]; exact q3⟩, B4.ok⟩
        · exact (up (.inr rfl) (mono3 (.inl R.hb) x24 k1)).append (.cons (up1 (.inr rfl) ry) .nil)
        · rw [Bool.and_eq_true] at z
          have r5 := r4.ok R5 z.2
          rw [hidE] at r5
          exact (up (.inr rfl) (mono3 (.inl R.mb) x24 (k2 z.1))).append (.cons (up1 (.inr rfl) r5) .nil)
  · have e9 : i = xs.length := by omega
    subst e9
    refine .inl ⟨W.stop _ Hc hF (Nat.le_refl _), ?_⟩
    rw [List.drop_length] at hr
    cases hr
    rw [List.append_nil, Bool.and_true] at q
    refine q _ _ (x1.trans xc) Bc ?_
    cases oa with
    | true => exact ⟨L, _, rfl, (by
        cases z : H L with
        | none => rfl
        | some o =>
          have nb : L ≠ b := fun z => by
            rw [z] at hL
            exact B1.some hL
          rw [x1 L o nb z] at hL
          cases hL), hLc, .lst (k2 rfl)⟩
    | false =>
      refine .lst (vis_iff.mpr ⟨fun z => R1.dom L z hL, hLc⟩) (k1.mono (sub_or Hc))
theorem se_lc {elt tg iter : Expr} {ifs : List Expr} {scope : Scope} {own1 : List (Str × Nat)} {f : List Slot → M (D × Kd)} {pos : Pos} {k0 : Nat} (cx : CxOk k0 X) (h : LcR b cl X elt tg iter ifs scope (own1.map (·.2)) f) (ok : BlkOk X.N X.env.scope scope own1) (hs : isSetD iter = false) :
    SE b cl X (.ListComp elt [⟨tg, iter, ifs, 0⟩] scope pos) f := fun M₀ H₀ own ρ σ H g d k g' Q R B e q => by
  obtain ⟨tG, tT, tE, pG, pT, pE, r⟩ := h
  exact PE.wp (pe_lc cx.calm cx.nd pi_wp ok pG pT pE (folded_no hs)) (r M₀ H₀ own ρ σ H g d k g' Q R B e q)
end
end Ev
set_option Elab.async false
set_option linter.all false
set_option autoImplicit false
/-! Ev12: statements. -/
namespace Ev
open PySem PySem.Spec PyProof.Rows L2 M
section
variable {G : Gx} {M₀ : Addr → Prop} {H₀ H H' : Hp} {own : Nat → Addr} {ρ ρ' : List Slot} {σ : L2.St}
theorem hid_less {i : Nat} {s : Slot} (hs : ∀ d, s ≠ .own d) {a : Addr} (h : hid M₀ own (ρ.set i s) a) : hid M₀ own ρ a := by
  rcases h with h | ⟨j, d, h, e⟩
  · exact .inl h
  · exact .inr ⟨j, d, (set_own hs h).2, e⟩
theorem vis_less {M M' : Addr → Prop} (h : ∀ a, M' a → M a) : Sub (vis M H) (vis M' H) := fun a o e => by
  obtain ⟨h1, h2⟩ := vis_iff.mp e
  exact vis_iff.mpr ⟨fun z => h1 (h a z), h2⟩
/-- any slot takes a value that is nobody's cell -/
theorem Rel.setVal (R : Rel G M₀ H₀ own ρ σ H) {i : Nat} {d : D} {v : V} (r : Rep G (vis (hid M₀ own ρ) H) v d) : Rel G M₀ H₀ own (ρ.set i (.val d)) (σ.set i (some v)) H ∧ Sub (vis (hid M₀ own ρ) H) (vis (hid M₀ own (ρ.set i (.val d))) H) := by
  have hs : ∀ e, Slot.val d ≠ .own e := fun _ z => (nomatch z)
  have sub : Sub (vis (hid M₀ own ρ) H) (vis (hid M₀ own (ρ.set i (.val d))) H) := vis_less fun a => hid_less hs
  refine ⟨⟨fun j e h => ?_, fun j e h => ?_, fun j l e f h1 h2 => R.inj j l e f (set_own hs h1).2 (set_own hs h2).2, R.hb, R.hbc, R.ext, by rw [List.length_set, List.length_set]; exact R.len, R.dom⟩, sub⟩
  · by_cases q : i = j
    · subst q
      by_cases l : i < ρ.length
      · rw [List.getElem?_set_self l] at h
        cases h
        exact ⟨v, by rw [List.getElem?_set_self (by rw [← R.len]; exact l)], r.mono sub⟩
      · rw [List.getElem?_eq_none (by rw [List.length_set]; omega)] at h
        cases h
    · rw [List.getElem?_set_ne q] at h ⊢
      obtain ⟨x, h1, h2⟩ := R.vl j e h
      exact ⟨x, h1, h2.mono sub⟩
  · obtain ⟨n, h2⟩ := set_own hs h
    rw [List.getElem?_set_ne fun z => n z.symm]
    obtain ⟨h3, h4, h5, o, h6, h7⟩ := R.ow j e h2
    exact ⟨h3, h4, h5, o, h6, h7.mono sub⟩
theorem Rel.none0 (R : Rel G M₀ H₀ own ρ σ H) {p : Addr} (h : H p = none) : H₀ p = none := by
  cases z : H₀ p with
  | none => rfl
  | some o =>
    have nb : p ≠ G.b := fun e => R.dom _ R.hb (e ▸ h)
    rw [R.ext p o nb z] at h
    cases h
def ownAt (own : Nat → Addr) (i : Nat) (p : Addr) : Nat → Addr := fun j => if j = i then p else own j
theorem ownAt_eq {i j : Nat} {p : Addr} (h : j = i) : ownAt own i p j = p := if_pos h
theorem ownAt_ne {i j : Nat} {p : Addr} (h : ¬ j = i) : ownAt own i p j = own j := if_neg h
/-- a slot takes a new cell of one's own -/
theorem Rel.setOwn (R : Rel G M₀ H₀ own ρ σ H) {i : Nat} {d : D} {p : Addr} {o : HO} (x : Ext G.b H H') (nb : H' G.b ≠ none) (hp : H p = none) (ho : H' p = some o) (c : Cell G (vis (fun a => hid M₀ own ρ a ∨ a = p) H') o d) :
    Rel G M₀ H₀ (ownAt own i p) (ρ.set i (.own d)) (σ.set i (some (.ref p))) H' ∧ Sub (vis (hid M₀ own ρ) H) (vis (hid M₀ (ownAt own i p) (ρ.set i (.own d))) H') := by
  have R' := R.move x nb
  have less : ∀ a, hid M₀ (ownAt own i p) (ρ.set i (.own d)) a → hid M₀ own ρ a ∨ a = p := fun a h => by
    rcases h with h | ⟨j, e, h, z⟩
    · exact .inl (.inl h)
    · by_cases q : j = i
      · rw [ownAt_eq q] at z
        exact .inr z.symm
      · rw [ownAt_ne q] at z
        rw [List.getElem?_set_ne fun w => q w.symm] at h
        exact .inl (.inr ⟨j, e, h, z⟩)
  have sub1 : Sub (vis (fun a => hid M₀ own ρ a ∨ a = p) H') (vis (hid M₀ (ownAt own i p) (ρ.set i (.own d))) H') := vis_less less
  have sub0 : Sub (vis (hid M₀ own ρ) H) (vis (fun a => hid M₀ own ρ a ∨ a = p) H') := fun a u e => by
    obtain ⟨h1, h2⟩ := vis_iff.mp e
    refine vis_iff.mpr ⟨fun z => z.elim h1 fun z => ?_, x _ _ (fun z => h1 (z ▸ R.mb)) h2⟩
    rw [z, hp] at h2
    cases h2
  have sub := sub0.trans sub1
  refine ⟨⟨fun j e h => ?_, fun j e h => ?_, fun j l e f h1 h2 hz => ?_, R.hb, R.hbc, R'.ext, by rw [List.length_set, List.length_set]; exact R.len, R'.dom⟩, sub⟩
  · by_cases q : i = j
    · subst q
      by_cases l : i < ρ.length
      · rw [List.getElem?_set_self l] at h
        cases h
      · rw [List.getElem?_eq_none (by rw [List.length_set]; omega)] at h
        cases h
    · rw [List.getElem?_set_ne q] at h ⊢
      obtain ⟨y, h1, h2⟩ := R.vl j e h
      exact ⟨y, h1, h2.mono sub⟩
  · by_cases q : i = j
    · subst q
      by_cases l : i < ρ.length
      · rw [List.getElem?_set_self l] at h
        cases h
        rw [ownAt_eq rfl, List.getElem?_set_self (by rw [← R.len]; exact l)]
        exact ⟨rfl, fun z => R.dom _ z hp, R.none0 hp, o, ho, c.mono sub1⟩
      · rw [List.getElem?_eq_none (by rw [List.length_set]; omega)] at h
        cases h
    · rw [List.getElem?_set_ne q] at h ⊢
      rw [ownAt_ne fun z => q z.symm]
      obtain ⟨h1, h2, h3, u, h4, h5⟩ := R.ow j e h
      exact ⟨h1, h2, h3, u, x _ _ (fun z => h2 (z ▸ R.hb)) h4, h5.mono sub⟩
  · have old : ∀ {j : Nat} {e : D}, j ≠ i → (ρ.set i (.own d))[j]? = some (.own e) → own j ≠ p := fun {j e} q h w => by
      rw [List.getElem?_set_ne fun w => q w.symm] at h
      obtain ⟨_, _, _, u, h4, _⟩ := R.ow j e h
      rw [w, hp] at h4
      cases h4
    by_cases q : j = i
    · by_cases q2 : l = i
      · rw [q, q2]
      · rw [ownAt_eq q, ownAt_ne q2] at hz
        exact absurd hz.symm (old q2 h2)
    · by_cases q2 : l = i
      · rw [ownAt_ne q, ownAt_eq q2] at hz
        exact absurd hz (old q h1)
      · rw [ownAt_ne q, ownAt_ne q2] at hz
        rw [List.getElem?_set_ne fun w => q w.symm] at h1
        rw [List.getElem?_set_ne fun w => q2 w.symm] at h2
        exact R.inj j l e f h1 h2 hz
/-- one's own cell is written -/
theorem Rel.mut (R : Rel G M₀ H₀ own ρ σ H) {i : Nat} {d d' : D} {o : HO} (hi : ρ[i]? = some (.own d)) (c : Cell G (vis (hid M₀ own ρ) H) o d') :
    Rel G M₀ H₀ own (ρ.set i (.own d')) σ (upd H (own i) o) ∧ Sub (vis (hid M₀ own ρ) H) (vis (hid M₀ own (ρ.set i (.own d'))) (upd H (own i) o)) := by
  obtain ⟨w1, w2, w3, w4, w5, w6⟩ := R.ow i d hi
  have il : i < ρ.length := by
    obtain ⟨l, _⟩ := List.getElem?_eq_some_iff.mp hi
    exact l
  have same : ∀ {j : Nat} {e : D}, (ρ.set i (.own d'))[j]? = some (.own e) → ∃ f, ρ[j]? = some (.own f) := fun {j e} h => by
    by_cases q : i = j
    · subst q
      exact ⟨d, hi⟩
    · rw [List.getElem?_set_ne q] at h
      exact ⟨e, h⟩
  have hh : ∀ a, hid M₀ own (ρ.set i (.own d')) a ↔ hid M₀ own ρ a := fun a => by
    constructor
    · rintro (h | ⟨j, e, h, z⟩)
      · exact .inl h
      · obtain ⟨f, h'⟩ := same h
        exact .inr ⟨j, f, h', z⟩
    · rintro (h | ⟨j, e, h, z⟩)
      · exact .inl h
      · by_cases q : i = j
        · subst q
          exact .inr ⟨i, d', List.getElem?_set_self il, z⟩
        · exact .inr ⟨j, e, by rw [List.getElem?_set_ne q]; exact h, z⟩
  have mine : hid M₀ own ρ (own i) := .inr ⟨i, d, hi, rfl⟩
  have sub : Sub (vis (hid M₀ own ρ) H) (vis (hid M₀ own (ρ.set i (.own d'))) (upd H (own i) o)) := fun a u e => by
    obtain ⟨h1, h2⟩ := vis_iff.mp e
    have na : a ≠ own i := fun z => by
      rw [z] at h1
      exact h1 mine
    exact vis_iff.mpr ⟨fun z => h1 ((hh a).mp z), by rw [upd_ne na]; exact h2⟩
  refine ⟨⟨fun j e h => ?_, fun j e h => ?_, fun j l e f h1 h2 => ?_, R.hb, R.hbc, fun a u na h => ?_, by rw [List.length_set]; exact R.len, fun a h => ?_⟩, sub⟩
  · by_cases q : i = j
    · subst q
      rw [List.getElem?_set_self il] at h
      cases h
    · rw [List.getElem?_set_ne q] at h
      obtain ⟨y, h1, h2⟩ := R.vl j e h
      exact ⟨y, h1, h2.mono sub⟩
  · by_cases q : i = j
    · subst q
      rw [List.getElem?_set_self il] at h
      cases h
      exact ⟨w1, w2, w3, o, upd_same, c.mono sub⟩
    · rw [List.getElem?_set_ne q] at h
      obtain ⟨h1, h2, h3, u, h4, h5⟩ := R.ow j e h
      refine ⟨h1, h2, h3, u, ?_, h5.mono sub⟩
      rw [upd_ne fun z => q (R.inj i j d e hi h z.symm)]
      exact h4
  · obtain ⟨f1, g1⟩ := same h1
    obtain ⟨f2, g2⟩ := same h2
    exact R.inj j l f1 f2 g1 g2
  · rw [upd_ne fun z => by rw [z, w3] at h; cases h]
    exact R.ext a u na h
  · by_cases q : a = own i
    · rw [q, upd_same]
      exact Option.some_ne_none _
    · rw [upd_ne q]
      exact R.dom a h
theorem bag_mut {g : Bag} (B : BagAt G H g) (R : Rel G M₀ H₀ own ρ σ H) {i : Nat} {d : D} {o : HO} (hi : ρ[i]? = some (Slot.own d)) : BagAt G (upd H (own i) o) g := by
  obtain ⟨h1, h2, h3⟩ := B.at_
  have hc : own i ≠ G.cl.bc := fun z => by
    obtain ⟨_, w2, _⟩ := R.ow i d hi
    exact w2 (z ▸ R.hbc)
  have n1 : G.b ≠ own i := fun z => by
    obtain ⟨_, w2, _⟩ := R.ow i d hi
    exact w2 (z ▸ R.hb)
  exact ⟨⟨h1, by rw [upd_ne n1]; exact h2, by rw [upd_ne fun z => hc z.symm]; exact h3⟩, B.ok⟩
end
end Ev
set_option Elab.async false
set_option linter.all false
set_option autoImplicit false
/-! Ev13: statements, one rule a form. -/
namespace Ev
open PySem PySem.Spec PyProof.Rows L2 M
section
variable {X : Cx} {b : Addr} {cl : Cls}
/-- what is wanted behind a statement that went on -/
def Goes (G : Gx) (M₀ : Addr → Prop) (H₀ : Hp) (own : Nat → Addr) (ρ : List Slot) (H : Hp) (g' : Bag) (ρ' : List Slot) (T : L2.St → Hp → Prop) : Prop :=
  ∀ own' σ' H', Rel G M₀ H₀ own' ρ' σ' H' → BagAt G H' g' → Sub (vis (hid M₀ own ρ) H) (vis (hid M₀ own' ρ') H') → T σ' H'
def PostS (G : Gx) (M₀ : Addr → Prop) (H₀ : Hp) (own : Nat → Addr) (ρ : List Slot) (H : Hp) (g' : Bag) (Z : Ends) : Fl → Prop
  | .nx ρ' => Goes G M₀ H₀ own ρ H g' ρ' Z.nx
  | .ct ρ' => Goes G M₀ H₀ own ρ H g' ρ' Z.ct
  | .bk ρ' => Goes G M₀ H₀ own ρ H g' ρ' Z.bk
  | .rt d k => ∀ v H', Ext G.b H₀ H' → BagAt G H' g' → RR G M₀ H₀ H' v d k → Z.rt v H'
def SS (b : Addr) (cl : Cls) (X : Cx) (st : Stmt) (f : List Slot → M Fl) : Prop := ∀ (M₀ : Addr → Prop) (H₀ : Hp) (own : Nat → Addr) (ρ : List Slot) (σ : L2.St) (H : Hp) (g : Bag) (l : Fl) (g' : Bag) (Z : Ends),
  Rel (gx X b cl) M₀ H₀ own ρ σ H → BagAt (gx X b cl) H g → f ρ g = some (l, g') → PostS (gx X b cl) M₀ H₀ own ρ H g' Z l → wpS X st Z σ H
def SSs (b : Addr) (cl : Cls) (X : Cx) (sts : List Stmt) (f : List Slot → M Fl) : Prop := ∀ (M₀ : Addr → Prop) (H₀ : Hp) (own : Nat → Addr) (ρ : List Slot) (σ : L2.St) (H : Hp) (g : Bag) (l : Fl) (g' : Bag) (Z : Ends),
  Rel (gx X b cl) M₀ H₀ own ρ σ H → BagAt (gx X b cl) H g → f ρ g = some (l, g') → PostS (gx X b cl) M₀ H₀ own ρ H g' Z l → wpSs X sts Z σ H
theorem Goes.ahead {G : Gx} {M₀ : Addr → Prop} {H₀ H H1 : Hp} {own own1 : Nat → Addr} {ρ ρ1 ρ' : List Slot} {g' : Bag} {T : L2.St → Hp → Prop} (h : Goes G M₀ H₀ own ρ H g' ρ' T) (s : Sub (vis (hid M₀ own ρ) H) (vis (hid M₀ own1 ρ1) H1)) : Goes G M₀ H₀ own1 ρ1 H1 g' ρ' T :=
  fun own' σ' H' R B z => h own' σ' H' R B (s.trans z)
theorem PostS.ahead {G : Gx} {M₀ : Addr → Prop} {H₀ H H1 : Hp} {own own1 : Nat → Addr} {ρ ρ1 : List Slot} {g' : Bag} {Z : Ends} {l : Fl} (h : PostS G M₀ H₀ own ρ H g' Z l) (s : Sub (vis (hid M₀ own ρ) H) (vis (hid M₀ own1 ρ1) H1)) : PostS G M₀ H₀ own1 ρ1 H1 g' Z l := by
  cases l with
  | nx ρ' => exact Goes.ahead h s
  | ct ρ' => exact Goes.ahead h s
  | bk ρ' => exact Goes.ahead h s
  | rt d k => exact h
theorem Rel.sub {G : Gx} {M₀ : Addr → Prop} {H₀ H H1 : Hp} {own : Nat → Addr} {ρ : List Slot} {σ : L2.St} (R : Rel G M₀ H₀ own ρ σ H) (x : Ext G.b H H1) : Sub (vis (hid M₀ own ρ) H) (vis (hid M₀ own ρ) H1) := vis_ext x R.mb fun _ z => z
/-! ### blocks -/
theorem sss_nil : SSs b cl X [] (fun ρ => ret (.nx ρ)) := fun M₀ H₀ own ρ σ H g l g' Z R B h q => by
  cases h
  exact PSs.wp pss_nil (q own σ H R B (Sub.refl _))
theorem sss_cons {st : Stmt} {sts : List Stmt} {f r : List Slot → M Fl} (h1 : SS b cl X st f) (h2 : SSs b cl X sts r) : SSs b cl X (st :: sts) (fun ρ => bnd (f ρ) fun l => match l with
    | .nx ρ' => r ρ'
    | l => ret l) := fun M₀ H₀ own ρ σ H g l g' Z R B h q => by
  obtain ⟨l1, g1, e1, h⟩ := bnd_some h
  refine PSs.wp (pss_cons ps_wp pss_wp) (h1 M₀ H₀ own ρ σ H g l1 g1 _ R B e1 ?_)
  cases l1 with
  | nx ρ' => exact fun own' σ' H' R' B' s => h2 M₀ H₀ own' ρ' σ' H' g1 l g' Z R' B' h (q.ahead s)
  | ct ρ' =>
    cases h
    exact q
  | bk ρ' =>
    cases h
    exact q
  | rt d k =>
    cases h
    exact q
/-! ### small statements -/
theorem ss_pass {pos : Pos} : SS b cl X (.Pass pos) (fun ρ => ret (.nx ρ)) := fun M₀ H₀ own ρ σ H g l g' Z R B h q => by
  cases h
  exact PS.wp ps_pass (q own σ H R B (Sub.refl _))
theorem ss_doc {x : Str} {j : Nat} {pos pos' : Pos} : SS b cl X (.Expr (.Constant (.str x) j pos) pos') (fun ρ => ret (.nx ρ)) := fun M₀ H₀ own ρ σ H g l g' Z R B h q => by
  cases h
  exact PS.wp ps_doc (q own σ H R B (Sub.refl _))
theorem ss_never {st : Stmt} : SS b cl X st (fun _ => fail) := fun M₀ H₀ own ρ σ H g l g' Z R B h q => by cases h
theorem ss_expr {e : Expr} {f : List Slot → M (D × Kd)} {pos : Pos} (he : SE b cl X e f) (hc : isComp e = false) : SS b cl X (.Expr e pos) (fun ρ => bnd (f ρ) fun _ => ret (.nx ρ)) := fun M₀ H₀ own ρ σ H g l g' Z R B h q => by
  obtain ⟨⟨d, k⟩, g1, e1, h⟩ := bnd_some h
  cases h
  exact PS.wp (ps_expr pe_wp (swaps_no hc)) (he M₀ H₀ own ρ σ H g d k _ _ R B e1 fun v H1 x1 B1 _ => q own σ H1 (R.move x1 B1.some) B1 (R.sub x1))
/-- how a value lies for whoever called -/
theorem RV.out {G : Gx} {M₀ : Addr → Prop} {H₀ H H' : Hp} {own : Nat → Addr} {ρ : List Slot} {σ : L2.St} {v : V} {d : D} {k : Kd} (R : Rel G M₀ H₀ own ρ σ H) (R' : Rel G M₀ H₀ own ρ σ H') (h : RV G M₀ own ρ H H' v d k) : RR G M₀ H₀ H' v d k.out := by
  cases k with
  | dirty => exact h
  | clean => exact Rep.mono (sub_hid H') h
  | own =>
    obtain ⟨i, e, rfl⟩ := h
    obtain ⟨h1, h2, h3, o, h4, h5⟩ := R'.ow i d e
    refine ⟨own i, o, rfl, h3, h4, h5.mono fun a u z => ?_⟩
    obtain ⟨w1, w2⟩ := vis_iff.mp z
    refine vis_iff.mpr ⟨fun y => ?_, w2⟩
    rcases y with y | y
    · exact w1 (.inl y)
    · exact w1 (.inr ⟨i, d, e, y.symm⟩)
  | fresh =>
    obtain ⟨p, o, rfl, hp, ho, c⟩ := h
    refine ⟨p, o, rfl, R.none0 hp, ho, c.mono fun a u z => ?_⟩
    obtain ⟨w1, w2⟩ := vis_iff.mp z
    refine vis_iff.mpr ⟨fun y => ?_, w2⟩
    rcases y with y | y
    · exact w1 (.inl (.inl y))
    · exact w1 (.inr y)
theorem ss_ret {e : Expr} {f : List Slot → M (D × Kd)} {pos : Pos} (he : SE b cl X e f) : SS b cl X (.Return (some e) pos) (fun ρ => bnd (f ρ) fun p => ret (.rt p.1 p.2.out)) := fun M₀ H₀ own ρ σ H g l g' Z R B h q => by
  obtain ⟨⟨d, k⟩, g1, e1, h⟩ := bnd_some h
  cases h
  refine PS.wp (ps_ret pe_wp) (he M₀ H₀ own ρ σ H g d k _ _ R B e1 fun v H1 x1 B1 r1 => ?_)
  have R1 := R.move x1 B1.some
  exact q v H1 R1.ext B1 (r1.out R R1)
theorem ss_if {c : Expr} {s1 s2 : List Stmt} {fc : List Slot → M Bool} {f1 f2 : List Slot → M Fl} {pos : Pos} (hc : ST b cl X c fc) (h1 : SSs b cl X s1 f1) (h2 : SSs b cl X s2 f2) :
    SS b cl X (.If c s1 s2 pos) (fun ρ => bnd (fc ρ) fun t => if t then f1 ρ else f2 ρ) := fun M₀ H₀ own ρ σ H g l g' Z R B h q => by
  obtain ⟨t, g1, e1, h⟩ := bnd_some h
  refine PS.wp (ps_if pt_wp pss_wp pss_wp) (hc M₀ H₀ own ρ σ H g t g1 _ R B e1 fun H1 x1 B1 => ?_)
  have R1 := R.move x1 B1.some
  cases t with
  | true => exact h1 M₀ H₀ own ρ σ H1 g1 l g' Z R1 B1 h (q.ahead (R.sub x1))
  | false => exact h2 M₀ H₀ own ρ σ H1 g1 l g' Z R1 B1 h (q.ahead (R.sub x1))
/-! ### name = value -/
def SAsg (b : Addr) (cl : Cls) (X : Cx) (e : Expr) (f : List Slot → M (D × Kd)) : Prop := ∀ (y : Str) (i : Nat) (py pos : Pos), Nm X y i → ∀ (M₀ : Addr → Prop) (H₀ : Hp) (own : Nat → Addr) (ρ : List Slot) (σ : L2.St) (H : Hp) (g : Bag) (d : D) (k : Kd) (g' : Bag) (Z : Ends),
  Rel (gx X b cl) M₀ H₀ own ρ σ H → BagAt (gx X b cl) H g → f ρ g = some ((d, k), g') → (∀ v H', Ext b H H' → BagAt (gx X b cl) H' g' → RV (gx X b cl) M₀ own ρ H H' v d k → Z.nx (σ.set i (some v)) H') → wpS X (.Assign [.Name y py] e pos) Z σ H
theorem asg_plain {e : Expr} {f : List Slot → M (D × Kd)} (nd : X.N.Nodup) (he : SE b cl X e f) (hc : isComp e = false) : SAsg b cl X e f := fun y i py pos n M₀ H₀ own ρ σ H g d k g' Z R B h q =>
  PS.wp (ps_set nd n.at_ n.loc pe_wp (swaps_no hc) n.fn) (he M₀ H₀ own ρ σ H g d k g' _ R B h q)
theorem sw_is {elt : Expr} {gs : List Comprehension} {scope : Scope} {pos py : Pos} {y : Str} {l : Nat} {env : Env} (hk : env.scope.kind = .function) : ∃ t : Bool, swapsWith (.ListComp elt gs scope pos) (some (.Name y py)) l env = pure t ∧ (t = true → env.scope.names.lookup y = some .local) := by
  refine ⟨_, rfl, fun h => ?_⟩
  rw [Bool.and_eq_true, Bool.and_eq_true, Bool.and_eq_true] at h
  have q := h.1.1.2
  exact eq_of_beq q
theorem asg_lc {elt tg iter : Expr} {ifs : List Expr} {scope : Scope} {own1 : List (Str × Nat)} {f : List Slot → M (D × Kd)} {cpos : Pos} {k0 : Nat} (cx : CxOk k0 X) (h : LcR b cl X elt tg iter ifs scope (own1.map (·.2)) f) (ok : BlkOk X.N X.env.scope scope own1) (hs : isSetD iter = false) :
    SAsg b cl X (.ListComp elt [⟨tg, iter, ifs, 0⟩] scope cpos) f := fun y i py pos n M₀ H₀ own ρ σ H g d k g' Z R B e q => by
  obtain ⟨tG, tT, tE, pG, pT, pE, r⟩ := h
  intro pins s I
  obtain ⟨t, ht, hl⟩ := sw_is (elt := elt) (gs := [⟨tg, iter, ifs, 0⟩]) (scope := scope) (pos := cpos) (py := py) (y := y) (l := pos.line) I.ok.kind
  have rd := r M₀ H₀ own ρ σ H g d k g' (fun v H' => Z.nx (σ.set i (some v)) H') R B e q
  cases t with
  | true => exact PS.wp (ps_setLc cx.calm cx.nd n.at_ (hl rfl) ht pi_wp ok pG pT pE (folded_no hs)) rd pins s I
  | false => exact PS.wp (ps_set cx.nd n.at_ n.loc (pe_lc cx.calm cx.nd pi_wp ok pG pT pE (folded_no hs)) ht n.fn) rd pins s I
theorem slotOf_eq {own? : Bool} {p : D × Kd} {s : Slot} {g g' : Bag} (h : slotOf own? p g = some (s, g')) : g = g' ∧ ((own? = true ∧ p.2 = .fresh ∧ s = .own p.1) ∨ (True ∧ p.2.ok = true ∧ s = .val p.1)) := by
  obtain ⟨d, k⟩ := p
  cases own? with
  | true =>
    cases k <;> first | (cases h; done) | skip
    · cases h
      exact ⟨rfl, .inr ⟨trivial, rfl, rfl⟩⟩
    · cases h
      exact ⟨rfl, .inl ⟨rfl, rfl, rfl⟩⟩
  | false =>
    obtain ⟨hk, h⟩ := guard_eq h
    cases h
    exact ⟨rfl, .inr ⟨trivial, hk, rfl⟩⟩
/-- the store of a value at a slot -/
theorem Rel.slot {G : Gx} {M₀ : Addr → Prop} {H₀ H H' : Hp} {own : Nat → Addr} {ρ : List Slot} {σ : L2.St} {own? : Bool} {p : D × Kd} {s : Slot} {g g' : Bag} {v : V} {i : Nat} (R : Rel G M₀ H₀ own ρ σ H) (x : Ext G.b H H') (nb : H' G.b ≠ none)
    (r : RV G M₀ own ρ H H' v p.1 p.2) (h : slotOf own? p g = some (s, g')) : ∃ own', Rel G M₀ H₀ own' (ρ.set i s) (σ.set i (some v)) H' ∧ Sub (vis (hid M₀ own ρ) H) (vis (hid M₀ own' (ρ.set i s)) H') := by
  obtain ⟨_, ⟨_, hk, rfl⟩ | ⟨_, hk, rfl⟩⟩ := slotOf_eq h
  · rw [hk] at r
    obtain ⟨q, o, rfl, hp, ho, c⟩ := r
    exact ⟨_, R.setOwn x nb hp ho c⟩
  · have R' := R.move x nb
    obtain ⟨r1, r2⟩ := R'.setVal (i := i) (r.ok R hk)
    exact ⟨own, r1, (R.sub x).trans r2⟩
theorem ss_set {e : Expr} {f : List Slot → M (D × Kd)} {y : Str} {i : Nat} {py pos : Pos} {own? : Bool} (he : SAsg b cl X e f) (n : Nm X y i) :
    SS b cl X (.Assign [.Name y py] e pos) (fun ρ => bnd (f ρ) fun p => bnd (slotOf own? p) fun s => ret (.nx (ρ.set i s))) := fun M₀ H₀ own ρ σ H g l g' Z R B h q => by
  obtain ⟨⟨d, k⟩, g1, e1, h⟩ := bnd_some h
  obtain ⟨s, g2, e2, h⟩ := bnd_some h
  have e3 := (slotOf_eq e2).1
  subst e3
  cases h
  refine he y i py pos n M₀ H₀ own ρ σ H g d k _ _ R B e1 fun v H1 x1 B1 r1 => ?_
  obtain ⟨own', R', s'⟩ := R.slot (i := i) x1 B1.some r1 e2
  exact q own' _ H1 R' B1 s'
/-! ### (a, b) = value -/
def notTup (e : Expr) : Bool := match e with
  | .Tuple .. => false
  | _ => true
/-- a name that is no plain local, or no name -/
def oddT (sc : Scope) (e : Expr) : Bool := match e with
  | .Name x _ => !decide (sc.names.lookup x = some .local)
  | _ => true
theorem sw_none {es vs : List Expr} {k1 k2 : Nat} {p1 p2 : Pos} {env : Env} (h : es.any (oddT env.scope) = true) : swappedStores [.Tuple es k1 p1] (.Tuple vs k2 p2) env = pure none := by
  have hl : ∀ (f : Expr → Option Str), (∀ e, oddT env.scope e = true → f e = none) → (es.filterMap f).length ≠ es.length := fun f hf z => by
    obtain ⟨e, he, ho⟩ := List.any_eq_true.mp h
    have go : ∀ es : List Expr, e ∈ es → (es.filterMap f).length < es.length := fun es => by
      induction es with
      | nil => intro h; cases h
      | cons a r ih =>
        intro h
        have le : (r.filterMap f).length ≤ r.length := List.length_filterMap_le f r
        rcases List.mem_cons.mp h with rfl | h
        · rw [List.filterMap_cons_none (hf _ ho), List.length_cons]
          omega
        · have := ih h
          rw [List.filterMap_cons]
          split
          · rw [List.length_cons]
            omega
          · rw [List.length_cons, List.length_cons]
            omega
    have := go es he
    omega
  unfold swappedStores
  dsimp only
  split
  · rfl
  split
  · rfl
  rw [if_pos]
  simp only [bne_iff_ne, ne_eq, Bool.or_eq_true]
  refine .inl (hl _ fun e ho => ?_)
  cases e <;> first | rfl | skip
  rename_i x p
  have ho' : env.kindOf x ≠ some .local := by
    have z : (!decide (env.scope.names.lookup x = some .local)) = true := ho
    have z2 : ¬ (env.scope.names.lookup x = some .local) := by simpa using z
    exact z2
  have hb : (env.kindOf x == some NameKind.local) = false := by
    cases hh : env.kindOf x with
    | none => rfl
    | some k =>
      rw [hh] at ho'
      cases k <;> first | rfl | exact absurd rfl ho'
  simp [hb]
theorem sw_tup {es : List Expr} {e : Expr} {k1 : Nat} {p1 : Pos} {env : Env} (h : (notTup e || es.any (oddT env.scope)) = true) : swappedStores [.Tuple es k1 p1] e env = pure none := by
  rw [Bool.or_eq_true] at h
  rcases h with h | h
  · cases e <;> first | rfl | cases h
  · cases e <;> first | rfl | exact sw_none h
theorem ss_unp {e : Expr} {f : List Slot → M (D × Kd)} {es : List Expr} {is : List Nat} {tk : Nat} {tp pos : Pos} {k0 : Nat} (cx : CxOk k0 X) (he : SE b cl X e f) (hn : Nms X es is) (hw : swappedStores [.Tuple es tk tp] e X.env = pure none) :
    SS b cl X (.Assign [.Tuple es tk tp] e pos) (fun ρ => bnd (f ρ) fun p => guard p.2.ok (bnd (opt (put ρ (.tup is) p.1)) fun ρ' => ret (.nx ρ'))) := fun M₀ H₀ own ρ σ H g l g' Z R B h q => by
  obtain ⟨⟨d, k⟩, g1, e1, h⟩ := bnd_some h
  obtain ⟨hk, h⟩ := guard_eq h
  obtain ⟨ρ', g2, e2, h⟩ := bnd_some h
  have e3 := (opt_eq e2).1
  have e4 := (opt_eq e2).2
  subst e4
  cases h
  refine PS.wp (ps_asg pe_wp pg_wp (by cases e <;> rfl) hw rfl) (he M₀ H₀ own ρ σ H g d k _ _ R B e1 fun v H1 x1 B1 r1 => ?_)
  have R1 := R.move x1 B1.some
  exact sg_tup cx.calm cx.nd hn M₀ H₀ own ρ σ H1 v d ρ' _ R1 (r1.ok R hk) e3 fun σ' R' hh _ _ => q own σ' H1 R' B1 (by rw [hh]; exact R.sub x1)
end
end Ev
set_option Elab.async false
set_option linter.all false
set_option autoImplicit false
/-! Ev14: pairs stored, lists changed, loops. -/
namespace Ev
open PySem PySem.Spec PyProof.Rows L2 M
theorem sw_two {x y : Str} {a c : Expr} {px py pt pt2 : Pos} {kt k2 : Nat} {env : Env} (hk : env.scope.kind = .function) (hx : env.scope.names.lookup x = some .local) (hy : env.scope.names.lookup y = some .local) (hl : (py.line == px.line) = true) (hne : (x == y) = false)
    (ha : isStar a = false) (hc : isStar c = false) (hf : (foldedForSure 8 a && foldedForSure 8 c) = false) (hq : (constantsAlone 8 a && constantsAlone 8 c) = false) :
    swappedStores [.Tuple [.Name x px, .Name y py] kt pt] (.Tuple [a, c] k2 pt2) env = pure (some [x, y]) := by
  have hb : env.blockKind = .function := by
    unfold Env.blockKind
    rw [hk]
    rfl
  have kx : env.kindOf x = some .local := hx
  have ky : env.kindOf y = some .local := hy
  have hl' : py.line = px.line := eq_of_beq hl
  have hf' : ([a, c].all (foldedForSure 8)) = false := by
    simp only [List.all_cons, List.all_nil, Bool.and_true]
    exact hf
  have hq' : ([a, c].all (constantsAlone 8)) = false := by
    simp only [List.all_cons, List.all_nil, Bool.and_true]
    exact hq
  have hn : y ≠ x := fun z => by
    rw [z] at hne
    simp at hne
  unfold swappedStores
  simp [hb, kx, ky, hl', hf', hq', Expr.pos, List.eraseDups_cons, hn]
  intro h
  rcases h with h | h
  · cases a <;> first | (cases h; done) | (cases ha; done)
  · cases c <;> first | (cases h; done) | (cases hc; done)
section
variable {X : Cx} {b : Addr} {cl : Cls}
theorem second_store {G : Gx} {M₀ M₁ : Addr → Prop} {H₀ H1 H2 : Hp} {own own1 : Nat → Addr} {ρ ρ1 : List Slot} {σ σ1 : L2.St} {oj : Bool} {p : D × Kd} {t : Slot} {g g' : Bag} {w : V} {j : Nat} (R' : Rel G M₁ H₀ own ρ σ H1) (R1 : Rel G M₀ H₀ own1 ρ1 σ1 H1) (x : Ext G.b H1 H2) (nb : H2 G.b ≠ none)
    (hM : ∀ a, hid M₀ own1 ρ1 a → hid M₁ own ρ a) (r : RV G M₁ own ρ H1 H2 w p.1 p.2) (h : slotOf oj p g = some (t, g')) : ∃ own2, Rel G M₀ H₀ own2 (ρ1.set j t) (σ1.set j (some w)) H2 ∧ Sub (vis (hid M₀ own1 ρ1) H1) (vis (hid M₀ own2 (ρ1.set j t)) H2) := by
  obtain ⟨_, ⟨_, hk, rfl⟩ | ⟨_, hk, rfl⟩⟩ := slotOf_eq h
  · rw [hk] at r
    obtain ⟨q, o, rfl, hp, ho, c⟩ := r
    exact ⟨_, R1.setOwn x nb hp ho (c.mono (vis_less fun a z => z.elim (fun z => .inl (hM a z)) .inr))⟩
  · have R2 := R1.move x nb
    obtain ⟨r1, r2⟩ := R2.setVal (i := j) ((r.ok R' hk).mono (vis_less hM))
    exact ⟨own1, r1, (R1.sub x).trans r2⟩
/-- a, b = x, y: both values are there before one is stored -/
theorem ss_set2 {a c : Expr} {fa fc : List Slot → M (D × Kd)} {x y : Str} {i j : Nat} {px py pt pt2 pos : Pos} {kt k2 : Nat} {oi oj : Bool} {k0 : Nat} (cx : CxOk k0 X) (ha : SE b cl X a fa) (hc : SE b cl X c fc) (nx : Nm X x i) (ny : Nm X y j) (hij : i ≠ j)
    (lx : X.env.scope.names.lookup x = some .local) (ly : X.env.scope.names.lookup y = some .local) (hl : (py.line == px.line) = true) (hne : (x == y) = false) (sa : isStar a = false) (sc : isStar c = false)
    (hf : (foldedForSure 8 a && foldedForSure 8 c) = false) (hq : (constantsAlone 8 a && constantsAlone 8 c) = false) :
    SS b cl X (.Assign [.Tuple [.Name x px, .Name y py] kt pt] (.Tuple [a, c] k2 pt2) pos) (fun ρ => bnd (fa ρ) fun p => bnd (fc ρ) fun q => bnd (slotOf oi p) fun s => bnd (slotOf oj q) fun t => ret (.nx ((ρ.set i s).set j t))) := fun M₀ H₀ own ρ σ H g l g' Z R B h q => by
  obtain ⟨⟨d, k⟩, g1, e1, h⟩ := bnd_some h
  obtain ⟨⟨d2, k2'⟩, g2, e2, h⟩ := bnd_some h
  obtain ⟨s, g3, e3, h⟩ := bnd_some h
  obtain ⟨t, g4, e4, h⟩ := bnd_some h
  have z3 := (slotOf_eq e3).1
  have z4 := (slotOf_eq e4).1
  subst z3 z4
  cases h
  intro pins sh I
  refine PS.wp (ps_par cx.calm cx.nd nx.at_ ny.at_ hij lx ly (pa_cons pe_wp (pa_cons pe_wp pa_nil (star_no sc _ _)) (star_no sa _ _)) (sw_two I.ok.kind lx ly hl hne sa sc hf hq)) ?_ pins sh I
  refine ha M₀ H₀ own ρ σ H g d k g1 _ R B e1 fun vx H1 x1 B1 r1 => ?_
  have R1 := R.move x1 B1.some
  obtain ⟨_, ⟨_, hk, rfl⟩ | ⟨_, hk, rfl⟩⟩ := slotOf_eq e3
  · dsimp only at hk
    subst hk
    obtain ⟨p, o, rfl, hp, ho, cc⟩ := r1
    obtain ⟨RM, hm⟩ := R.more hp x1 (by rw [ho]; exact Option.some_ne_none _) B1.some
    obtain ⟨Q1, s1⟩ := R.setOwn (i := i) x1 B1.some hp ho cc
    refine hc _ H₀ own ρ σ H1 g1 d2 k2' _ _ RM B1 e2 fun vy H2 x2 B2 r2 => ⟨_, _, rfl, ?_⟩
    obtain ⟨own2, Q2, s2⟩ := second_store (j := j) RM Q1 x2 B2.some (fun a z => (hm a).mpr (by
      rcases z with z | ⟨n, e, h, w⟩
      · exact .inl (.inl z)
      · by_cases q : n = i
        · rw [ownAt_eq q] at w
          exact .inr w.symm
        · rw [ownAt_ne q] at w
          rw [List.getElem?_set_ne fun w => q w.symm] at h
          exact .inl (.inr ⟨n, e, h, w⟩))) r2 e4
    exact q own2 _ H2 Q2 B2 (s1.trans s2)
  · obtain ⟨Q1, s1⟩ := R1.setVal (i := i) (r1.ok R hk)
    refine hc M₀ H₀ own ρ σ H1 g1 d2 k2' _ _ R1 B1 e2 fun vy H2 x2 B2 r2 => ⟨_, _, rfl, ?_⟩
    obtain ⟨own2, Q2, s2⟩ := second_store (j := j) R1 Q1 x2 B2.some (fun a z => hid_less (fun _ w => by cases w) z) r2 e4
    exact q own2 _ H2 Q2 B2 (((R.sub x1).trans s1).trans s2)
/-- one more value of several that are stored together -/
theorem next_store {G : Gx} {M₀ M₁ : Addr → Prop} {H₀ H1 H2 : Hp} {own own1 : Nat → Addr} {ρ ρ1 : List Slot} {σ σ1 : L2.St} {oj : Bool} {p : D × Kd} {t : Slot} {g g' : Bag} {w : V} {j : Nat} (R' : Rel G M₁ H₀ own ρ σ H1) (R1 : Rel G M₀ H₀ own1 ρ1 σ1 H1) (x : Ext G.b H1 H2) (nb : H2 G.b ≠ none)
    (hM : ∀ a, hid M₀ own1 ρ1 a → hid M₁ own ρ a) (r : RV G M₁ own ρ H1 H2 w p.1 p.2) (h : slotOf oj p g = some (t, g')) : ∃ M₂ own2, Rel G M₂ H₀ own ρ σ H2 ∧ Rel G M₀ H₀ own2 (ρ1.set j t) (σ1.set j (some w)) H2 ∧ (∀ a, hid M₀ own2 (ρ1.set j t) a → hid M₂ own ρ a) ∧
      Sub (vis (hid M₀ own1 ρ1) H1) (vis (hid M₀ own2 (ρ1.set j t)) H2) := by
  obtain ⟨_, ⟨_, hk, rfl⟩ | ⟨_, hk, rfl⟩⟩ := slotOf_eq h
  · rw [hk] at r
    obtain ⟨q, o, rfl, hp, ho, c⟩ := r
    obtain ⟨RM, hm⟩ := R'.more hp x (by rw [ho]; exact Option.some_ne_none _) nb
    obtain ⟨Q1, s1⟩ := R1.setOwn (i := j) x nb hp ho (c.mono (vis_less fun a z => z.elim (fun z => .inl (hM a z)) .inr))
    refine ⟨_, _, RM, Q1, fun a z => (hm a).mpr ?_, s1⟩
    rcases z with z | ⟨n, e, h, w⟩
    · exact .inl (hM a (.inl z))
    · by_cases q : n = j
      · rw [ownAt_eq q] at w
        exact .inr w.symm
      · rw [ownAt_ne q] at w
        rw [List.getElem?_set_ne fun w => q w.symm] at h
        exact .inl (hM a (.inr ⟨n, e, h, w⟩))
  · have R2 := R1.move x nb
    obtain ⟨r1, r2⟩ := R2.setVal (i := j) ((r.ok R' hk).mono (vis_less hM))
    exact ⟨M₁, own1, R'.move x nb, r1, fun a z => hM a (hid_less (fun _ w => by cases w) z), (R1.sub x).trans r2⟩
theorem sw_three {x y z : Str} {a c d : Expr} {px py pz pt pt2 : Pos} {kt k2 : Nat} {env : Env} (hk : env.scope.kind = .function) (hx : env.scope.names.lookup x = some .local) (hy : env.scope.names.lookup y = some .local) (hz : env.scope.names.lookup z = some .local) (hl : (py.line == px.line) = true) (hl2 : (pz.line == px.line) = true) (hne : (x == y) = false) (hne2 : (x == z) = false) (hne3 : (y == z) = false)
    (ha : isStar a = false) (hc : isStar c = false) (hd : isStar d = false) (hf : (foldedForSure 8 a && (foldedForSure 8 c && foldedForSure 8 d)) = false) (hq : (constantsAlone 8 a && (constantsAlone 8 c && constantsAlone 8 d)) = false) :
    swappedStores [.Tuple [.Name x px, .Name y py, .Name z pz] kt pt] (.Tuple [a, c, d] k2 pt2) env = pure (some [x, y, z]) := by
  have hb : env.blockKind = .function := by
    unfold Env.blockKind
    rw [hk]
    rfl
  have kx : env.kindOf x = some .local := hx
  have ky : env.kindOf y = some .local := hy
  have kz : env.kindOf z = some .local := hz
  have hl' : py.line = px.line := eq_of_beq hl
  have hl2' : pz.line = px.line := eq_of_beq hl2
  have hf' : ([a, c, d].all (foldedForSure 8)) = false := by
    simp only [List.all_cons, List.all_nil, Bool.and_true]
    exact hf
  have hq' : ([a, c, d].all (constantsAlone 8)) = false := by
    simp only [List.all_cons, List.all_nil, Bool.and_true]
    exact hq
  have hn : y ≠ x := fun w => by
    rw [w] at hne
    simp at hne
  have hn2 : z ≠ x := fun w => by
    rw [w] at hne2
    simp at hne2
  have hn3 : z ≠ y := fun w => by
    rw [w] at hne3
    simp at hne3
  unfold swappedStores
  simp [hb, kx, ky, kz, hl', hl2', hf', hq', Expr.pos, List.eraseDups_cons, hn, hn2, hn3]
  intro h
  rcases h with h | h | h
  · cases a <;> first | (cases h; done) | (cases ha; done)
  · cases c <;> first | (cases h; done) | (cases hc; done)
  · cases d <;> first | (cases h; done) | (cases hd; done)
/-- a, b, c = x, y, z -/
theorem ss_set3 {a c e : Expr} {fa fc fe : List Slot → M (D × Kd)} {x y z : Str} {i j m : Nat} {px py pz pt pt2 pos : Pos} {kt k2 : Nat} {oi oj om : Bool} {k0 : Nat} (cx : CxOk k0 X) (ha : SE b cl X a fa) (hc : SE b cl X c fc) (he : SE b cl X e fe) (nx : Nm X x i) (ny : Nm X y j) (nz : Nm X z m) (hij : i ≠ j) (him : i ≠ m) (hjm : j ≠ m)
    (lx : X.env.scope.names.lookup x = some .local) (ly : X.env.scope.names.lookup y = some .local) (lz : X.env.scope.names.lookup z = some .local) (hl : (py.line == px.line) = true) (hl2 : (pz.line == px.line) = true) (hne : (x == y) = false) (hne2 : (x == z) = false) (hne3 : (y == z) = false) (sa : isStar a = false) (sc : isStar c = false) (se : isStar e = false)
    (hf : (foldedForSure 8 a && (foldedForSure 8 c && foldedForSure 8 e)) = false) (hq : (constantsAlone 8 a && (constantsAlone 8 c && constantsAlone 8 e)) = false) :
    SS b cl X (.Assign [.Tuple [.Name x px, .Name y py, .Name z pz] kt pt] (.Tuple [a, c, e] k2 pt2) pos) (fun ρ => bnd (fa ρ) fun p => bnd (fc ρ) fun q => bnd (fe ρ) fun r => bnd (slotOf oi p) fun s => bnd (slotOf oj q) fun t => bnd (slotOf om r) fun u => ret (.nx (((ρ.set i s).set j t).set m u))) := fun M₀ H₀ own ρ σ H g l g' Z R B h q => by
  obtain ⟨⟨d, k⟩, g1, e1, h⟩ := bnd_some h
  obtain ⟨⟨d2, k2'⟩, g2, e2, h⟩ := bnd_some h
  obtain ⟨⟨d3, k3'⟩, g3, e3, h⟩ := bnd_some h
  obtain ⟨s, g4, f1, h⟩ := bnd_some h
  obtain ⟨t, g5, f2, h⟩ := bnd_some h
  obtain ⟨u, g6, f3, h⟩ := bnd_some h
  have z1 := (slotOf_eq f1).1
  have z2 := (slotOf_eq f2).1
  have z3 := (slotOf_eq f3).1
  subst z1 z2 z3
  cases h
  intro pins sh I
  refine PS.wp (ps_par3 cx.calm cx.nd nx.at_ ny.at_ nz.at_ hij him hjm lx ly lz (pa_cons pe_wp (pa_cons pe_wp (pa_cons pe_wp pa_nil (star_no se _ _)) (star_no sc _ _)) (star_no sa _ _)) (sw_three I.ok.kind lx ly lz hl hl2 hne hne2 hne3 sa sc se hf hq)) ?_ pins sh I
  refine ha M₀ H₀ own ρ σ H g d k g1 _ R B e1 fun vx H1 x1 B1 r1 => ?_
  obtain ⟨M1, own1, P1, Q1, m1, s1⟩ := next_store (j := i) R R x1 B1.some (fun _ w => w) r1 f1
  refine hc M1 H₀ own ρ σ H1 g1 d2 k2' g2 _ P1 B1 e2 fun vy H2 x2 B2 r2 => ?_
  obtain ⟨M2, own2, P2, Q2, m2, s2⟩ := next_store (j := j) P1 Q1 x2 B2.some m1 r2 f2
  refine he M2 H₀ own ρ σ H2 g2 d3 k3' _ _ P2 B2 e3 fun vz H3 x3 B3 r3 => ⟨_, _, _, rfl, ?_⟩
  obtain ⟨M3, own3, P3, Q3, m3, s3⟩ := next_store (j := m) P2 Q2 x3 B3.some m2 r3 f3
  exact q own3 _ H3 Q3 B3 ((s1.trans s2).trans s3)
/-- x += e, x -= e -/
theorem ss_aug {e : Expr} {f : List Slot → M (D × Kd)} {x : Str} {i : Nat} {px pos : Pos} {neg : Bool} {k0 : Nat} (cx : CxOk k0 X) (he : SE b cl X e f) (n : Nm X x i) :
    SS b cl X (.AugAssign (.Name x px) (if neg then .Sub else .Add) e pos) (fun ρ => bnd (varM i ρ) fun q => bnd (intM q.1) fun x => bnd (f ρ) fun p => bnd (intM p.1) fun y => ret (.nx (ρ.set i (.val (.int (if neg then x - y else x + y)))))) := fun M₀ H₀ own ρ σ H g l g' Z R B h q => by
  obtain ⟨⟨d0, k0'⟩, g0, e0, h⟩ := bnd_some h
  obtain ⟨x0, g1, e1, h⟩ := bnd_some h
  obtain ⟨⟨d2, k2⟩, g2, e2, h⟩ := bnd_some h
  obtain ⟨y0, g3, e3, h⟩ := bnd_some h
  cases h
  obtain ⟨hi, rfl⟩ := intM_eq e1
  obtain ⟨hj, rfl⟩ := intM_eq e3
  dsimp only at hi hj
  subst hi hj
  obtain ⟨ev, rfl⟩ : ρ[i]? = some (.val (.int x0)) ∧ g = g0 := by
    unfold varM at e0
    cases w : ρ[i]? with
    | none =>
      rw [w] at e0
      cases e0
    | some sl =>
      rw [w] at e0
      cases sl with
      | no => cases e0
      | val d =>
        cases e0
        exact ⟨rfl, rfl⟩
      | own d =>
        cases e0
        obtain ⟨_, _, _, o, _, c⟩ := R.ow i _ w
        cases c
  obtain ⟨v, s1, r1⟩ := R.vl i _ ev
  cases r1
  have fin : ∀ z : Int, z = (if neg then x0 - y0 else x0 + y0) → PIp X (if neg then .Sub else .Add) (ipI fun i j => if neg then i - j else i + j) := fun _ _ => by
    cases neg with
    | true => exact ip_sub
    | false => exact ip_add
  refine PS.wp (ps_aug cx.nd n.at_ n.loc pe_wp (fin _ rfl) n.fn) ⟨_, s1, ?_⟩
  refine he M₀ H₀ own ρ σ H _ _ _ _ _ R B e2 fun w H1 x1 B1 r2 => ?_
  have R1 := R.move x1 B1.some
  cases RV.any R R1 r2
  refine ⟨_, _, rfl, rfl, ?_⟩
  obtain ⟨Q1, sb⟩ := R1.setVal (i := i) (v := .int (if neg then x0 - y0 else x0 + y0)) (d := .int (if neg then x0 - y0 else x0 + y0)) (.int _)
  exact q own _ H1 Q1 B1 ((R.sub x1).trans sb)
/-! ### a list of one's own is changed -/
def Mt.id : Mt → String
  | .append => "list.append"
  | .insert => "list.insert"
  | .clear => "list.clear"
def Mt.nm : Mt → Str
  | .append => "append"
  | .insert => "insert"
  | .clear => "clear"
theorem mt_slot (m : Mt) : PySem.Slot "list" m.nm m.id ∧ typeOf (.builtin m.id) = pure (.type "method_descriptor") := by
  cases m with
  | append => exact ⟨PySem.F.slot_list_append, PySem.F.type_list_append⟩
  | insert => exact ⟨PySem.F.slot_list_insert, PySem.F.type_list_insert⟩
  | clear => exact ⟨PySem.F.slot_list_clear, PySem.F.type_list_clear⟩
def rM (X : Cx) (id : String) : V → List V → Hp → VK → Prop := fun x xs H Q => ∀ (pins : List (Addr × Obj)) (s : Shared) (σ : L2.St) (v : Value) (us : List Value), Inv X pins σ H s → RelV x v → Vals xs us → wpAny (model X.prog X.w) X.A (call (.builtin id) (v :: us)) (EP X pins σ Q) X.xe s
theorem mt_rM (id : String) : MtR X id (rM X id) := fun pins s σ H x xs v us Q I rx rs h => h pins s σ v us I rx rs
theorem mtRm {id : String} {r : V → List V → Hp → VK → Prop} (h : MtR X id r) {x : V} {xs : List V} {H : Hp} {Q : VK} (q : r x xs H Q) : rM X id x xs H Q := fun pins s σ v us I rx rs => h pins s σ H x xs v us Q I rx rs q
theorem mut_ok (m : Mt) {G : Gx} {Hv H : Hp} {l : Addr} {xs vs : List V} {es ds : List D} {d' : D} (hl : H l = some (.lst xs)) (rx : Reps G Hv xs es) (rv : Reps G Hv vs ds) (h : mutD m (.lst es) ds = some d') :
    ∃ ys, Cell G Hv (.lst ys) d' ∧ ∀ Q : VK, Q .non (upd H l (.lst ys)) → rM X m.id (.ref l) vs H Q := by
  unfold mutD at h
  split at h
  · rename_i xs' y heq
    cases heq
    split at h
    · rename_i hz
      cases h
      cases rv with
      | cons r t =>
        cases t
        exact ⟨_, .lst (rx.append (.cons r .nil)), fun Q q => mtRm (X := X) mt_append ⟨l, xs, _, rfl, rfl, hl, by rw [rx.length]; exact hz, q⟩⟩
    · cases h
  · rename_i xs' i y heq
    cases heq
    split at h
    · rename_i hz
      cases h
      cases rv with
      | cons r t =>
        cases t with
        | cons r2 t =>
          cases t
          cases r
          exact ⟨_, .lst (((rx.take _).append (.cons r2 .nil)).append (rx.drop _)), fun Q q => mtRm (X := X) mt_insert ⟨l, xs, _, _, rfl, rfl, hl, by rw [rx.length]; exact hz.1, hz.2.1, hz.2.2, q⟩⟩
    · cases h
  · rename_i xs' heq
    cases heq
    cases h
    cases rv
    exact ⟨[], .lst .nil, fun Q q => mtRm (X := X) mt_clear ⟨l, xs, rfl, rfl, hl, q⟩⟩
  · cases h
theorem few_args {e : Expr} {es : List Expr} {cpos : Pos} (h : ((e :: es).all fun e => !isStar e) = true) (hl : es.length < 20) : ((backTo cpos (starEach (e :: es) X.env)).all (fun x => !x.1) && (backToKw cpos (keywordEach [] X.env)).all (fun x => x.1.isSome)
      && decide ((e :: es).length + ([] : List Keyword).length + (if ([] : List Keyword).isEmpty then 0 else 1) < 30)) = true := by
  have h1 : ∀ (es : List Expr), (es.all fun e => !isStar e) = true → (backTo cpos (starEach es X.env)).all (fun x => !x.1) = true := by
    intro es
    induction es with
    | nil => intro _; rfl
    | cons a r ih =>
      intro h
      rw [List.all_cons, Bool.and_eq_true] at h
      rw [star_no (by simpa using h.1)]
      exact ih h.2
  rw [h1 _ h]
  simp only [Bool.true_and, Bool.and_eq_true]
  refine ⟨rfl, decide_eq_true ?_⟩
  simp only [List.length_cons, List.length_nil, List.isEmpty_nil, if_true]
  omega
theorem mutD_ins {m : Mt} {c : Nat} {fs ds : List D} {d' : D} (h : mutD m (.ins c fs) ds = some d') : False := by
  unfold mutD at h
  split at h
  all_goals first | (rename_i heq; cases heq; done) | (rename_i heq _; cases heq; done) | (cases h; done) | skip
theorem ss_mut {x : Str} {i : Nat} {m : Mt} {e : Expr} {es : List Expr} {f : List Slot → M (List D × Bool)} {px apos cpos pos : Pos} (hN : X.N[i]? = some x) (hv : Vis X.env.scope x) (hd : (x == ("__debug__" : Str)) = false) (hc : (x == ("__classdict__" : Str)) = false)
    (ha : SA b cl X (e :: es) f) (hs : ((e :: es).all fun e => !isStar e) = true) (hl : es.length < 20) (hline : (apos.endLine == cpos.line) = true) :
    SS b cl X (.Expr (.Call (.Attribute (.Name x px) m.nm apos) (e :: es) [] cpos) pos) (fun ρ => match ρ[i]? with
    | some (.own d) => bnd (f ρ) fun q => guard q.2 (bnd (opt (mutD m d q.1)) fun d' => ret (.nx (ρ.set i (.own d'))))
    | _ => fail) := fun M₀ H₀ own ρ σ H g l g' Z R B h q => by
  dsimp only at h
  cases e0 : ρ[i]? with
  | none =>
    rw [e0] at h
    cases h
  | some sl =>
    rw [e0] at h
    cases sl with
    | no => cases h
    | val _ => cases h
    | own d =>
      obtain ⟨⟨ds, ok⟩, g1, e1, h⟩ := bnd_some h
      obtain ⟨hk, h⟩ := guard_eq h
      obtain ⟨d', g2, e2, h⟩ := bnd_some h
      have e3 := (opt_eq e2).1
      have e4 := (opt_eq e2).2
      subst e4
      cases h
      obtain ⟨w1, w2, w3, o, w4, w5⟩ := R.ow i d e0
      rw [List.all_cons, Bool.and_eq_true] at hs
      obtain ⟨sl1, sl2⟩ := mt_slot m
      refine PS.wp (ps_expr (pe_bm PySem.F.plainAttrs_list sl1 sl2 (mt_rM m.id) (pe_var hN hv hd hc) pa_wp rfl (few_args (by rw [List.all_cons, Bool.and_eq_true]; exact hs) hl) hline (star_no (by simpa using hs.1) _ _) (stars_no hs.2))) ?_
      refine ⟨.ref (own i), w1, ?_, ?_⟩
      · cases w5 with
        | lst r => exact .inl ⟨rfl, _, .of w4⟩
        | ins _ _ _ => exact (mutD_ins e3).elim
      · refine ha M₀ H₀ own ρ σ H g ds ok _ _ R B e1 fun vs H1 x1 B1 r1 => ?_
        have R1 := R.move x1 B1.some
        obtain ⟨u1, u2, u3, o1, u4, u5⟩ := R1.ow i d e0
        cases u5 with
        | lst r =>
          obtain ⟨ys, c, go⟩ := mut_ok (X := X) m u4 r (r1.2 hk) e3
          obtain ⟨Q1, s1⟩ := R1.mut e0 c
          exact go _ (q own σ _ Q1 (bag_mut B1 R1 e0) ((R.sub x1).trans s1))
        | ins _ _ _ => exact (mutD_ins e3).elim
theorem ss_mut0 {x : Str} {i : Nat} {m : Mt} {px apos cpos pos : Pos} (hN : X.N[i]? = some x) (hv : Vis X.env.scope x) (hd : (x == ("__debug__" : Str)) = false) (hc : (x == ("__classdict__" : Str)) = false) (hline : (apos.endLine == cpos.line) = true) :
    SS b cl X (.Expr (.Call (.Attribute (.Name x px) m.nm apos) [] [] cpos) pos) (fun ρ => match ρ[i]? with
    | some (.own d) => bnd (ret (([] : List D), true)) fun q => guard q.2 (bnd (opt (mutD m d q.1)) fun d' => ret (.nx (ρ.set i (.own d'))))
    | _ => fail) := fun M₀ H₀ own ρ σ H g l g' Z R B h q => by
  dsimp only at h
  cases e0 : ρ[i]? with
  | none =>
    rw [e0] at h
    cases h
  | some sl =>
    rw [e0] at h
    cases sl with
    | no => cases h
    | val _ => cases h
    | own d =>
      obtain ⟨⟨ds, ok⟩, g1, e1, h⟩ := bnd_some h
      cases e1
      obtain ⟨hk, h⟩ := guard_eq h
      obtain ⟨d', g2, e2, h⟩ := bnd_some h
      have e3 := (opt_eq e2).1
      have e4 := (opt_eq e2).2
      subst e4
      cases h
      obtain ⟨w1, w2, w3, o, w4, w5⟩ := R.ow i d e0
      obtain ⟨sl1, sl2⟩ := mt_slot m
      refine PS.wp (ps_expr (pe_bm0 PySem.F.plainAttrs_list sl1 sl2 (mt_rM m.id) (pe_var hN hv hd hc) rfl hline)) ?_
      cases w5 with
      | lst r =>
        refine ⟨.ref (own i), w1, .inl ⟨rfl, _, .of w4⟩, ?_⟩
        obtain ⟨ys, c, go⟩ := mut_ok (X := X) m w4 r .nil e3
        obtain ⟨Q1, s1⟩ := R.mut e0 c
        exact go _ (q own σ _ Q1 (bag_mut B R e0) s1)
      | ins _ _ _ => exact (mutD_ins e3).elim
/-- x.extend(a new list) -/
theorem ss_ext {x : Str} {i : Nat} {e : Expr} {f : List Slot → M (D × Kd)} {px apos cpos pos : Pos} (hN : X.N[i]? = some x) (hv : Vis X.env.scope x) (hd : (x == ("__debug__" : Str)) = false) (hc : (x == ("__classdict__" : Str)) = false)
    (he : SE b cl X e f) (hs : isStar e = false) (hline : (apos.endLine == cpos.line) = true) :
    SS b cl X (.Expr (.Call (.Attribute (.Name x px) "extend" apos) [e] [] cpos) pos) (fun ρ => match ρ[i]? with
    | some (.own (.lst xs)) => bnd (f ρ) fun p => match p with
      | (.lst ys, .fresh) => guard (decide (xs.length + ys.length ≤ sizeLine)) (ret (.nx (ρ.set i (.own (.lst (xs ++ ys))))))
      | _ => fail
    | _ => fail) := fun M₀ H₀ own ρ σ H g l g' Z R B h q => by
  dsimp only at h
  cases e0 : ρ[i]? with
  | none =>
    rw [e0] at h
    cases h
  | some sl =>
    rw [e0] at h
    cases sl with
    | no => cases h
    | val _ => cases h
    | own d =>
      cases d <;> first | (cases h; done) | skip
      rename_i xs
      obtain ⟨⟨d, k⟩, g1, e1, h⟩ := bnd_some h
      cases d <;> first | (cases h; done) | skip
      rename_i ys
      cases k <;> first | (cases h; done) | skip
      obtain ⟨hz, h⟩ := guard_eq h
      cases h
      obtain ⟨w1, w2, w3, o, w4, w5⟩ := R.ow i _ e0
      have hss : ([e].all fun e => !isStar e) = true := by simp [hs]
      refine PS.wp (ps_expr (pe_bm PySem.F.plainAttrs_list PySem.F.slot_list_extend PySem.F.type_list_extend (mt_rM "list.extend") (pe_var hN hv hd hc) (pa_cons pe_wp pa_nil (star_no hs _ _)) rfl (few_args hss (by decide)) hline (star_no hs _ _) rfl)) ?_
      refine ⟨.ref (own i), w1, ?_, ?_⟩
      · cases w5 with
        | lst r => exact .inl ⟨rfl, _, .of w4⟩
      · refine he M₀ H₀ own ρ σ H g _ _ _ _ R B e1 fun v H1 x1 B1 r1 => ?_
        have R1 := R.move x1 B1.some
        obtain ⟨u1, u2, u3, o1, u4, u5⟩ := R1.ow i _ e0
        obtain ⟨p, vs, rfl, s1, k1, _⟩ := RV.nd_lst R R1 r1 rfl
        cases u5 with
        | lst r =>
          obtain ⟨Q1, s2⟩ := R1.mut e0 (.lst (r.append k1))
          exact mtRm (X := X) mt_extend ⟨own i, p, _, vs, rfl, rfl, u4, s1, by rw [r.length, k1.length]; exact of_decide_eq_true hz, q own σ _ Q1 (bag_mut B1 R1 e0) ((R.sub x1).trans s2)⟩
end
end Ev
set_option Elab.async false
set_option linter.all false
set_option autoImplicit false
/-! Ev15: loops; a def's body. -/
namespace Ev
open PySem PySem.Spec PyProof.Rows L2 M
section
variable {X : Cx} {b : Addr} {cl : Cls}
theorem ss_for {tg iter : Expr} {body : List Stmt} {gt : Tg} {fit : List Slot → M (List D)} {fb : List Slot → M Fl} {pos : Pos} {k0 : Nat} (cx : CxOk k0 X) (hp : PassesOwn (model X.prog X.w) X.A X.env X.xe) (hi : SI b cl X tg iter false fit) (hg : SG b cl X tg gt) (hb : SSs b cl X body fb) (hs : isSetD iter = false) :
    SS b cl X (.For tg iter body [] pos) (fun ρ => bnd (fit ρ) fun xs => forM (fun x ρ => bnd (opt (put ρ gt x)) fun ρ' => fb ρ') xs ρ) := fun M₀ H₀ own ρ σ H g l g' Z R B h q => by
  obtain ⟨xs, g1, e1, h⟩ := bnd_some h
  refine PS.wp (ps_for hp cx.calm pi_wp pg_wp pss_wp (folded_no hs)) (hi M₀ H₀ own ρ σ H g xs g1 _ R B e1 fun J H1 x1 B1 wk => ?_)
  have R1 := R.move x1 B1.some
  obtain ⟨vs, es, F, W, rs, _, pv, hlen⟩ := wk
  have q1 : PostS (gx X b cl) M₀ H₀ own ρ H1 g' Z l := q.ahead (R.sub x1)
  refine ⟨fun i m σc Hc => i + m = xs.length ∧ ∃ own' ρc gc, Rel (gx X b cl) M₀ H₀ own' ρc σc Hc ∧ BagAt (gx X b cl) Hc gc ∧ Sub (vis (hid M₀ own ρ) H1) (vis (hid M₀ own' ρc) Hc) ∧ forM (fun x ρ => bnd (opt (put ρ gt x)) fun ρ' => fb ρ') (xs.drop i) ρc gc = some (l, g'),
    ⟨xs.length, by omega, own, ρ, g1, R1, B1, Sub.refl _, h⟩, ?_⟩
  rintro i m σc Hc ⟨em, own', ρc, gc, Rc, Bc, sc, hr⟩
  have hF : F Hc := pv rfl _ Hc sc (vis_sub _ _)
  by_cases hi' : i < xs.length
  · refine .inr ⟨W.go i Hc hF hi', fun σ' H' => i + 1 + (m - 1) = xs.length ∧ ∃ own' ρc gc, Rel (gx X b cl) M₀ H₀ own' ρc σ' H' ∧ BagAt (gx X b cl) H' gc ∧ Sub (vis (hid M₀ own ρ) H1) (vis (hid M₀ own' ρc) H') ∧ forM (fun x ρ => bnd (opt (put ρ gt x)) fun ρ' => fb ρ') (xs.drop (i + 1)) ρc gc = some (l, g'),
      fun σ' H' z => ⟨m - 1, by omega, z⟩, fun x H2 hy => ?_⟩
    rw [List.drop_eq_getElem_cons hi', forM] at hr
    obtain ⟨l1, g2, e2, hr⟩ := bnd_some hr
    obtain ⟨ρ', g3, e3, e2⟩ := bnd_some e2
    have e4 := (opt_eq e3).1
    have e5 := (opt_eq e3).2
    subst e5
    obtain ⟨sub2, yr⟩ := W.yld i Hc x H2 xs[i] hF hy (List.getElem?_eq_getElem hi')
    have x2 : Ext b Hc H2 := Ext.of_sub sub2
    have B2 : BagAt (gx X b cl) H2 gc := by
      obtain ⟨w1, w2, w3⟩ := Bc.at_
      exact ⟨⟨w1, sub2 _ _ w2, sub2 _ _ w3⟩, Bc.ok⟩
    have R2 := Rc.move x2 B2.some
    have rx := yr (hid M₀ own' ρc) (fun a z => Rc.mdom z) (rs.mono sc)
    refine hg M₀ H₀ own' ρc σc H2 x xs[i] ρ' _ R2 rx e4 fun σ3 R3 hh _ _ => ?_
    have s3 : Sub (vis (hid M₀ own ρ) H1) (vis (hid M₀ own' ρ') H2) := by
      rw [hh]
      exact sc.trans (Rc.sub x2)
    refine hb M₀ H₀ own' ρ' σ3 H2 gc l1 g2 _ R3 B2 e2 ?_
    cases l1 with
    | nx ρ4 => exact fun own4 σ4 H4 R4 B4 s4 => ⟨by omega, own4, ρ4, g2, R4, B4, s3.trans s4, hr⟩
    | ct ρ4 => exact fun own4 σ4 H4 R4 B4 s4 => ⟨by omega, own4, ρ4, g2, R4, B4, s3.trans s4, hr⟩
    | bk ρ4 =>
      cases hr
      exact fun own4 σ4 H4 R4 B4 s4 => q1 own4 σ4 H4 R4 B4 (s3.trans s4)
    | rt d k =>
      cases hr
      exact q1
  · refine .inl ⟨W.stop i Hc hF (by omega), ?_⟩
    rw [List.drop_eq_nil_of_le (by omega)] at hr
    cases hr
    exact q1 own' σc Hc Rc Bc sc
theorem ss_whl {c : Expr} {body : List Stmt} {fc : List Slot → M Bool} {fb : List Slot → M Fl} {pos : Pos} {n : Nat} (hp : PassesOwn (model X.prog X.w) X.A X.env X.xe) (hc : ST b cl X c fc) (hb : SSs b cl X body fb) :
    SS b cl X (.While c body [] pos) (fun ρ => whlM fc fb n ρ) := fun M₀ H₀ own ρ σ H g l g' Z R B h q => by
  refine PS.wp (ps_while hp pt_wp pss_wp) ?_
  refine ⟨fun m σc Hc => ∃ own' ρc gc, Rel (gx X b cl) M₀ H₀ own' ρc σc Hc ∧ BagAt (gx X b cl) Hc gc ∧ Sub (vis (hid M₀ own ρ) H) (vis (hid M₀ own' ρc) Hc) ∧ whlM fc fb m ρc gc = some (l, g'), ⟨n, own, ρ, g, R, B, Sub.refl _, h⟩, ?_⟩
  rintro m σc Hc ⟨own', ρc, gc, Rc, Bc, sc, hr⟩
  cases m with
  | zero => cases hr
  | succ m =>
    rw [whlM] at hr
    obtain ⟨t, g1, e1, hr⟩ := bnd_some hr
    refine hc M₀ H₀ own' ρc σc Hc gc t g1 _ Rc Bc e1 fun H1 x1 B1 => ?_
    have R1 := Rc.move x1 B1.some
    have s1 := sc.trans (Rc.sub x1)
    cases t with
    | false =>
      cases hr
      exact q own' σc H1 R1 B1 s1
    | true =>
      obtain ⟨l1, g2, e2, hr⟩ := bnd_some hr
      refine ⟨fun σ' H' => ∃ own' ρc gc, Rel (gx X b cl) M₀ H₀ own' ρc σ' H' ∧ BagAt (gx X b cl) H' gc ∧ Sub (vis (hid M₀ own ρ) H) (vis (hid M₀ own' ρc) H') ∧ whlM fc fb m ρc gc = some (l, g'), fun σ' H' z => ⟨m, Nat.lt_succ_self m, z⟩, ?_⟩
      refine hb M₀ H₀ own' ρc σc H1 g1 l1 g2 _ R1 B1 e2 ?_
      cases l1 with
      | nx ρ4 => exact fun own4 σ4 H4 R4 B4 s4 => ⟨own4, ρ4, g2, R4, B4, s1.trans s4, hr⟩
      | ct ρ4 => exact fun own4 σ4 H4 R4 B4 s4 => ⟨own4, ρ4, g2, R4, B4, s1.trans s4, hr⟩
      | bk ρ4 =>
        cases hr
        exact fun own4 σ4 H4 R4 B4 s4 => q own4 σ4 H4 R4 B4 (s1.trans s4)
      | rt d k =>
        cases hr
        exact q
end
/-! ### a def's body -/
/-- the context of a def's body from which nothing is raised -/
abbrev fx (P : Program) (w : World) (K : PySem.W.Frag) (mg : Str → Option Value) (base : Heap) (N : List Str) (qual : Str) (scope : Scope) (f : Addr) (cd : Value) (A : Around) (outer : List Env) (s : Shared) (H : Hp) : Cx := (cxOf CX0 P w K mg base N qual scope f cd A outer s H E0).nox
section
variable {P : Program} {w : World} {K : PySem.W.Frag} {mg : Str → Option Value} {base : Heap}
theorem fnG_raw {name qual : Str} {params : Arguments} {body : List Stmt} {scope : Scope} {f : Addr} {N ps : List Str} {k : Nat} {sp : SpT} {dV kV doc pm cdv ct oc : Value} {an od : Option Addr} {osl : Array (Option Value)}
    (lk : K.lookup f = some ⟨oc, od, .func (PySem.W.fnOf name qual params body scope dV kV doc pm an cdv ct), osl⟩) (hcd : PySem.W.codeIn K cdv qual = true) (S : FnScope N ps scope) (len : ∀ vs H Q, sp vs H Q → vs.length = ps.length)
    (hbody : ∀ (A : Around) (outer : List Env) (s : Shared) (H : Hp) (vs : List V) (Q : VK), Room k (fx P w K mg base N qual scope f cdv A outer s H).A → (fx P w K mg base N qual scope f cdv A outer s H).A.guards = some [] → sp vs H Q →
      wpSs (fx P w K mg base N qual scope f cdv A outer s H) body { nx := fun _ H' => Q .non H', rt := Q } (start N vs) H) : FnG P w K mg base (k + 1) f (PySem.W.fnOf name qual params body scope dV kV doc pm an cdv ct) ps sp := by
  refine ⟨len, fun A outer s H args us vs Q hr hg e0 hb rv hsp => ?_⟩
  have hl := len _ _ _ hsp
  have stays : ∀ b o, base.get? b = some o → s.heap.get? b = some o := fun b o e => (e0.bs b o e).1
  have KX : K.In s.heap := e0.mod.kin.keeps stays
  have par : ∀ y ∈ ps.zip us, scope.names.lookup y.1 = some .local ∨ (scope.names.lookup y.1 = some .cell ∧ ((cellsFrom (s.heap.objs.size + 1) scope.names []).lookup y.1).isSome = true) := by
    rintro ⟨n, v⟩ hy
    rcases S.par n (List.of_mem_zip hy).1 with z | z
    · exact .inl z
    · exact .inr ⟨z, PySem.W.cellsFrom_some _ _ _ (.inl z)⟩
  refine codeAny_call_function hr.depth (KX _ _ lk) rfl S.co S.gen rfl (PySem.W.codeRec_of KX hcd) (hb _ _ _ _ ?_)
  refine wpAny_newFunctionEnv_cells S.kind par fun env he s1 ic => ?_
  subst he
  refine ⟨(e0.mod.nolimit.keeps stays).keeps ic.toInCall.keep, codeAny_func ?_⟩
  have I : Inv (cxOf CX0 P w K mg base N qual scope f cdv A outer s H E0) [] (start N vs) H s1 := inv_start S hr.hd e0 hl rv ic
  have run := hbody A outer s H vs Q (hr.deeper _) hg hsp [] s1 (I.wish _)
  refine wpAny_mono run (fun fl s' hs => ?_) fun e s' hs => hs.elim
  have fin : ∀ {σ' : L2.St} {H' : Hp} {v : V} {u : Value}, Inv (fx P w K mg base N qual scope f cdv A outer s H) [] σ' H' s' → RelV v u → Q v H' → CE outer P w H s Q u s' := fun {σ' H' v u} J r z => ⟨v, H', J.os, J.bare, J.base, J.hok, r, z⟩
  cases fl with
  | ret u =>
    obtain ⟨v, σ', H', J, r, z⟩ := hs
    exact fin J r z
  | next =>
    obtain ⟨σ', H', J, z⟩ := hs
    exact fin (v := V.non) (u := Value.none) J rfl z
  | brk =>
    obtain ⟨_, _, _, z⟩ := hs
    exact z.elim
  | cont =>
    obtain ⟨_, _, _, z⟩ := hs
    exact z.elim
theorem fnG_of {x qual : Str} {st : Stmt} {f : Addr} {fd : FuncData} {N ps : List Str} {k : Nat} {sp : SpT} (F : Fun K x qual st f fd) (S : FnScope N ps (defScope st)) (len : ∀ vs H Q, sp vs H Q → vs.length = ps.length)
    (hbody : ∀ (cd : Value) (A : Around) (outer : List Env) (s : Shared) (H : Hp) (vs : List V) (Q : VK), Room k (fx P w K mg base N qual (defScope st) f cd A outer s H).A → (fx P w K mg base N qual (defScope st) f cd A outer s H).A.guards = some [] → sp vs H Q →
      wpSs (fx P w K mg base N qual (defScope st) f cd A outer s H) (defBody st) { nx := fun _ H' => Q .non H', rt := Q } (start N vs) H) : FnG P w K mg base (k + 1) f fd ps sp := by
  obtain ⟨oc, od, kV, doc, pm, an, cdv, ct, osl, rfl, lk, hcd⟩ := F.ex
  exact fnG_raw lk hcd S len (hbody cdv)
end
end Ev
set_option Elab.async false
set_option linter.all false
set_option autoImplicit false
set_option maxRecDepth 100000
/-! St0: sets of texts: made of a list or a tuple, sorted. -/
namespace Ev
open PySem PySem.Spec PyProof.Rows L2
/-- the text of an entry -/
def txOf (e : Int × Value) : Str := match e.2 with
  | .str x _ => x
  | _ => Str.empty
def GoodT (w : World) (e : Int × Value) : Prop := ∃ x tk, e.2 = Value.str x tk ∧ e.1 = hashStr w x
/-- the set of texts at a: its entries are the texts xs, each once -/
def SetT (w : World) (h : Heap) (a : Addr) (xs : List Str) : Prop :=
  ∃ o es ep t, h.get? a = some o ∧ o.ExactSet ∧ o.data = .set es ep t ∧ (∀ e ∈ es.toList, GoodT w e) ∧ (es.toList.map txOf).Nodup ∧ (es.toList.map txOf).Perm xs ∧ es.size < scanBound ∧ t.fits es.size = true ∧ Ris t.place.toList ∧ (w.params.followText "set-order" = true ∨ t.led = true)
section
variable {P : Program} {w : World} {h h' : Heap} {a : Addr} {xs : List Str}
theorem SetT.stay (R : SetT w h a xs) (k : ∀ o, h.get? a = some o → h'.get? a = some o) : SetT w h' a xs := by
  obtain ⟨o, es, ep, t, ho, r⟩ := R
  exact ⟨o, es, ep, t, k o ho, r⟩
theorem SetT.perm {ys : List Str} (R : SetT w h a xs) (p : xs.Perm ys) : SetT w h a ys := by
  obtain ⟨o, es, ep, t, ho, r1, r2, r3, r4, r5, r6⟩ := R
  exact ⟨o, es, ep, t, ho, r1, r2, r3, r4, r5.trans p, r6⟩
theorem goodT_elems {l : List (Int × Value)} (g : ∀ e ∈ l, GoodT w e) : ElemsOf (PySem.strKind P w) l := fun e he => by
  obtain ⟨x, tk, h1, h2⟩ := g e he
  refine ⟨⟨x, ?_, h2⟩, ?_⟩
  · rw [h1]
    exact strKind_is P w x tk
  · rw [h1]
    rfl
theorem goodT_is {e : Int × Value} (g : GoodT w e) (x : Str) : (PySem.strKind P w).is x e.2 = true ↔ txOf e = x := by
  obtain ⟨y, tk, h1, _⟩ := g
  unfold txOf
  rw [h1]
  show (Value.isStrOf x (.str y tk) = true) ↔ y = x
  simp [Value.isStrOf]
end
section
variable {P : Program} {w : World} {A : Around} {E : Value → Shared → Prop} {s : Shared} {a : Addr} {xs : List Str}
/-- what is laid is stored, the table perhaps made anew -/
theorem setT_store {gv : Bool → Sem Unit} (hgv : ∀ (c : Bool) (s' : Shared) (T : Unit → Shared → Prop), T () s' → wpAny (model P w) A (gv c) T E s') {o : Obj} {es es' : Array (Int × Value)} {ep : Nat} {t t' : SetTable}
    (ho : s.heap.get? a = some o) (hx : o.ExactSet) (hd : o.data = .set es ep t) (hg : ∀ e ∈ es'.toList, GoodT w e) (hn : (es'.toList.map txOf).Nodup) (hp : (es'.toList.map txOf).Perm xs)
    (hz : es'.size < scanBound) (hf : t'.fits es'.size = true) (hr : Ris t'.place.toList) (hl : w.params.followText "set-order" = true ∨ t'.led = true) {dm : Bool} {T : Option Bool → Shared → Prop}
    (hT : ∀ h', Heap.SameBut a s.heap h' → SetT w h' a xs → T (some true) { s with heap := h' }) :
    wpAny (model P w) A (do
        storeSet a es' t'
        if (!dm && t'.tooFull) = true then do
            gv (relayAll t' es' (SetTable.grown es'.size)).2.2
            storeSet a (relayAll t' es' (SetTable.grown es'.size)).1 (relayAll t' es' (SetTable.grown es'.size)).2.1
            pure (some true)
          else pure (some true)) T E s := by
  refine wpAny_bind (wpAny_storeSet_of ho hd ?_ (fits_of_scanBound hz))
  have o1 := store_at (es' := es') (t' := t') ho hd
  have same := Heap.SameBut.update s.heap a (Obj.putSet es' t')
  split
  · have q1 := relayAll_perm t' es' (SetTable.grown es'.size)
    have q2 := relayAll_fits t' es' (SetTable.grown es'.size)
    have q3 := relayAll_ris t' es' (SetTable.grown es'.size)
    have q4 := relayAll_led t' es' (SetTable.grown es'.size)
    generalize relayAll t' es' (SetTable.grown es'.size) = Z at q1 q2 q3 q4 ⊢
    obtain ⟨es3, t3, gave⟩ := Z
    dsimp only at q1 q2 q3 q4 ⊢
    have sz : es3.size = es'.size := by rw [← Array.length_toList, q1.length_eq, Array.length_toList]
    refine wpAny_bind (hgv _ _ _ (wpAny_bind (wpAny_storeSet_of o1 rfl ?_ (fits_of_scanBound (by rw [sz]; exact hz)))))
    have o2 := store_at (es' := es3) (t' := t3) o1 rfl
    refine wpAny_pure (hT _ (same.trans (Heap.SameBut.update _ a _)) ⟨_, es3, _, t3, o2, hx, rfl, fun e he => hg e (q1.mem_iff.mp he), (q1.map txOf).nodup_iff.mpr hn, (q1.map txOf).trans hp, by rw [sz]; exact hz, q2, q3, ?_⟩)
    rcases hl with z | z
    · exact .inl z
    · exact .inr (by rw [q4]; exact z)
  · exact wpAny_pure (hT _ same ⟨_, es', _, t', o1, hx, rfl, hg, hn, hp, hz, hf, hr, hl⟩)
theorem setT_add {x : Str} {tk : Tok} {Q : Bool → Shared → Prop} (R : SetT w s.heap a xs) (room : xs.length + 1 < scanBound)
    (hQ : ∀ c h', Heap.SameBut a s.heap h' → SetT w h' a (if x ∈ xs then xs else x :: xs) → Q c { s with heap := h' }) :
    wpAny (model P w) A (setAddHashed a (.str x tk) (hashStr w x)) Q E s := by
  obtain ⟨o, es, ep, t, ho, hex, hd, hg, hn, hp, hz, hf, hr, hl⟩ := R
  have hin : (PySem.strKind P w).is x (.str x tk) = true := strKind_is P w x tk
  have scn : (Value.str x tk).scannable = true := rfl
  have els : ElemsOf (PySem.strKind P w) es.toList := goodT_elems hg
  have memx : x ∈ xs ↔ ∃ e ∈ es.toList, (PySem.strKind P w).is x e.2 = true := by
    rw [← hp.mem_iff, List.mem_map]
    constructor
    · rintro ⟨e, he, q⟩
      exact ⟨e, he, (goodT_is (hg e he) x).2 q⟩
    · rintro ⟨e, he, q⟩
      exact ⟨e, he, (goodT_is (hg e he) x).1 q⟩
  unfold setAddHashed setAddHashedIn
  refine wpAny_holding (wpAny_bind (wpAny_setState_of ho hd hf ?_))
  dsimp only
  rw [byScan_of scn hz els]
  simp only [↓reduceIte]
  unfold setAddByScan
  refine wpAny_bind (wpAny_bind (wpAny_rule (wpAny_bind (wpAny_setScan_of hin ho hd hf els ?_))))
  cases fi : List.findIdx? (fun e => (PySem.strKind P w).is x e.2) es.toList with
  | some j =>
    dsimp only
    obtain ⟨hj, pj, _⟩ := List.findIdx?_eq_some_iff_getElem.mp fi
    have hx : x ∈ xs := memx.2 ⟨es.toList[j], List.getElem_mem hj, pj⟩
    exact wpAny_pure (wpAny_pure (hQ _ s.heap (Heap.SameBut.refl a s.heap) (by rw [if_pos hx]; exact ⟨o, es, ep, t, ho, hex, hd, hg, hn, hp, hz, hf, hr, hl⟩)))
  | none =>
    dsimp only
    have hx : x ∉ xs := fun z => by
      obtain ⟨e, he, q⟩ := memx.1 z
      have c := List.findIdx?_eq_none_iff.mp fi e he
      rw [q] at c
      cases c
    have gw : ∀ (c : Bool) {s' : Shared} {T : Unit → Shared → Prop}, T () s' → wpAny (model P w) A (match c with | true => rule "set.scan.the-table-gave-way" | false => pure ()) T E s' := fun c s' T q => by
      cases c
      · exact wpAny_pure q
      · exact wpAny_rule q
    have p1 := layNew_perm t es (hashStr w x) (.str x tk)
    have p2 := layNew_fits t es (hashStr w x) (.str x tk)
    have p3 := layNew_ris t es (hashStr w x) (.str x tk) hr
    have p4 := layNew_led t es (hashStr w x) (.str x tk)
    generalize layNew t es (hashStr w x) (.str x tk) = Z at p1 p2 p3 p4 ⊢
    obtain ⟨es1, t1, dm, gave⟩ := Z
    dsimp only at p1 p2 p3 p4 ⊢
    rw [Array.toList_push] at p1
    have pc : es1.toList.Perm ((hashStr w x, Value.str x tk) :: es.toList) := p1.trans (List.perm_append_singleton _ _)
    have pk : (es1.toList.map txOf).Perm (x :: es.toList.map txOf) := pc.map txOf
    have g1 : ∀ e ∈ es1.toList, GoodT w e := fun e he => by
      rcases List.mem_cons.mp (pc.mem_iff.mp he) with z | z
      · rw [z]
        exact ⟨x, tk, rfl, rfl⟩
      · exact hg e z
    have n1 : (es1.toList.map txOf).Nodup := pk.nodup_iff.mpr (List.nodup_cons.mpr ⟨fun z => hx (hp.mem_iff.mp z), hn⟩)
    have pp : (es1.toList.map txOf).Perm (x :: xs) := pk.trans (hp.cons x)
    have sz : es1.size = xs.length + 1 := by
      have := pp.length_eq
      rw [List.length_map, Array.length_toList, List.length_cons] at this
      exact this
    have hz1 : es1.size < scanBound := by rw [sz]; exact room
    have hl1 : w.params.followText "set-order" = true ∨ t1.led = true := by
      rcases hl with z | z
      · exact .inl z
      · exact .inr (by rw [p4]; exact z)
    have fin : ∀ h', Heap.SameBut a s.heap h' → SetT w h' a (x :: xs) → Q true { s with heap := h' } := fun h' sb r => hQ true h' sb (by rw [if_neg hx]; exact r)
    refine wpAny_bind (gw _ ?_)
    split
    · refine wpAny_bind ?_
      rw [hashByValue_scannable 8 scn]
      refine wpAny_pure (setT_store ?_ ho hex hd g1 n1 pp hz1 ?_ ?_ ?_ ?_)
      · intro c s' T q
        cases c
        · exact wpAny_pure q
        · exact wpAny_rule q
      · first
          | exact p2
          | (split <;> first | exact p2 | exact SetTable.fits_plain_off p2)
      · first
          | exact p3
          | (split <;> exact p3)
      · first
          | exact hl1
          | (split <;> exact hl1)
      · intro h' sb r
        dsimp only
        exact wpAny_pure (fin h' sb r)
    · refine wpAny_bind (wpAny_pure ?_)
      simp only [↓reduceIte]
      refine setT_store ?_ ho hex hd g1 n1 pp hz1 p2 p3 hl1 ?_
      · intro c s' T q
        cases c
        · exact wpAny_pure q
        · exact wpAny_rule q
      · intro h' sb r
        dsimp only
        exact wpAny_pure (fin h' sb r)
theorem setT_loop {I : Addr} {fp wr : List Addr} {G : Array GenState → Array GenState → Prop} {n : Nat} {Pv : Nat → Value → Prop} {St : Nat → Shared → Prop} {R : Result → Shared → Prop} (W : WalksS P w A.in1 I fp wr G n Pv St) (Z : Addr) (hZ : Z ∉ fp) (ys : List Str) (hn : n = ys.length) (hb : ys.length + 1 < scanBound)
    (hval : ∀ i v, Pv i v → ∃ y t, ys[i]? = some y ∧ v = .str y t) :
    ∀ (k i : Nat) (s : Shared) (acc : List Str), n - i = k → i ≤ n → acc.length ≤ i → St i s → SetT w s.heap Z acc → (∀ s', Moved (Z :: wr) G s s' → SetT w s'.heap Z (addAll (ys.drop i) acc) → R (.ok (.ret .none)) s') →
      codeAny (model P w) A (.builtin "set.update.loop" ⟨[.ref Z, .ref I], []⟩) R s := by
  have hZw : Z ∉ wr := fun q => hZ (W.sub _ q)
  have more : ∀ b ∈ wr, b ∈ Z :: wr := fun b hb => List.mem_cons_of_mem _ hb
  intro k
  induction k with
  | zero =>
    intro i s acc hk hi ha hst hS hR
    obtain rfl : i = n := by omega
    refine codeAny_builtin F.entry_set_update_loop ?_
    rw [Around.under_plainId F.plain_set_update_loop _]
    show wpAny _ A.in1 (pyNext (.ref I) >>= _) _ _ s
    refine wpAny_bind (W.done s _ _ hst fun s' hm => ?_)
    show wpAny _ A.in1 (ret Value.none) _ _ s'
    rw [List.drop_eq_nil_of_le (by omega)] at hR
    exact wpAny_pure (hR s' (hm.mono more) (hS.stay fun o e => hm.heap Z o hZw e))
  | succ k ih =>
    intro i s acc hk hi ha hst hS hR
    have lt : i < n := by omega
    refine codeAny_builtin F.entry_set_update_loop ?_
    rw [Around.under_plainId F.plain_set_update_loop _]
    show wpAny _ A.in1 (pyNext (.ref I) >>= _) _ _ s
    refine wpAny_bind (W.item i s _ _ lt hst fun v s' hP hst' hm => ?_)
    obtain ⟨y, t, hy, rfl⟩ := hval i v hP
    have hS' : SetT w s'.heap Z acc := hS.stay fun o e => hm.heap Z o hZw e
    show wpAny _ A.in1 (holding [Value.str y t] (setAdd Z (.str y t)) >>= _) _ _ s'
    refine wpAny_bind (wpAny_holding ?_)
    unfold setAdd
    refine wpAny_holding (wpAny_bind ((PySem.strKind P w).pyHash (k := y) (strKind_is _ _ _ _) ?_))
    refine setT_add (s := { s' with toks := s'.toks + 1 }) hS' (by omega) fun c h' sb hS2 => ?_
    have ed : ys.drop i = y :: ys.drop (i + 1) := by
      obtain ⟨q, e⟩ := List.getElem?_eq_some_iff.mp hy
      rw [List.drop_eq_getElem_cons q, e]
    rw [ed, addAll] at hR
    refine wpAny_pure ⟨plainId_quiet F.plain_set_update_loop _, ih (i + 1) _ _ (by omega) lt (by split <;> (try rw [List.length_cons]) <;> omega) (W.frame _ s' _ _ hst' (Nat.le_succ _) fun b hb o e => ?_) hS2 fun s2 hm2 hS3 => ?_⟩
    · have nb : b ≠ Z := fun q => hZ (q ▸ hb)
      rw [sb.2 b nb]
      exact e
    · refine hR s2 (Moved.trans W.gtrans ((hm.mono more).then_heap (Nat.le_succ _) fun b o hb e => ?_) hm2) hS3
      have nb : b ≠ Z := fun q => hb (by rw [q]; exact List.mem_cons_self)
      rw [sb.2 b nb]
      exact e
end
set_option maxHeartbeats 3200000
section
variable {P : Program} {w : World} {A : Around} {E : Value → Shared → Prop} {s : Shared}
/-- what a sequence's type is to a new set -/
structure SqTy (P : Program) (w : World) (T U : String) : Prop where
  dict : (Value.type T == Value.type "dict") = false
  set : isSubtype (.type T) (.type "set") = pure false
  fro : isSubtype (.type T) (.type "frozenset") = pure false
  iter : ∀ (A : Around) (E : Value → Shared → Prop) (s : Shared) (l : Addr) (items : Array Value) (Q : Value → Shared → Prop), (∃ o, s.heap.get? l = some o ∧ o.cls = .type T ∧ ∃ n, o.data = .seq items n) →
    Q (.ref s.heap.objs.size) { s with heap := s.heap.push { cls := .type U, data := .fields #[.ref l, .int 0 0] } } → wpAny (model P w) A (pyIter (.ref l)) Q E s
  walk : ∀ (A : Around) (I l : Addr) (items : Array Value), A.handled = none → l ≠ I → ∃ St : Nat → Heap → Prop, Walks P w A I [I, l] [I] items.size (fun i v => items[i]? = some v) St ∧
    ∀ h : Heap, h.get? I = some { cls := .type U, data := .fields #[.ref l, .int 0 0] } → (∃ o, h.get? l = some o ∧ o.cls = .type T ∧ ∃ n, o.data = .seq items n) → St 0 h
theorem sqTy_tuple (P : Program) (w : World) : SqTy P w "tuple" "tuple_iterator" where
  dict := by decide
  set := F.sub_tuple_set
  fro := F.sub_tuple_frozenset
  iter := fun A E s l items Q h q => wpAny_pyIter_tuple h q
  walk := fun A I l items hh ne => ⟨_, Walks.tuple hh I l ne items, fun h h1 h2 => ⟨⟨_, h1, rfl, rfl⟩, h2⟩⟩
theorem sqTy_list (P : Program) (w : World) : SqTy P w "list" "list_iterator" where
  dict := by decide
  set := F.sub_list_set
  fro := F.sub_list_frozenset
  iter := fun A E s l items Q h q => wpAny_pyIter_list h q
  walk := fun A I l items hh ne => ⟨_, Walks.list hh I l ne items, fun h h1 h2 => ⟨⟨_, h1, rfl, rfl⟩, h2⟩⟩
/-- the new set of a sequence of texts -/
theorem call_setT {T U : String} (sq : SqTy P w T U) {l : Addr} {items : Array Value} (ys : List Str) {Q : Value → Shared → Prop} (hh : A.handled = none) (hl : ∃ o, s.heap.get? l = some o ∧ o.cls = .type T ∧ ∃ n, o.data = .seq items n) (hit : StrsAre items.toList ys) (hb : ys.length + 1 < scanBound)
    (h : ∀ (h' : Heap) (tk : Nat), SetT w h' s.heap.objs.size (addAll ys []) → (∀ b o, s.heap.get? b = some o → h'.get? b = some o) → Q (.ref s.heap.objs.size) { s with heap := h', toks := tk }) :
    wpAny (model P w) A (call (.type "set") [.ref l]) Q E s := by
  have sz : items.size = ys.length := by
    have q := hit.length
    rw [Array.length_toList] at q
    exact q
  let fresh : Obj := { cls := .type "set", dict := none, data := .set #[] 0 (.fresh 0 0 (!w.params.followText "set-order")) }
  obtain ⟨c, tl, hmro⟩ := F.called_set.mro
  have hmade := F.called_set.made
  have hsub := F.called_set.sub
  refine wpAny_call (codeAny_of_tree ?_)
  show wpAny _ _ (callAny (.type "set") _) _ _ _
  refine wpAny_pure ⟨Code.quiet_builtin _ (by decide +kernel), codeAny_builtin F.entry_type_call ?_⟩
  rw [Around.under_plain (weight_type_call_type "set" [.ref l] []) rfl]
  have h1 := F.called_set.notType
  have h2 := F.called_set.canCreate
  have hct := F.typeCall_set_1 (.ref l)
  repeat (any_goals (first | assumption | wp_step))
  refine codeAny_mono (code_set_led1 (.ref l) (E := E) (Q₁ := fun obj s₁ => obj = .ref s.heap.objs.size ∧ s₁ = { s with heap := s.heap.push fresh }) ⟨rfl, rfl⟩) fun r s₁ hr => ?_
  cases r with
  | error e => exact hr
  | ok fl =>
    cases fl with
    | ret obj =>
      obtain ⟨rfl, rfl⟩ := hr
      have at0 : (s.heap.push fresh).get? s.heap.objs.size = some fresh := Heap.get?_push_size _ rfl
      have hT : Shared.TypeIs { s with heap := s.heap.push fresh } (.ref s.heap.objs.size) "set" := ⟨_, at0, rfl⟩
      have hli := F.called_set.init.lookup
      have hbi := F.called_set.init.bind (.ref s.heap.objs.size)
      repeat (any_goals (first | assumption | wp_step))
      refine codeAny_mono (codeAny_call_builtin (R := wants (fun r s₂ => r = .none ∧ ∃ h' tk, s₂ = { s with heap := h', toks := tk } ∧ SetT w h' s.heap.objs.size (addAll ys []) ∧ (∀ b o, s.heap.get? b = some o → h'.get? b = some o)) E) F.called_set.init.plain F.entry_set_init (check_set_init_1 hT ?_)) fun r₂ s₂ hr₂ => ?_
      · obtain ⟨ol, hol, hcl, nl, hdl⟩ := hl
        obtain ⟨ocls, odict, odata, oslots⟩ := ol
        simp only at hcl hdl
        subst hcl; subst hdl
        have hol' : (s.heap.push fresh).get? l = some { cls := .type T, dict := odict, data := .seq items nl, slots := oslots } := Heap.get?_push_of_some _ hol
        have hsls := sq.set
        have hslf := sq.fro
        have hne := sq.dict
        have hl1 : ∃ o, (s.heap.push fresh).get? l = some o ∧ o.cls = .type T ∧ ∃ n, o.data = .seq items n := ⟨_, hol', rfl, nl, rfl⟩
        unfold Builtin.«set.__init__» noKeywords Builtin.Frozenset.updateFrom
        generalize hPI : pyIter = PI
        wp_walk
        subst hPI
        refine sq.iter _ _ _ l items _ hl1 (wpAny_bind (wpAny_runValue ?_))
        have lS : l < s.heap.objs.size := Heap.lt_size hol
        have hh3 : A.in1.in1.in1.handled = none := by simp [hh]
        have nI : l ≠ (s.heap.push fresh).objs.size := by
          rw [Heap.size_push]
          exact Nat.ne_of_lt (Nat.lt_succ_of_lt lS)
        have nS : s.heap.objs.size ∉ [(s.heap.push fresh).objs.size, l] := by
          rw [Heap.size_push]
          simp only [List.mem_cons, List.mem_singleton, List.not_mem_nil, or_false, not_or]
          exact ⟨Nat.ne_of_lt (Nat.lt_succ_self _), Nat.ne_of_gt lS⟩
        have hval : ∀ (i : Nat) (v : Value), items[i]? = some v → ∃ y t, ys[i]? = some y ∧ v = .str y t := fun i v hv => by
          have hi : i < ys.length := by
            rw [← sz]
            exact (Array.getElem?_eq_some_iff.mp hv).1
          obtain ⟨t, e⟩ := SS.strs_at hit i v (by rw [Array.getElem?_toList]; exact hv)
          refine ⟨ys[i], t, List.getElem?_eq_getElem hi, ?_⟩
          rw [e, List.getD_eq_getElem?_getD, List.getElem?_eq_getElem hi]
          rfl
        have get0 : ((s.heap.push fresh).push { cls := .type U, data := .fields #[.ref l, .int 0 0] }).get? s.heap.objs.size = some fresh := Heap.get?_push_of_some _ at0
        have new0 : SetT w ((s.heap.push fresh).push { cls := .type U, data := .fields #[.ref l, .int 0 0] }) s.heap.objs.size [] := by
          refine ⟨_, #[], 0, _, get0, ⟨rfl, rfl, rfl⟩, rfl, (fun e he => by simp at he), (by simp), (by simp), (by decide), (by rfl), List.Pairwise.nil, ?_⟩
          show _ ∨ (!w.params.followText "set-order") = true
          cases w.params.followText "set-order"
          · exact .inr rfl
          · exact .inl rfl
        obtain ⟨St, wk, st0⟩ := sq.walk A.in1.in1.in1 (s.heap.push fresh).objs.size l items hh3 nI
        refine setT_loop wk.toS s.heap.objs.size nS ys sz hb hval (items.size - 0) 0 _ [] (by omega) (Nat.zero_le _) (Nat.le_refl _) (st0 _ (Heap.get?_push_size _ rfl) ?_) new0 ?_
        · obtain ⟨o, e1, e2, e3⟩ := hl1
          exact ⟨o, Heap.get?_push_of_some _ e1, e2, e3⟩
        intro s' hm hS'
        obtain ⟨h', g2, d', tk', os'⟩ := s'
        have eg : g2 = s.gens := hm.gens
        have ed : d' = s.drawn := hm.drawn
        have eo : os' = s.os := hm.os
        subst eg; subst ed; subst eo
        show wpAny _ _ _ _ _ _
        refine wpAny_pure ?_
        show wpAny _ _ (ret Value.none) _ _ _
        refine wpAny_pure ⟨rfl, h', tk', rfl, hS', fun b o e => ?_⟩
        have b0 : b < s.heap.objs.size := Heap.lt_size e
        refine hm.heap b o ?_ (Heap.get?_push_of_some _ (Heap.get?_push_of_some _ e))
        rw [Heap.size_push]
        simp only [List.mem_cons, List.mem_singleton, List.not_mem_nil, or_false, not_or]
        exact ⟨Nat.ne_of_lt b0, Nat.ne_of_lt (Nat.lt_succ_of_lt b0)⟩
      · cases r₂ with
        | error e => exact hr₂
        | ok fl₂ =>
          cases fl₂ with
          | ret r =>
            obtain ⟨rfl, h', tk, rfl, hS', hk'⟩ := hr₂
            repeat (any_goals (first | assumption | wp_step))
            exact h _ _ hS' hk'
          | _ => exact hr₂.elim
    | _ => exact hr.elim
end
end Ev
set_option Elab.async false
set_option linter.all false
set_option autoImplicit false
/-! St1: sorted of a set of texts. -/
namespace Ev
open PySem PySem.Spec PyProof.Rows L2
theorem texts_each : ∀ (l : List (Int × Value)) {w : World}, (∀ e ∈ l, GoodT w e) → ∀ vs : List Value, vs.Perm (l.map (·.2)) → ∃ zs : List Str, zs.Perm (l.map txOf) ∧ PySem.W.EachIs (fun (v : Value) (x : Str) => ∃ t, v = .str x t) vs zs := by
  intro l w hg vs hp
  have all : ∀ v ∈ vs, ∃ x t, v = Value.str x t := fun v hv => by
    obtain ⟨e, he, q⟩ := List.mem_map.mp (hp.mem_iff.mp hv)
    obtain ⟨x, t, h1, _⟩ := hg e he
    exact ⟨x, t, by rw [← q, h1]⟩
  let tx : Value → Str := fun v => match v with
    | .str x _ => x
    | _ => Str.empty
  refine ⟨vs.map tx, ?_, ?_⟩
  · have q := hp.map tx
    rw [List.map_map] at q
    exact q
  · clear hp
    induction vs with
    | nil => exact .nil
    | cons v vs ih =>
      obtain ⟨x, t, rfl⟩ := all v List.mem_cons_self
      exact .cons ⟨t, rfl⟩ (ih fun u hu => all u (List.mem_cons_of_mem _ hu))
section
variable {P : Program} {w : World} {A : Around} {E : Value → Shared → Prop} {s : Shared} {a : Addr} {xs : List Str}
theorem sorted_setT' {Q : Value → Shared → Prop} (R : SetT w s.heap a xs) (hh : A.handled = none) (hu : A.units + 8 < cLine) (hz : xs.length ≤ 1000)
    (hQ : ∀ s' p (out : List Value) (c : Nat), (∀ b o, s.heap.get? b = some o → s'.heap.get? b = some o) → s'.gens = s.gens → s'.os = s.os → s.heap.objs.size ≤ p → s'.heap.get? p = some (seqObj "list" out.toArray c) →
      PySem.W.EachIs (fun (v : Value) (x : Str) => ∃ t, v = .str x t) out (xs.mergeSort strLe) → Q (.ref p) s') : wpAny (model P w) A (call (.builtin "sorted") [.ref a]) Q E s := by
  obtain ⟨o, es, ep, t, ho, hx, hd, hg, hn, hp, hz2, hf, hr, hl⟩ := R
  refine Calls.call_function_entry kind_sorted plain_sorted entry_sorted (args_sorted1 _) ?_
  unfold Builtin.«sorted»
  refine wpAny_bind (m := checkCount "sorted" 1 1 _) (wpAny_pure ?_)
  refine wpAny_bind (collect_set (A := A.in1) hh ⟨o, ho, hx.1, hd⟩ hf hz2 hr hl fun s1 vs k1 sz g1 o1 pm => ?_)
  obtain ⟨zs, pz, each⟩ := texts_each es.toList hg vs pm
  have pz2 : zs.Perm xs := pz.trans hp
  have lz : zs.length = xs.length := pz2.length_eq
  have lv : vs.length = zs.length := each.length
  refine wpAny_bind (wpAny_newList ?_ (by rw [lv, lz, sizeLine_eq]; omega))
  have oL : (s1.heap.push (seqObj "list" vs.toArray 0)).get? s1.heap.objs.size = some (seqObj "list" vs.toArray 0) := Heap.get?_push_size _ rfl
  refine wpAny_bind (wpAny_holding (PySem.W.list_sort_data (A := A.in1) (s := { s1 with heap := s1.heap.push (seqObj "list" vs.toArray 0) }) (R := fun (v : Value) (x : Str) => ∃ t, v = .str x t) (enc := fun x : Str => PyData.str x) (bs := zs) oL each
    (each.mono fun v x ⟨t, e⟩ => ⟨[], by rw [e]; exact .str x t, by simp⟩) (PySem.W.AllAlike.of fun _ _ => by simp [PySem.W.alike]) (PySem.W.Sortable.others fun _ => ⟨by simp, by simp⟩) (by rw [lz, sizeLine_eq]; omega)
    (fun x _ => by show A.units + 1 + 1 + (PyData.str x).depth < cLine; simp only [PyData.depth]; omega) fun out ol eo => ?_))
  obtain ⟨c, hc⟩ := sortedHeap_at (vs := vs) (out := out.toArray) oL
  have eo2 : PySem.W.EachIs (fun (v : Value) (x : Str) => ∃ t, v = .str x t) out (xs.mergeSort strLe) := by
    rw [PySem.W.dataLe_str (fun x : Str => x)] at eo
    have q : zs.mergeSort strLe = xs.mergeSort strLe := mergeSort_perm_eq pz2
    rw [← q]
    exact eo
  refine wpAny_pure ⟨_, rfl, hQ _ s1.heap.objs.size out c (fun b u e => ?_) g1 o1 sz hc eo2⟩
  have q := k1 b u e
  have lt := Heap.lt_size q
  show (sortedHeap (s1.heap.push (seqObj "list" vs.toArray 0)) s1.heap.objs.size vs out.toArray).get? b = some u
  rw [sortedHeap_old (Nat.ne_of_lt lt) (by rw [size_push']; exact Nat.lt_succ_of_lt lt)]
  exact Heap.get?_push_of_some _ q
end
end Ev
set_option Elab.async false
set_option linter.all false
set_option autoImplicit false
/-! Ev16: sorted(set(..)), split, sorted by length and itself. -/
namespace Ev
open PySem PySem.Spec PyProof.Rows L2 M
/-- a set of texts as a thing of the heap -/
def TSet (w : World) (a : Addr) (xs : List Str) : HO := .ext fun h => SetT w h a xs
section
variable {X : Cx} {b : Addr} {cl : Cls}
theorem tset_ok {P : Program} {w : World} {H : Hp} {h : Heap} {a : Addr} {xs : List Str} (R : SetT w h a xs) : ObjOk P w H h a (TSet w a xs) := by
  refine ⟨R, ?_, fun h1 h2 q k => q.stay k⟩
  obtain ⟨o, _, _, _, ho, _⟩ := R
  exact ⟨o, ho⟩
theorem scan_line : scanBound = 4096 := by decide
theorem cr_setT (hc : X.calm = true) : CallR X (.type "set") (fun vs H Q => ∃ a ys, vs = [.ref a] ∧ (SqL X.K H a (ys.map V.str) ∨ SqT X.K H a (ys.map V.str)) ∧ ys.length < 1000 ∧ ∀ p, H p = none → Q (.ref p) (upd H p (TSet X.w p (addAll ys [])))) := by
  intro pins s σ H vs us Q I r h
  obtain ⟨a, ys, rfl, hs, hz, q⟩ := h
  obtain ⟨u, rfl, ru⟩ := vals1 r
  cases ru
  have fin : ∀ (h' : Heap) (tk : Nat), SetT X.w h' s.heap.objs.size (addAll ys []) → (∀ b o, s.heap.get? b = some o → h'.get? b = some o) → EP X pins σ Q (.ref s.heap.objs.size) { s with heap := h', toks := tk } := fun h' tk hS k =>
    ⟨.ref s.heap.objs.size, _, I.laid (t' := tk) k (Nat.le_refl _) (tset_ok hS), rfl, q _ (I.hok.fresh (Nat.le_refl _))⟩
  have hb : ys.length + 1 < scanBound := by rw [scan_line]; omega
  rcases hs with hs | hs
  · obtain ⟨its, rv, ⟨o, n, ho, h1, h2, h3⟩, _⟩ := I.list hs
    exact call_setT (sqTy_list _ _) ys (I.ok.hd hc) ⟨o, ho, h1, n, h3⟩ (strsAre_of rv) hb fin
  · obtain ⟨its, rv, ht, _⟩ := I.tuple hs
    exact call_setT (sqTy_tuple _ _) ys (I.ok.hd hc) ht (strsAre_of rv) hb fin
theorem vals_texts : ∀ {out : List Value} {zs : List Str}, PySem.W.EachIs (fun (v : Value) (x : Str) => ∃ t, v = .str x t) out zs → Vals (zs.map V.str) out
  | _, _, .nil => .nil
  | _, _, .cons r t => .cons r (vals_texts t)
theorem cr_sortT' (hc : X.calm = true) (hu : X.A.units + 64 < cLine) : CallR X (.builtin "sorted") (fun vs H Q => ∃ a zs, vs = [.ref a] ∧ H a = some (TSet X.w a zs) ∧ zs.length ≤ 1000 ∧ ∀ p, H p = none → Q (.ref p) (upd H p (.lst ((zs.mergeSort strLe).map V.str)))) := by
  intro pins s σ H vs us Q I r h
  obtain ⟨a, zs, rfl, ha, hz, q⟩ := h
  obtain ⟨u, rfl, ru⟩ := vals1 r
  cases ru
  have R : SetT X.w s.heap a zs := (I.hok a _ ha).1
  refine sorted_setT' R (I.ok.hd hc) (by omega) hz fun s' p out c k1 g1 o1 hp ho eo => ?_
  have rv := vals_texts eo
  have hn : H p = none := I.hok.fresh hp
  have hl : ((zs.mergeSort strLe).map V.str).length ≤ sizeLine := by
    rw [List.length_map, List.length_mergeSort, sizeLine_eq]
    omega
  exact ⟨.ref p, _, I.call' (ch := []) o1 (Un.laid k1 hp hn) (I.hok.laid (o := .lst ((zs.mergeSort strLe).map V.str)) k1 hp ⟨hl, out, c, rv, ho⟩) (by rw [g1]; exact I.bare) (fun _ z => (nomatch z)), rfl, q p hn⟩
theorem se_sortset {a : Expr} {fa : List Slot → M (D × Kd)} {p p2 q0 pos : Pos} {k0 : Nat} (cx : CxOk k0 X) (hg : Gl X "sorted") (hm : X.mg "sorted" = none) (hg2 : Gl X "set") (hm2 : X.mg "set" = none) (ha : SE b cl X a fa) (hs : isStar a = false) :
    SE b cl X (.Call (.Name "sorted" p) [.Call (.Name "set" p2) [a] [] q0] [] pos) (fun ρ => bnd (fa ρ) fun p => bnd (opt (bltD .sortset p.1)) fun r => ret (r.1, r.2.by r.1 p.2.nd)) := fun M₀ H₀ own ρ σ H g d k g' Q R B e q => by
  have hu := cx.room.un
  obtain ⟨⟨x, kx⟩, g1, h1, h⟩ := bnd_some e
  obtain ⟨⟨r, m⟩, g3, h3, h⟩ := bnd_some h
  have e3 := (opt_eq h3).1
  have e4 := (opt_eq h3).2
  subst e4
  cases h
  have pin : PE X (.Call (.Name "set" p2) [a] [] q0) (tCB (rC X (.type "set")) (tCons (wpE X a) tNil)) := pe_callTy (cr_rC _) hg2 hm2 (by decide +kernel) (pa_cons pe_wp pa_nil (star_no hs _ _)) (by decide +kernel) (by decide +kernel) (star_no hs _ _) rfl
  have pout := pe_callB (X := X) (x := "sorted") (p := p) (pos := pos) (cr_rC (.builtin "sorted")) hg hm (by decide +kernel) (pa_cons pin pa_nil rfl) (by decide +kernel) (by decide +kernel) rfl rfl
  refine PE.wp pout (ha M₀ H₀ own ρ σ H g x kx _ _ R B h1 fun v H1 x1 B1 r1 => ?_)
  have R1 := R.move x1 B1.some
  have go : ∀ {ys : List Str} {vs : List V} {a0 : Addr}, v = .ref a0 → (SqL X.K H1 a0 vs ∨ SqT X.K H1 a0 vs) → vs = ys.map V.str → ys.length < 1000 → r = .lst ((sortSet ys).map .str) → m = .fresh → rC X (.type "set") [v] H1 (fun v H => rC X (.builtin "sorted") [v] H Q) := fun {ys vs a0} e1 e2 e3 e4 e5 e6 => by
    subst e1 e3 e5 e6
    refine callRc (cr_setT cx.calm) ⟨a0, ys, rfl, e2, e4, fun p1 np => ?_⟩
    refine callRc (cr_sortT' cx.calm (by omega)) ⟨p1, _, rfl, upd_same, by have := addAll_len ys []; rw [List.length_nil] at this; omega, fun p2 np2 => ?_⟩
    have ne : p2 ≠ p1 := fun z => by
      rw [z, upd_same] at np2
      cases np2
    have np3 : H1 p2 = none := by
      rw [upd_ne ne] at np2
      exact np2
    have W : Wants (gx X b cl) M₀ own ρ H1 g' (.lst ((sortSet ys).map .str)) (if kx.nd then .fresh else .dirty) Q := fun v H' x9 B9 r9 => q v H' (x1.trans x9) B9 (by
      rw [by_lst]
      exact r9.ahead R x1 B1.some)
    refine W _ _ ((Ext.new np).trans (Ext.new np2)) ((B1.new np).new np2) ?_
    have at_ : ∀ {M : Addr → Prop}, ¬ M p2 → vis M (upd (upd H1 p1 (TSet X.w p1 (addAll ys []))) p2 (.lst ((sortSet ys).map V.str))) p2 = some (.lst ((sortSet ys).map V.str)) := fun h => vis_iff.mpr ⟨h, upd_same⟩
    cases kx.nd with
    | true => exact ⟨p2, _, rfl, np3, upd_same, .lst (reps_strs _)⟩
    | false => exact .lst (at_ fun z => R1.new np3 (.inl z)) (reps_strs _)
  dsimp only at e3
  unfold bltD at e3
  split at e3
  all_goals try (exact absurd ‹Blt.sortset = _› (by decide))
  · rename_i xs hb
    obtain ⟨ys, w1, w2⟩ := Option.bind_eq_some_iff.mp e3
    split at w2
    · rename_i hz
      cases w2
      obtain ⟨p1, vs, e1, s1, kk⟩ := RV.kids_lst R R1 r1
      exact go e1 (.inl (.of s1)) (strs_rep kk.1 w1) hz rfl rfl
    · cases w2
  · rename_i xs hb
    obtain ⟨ys, w1, w2⟩ := Option.bind_eq_some_iff.mp e3
    split at w2
    · rename_i hz
      cases w2
      obtain ⟨p1, vs, e1, s1, kk⟩ := RV.kids_tup R R1 r1
      exact go e1 (.inr s1) (strs_rep kk.1 w1) hz rfl rfl
    · cases w2
  · cases e3
/-! ### index -/
theorem lidxD_some {d e : D} {i : Int} (h : lidxD d e = some i) : ∃ xs ys y j z, d = .lst xs ∧ D.pys xs = some ys ∧ e.py = some y ∧ SeqAt.shaped (.list ys) = true ∧ SeqAt.shaped y = true ∧ i = ((j : Nat) : Int) ∧ ys[j]? = some z ∧ PyData.eqv z y = true ∧ ∀ (m : Nat) (z' : PyData), m < j → ys[m]? = some z' → PyData.eqv z' y = false := by
  cases d <;> first | (cases h; done) | skip
  rename_i xs
  unfold lidxD at h
  dsimp only at h
  cases e1 : D.pys xs with
  | none =>
    rw [e1] at h
    cases h
  | some ys =>
    cases e2 : e.py with
    | none =>
      rw [e1, e2] at h
      cases h
    | some y =>
      rw [e1, e2] at h
      dsimp only at h
      split at h
      · rename_i hs
        rw [Bool.and_eq_true] at hs
        obtain ⟨j, h1, h2⟩ := Option.map_eq_some_iff.mp h
        obtain ⟨hj, p1, p2⟩ := List.findIdx?_eq_some_iff_getElem.mp h1
        refine ⟨xs, ys, y, j, ys[j], rfl, e1, rfl, hs.1, hs.2, h2.symm, List.getElem?_eq_getElem hj, p1, fun m z' hm hz => ?_⟩
        have hml : m < ys.length := by omega
        rw [List.getElem?_eq_getElem hml] at hz
        cases hz
        simpa using p2 m hm
      · cases h
theorem se_lidx {a c : Expr} {fa fc : List Slot → M (D × Kd)} {apos cpos : Pos} {k0 : Nat} (cx : CxOk k0 X) (ha : SE b cl X a fa) (hc : SE b cl X c fc) (hb : isCall0 a = false) (hs : isStar c = false) (hline : (apos.endLine == cpos.line) = true) :
    SE b cl X (.Call (.Attribute a "index" apos) [c] [] cpos) (fun ρ => bnd (fa ρ) fun p => bnd (fc ρ) fun q => bnd (opt (lidxD p.1 q.1)) fun i => ret (.int i, .clean)) := fun M₀ H₀ own ρ σ H g d k g' Q R B e q => by
  obtain ⟨⟨x, kx⟩, g1, h1, h⟩ := bnd_some e
  obtain ⟨⟨y, ky⟩, g2, h2, h⟩ := bnd_some h
  obtain ⟨r, g3, h3, h⟩ := bnd_some h
  have e3 := (opt_eq h3).1
  have e4 := (opt_eq h3).2
  subst e4
  cases h
  have hss : ([c].all fun e => !isStar e) = true := by simp [hs]
  have hu := cx.room.un
  dsimp only at e3
  obtain ⟨xs, ys, yd, j, z, rfl, p1, p2, s1, s2, rfl, z1, z2, z3⟩ := lidxD_some e3
  refine PE.wp (pe_bm PySem.F.plainAttrs_list PySem.F.slot_list_index PySem.F.type_list_index (mt_rM "list.index") pe_wp (pa_cons pe_wp pa_nil (star_no hs _ _)) (base_no hb) (few_args hss (by decide)) hline (star_no hs _ _) rfl) ?_
  refine ha M₀ H₀ own ρ σ H g _ kx g1 _ R B h1 fun v H1 x1 B1 r1 => ?_
  have R1 := R.move x1 B1.some
  obtain ⟨pa, vs, rfl, l1, _⟩ := RV.kids_lst R R1 r1
  refine ⟨.inl ⟨rfl, vs, .of l1⟩, hc M₀ H₀ own ρ σ H1 g1 _ ky _ _ R1 B1 h2 fun v2 H2 x2 B2 r2 => ?_⟩
  have R2 := R1.move x2 B2.some
  have r1' := RV.move R r1 x2
  have d1 := ((RV.any R R2 r1').mono (vis_sub _ _)).dp (y := .list ys) (by rw [D.py, p1]; rfl)
  have d2 := ((RV.any R1 R2 r2).mono (vis_sub _ _)).dp p2
  exact mtRm (X := X) (mt_indexD (by omega)) ⟨pa, _, yd, ys, j, z, rfl, rfl, d1, d2, s1, s2, z1, z2, z3, q _ _ (x1.trans x2) B2 (RV.of_atom (Hx := H2) (.int _) rfl)⟩
/-! ### split -/
theorem se_split {a c : Expr} {fa fc : List Slot → M (D × Kd)} {apos cpos : Pos} (ha : SE b cl X a fa) (hc : SE b cl X c fc) (hb : isCall0 a = false) (hs : isStar c = false) (hline : (apos.endLine == cpos.line) = true) :
    SE b cl X (.Call (.Attribute a "split" apos) [c] [] cpos) (fun ρ => bnd (fa ρ) fun p => bnd (fc ρ) fun q => bnd (opt (splitD p.1 q.1)) fun r => ret (r, .fresh)) := fun M₀ H₀ own ρ σ H g d k g' Q R B e q => by
  obtain ⟨⟨x, kx⟩, g1, h1, h⟩ := bnd_some e
  obtain ⟨⟨y, ky⟩, g2, h2, h⟩ := bnd_some h
  obtain ⟨r, g3, h3, h⟩ := bnd_some h
  have e3 := (opt_eq h3).1
  have e4 := (opt_eq h3).2
  subst e4
  cases h
  have hss : ([c].all fun e => !isStar e) = true := by simp [hs]
  refine PE.wp (pe_bm PySem.F.plainAttrs_str PySem.F.slot_str_split PySem.F.type_str_split (mt_rM "str.split") pe_wp (pa_cons pe_wp pa_nil (star_no hs _ _)) (base_no hb) (few_args hss (by decide)) hline (star_no hs _ _) rfl) ?_
  dsimp only at e3
  unfold splitD at e3
  split at e3
  · split at e3
    · rename_i hz
      cases e3
      refine ha M₀ H₀ own ρ σ H g _ kx g1 _ R B h1 fun v H1 x1 B1 r1 => ?_
      have R1 := R.move x1 B1.some
      cases r1.any R R1
      refine ⟨rfl, hc M₀ H₀ own ρ σ H1 g1 _ ky _ _ R1 B1 h2 fun v2 H2 x2 B2 r2 => ?_⟩
      have R2 := R1.move x2 B2.some
      cases r2.any R1 R2
      refine mtRm (X := X) mt_split ⟨_, _, rfl, rfl, hz.1, hz.2, fun p np => ?_⟩
      have x3 : Ext b H H2 := x1.trans x2
      refine q _ _ (x3.trans (Ext.new np)) (B2.new np) ?_
      have np0 : H p = none := by
        cases z : H p with
        | none => rfl
        | some o =>
          by_cases eb : p = b
          · rw [eb] at np
            exact absurd np B2.some
          · rw [x3 p o eb z] at np
            cases np
      exact ⟨p, _, rfl, np0, upd_same, .lst (reps_strs _)⟩
    · cases e3
  · cases e3
end
end Ev
set_option Elab.async false
set_option linter.all false
set_option autoImplicit false
/-! Ev17: sorted(.., key=rank), rank(x) being (len(x), x). -/
namespace Ev
open PySem PySem.Spec PyProof.Rows L2 M
/-- the body of a def that ranks by length, then by the value itself -/
def isRank (x : Str) : List Stmt → Bool
  | [.Return (some (.Tuple [.Call (.Name l _) [.Name y _] [] _, .Name z _] _ _)) _] => decide (l = "len") && decide (y = x) && decide (z = x)
  | _ => false
theorem isRank_of {x : Str} {body : List Stmt} (h : isRank x body = true) : ∃ p1 p2 p3 p4 k p5 p6, body = [.Return (some (.Tuple [.Call (.Name "len" p1) [.Name x p2] [] p3, .Name x p4] k p5)) p6] := by
  unfold isRank at h
  split at h
  · rw [Bool.and_eq_true, Bool.and_eq_true] at h
    obtain ⟨⟨h1, h2⟩, h3⟩ := h
    have h1 := of_decide_eq_true h1
    have h2 := of_decide_eq_true h2
    have h3 := of_decide_eq_true h3
    subst h1 h2 h3
    exact ⟨_, _, _, _, _, _, _, rfl⟩
  · cases h
theorem readsAll_len {h : Heap} : ∀ {vs : List Value} {ds : List PyData} {as : List Addr}, ReadsAll h vs ds as → vs.length = ds.length
  | _, _, _, .nil => rfl
  | _, _, _, .cons _ t => by rw [List.length_cons, List.length_cons, readsAll_len t]
section
variable {P : Program} {w : World} {K : PySem.W.Frag} {mg : Str → Option Value} {base : Heap}
/-- such a def, called with a tuple: the heap is kept -/
theorem rank_turn {x nm qual : Str} {st : Stmt} {f : Addr} {fd : FuncData} {A : Around} {s : Shared} {a : Addr} {its : List Value} {ys : List PyData} (F : Fun K nm qual st f fd) (S : FnScope [x] [x] (defScope st)) (hb : Binds K fd [x] []) (hr : isRank x (defBody st) = true)
    (hx : (defScope st).names.lookup x = some .local) (hl : (defScope st).names.lookup ("len" : Str) = some .globalImplicit) (hd : (x == ("__debug__" : Str)) = false) (md : Mod K mg base) (hm : mg "len" = none) (stays : ∀ b o, base.get? b = some o → s.heap.get? b = some o) (dp : A.depth < recursionLimit)
    (ht : IsTup s.heap a its.toArray) (hz : its.length ≤ sizeLine) (hy : ReadsAll s.heap its ys []) :
    wpAny (model P w) A (call (.ref f) [.ref a]) (PySem.W.KeyPure (.tuple [.int ys.length, .tuple ys]) s) (fun _ _ => False) s := by
  obtain ⟨oc, od, kV, doc, pm, an, cdv, ct, osl, rfl, lk, hcd⟩ := F.ex
  obtain ⟨p1, p2, p3, p4, kk, p5, p6, eb⟩ := isRank_of hr
  have KX : K.In s.heap := md.kin.keeps stays
  have bd := hb s [.ref a] KX rfl
  refine wpAny_call (codeAny_mono (R := fun r s' => ∃ u, r = .ok (.ret u) ∧ PySem.W.KeyPure (.tuple [.int ys.length, .tuple ys]) s u s') (codeAny_call_function dp (KX _ _ lk) rfl S.co S.gen rfl (PySem.W.codeRec_of KX hcd) (bd _ _ _ _ ?_)) fun r s' ⟨u, e, q⟩ => by rw [e]; exact q)
  refine wpAny_newFunctionEnv_cells S.kind (fun y hy => ?_) fun env he s1 ic => ?_
  · simp only [List.append_nil, List.zip_cons_cons, List.zip_nil_right, List.mem_singleton] at hy
    subst hy
    exact .inl hx
  subst he
  refine ⟨(md.nolimit.keeps stays).keeps ic.toInCall.keep, codeAny_func ?_⟩
  obtain ⟨h1, tk, e1⟩ := ic.toInCall.same
  have keep := ic.toInCall.keep
  have ns := ic.toInCall.ns
  have hv : bindL (envOfC qual (defScope st) s.heap.objs.size f cdv).kindOf ([x].zip ([.ref a] ++ [])) (fun _ => none) x = some (.ref a) := bindL_get (P := [x]) (vs := [.ref a]) (i := 0) (by simp) rfl rfl hx
  have kd : (envOfC qual (defScope st) s.heap.objs.size f cdv).scope.kind = .function := S.kind
  subst e1
  dsimp only at keep ns
  have lx : ∀ (tk : Nat) (pz : Pos) (E : Value → Shared → Prop) (Q : Value → Shared → Prop), Q (.ref a) { s with heap := h1, toks := tk } → wpAny (model P w) (A.deeper (envOfC qual (defScope st) s.heap.objs.size f cdv)) (eval (.Name x pz) (envOfC qual (defScope st) s.heap.objs.size f cdv)) Q E { s with heap := h1, toks := tk } := fun tk pz E Q q =>
    wpAny_Name (wpAny_loadName_local kd hx ns hv q) hd
  show wpAny (model P w) _ (execs (defBody st) _) _ _ _
  rw [eb]
  refine wpAny_execs_cons (wpAny_Return_some (wpAny_Tuple_spliced ?_))
  obtain ⟨mb, b1, b2⟩ := md.blt
  have st1 : ∀ b o, base.get? b = some o → h1.get? b = some o := fun b o e => keep b o (stays b o e)
  refine Calls.spliced_cons ?_
  refine wpAny_Call_Name_kw (Calls.Name_function_global kd hl (Calls.loadGlobal_builtin (md.glob.keeps st1) hm (b1.keeps st1) ((b2 "len" (by decide +kernel)).trans PySem.boot_len) ?_) (by decide +kernel))
  have ht1 : IsTup h1 a its.toArray := by
    obtain ⟨o, ho, r⟩ := ht
    exact ⟨o, keep a o ho, r⟩
  have sl : sizeLine = 16777216 := sizeLine_eq
  refine PyProof.Rows.callWith_builtin1 (Calls.spliced_cons (lx _ _ _ _ (Calls.spliced_nil (len_tuple ht1 (by simp only [List.size_toArray]; omega) ?_)))) rfl rfl
  refine Calls.spliced_cons (lx _ _ _ _ (Calls.spliced_nil ⟨by simp only [List.length_cons, List.length_nil]; omega, ?_⟩))
  refine ⟨_, rfl, _, _, rfl, fun b o e => Heap.get?_push_of_some _ (keep b o e), ?_⟩
  have lenE : its.length = ys.length := readsAll_len hy
  have hy1 : ReadsAll h1 its ys [] := ReadsAll.keeps keep hy
  show Reads (h1.push { cls := .type "tuple", data := .seq #[Value.int (its.toArray.size : Nat) (tk + 1), .ref a] }) (.ref h1.objs.size) (.tuple [.int ys.length, .tuple ys]) []
  have sz : its.toArray.size = ys.length := by rw [List.size_toArray, lenE]
  rw [sz]
  obtain ⟨o, ho, hc, n, hd2⟩ := ht1
  have r1 : Reads (h1.push { cls := .type "tuple", data := .seq #[Value.int (ys.length : Nat) (tk + 1), .ref a] }) (.ref a) (.tuple ys) [] := .tuple (Heap.get?_push_of_some _ ho) hc hd2 (by simpa using ReadsAll.keeps (fun b o e => Heap.get?_push_of_some _ e) hy1)
  exact .tuple (Heap.get?_push_size _ rfl) rfl rfl (.cons (as := []) (bs := []) (.int _ _) (.cons (as := []) (bs := []) r1 .nil))
/-- what is known of such a def -/
def RankFact (X : Cx) (f : Str) : Prop := ∃ (fa : Addr) (fd : FuncData) (x nm qual : Str) (st : Stmt), X.mg f = some (.ref fa) ∧ Fun X.K nm qual st fa fd ∧ FnScope [x] [x] (defScope st) ∧ Binds X.K fd [x] [] ∧ isRank x (defBody st) = true ∧
  (defScope st).names.lookup x = some .local ∧ (defScope st).names.lookup ("len" : Str) = some .globalImplicit ∧ (x == ("__debug__" : Str)) = false ∧ X.mg "len" = none
end
section
variable {X : Cx} {b : Addr} {cl : Cls}
theorem flat_reads {G : Gx} {H : Hp} {h : Heap} : ∀ {vs : List V} {ds : List D} {us : List Value}, Reps G H vs ds → ds.all D.flat = true → Vals vs us → ReadsAll h us (ds.map pyD) []
  | _, _, _, .nil, _, .nil => .nil
  | _, _, _, .cons r t, f, .cons q z => by
    rw [List.all_cons, Bool.and_eq_true] at f
    refine .cons (as := []) (bs := []) ?_ (flat_reads t f.2 z)
    cases r with
    | non =>
      cases q
      exact .none
    | bl b =>
      cases q
      exact .bool b
    | int i =>
      obtain ⟨t, rfl⟩ := q
      exact .int i t
    | str x =>
      obtain ⟨t, rfl⟩ := q
      exact .str x t
    | tup _ _ => cases f.1
    | lst _ _ => cases f.1
    | ins _ _ _ => cases f.1
    | bag => cases f.1
theorem flat_pys : ∀ {ds : List D}, ds.all D.flat = true → D.pys ds = some (ds.map pyD)
  | [], _ => rfl
  | d :: ds, f => by
    rw [List.all_cons, Bool.and_eq_true] at f
    have h1 : d.py = some (pyD d) := by
      cases d <;> first | rfl | (cases f.1)
    rw [D.pys, h1, flat_pys f.2]
    rfl
theorem rank_py {ds : List D} (f : ds.all D.flat = true) : pyD (rankD (.tup ds)) = .tuple [.int ((ds.map pyD).length : Nat), .tuple (ds.map pyD)] := by
  have e : (rankD (.tup ds)).py = some (.tuple [.int (ds.length : Nat), .tuple (ds.map pyD)]) := by
    unfold rankD
    simp only [D.py, D.pys, flat_pys f, lenD, Option.map_some, Option.getD_some]
  rw [List.length_map]
  show (rankD (.tup ds)).py.getD .none = _
  rw [e]
  rfl
theorem crk_srt {k0 : Nat} (cx : CxOk k0 X) {f : Str} {ok : Bool} {M₀ : Addr → Prop} {own : Nat → Addr} {ρ : List Slot} (rf : RankFact X f) : ∃ fa, X.mg f = some (.ref fa) ∧ CallRK X (.builtin "sorted") [Str.ofString "key"] (fun vs zs H Q => ∃ a xs ds d', vs = [.ref a] ∧ zs = [.ref fa] ∧ H a = some (.lst xs) ∧ Kids (gx X b cl) M₀ own ρ H xs ds ok ∧ srtD (.lst ds) = some (.lst d') ∧
    ∀ p ws, H p = none → Kids (gx X b cl) M₀ own ρ H ws d' ok → Q (.ref p) (upd H p (.lst ws))) := by
  obtain ⟨fa, fd, x, nm, qual, st, hm, F, S, hb, hr, hx, hl, hd, hml⟩ := rf
  refine ⟨fa, hm, ?_⟩
  have hu := cx.room.un
  intro pins s σ H vs zs us ws Q I rv rz h
  obtain ⟨a, xs, ds, d', rfl, rfl, ha, hk, hs, q⟩ := h
  obtain ⟨u, rfl, ru⟩ := vals1 rv
  cases ru
  obtain ⟨u2, rfl, ru2⟩ := vals1 rz
  cases ru2
  obtain ⟨its, rl, pl, hz⟩ := I.list (.of ha)
  unfold srtD at hs
  obtain ⟨ys, e1, e2⟩ := Option.bind_eq_some_iff.mp hs
  split at e2
  · rename_i hc
    rw [Bool.and_eq_true] at hc
    cases e2
    obtain ⟨w1, w2, w3⟩ := sortOk_some hc.1
    have eM : (xs.zip ds).map (fun p => pyD (rankD p.2)) = ys := by
      rw [pys_map e1, List.map_map, ← snd_zip hk.length, List.map_map, snd_zip hk.length]
      rfl
    refine PySem.W.sorted_key_data (b := false) (R := fun u (p : V × D) => RelV p.1 u) (fun p : V × D => pyD (rankD p.2)) (bs := xs.zip ds) pl.isList (each_vals rl hk.length) (by rw [eM]; exact w1) (by rw [eM]; exact w2) (by rw [List.length_zip]; omega) (fun p hm => ?_) (ksk_s1 _ _) (fun _ => ksk_l1 _ _) (fun _ => ksk_t1 _ _)
      (fun v p hR hp h tk keep => ?_) fun out c h' tk keep _ ho hlen eo => ?_
    · have hy : pyD (rankD p.2) ∈ ys := by
        rw [← eM]
        exact List.mem_map_of_mem hm
      have := w3 _ hy
      omega
    · have rp := pairs_reps (hk.1.mono (vis_sub _ _)) p hp
      obtain ⟨v0, d0⟩ := p
      have hd0 : flatTup d0 = true := List.all_eq_true.mp hc.2 d0 (List.of_mem_zip hp).2
      cases d0 <;> first | (cases hd0; done) | skip
      rename_i es
      cases rp with
      | tup hq hr2 =>
        rename_i t ws
        cases hR
        obtain ⟨its2, rv2, it2, z2⟩ := I.tuple hq
        show wpAny _ _ _ (PySem.W.KeyPure (pyD (rankD (.tup es))) _) _ _
        rw [rank_py hd0]
        have it3 : IsTup h t its2.toArray := by
          obtain ⟨o, ho, r⟩ := it2
          exact ⟨o, keep t o ho, r⟩
        have dp := cx.room.depth
        exact rank_turn (s := { s with heap := h, toks := tk }) F S hb hr hx hl hd I.mod hml (fun b o e => keep b o (I.bk b o e)) dp it3 (by rw [← rv2.length]; exact z2) (flat_reads hr2 hd0 rv2)
    · have rv3 := vals_each eo
      have np : H (s.heap.objs.size + 1) = none := I.hok.fresh (Nat.le_succ _)
      refine ⟨.ref (s.heap.objs.size + 1), _, sorted_laid (tk := tk) I keep (Nat.le_succ _) ho rv3 ?_, rfl, q _ _ np (kids_sorted (fun x => pyD (rankD x)) hk)⟩
      have := rv3.length
      rw [hlen, List.length_zip] at this
      omega
  · cases e2
theorem se_srt {a : Expr} {fa : List Slot → M (D × Kd)} {f : Str} {p pk kp pos : Pos} {k0 : Nat} (cx : CxOk k0 X) (hg : Gl X "sorted") (hm : X.mg "sorted" = none) (hgf : Gl X f) (hdf : (f == ("__debug__" : Str)) = false) (rf : RankFact X f) (ha : SE b cl X a fa) (hs : isStar a = false) :
    SE b cl X (.Call (.Name "sorted" p) [a] [⟨some "key", .Name f pk, kp⟩] pos) (fun ρ => bnd (fa ρ) fun p => bnd (opt (srtD p.1)) fun r => ret (r, Kd.fresh.by r p.2.nd)) := fun M₀ H₀ own ρ σ H g d k g' Q R B e q => by
  obtain ⟨⟨x, kx⟩, g1, h1, h⟩ := bnd_some e
  obtain ⟨r, g3, h3, h⟩ := bnd_some h
  have e3 := (opt_eq h3).1
  have e4 := (opt_eq h3).2
  subst e4
  cases h
  obtain ⟨fa', hmf, ck⟩ := crk_srt (b := b) (cl := cl) (M₀ := M₀) (own := own) (ρ := ρ) (ok := kx.nd) cx rf
  have e9 : ∀ pos : Pos, backTo pos (starEach [a] X.env) = (false, eval a X.env) :: backTo pos (starEach [] X.env) := fun pos => by
    rw [star_no hs]
    rfl
  refine PE.wp (pe_callBK ck hg hm (by decide +kernel) (pa_cons pe_wp pa_nil (star_no hs _ _)) (pk_cons (pe_glob hgf hmf (v := .ref fa') rfl hdf) pk_nil) (by decide +kernel) (by decide +kernel) (e9 _) (by rw [e9]; rfl) rfl rfl rfl) ?_
  refine ha M₀ H₀ own ρ σ H g x kx _ _ R B h1 fun v H1 x1 B1 r1 => ?_
  have R1 := R.move x1 B1.some
  have el : ∃ xs d', x = .lst xs ∧ d = .lst d' := by
    cases x <;> first | (cases e3; done) | skip
    unfold srtD at e3
    obtain ⟨ys, w1, w2⟩ := Option.bind_eq_some_iff.mp e3
    split at w2
    · cases w2
      exact ⟨_, _, rfl, rfl⟩
    · cases w2
  obtain ⟨xs, d', rfl, rfl⟩ := el
  obtain ⟨p1, vs, rfl, s1, kk⟩ := RV.kids_lst R R1 r1
  have W : Wants (gx X b cl) M₀ own ρ H1 g' (.lst d') (if kx.nd then .fresh else .dirty) Q := fun v H' x9 B9 r9 => q v H' (x1.trans x9) B9 (by
    rw [by_lst]
    exact r9.ahead R x1 B1.some)
  exact ⟨p1, vs, xs, d', rfl, rfl, s1, kk, e3, fun p2 ws np kw => W.lst R1 B1 kw p2 np⟩
end
end Ev
set_option Elab.async false
set_option linter.all false
set_option autoImplicit false
/-! EvB: the bag's own reading and writing. -/
namespace Ev
open PySem PySem.Spec PyProof.Rows L2 M
theorem isBag_var {s : Nat} {ρ : List Slot} (h : isBag s ρ = true) (g : Bag) : varM s ρ g = some ((.bag, .clean), g) := by
  unfold isBag at h
  split at h
  · rename_i e
    unfold varM
    rw [e]
    rfl
  · cases h
theorem Bag.okB_ok {g : Bag} (h : g.okB = true) : g.ok := by
  unfold Bag.okB at h
  simp only [Bool.and_eq_true, decide_eq_true_eq, List.all_eq_true] at h
  obtain ⟨⟨⟨⟨⟨h1, h2⟩, h3⟩, h4⟩, h5⟩, h6⟩ := h
  exact ⟨h1, h2, h3, h4, h5, h6⟩
section
variable {X : Cx} {b : Addr} {cl : Cls}
/-- x[i] where x is the bag -/
theorem bag_ix {s : Nat} {x : Str} {i : Int} {j : Nat} {px pc pos : Pos} (hN : X.N[s]? = some x) (hv : Vis X.env.scope x) (hd : (x == ("__debug__" : Str)) = false) (hc : (x == ("__classdict__" : Str)) = false)
    {M₀ : Addr → Prop} {H₀ : Hp} {own : Nat → Addr} {ρ : List Slot} {σ : L2.St} {H : Hp} {g : Bag} {v : V} {Q : VK} (hb : isBag s ρ = true) (R : Rel (gx X b cl) M₀ H₀ own ρ σ H) (B : BagAt (gx X b cl) H g)
    (e : atI [V.int g.d, .int g.m, .int g.c, .ref cl.bc] i = some v) (q : ∀ H', Ext b H H' → BagAt (gx X b cl) H' g → Q v H') : wpE X (.Subscript (.Name x px) (.Constant (.int i) j pc) pos) σ H Q := by
  refine PE.wp (pe_ix ix_list pe_wp pe_wp (plain_ix rfl)) ?_
  refine se_var hN hv hd hc M₀ H₀ own ρ σ H g .bag .clean g _ R B (isBag_var hb g) fun u H1 x1 B1 r1 => ?_
  refine se_int (b := b) (cl := cl) M₀ H₀ own ρ σ H1 g (.int i) .clean g _ (R.move x1 B1.some) B1 rfl fun w H2 x2 B2 r2 => ?_
  have r1' : Rep (gx X b cl) (vis (hid M₀ own ρ) H1) u .bag := r1
  have r2' : Rep (gx X b cl) (vis (hid M₀ own ρ) H2) w (.int i) := r2
  cases r1'
  cases r2'
  exact ⟨_, _, i, v, rfl, rfl, .of B2.at_.2.1, e, q H2 (x1.trans x2) B2⟩
theorem se_bget {s i : Nat} {x : Str} {j : Nat} {px pc pos : Pos} (hN : X.N[s]? = some x) (hv : Vis X.env.scope x) (hd : (x == ("__debug__" : Str)) = false) (hc : (x == ("__classdict__" : Str)) = false) :
    SE b cl X (.Subscript (.Name x px) (.Constant (.int i) j pc) pos) (bgetM s i) := fun M₀ H₀ own ρ σ H g d k g' Q R B h q => by
  obtain ⟨hb, h⟩ := guard_eq h
  obtain ⟨v, e, h⟩ := Option.map_eq_some_iff.mp h
  cases h
  refine bag_ix hN hv hd hc hb R B (v := .int v) ?_ fun H' x9 B9 => q _ _ x9 B9 (.int v)
  match i, e with
  | 0, e =>
    cases e
    rfl
  | 1, e =>
    cases e
    rfl
  | 2, e =>
    cases e
    rfl
theorem se_bcell {s : Nat} {x y : Str} {j j' : Nat} {px pc pos py pd pos' pp : Pos} (hN : X.N[s]? = some x) (hv : Vis X.env.scope x) (hd : (x == ("__debug__" : Str)) = false) (hc : (x == ("__classdict__" : Str)) = false) :
    SE b cl X (.Subscript (.Subscript (.Name x px) (.Constant (.int 3) j pc) pos) (.Subscript (.Name x py) (.Constant (.int 2) j' pd) pos') pp) (bcellM s) := fun M₀ H₀ own ρ σ H g d k g' Q R B h q => by
  obtain ⟨hb, h⟩ := guard_eq h
  obtain ⟨v, e, h⟩ := Option.map_eq_some_iff.mp h
  cases h
  refine PE.wp (pe_ix ix_list pe_wp pe_wp (plain_ix rfl)) ?_
  refine bag_ix hN hv hd hc hb R B (v := .ref cl.bc) rfl fun H1 x1 B1 => ?_
  refine bag_ix hN hv hd hc hb (R.move x1 B1.some) B1 (v := .int g.c) rfl fun H2 x2 B2 => ?_
  refine ⟨_, _, _, .int v, rfl, rfl, .of B2.at_.2.2, ?_, q _ _ (x1.trans x2) B2 (.int v)⟩
  obtain ⟨n, h1, h2⟩ := atI_get e
  unfold atI
  rw [List.length_map, h1]
  show (g.cells.map V.int)[n]? = _
  rw [List.getElem?_map, h2]
  rfl
theorem se_blen {s : Nat} {x : Str} {j : Nat} {px pc pos p pp : Pos} {k0 : Nat} (cx : CxOk k0 X) (hg : Gl X "len") (hm : X.mg "len" = none) (hN : X.N[s]? = some x) (hv : Vis X.env.scope x) (hd : (x == ("__debug__" : Str)) = false) (hc : (x == ("__classdict__" : Str)) = false) :
    SE b cl X (.Call (.Name "len" p) [.Subscript (.Name x px) (.Constant (.int 3) j pc) pos] [] pp) (blenM s) := fun M₀ H₀ own ρ σ H g d k g' Q R B h q => by
  obtain ⟨hb, h⟩ := guard_eq h
  cases h
  refine PE.wp (pe_blt (f := .len) (cr_rC _) hg hm pe_wp rfl) ?_
  refine bag_ix hN hv hd hc hb R B (v := .ref cl.bc) rfl fun H1 x1 B1 => ?_
  exact callRc call_len ⟨_, _, rfl, .inl ⟨_, .of B1.at_.2.2, by rw [List.length_map]⟩, q _ _ x1 B1 (.int _)⟩
/-- x[i] of a list, by values -/
def rGetL (K : PySem.W.Frag) : V → V → Hp → VK → Prop := fun o i H Q => ∃ p xs n v, o = .ref p ∧ i = .int (n : Nat) ∧ H p = some (.lst xs) ∧ xs[n]? = some v ∧ Q v H
theorem get_rGetL : PGet X (rGetL X.K) := by
  intro pins s σ H o i ov iv Q I ro ri h
  obtain ⟨p, xs, n, v, rfl, rfl, hp, hx, q⟩ := h
  cases ro
  obtain ⟨t, rfl⟩ := ri
  obtain ⟨its, r, pl, hz⟩ := I.list (.of hp)
  obtain ⟨w, ew, rw'⟩ := r.get hx
  have hn : n < xs.length := (List.getElem?_eq_some_iff.mp hx).1
  have hs : sizeLine = 16777216 := sizeLine_eq
  exact wpAny_getItem_list (x := w) pl.isList (by omega) (by omega) (by simpa using ew) ⟨v, H, I, rw', q⟩
/-- the bag is written -/
theorem bag_put {G : Gx} {H : Hp} {g g' : Bag} {i : Nat} {v : Int} (B : BagAt G H g) (h : g.put i v = some g') (ok : g'.okB = true) :
    ∃ xs, H G.b = some (.lst xs) ∧ i < xs.length ∧ BagAt G (upd H G.b (.lst (xs.set i (.int v)))) g' ∧ Ext G.b H (upd H G.b (.lst (xs.set i (.int v)))) := by
  obtain ⟨h1, h2, h3⟩ := B.at_
  refine ⟨_, h2, ?_, ⟨⟨h1, ?_, ?_⟩, Bag.okB_ok ok⟩, fun a o n z => by rw [upd_ne n]; exact z⟩
  · match i, h with
    | 0, _ => show 0 < 4; omega
    | 1, _ => show 1 < 4; omega
    | 2, _ => show 2 < 4; omega
  · rw [upd_same]
    match i, h with
    | 0, h =>
      cases h
      rfl
    | 1, h =>
      cases h
      rfl
    | 2, h =>
      cases h
      rfl
  · rw [upd_ne h1]
    match i, h with
    | 0, h =>
      cases h
      exact h3
    | 1, h =>
      cases h
      exact h3
    | 2, h =>
      cases h
      exact h3
theorem bsetM_some {s i : Nat} {v : Int} {ρ : List Slot} {g g' : Bag} {u : Unit} (h : bsetM s i v ρ g = some (u, g')) : isBag s ρ = true ∧ g.put i v = some g' ∧ g'.okB = true := by
  obtain ⟨hb, h⟩ := guard_eq h
  obtain ⟨g1, e1, h⟩ := Option.bind_eq_some_iff.mp h
  split at h
  · rename_i ok
    cases h
    exact ⟨hb, e1, ok⟩
  · cases h
theorem ixN_nat {n i : Nat} (h : i < n) : ixN n (i : Int) = some i := by
  unfold ixN
  rw [if_pos (by omega), if_pos (by omega)]
  simp
def notLc (e : Expr) : Bool := !isComp e && (match e with
  | .Tuple .. => false
  | _ => true)
theorem ss_bset {s i : Nat} {x : Str} {e : Expr} {f : List Slot → M (D × Kd)} {j : Nat} {px pc tp pos : Pos} (hN : X.N[s]? = some x) (hv : Vis X.env.scope x) (hd : (x == ("__debug__" : Str)) = false) (hc : (x == ("__classdict__" : Str)) = false) (he : SE b cl X e f) (hl : notLc e = true) :
    SS b cl X (.Assign [.Subscript (.Name x px) (.Constant (.int i) j pc) tp] e pos) (fun ρ => bnd (f ρ) fun p => bnd (intM p.1) fun v => bnd (bsetM s i v ρ) fun _ => ret (.nx ρ)) := fun M₀ H₀ own ρ σ H g l g' Z R B h q => by
  obtain ⟨⟨d, k⟩, g1, e1, h⟩ := bnd_some h
  obtain ⟨v, g2, e2, h⟩ := bnd_some h
  obtain ⟨u, g3, e3, h⟩ := bnd_some h
  cases h
  obtain ⟨hi, rfl⟩ := intM_eq e2
  dsimp only at hi
  subst hi
  obtain ⟨hb, h1, h2⟩ := bsetM_some e3
  unfold notLc at hl
  rw [Bool.and_eq_true] at hl
  have sw : swapsWithSole [.Subscript (.Name x px) (.Constant (.int i) j pc) tp] e pos.line X.env = pure false := by
    have q := hl.1
    cases e <;> first | rfl | (cases q; done)
  have ss : swappedStores [.Subscript (.Name x px) (.Constant (.int i) j pc) tp] e X.env = pure none := by
    have q := hl.2
    cases e <;> first | rfl | (cases q; done)
  refine PS.wp (ps_asg pe_wp (pg_sub pe_wp pe_wp set_list) sw ss) (he M₀ H₀ own ρ σ H g _ k _ _ R B e1 fun w H1 x1 B1 r1 => ?_)
  have R1 := R.move x1 B1.some
  cases r1.any R R1
  refine se_var hN hv hd hc M₀ H₀ own ρ σ H1 _ .bag .clean _ _ R1 B1 (isBag_var hb _) fun o H2 x2 B2 r2 => ?_
  have R2 := R1.move x2 B2.some
  refine se_int (b := b) (cl := cl) M₀ H₀ own ρ σ H2 _ (.int i) .clean _ _ R2 B2 rfl fun w H3 x3 B3 r3 => ?_
  have R3 := R2.move x3 B3.some
  have r2' : Rep (gx X b cl) (vis (hid M₀ own ρ) H2) o .bag := r2
  have r3' : Rep (gx X b cl) (vis (hid M₀ own ρ) H3) w (.int i) := r3
  cases r2'
  cases r3'
  obtain ⟨xs, a1, a2, a3, a4⟩ := bag_put B3 h1 h2
  exact ⟨_, xs, _, i, rfl, rfl, a1, ixN_nat a2, q own σ _ (R3.move a4 a3.some) a3 (R.sub (((x1.trans x2).trans x3).trans a4))⟩
theorem ss_baug {s i : Nat} {x : Str} {c : Int} {j j' : Nat} {px pc tp pe pos : Pos} (hN : X.N[s]? = some x) (hv : Vis X.env.scope x) (hd : (x == ("__debug__" : Str)) = false) (hc : (x == ("__classdict__" : Str)) = false) :
    SS b cl X (.AugAssign (.Subscript (.Name x px) (.Constant (.int i) j pc) tp) .Add (.Constant (.int c) j' pe) pos) (fun ρ => bnd (bgetM s i ρ) fun p => bnd (intM p.1) fun v => bnd (bsetM s i (v + c) ρ) fun _ => ret (.nx ρ)) := fun M₀ H₀ own ρ σ H g l g' Z R B h q => by
  obtain ⟨⟨d, k⟩, g1, e1, h⟩ := bnd_some h
  obtain ⟨v, g2, e2, h⟩ := bnd_some h
  obtain ⟨u, g3, e3, h⟩ := bnd_some h
  cases h
  obtain ⟨hi, rfl⟩ := intM_eq e2
  dsimp only at hi
  subst hi
  obtain ⟨hb, h1, h2⟩ := bsetM_some e3
  obtain ⟨_, e1⟩ := guard_eq e1
  obtain ⟨v', e4, e1⟩ := Option.map_eq_some_iff.mp e1
  cases e1
  refine PS.wp (ps_augS pe_wp pe_wp get_rGetL pe_wp ip_add set_list) ?_
  refine se_var hN hv hd hc M₀ H₀ own ρ σ H _ .bag .clean _ _ R B (isBag_var hb _) fun o H2 x2 B2 r2 => ?_
  have R2 := R.move x2 B2.some
  refine se_int (b := b) (cl := cl) M₀ H₀ own ρ σ H2 _ (.int i) .clean _ _ R2 B2 rfl fun w H3 x3 B3 r3 => ?_
  have R3 := R2.move x3 B3.some
  have r2' : Rep (gx X b cl) (vis (hid M₀ own ρ) H2) o .bag := r2
  have r3' : Rep (gx X b cl) (vis (hid M₀ own ρ) H3) w (.int i) := r3
  cases r2'
  cases r3'
  refine ⟨_, _, i, .int v, rfl, rfl, B3.at_.2.1, ?_, ?_⟩
  · match i, e4 with
    | 0, e4 =>
      cases e4
      rfl
    | 1, e4 =>
      cases e4
      rfl
    | 2, e4 =>
      cases e4
      rfl
  refine se_int (b := b) (cl := cl) M₀ H₀ own ρ σ H3 _ (.int c) .clean _ _ R3 B3 rfl fun w H4 x4 B4 r4 => ?_
  have R4 := R3.move x4 B4.some
  have r4' : Rep (gx X b cl) (vis (hid M₀ own ρ) H4) w (.int c) := r4
  cases r4'
  obtain ⟨xs, a1, a2, a3, a4⟩ := bag_put B4 h1 h2
  exact ⟨v, c, rfl, rfl, _, xs, _, i, rfl, rfl, a1, ixN_nat a2, q own σ _ (R4.move a4 a3.some) a3 (R.sub (((x2.trans x3).trans x4).trans a4))⟩
/-- return f(..): whatever is one's own ends here -/
theorem RR.ahead {G : Gx} {M₀ : Addr → Prop} {H₀ H H' : Hp} {v : V} {d : D} {k : Kd} (x : Ext G.b H₀ H) (nb : H G.b ≠ none) (h : RR G M₀ H H' v d k) : RR G M₀ H₀ H' v d k := by
  cases k with
  | clean => exact h
  | fresh =>
    obtain ⟨p, o, rfl, hp, ho, c⟩ := h
    refine ⟨p, o, rfl, ?_, ho, c⟩
    cases z : H₀ p with
    | none => rfl
    | some u =>
      by_cases e : p = G.b
      · rw [e] at hp
        exact absurd hp nb
      · rw [x p u e z] at hp
        cases hp
  | own => exact h.elim
  | dirty => exact h.elim
theorem ss_retc {x : Str} {a : Expr} {es : List Expr} {fa : List Slot → M (List D × Bool)} {F : List D → M (D × Kd)} {p pos pos' : Pos} {k0 : Nat} (cx : CxOk k0 X) (ff : FnFact b cl X k0 x F) (hg : Gl X x) (hd : (x == ("__debug__" : Str)) = false) (ha : SA b cl X (a :: es) fa)
    (hs : isStar a = false) (hss : es.all (fun e => !isStar e) = true) :
    SS b cl X (.Return (some (.Call (.Name x p) (a :: es) [] pos)) pos') (fun ρ => bnd (fa ρ) fun q => bnd (F q.1) fun r => ret (.rt r.1 r.2)) := fun M₀ H₀ own ρ σ H g l g' Z R B e q => by
  obtain ⟨⟨ds, ok⟩, g1, h1, e⟩ := bnd_some e
  obtain ⟨⟨d, k⟩, g2, h2, e⟩ := bnd_some e
  cases e
  refine PS.wp (ps_ret pe_wp) ?_
  obtain ⟨f, fd, ps, hm, hk, hb, hF⟩ := ff
  intro pins s I
  refine wpAny_Call_Name_kw (ld_glob I hg hm ?_ hd)
  refine PySem.W.callWith_K (h₀ := X.base) I.ok.mod.kin hk ?_ (star_no hs _ _) (stars_no hss)
  refine thn (ha M₀ H₀ own ρ σ H g ds ok g1 (fun vs H1 => spF (gx X b cl) F vs H1 _) R B h1 (fun vs H1 x1 B1 r1 => ?_) pos pins s I) fun us s1 ⟨vs, H1, I1, r, z⟩ => ⟨I1.kIn, runG hF cx.room cx.gd hb I1 r z⟩
  have R1 := R.move x1 B1.some
  exact ⟨M₀, ds, g1, _, d, k, R1.hb, R1.hbc, R1.dom, B1, r1.1, h2, fun v H' x9 B9 r9 => q v H' (R1.ext.trans x9) B9 (r9.ahead R1.ext B1.some)⟩
end
end Ev
set_option Elab.async false
set_option linter.all false
set_option autoImplicit false
/-! EvC: instances: fields, properties, methods, making; isinstance; constants of the module. -/
namespace Ev
open PySem PySem.Spec PyProof.Rows L2 M
/-- a class of the program: its name, its fields as __init__ stores them, its methods, its properties -/
structure ClsT where
  nm : Str
  flds : List Str
  mths : List Str
  prps : List Str
section
variable (b : Addr) (cl : Cls) (X : Cx) (k0 : Nat)
def MethFact (A : Addr) (m : Str) (F : List D → M (D × Kd)) : Prop := ∃ (f : Addr) (fd : FuncData) (ps : List Str), Meth X.K A m f ∧ PySem.W.fnIn X.K f = true ∧ Binds X.K fd ps [] ∧ FnG X.prog X.w X.K X.mg X.base k0 f fd ps (spF (gx X b cl) F)
/-- .. one level down, as the machine itself calls it -/
def Meth1Fact (A : Addr) (m : Str) (F : List D → M (D × Kd)) : Prop := (∀ ds, F ds = fail) ∨ ∃ (f : Addr) (fd : FuncData) (ps : List Str) (k1 : Nat), k1 + 1 ≤ k0 ∧ Meth X.K A m f ∧ PySem.W.fnIn X.K f = true ∧ Binds X.K fd ps [] ∧ FnG X.prog X.w X.K X.mg X.base k1 f fd ps (spF (gx X b cl) F)
def PropFact (A : Addr) (x : Str) (F : List D → M (D × Kd)) : Prop := (∀ ds, F ds = fail) ∨ ∃ (p g : Addr) (fd : FuncData) (ps : List Str) (k1 : Nat), k1 + 1 ≤ k0 ∧ PropOf X.K A x p g ∧ Binds X.K fd ps [] ∧ FnG X.prog X.w X.K X.mg X.base k1 g fd ps (spF (gx X b cl) F)
/-- the promise of __init__: the new instance x, its dict dx -/
def spI (G : Gx) (A : Addr) (F : List D → M (D × Kd)) : SpT := fun vs H Q => ∃ (M₀ : Addr → Prop) (ds : List D) (g g' : Bag) (d : D) (x dx : Addr) (H1 : Hp) (ws : List V), vs = .ref x :: ws ∧ H1 x = none ∧ H1 dx = none ∧ dx ≠ x ∧ H = upd (upd H1 dx (.own x)) x (.ins A dx []) ∧
  M₀ G.b ∧ M₀ G.cl.bc ∧ (∀ a, M₀ a → H1 a ≠ none) ∧ BagAt G H1 g ∧ Reps G (vis M₀ H1) ws ds ∧ F ds g = some ((d, .fresh), g') ∧
  ∀ H' o, Ext G.b H1 H' → BagAt G H' g' → H' x = some o → Cell G (vis (fun a => M₀ a ∨ a = x) H') o d → Q .non H'
def InitFact (A : Addr) (F : List D → M (D × Kd)) : Prop := (∀ ds, F ds = fail) ∨ ∃ (f : Addr) (fd : FuncData) (ps : List Str) (k1 : Nat), k1 + 1 ≤ k0 ∧ Mk X.K A f ∧ Binds X.K fd ps [] ∧ FnG X.prog X.w X.K X.mg X.base k1 f fd ps (spI (gx X b cl) A F) ∧ (∀ ds g d k g', F ds g = some ((d, k), g') → k = .fresh)
structure ClsOk (C : Calls) (c : Nat) (A : Addr) (T : ClsT) : Prop where
  cls : L2.Cls X.K A
  mg : X.mg T.nm = some (.ref A)
  no : ∀ x, x ∈ T.flds → NoAttr X.K A x
  mth : ∀ m, m ∈ T.mths → m ∉ T.flds ∧ MethFact b cl X k0 A m (C (.m c m))
  prp : ∀ x, x ∈ T.prps → PropFact b cl X k0 A x (C (.p c x))
  ini : InitFact b cl X k0 A (C (.i c))
  sf : PySem.W.selfFirst X.K A = true
  mth1 : ∀ m, m ∈ T.mths → Meth1Fact b cl X k0 A m (C (.p c m))
  nom : ∀ m, m ∉ T.mths → m ∉ T.prps → m ≠ "__init__" → (∀ ds, C (.m c m) ds = fail) ∧ ∀ ds, C (.p c m) ds = fail
structure ClsFacts (C : Calls) (cls : List ClsT) : Prop where
  at_ : ∀ c A ns, cl.at_ c = some (A, ns) → ∃ T, cls[c]? = some T ∧ ns = T.flds ∧ ClsOk b cl X k0 C c A T
  of : ∀ c T, cls[c]? = some T → ∃ A, cl.at_ c = some (A, T.flds)
end
section
variable {X : Cx} {b : Addr} {cl : Cls} {C : Calls} {cls : List ClsT} {k0 : Nat}
/-! ### fields and properties -/
theorem prefix_lookup : ∀ {fs : List (Str × V)} {ns : List Str} {j : Nat} {x : Str} {v : V}, ns.Nodup → fs.map (·.1) <+: ns → ns[j]? = some x → (fs.map (·.2))[j]? = some v → fs.lookup x = some v
  | [], ns, j, x, v, _, _, _, e => by simp at e
  | (y, w) :: fs, [], j, x, v, _, _, hx, _ => by simp at hx
  | (y, w) :: fs, n :: ns, 0, x, v, nd, hp, hx, e => by
    simp at hx e hp
    obtain ⟨rfl, _⟩ := hp
    subst hx e
    simp
  | (y, w) :: fs, n :: ns, j + 1, x, v, nd, hp, hx, e => by
    simp at hx e
    obtain ⟨n1, n2⟩ := List.nodup_cons.mp nd
    rw [List.map_cons, List.cons_prefix_cons] at hp
    obtain ⟨rfl, hp⟩ := hp
    have ne : (x == y) = false := by
      have hm : x ∈ ns := List.mem_of_getElem? hx
      simp
      rintro rfl
      exact n1 hm
    rw [List.lookup_cons, ne]
    exact prefix_lookup n2 hp hx (by simpa using e)
theorem lookup_none {fs : List (Str × V)} {ns : List Str} {x : Str} (hp : fs.map (·.1) <+: ns) (h : x ∉ ns) : fs.lookup x = none := by
  rw [List.lookup_eq_none_iff]
  intro p hp'
  have : p.1 ∈ ns := hp.subset (List.mem_map_of_mem hp')
  simp
  rintro rfl
  exact h this
/-- the object behind an instance's value -/
theorem RV.ins_at {G : Gx} {M₀ : Addr → Prop} {H₀ H H' : Hp} {own : Nat → Addr} {ρ : List Slot} {σ : L2.St} {v : V} {c : Nat} {ds : List D} {k : Kd} (R : Rel G M₀ H₀ own ρ σ H) (R' : Rel G M₀ H₀ own ρ σ H') (h : RV G M₀ own ρ H H' v (.ins c ds) k) :
    ∃ a A dx fs ns, v = .ref a ∧ H' a = some (.ins A dx fs) ∧ G.cl.at_ c = some (A, ns) ∧ fs.map (·.1) <+: ns ∧ Kids G M₀ own ρ H' (fs.map (·.2)) ds k.nd := by
  have any := RV.any R R' h
  cases any with
  | ins h1 h2 h3 h4 =>
    rename_i a A dx fs ns
    refine ⟨a, A, dx, fs, ns, rfl, (vis_iff.mp h1).2, h2, h3, h4, fun hk => ?_⟩
    have e1 := (vis_iff.mp h1).2
    cases k with
    | dirty => cases hk
    | own =>
      obtain ⟨i, e, e2⟩ := h
      cases e2
      obtain ⟨_, _, _, o, w4, w5⟩ := R'.ow i _ e
      rw [e1] at w4
      cases w4
      cases w5 with
      | ins _ _ r => exact r
    | clean =>
      have h' : Rep G (vis (hid M₀ own ρ) H') (.ref a) (.ins c ds) := h
      cases h' with
      | ins z1 z2 z3 z4 =>
        have e2 := (vis_iff.mp z1).2
        rw [e1] at e2
        cases e2
        exact z4
    | fresh =>
      have h' := RV.ok R h rfl
      cases h' with
      | ins z1 z2 z3 z4 =>
        have e2 := (vis_iff.mp z1).2
        rw [e1] at e2
        cases e2
        exact z4
def otherB (T : ClsT) (x : Str) : Bool := !T.mths.contains x && !T.prps.contains x && !(x == ("__init__" : Str))
def tabB (cls : List ClsT) (x : Str) (tab : List (Nat × Option Nat)) : Bool := tab.all fun p => match cls[p.1]? with
  | none => true
  | some T => (match p.2 with
    | some j => decide (T.flds[j]? = some x) && decide (T.flds.Nodup)
    | none => T.prps.contains x || otherB T x)
theorem otherB_ok {T : ClsT} {x : Str} (h : otherB T x = true) : x ∉ T.mths ∧ x ∉ T.prps ∧ x ≠ "__init__" := by
  unfold otherB at h
  simp only [Bool.and_eq_true, Bool.not_eq_true'] at h
  obtain ⟨⟨h1, h2⟩, h3⟩ := h
  refine ⟨fun z => ?_, fun z => ?_, fun z => ?_⟩
  · rw [show T.mths.contains x = true by simpa using z] at h1
    cases h1
  · rw [show T.prps.contains x = true by simpa using z] at h2
    cases h2
  · subst z
    cases h3
theorem tabB_ok {x : Str} {tab : List (Nat × Option Nat)} {c : Nat} {o : Option Nat} {T : ClsT} (h : tabB cls x tab = true) (e : tab.lookup c = some o) (hc : cls[c]? = some T) : (match o with
    | some j => T.flds[j]? = some x ∧ T.flds.Nodup
    | none => x ∈ T.prps ∨ (x ∉ T.mths ∧ x ∉ T.prps ∧ x ≠ "__init__")) := by
  have hm : (c, o) ∈ tab := by
    induction tab with
    | nil => cases e
    | cons p r ih =>
      rw [List.lookup_cons] at e
      split at e
      · rename_i q
        cases e
        have : c = p.1 := by simpa using q
        subst this
        exact List.mem_cons_self ..
      · refine List.mem_cons_of_mem _ (ih ?_ e)
        unfold tabB at h ⊢
        rw [List.all_cons, Bool.and_eq_true] at h
        exact h.2
  have q := List.all_eq_true.mp h _ hm
  simp only [hc] at q
  cases o with
  | some j =>
    simp only [Bool.and_eq_true, decide_eq_true_eq] at q
    exact q
  | none =>
    rcases (Bool.or_eq_true _ _).mp q with q | q
    · exact .inl (by simpa using q)
    · exact .inr (otherB_ok q)
/-- a property's getter, by its tree -/
theorem getpropG {pins : List (Addr × Obj)} {σ : L2.St} {H : Hp} {s : Shared} {Q : VK} {k : Nat} {A p g a dx : Addr} {fs : List (Str × V)} {f : Str} {fd : FuncData} {ps : List Str} {sp : SpT} {bb : Bool} (I : Inv X pins σ H s) (ea : H a = some (.ins A dx fs)) (c : L2.Cls X.K A) (hp : PropOf X.K A f p g)
    (F : FnG X.prog X.w X.K X.mg X.base k g fd ps sp) (hr : Room (k + 1) X.A) (hg : X.A.guards = some []) (hb : Binds X.K fd ps []) (h : sp [.ref a] H Q) :
    wpAny (model X.prog X.w) X.A (getAttr (.ref a) f bb) (EP X pins σ Q) X.xe s := by
  obtain ⟨mA, O, _, _, _, _⟩ := ins_get I.hok ea
  obtain ⟨od, J, _⟩ := O.look
  obtain ⟨rest, hrec⟩ := hp.rec_
  have I1 := I.tok (s.toks + 1)
  have hl : ([Value.ref a] ++ []).length = ps.length := by
    rw [← F.len _ _ _ h]
    rfl
  have hc : (PySem.W.clsIn X.K A).isSome = true := by
    obtain ⟨cd, hc, _⟩ := PySem.W.any_some c.hd
    rw [hc]
    rfl
  have hb' := hb { s with toks := s.toks + 1 } [.ref a] I1.kIn hl
  rw [List.append_nil] at hb'
  refine PySem.W.get_bind I.kIn J (PySem.W.plainGet_of (c.get f)).1 (PySem.W.findObj_data hc hp.at_ hp.get hp.tak) (PySem.W.plainGet_of (c.get f)).2 (wpAny_call (PySem.W.prop_get (s := { s with toks := s.toks + 1 }) I.kIn hrec ?_))
  refine codeAny_mono (F.run X.A.in1 X.stack { s with toks := s.toks + 1 } H ⟨[.ref a], []⟩ [.ref a] [.ref a] Q hr.in1 hg I1.env0.in1 hb' (.cons rfl .nil) h) fun r s' hq => ?_
  match r, hq with
  | .ok (.ret u), hq =>
    obtain ⟨v, H', I3, rv, q3⟩ := I1.after hq
    show wpAny _ _ (handedOut u) _ _ _
    rw [PySem.W.handedOut_of (handed_of rv)]
    exact wpAny_pure ⟨v, H', I3, rv, q3⟩
end
end Ev
set_option Elab.async false
set_option linter.all false
set_option autoImplicit false
/-! EvD: the rules of instances. -/
namespace Ev
open PySem PySem.Spec PyProof.Rows L2 M
section
variable {X : Cx} {b : Addr} {cl : Cls} {C : Calls} {cls : List ClsT} {k0 : Nat}
theorem se_fld {e : Expr} {x : Str} {tab : List (Nat × Option Nat)} {f : List Slot → M (D × Kd)} {pos : Pos} (cx : CxOk k0 X) (cf : ClsFacts b cl X k0 C cls) (he : SE b cl X e f) (hb : isCall0 e = false) (ht : tabB cls x tab = true) :
    SE b cl X (.Attribute e x pos) (fun ρ => bnd (f ρ) fun p => fldM C x tab p) := fun M₀ H₀ own ρ σ H g d k g' Q R B h q => by
  obtain ⟨⟨y, ky⟩, g1, h1, h⟩ := bnd_some h
  unfold fldM at h
  dsimp only at h
  obtain ⟨c, fs, rfl⟩ : ∃ c fs, y = .ins c fs := by
    cases y <;> first | exact ⟨_, _, rfl⟩ | (cases h; done)
  dsimp only at h
  intro pins s I
  refine attr_of (base_no hb) (thn (he M₀ H₀ own ρ σ H g _ ky g1 (fun v H1 => Ext b H H1 ∧ BagAt (gx X b cl) H1 g1 ∧ RV (gx X b cl) M₀ own ρ H H1 v (.ins c fs) ky) R B h1 (fun v H1 x1 B1 r1 => ⟨x1, B1, r1⟩) pins s I) fun u s1 ⟨v, H1, I1, rv, x1, B1, r1⟩ => ?_)
  have R1 := R.move x1 B1.some
  obtain ⟨a, A, dx, fv, ns, rfl, ea, at_, pf, kids⟩ := RV.ins_at R R1 r1
  obtain ⟨T, hT, rfl, ok⟩ := cf.at_ c A ns at_
  obtain rfl : u = Value.ref a := rv
  cases et : tab.lookup c with
  | none =>
    rw [et] at h
    cases h
  | some o =>
    rw [et] at h
    have tb := tabB_ok ht et hT
    cases o with
    | some j =>
      dsimp only at h tb
      obtain ⟨r, g2, e2, h⟩ := bnd_some h
      have e3 := (opt_eq e2).1
      have e4 := (opt_eq e2).2
      subst e4
      cases h
      obtain ⟨v, e5, _⟩ := kids.1.getD e3
      obtain ⟨w1, w2⟩ := kids.get e5 e3
      exact getattr_ok I1 ea ok.cls (ok.no x (List.mem_of_getElem? tb.1)) (prefix_lookup tb.2 pf tb.1 e5) fun u' s2 I2 ru => ⟨v, H1, I2, ru, q v H1 x1 B1 (RV.by (fun z => w2 z) w1)⟩
    | none =>
      dsimp only at h tb
      obtain ⟨⟨r, kr⟩, g2, e2, h⟩ := bnd_some h
      cases h
      have pf' : PropFact b cl X k0 A x (C (.p c x)) := by
        rcases tb with z | ⟨z1, z2, z3⟩
        · exact ok.prp x z
        · exact .inl (ok.nom x z1 z2 z3).2
      rcases pf' with z | ⟨p, gg, fd, ps, k1, lk, hp, hbn, F⟩
      · rw [z] at e2
        cases e2
      · refine getpropG I1 ea ok.cls hp F (cx.room.mono lk) cx.gd hbn ?_
        exact call_core (vs := [.ref a]) (ok := ky.ok) R1 B1 ⟨.cons (RV.any R R1 r1) .nil, fun hk => .cons (RV.ok R r1 hk) .nil⟩ e2 fun v H' x9 B9 r9 => q v H' (x1.trans x9) B9 (r9.ahead R x1 B1.some)
/-! ### methods -/
theorem meth_eq {o : Expr} {m : Str} {apos pos : Pos} {args : List Expr} {env : Env} (hb : isCall0 o = false) (hf : ((backTo pos (starEach args env)).all (fun x => !x.1) && (backToKw pos (keywordEach [] env)).all (fun x => x.1.isSome)
      && decide (args.length + ([] : List Keyword).length + (if ([] : List Keyword).isEmpty then 0 else 1) < 30)) = true) (hl : (apos.endLine == pos.line) = true) :
    eval (.Call (.Attribute o m apos) args [] pos) env = (do
      let ov ← eval o env
      standAt apos.atName
      let (f, first) ← holding [ov] (getMethod ov m (do return (← importBound o env).getD true))
      callWith pos f first (backTo pos (starEach args env)) (backToKw pos (keywordEach [] env))) := by
  have hform : methodCallForm (args.length + ([] : List Keyword).length) (backTo pos (starEach args env)) (backToKw pos (keywordEach [] env)) = true := hf
  have hpos : methodCallPos true o env apos pos = pure pos := by
    unfold methodCallPos
    simp [hl]
  rw [arm_eval_Call, base_no hb]
  unfold methodCall
  rw [hform]
  simp only [hpos]
  unfold calleeOf
  simp
theorem few_none {cpos : Pos} {env : Env} : ((backTo cpos (starEach [] env)).all (fun x => !x.1) && (backToKw cpos (keywordEach [] env)).all (fun x => x.1.isSome)
      && decide (([] : List Expr).length + ([] : List Keyword).length + (if ([] : List Keyword).isEmpty then 0 else 1) < 30)) = true := rfl
def mthB (cls : List ClsT) (m : Str) (cs : List Nat) : Bool := cs.all fun c => match cls[c]? with
  | none => true
  | some T => T.mths.contains m || otherB T m
theorem mthB_ok {m : Str} {cs : List Nat} {c : Nat} {A : Addr} {T : ClsT} (ok : ClsOk b cl X k0 C c A T) (h : mthB cls m cs = true) (e : cs.contains c = true) (hc : cls[c]? = some T) {ds : List D} {g g' : Bag} {r : D × Kd} (e3 : C (.m c m) ds g = some (r, g')) : m ∉ T.flds ∧ MethFact b cl X k0 A m (C (.m c m)) := by
  have q := List.all_eq_true.mp h c (by simpa using e)
  simp only [hc] at q
  rcases (Bool.or_eq_true _ _).mp q with q | q
  · exact ok.mth m (by simpa using q)
  · obtain ⟨z1, z2, z3⟩ := otherB_ok q
    rw [(ok.nom m z1 z2 z3).1] at e3
    cases e3
theorem mthB_ok1 {m : Str} {cs : List Nat} {c : Nat} {A : Addr} {T : ClsT} (ok : ClsOk b cl X k0 C c A T) (h : mthB cls m cs = true) (e : cs.contains c = true) (hc : cls[c]? = some T) : Meth1Fact b cl X k0 A m (C (.p c m)) := by
  have q := List.all_eq_true.mp h c (by simpa using e)
  simp only [hc] at q
  rcases (Bool.or_eq_true _ _).mp q with q | q
  · exact ok.mth1 m (by simpa using q)
  · obtain ⟨z1, z2, z3⟩ := otherB_ok q
    exact .inl (ok.nom m z1 z2 z3).2
theorem se_meth {o a : Expr} {es : List Expr} {m : Str} {cs : List Nat} {fo : List Slot → M (D × Kd)} {fa : List Slot → M (List D × Bool)} {apos pos : Pos} (cx : CxOk k0 X) (cf : ClsFacts b cl X k0 C cls) (ho : SE b cl X o fo) (ha : SA b cl X (a :: es) fa) (hb : isCall0 o = false) (hm : mthB cls m cs = true)
    (hs : ((a :: es).all fun e => !isStar e) = true) (hn : es.length < 20) (hl : (apos.endLine == pos.line) = true) :
    SE b cl X (.Call (.Attribute o m apos) (a :: es) [] pos) (fun ρ => bnd (fo ρ) fun p => bnd (fa ρ) fun q => methM C m cs p q) := fun M₀ H₀ own ρ σ H g d k g' Q R B h q => by
  obtain ⟨⟨y, ky⟩, g1, h1, h⟩ := bnd_some h
  obtain ⟨⟨ds, okk⟩, g2, h2, h⟩ := bnd_some h
  unfold methM at h
  dsimp only at h
  obtain ⟨c, fs, rfl⟩ : ∃ c fs, y = .ins c fs := by
    cases y <;> first | exact ⟨_, _, rfl⟩ | (cases h; done)
  obtain ⟨hc, h⟩ := guard_eq h
  obtain ⟨⟨r, kr⟩, g3, e3, h⟩ := bnd_some h
  cases h
  intro pins s I
  have hs' := hs
  rw [List.all_cons, Bool.and_eq_true] at hs'
  refine PySem.W.methodCall_KW (pl := (do return (← importBound o X.env).getD true)) (thn (ho M₀ H₀ own ρ σ H g _ ky g1 (fun v H1 => Ext b H H1 ∧ BagAt (gx X b cl) H1 g1 ∧ RV (gx X b cl) M₀ own ρ H H1 v (.ins c fs) ky) R B h1 (fun v H1 x1 B1 r1 => ⟨x1, B1, r1⟩) pins s I) fun u s1 ⟨v, H1, I1, rv, x1, B1, r1⟩ => ?_) (meth_eq hb (few_args hs hn) hl)
  have R1 := R.move x1 B1.some
  obtain ⟨a0, A, dx, fv, ns, rfl, ea, at_, pf, kids⟩ := RV.ins_at R R1 r1
  obtain ⟨T, hT, rfl, ok⟩ := cf.at_ c A ns at_
  obtain rfl : u = Value.ref a0 := rv
  obtain ⟨nf, f, fd, ps, mt, _, hbn, F⟩ := mthB_ok ok hm hc hT e3
  refine getmeth_ok I1 ea ok.cls mt (lookup_none pf nf) ?_
  refine PySem.W.callWith_K (first := [.ref a0]) (h₀ := X.base) I.ok.mod.kin mt.kp (thn (ha M₀ H₀ own ρ σ H1 g1 ds okk g2 (fun vs H2 => spF (gx X b cl) (C (.m c m)) (.ref a0 :: vs) H2 Q) R1 B1 h2 (fun vs H2 x2 B2 r2 => ?_) pos pins s1 I1) fun us s2 ⟨vs, H2, I2, r, z⟩ => ⟨I2.kIn, runG (us := .ref a0 :: us) (vs := .ref a0 :: vs) F cx.room cx.gd hbn I2 (.cons rfl r) z⟩) (star_no (by simpa using hs'.1) _ _) (stars_no hs'.2)
  have R2 := R1.move x2 B2.some
  have r1' := RV.move R r1 x2
  have rs : RVs (gx X b cl) M₀ own ρ H2 (.ref a0 :: vs) (.ins c fs :: ds) (ky.ok && okk) := ⟨.cons (RV.any R R2 r1') r2.1, fun hk => by
    rw [Bool.and_eq_true] at hk
    exact .cons (RV.ok R r1' hk.1) (r2.2 hk.2)⟩
  exact call_core R2 B2 rs e3 fun v H' x9 B9 r9 => q v H' ((x1.trans x2).trans x9) B9 (r9.ahead R (x1.trans x2) B2.some)
theorem se_meth0 {o : Expr} {m : Str} {cs : List Nat} {fo : List Slot → M (D × Kd)} {apos pos : Pos} (cx : CxOk k0 X) (cf : ClsFacts b cl X k0 C cls) (ho : SE b cl X o fo) (hb : isCall0 o = false) (hm : mthB cls m cs = true) (hl : (apos.endLine == pos.line) = true) :
    SE b cl X (.Call (.Attribute o m apos) [] [] pos) (fun ρ => bnd (fo ρ) fun p => bnd (ret (([] : List D), true)) fun q => methM C m cs p q) := fun M₀ H₀ own ρ σ H g d k g' Q R B h q => by
  obtain ⟨⟨y, ky⟩, g1, h1, h⟩ := bnd_some h
  rw [ret_bnd] at h
  unfold methM at h
  dsimp only at h
  obtain ⟨c, fs, rfl⟩ : ∃ c fs, y = .ins c fs := by
    cases y <;> first | exact ⟨_, _, rfl⟩ | (cases h; done)
  obtain ⟨hc, h⟩ := guard_eq h
  obtain ⟨⟨r, kr⟩, g3, e3, h⟩ := bnd_some h
  cases h
  intro pins s I
  refine PySem.W.methodCall_KW (pl := (do return (← importBound o X.env).getD true)) (thn (ho M₀ H₀ own ρ σ H g _ ky g1 (fun v H1 => Ext b H H1 ∧ BagAt (gx X b cl) H1 g1 ∧ RV (gx X b cl) M₀ own ρ H H1 v (.ins c fs) ky) R B h1 (fun v H1 x1 B1 r1 => ⟨x1, B1, r1⟩) pins s I) fun u s1 ⟨v, H1, I1, rv, x1, B1, r1⟩ => ?_) (meth_eq hb few_none hl)
  have R1 := R.move x1 B1.some
  obtain ⟨a0, A, dx, fv, ns, rfl, ea, at_, pf, kids⟩ := RV.ins_at R R1 r1
  obtain ⟨T, hT, rfl, ok⟩ := cf.at_ c A ns at_
  obtain rfl : u = Value.ref a0 := rv
  obtain ⟨nf, f, fd, ps, mt, _, hbn, F⟩ := mthB_ok ok hm hc hT e3
  refine getmeth_ok I1 ea ok.cls mt (lookup_none pf nf) ?_
  have rs : RVs (gx X b cl) M₀ own ρ H1 [.ref a0] [.ins c fs] (ky.ok && true) := ⟨.cons (RV.any R R1 r1) .nil, fun hk => by
    rw [Bool.and_true] at hk
    exact .cons (RV.ok R r1 hk) .nil⟩
  exact PySem.W.callWith_K0 (first := [.ref a0]) I1.kIn mt.kp (runG (us := [.ref a0]) (vs := [.ref a0]) F cx.room cx.gd hbn I1 (.cons rfl .nil) (call_core R1 B1 rs e3 fun v H' x9 B9 r9 => q v H' (x1.trans x9) B9 (r9.ahead R x1 B1.some)))
end
end Ev
set_option Elab.async false
set_option linter.all false
set_option autoImplicit false
/-! EvE: making an instance; isinstance; constants; stores. -/
namespace Ev
open PySem PySem.Spec PyProof.Rows L2 M
section
variable {X : Cx} {b : Addr} {cl : Cls} {C : Calls} {cls : List ClsT} {k0 : Nat}
theorem run_makeG {pins : List (Addr × Obj)} {σ : L2.St} {H : Hp} {s : Shared} {Q : VK} {us : List Value} {vs : List V} {A f : Addr} {k : Nat} {fd : FuncData} {ps : List Str} {sp : SpT} (M : Mk X.K A f) (F : FnG X.prog X.w X.K X.mg X.base k f fd ps sp) (hr : Room (k + 1) X.A) (hg : X.A.guards = some []) (hb : Binds X.K fd ps [])
    (I : Inv X pins σ H s) (r : Vals vs us)
    (h : ∀ x dx, H x = none → H dx = none → dx ≠ x → sp (.ref x :: vs) (upd (upd H dx (.own x)) x (.ins A dx [])) (fun v H2 => v = .non ∧ Q (.ref x) H2)) :
    wpAny (model X.prog X.w) X.A (call (.ref A) us) (EP X pins σ Q) X.xe s := by
  have hq := h (s.heap.objs.size + 1) s.heap.objs.size (I.hok.fresh (Nat.le_succ _)) (I.hok.fresh (Nat.le_refl _)) (Nat.ne_of_lt (Nat.lt_succ_self _))
  have I2 := Inv.made (C := A) I
  have r2 : Vals (V.ref (s.heap.objs.size + 1) :: vs) (Value.ref (s.heap.objs.size + 1) :: us) := .cons rfl r
  have hl : (Value.ref (s.heap.objs.size + 1) :: us ++ []).length = ps.length := by
    have e := r2.length
    rw [F.len _ _ _ hq] at e
    rw [List.append_nil]
    exact e.symm
  have hb' := hb _ (Value.ref (s.heap.objs.size + 1) :: us) I2.kIn hl
  rw [List.append_nil] at hb'
  refine wpAny_call (make_map (f := f) I.kIn M.makes M.init (beq_iff_eq.mp M.fn) (codeAny_mono (F.run _ X.stack _ _ ⟨Value.ref (s.heap.objs.size + 1) :: us, []⟩ (Value.ref (s.heap.objs.size + 1) :: us) _ _ (hr.make A us []) hg
    (I2.env0.make A us []) hb' r2 hq) fun r s' hq' => ?_))
  match r, hq' with
  | .ok (.ret u), hq' =>
    obtain ⟨v, H', I3, rv, ev, q3⟩ := I2.after hq'
    subst ev
    exact ⟨rv, ⟨V.ref (s.heap.objs.size + 1), H', I3, rfl, q3⟩⟩
theorem se_mk {x : Str} {c : Nat} {T : ClsT} {a : Expr} {es : List Expr} {fa : List Slot → M (List D × Bool)} {p pos : Pos} (cx : CxOk k0 X) (cf : ClsFacts b cl X k0 C cls) (hT : cls[c]? = some T) (hx : x = T.nm) (hg : Gl X x) (hd : (x == ("__debug__" : Str)) = false) (ha : SA b cl X (a :: es) fa)
    (hs : isStar a = false) (hss : es.all (fun e => !isStar e) = true) :
    SE b cl X (.Call (.Name x p) (a :: es) [] pos) (fun ρ => bnd (fa ρ) fun q => bnd (C (.i c) q.1) fun r => ret (r.1, r.2.by r.1 q.2)) := fun M₀ H₀ own ρ σ H g d k g' Q R B h q => by
  obtain ⟨⟨ds, okk⟩, g1, h1, h⟩ := bnd_some h
  obtain ⟨⟨r, kr⟩, g2, h2, h⟩ := bnd_some h
  cases h
  obtain ⟨A, at_⟩ := cf.of c T hT
  obtain ⟨T', hT', _, ok⟩ := cf.at_ c A _ at_
  rw [hT] at hT'
  cases hT'
  subst hx
  rcases ok.ini with z | ⟨f, fd, ps, k1, lk, Mk, hbn, F, hfr⟩
  · rw [z] at h2
    cases h2
  have kf := hfr _ _ _ _ _ h2
  subst kf
  intro pins s I
  refine wpAny_Call_Name_kw (ld_glob I hg ok.mg ?_ hd)
  refine PySem.W.callWith_K (h₀ := X.base) I.ok.mod.kin Mk.kp ?_ (star_no hs _ _) (stars_no hss)
  refine thn (ha M₀ H₀ own ρ σ H g ds okk g1 (fun vs H1 => ∀ x dx, H1 x = none → H1 dx = none → dx ≠ x → spI (gx X b cl) A (C (.i c)) (.ref x :: vs) (upd (upd H1 dx (.own x)) x (.ins A dx [])) (fun v H2 => v = .non ∧ Q (.ref x) H2)) R B h1 (fun vs H1 x1 B1 r1 => ?_) pos pins s I) fun us s1 ⟨vs, H1, I1, rr, z⟩ => ⟨I1.kIn, run_makeG Mk F (cx.room.mono lk) cx.gd hbn I1 rr z⟩
  have R1 := R.move x1 B1.some
  intro y dy hy hdy ne
  cases okk with
  | true =>
    refine ⟨hid M₀ own ρ, ds, g1, _, _, y, dy, H1, vs, rfl, hy, hdy, ne, rfl, R1.mb, .inl R1.hbc, fun a z => R1.mdom z, B1, r1.2 rfl, h2, fun H' o x9 B9 ho cc => ⟨rfl, ?_⟩⟩
    refine q _ H' (x1.trans x9) B9 (RV.ahead R x1 B1.some ?_)
    exact ⟨y, o, rfl, hy, ho, cc⟩
  | false =>
    refine ⟨M₀, ds, g1, _, _, y, dy, H1, vs, rfl, hy, hdy, ne, rfl, R1.hb, R1.hbc, R1.dom, B1, r1.1, h2, fun H' o x9 B9 ho cc => ⟨rfl, ?_⟩⟩
    refine q _ H' (x1.trans x9) B9 (RV.by (fun z => nomatch z) ?_)
    exact cc.rep (sub_or H') (vis_iff.mpr ⟨fun z => R1.dom y z hy, ho⟩)
theorem Reps.reverse {G : Gx} {H : Hp} : ∀ {vs : List V} {ds : List D}, Reps G H vs ds → Reps G H vs.reverse ds.reverse
  | _, _, .nil => .nil
  | _, _, .cons r t => by
    rw [List.reverse_cons, List.reverse_cons]
    exact (Reps.reverse t).append (.cons r .nil)
theorem Reps.set {G : Gx} {H : Hp} : ∀ {vs : List V} {ds : List D} {j : Nat} {v : V} {d : D}, Reps G H vs ds → Rep G H v d → Reps G H (vs.set j v) (ds.set j d)
  | _, _, _, _, _, .nil, _ => .nil
  | _, _, 0, _, _, .cons _ t, r => .cons r t
  | _, _, j + 1, _, _, .cons a t, r => .cons a (Reps.set (j := j) t r)
/-! ### isinstance -/
def Ty.nm : Ty → String
  | .int => "int"
  | .bool => "bool"
  | .str => "str"
  | .tuple => "tuple"
  | .list => "list"
  | .cls _ => ""
def tyNm : D → String
  | .non => "NoneType"
  | .bl _ => "bool"
  | .int _ => "int"
  | .str _ => "str"
  | .tup _ => "tuple"
  | .lst _ => "list"
  | _ => ""
theorem rep_ty {G : Gx} {H : Hp} {v : V} {d : D} (h : Rep G H v d) (ht : tyNm d ≠ "") : TyX G.K H v (.type (tyNm d)) := by
  cases h with
  | non => exact .base .non
  | bl x => exact .base (.bl x)
  | int i => exact .base (.int i)
  | str x => exact .base (.str x)
  | tup h r =>
    rcases h with (h | ⟨o, h⟩) | ⟨o, its, n, h1, h2, _⟩
    · exact .base (.tup h)
    · exact .fTuple h
    · exact .kTuple h1 h2
  | lst h r => exact .base (.lst h)
  | ins _ _ _ _ => exact absurd rfl ht
  | bag => exact absurd rfl ht
theorem isi_kit {t : Ty} {d : D} {r : Bool} (h : isiOne t d = some r) : tyNm d ≠ "" ∧ kitB (tyNm d) t.nm = some r := by
  cases t <;> cases d <;> first | (cases h; done) | skip
  all_goals
    cases h
    exact ⟨by simp only [tyNm]; decide, by simp only [tyNm, Ty.nm]; decide +kernel⟩
theorem isiD_ty {ts : List Ty} {d : D} {r : Bool} (h : isiD ts d = some r) (ne : ts ≠ []) : tyNm d ≠ "" := by
  cases ts with
  | nil => exact absurd rfl ne
  | cons t ts =>
    unfold isiD at h
    split at h
    · cases h
    · exact (isi_kit (by assumption)).1
    · exact (isi_kit (by assumption)).1
theorem isi_any {K : PySem.W.Frag} : ∀ {ts : List Ty} {d : D} {r : Bool}, isiD ts d = some r → PySem.W.kitAny K (.type (tyNm d)) (ts.map fun t => .type t.nm) = some r
  | [], d, r, h => by
    unfold isiD at h
    cases h
    exact kitAny_nil
  | t :: ts, d, r, h => by
    unfold isiD at h
    split at h
    · cases h
    · rename_i e
      cases h
      exact kitAny_cons (kit_ty (isi_kit e).2) (fun z => nomatch z) fun _ => rfl
    · rename_i e
      exact kitAny_cons (kit_ty (isi_kit e).2) (fun _ => isi_any h) fun z => nomatch z
theorem boot_ty : ∀ t : Ty, t.nm ≠ "" → bootBuiltins (Str.ofString t.nm) = some (.type t.nm)
  | .int, _ => by decide +kernel
  | .bool, _ => by decide +kernel
  | .str, _ => by decide +kernel
  | .tuple, _ => by decide +kernel
  | .list, _ => by decide +kernel
  | .cls _, h => absurd rfl h
theorem gl_boot {t : Ty} (hm : X.mg (Str.ofString t.nm) = none) (ht : t.nm ≠ "") {pos : Pos} (hg : Gl X (Str.ofString t.nm)) : PE X (.Name (Str.ofString t.nm) pos) (tC (.ty t.nm)) := pe_bltn hg hm (boot_ty t ht) rfl (by cases t <;> first | (exact absurd rfl ht) | decide +kernel) (by cases t <;> first | (exact absurd rfl ht) | decide +kernel)
theorem se_isi1 {e : Expr} {t : Ty} {f : List Slot → M (D × Kd)} {p p2 pos : Pos} (hg : Gl X "isinstance") (hm : X.mg "isinstance" = none) (hgt : Gl X (Str.ofString t.nm)) (hmt : X.mg (Str.ofString t.nm) = none) (ht : t.nm ≠ "") (he : SE b cl X e f) (hs : isStar e = false) :
    SE b cl X (.Call (.Name "isinstance" p) [e, .Name (Str.ofString t.nm) p2] [] pos) (fun ρ => bnd (f ρ) fun p => bnd (opt (isiD [t] p.1)) fun t => ret (.bl t, .clean)) := fun M₀ H₀ own ρ σ H g d k g' Q R B h q => by
  obtain ⟨⟨y, ky⟩, g1, h1, h⟩ := bnd_some h
  obtain ⟨r, g2, h2, h⟩ := bnd_some h
  have e3 := (opt_eq h2).1
  have e4 := (opt_eq h2).2
  subst e4
  cases h
  dsimp only at e3
  refine PE.wp (pe_callB call_isi hg hm (by decide +kernel) (pa_cons pe_wp (pa_cons (gl_boot hmt ht hgt) pa_nil (star_no rfl _ _)) (star_no hs _ _)) (by decide) (by decide) (star_no hs _ _) (stars_no (by rfl))) ?_
  refine he M₀ H₀ own ρ σ H g _ ky _ _ R B h1 fun v H1 x1 B1 r1 => ?_
  have R1 := R.move x1 B1.some
  have rp := (RV.any R R1 r1).mono (vis_sub _ _)
  have e5 : isiOne t y = some r := by
    unfold isiD at e3
    split at e3
    · cases e3
    · rename_i z
      cases e3
      exact z
    · rename_i z
      unfold isiD at e3
      cases e3
      exact z
  obtain ⟨n1, n2⟩ := isi_kit e5
  exact ⟨v, .ty t.nm, _, _, r, rfl, .ty _, rep_ty rp n1, kit_ty n2, q _ _ x1 B1 (RV.of_atom (Hx := H1) (.bl r) rfl)⟩
theorem se_isi2 {e : Expr} {t u : Ty} {f : List Slot → M (D × Kd)} {j : Nat} {p p2 p3 p4 pos : Pos} (hg : Gl X "isinstance") (hm : X.mg "isinstance" = none) (hgt : Gl X (Str.ofString t.nm)) (hmt : X.mg (Str.ofString t.nm) = none) (ht : t.nm ≠ "") (hgu : Gl X (Str.ofString u.nm)) (hmu : X.mg (Str.ofString u.nm) = none) (hu : u.nm ≠ "") (he : SE b cl X e f) (hs : isStar e = false) :
    SE b cl X (.Call (.Name "isinstance" p) [e, .Tuple [.Name (Str.ofString t.nm) p2, .Name (Str.ofString u.nm) p3] j p4] [] pos) (fun ρ => bnd (f ρ) fun p => bnd (opt (isiD [t, u] p.1)) fun t => ret (.bl t, .clean)) := fun M₀ H₀ own ρ σ H g d k g' Q R B h q => by
  obtain ⟨⟨y, ky⟩, g1, h1, h⟩ := bnd_some h
  obtain ⟨r, g2, h2, h⟩ := bnd_some h
  have e3 := (opt_eq h2).1
  have e4 := (opt_eq h2).2
  subst e4
  cases h
  dsimp only at e3
  refine PE.wp (pe_callB call_isiT hg hm (by decide +kernel) (pa_cons pe_wp (pa_cons (pe_tup (pa_cons (gl_boot hmt ht hgt) (pa_cons (gl_boot hmu hu hgu) pa_nil (star_no rfl _ _)) (star_no rfl _ _))) pa_nil (star_no rfl _ _)) (star_no hs _ _)) (by decide) (by decide) (star_no hs _ _) (stars_no (by rfl))) ?_
  refine he M₀ H₀ own ρ σ H g _ ky _ _ R B h1 fun v H1 x1 B1 r1 => ?_
  have R1 := R.move x1 B1.some
  have rp := (RV.any R R1 r1).mono (vis_sub _ _)
  refine ⟨by show 2 ≤ sizeLine; decide, fun tp np => ?_⟩
  have x2 : Ext b H1 (upd H1 tp (.tup [.ty t.nm, .ty u.nm])) := Ext.new np
  exact ⟨v, tp, [.ty t.nm, .ty u.nm], _, _, r, rfl, upd_same, .cons (.ty _) (.cons (.ty _) .nil), rep_ty (rp.mono (sub_new np)) (isiD_ty e3 (by simp)), isi_any (K := X.K) e3, q _ _ (x1.trans x2) (B1.new np) (RV.of_atom (Hx := H1) (.bl r) rfl)⟩
/-! ### isinstance of the program's own classes -/
structure KitFacts (K : PySem.W.Frag) (cl : Cls) : Prop where
  own : ∀ c c' A A' ns ns', cl.at_ c = some (A, ns) → cl.at_ c' = some (A', ns') → PySem.W.kitOne K (.ref A) (.ref A') = some (decide (c = c'))
  blt : ∀ c A ns n, cl.at_ c = some (A, ns) → n ∈ ["NoneType", "bool", "int", "str", "tuple", "list"] → PySem.W.kitOne K (.type n) (.ref A) = some false
  at_ : ∀ c A ns, cl.at_ c = some (A, ns) → PySem.W.findIn K (.ref A) "__class__" = some (some (.builtin "object.__class__")) ∧ PySem.W.mroIn K A (.type "object") = some true
  obj : PySem.W.specialIn K (.builtin "object.__class__") "__get__" = some (some (.builtin "getset_descriptor.__get__")) ∧ PySem.W.takesIn K (.builtin "object.__class__") = some true
theorem se_isc {e : Expr} {c : Nat} {T : ClsT} {x : Str} {f : List Slot → M (D × Kd)} {p p2 pos : Pos} (cf : ClsFacts b cl X k0 C cls) (kf : KitFacts X.K cl) (hg : Gl X "isinstance") (hm : X.mg "isinstance" = none) (hT : cls[c]? = some T) (hx : x = T.nm) (hgx : Gl X x) (hd : (x == ("__debug__" : Str)) = false) (he : SE b cl X e f) (hs : isStar e = false) :
    SE b cl X (.Call (.Name "isinstance" p) [e, .Name x p2] [] pos) (fun ρ => bnd (f ρ) fun p => bnd (opt (iscD c p.1)) fun t => ret (.bl t, .clean)) := fun M₀ H₀ own ρ σ H g d k g' Q R B h q => by
  obtain ⟨⟨y, ky⟩, g1, h1, h⟩ := bnd_some h
  obtain ⟨r, g2, h2, h⟩ := bnd_some h
  have e3 := (opt_eq h2).1
  have e4 := (opt_eq h2).2
  subst e4
  cases h
  dsimp only at e3
  obtain ⟨A, at_⟩ := cf.of c T hT
  obtain ⟨T', hT', _, ok⟩ := cf.at_ c A _ at_
  rw [hT] at hT'
  cases hT'
  subst hx
  refine PE.wp (pe_callB call_isi hg hm (by decide +kernel) (pa_cons pe_wp (pa_cons (pe_glob (v := .ref A) hgx ok.mg rfl hd) pa_nil (star_no rfl _ _)) (star_no hs _ _)) (by decide) (by decide) (star_no hs _ _) (stars_no (by rfl))) ?_
  refine he M₀ H₀ own ρ σ H g _ ky _ _ R B h1 fun v H1 x1 B1 r1 => ?_
  have R1 := R.move x1 B1.some
  have rp := (RV.any R R1 r1).mono (vis_sub _ _)
  have fin : ∀ (t : Value), TyX X.K H1 v t → PySem.W.kitOne X.K t (.ref A) = some r → rIsi X.K [v, .ref A] H1 Q := fun t ty kt => ⟨v, .ref A, t, _, r, rfl, .own A, ty, kt, q _ _ x1 B1 (RV.of_atom (Hx := H1) (.bl r) rfl)⟩
  by_cases hi : tyNm y = ""
  · cases y <;> first | (exact absurd hi (by simp only [tyNm]; decide)) | skip
    · rename_i c' fs
      cases rp with
      | ins i1 i2 i3 i4 =>
        rename_i a A2 dx fv ns
        obtain ⟨T2, hT2, _, ok2⟩ := cf.at_ c' A2 ns i2
        have kk := kf.own c' c A2 A ns _ i2 at_
        cases e3
        exact fin (.ref A2) (.base (.ins i1 ok2.cls (kf.at_ c' A2 ns i2).1 kf.obj.1 kf.obj.2 (kf.at_ c' A2 ns i2).2)) kk
    · cases e3
  · have ty := rep_ty (G := gx X b cl) rp hi
    have er : r = false := by
      cases y <;> first | (cases e3; rfl; done) | (exact absurd rfl hi) | skip
    subst er
    refine fin _ ty (kf.blt c A _ _ at_ ?_)
    cases y <;> first | (exact absurd rfl hi) | (simp only [tyNm]; decide)
/-! ### a constant of the module: a text -/
def ConFact (X : Cx) (x : Str) (d : D) : Prop := ∃ (s : Str) (t : Tok), d = .str s ∧ X.mg x = some (.str s t)
theorem se_glob {x : Str} {d : D} {pos : Pos} (cf : ConFact X x d) (hg : Gl X x) (hd : (x == ("__debug__" : Str)) = false) : SE b cl X (.Name x pos) (fun _ => ret (d, .clean)) := fun M₀ H₀ own ρ σ H g d' k g' Q R B h q => by
  cases h
  obtain ⟨s, t, rfl, hm⟩ := cf
  exact PE.wp (pe_glob (v := .str s) hg hm ⟨t, rfl⟩ hd) (q _ _ (Ext.refl _ _) B (RV.of_atom (Hx := H) (.str s) rfl))
/-! ### stores -/
theorem putF_new {x : Str} {v : V} : ∀ {fs : List (Str × V)}, x ∉ fs.map (·.1) → putF x v fs = fs ++ [(x, v)]
  | [], _ => rfl
  | (y, w) :: fs, h => by
    simp only [List.map_cons, List.mem_cons, not_or] at h
    rw [putF, if_neg fun z => h.1 z.symm, putF_new h.2]
    rfl
theorem prefix_next : ∀ {ms ns : List Str} {x : Str}, ms <+: ns → ns[ms.length]? = some x → ms ++ [x] <+: ns
  | [], ns, x, _, h => by
    cases ns with
    | nil => simp at h
    | cons n ns =>
      simp at h
      subst h
      exact ⟨ns, rfl⟩
  | m :: ms, [], x, hp, _ => by
    have := hp.length_le
    simp at this
  | m :: ms, n :: ns, x, hp, h => by
    rw [List.cons_prefix_cons] at hp
    obtain ⟨rfl, hp⟩ := hp
    rw [List.cons_append, List.cons_prefix_cons]
    exact ⟨rfl, prefix_next hp (by simpa using h)⟩
theorem prefix_not : ∀ {ms ns : List Str} {x : Str}, ns.Nodup → ms <+: ns → ns[ms.length]? = some x → x ∉ ms
  | [], _, _, _, _, _ => by simp
  | m :: ms, [], x, _, hp, _ => by
    have := hp.length_le
    simp at this
  | m :: ms, n :: ns, x, nd, hp, h => by
    rw [List.cons_prefix_cons] at hp
    obtain ⟨rfl, hp⟩ := hp
    obtain ⟨n1, n2⟩ := List.nodup_cons.mp nd
    have h' : ns[ms.length]? = some x := by simpa using h
    rw [List.mem_cons, not_or]
    refine ⟨fun z => ?_, prefix_not n2 hp h'⟩
    subst z
    exact n1 (List.mem_of_getElem? h')
theorem fsetM_some {ρ : List Slot} {i c j : Nat} {d : D} {g g' : Bag} {l : Fl} (h : fsetM ρ i c j d g = some (l, g')) : ∃ fs, ρ[i]? = some (.own (.ins c fs)) ∧ fs.length = j ∧ l = .nx (ρ.set i (.own (.ins c (fs ++ [d])))) ∧ g = g' := by
  unfold fsetM at h
  cases e0 : ρ[i]? with
  | none =>
    rw [e0] at h
    cases h
  | some sl =>
    rw [e0] at h
    cases sl with
    | no => cases h
    | val _ => cases h
    | own y =>
      cases y <;> first | (cases h; done) | skip
      rename_i c' fs
      obtain ⟨hg, h⟩ := guard_eq h
      cases h
      rw [Bool.and_eq_true, decide_eq_true_eq, decide_eq_true_eq] at hg
      obtain ⟨rfl, hlen⟩ := hg
      exact ⟨fs, rfl, hlen, rfl, rfl⟩
theorem lputM_some {ρ : List Slot} {i : Nat} {n : Int} {d : D} {g g' : Bag} {l : Fl} (h : lputM ρ i n d g = some (l, g')) : ∃ xs j, ρ[i]? = some (.own (.lst xs)) ∧ ixN xs.length n = some j ∧ l = .nx (ρ.set i (.own (.lst (xs.set j d)))) ∧ g = g' := by
  unfold lputM at h
  cases e0 : ρ[i]? with
  | none =>
    rw [e0] at h
    cases h
  | some sl =>
    rw [e0] at h
    cases sl with
    | no => cases h
    | val _ => cases h
    | own y =>
      cases y <;> first | (cases h; done) | skip
      rename_i xs
      obtain ⟨j, g4, e4, h⟩ := bnd_some h
      obtain ⟨e5, rfl⟩ := opt_eq e4
      cases h
      exact ⟨xs, j, rfl, e5, rfl, rfl⟩
theorem fset_k {s x : Str} {i c j : Nat} {e : Expr} {f : List Slot → M (D × Kd)} {T : ClsT} {px tp pos : Pos} (cf : ClsFacts b cl X k0 C cls) (hN : X.N[i]? = some s) (hv : Vis X.env.scope s) (hd : (s == ("__debug__" : Str)) = false) (hc : (s == ("__classdict__" : Str)) = false) (hT : cls[c]? = some T) (hx : T.flds[j]? = some x) (nd : T.flds.Nodup) (he : SE b cl X e f) (hl : isComp e = false) (hj : j < 900)
    {M₀ : Addr → Prop} {H₀ : Hp} {own : Nat → Addr} {ρ : List Slot} {σ : L2.St} {H : Hp} {g : Bag} {l : Fl} {g' : Bag} {Z : Ends} (R : Rel (gx X b cl) M₀ H₀ own ρ σ H) (B : BagAt (gx X b cl) H g) (h : (bnd (f ρ) fun p => guard p.2.ok (fsetM ρ i c j p.1)) g = some (l, g'))
    (q : ∀ ρ' H', l = .nx ρ' → Rel (gx X b cl) M₀ H₀ own ρ' σ H' → BagAt (gx X b cl) H' g' → Sub (vis (hid M₀ own ρ) H) (vis (hid M₀ own ρ') H') → Z.nx σ H') : wpS X (.Assign [.Attribute (.Name s px) x tp] e pos) Z σ H := by
  obtain ⟨⟨d, k⟩, g1, e1, h⟩ := bnd_some h
  obtain ⟨hk, h⟩ := guard_eq h
  obtain ⟨fs, e0, hlen, rfl, rfl⟩ := fsetM_some h
  · refine PS.wp (ps_fld pe_wp pe_wp (swaps_no hl)) (he M₀ H₀ own ρ σ H g _ k _ _ R B e1 fun w H1 x1 B1 r1 => ?_)
    have R1 := R.move x1 B1.some
    have rw1 := RV.ok R r1 hk
    obtain ⟨u1, u2, u3, o1, u4, u5⟩ := R1.ow i _ e0
    cases u5 with
    | ins at_ pf r =>
      rename_i A dx fv ns
      obtain ⟨T', hT', rfl, ok⟩ := cf.at_ _ A ns at_
      rw [hT] at hT'
      cases hT'
      have lf : (fv.map (·.1)).length = j := by
        have := r.length
        rw [List.length_map] at this
        rw [List.length_map, this, hlen]
      have nx : T.flds[(fv.map (·.1)).length]? = some x := by
        rw [lf]
        exact hx
      have new : x ∉ fv.map (·.1) := prefix_not nd pf nx
      have cell : Cell (gx X b cl) (vis (hid M₀ own ρ) H1) (.ins A dx (putF x w fv)) (.ins c (fs ++ [d])) := by
        rw [putF_new new]
        refine .ins at_ ?_ ?_
        · rw [List.map_append]
          exact prefix_next pf nx
        · rw [List.map_append]
          exact r.append (.cons rw1 .nil)
      obtain ⟨Q1, s1⟩ := R1.mut e0 cell
      refine PE.wp (pe_var hN hv hd hc) ⟨.ref (own i), u1, own i, A, dx, fv, rfl, u4, ok.cls, ok.no x (List.mem_of_getElem? hx), ?_, q _ _ rfl Q1 (bag_mut B1 R1 e0) ((R.sub x1).trans s1)⟩
      rw [List.length_map] at lf
      omega
theorem ss_fset {s x : Str} {i c j : Nat} {e : Expr} {f : List Slot → M (D × Kd)} {T : ClsT} {px tp pos : Pos} (cf : ClsFacts b cl X k0 C cls) (hN : X.N[i]? = some s) (hv : Vis X.env.scope s) (hd : (s == ("__debug__" : Str)) = false) (hc : (s == ("__classdict__" : Str)) = false) (hT : cls[c]? = some T) (hx : T.flds[j]? = some x) (nd : T.flds.Nodup) (he : SE b cl X e f) (hl : isComp e = false) (hj : j < 900) :
    SS b cl X (.Assign [.Attribute (.Name s px) x tp] e pos) (fun ρ => bnd (f ρ) fun p => guard p.2.ok (fsetM ρ i c j p.1)) := fun M₀ H₀ own ρ σ H g l g' Z R B h q =>
  fset_k cf hN hv hd hc hT hx nd he hl hj R B h fun ρ' H' e R' B' s' => by
    subst e
    exact q own σ H' R' B' s'
theorem ss_lput {s : Str} {i : Nat} {e ix : Expr} {f fi : List Slot → M (D × Kd)} {px tp pos : Pos} (hN : X.N[i]? = some s) (hv : Vis X.env.scope s) (hd : (s == ("__debug__" : Str)) = false) (hc : (s == ("__classdict__" : Str)) = false) (he : SE b cl X e f) (hi : SE b cl X ix fi) (hl : notLc e = true) (hs : isSl ix = false) :
    SS b cl X (.Assign [.Subscript (.Name s px) ix tp] e pos) (fun ρ => bnd (f ρ) fun p => bnd (fi ρ) fun q => bnd (intM q.1) fun n => guard p.2.ok (lputM ρ i n p.1)) := fun M₀ H₀ own ρ σ H g l g' Z R B h q => by
  obtain ⟨⟨d, k⟩, g1, e1, h⟩ := bnd_some h
  obtain ⟨⟨y, ky⟩, g2, e2, h⟩ := bnd_some h
  obtain ⟨n, g3, e3, h⟩ := bnd_some h
  obtain ⟨hy, rfl⟩ := intM_eq e3
  dsimp only at hy
  subst hy
  obtain ⟨hk, h⟩ := guard_eq h
  obtain ⟨xs, j, e0, e5, rfl, rfl⟩ := lputM_some h
  · unfold notLc at hl
    rw [Bool.and_eq_true] at hl
    have sw : swapsWithSole [.Subscript (.Name s px) ix tp] e pos.line X.env = pure false := by
      have q := hl.1
      cases e <;> first | rfl | (cases q; done)
    have ss : swappedStores [.Subscript (.Name s px) ix tp] e X.env = pure none := by
      have q := hl.2
      cases e <;> first | rfl | (cases q; done)
    refine PS.wp (ps_asg pe_wp (pg_sub (pe_var hN hv hd hc) pe_wp set_list (fun v => by cases ix <;> first | rfl | (cases hs; done))) sw ss) (he M₀ H₀ own ρ σ H g _ k _ _ R B e1 fun w H1 x1 B1 r1 => ?_)
    have R1 := R.move x1 B1.some
    obtain ⟨u1, u2, u3, o1, u4, u5⟩ := R1.ow i _ e0
    refine ⟨.ref (own i), u1, ?_⟩
    refine hi M₀ H₀ own ρ σ H1 g1 _ ky _ _ R1 B1 e2 fun v H2 x2 B2 r2 => ?_
    have R2 := R1.move x2 B2.some
    cases r2.any R1 R2
    obtain ⟨z1, z2, z3, o2, z4, z5⟩ := R2.ow i _ e0
    have rw1 := RV.ok R (RV.move R r1 x2) hk
    cases z5 with
    | lst r =>
      rename_i vs
      have cell : Cell (gx X b cl) (vis (hid M₀ own ρ) H2) (.lst (vs.set j w)) (.lst (xs.set j d)) := .lst (Reps.set r rw1)
      obtain ⟨Q1, s1⟩ := R2.mut e0 cell
      exact ⟨own i, vs, n, j, rfl, rfl, z4, by rw [r.length]; exact e5, q own σ _ Q1 (bag_mut B2 R2 e0) ((R.sub (x1.trans x2)).trans s1)⟩
/-! ### a list turned about; a part; pairs of two tuples -/
theorem se_rev {a : Expr} {fa : List Slot → M (D × Kd)} {j : Nat} {p1 p2 p3 pos : Pos} (ha : SE b cl X a fa) :
    SE b cl X (.Subscript a (.Slice none none (some (.UnaryOp .USub (.Constant (.int 1) j p1) p2)) p3) pos) (fun ρ => bnd (fa ρ) fun p => bnd (opt (revD p.1)) fun r => ret (r, Kd.fresh.by r p.2.nd)) := fun M₀ H₀ own ρ σ H g d k g' Q R B h q => by
  obtain ⟨⟨x, kx⟩, g1, h1, h⟩ := bnd_some h
  obtain ⟨r, g3, h3, h⟩ := bnd_some h
  have e3 := (opt_eq h3).1
  have e4 := (opt_eq h3).2
  subst e4
  cases h
  dsimp only at e3
  obtain ⟨xs, rfl⟩ : ∃ xs, x = .lst xs := by
    cases x <;> first | exact ⟨_, rfl⟩ | (cases e3; done)
  cases e3
  refine PE.wp (pe_revL pe_wp) (ha M₀ H₀ own ρ σ H g _ kx _ _ R B h1 fun v H1 x1 B1 r1 => ?_)
  have R1 := R.move x1 B1.some
  obtain ⟨p, vs, rfl, s1, k1⟩ := RV.kids_lst R R1 r1
  have kr : Kids (gx X b cl) M₀ own ρ H1 vs.reverse xs.reverse kx.nd := ⟨Reps.reverse k1.1, fun z => Reps.reverse (k1.2 z)⟩
  refine ⟨p, vs, rfl, .of s1, fun y hy => ?_⟩
  have W : Wants (gx X b cl) M₀ own ρ H1 g' (.lst xs.reverse) (if kx.nd then .fresh else .dirty) Q := fun v H' x9 B9 r9 => q v H' (x1.trans x9) B9 (by
    rw [by_lst]
    exact r9.ahead R x1 B1.some)
  exact W.lst R1 B1 kr y hy
theorem three {a c e : Expr} {fa fc fe : List Slot → M (D × Kd)} (ha : SE b cl X a fa) (hc : SE b cl X c fc) (he : SE b cl X e fe) {M₀ : Addr → Prop} {H₀ : Hp} {own : Nat → Addr} {ρ : List Slot} {σ : L2.St} {H : Hp} {g g1 g2 g3 : Bag} {d1 d2 d3 : D} {k l m : Kd}
    {T : V → V → V → Hp → Prop} (R : Rel (gx X b cl) M₀ H₀ own ρ σ H) (B : BagAt (gx X b cl) H g) (h1 : fa ρ g = some ((d1, k), g1)) (h2 : fc ρ g1 = some ((d2, l), g2)) (h3 : fe ρ g2 = some ((d3, m), g3))
    (q : ∀ x y z H1 H2 H3, Ext b H H3 → Rel (gx X b cl) M₀ H₀ own ρ σ H1 → Rel (gx X b cl) M₀ H₀ own ρ σ H2 → Rel (gx X b cl) M₀ H₀ own ρ σ H3 → BagAt (gx X b cl) H3 g3 → RV (gx X b cl) M₀ own ρ H H3 x d1 k → RV (gx X b cl) M₀ own ρ H1 H3 y d2 l → RV (gx X b cl) M₀ own ρ H2 H3 z d3 m → T x y z H3) :
    wpE X a σ H fun x H1 => wpE X c σ H1 fun y H2 => wpE X e σ H2 fun z H3 => T x y z H3 := by
  refine ha M₀ H₀ own ρ σ H g d1 k g1 _ R B h1 fun x H1 x1 B1 r1 => ?_
  have R1 := R.move x1 B1.some
  refine hc M₀ H₀ own ρ σ H1 g1 d2 l g2 _ R1 B1 h2 fun y H2 x2 B2 r2 => ?_
  have R2 := R1.move x2 B2.some
  refine he M₀ H₀ own ρ σ H2 g2 d3 m g3 _ R2 B2 h3 fun z H3 x3 B3 r3 => ?_
  exact q x y z H1 H2 H3 ((x1.trans x2).trans x3) R1 R2 (R2.move x3 B3.some) B3 (RV.move R r1 (x2.trans x3)) (RV.move R1 r2 x3) r3
theorem se_slBoth {a c e : Expr} {fa fc fe : List Slot → M (D × Kd)} {pos p2 : Pos} (ha : SE b cl X a fa) (hc : SE b cl X c fc) (he : SE b cl X e fe) :
    SE b cl X (.Subscript a (.Slice (some c) (some e) none p2) pos) (fun ρ => bnd (fa ρ) fun p => bnd (fc ρ) fun q => bnd (fe ρ) fun r => bnd (intM q.1) fun i => bnd (intM r.1) fun j => bnd (opt (sliD p.1 (some i) (some j))) fun r => ret (r.1, r.2.by r.1 p.2.nd)) := fun M₀ H₀ own ρ σ H g d k g' Q R B h q => by
  obtain ⟨⟨x, kx⟩, g1, h1, h⟩ := bnd_some h
  obtain ⟨⟨y, ky⟩, g2, h2, h⟩ := bnd_some h
  obtain ⟨⟨z, kz⟩, g3, h3, h⟩ := bnd_some h
  obtain ⟨i, g4, h4, h⟩ := bnd_some h
  obtain ⟨j, g5, h5, h⟩ := bnd_some h
  obtain ⟨⟨r, m⟩, g6, h6, h⟩ := bnd_some h
  obtain ⟨e6, rfl⟩ := opt_eq h6
  cases h
  obtain ⟨e4, rfl⟩ := intM_eq h4
  obtain ⟨e5, rfl⟩ := intM_eq h5
  dsimp only at e4 e5 e6
  subst e4 e5
  refine PE.wp (pe_slice sl_rSl pe_wp (po_some pe_wp) (po_some pe_wp)) (ha M₀ H₀ own ρ σ H g _ kx g1 _ R B h1 fun vx H1 x1 B1 r1 => ?_)
  have R1 := R.move x1 B1.some
  refine hc M₀ H₀ own ρ σ H1 g1 _ ky g2 _ R1 B1 h2 fun vy H2 x2 B2 r2 => ?_
  have R2 := R1.move x2 B2.some
  cases r2.any R1 R2
  refine ⟨_, rfl, ?_⟩
  refine he M₀ H₀ own ρ σ H2 g2 _ kz _ _ R2 B2 h3 fun vz H3 x3 B3 r3 => ?_
  have R3 := R2.move x3 B3.some
  cases r3.any R2 R3
  have xx := (x1.trans x2).trans x3
  exact ⟨_, rfl, sli_ok R R3 B3 (RV.move R r1 (x2.trans x3)) e6 fun v H' x9 B9 r9 => q v H' (xx.trans x9) B9 (r9.ahead R xx B3.some)⟩
theorem zip_get : ∀ {xs ys : List D} {i : Nat} {d : D}, (zipD xs ys)[i]? = some d → ∃ x y, xs[i]? = some x ∧ ys[i]? = some y ∧ d = .tup [x, y]
  | [], ys, i, d, h => by simp [zipD] at h
  | x :: xs, [], i, d, h => by simp [zipD] at h
  | x :: xs, y :: ys, 0, d, h => by
    simp [zipD] at h
    exact ⟨x, y, rfl, rfl, h.symm⟩
  | x :: xs, y :: ys, i + 1, d, h => by
    rw [zipD, List.getElem?_cons_succ] at h
    obtain ⟨a, c, h1, h2, h3⟩ := zip_get h
    exact ⟨a, c, by simpa using h1, by simpa using h2, h3⟩
theorem zip_len : ∀ xs ys : List D, (zipD xs ys).length = min xs.length ys.length
  | [], ys => by simp [zipD]
  | x :: xs, [] => by simp [zipD]
  | x :: xs, y :: ys => by
    rw [zipD, List.length_cons, zip_len xs ys, List.length_cons, List.length_cons]
    omega
theorem walk_zip {G : Gx} {a c : Addr} {vs ws : List V} {ds es : List D} (hl : vs.length = ds.length) (hl2 : ws.length = es.length) : WalkP G (RZ.ItzT G.K a c) (vs ++ ws) (ds ++ es) (fun H => SqT G.K H a vs ∧ SqT G.K H c ws) (zipD ds es) where
  go := fun i H h hi => by
    rw [zip_len] at hi
    exact ⟨vs, ws, vs[i]'(by omega), ws[i]'(by omega), h.1, h.2, List.getElem?_eq_getElem (by omega), List.getElem?_eq_getElem (by omega)⟩
  stop := fun i H h hi => by
    rw [zip_len] at hi
    exact ⟨vs, ws, h.1, h.2, by omega⟩
  yld := fun i H v H' d h hy hd => by
    obtain ⟨T, x, y, rfl, hT, rfl, hx, hy⟩ := hy
    refine ⟨sub_new hT, fun M hM r => ?_⟩
    obtain ⟨d1, d2, e1, e2, rfl⟩ := zip_get hd
    have i1 : i < vs.length := (List.getElem?_eq_some_iff.mp (hx vs h.1)).1
    have i2 : i < ws.length := (List.getElem?_eq_some_iff.mp (hy ws h.2)).1
    obtain ⟨d', q1, q2⟩ := r.get (i := i) (v := x) (by rw [List.getElem?_append_left i1]; exact hx vs h.1)
    rw [List.getElem?_append_left (by omega), e1] at q1
    cases q1
    obtain ⟨d'', q3, q4⟩ := r.get (i := vs.length + i) (v := y) (by rw [List.getElem?_append_right (by omega), Nat.add_sub_cancel_left]; exact hy ws h.2)
    rw [hl, List.getElem?_append_right (by omega), Nat.add_sub_cancel_left, e2] at q3
    cases q3
    exact .tup (.of (vis_iff.mpr ⟨fun z => hM T z hT, upd_same⟩)) (.cons (q2.mono (vis_new hT)) (.cons (q4.mono (vis_new hT)) .nil))
theorem si_zip {e c : Expr} {elts : List Expr} {kk : Nat} {tpos : Pos} {f fc : List Slot → M (D × Kd)} {own? : Bool} {p pos : Pos} (hg : Gl X "zip") (hm : X.mg "zip" = none) (he : SE b cl X e f) (hc : SE b cl X c fc) (hs : isStar e = false) (hs2 : isStar c = false) :
    SI b cl X (.Tuple elts kk tpos) (.Call (.Name "zip" p) [e, c] [] pos) own? (fun ρ => bnd (f ρ) fun p => bnd (fc ρ) fun q => guard (p.2.ok && q.2.ok) (match p.1, q.1 with
    | .tup xs, .tup ys => ret (zipD xs ys)
    | _, _ => fail)) := fun M₀ H₀ own ρ σ H g ds g' T R B h q => by
  obtain ⟨⟨x, kx⟩, g1, h1, h⟩ := bnd_some h
  obtain ⟨⟨y, ky⟩, g2, h2, h⟩ := bnd_some h
  obtain ⟨hk, h⟩ := guard_eq h
  rw [Bool.and_eq_true] at hk
  obtain ⟨xs, ys, rfl, rfl⟩ : ∃ xs ys, x = .tup xs ∧ y = .tup ys := by
    cases x <;> cases y <;> first | exact ⟨_, _, rfl, rfl⟩ | (cases h; done)
  cases h
  have hn : ∀ {k : Kd}, k.ok = true → k.nd = true := fun {k} z => by cases k <;> first | rfl | (cases z; done)
  refine PI.wp (RZ.pi_zipA hg hm (pa_cons pe_wp (pa_cons pe_wp pa_nil (star_no hs2 _ _)) (star_no hs _ _)) (star_no hs _ _) (by rw [star_no hs2]; rfl)) ?_
  refine he M₀ H₀ own ρ σ H g _ kx g1 _ R B h1 fun vx H1 x1 B1 r1' => ?_
  have R1 := R.move x1 B1.some
  refine wpE.inv (hc M₀ H₀ own ρ σ H1 g1 _ ky _ _ R1 B1 h2 fun vy H2 x2 B2 r2 i2 => ?_)
  have R2 := R1.move x2 B2.some
  have xx := x1.trans x2
  have r1 := RV.move R r1' x2
  obtain ⟨pins, s, I⟩ := i2
  obtain ⟨p1, vs, rfl, s1, k1⟩ := RV.nd_tup R R2 r1 (hn hk.1)
  obtain ⟨p2, ws, rfl, s2, k2⟩ := RV.nd_tup R1 R2 r2 (hn hk.2)
  have t1 := (vis_sub _ _).sqT s1
  have t2 := (vis_sub _ _).sqT s2
  refine ⟨p1, p2, vs, ws, rfl, .inr ⟨t1, t2, q _ _ xx B2 ⟨vs ++ ws, xs ++ ys, _, walk_zip k1.length k2.length, k1.append k2, fun H' x' => ⟨(vis_sub _ _).sqT ((vis_ext (M' := hid M₀ own ρ) x' R.mb fun _ z => z).sqT s1), (vis_sub _ _).sqT ((vis_ext (M' := hid M₀ own ρ) x' R.mb fun _ z => z).sqT s2)⟩, fun z Hw H' w1 w2 => ⟨w2.sqT (w1.sqT s1), w2.sqT (w1.sqT s2)⟩, ?_⟩⟩⟩
  rw [zip_len, ← k1.length]
  exact Nat.le_trans (Nat.min_le_left _ _) (sqT_line I t1)
end
end Ev
set_option Elab.async false
set_option linter.all false
set_option autoImplicit false
/-! EvF: operators of instances that the program defines itself: calls, in, ==, + and |. -/
namespace Ev
open PySem PySem.Spec PyProof.Rows L2 M
section
variable {M : Model} {A : Around} {E : Value → Shared → Prop} {s : Shared} {pos : Pos} {x : Addr} {first : List Value} {Q : Value → Shared → Prop} {env : Env}
theorem app_callWith_of {args : List (Bool × Sem Value)} {keywords : List (Option Str × Sem Value)} (hplain : (args.any (·.1) || keywords.any (·.1.isNone)) = false)
    (h : wpAny M A (evalArgs (.ref x) true args keywords) (fun a s₁ => (∃ ox C od, PySem.W.InstAt s₁.heap x ox C od ∧ ox.data = .plain) ∧ wpAny M A (call (.ref x) (first ++ a.pos) a.kw) Q E s₁) E s) : wpAny M A (callWith pos (.ref x) first args keywords) Q E s := by
  unfold callWith
  refine wpAny_bind (wpAny_holding (wpAny_mono h (fun a s₁ h₁ => wpAny_bind (wpAny_standAt ?_)) fun _ _ y => y))
  obtain ⟨⟨ox, C, od, I, hd⟩, h₂⟩ := h₁
  have L := PySem.W.kco_keeper (M := M) I hd
  simp only [hplain]
  refine wpAny_bind (L.here ?_)
  have tail : ∀ {t : Sem Value}, wpAny M A t Q E s₁ → wpAny M A (t >>= fun r => holding [r] point >>= fun _ => pure r) Q E s₁ :=
    fun ht => wpAny_bind (wpAny_mono ht (fun r s₂ hr => wpAny_bind (wpAny_holding (wpAny_point (wpAny_pure hr)))) fun _ _ y => y)
  exact tail (wpAny_operateT h₂)
theorem app_callWith {e : Expr} {rest : List Expr} (h : wpAny M A (spliced (backTo pos (starEach (e :: rest) env))) (fun vs s₁ => (∃ ox C od, PySem.W.InstAt s₁.heap x ox C od ∧ ox.data = .plain) ∧ wpAny M A (call (.ref x) (first ++ vs)) Q E s₁) E s)
    (he : starEach (e :: rest) env = (false, eval e env) :: starEach rest env) (hplain : (backTo pos (starEach rest env)).any (·.1) = false) :
    wpAny M A (callWith pos (.ref x) first (backTo pos (starEach (e :: rest) env)) []) Q E s := by
  rw [he] at h ⊢
  exact app_callWith_of (by show ((false || (backTo pos (starEach rest env)).any (·.1)) || false) = false; rw [hplain]; rfl) (PySem.Calls.evalArgs_plain h)
end
def isAttr : Expr → Bool
  | .Attribute .. => true
  | _ => false
theorem call_eq {o : Expr} {args : List Expr} {pos : Pos} {env : Env} (h : isAttr o = false) : eval (.Call o args [] pos) env = (do
    callWith pos (← eval o env) [] (backTo pos (starEach args env)) (backToKw pos (keywordEach [] env))) := by
  cases o <;> first | rfl | cases h
section
variable {X : Cx} {b : Addr} {cl : Cls} {C : Calls} {cls : List ClsT} {k0 : Nat}
theorem inst_of {pins : List (Addr × Obj)} {σ : L2.St} {H : Hp} {s : Shared} {a A dx : Addr} {fs : List (Str × V)} (I : Inv X pins σ H s) (ea : H a = some (.ins A dx fs)) : ∃ ox od, PySem.W.InstAt s.heap a ox A od ∧ ox.data = .plain := by
  obtain ⟨mA, O, _, _, _, _⟩ := ins_get I.hok ea
  obtain ⟨od, J, _⟩ := O.look
  exact ⟨_, _, J, rfl⟩
theorem runGc {k : Nat} {f : Addr} {fd : FuncData} {ps : List Str} {sp : SpT} {pins : List (Addr × Obj)} {σ : L2.St} {H : Hp} {s : Shared} {Q : VK} {us : List Value} {vs : List V} (F : FnG X.prog X.w X.K X.mg X.base k f fd ps sp) (hr : Room k X.A) (hg : X.A.guards = some []) (hb : Binds X.K fd ps [])
    (I : Inv X pins σ H s) (r : Vals vs us) (h : sp vs H Q) : codeAny (model X.prog X.w) X.A (.call (.ref f) ⟨us, []⟩) (wants (EP X pins σ Q) X.xe) s := by
  have hl : (us ++ []).length = ps.length := by
    rw [List.append_nil, ← r.length]
    exact F.len _ _ _ h
  have hb' := hb s us I.kIn hl
  rw [List.append_nil] at hb'
  refine codeAny_mono (F.run X.A X.stack s H ⟨us, []⟩ us vs Q hr hg I.env0 hb' r h) fun z s' hq => ?_
  match z, hq with
  | .ok (.ret u), hq => exact I.after hq
theorem se_app {o a : Expr} {es : List Expr} {fo : List Slot → M (D × Kd)} {fa : List Slot → M (List D × Bool)} {pos : Pos} (cx : CxOk k0 X) (cf : ClsFacts b cl X k0 C cls) {cs : List Nat} (hm : mthB cls "__call__" cs = true) (ho : SE b cl X o fo) (ha : SA b cl X (a :: es) fa) (hb : isAttr o = false)
    (hs : isStar a = false) (hss : es.all (fun e => !isStar e) = true) :
    SE b cl X (.Call o (a :: es) [] pos) (fun ρ => bnd (fo ρ) fun p => bnd (fa ρ) fun q => appM C cs p q) := fun M₀ H₀ own ρ σ H g d k g' Q R B h q => by
  obtain ⟨⟨y, ky⟩, g1, h1, h⟩ := bnd_some h
  obtain ⟨⟨ds, okk⟩, g2, h2, h⟩ := bnd_some h
  unfold appM at h
  dsimp only at h
  obtain ⟨c, fs, rfl⟩ : ∃ c fs, y = .ins c fs := by
    cases y <;> first | exact ⟨_, _, rfl⟩ | (cases h; done)
  dsimp only at h
  obtain ⟨hc, h⟩ := guard_eq h
  obtain ⟨⟨r, kr⟩, g3, e3, h⟩ := bnd_some h
  cases h
  intro pins s I
  rw [call_eq hb]
  refine wpAny_bind (thn (ho M₀ H₀ own ρ σ H g _ ky g1 (fun v H1 => Ext b H H1 ∧ BagAt (gx X b cl) H1 g1 ∧ RV (gx X b cl) M₀ own ρ H H1 v (.ins c fs) ky) R B h1 (fun v H1 x1 B1 r1 => ⟨x1, B1, r1⟩) pins s I) fun u s1 ⟨v, H1, I1, rv, x1, B1, r1⟩ => ?_)
  have R1 := R.move x1 B1.some
  obtain ⟨a0, A, dx, fv, ns, rfl, ea, at_, pf, kids⟩ := RV.ins_at R R1 r1
  obtain rfl : u = Value.ref a0 := rv
  obtain ⟨T, hT, _, ok⟩ := cf.at_ c A ns at_
  obtain ⟨_, f, fd, ps, mt, hfi, hbn, F⟩ := mthB_ok ok hm hc hT e3
  refine app_callWith (thn (ha M₀ H₀ own ρ σ H1 g1 ds okk g2 (fun vs H2 => (∃ dx fv, H2 a0 = some (.ins A dx fv)) ∧ spF (gx X b cl) (C (.m c "__call__")) (.ref a0 :: vs) H2 Q) R1 B1 h2 (fun vs H2 x2 B2 r2 => ⟨?_, ?_⟩) pos pins s1 I1) fun us s2 ⟨vs, H2, I2, r, ⟨dx2, fv2, e2⟩, z⟩ => ?_) (star_no hs _ _) (stars_no hss)
  · obtain ⟨a1, A1, dx1, fv1, ns1, e, ea1, at1, _, _⟩ := RV.ins_at R (R1.move x2 B2.some) (RV.move R r1 x2)
    cases e
    rw [at_] at at1
    cases at1
    exact ⟨_, _, ea1⟩
  · have R2 := R1.move x2 B2.some
    have r1' := RV.move R r1 x2
    have rs : RVs (gx X b cl) M₀ own ρ H2 (.ref a0 :: vs) (.ins c fs :: ds) (ky.ok && okk) := ⟨.cons (RV.any R R2 r1') r2.1, fun hk => by
      rw [Bool.and_eq_true] at hk
      exact .cons (RV.ok R r1' hk.1) (r2.2 hk.2)⟩
    exact call_core R2 B2 rs e3 fun v H' x9 B9 r9 => q v H' ((x1.trans x2).trans x9) B9 (r9.ahead R (x1.trans x2) B2.some)
  · obtain ⟨ox, od, J, hd⟩ := inst_of I2 e2
    refine ⟨⟨ox, A, od, J, hd⟩, wpAny_call (PySem.W.kco_code I2.kIn J hd mt.at_ mt.fn hfi (runGc (us := .ref a0 :: us) (vs := .ref a0 :: vs) F cx.room cx.gd hbn I2 (.cons rfl r) z))⟩
/-- x in o, x not in o -/
theorem op_in {neg : Bool} {H : Hp} {a A dx : Addr} {fs : List (Str × V)} {pins : List (Addr × Obj)} {s : Shared} {σ : L2.St} {x : V} {v : Value} {Q : VK} {f : Addr} {fd : FuncData} {ps : List Str} {sp : SpT} (cx : CxOk k0 X) (I : Inv X pins σ H s) (rx : RelV x v) (ea : H a = some (.ins A dx fs))
    (mt : Meth X.K A "__contains__" f) (hb : Binds X.K fd ps []) (F : FnG X.prog X.w X.K X.mg X.base k0 f fd ps sp) (h : sp [.ref a, x] H (fun z H' => ∃ t, z = .bl t ∧ Q (.bl (neg != t)) H')) :
    wpAny (model X.prog X.w) X.A (compareOp (if neg then .NotIn else .In) v (.ref a)) (EP X pins σ Q) X.xe s := by
  obtain ⟨ox, od, J, hd⟩ := inst_of I ea
  obtain ⟨m, hF⟩ := I.fr
  have go := runG (us := [.ref a, v]) (vs := [.ref a, x]) F cx.room cx.gd hb I (.cons rfl (.cons rx .nil)) h
  cases neg with
  | false =>
    refine PySem.W.in_K hF I.ok.mod.kin J mt.at_ mt.fn (wpAny_mono go (fun r s' hr => ?_) fun _ _ z => z)
    obtain ⟨z, H', I', rz, t, rfl, q⟩ := hr
    cases rz
    exact wpAny_truthy_bool ⟨.bl t, H', I', rfl, by simpa using q⟩
  | true =>
    refine PySem.W.notIn_K hF I.ok.mod.kin J mt.at_ mt.fn (wpAny_mono go (fun r s' hr => ?_) fun _ _ z => z)
    obtain ⟨z, H', I', rz, t, rfl, q⟩ := hr
    cases rz
    exact wpAny_truthy_bool ⟨.bl (!t), H', I', rfl, by simpa using q⟩
theorem bnd_of {α β : Type} {x : M α} {f : α → M β} {g g1 : Bag} {a : α} (h : x g = some (a, g1)) : bnd x f g = f a g1 := by
  unfold bnd
  rw [h]
theorem din_ok {neg : Bool} {M₀ : Addr → Prop} {H₀ H H1 H2 : Hp} {own : Nat → Addr} {ρ : List Slot} {σ : L2.St} {g g' : Bag} {x y : V} {d e : D} {k l : Kd} {t : Bool} {Q : VK} (cx : CxOk k0 X) (cf : ClsFacts b cl X k0 C cls) {cs : List Nat} (hm : mthB cls "__contains__" cs = true)
    (R : Rel (gx X b cl) M₀ H₀ own ρ σ H) (R1 : Rel (gx X b cl) M₀ H₀ own ρ σ H1) (R2 : Rel (gx X b cl) M₀ H₀ own ρ σ H2) (B : BagAt (gx X b cl) H2 g) (r1 : RV (gx X b cl) M₀ own ρ H H2 x d k) (r2 : RV (gx X b cl) M₀ own ρ H1 H2 y e l)
    (h : dinM C cs neg (d, k) (e, l) g = some (t, g')) (q : ∀ H', Ext b H2 H' → BagAt (gx X b cl) H' g' → Q (.bl t) H') : rB X (compareOp (if neg then .NotIn else .In)) x y H2 Q := by
  unfold dinM at h
  dsimp only at h
  obtain ⟨c, fs, rfl⟩ : ∃ c fs, e = .ins c fs := by
    cases e <;> first | exact ⟨_, _, rfl⟩ | (cases h; done)
  dsimp only at h
  obtain ⟨hc, h⟩ := guard_eq h
  obtain ⟨⟨r, kr⟩, g3, e3, h⟩ := bnd_some h
  obtain ⟨t', g4, e4, h⟩ := bnd_some h
  cases h
  obtain ⟨rfl, rfl⟩ := boolM_eq e4
  obtain ⟨a0, A, dx, fv, ns, rfl, ea, at_, pf, kids⟩ := RV.ins_at R1 R2 r2
  obtain ⟨T, hT, _, ok⟩ := cf.at_ c A ns at_
  obtain ⟨_, f, fd, ps, mt, hfi, hbn, F⟩ := mthB_ok ok hm hc hT e3
  intro pins s σ' v u I rx ry
  obtain rfl : u = Value.ref a0 := ry
  refine op_in cx I rx ea mt hbn F ?_
  have rs : RVs (gx X b cl) M₀ own ρ H2 [.ref a0, x] [.ins c fs, d] (l.ok && k.ok) := ⟨.cons (RV.any R1 R2 r2) (.cons (RV.any R R2 r1) .nil), fun hk => by
    rw [Bool.and_eq_true] at hk
    exact .cons (RV.ok R1 r2 hk.1) (.cons (RV.ok R r1 hk.2) .nil)⟩
  refine call_core R2 B rs e3 fun v H' x9 B9 r9 => ?_
  cases r9.any R2 (R2.move x9 B9.some)
  exact ⟨t', rfl, q H' x9 B9⟩
theorem deq_ok {M₀ : Addr → Prop} {H₀ H H1 H2 : Hp} {own : Nat → Addr} {ρ : List Slot} {σ : L2.St} {g g' : Bag} {x y : V} {d e : D} {k l : Kd} {t : Bool} {Q : VK} (cx : CxOk k0 X) (cf : ClsFacts b cl X k0 C cls) {cs : List Nat} (hm : mthB cls "__eq__" cs = true)
    (R : Rel (gx X b cl) M₀ H₀ own ρ σ H) (R1 : Rel (gx X b cl) M₀ H₀ own ρ σ H1) (R2 : Rel (gx X b cl) M₀ H₀ own ρ σ H2) (B : BagAt (gx X b cl) H2 g) (r1 : RV (gx X b cl) M₀ own ρ H H2 x d k) (r2 : RV (gx X b cl) M₀ own ρ H1 H2 y e l)
    (h : deqM C cs (d, k) (e, l) g = some (t, g')) (q : ∀ H', Ext b H2 H' → BagAt (gx X b cl) H' g' → Q (.bl t) H') : rB X (compareOp .Eq) x y H2 Q := by
  unfold deqM at h
  dsimp only at h
  obtain ⟨c, fs, rfl⟩ : ∃ c fs, d = .ins c fs := by
    cases d <;> first | exact ⟨_, _, rfl⟩ | (cases h; done)
  obtain ⟨c', fs', rfl⟩ : ∃ c fs, e = .ins c fs := by
    cases e <;> first | exact ⟨_, _, rfl⟩ | (cases h; done)
  dsimp only at h
  obtain ⟨hc, h⟩ := guard_eq h
  rw [Bool.and_eq_true] at hc
  obtain ⟨hc, hc'⟩ := hc
  obtain rfl : c = c' := of_decide_eq_true hc'
  obtain ⟨⟨r, kr⟩, g3, e3, h⟩ := bnd_some h
  obtain ⟨rfl, rfl⟩ := boolM_eq h
  obtain ⟨a0, A, dx, fv, ns, rfl, ea, at_, _, _⟩ := RV.ins_at R R2 r1
  obtain ⟨a1, A1, dx1, fv1, ns1, rfl, ea1, at1, _, _⟩ := RV.ins_at R1 R2 r2
  have e := at_.symm.trans at1
  cases e
  obtain ⟨T, hT, _, ok⟩ := cf.at_ c A ns at_
  obtain ⟨_, f, fd, ps, mt, hfi, hbn, F⟩ := mthB_ok ok hm hc hT e3
  intro pins s σ' v u I rx ry
  obtain rfl : v = Value.ref a0 := rx
  obtain rfl : u = Value.ref a1 := ry
  obtain ⟨ox, od, J, hd⟩ := inst_of I ea
  obtain ⟨ox', od', J', hd'⟩ := inst_of I ea1
  obtain ⟨m, hF⟩ := I.fr
  have rs : RVs (gx X b cl) M₀ own ρ H2 [.ref a0, .ref a1] [.ins c fs, .ins c fs'] (k.ok && l.ok) := ⟨.cons (RV.any R R2 r1) (.cons (RV.any R1 R2 r2) .nil), fun hk => by
    rw [Bool.and_eq_true] at hk
    exact .cons (RV.ok R r1 hk.1) (.cons (RV.ok R1 r2 hk.2) .nil)⟩
  have cc := call_core (Q := fun z H' => z = .bl t ∧ Q (.bl t) H') R2 B rs e3 fun v H' x9 B9 r9 => by
    cases r9.any R2 (R2.move x9 B9.some)
    exact ⟨rfl, q H' x9 B9⟩
  refine PySem.W.cmp_K (op := .Eq) (tb := .ref A) cx.room.units0 hF I.ok.mod.kin J J'.type (by simp [PySem.W.notFirst]) mt.at_ mt.fn ?_
  refine wpAny_mono (runG (us := [.ref a0, .ref a1]) (vs := [.ref a0, .ref a1]) F cx.room cx.gd hbn I (.cons rfl (.cons rfl .nil)) cc) (fun r s' hr => ?_) fun _ _ z => z
  obtain ⟨z, H', I', rz, rfl, qz⟩ := hr
  cases rz
  exact ⟨.bl t, H', I', rfl, qz⟩
def Dop.cmp : Dop → Option CmpOp
  | .isin => some .In
  | .notin => some .NotIn
  | .eq => some .Eq
  | _ => none
theorem dcmp_ok {o : Dop} {co : CmpOp} {M₀ : Addr → Prop} {H₀ H H1 H2 : Hp} {own : Nat → Addr} {ρ : List Slot} {σ : L2.St} {g g' : Bag} {x y : V} {d e : D} {k l : Kd} {t : Bool} {Q : VK} (cx : CxOk k0 X) (cf : ClsFacts b cl X k0 C cls) {cs : List Nat} (hm : mthB cls o.mt cs = true) (ho : o.cmp = some co)
    (R : Rel (gx X b cl) M₀ H₀ own ρ σ H) (R1 : Rel (gx X b cl) M₀ H₀ own ρ σ H1) (R2 : Rel (gx X b cl) M₀ H₀ own ρ σ H2) (B : BagAt (gx X b cl) H2 g) (r1 : RV (gx X b cl) M₀ own ρ H H2 x d k) (r2 : RV (gx X b cl) M₀ own ρ H1 H2 y e l)
    (h : dunB C cs o (d, k) (e, l) g = some (t, g')) (q : ∀ H', Ext b H2 H' → BagAt (gx X b cl) H' g' → Q (.bl t) H') : rB X (compareOp co) x y H2 Q := by
  cases o <;> first | (cases ho; done) | cases ho
  · exact din_ok (neg := false) cx cf hm R R1 R2 B r1 r2 h q
  · exact din_ok (neg := true) cx cf hm R R1 R2 B r1 r2 h q
  · exact deq_ok cx cf hm R R1 R2 B r1 r2 h q
theorem se_dcmp {a c : Expr} {fa fc : List Slot → M (D × Kd)} {o : Dop} {co : CmpOp} {pos : Pos} (cx : CxOk k0 X) (cf : ClsFacts b cl X k0 C cls) {cs : List Nat} (hm : mthB cls o.mt cs = true) (ho : o.cmp = some co) (ha : SE b cl X a fa) (hc : SE b cl X c fc) (hs : isSetD c = false) :
    SE b cl X (.Compare a [co] [c] pos) (fun ρ => bnd (fa ρ) fun p => bnd (fc ρ) fun q => bnd (dunB C cs o p q) fun t => ret (.bl t, .clean)) := fun M₀ H₀ own ρ σ H g d k g' Q R B h q => by
  obtain ⟨⟨x, kx⟩, g1, h1, h⟩ := bnd_some h
  obtain ⟨⟨y, ky⟩, g2, h2, h⟩ := bnd_some h
  obtain ⟨t, g3, h3, h⟩ := bnd_some h
  cases h
  refine PE.wp (pe_cmpR (or_rB _) pe_wp pe_wp (mark_no hs)) (two ha hc R B h1 h2 fun vx vy H1 H2 xx R1 R2 B2 r1 r2 => ?_)
  exact dcmp_ok cx cf hm ho R R1 R2 B2 r1 r2 h3 fun H' x9 B9 => q _ _ (xx.trans x9) B9 (.bl t)
theorem st_dcmp {a c : Expr} {fa fc : List Slot → M (D × Kd)} {o : Dop} {co : CmpOp} {pos : Pos} (cx : CxOk k0 X) (cf : ClsFacts b cl X k0 C cls) {cs : List Nat} (hm : mthB cls o.mt cs = true) (ho : o.cmp = some co) (ha : SE b cl X a fa) (hc : SE b cl X c fc) (hs : isSetD c = false) :
    ST b cl X (.Compare a [co] [c] pos) (fun ρ => bnd (fa ρ) fun p => bnd (fc ρ) fun q => dunB C cs o p q) := fun M₀ H₀ own ρ σ H g t g' Q R B h q => by
  obtain ⟨⟨x, kx⟩, g1, h1, h⟩ := bnd_some h
  obtain ⟨⟨y, ky⟩, g2, h2, h⟩ := bnd_some h
  refine PT.wp (pt_cmpR (or_rB _) pe_wp pe_wp (mark_no hs)) (two ha hc R B h1 h2 fun vx vy H1 H2 xx R1 R2 B2 r1 r2 => ?_)
  exact dcmp_ok cx cf hm ho R R1 R2 B2 r1 r2 h fun H' x9 B9 => ⟨t, rfl, q _ (xx.trans x9) B9⟩
end
end Ev
set_option Elab.async false
set_option linter.all false
set_option autoImplicit false
/-! EvG: + of an instance and a tuple, | of two instances of one class. -/
namespace Ev
open PySem PySem.Spec PyProof.Rows L2 M
theorem fills_tuple : fillsNumberSlot (.type "tuple") "add" = pure false := by
  have h1 : typeLookup (.type "tuple") (PySem.dunder "add") = pure (some (.builtin "tuple.__add__")) := by rw [typeLookup_type, builtinLookup_eq_fast]; kernel_rfl
  have h2 : typeLookup (.type "tuple") (dunderR "add") = pure none := by rw [typeLookup_type, builtinLookup_eq_fast]; kernel_rfl
  unfold fillsNumberSlot
  simp only [h1, h2, pure_bind]
  rfl
theorem binop_tup {prog : Program} {w : World} {A : Around} {E : Value → Shared → Prop} {s : Shared} {K : PySem.W.Frag} {x C L f : Addr} {h₀ : Heap} {m : Str → Option Value} {ox : Obj} {od : Option Obj} {b : Value} {Q : Value → Shared → Prop} (F : Fr h₀ L s.heap m) (X₀ : K.In h₀) (I : PySem.W.InstAt s.heap x ox C od) (hb : PySem.W.Looks (model prog w) s.heap (typeOf b) (.type "tuple")) (hc : PySem.W.selfFirst K C = true)
    (hs : PySem.W.findIn K (.ref C) "__add__" = some (some (.ref f))) (hf : PySem.W.isFn K (.ref f) = true)
    (h : wpAny (model prog w) A (call (.ref f) [.ref x, b]) (PySem.W.CmpBack Q) E s) : wpAny (model prog w) A (binaryOp .Add (.ref x) b) Q E s := by
  have X := X₀.keeps F.keep
  obtain ⟨cd, rest, hcd, hm⟩ := PySem.W.ksp_first hc
  have hs' : PySem.W.findIn K (.ref C) (PySem.dunder "add") = some (some (.ref f)) := hs
  have one := PySem.W.ksp_try X I hs' hf h
  unfold binaryOp
  refine wpAny_holding (wpAny_bind ?_)
  unfold binaryOp1
  refine wpAny_bind (I.type.here (wpAny_bind (hb.here (wpAny_bind ((PySem.W.fills_K X hcd hm hs').here ?_)))))
  have hne : (Value.ref C == Value.type "tuple") = false := Bool.eq_false_iff.mpr fun q => by cases beq_iff_eq.mp q
  simp only [hne, Bool.false_eq_true, if_false]
  refine wpAny_bind (wpAny_of_eq (a := false) fills_tuple ?_)
  simp only [Bool.and_false, Bool.false_eq_true, if_false, Bool.false_and, if_true]
  refine wpAny_bind (wpAny_pure ?_)
  refine wpAny_bind (wpAny_mono one (fun r s' hr => ?_) fun _ _ e => e)
  obtain ⟨v, rfl, hq⟩ := hr
  exact wpAny_pure (wpAny_pure hq)
theorem cmpback {P : Value → Shared → Prop} {z : V} {v : Value} {s' : Shared} (r : RelV z v) (h : P v s') : PySem.W.CmpBack P v s' := by
  cases z with
  | non => cases (show v = Value.none from r); exact h
  | bl b => cases (show v = Value.bool b from r); exact h
  | int i =>
    obtain ⟨t, e⟩ := (show ∃ t, v = Value.int i t from r)
    cases e
    exact h
  | str x =>
    obtain ⟨t, e⟩ := (show ∃ t, v = Value.str x t from r)
    cases e
    exact h
  | byt b =>
    obtain ⟨t, e⟩ := (show ∃ t, v = Value.bytes b t from r)
    cases e
    exact h
  | flt b =>
    obtain ⟨t, e⟩ := (show ∃ t, v = Value.float b t from r)
    cases e
    exact h
  | ref a => cases (show v = Value.ref a from r); exact h
  | ty n => cases (show v = Value.type n from r); exact h
section
variable {X : Cx} {b : Addr} {cl : Cls} {C : Calls} {cls : List ClsT} {k0 : Nat}
theorem tup_type {M : Model} {pins : List (Addr × Obj)} {σ : L2.St} {H : Hp} {s : Shared} {p : Addr} {vs : List V} (I : Inv X pins σ H s) (h : SqT X.K H p vs) : PySem.W.Looks M s.heap (typeOf (.ref p)) (.type "tuple") := by
  obtain ⟨its, r, ⟨o, e, hc, _⟩, _⟩ := I.tuple h
  exact fun A Q E s' k q => wpAny_typeOf_ref (k _ _ e) (by rw [hc]; exact q)
theorem dadd_ok {M₀ : Addr → Prop} {H₀ H H1 H2 : Hp} {own : Nat → Addr} {ρ : List Slot} {σ : L2.St} {g g' : Bag} {x y : V} {d e r : D} {k l m : Kd} {Q : VK} (cx : CxOk k0 X) (cf : ClsFacts b cl X k0 C cls) {cs : List Nat} (hm : mthB cls "__add__" cs = true)
    (R : Rel (gx X b cl) M₀ H₀ own ρ σ H) (R1 : Rel (gx X b cl) M₀ H₀ own ρ σ H1) (R2 : Rel (gx X b cl) M₀ H₀ own ρ σ H2) (B : BagAt (gx X b cl) H2 g) (r1 : RV (gx X b cl) M₀ own ρ H H2 x d k) (r2 : RV (gx X b cl) M₀ own ρ H1 H2 y e l)
    (h : daddM C cs (d, k) (e, l) g = some ((r, m), g')) (W : Wants (gx X b cl) M₀ own ρ H2 g' r m Q) : rB X (binaryOp .Add) x y H2 Q := by
  unfold daddM at h
  dsimp only at h
  obtain ⟨c, fs, rfl⟩ : ∃ c fs, d = .ins c fs := by
    cases d <;> first | exact ⟨_, _, rfl⟩ | (cases h; done)
  obtain ⟨xs, rfl⟩ : ∃ xs, e = .tup xs := by
    cases e <;> first | exact ⟨_, rfl⟩ | (cases h; done)
  dsimp only at h
  obtain ⟨hc, h⟩ := guard_eq h
  obtain ⟨⟨r', kr⟩, g3, e3, h⟩ := bnd_some h
  cases h
  obtain ⟨a0, A, dx, fv, ns, rfl, ea, at_, _, _⟩ := RV.ins_at R R2 r1
  obtain ⟨a1, vs, rfl, sq, _⟩ := RV.kids_tup R1 R2 r2
  obtain ⟨T, hT, _, ok⟩ := cf.at_ c A ns at_
  obtain ⟨_, f, fd, ps, mt, hfi, hbn, F⟩ := mthB_ok ok hm hc hT e3
  intro pins s σ' v u I rx ry
  obtain rfl : v = Value.ref a0 := rx
  obtain rfl : u = Value.ref a1 := ry
  obtain ⟨ox, od, J, hd⟩ := inst_of I ea
  obtain ⟨mm, hF⟩ := I.fr
  have rs : RVs (gx X b cl) M₀ own ρ H2 [.ref a0, .ref a1] [.ins c fs, .tup xs] (k.ok && l.ok) := ⟨.cons (RV.any R R2 r1) (.cons (RV.any R1 R2 r2) .nil), fun hk => by
    rw [Bool.and_eq_true] at hk
    exact .cons (RV.ok R r1 hk.1) (.cons (RV.ok R1 r2 hk.2) .nil)⟩
  refine binop_tup hF I.ok.mod.kin J (tup_type I sq) ok.sf mt.at_ mt.fn ?_
  refine wpAny_mono (runG (us := [.ref a0, .ref a1]) (vs := [.ref a0, .ref a1]) F cx.room cx.gd hbn I (.cons rfl (.cons rfl .nil)) (call_core R2 B rs e3 W)) (fun w s' hr => ?_) fun _ _ z => z
  obtain ⟨z, H', I', rz, qz⟩ := hr
  exact cmpback rz ⟨z, H', I', rz, qz⟩
theorem dor_ok {M₀ : Addr → Prop} {H₀ H H1 H2 : Hp} {own : Nat → Addr} {ρ : List Slot} {σ : L2.St} {g g' : Bag} {x y : V} {d e r : D} {k l m : Kd} {Q : VK} (cx : CxOk k0 X) (cf : ClsFacts b cl X k0 C cls) {cs : List Nat} (hm : mthB cls "__or__" cs = true)
    (R : Rel (gx X b cl) M₀ H₀ own ρ σ H) (R1 : Rel (gx X b cl) M₀ H₀ own ρ σ H1) (R2 : Rel (gx X b cl) M₀ H₀ own ρ σ H2) (B : BagAt (gx X b cl) H2 g) (r1 : RV (gx X b cl) M₀ own ρ H H2 x d k) (r2 : RV (gx X b cl) M₀ own ρ H1 H2 y e l)
    (h : dorM C cs (d, k) (e, l) g = some ((r, m), g')) (W : Wants (gx X b cl) M₀ own ρ H2 g' r m Q) : rB X (binaryOp .BitOr) x y H2 Q := by
  unfold dorM at h
  dsimp only at h
  obtain ⟨c, fs, rfl⟩ : ∃ c fs, d = .ins c fs := by
    cases d <;> first | exact ⟨_, _, rfl⟩ | (cases h; done)
  obtain ⟨c', fs', rfl⟩ : ∃ c fs, e = .ins c fs := by
    cases e <;> first | exact ⟨_, _, rfl⟩ | (cases h; done)
  dsimp only at h
  obtain ⟨hc, h⟩ := guard_eq h
  rw [Bool.and_eq_true] at hc
  obtain ⟨hc, hc'⟩ := hc
  obtain rfl : c = c' := of_decide_eq_true hc'
  obtain ⟨⟨r', kr⟩, g3, e3, h⟩ := bnd_some h
  cases h
  obtain ⟨a0, A, dx, fv, ns, rfl, ea, at_, _, _⟩ := RV.ins_at R R2 r1
  obtain ⟨a1, A1, dx1, fv1, ns1, rfl, ea1, at1, _, _⟩ := RV.ins_at R1 R2 r2
  have e := at_.symm.trans at1
  cases e
  obtain ⟨T, hT, _, ok⟩ := cf.at_ c A ns at_
  obtain ⟨_, f, fd, ps, mt, hfi, hbn, F⟩ := mthB_ok ok hm hc hT e3
  intro pins s σ' v u I rx ry
  obtain rfl : v = Value.ref a0 := rx
  obtain rfl : u = Value.ref a1 := ry
  obtain ⟨ox, od, J, hd⟩ := inst_of I ea
  obtain ⟨ox', od', J', hd'⟩ := inst_of I ea1
  obtain ⟨mm, hF⟩ := I.fr
  have rs : RVs (gx X b cl) M₀ own ρ H2 [.ref a0, .ref a1] [.ins c fs, .ins c fs'] (k.ok && l.ok) := ⟨.cons (RV.any R R2 r1) (.cons (RV.any R1 R2 r2) .nil), fun hk => by
    rw [Bool.and_eq_true] at hk
    exact .cons (RV.ok R r1 hk.1) (.cons (RV.ok R1 r2 hk.2) .nil)⟩
  refine PySem.W.binop_K (op := .BitOr) hF I.ok.mod.kin J J'.type ok.sf mt.at_ mt.fn ?_
  refine wpAny_mono (runG (us := [.ref a0, .ref a1]) (vs := [.ref a0, .ref a1]) F cx.room cx.gd hbn I (.cons rfl (.cons rfl .nil)) (call_core R2 B rs e3 W)) (fun w s' hr => ?_) fun _ _ z => z
  obtain ⟨z, H', I', rz, qz⟩ := hr
  exact cmpback rz ⟨z, H', I', rz, qz⟩
def Dop.bin : Dop → Option Operator
  | .add => some .Add
  | .bor => some .BitOr
  | _ => none
theorem se_dbin {a c : Expr} {fa fc : List Slot → M (D × Kd)} {o : Dop} {co : Operator} {pos : Pos} (cx : CxOk k0 X) (cf : ClsFacts b cl X k0 C cls) {cs : List Nat} (hm : mthB cls o.mt cs = true) (ho : o.bin = some co) (ha : SE b cl X a fa) (hc : SE b cl X c fc) :
    SE b cl X (.BinOp a co c pos) (fun ρ => bnd (fa ρ) fun p => bnd (fc ρ) fun q => dunM C cs o p q) := fun M₀ H₀ own ρ σ H g d k g' Q R B h q => by
  obtain ⟨⟨x, kx⟩, g1, h1, h⟩ := bnd_some h
  obtain ⟨⟨y, ky⟩, g2, h2, h⟩ := bnd_some h
  refine PE.wp (pe_op (or_rB _) pe_wp pe_wp) (two ha hc R B h1 h2 fun vx vy H1 H2 xx R1 R2 B2 r1 r2 => ?_)
  have W : Wants (gx X b cl) M₀ own ρ H2 g' d k Q := fun v H' x9 B9 r9 => q v H' (xx.trans x9) B9 (r9.ahead R xx B2.some)
  cases o <;> first | (cases ho; done) | cases ho
  · exact dadd_ok cx cf hm R R1 R2 B2 r1 r2 h W
  · exact dor_ok cx cf hm R R1 R2 B2 r1 r2 h W
end
end Ev
set_option Elab.async false
set_option linter.all false
set_option autoImplicit false
/-! EvH: len(o) and o[i] of an instance, by its own defs, one level down. -/
namespace Ev
open PySem PySem.Spec PyProof.Rows L2 M
section
variable {X : Cx} {b : Addr} {cl : Cls} {C : Calls} {cls : List ClsT} {k0 : Nat}
theorem runG1 {k : Nat} {f : Addr} {fd : FuncData} {ps : List Str} {sp : SpT} {pins : List (Addr × Obj)} {σ : L2.St} {H : Hp} {s : Shared} {Q : VK} {us : List Value} {vs : List V} (F : FnG X.prog X.w X.K X.mg X.base k f fd ps sp) (hr : Room (k + 1) X.A) (hg : X.A.guards = some []) (hb : Binds X.K fd ps [])
    (I : Inv X pins σ H s) (r : Vals vs us) (h : sp vs H Q) : wpAny (model X.prog X.w) X.A.in1 (call (.ref f) us) (EP X pins σ Q) X.xe s := by
  have hl : (us ++ []).length = ps.length := by
    rw [List.append_nil, ← r.length]
    exact F.len _ _ _ h
  have hb' := hb s us I.kIn hl
  rw [List.append_nil] at hb'
  refine wpAny_call (codeAny_mono (F.run X.A.in1 X.stack s H ⟨us, []⟩ us vs Q hr.in1 hg I.env0.in1 hb' r h) fun z s' hq => ?_)
  match z, hq with
  | .ok (.ret u), hq => exact I.after hq
theorem dlen_ok {M₀ : Addr → Prop} {H₀ H H1 : Hp} {own : Nat → Addr} {ρ : List Slot} {σ : L2.St} {g g' : Bag} {x : V} {d r : D} {k m : Kd} {Q : VK} (cx : CxOk k0 X) (cf : ClsFacts b cl X k0 C cls) {cs : List Nat} (hm : mthB cls "__len__" cs = true)
    (R : Rel (gx X b cl) M₀ H₀ own ρ σ H) (R1 : Rel (gx X b cl) M₀ H₀ own ρ σ H1) (B : BagAt (gx X b cl) H1 g) (r1 : RV (gx X b cl) M₀ own ρ H H1 x d k)
    (h : dlenM C cs (d, k) g = some ((r, m), g')) (W : Wants (gx X b cl) M₀ own ρ H1 g' r m Q) : rC X (.builtin "len") [x] H1 Q := by
  unfold dlenM at h
  dsimp only at h
  obtain ⟨c, fs, rfl⟩ : ∃ c fs, d = .ins c fs := by
    cases d <;> first | exact ⟨_, _, rfl⟩ | (cases h; done)
  dsimp only at h
  obtain ⟨hc, h⟩ := guard_eq h
  obtain ⟨⟨r', kr⟩, g3, e3, h⟩ := bnd_some h
  obtain ⟨n, g4, e4, h⟩ := bnd_some h
  obtain ⟨hn, h⟩ := guard_eq h
  cases h
  obtain ⟨rfl, rfl⟩ := intM_eq e4
  simp only [Bool.and_eq_true, decide_eq_true_eq] at hn
  obtain ⟨a0, A, dx, fv, ns, rfl, ea, at_, _, _⟩ := RV.ins_at R R1 r1
  obtain ⟨T, hT, _, ok⟩ := cf.at_ c A ns at_
  rcases mthB_ok1 ok hm hc hT with z | ⟨f, fd, ps, k1, lk, mt, hfi, hbn, F⟩
  · rw [z] at e3
    cases e3
  intro pins s σ' us I rx
  obtain ⟨u, rfl, ru⟩ := rx.one
  obtain rfl : u = Value.ref a0 := ru
  obtain ⟨ox, od, J, hd⟩ := inst_of I ea
  obtain ⟨mm, hF⟩ := I.fr
  have rs : RVs (gx X b cl) M₀ own ρ H1 [.ref a0] [.ins c fs] k.ok := ⟨.cons (RV.any R R1 r1) .nil, fun hk => .cons (RV.ok R r1 hk) .nil⟩
  have cc := call_core (Q := fun z H' => z = .int n ∧ Q (.int n) H') R1 B rs e3 fun v H' x9 B9 r9 => by
    cases r9.any R1 (R1.move x9 B9.some)
    exact ⟨rfl, W _ H' x9 B9 (.int n)⟩
  refine PySem.W.len_K hF I.ok.mod.kin J mt.at_ mt.fn ?_
  refine wpAny_mono (runG1 (us := [.ref a0]) (vs := [.ref a0]) F (cx.room.mono lk) cx.gd hbn I (.cons rfl .nil) cc) (fun w s' hr => ?_) fun _ _ z => z
  obtain ⟨z, H', I', rz, rfl, qz⟩ := hr
  obtain ⟨t, e⟩ := (show ∃ t, w = Value.int n t from rz)
  cases e
  exact ⟨⟨hn.1, by omega⟩, .int n, H', I'.tok _, ⟨_, rfl⟩, qz⟩
def rIx2 (X : Cx) (sl : Expr) : R2 := fun x y H Q => ∀ (value : Expr) (pins : List (Addr × Obj)) (s : Shared) (σ : L2.St) (v u : Value), Inv X pins σ H s → RelV x v → RelV y u → wpAny (model X.prog X.w) X.A (subscriptTail value sl v u) (EP X pins σ Q) X.xe s
theorem pe_ix2 {a c : Expr} {ta tb : TE} {pos : Pos} (ha : PE X a ta) (hc : PE X c tb) : PE X (.Subscript a c pos) (tOp (rIx2 X c) ta tb) := by
  refine ⟨fun pins s σ H Q I h => ?_⟩
  exact Subscript_ (binT ha hc I h fun v u s2 x y H2 I2 rx ry q => q a pins s2 σ v u I2 rx ry)
theorem didx_ok {sl : Expr} {M₀ : Addr → Prop} {H₀ H H1 H2 : Hp} {own : Nat → Addr} {ρ : List Slot} {σ : L2.St} {g g' : Bag} {x y : V} {d e r : D} {k l m : Kd} {Q : VK} (cx : CxOk k0 X) (cf : ClsFacts b cl X k0 C cls) {cs : List Nat} (hm : mthB cls "__getitem__" cs = true) (hs : isSl sl = false)
    (R : Rel (gx X b cl) M₀ H₀ own ρ σ H) (R1 : Rel (gx X b cl) M₀ H₀ own ρ σ H1) (R2 : Rel (gx X b cl) M₀ H₀ own ρ σ H2) (B : BagAt (gx X b cl) H2 g) (r1 : RV (gx X b cl) M₀ own ρ H H2 x d k) (r2 : RV (gx X b cl) M₀ own ρ H1 H2 y e l)
    (h : didxM C cs (d, k) (e, l) g = some ((r, m), g')) (W : Wants (gx X b cl) M₀ own ρ H2 g' r m Q) : rIx2 X sl x y H2 Q := by
  unfold didxM at h
  dsimp only at h
  obtain ⟨c, fs, rfl⟩ : ∃ c fs, d = .ins c fs := by
    cases d <;> first | exact ⟨_, _, rfl⟩ | (cases h; done)
  dsimp only at h
  obtain ⟨hc, h⟩ := guard_eq h
  obtain ⟨⟨r', kr⟩, g3, e3, h⟩ := bnd_some h
  cases h
  obtain ⟨a0, A, dx, fv, ns, rfl, ea, at_, _, _⟩ := RV.ins_at R R2 r1
  obtain ⟨T, hT, _, ok⟩ := cf.at_ c A ns at_
  rcases mthB_ok1 ok hm hc hT with z | ⟨f, fd, ps, k1, lk, mt, hfi, hbn, F⟩
  · rw [z] at e3
    cases e3
  intro value pins s σ' v u I rx ry
  obtain rfl : v = Value.ref a0 := rx
  obtain ⟨ox, od, J, hd⟩ := inst_of I ea
  obtain ⟨mm, hF⟩ := I.fr
  have rs : RVs (gx X b cl) M₀ own ρ H2 [.ref a0, y] [.ins c fs, e] (k.ok && l.ok) := ⟨.cons (RV.any R R2 r1) (.cons (RV.any R1 R2 r2) .nil), fun hk => by
    rw [Bool.and_eq_true] at hk
    exact .cons (RV.ok R r1 hk.1) (.cons (RV.ok R1 r2 hk.2) .nil)⟩
  refine PySem.W.sub_K hF I.ok.mod.kin J mt.at_ hfi mt.fn ?_ (by cases sl <;> first | rfl | cases hs)
  exact runG1 (us := [.ref a0, u]) (vs := [.ref a0, y]) F (cx.room.mono lk) cx.gd hbn I (.cons rfl (.cons ry .nil)) (call_core R2 B rs e3 W)
theorem se_didx {a c : Expr} {fa fc : List Slot → M (D × Kd)} {pos : Pos} (cx : CxOk k0 X) (cf : ClsFacts b cl X k0 C cls) {cs : List Nat} (hm : mthB cls "__getitem__" cs = true) (ha : SE b cl X a fa) (hc : SE b cl X c fc) (hs : isSl c = false) :
    SE b cl X (.Subscript a c pos) (fun ρ => bnd (fa ρ) fun p => bnd (fc ρ) fun q => didxM C cs p q) := fun M₀ H₀ own ρ σ H g d k g' Q R B h q => by
  obtain ⟨⟨x, kx⟩, g1, h1, h⟩ := bnd_some h
  obtain ⟨⟨y, ky⟩, g2, h2, h⟩ := bnd_some h
  refine PE.wp (pe_ix2 pe_wp pe_wp) (two ha hc R B h1 h2 fun vx vy H1 H2 xx R1 R2 B2 r1 r2 => ?_)
  exact didx_ok cx cf hm hs R R1 R2 B2 r1 r2 h fun v H' x9 B9 r9 => q v H' (xx.trans x9) B9 (r9.ahead R xx B2.some)
theorem se_dlen {a : Expr} {fa : List Slot → M (D × Kd)} {p pos : Pos} (cx : CxOk k0 X) (cf : ClsFacts b cl X k0 C cls) {cs : List Nat} (hm : mthB cls "__len__" cs = true) (hg : Gl X Blt.len.nm) (hmg : X.mg Blt.len.nm = none) (ha : SE b cl X a fa) (hs : isStar a = false) :
    SE b cl X (.Call (.Name Blt.len.nm p) [a] [] pos) (fun ρ => bnd (fa ρ) fun p => dlenM C cs p) := fun M₀ H₀ own ρ σ H g d k g' Q R B h q => by
  obtain ⟨⟨x, kx⟩, g1, h1, h⟩ := bnd_some h
  refine PE.wp (pe_blt (f := .len) (cr_rC _) hg hmg pe_wp hs) (ha M₀ H₀ own ρ σ H g x kx _ _ R B h1 fun v H1 x1 B1 r1 => ?_)
  exact dlen_ok cx cf hm R (R.move x1 B1.some) B1 r1 h fun v H' x9 B9 r9 => q v H' (x1.trans x9) B9 (r9.ahead R x1 B1.some)
end
end Ev
set_option Elab.async false
set_option linter.all false
set_option autoImplicit false
/-! Ev18: a tree text is the given text: the check, and what it gives. -/
namespace Ev
open PySem PySem.Spec PyProof.Rows L2 M
def visB (sc : Scope) (x : Str) : Bool := match sc.names.lookup x with
  | some .local => true
  | some .cell => true
  | some .free => true
  | _ => false
theorem visB_ok {sc : Scope} {x : Str} (h : visB sc x = true) : Vis sc x := by
  unfold visB at h
  split at h
  · exact .inl (by assumption)
  · exact .inr (.inl (by assumption))
  · exact .inr (.inr (by assumption))
  · cases h
def locB (sc : Scope) (x : Str) : Bool := match sc.names.lookup x with
  | some .local => true
  | some .cell => true
  | _ => false
theorem locB_ok {sc : Scope} {x : Str} (h : locB sc x = true) : Loc sc x := by
  unfold locB at h
  split at h
  · exact .inl (by assumption)
  · exact .inr (by assumption)
  · cases h
def nameB (N : List Str) (sc : Scope) (x : Str) (i : Nat) : Bool := decide (N[i]? = some x) && visB sc x && !(x == ("__debug__" : Str)) && !(x == ("__classdict__" : Str))
theorem nameB_ok {N : List Str} {sc : Scope} {x : Str} {i : Nat} (h : nameB N sc x i = true) : N[i]? = some x ∧ Vis sc x ∧ (x == ("__debug__" : Str)) = false ∧ (x == ("__classdict__" : Str)) = false := by
  unfold nameB at h
  rw [Bool.and_eq_true, Bool.and_eq_true, Bool.and_eq_true] at h
  obtain ⟨⟨⟨h1, h2⟩, h3⟩, h4⟩ := h
  exact ⟨of_decide_eq_true h1, visB_ok h2, by simpa using h3, by simpa using h4⟩
def glB (sc : Scope) (x : Str) : Bool := decide (sc.names.lookup x = some .globalImplicit)
def cstB : D → Const → Bool
  | .non, .none => true
  | .bl b, .bool c => b == c
  | .int i, .int j => decide (i = j)
  | .str x, .str y => decide (x = y)
  | _, _ => false
def copB : Cop → CmpOp → Bool
  | .eq, .Eq => true
  | .ne, .NotEq => true
  | .lt, .Lt => true
  | .le, .LtE => true
  | .gt, .Gt => true
  | .ge, .GtE => true
  | .isin, .In => true
  | .notin, .NotIn => true
  | .isN, .Is => true
  | .notN, .IsNot => true
  | _, _ => false
theorem copB_ok {o : Cop} {c : CmpOp} (h : copB o c = true) : c = o.ast := by
  cases o <;> cases c <;> first | rfl | cases h
def bopB : Bop → Operator → Bool
  | .add, .Add => true
  | .sub, .Sub => true
  | .mul, .Mult => true
  | .mod, .Mod => true
  | .fdiv, .FloorDiv => true
  | .pow, .Pow => true
  | _, _ => false
theorem bopB_ok {o : Bop} {c : Operator} (h : bopB o c = true) : c = o.ast := by
  cases o <;> cases c <;> first | rfl | cases h
/-- names of the block and their slots -/
def namesB (N : List Str) (sc blk : Scope) (fnAll : Bool) : List Expr → List Nat → Bool
  | [], [] => true
  | .Name x _ :: es, i :: is => decide (N[i]? = some x) && locB sc x && (fnAll || blk.names.lookup x == some .cell || decide (sc.names.lookup x = some .local)) && namesB N sc blk fnAll es is
  | _, _ => false
def tgB (N : List Str) (sc blk : Scope) (fnAll : Bool) : Tg → Expr → Bool
  | .one i, e => namesB N sc blk fnAll [e] [i]
  | .tup is, .Tuple es _ _ => namesB N sc blk fnAll es is
  | _, _ => false
def ownOf (N : List Str) (vs : List Nat) : List (Str × Nat) := vs.map fun i => (N.getD i Str.empty, i)
theorem ownOf_snd (N : List Str) (vs : List Nat) : (ownOf N vs).map (·.2) = vs := by
  unfold ownOf
  rw [List.map_map]
  exact List.map_id vs
/-- what a text may name: defs, defs to sort by, constants, classes -/
structure Tab where
  fns : List Str
  rks : List Str
  cst : List (Str × Str)
  cls : List ClsT
  isc : Bool := false
def strD (y : Str) : D → Bool
  | .str x => decide (x = y)
  | _ => false
def clsNm (cls : List ClsT) (c : Nat) (x : Str) : Bool := match cls[c]? with
  | some T => decide (x = T.nm)
  | none => false
def tyB (sc : Scope) (t : Ty) (x : Str) : Bool := decide (x = Str.ofString t.nm) && glB sc x && decide (t.nm ≠ "")
section
variable (tb : Tab) (N : List Str)
mutual
def chE : Scope → E → Expr → Bool
  | _, .con d, .Constant c _ _ => cstB d c
  | sc, .var i, .Name x _ => nameB N sc x i
  | sc, .tup es, .Tuple xs _ _ => chEs sc es xs
  | sc, .lst es, .List xs _ => chEs sc es xs
  | sc, .lc g vs it c e, .ListComp elt [⟨tg, iter, ifs, 0⟩] scope _ => blkC N sc scope (ownOf N vs) && tgB N (relS scope sc) scope false g tg && chIt sc it tg iter && chOt (relS scope sc) c ifs && chE (relS scope sc) e elt && !isSetD iter && g.slots.all (fun i => vs.contains i)
  | sc, .and a b, .BoolOp .And (x :: y :: r) pos => chE sc a x && (match r with
    | [] => chE sc b y
    | _ => chE sc b (.BoolOp .And (y :: r) pos))
  | sc, .or a b, .BoolOp .Or (x :: y :: r) pos => chE sc a x && (match r with
    | [] => chE sc b y
    | _ => chE sc b (.BoolOp .Or (y :: r) pos))
  | sc, .not a, .UnaryOp .Not x _ => chE sc a x
  | sc, .ite c a b, .IfExp t x y _ => chE sc c t && chE sc a x && chE sc b y
  | sc, .cmp o a b, .Compare x [p] [y] _ => copB o p && chE sc a x && chE sc b y && !isSetD y
  | sc, .chain o o' a b c, .Compare x [p, p'] [y, z] _ => copB o p && copB o' p' && chE sc a x && chE sc b y && chE sc c z && !isSetD z
  | sc, .bin o a b, .BinOp x p y _ => bopB o p && chE sc a x && chE sc b y
  | sc, .neg a, .UnaryOp .USub x _ => chE sc a x
  | sc, .sli a lo hi, .Subscript x (.Slice l h none _) _ => chE sc a x && chOe sc lo l && chOe sc hi h && (match lo, hi with
    | .no, .yes _ => true
    | .yes _, .no => true
    | .yes _, .yes _ => true
    | _, _ => false)
  | sc, .rev a, .Subscript x (.Slice none none (some (.UnaryOp .USub (.Constant (.int c) _ _) _)) _) _ => decide (c = 1) && chE sc a x
  | sc, .idx a i, .Subscript x y _ => chE sc a x && chE sc i y && !isSl y
  | sc, .call f as, .Call (.Name x _) args [] _ => decide (x = f) && tb.fns.contains f && glB sc f && !(f == ("__debug__" : Str)) && chEs sc as args && args.all (fun e => !isStar e)
  | sc, .blt .sortset a, .Call (.Name x _) [.Call (.Name y _) [e] [] _] [] _ => decide (x = "sorted") && decide (y = "set") && glB sc "sorted" && glB sc "set" && chE sc a e && !isStar e
  | sc, .blt f a, .Call (.Name x _) [e] [] _ => decide (f ≠ .sortset) && decide (x = f.nm) && glB sc f.nm && chE sc a e && !isStar e
  | sc, .srt f a, .Call (.Name x _) [e] [⟨some ky, .Name y _, _⟩] _ => decide (x = "sorted") && decide (ky = "key") && decide (y = f) && tb.rks.contains f && glB sc "sorted" && glB sc f && !(f == ("__debug__" : Str)) && chE sc a e && !isStar e
  | sc, .split a b, .Call (.Attribute x m ap) [y] [] cp => decide (m = "split") && chE sc a x && chE sc b y && !isCall0 x && !isStar y && (ap.endLine == cp.line)
  | sc, .lidx a b, .Call (.Attribute x m ap) [y] [] cp => decide (m = "index") && chE sc a x && chE sc b y && !isCall0 x && !isStar y && (ap.endLine == cp.line)
  | sc, .bget s i, .Subscript (.Name x _) (.Constant (.int c) _ _) _ => nameB N sc x s && decide (c = (i : Int))
  | sc, .bcell s, .Subscript (.Subscript (.Name x _) (.Constant (.int c) _ _) _) (.Subscript (.Name y _) (.Constant (.int c') _ _) _) _ => nameB N sc x s && decide (y = x) && decide (c = 3) && decide (c' = 2)
  | sc, .glob x d, .Name y _ => decide (y = x) && glB sc x && !(x == ("__debug__" : Str)) && tb.cst.any (fun p => decide (p.1 = x) && strD p.2 d)
  | sc, .fld a x tab, .Attribute e y _ => decide (y = x) && chE sc a e && !isCall0 e && tabB tb.cls x tab
  | sc, .meth a m cs as, .Call (.Attribute e y ap) args [] cp => decide (y = m) && chE sc a e && chEs sc as args && !isCall0 e && mthB tb.cls m cs && args.all (fun e => !isStar e) && decide (args.length ≤ 20) && (ap.endLine == cp.line)
  | sc, .mk c as, .Call (.Name x _) (e :: es) [] _ => clsNm tb.cls c x && glB sc x && !(x == ("__debug__" : Str)) && chEs sc as (e :: es) && !isStar e && es.all (fun e => !isStar e)
  | sc, .isi a [t], .Call (.Name x _) [e, .Name y _] [] _ => decide (x = "isinstance") && glB sc "isinstance" && tyB sc t y && chE sc a e && !isStar e
  | sc, .isi a [t, u], .Call (.Name x _) [e, .Tuple [.Name y _, .Name z _] _ _] [] _ => decide (x = "isinstance") && glB sc "isinstance" && tyB sc t y && tyB sc u z && chE sc a e && !isStar e
  | sc, .app a cs as, .Call e args [] _ => chE sc a e && chEs sc as args && !isAttr e && mthB tb.cls "__call__" cs && !args.isEmpty && args.all (fun e => !isStar e)
  | sc, .isc a c, .Call (.Name x _) [e, .Name y _] [] _ => tb.isc && decide (x = "isinstance") && glB sc "isinstance" && clsNm tb.cls c y && glB sc y && !(y == ("__debug__" : Str)) && chE sc a e && !isStar e
  | sc, .dlen a cs, .Call (.Name x _) [e] [] _ => decide (x = Blt.len.nm) && glB sc Blt.len.nm && chE sc a e && !isStar e && mthB tb.cls "__len__" cs
  | sc, .dun o a b cs, .Compare x [p] [y] _ => decide (o.cmp = some p) && chE sc a x && chE sc b y && !isSetD y && mthB tb.cls o.mt cs
  | sc, .dun o a b cs, .BinOp x p y _ => decide (o.bin = some p) && chE sc a x && chE sc b y && mthB tb.cls o.mt cs
  | sc, .dun o a b cs, .Subscript x y _ => decide (o = .item) && chE sc a x && chE sc b y && !isSl y && mthB tb.cls "__getitem__" cs
  | sc, .blen s, .Call (.Name l _) [.Subscript (.Name x _) (.Constant (.int c) _ _) _] [] _ => nameB N sc x s && decide (l = "len") && decide (c = 3) && glB sc "len"
  | _, _, _ => false
def chOe : Scope → Oe → Option Expr → Bool
  | _, .no, none => true
  | sc, .yes e, some x => chE sc e x
  | _, _, _ => false
def chOt : Scope → Oe → List Expr → Bool
  | _, .no, [] => true
  | sc, .yes e, [x] => chE sc e x
  | _, _, _ => false
def chEs : Scope → Es → List Expr → Bool
  | _, .nil, [] => true
  | sc, .cons e r, x :: xs => chE sc e x && !isStar x && chEs sc r xs
  | sc, .star e r, .Starred x _ :: xs => chE sc e x && chEs sc r xs
  | _, _, _ => false
def chIt : Scope → It → Expr → Expr → Bool
  | sc, .rng e, _, .Call (.Name x _) [a] [] _ => decide (x = "range") && glB sc "range" && chE sc e a && !isStar a
  | sc, .rng2 e f, _, .Call (.Name x _) [a, c] [] _ => decide (x = "range") && glB sc "range" && chE sc e a && chE sc f c && !isStar a && !isStar c
  | sc, .enm e, .Tuple _ _ _, .Call (.Name x _) [a] [] _ => decide (x = "enumerate") && glB sc "enumerate" && chE sc e a && !isStar a
  | sc, .zip e f, .Tuple _ _ _, .Call (.Name x _) [a, c] [] _ => decide (x = "zip") && glB sc "zip" && chE sc e a && chE sc f c && !isStar a && !isStar c
  | sc, .seq e, _, x => chE sc e x
  | _, _, _, _ => false
end
end
/-- where a checked text stands -/
structure Stand (b : Addr) (cl : Cls) (k0 : Nat) (C : Calls) (tb : Tab) (N : List Str) (X : Cx) : Prop where
  cx : CxOk k0 X
  hN : X.N = N
  fn : ∀ f, f ∈ tb.fns → FnFact b cl X k0 f (C (.f f))
  rk : ∀ f, f ∈ tb.rks → RankFact X f
  blt : ∀ f : Blt, X.mg f.nm = none
  more : X.mg "set" = none ∧ X.mg "range" = none ∧ X.mg "enumerate" = none
  isi : X.mg "isinstance" = none ∧ X.mg "str" = none ∧ X.mg "bool" = none
  zip : X.mg "zip" = none
  cst : ∀ x y, (x, y) ∈ tb.cst → ConFact X x (.str y)
  cls : ClsFacts b cl X k0 C tb.cls
  kit : tb.isc = true → KitFacts X.K cl
theorem ClsFacts.blk {b : Addr} {cl : Cls} {k0 : Nat} {C : Calls} {cls : List ClsT} {X : Cx} (h : ClsFacts b cl X k0 C cls) (scope : Scope) (s : Shared) (H : Hp) (c : Addr) (l : List (Str × Addr)) (fp : List Addr) : ClsFacts b cl (bx X scope s H c l fp) k0 C cls := ⟨fun c A ns e => by
  obtain ⟨T, h1, h2, o⟩ := h.at_ c A ns e
  exact ⟨T, h1, h2, o.cls, o.mg, o.no, o.mth, o.prp, o.ini, o.sf, o.mth1, o.nom⟩, h.of⟩
theorem Stand.blk {b : Addr} {cl : Cls} {k0 : Nat} {C : Calls} {tb : Tab} {N : List Str} {X : Cx} (h : Stand b cl k0 C tb N X) (scope : Scope) (s : Shared) (H : Hp) (c : Addr) (l : List (Str × Addr)) (fp : List Addr) : Stand b cl k0 C tb N (bx X scope s H c l fp) :=
  ⟨⟨h.cx.calm, h.cx.nd, h.cx.room, h.cx.gd⟩, h.hN, h.fn, h.rk, h.blt, h.more, h.isi, h.zip, h.cst, h.cls.blk .., h.kit⟩
theorem namesB_ok {N : List Str} {sc blk : Scope} {fnAll : Bool} {X : Cx} (hN : X.N = N) (hs : X.env.scope = sc) (hf : ∀ x, (fnAll || blk.names.lookup x == some .cell) = true → X.fn x = true) : ∀ {es : List Expr} {is : List Nat}, namesB N sc blk fnAll es is = true → Nms X es is
  | [], [], _ => .nil
  | e :: es, [], h => by cases e <;> cases h
  | [], i :: is, h => by cases h
  | e :: es, i :: is, h => by
    cases e <;> first | (cases h; done) | skip
    rename_i x p
    unfold namesB at h
    rw [Bool.and_eq_true, Bool.and_eq_true, Bool.and_eq_true, Bool.or_eq_true] at h
    obtain ⟨⟨⟨h1, h2⟩, h3⟩, h4⟩ := h
    refine .cons ⟨by rw [hN]; exact of_decide_eq_true h1, by rw [hs]; exact locB_ok h2, ?_⟩ (namesB_ok hN hs hf h4)
    rcases h3 with h3 | h3
    · exact .inl (hf x h3)
    · exact .inr (by rw [hs]; exact of_decide_eq_true h3)
theorem tgB_ok {b : Addr} {cl : Cls} {N : List Str} {sc blk : Scope} {fnAll : Bool} {X : Cx} (calm : X.calm = true) (nd : X.N.Nodup) (hN : X.N = N) (hs : X.env.scope = sc) (hf : ∀ x, (fnAll || blk.names.lookup x == some .cell) = true → X.fn x = true) {g : Tg} {e : Expr} (h : tgB N sc blk fnAll g e = true) : SG b cl X e g := by
  cases g with
  | one i =>
    have q := namesB_ok hN hs hf (show namesB N sc blk fnAll [e] [i] = true from h)
    cases q with
    | cons n _ => exact sg_one nd n
  | tup is =>
    cases e <;> first | (cases h; done) | skip
    exact sg_tup calm nd (namesB_ok hN hs hf h)
end Ev
set_option Elab.async false
set_option linter.all false
set_option autoImplicit false
/-! Ev19: what a checked text is. -/
namespace Ev
open PySem PySem.Spec PyProof.Rows L2 M
section
variable {tb : Tab} {N : List Str} {sc : Scope} {e : Expr}
theorem inv_con {d : D} (h : chE tb N sc (.con d) e = true) : ∃ c k pos, e = .Constant c k pos ∧ cstB d c = true := by
  unfold chE at h
  split at h <;> first | (cases h; done) | (rename_i heq; cases heq; done) | (rename_i heq; cases heq; exact ⟨_, _, _, rfl, h⟩)
theorem inv_app {a : E} {cs : List Nat} {as : Es} (h : chE tb N sc (.app a cs as) e = true) : ∃ o args pos, e = .Call o args [] pos ∧ (chE tb N sc a o && chEs tb N sc as args && !isAttr o && mthB tb.cls "__call__" cs && !args.isEmpty && args.all (fun e => !isStar e)) = true := by
  unfold chE at h
  split at h <;> first | (cases h; done) | (rename_i heq; cases heq; done) | (rename_i heq; cases heq; exact ⟨_, _, _, rfl, h⟩)
theorem inv_isc {a : E} {c : Nat} (h : chE tb N sc (.isc a c) e = true) : ∃ x p o y p2 pos, e = .Call (.Name x p) [o, .Name y p2] [] pos ∧ (tb.isc && decide (x = "isinstance") && glB sc "isinstance" && clsNm tb.cls c y && glB sc y && !(y == ("__debug__" : Str)) && chE tb N sc a o && !isStar o) = true := by
  unfold chE at h
  split at h <;> first | (cases h; done) | (rename_i heq; cases heq; done) | (rename_i heq; cases heq; exact ⟨_, _, _, _, _, _, rfl, h⟩)
theorem inv_lidx {a b : E} (h : chE tb N sc (.lidx a b) e = true) : ∃ x m ap y cp, e = .Call (.Attribute x m ap) [y] [] cp ∧ (decide (m = "index") && chE tb N sc a x && chE tb N sc b y && !isCall0 x && !isStar y && (ap.endLine == cp.line)) = true := by
  unfold chE at h
  split at h <;> first | (cases h; done) | (rename_i heq; cases heq; done) | (rename_i heq; cases heq; exact ⟨_, _, _, _, _, rfl, h⟩)
theorem inv_dlen {a : E} {cs : List Nat} (h : chE tb N sc (.dlen a cs) e = true) : ∃ x p o pos, e = .Call (.Name x p) [o] [] pos ∧ (decide (x = Blt.len.nm) && glB sc Blt.len.nm && chE tb N sc a o && !isStar o && mthB tb.cls "__len__" cs) = true := by
  unfold chE at h
  split at h <;> first | (cases h; done) | (rename_i heq; cases heq; done) | (rename_i heq; cases heq; exact ⟨_, _, _, _, rfl, h⟩)
theorem inv_dun {o : Dop} {a c : E} {cs : List Nat} (h : chE tb N sc (.dun o a c cs) e = true) : (∃ x p y pos, e = .Compare x [p] [y] pos ∧ (decide (o.cmp = some p) && chE tb N sc a x && chE tb N sc c y && !isSetD y && mthB tb.cls o.mt cs) = true) ∨
    (∃ x p y pos, e = .BinOp x p y pos ∧ (decide (o.bin = some p) && chE tb N sc a x && chE tb N sc c y && mthB tb.cls o.mt cs) = true) ∨ ∃ x y pos, e = .Subscript x y pos ∧ (decide (o = .item) && chE tb N sc a x && chE tb N sc c y && !isSl y && mthB tb.cls "__getitem__" cs) = true := by
  unfold chE at h
  split at h <;> first | (cases h; done) | (rename_i heq; cases heq; done) | (rename_i heq; cases heq; exact .inl ⟨_, _, _, _, rfl, h⟩) | (rename_i heq; cases heq; exact .inr (.inl ⟨_, _, _, _, rfl, h⟩)) | (rename_i heq; cases heq; exact .inr (.inr ⟨_, _, _, rfl, h⟩))
theorem inv_var {i : Nat} (h : chE tb N sc (.var i) e = true) : ∃ x pos, e = .Name x pos ∧ nameB N sc x i = true := by
  unfold chE at h
  split at h <;> first | (cases h; done) | (rename_i heq; cases heq; done) | (rename_i heq; cases heq; exact ⟨_, _, rfl, h⟩)
theorem inv_tup {es : Es} (h : chE tb N sc (.tup es) e = true) : ∃ xs k pos, e = .Tuple xs k pos ∧ chEs tb N sc es xs = true := by
  unfold chE at h
  split at h <;> first | (cases h; done) | (rename_i heq; cases heq; done) | (rename_i heq; cases heq; exact ⟨_, _, _, rfl, h⟩)
theorem inv_lst {es : Es} (h : chE tb N sc (.lst es) e = true) : ∃ xs pos, e = .List xs pos ∧ chEs tb N sc es xs = true := by
  unfold chE at h
  split at h <;> first | (cases h; done) | (rename_i heq; cases heq; done) | (rename_i heq; cases heq; exact ⟨_, _, rfl, h⟩)
theorem inv_lc {g : Tg} {vs : List Nat} {it : It} {c : Oe} {a : E} (h : chE tb N sc (.lc g vs it c a) e = true) : ∃ elt tg iter ifs scope pos, e = .ListComp elt [⟨tg, iter, ifs, 0⟩] scope pos ∧ (blkC N sc scope (ownOf N vs) && tgB N (relS scope sc) scope false g tg && chIt tb N sc it tg iter && chOt tb N (relS scope sc) c ifs && chE tb N (relS scope sc) a elt && !isSetD iter && g.slots.all (fun i => vs.contains i)) = true := by
  unfold chE at h
  split at h <;> first | (cases h; done) | (rename_i heq; cases heq; done) | (rename_i heq; cases heq; exact ⟨_, _, _, _, _, _, rfl, h⟩)
theorem inv_not {a : E} (h : chE tb N sc (.not a) e = true) : ∃ x pos, e = .UnaryOp .Not x pos ∧ chE tb N sc a x = true := by
  unfold chE at h
  split at h <;> first | (cases h; done) | (rename_i heq; cases heq; done) | (rename_i heq; cases heq; exact ⟨_, _, rfl, h⟩)
theorem inv_ite {c a b : E} (h : chE tb N sc (.ite c a b) e = true) : ∃ t x y pos, e = .IfExp t x y pos ∧ (chE tb N sc c t && chE tb N sc a x && chE tb N sc b y) = true := by
  unfold chE at h
  split at h <;> first | (cases h; done) | (rename_i heq; cases heq; done) | (rename_i heq; cases heq; exact ⟨_, _, _, _, rfl, h⟩)
theorem inv_cmp {o : Cop} {a b : E} (h : chE tb N sc (.cmp o a b) e = true) : ∃ x p y pos, e = .Compare x [p] [y] pos ∧ (copB o p && chE tb N sc a x && chE tb N sc b y && !isSetD y) = true := by
  unfold chE at h
  split at h <;> first | (cases h; done) | (rename_i heq; cases heq; done) | (rename_i heq; cases heq; exact ⟨_, _, _, _, rfl, h⟩)
theorem inv_chain {o o' : Cop} {a b c : E} (h : chE tb N sc (.chain o o' a b c) e = true) : ∃ x p p' y z pos, e = .Compare x [p, p'] [y, z] pos ∧ (copB o p && copB o' p' && chE tb N sc a x && chE tb N sc b y && chE tb N sc c z && !isSetD z) = true := by
  unfold chE at h
  split at h <;> first | (cases h; done) | (rename_i heq; cases heq; done) | (rename_i heq; cases heq; exact ⟨_, _, _, _, _, _, rfl, h⟩)
theorem inv_bin {o : Bop} {a b : E} (h : chE tb N sc (.bin o a b) e = true) : ∃ x p y pos, e = .BinOp x p y pos ∧ (bopB o p && chE tb N sc a x && chE tb N sc b y) = true := by
  unfold chE at h
  split at h <;> first | (cases h; done) | (rename_i heq; cases heq; done) | (rename_i heq; cases heq; exact ⟨_, _, _, _, rfl, h⟩)
theorem inv_neg {a : E} (h : chE tb N sc (.neg a) e = true) : ∃ x pos, e = .UnaryOp .USub x pos ∧ chE tb N sc a x = true := by
  unfold chE at h
  split at h <;> first | (cases h; done) | (rename_i heq; cases heq; done) | (rename_i heq; cases heq; exact ⟨_, _, rfl, h⟩)
theorem inv_idx {a b : E} (h : chE tb N sc (.idx a b) e = true) : ∃ x y pos, e = .Subscript x y pos ∧ (chE tb N sc a x && chE tb N sc b y && !isSl y) = true := by
  unfold chE at h
  split at h <;> first | (cases h; done) | (rename_i heq; cases heq; done) | (rename_i heq; cases heq; exact ⟨_, _, _, rfl, h⟩)
theorem inv_call {f : Str} {as : Es} (h : chE tb N sc (.call f as) e = true) : ∃ x p args pos, e = .Call (.Name x p) args [] pos ∧ (decide (x = f) && tb.fns.contains f && glB sc f && !(f == ("__debug__" : Str)) && chEs tb N sc as args && args.all (fun e => !isStar e)) = true := by
  unfold chE at h
  split at h <;> first | (cases h; done) | (rename_i heq; cases heq; done) | (rename_i heq; cases heq; exact ⟨_, _, _, _, rfl, h⟩)
theorem inv_srt {f : Str} {a : E} (h : chE tb N sc (.srt f a) e = true) : ∃ x p b ky y p2 kp pos, e = .Call (.Name x p) [b] [⟨some ky, .Name y p2, kp⟩] pos ∧ (decide (x = "sorted") && decide (ky = "key") && decide (y = f) && tb.rks.contains f && glB sc "sorted" && glB sc f && !(f == ("__debug__" : Str)) && chE tb N sc a b && !isStar b) = true := by
  unfold chE at h
  split at h <;> first | (cases h; done) | (rename_i heq; cases heq; done) | (rename_i heq; cases heq; exact ⟨_, _, _, _, _, _, _, _, rfl, h⟩)
theorem inv_split {a b : E} (h : chE tb N sc (.split a b) e = true) : ∃ x m ap y cp, e = .Call (.Attribute x m ap) [y] [] cp ∧ (decide (m = "split") && chE tb N sc a x && chE tb N sc b y && !isCall0 x && !isStar y && (ap.endLine == cp.line)) = true := by
  unfold chE at h
  split at h <;> first | (cases h; done) | (rename_i heq; cases heq; done) | (rename_i heq; cases heq; exact ⟨_, _, _, _, _, rfl, h⟩)
theorem inv_bget {s i : Nat} (h : chE tb N sc (.bget s i) e = true) : ∃ x p c k q pos, e = .Subscript (.Name x p) (.Constant (.int c) k q) pos ∧ (nameB N sc x s && decide (c = (i : Int))) = true := by
  unfold chE at h
  split at h <;> first | (cases h; done) | (rename_i heq; cases heq; done) | (rename_i heq; cases heq; exact ⟨_, _, _, _, _, _, rfl, h⟩)
theorem inv_bcell {s : Nat} (h : chE tb N sc (.bcell s) e = true) : ∃ x p c k q r y p' c' k' q' r' pos, e = .Subscript (.Subscript (.Name x p) (.Constant (.int c) k q) r) (.Subscript (.Name y p') (.Constant (.int c') k' q') r') pos ∧ (nameB N sc x s && decide (y = x) && decide (c = 3) && decide (c' = 2)) = true := by
  unfold chE at h
  split at h <;> first | (cases h; done) | (rename_i heq; cases heq; done) | (rename_i heq; cases heq; exact ⟨_, _, _, _, _, _, _, _, _, _, _, _, _, rfl, h⟩)
theorem inv_blen {s : Nat} (h : chE tb N sc (.blen s) e = true) : ∃ l lp x p c k q r pos, e = .Call (.Name l lp) [.Subscript (.Name x p) (.Constant (.int c) k q) r] [] pos ∧ (nameB N sc x s && decide (l = "len") && decide (c = 3) && glB sc "len") = true := by
  unfold chE at h
  split at h <;> first | (cases h; done) | (rename_i heq; cases heq; done) | (rename_i heq; cases heq; exact ⟨_, _, _, _, _, _, _, _, _, rfl, h⟩)
theorem inv_glob {x : Str} {d : D} (h : chE tb N sc (.glob x d) e = true) : ∃ y pos, e = .Name y pos ∧ (decide (y = x) && glB sc x && !(x == ("__debug__" : Str)) && tb.cst.any (fun p => decide (p.1 = x) && strD p.2 d)) = true := by
  unfold chE at h
  split at h <;> first | (cases h; done) | (rename_i heq; cases heq; done) | (rename_i heq; cases heq; exact ⟨_, _, rfl, h⟩)
theorem inv_fld {a : E} {x : Str} {tab : List (Nat × Option Nat)} (h : chE tb N sc (.fld a x tab) e = true) : ∃ o y pos, e = .Attribute o y pos ∧ (decide (y = x) && chE tb N sc a o && !isCall0 o && tabB tb.cls x tab) = true := by
  unfold chE at h
  split at h <;> first | (cases h; done) | (rename_i heq; cases heq; done) | (rename_i heq; cases heq; exact ⟨_, _, _, rfl, h⟩)
theorem inv_meth {a : E} {m : Str} {cs : List Nat} {as : Es} (h : chE tb N sc (.meth a m cs as) e = true) : ∃ o y ap args cp, e = .Call (.Attribute o y ap) args [] cp ∧ (decide (y = m) && chE tb N sc a o && chEs tb N sc as args && !isCall0 o && mthB tb.cls m cs && args.all (fun e => !isStar e) && decide (args.length ≤ 20) && (ap.endLine == cp.line)) = true := by
  unfold chE at h
  split at h <;> first | (cases h; done) | (rename_i heq; cases heq; done) | (rename_i heq; cases heq; exact ⟨_, _, _, _, _, rfl, h⟩)
theorem inv_mk {c : Nat} {as : Es} (h : chE tb N sc (.mk c as) e = true) : ∃ x p a es pos, e = .Call (.Name x p) (a :: es) [] pos ∧ (clsNm tb.cls c x && glB sc x && !(x == ("__debug__" : Str)) && chEs tb N sc as (a :: es) && !isStar a && es.all (fun e => !isStar e)) = true := by
  unfold chE at h
  split at h <;> first | (cases h; done) | (rename_i heq; cases heq; done) | (rename_i heq; cases heq; exact ⟨_, _, _, _, _, rfl, h⟩)
theorem inv_isi {a : E} {ts : List Ty} (h : chE tb N sc (.isi a ts) e = true) : (∃ t x p o y p2 pos, ts = [t] ∧ e = .Call (.Name x p) [o, .Name y p2] [] pos ∧ (decide (x = "isinstance") && glB sc "isinstance" && tyB sc t y && chE tb N sc a o && !isStar o) = true) ∨
    ∃ t u x p o y p2 z p3 j p4 pos, ts = [t, u] ∧ e = .Call (.Name x p) [o, .Tuple [.Name y p2, .Name z p3] j p4] [] pos ∧ (decide (x = "isinstance") && glB sc "isinstance" && tyB sc t y && tyB sc u z && chE tb N sc a o && !isStar o) = true := by
  unfold chE at h
  split at h <;> first | (cases h; done) | (rename_i heq; cases heq; done) | (rename_i heq; cases heq; exact .inl ⟨_, _, _, _, _, _, _, rfl, rfl, h⟩) | (rename_i heq; cases heq; exact .inr ⟨_, _, _, _, _, _, _, _, _, _, _, _, rfl, rfl, h⟩)
theorem inv_rev {a : E} (h : chE tb N sc (.rev a) e = true) : ∃ x c j p1 p2 p3 pos, e = .Subscript x (.Slice none none (some (.UnaryOp .USub (.Constant (.int c) j p1) p2)) p3) pos ∧ (decide (c = 1) && chE tb N sc a x) = true := by
  unfold chE at h
  split at h <;> first | (cases h; done) | (rename_i heq; cases heq; done) | (rename_i heq; cases heq; exact ⟨_, _, _, _, _, _, _, rfl, h⟩)
theorem inv_and {a b : E} (h : chE tb N sc (.and a b) e = true) : ∃ x y r pos, e = .BoolOp .And (x :: y :: r) pos ∧ chE tb N sc a x = true ∧ ((r = [] ∧ chE tb N sc b y = true) ∨ chE tb N sc b (.BoolOp .And (y :: r) pos) = true) := by
  unfold chE at h
  split at h <;> first | (cases h; done) | (rename_i heq; cases heq; done) | skip
  rename_i heq
  cases heq
  rw [Bool.and_eq_true] at h
  refine ⟨_, _, _, _, rfl, h.1, ?_⟩
  have h2 := h.2
  split at h2
  · exact .inl ⟨rfl, h2⟩
  · exact .inr h2
theorem inv_or {a b : E} (h : chE tb N sc (.or a b) e = true) : ∃ x y r pos, e = .BoolOp .Or (x :: y :: r) pos ∧ chE tb N sc a x = true ∧ ((r = [] ∧ chE tb N sc b y = true) ∨ chE tb N sc b (.BoolOp .Or (y :: r) pos) = true) := by
  unfold chE at h
  split at h <;> first | (cases h; done) | (rename_i heq; cases heq; done) | skip
  rename_i heq
  cases heq
  rw [Bool.and_eq_true] at h
  refine ⟨_, _, _, _, rfl, h.1, ?_⟩
  have h2 := h.2
  split at h2
  · exact .inl ⟨rfl, h2⟩
  · exact .inr h2
theorem inv_sli {a : E} {lo hi : Oe} (h : chE tb N sc (.sli a lo hi) e = true) : ∃ x l r p2 pos, e = .Subscript x (.Slice l r none p2) pos ∧ chE tb N sc a x = true ∧ ((∃ b c, lo = .no ∧ hi = .yes b ∧ l = none ∧ r = some c ∧ chE tb N sc b c = true) ∨ (∃ b c, lo = .yes b ∧ hi = .no ∧ l = some c ∧ r = none ∧ chE tb N sc b c = true) ∨ ∃ b c b' c', lo = .yes b ∧ hi = .yes b' ∧ l = some c ∧ r = some c' ∧ chE tb N sc b c = true ∧ chE tb N sc b' c' = true) := by
  unfold chE at h
  split at h <;> first | (cases h; done) | (rename_i heq; cases heq; done) | skip
  rename_i heq
  cases heq
  rw [Bool.and_eq_true, Bool.and_eq_true, Bool.and_eq_true] at h
  obtain ⟨⟨⟨h1, h2⟩, h3⟩, h4⟩ := h
  refine ⟨_, _, _, _, _, rfl, h1, ?_⟩
  split at h4
  · unfold chOe at h2 h3
    split at h2 <;> first | (cases h2; done) | (rename_i q; cases q; done) | skip
    split at h3 <;> first | (cases h3; done) | (rename_i q; cases q; done) | skip
    rename_i q
    cases q
    exact .inl ⟨_, _, rfl, rfl, rfl, rfl, h3⟩
  · unfold chOe at h2 h3
    split at h3 <;> first | (cases h3; done) | (rename_i q; cases q; done) | skip
    split at h2 <;> first | (cases h2; done) | (rename_i q; cases q; done) | skip
    rename_i q
    cases q
    exact .inr (.inl ⟨_, _, rfl, rfl, rfl, rfl, h2⟩)
  · unfold chOe at h2 h3
    split at h2 <;> first | (cases h2; done) | (rename_i q; cases q; done) | skip
    rename_i q
    cases q
    split at h3 <;> first | (cases h3; done) | (rename_i q; cases q; done) | skip
    rename_i q
    cases q
    exact .inr (.inr ⟨_, _, _, _, rfl, rfl, rfl, rfl, h2, h3⟩)
  · cases h4
theorem inv_blt {f : Blt} {a : E} (h : chE tb N sc (.blt f a) e = true) : (f = .sortset ∧ ∃ x p y p2 b q0 pos, e = .Call (.Name x p) [.Call (.Name y p2) [b] [] q0] [] pos ∧ (decide (x = "sorted") && decide (y = "set") && glB sc "sorted" && glB sc "set" && chE tb N sc a b && !isStar b) = true) ∨
    ∃ x p b pos, e = .Call (.Name x p) [b] [] pos ∧ (decide (f ≠ .sortset) && decide (x = f.nm) && glB sc f.nm && chE tb N sc a b && !isStar b) = true := by
  unfold chE at h
  split at h <;> first | (cases h; done) | (rename_i heq; cases heq; done) | (rename_i heq; cases heq; exact .inl ⟨rfl, _, _, _, _, _, _, _, rfl, h⟩) | (rename_i heq; cases heq; exact .inr ⟨_, _, _, _, rfl, h⟩) | skip
theorem inv_es {es : Es} {xs : List Expr} (h : chEs tb N sc es xs = true) : (es = .nil ∧ xs = []) ∨ (∃ a r x ys, es = .cons a r ∧ xs = x :: ys ∧ chE tb N sc a x = true ∧ isStar x = false ∧ chEs tb N sc r ys = true) ∨ ∃ a r x p ys, es = .star a r ∧ xs = .Starred x p :: ys ∧ chE tb N sc a x = true ∧ chEs tb N sc r ys = true := by
  unfold chEs at h
  split at h <;> first | (cases h; done) | skip
  · exact .inl ⟨rfl, rfl⟩
  · rw [Bool.and_eq_true, Bool.and_eq_true] at h
    exact .inr (.inl ⟨_, _, _, _, rfl, rfl, h.1.1, by simpa using h.1.2, h.2⟩)
  · rw [Bool.and_eq_true] at h
    exact .inr (.inr ⟨_, _, _, _, _, rfl, rfl, h.1, h.2⟩)
theorem inv_ot {c : Oe} {xs : List Expr} (h : chOt tb N sc c xs = true) : (c = .no ∧ xs = []) ∨ ∃ a x, c = .yes a ∧ xs = [x] ∧ chE tb N sc a x = true := by
  unfold chOt at h
  split at h <;> first | (cases h; done) | skip
  · exact .inl ⟨rfl, rfl⟩
  · exact .inr ⟨_, _, rfl, rfl, h⟩
theorem inv_it {it : It} {tg iter : Expr} (h : chIt tb N sc it tg iter = true) :
    (∃ a x p y pos, it = .rng a ∧ iter = .Call (.Name x p) [y] [] pos ∧ (decide (x = "range") && glB sc "range" && chE tb N sc a y && !isStar y) = true) ∨
    (∃ a c x p y z pos, it = .rng2 a c ∧ iter = .Call (.Name x p) [y, z] [] pos ∧ (decide (x = "range") && glB sc "range" && chE tb N sc a y && chE tb N sc c z && !isStar y && !isStar z) = true) ∨
    (∃ a x p y pos t1 t2 t3, it = .enm a ∧ tg = .Tuple t1 t2 t3 ∧ iter = .Call (.Name x p) [y] [] pos ∧ (decide (x = "enumerate") && glB sc "enumerate" && chE tb N sc a y && !isStar y) = true) ∨
    (∃ a, it = .seq a ∧ chE tb N sc a iter = true) ∨
    ∃ a c x p y z pos t1 t2 t3, it = .zip a c ∧ tg = .Tuple t1 t2 t3 ∧ iter = .Call (.Name x p) [y, z] [] pos ∧ (decide (x = "zip") && glB sc "zip" && chE tb N sc a y && chE tb N sc c z && !isStar y && !isStar z) = true := by
  unfold chIt at h
  split at h <;> first | (cases h; done) | skip
  · exact .inl ⟨_, _, _, _, _, rfl, rfl, h⟩
  · exact .inr (.inl ⟨_, _, _, _, _, _, _, rfl, rfl, h⟩)
  · exact .inr (.inr (.inl ⟨_, _, _, _, _, _, _, _, rfl, rfl, rfl, h⟩))
  · exact .inr (.inr (.inr (.inr ⟨_, _, _, _, _, _, _, _, _, _, rfl, rfl, rfl, h⟩)))
  · exact .inr (.inr (.inr (.inl ⟨_, rfl, h⟩)))
end
end Ev
set_option Elab.async false
set_option linter.all false
set_option autoImplicit false
/-! Ev20: a checked text does what its tree says: expressions. -/
namespace Ev
open PySem PySem.Spec PyProof.Rows L2 M
section
variable {b : Addr} {cl : Cls} {X : Cx} {e : Expr}
theorem SE.of {f g : List Slot → M (D × Kd)} (h : SE b cl X e g) (q : ∀ ρ, f ρ = g ρ) : SE b cl X e f := (funext q : f = g) ▸ h
theorem ST.of {f g : List Slot → M Bool} (h : ST b cl X e g) (q : ∀ ρ, f ρ = g ρ) : ST b cl X e f := (funext q : f = g) ▸ h
theorem SW.of {f g : List Slot → M Bool} (h : SW b cl X e g) (q : ∀ ρ, f ρ = g ρ) : SW b cl X e f := (funext q : f = g) ▸ h
theorem SA.of {es : List Expr} {f g : List Slot → M (List D × Bool)} (h : SA b cl X es g) (q : ∀ ρ, f ρ = g ρ) : SA b cl X es f := (funext q : f = g) ▸ h
theorem SI.of {tg : Expr} {o : Bool} {f g : List Slot → M (List D)} (h : SI b cl X tg e o g) (q : ∀ ρ, f ρ = g ρ) : SI b cl X tg e o f := (funext q : f = g) ▸ h
theorem st_fail {f : List Slot → M Bool} (q : ∀ ρ, f ρ = fail) : ST b cl X e f := fun M₀ H₀ own ρ σ H g t g' Q R B h z => by
  rw [q] at h
  cases h
def notBo : Expr → Bool
  | .BoolOp .. => false
  | _ => true
structure Snd (b : Addr) (cl : Cls) (X : Cx) (C : Calls) (ir : E) (e : Expr) : Prop where
  se : SE b cl X e (evE C ir)
  st : ST b cl X e (evT C ir)
  sw : notBo e = false → SW b cl X e (evT C ir)
theorem glB_ok {sc : Scope} {x : Str} (hs : X.env.scope = sc) (h : glB sc x = true) : Gl X x := by
  have q := of_decide_eq_true h
  subst hs
  exact q
theorem Snd.plain {C : Calls} {ir : E} (h : SE b cl X e (evE C ir)) (hp : plainT e = true) (q : ∀ ρ, evT C ir ρ = bnd (evE C ir ρ) fun p => opt (truth p.1)) : Snd b cl X C ir e :=
  ⟨h, (st_plain h hp).of q, fun z => by cases e <;> first | (cases hp; done) | (cases z; done)⟩
theorem Snd.none {C : Calls} {ir : E} (h : SE b cl X e (evE C ir)) (hp : notBo e = true) (q : ∀ ρ, evT C ir ρ = fail) : Snd b cl X C ir e :=
  ⟨h, st_fail q, fun z => by rw [hp] at z; cases z⟩
end
section
variable {b : Addr} {cl : Cls} {k0 : Nat} {C : Calls} {tb : Tab} {N : List Str}
def GoE (b : Addr) (cl : Cls) (k0 : Nat) (C : Calls) (tb : Tab) (N : List Str) (ir : E) : Prop := ∀ (X : Cx) (sc : Scope) (e : Expr), Stand b cl k0 C tb N X → X.env.scope = sc → chE tb N sc ir e = true → Snd b cl X C ir e
def GoEs (b : Addr) (cl : Cls) (k0 : Nat) (C : Calls) (tb : Tab) (N : List Str) (ir : Es) : Prop := ∀ (X : Cx) (sc : Scope) (es : List Expr), Stand b cl k0 C tb N X → X.env.scope = sc → chEs tb N sc ir es = true → SA b cl X es (evEs C ir)
def GoIt (b : Addr) (cl : Cls) (k0 : Nat) (C : Calls) (tb : Tab) (N : List Str) (ir : It) : Prop := ∀ (X : Cx) (sc : Scope) (tg e : Expr) (o : Bool), Stand b cl k0 C tb N X → X.env.scope = sc → chIt tb N sc ir tg e = true → SI b cl X tg e o (evIt C ir o)
def GoOe (b : Addr) (cl : Cls) (k0 : Nat) (C : Calls) (tb : Tab) (N : List Str) : Oe → Prop
  | .no => True
  | .yes a => GoE b cl k0 C tb N a
/-- the readings of a comprehension -/
theorem lc_go {g : Tg} {vs : List Nat} {it : It} {c : Oe} {a : E} {X : Cx} {sc scope : Scope} {elt tg iter : Expr} {ifs : List Expr} (st : Stand b cl k0 C tb N X) (hs : X.env.scope = sc) (hit : GoIt b cl k0 C tb N it) (hc : GoOe b cl k0 C tb N c) (ha : GoE b cl k0 C tb N a)
    (h : (blkC N sc scope (ownOf N vs) && tgB N (relS scope sc) scope false g tg && chIt tb N sc it tg iter && chOt tb N (relS scope sc) c ifs && chE tb N (relS scope sc) a elt && !isSetD iter && g.slots.all (fun i => vs.contains i)) = true) :
    LcR b cl X elt tg iter ifs scope ((ownOf N vs).map (·.2)) (evE C (.lc g vs it c a)) ∧ BlkOk X.N X.env.scope scope (ownOf N vs) ∧ isSetD iter = false := by
  simp only [Bool.and_eq_true] at h
  obtain ⟨⟨⟨⟨⟨⟨h1, h2⟩, h3⟩, h4⟩, h5⟩, h6⟩, h7⟩ := h
  have ok : BlkOk X.N X.env.scope scope (ownOf N vs) := by
    rw [st.hN, hs]
    exact blkOk_by h1
  have bs : ∀ s H D c fp, (bx X scope s H D c fp).env.scope = relS scope sc := fun s H D c fp => by
    show relS scope X.env.scope = _
    rw [hs]
  refine ⟨?_, ok, by simpa using h6⟩
  have ht : (ifs = [] ∧ evTo C c = fun _ => ret true) ∨ ∃ t, ifs = [t] ∧ ∀ s H D l fp, ST b cl (bx X scope s H D l fp) t (evTo C c) := by
    rcases inv_ot h4 with ⟨rfl, rfl⟩ | ⟨a', x, rfl, rfl, h8⟩
    · exact .inl ⟨rfl, funext fun ρ => by rw [evTo]⟩
    · exact .inr ⟨x, rfl, fun s H D l fp => (hc _ _ _ (st.blk scope s H D l fp) (bs ..) h8).st.of fun ρ => by rw [evTo]⟩
  have q := lc_reads (pos := default) st.cx (hit X sc tg iter true st hs h3) ok (fun s H D c fp => tgB_ok (b := b) (cl := cl) (X := bx X scope s H D c fp) st.cx.calm st.cx.nd st.hN (bs ..) (fun x z => by simpa using z) h2) ht (fun s H D c fp => (ha _ _ _ (st.blk scope s H D c fp) (bs ..) h5).se) (fun i hi => by
    rw [ownOf_snd]
    have z := List.all_eq_true.mp h7 i hi
    simpa using z)
  have e : evE C (.lc g vs it c a) = lcF g ((ownOf N vs).map (·.2)) (evIt C it true) (evTo C c) (evE C a) := by
    funext ρ
    rw [evE, ownOf_snd]
    try rfl
  rw [e]
  exact q
mutual
theorem soE : ∀ ir : E, GoE b cl k0 C tb N ir
  | .con d => fun X sc e st hs h => by
    obtain ⟨c, k, pos, rfl, h0⟩ := inv_con h
    clear h
    have h := h0
    refine .plain ?_ rfl fun ρ => by rw [evT, evE, ret_bnd]
    unfold cstB at h
    split at h
    · exact se_non.of fun ρ => by rw [evE]
    · cases eq_of_beq h
      exact se_bl.of fun ρ => by rw [evE]
    · have q := of_decide_eq_true h
      subst q
      exact se_int.of fun ρ => by rw [evE]
    · have q := of_decide_eq_true h
      subst q
      exact se_str.of fun ρ => by rw [evE]
    · cases h
  | .var i => fun X sc e st hs h => by
    obtain ⟨x, pos, rfl, h⟩ := inv_var h
    obtain ⟨h1, h2, h3, h4⟩ := nameB_ok h
    exact .plain ((se_var (by rw [st.hN]; exact h1) (by rw [hs]; exact h2) h3 h4).of fun ρ => by rw [evE]) rfl fun ρ => by rw [evT, evE]
  | .tup es => fun X sc e st hs h => by
    obtain ⟨xs, k, pos, rfl, h⟩ := inv_tup h
    refine .plain ((se_tup (soEs es X sc xs st hs h)).of fun ρ => by rw [evE]) rfl fun ρ => ?_
    rw [evT, evE, bnd_bnd]
    congr 1
    funext q
    obtain ⟨ds, ok⟩ := q
    by_cases hl : ds.length ≤ sizeLine
    · simp [hl, truth]
    · simp [hl]
  | .lst es => fun X sc e st hs h => by
    obtain ⟨xs, pos, rfl, h⟩ := inv_lst h
    exact .none ((se_lst (soEs es X sc xs st hs h)).of fun ρ => by rw [evE]) rfl fun ρ => by simp [evT]
  | .lc g vs it c a => fun X sc e st hs h => by
    obtain ⟨elt, tg, iter, ifs, scope, pos, rfl, h⟩ := inv_lc h
    obtain ⟨q, ok, hd⟩ := lc_go st hs (soIt it) (soOe c) (soE a) h
    exact .none (se_lc st.cx q ok hd) rfl fun ρ => by simp [evT]
  | .and a c => fun X sc e st hs h => by
    obtain ⟨x, y, r, pos, rfl, h1, h2⟩ := inv_and h
    have qa := soE a X sc x st hs h1
    have qc : SE b cl X (.BoolOp .And (y :: r) pos) (evE C c) ∧ SW b cl X (.BoolOp .And (y :: r) pos) (evT C c) := by
      rcases h2 with ⟨rfl, h2⟩ | h2
      · have z := soE c X sc y st hs h2
        exact ⟨se_one z.se, sw_and1 z.st⟩
      · have z := soE c X sc _ st hs h2
        exact ⟨z.se, z.sw rfl⟩
    have w : SW b cl X (.BoolOp .And (x :: y :: r) pos) (evT C (.and a c)) := (sw_and qa.st qc.2).of fun ρ => by rw [evT]
    exact ⟨(se_and qa.se qc.1).of fun ρ => by rw [evE], w.st, fun _ => w⟩
  | .or a c => fun X sc e st hs h => by
    obtain ⟨x, y, r, pos, rfl, h1, h2⟩ := inv_or h
    have qa := soE a X sc x st hs h1
    have qc : SE b cl X (.BoolOp .Or (y :: r) pos) (evE C c) ∧ SW b cl X (.BoolOp .Or (y :: r) pos) (evT C c) := by
      rcases h2 with ⟨rfl, h2⟩ | h2
      · have z := soE c X sc y st hs h2
        exact ⟨se_one z.se, sw_or1 z.st⟩
      · have z := soE c X sc _ st hs h2
        exact ⟨z.se, z.sw rfl⟩
    have w : SW b cl X (.BoolOp .Or (x :: y :: r) pos) (evT C (.or a c)) := (sw_or qa.st qc.2).of fun ρ => by rw [evT]
    exact ⟨(se_or qa.se qc.1).of fun ρ => by rw [evE], w.st, fun _ => w⟩
  | .not a => fun X sc e st hs h => by
    obtain ⟨x, pos, rfl, h1⟩ := inv_not h
    have qa := soE a X sc x st hs h1
    exact ⟨(se_not qa.se).of fun ρ => by rw [evE], (st_not qa.st).of fun ρ => by rw [evT], fun z => nomatch z⟩
  | .ite c a d => fun X sc e st hs h => by
    obtain ⟨t, x, y, pos, rfl, h1⟩ := inv_ite h
    simp only [Bool.and_eq_true] at h1
    obtain ⟨⟨h1, h2⟩, h3⟩ := h1
    exact .none ((se_ite (soE c X sc t st hs h1).st (soE a X sc x st hs h2).se (soE d X sc y st hs h3).se).of fun ρ => by rw [evE]) rfl fun ρ => by simp [evT]
  | .cmp o a d => fun X sc e st hs h => by
    obtain ⟨x, p, y, pos, rfl, h1⟩ := inv_cmp h
    simp only [Bool.and_eq_true, Bool.not_eq_true'] at h1
    obtain ⟨⟨⟨h1, h2⟩, h3⟩, h4⟩ := h1
    cases copB_ok h1
    have qa := soE a X sc x st hs h2
    have qd := soE d X sc y st hs h3
    exact ⟨(se_cmp st.cx qa.se qd.se h4).of fun ρ => by rw [evE], (st_cmp st.cx qa.se qd.se h4).of fun ρ => by rw [evT], fun z => nomatch z⟩
  | .chain o o' a d c => fun X sc e st hs h => by
    obtain ⟨x, p, p', y, z, pos, rfl, h1⟩ := inv_chain h
    simp only [Bool.and_eq_true, Bool.not_eq_true'] at h1
    obtain ⟨⟨⟨⟨⟨h1, h1'⟩, h2⟩, h3⟩, h5⟩, h4⟩ := h1
    cases copB_ok h1
    cases copB_ok h1'
    have qa := soE a X sc x st hs h2
    have qd := soE d X sc y st hs h3
    have qc := soE c X sc z st hs h5
    refine ⟨(se_chain st.cx qa.se qd.se qc.se h4).of fun ρ => ?_, (st_chain st.cx qa.se qd.se qc.se h4).of fun ρ => by rw [evT], fun z => nomatch z⟩
    rw [evE]
    simp only [bnd_bnd]
    congr 1
    funext p
    congr 1
    funext q
    congr 1
    funext t
    cases t <;> simp
  | .bin o a d => fun X sc e st hs h => by
    obtain ⟨x, p, y, pos, rfl, h1⟩ := inv_bin h
    simp only [Bool.and_eq_true] at h1
    obtain ⟨⟨h1, h2⟩, h3⟩ := h1
    cases bopB_ok h1
    exact .none ((se_bin (soE a X sc x st hs h2).se (soE d X sc y st hs h3).se).of fun ρ => by rw [evE]) rfl fun ρ => by simp [evT]
  | .neg a => fun X sc e st hs h => by
    obtain ⟨x, pos, rfl, h1⟩ := inv_neg h
    exact .none ((se_neg (soE a X sc x st hs h1).se).of fun ρ => by rw [evE]) rfl fun ρ => by simp [evT]
  | .idx a d => fun X sc e st hs h => by
    obtain ⟨x, y, pos, rfl, h1⟩ := inv_idx h
    simp only [Bool.and_eq_true, Bool.not_eq_true'] at h1
    obtain ⟨⟨h1, h2⟩, h3⟩ := h1
    exact .plain ((se_idx (soE a X sc x st hs h1).se (soE d X sc y st hs h2).se h3).of fun ρ => by rw [evE]) rfl fun ρ => by
      rw [evT, evE]
      simp only [bnd_bnd, ret_bnd]
  | .sli a lo hi => fun X sc e st hs h => by
    obtain ⟨x, l, r, p2, pos, rfl, h1, h2⟩ := inv_sli h
    have qa := soE a X sc x st hs h1
    refine .none ?_ rfl fun ρ => by simp [evT]
    have glo := soOe lo
    have ghi := soOe hi
    rcases h2 with ⟨d, c, rfl, rfl, rfl, rfl, h2⟩ | ⟨d, c, rfl, rfl, rfl, rfl, h2⟩ | ⟨d, c, d', c', rfl, rfl, rfl, rfl, h2, h3⟩
    · refine (se_slHi qa.se (Snd.se (ghi X sc c st hs h2))).of fun ρ => ?_
      rw [evE]
      simp only [evOe, bnd_bnd, ret_bnd]
      congr 1
      funext p
      congr 1
      funext q
      cases q.1 <;> simp [intM]
    · refine (se_slLo qa.se (Snd.se (glo X sc c st hs h2))).of fun ρ => ?_
      rw [evE]
      simp only [evOe, bnd_bnd, ret_bnd]
      congr 1
      funext p
      congr 1
      funext q
      cases q.1 <;> simp [intM]
    · refine (se_slBoth qa.se (Snd.se (glo X sc c st hs h2)) (Snd.se (ghi X sc c' st hs h3))).of fun ρ => ?_
      rw [evE]
      simp only [evOe, bnd_bnd, ret_bnd]
      congr 1
      funext p
      congr 1
      funext q
      congr 1
      funext r
      cases q.1 <;> cases r.1 <;> simp [intM]
  | .rev a => fun X sc e st hs h => by
    obtain ⟨x, c, j, p1, p2, p3, pos, rfl, h1⟩ := inv_rev h
    rw [Bool.and_eq_true] at h1
    cases of_decide_eq_true h1.1
    exact .none ((se_rev (soE a X sc x st hs h1.2).se).of fun ρ => by rw [evE]) rfl fun ρ => by simp [evT]
  | .call f as => fun X sc e st hs h => by
    obtain ⟨x, p, args, pos, rfl, h1⟩ := inv_call h
    simp only [Bool.and_eq_true, Bool.not_eq_true'] at h1
    obtain ⟨⟨⟨⟨⟨h1, h2⟩, h3⟩, h4⟩, h5⟩, h6⟩ := h1
    cases of_decide_eq_true h1
    have ff := st.fn f (by simpa using h2)
    have qs := soEs as X sc args st hs h5
    refine .plain ?_ rfl fun ρ => by
      rw [evT, evE]
      simp only [bnd_bnd, ret_bnd]
    cases args with
    | nil =>
      rcases inv_es h5 with ⟨rfl, _⟩ | ⟨_, _, _, _, _, z, _⟩ | ⟨_, _, _, _, _, _, z, _⟩
      · refine (se_call0 st.cx ff (glB_ok hs h3) h4).of fun ρ => ?_
        rw [evE, evEs]
      · cases z
      · cases z
    | cons y ys =>
      simp only [List.all_cons, Bool.and_eq_true, Bool.not_eq_true'] at h6
      exact (se_call st.cx ff (glB_ok hs h3) h4 qs h6.1 h6.2).of fun ρ => by rw [evE]
  | .blt f a => fun X sc e st hs h => by
    rcases inv_blt h with ⟨rfl, x, p, y, p2, d, q0, pos, rfl, h1⟩ | ⟨x, p, d, pos, rfl, h1⟩
    · simp only [Bool.and_eq_true, Bool.not_eq_true'] at h1
      obtain ⟨⟨⟨⟨⟨h1, h2⟩, h3⟩, h4⟩, h5⟩, h6⟩ := h1
      cases of_decide_eq_true h1
      cases of_decide_eq_true h2
      exact .plain ((se_sortset st.cx (glB_ok hs h3) (st.blt .sorted) (glB_ok hs h4) st.more.1 (soE a X sc d st hs h5).se h6).of fun ρ => by rw [evE]) rfl fun ρ => by
        rw [evT, evE]
        simp only [bnd_bnd, ret_bnd]
    · simp only [Bool.and_eq_true, Bool.not_eq_true'] at h1
      obtain ⟨⟨⟨⟨h1, h2⟩, h3⟩, h4⟩, h6⟩ := h1
      cases of_decide_eq_true h2
      exact .plain ((se_blt st.cx (glB_ok hs h3) (st.blt f) (soE a X sc d st hs h4).se h6 (of_decide_eq_true h1)).of fun ρ => by rw [evE]) rfl fun ρ => by
        rw [evT, evE]
        simp only [bnd_bnd, ret_bnd]
  | .srt f a => fun X sc e st hs h => by
    obtain ⟨x, p, d, ky, y, p2, kp, pos, rfl, h1⟩ := inv_srt h
    simp only [Bool.and_eq_true, Bool.not_eq_true'] at h1
    obtain ⟨⟨⟨⟨⟨⟨⟨⟨h1, h2⟩, h3⟩, h4⟩, h5⟩, h6⟩, h7⟩, h8⟩, h9⟩ := h1
    cases of_decide_eq_true h1
    cases of_decide_eq_true h2
    cases of_decide_eq_true h3
    exact .none ((se_srt st.cx (glB_ok hs h5) (st.blt .sorted) (glB_ok hs h6) h7 (st.rk f (by simpa using h4)) (soE a X sc d st hs h8).se h9).of fun ρ => by rw [evE]) rfl fun ρ => by simp [evT]
  | .split a d => fun X sc e st hs h => by
    obtain ⟨x, m, ap, y, cp, rfl, h1⟩ := inv_split h
    simp only [Bool.and_eq_true, Bool.not_eq_true'] at h1
    obtain ⟨⟨⟨⟨⟨h1, h2⟩, h3⟩, h4⟩, h5⟩, h6⟩ := h1
    cases of_decide_eq_true h1
    exact .none ((se_split (soE a X sc x st hs h2).se (soE d X sc y st hs h3).se h4 h5 h6).of fun ρ => by rw [evE]) rfl fun ρ => by simp [evT]
  | .lidx a d => fun X sc e st hs h => by
    obtain ⟨x, m, ap, y, cp, rfl, h1⟩ := inv_lidx h
    simp only [Bool.and_eq_true, Bool.not_eq_true'] at h1
    obtain ⟨⟨⟨⟨⟨h1, h2⟩, h3⟩, h4⟩, h5⟩, h6⟩ := h1
    cases of_decide_eq_true h1
    exact .none ((se_lidx st.cx (soE a X sc x st hs h2).se (soE d X sc y st hs h3).se h4 h5 h6).of fun ρ => by rw [evE]) rfl fun ρ => by simp [evT]
  | .bget s i => fun X sc e st hs h => by
    obtain ⟨x, p, c, k, q, pos, rfl, h1⟩ := inv_bget h
    simp only [Bool.and_eq_true] at h1
    obtain ⟨n1, n2, n3, n4⟩ := nameB_ok h1.1
    cases of_decide_eq_true h1.2
    exact .none ((se_bget (by rw [st.hN]; exact n1) (by rw [hs]; exact n2) n3 n4).of fun ρ => by rw [evE]) rfl fun ρ => by simp [evT]
  | .bcell s => fun X sc e st hs h => by
    obtain ⟨x, p, c, k, q, r, y, p', c', k', q', r', pos, rfl, h1⟩ := inv_bcell h
    simp only [Bool.and_eq_true] at h1
    obtain ⟨⟨⟨h1, h2⟩, h3⟩, h4⟩ := h1
    obtain ⟨n1, n2, n3, n4⟩ := nameB_ok h1
    cases of_decide_eq_true h2
    cases of_decide_eq_true h3
    cases of_decide_eq_true h4
    exact .none ((se_bcell (y := x) (by rw [st.hN]; exact n1) (by rw [hs]; exact n2) n3 n4).of fun ρ => by rw [evE]) rfl fun ρ => by simp [evT]
  | .app a cs as => fun X sc e st hs h => by
    obtain ⟨o, args, pos, rfl, h1⟩ := inv_app h
    simp only [Bool.and_eq_true, Bool.not_eq_true'] at h1
    obtain ⟨⟨⟨⟨⟨h1, h2⟩, h3⟩, h4⟩, h5⟩, h6⟩ := h1
    have qs := soEs as X sc args st hs h2
    have qo := soE a X sc o st hs h1
    refine .plain ?_ rfl fun ρ => by
      rw [evT, evE]
      simp only [bnd_bnd]
    cases args with
    | nil => cases h5
    | cons y ys =>
      simp only [List.all_cons, Bool.and_eq_true, Bool.not_eq_true'] at h6
      exact (se_app st.cx st.cls h4 qo.se qs h3 h6.1 h6.2).of fun ρ => by rw [evE]
  | .isc a c => fun X sc e st hs h => by
    obtain ⟨x, p, o, y, p2, pos, rfl, h1⟩ := inv_isc h
    simp only [Bool.and_eq_true, Bool.not_eq_true'] at h1
    obtain ⟨⟨⟨⟨⟨⟨⟨h0, h1⟩, h2⟩, h3⟩, h4⟩, h5⟩, h6⟩, h7⟩ := h1
    cases of_decide_eq_true h1
    obtain ⟨T, hT, hx⟩ : ∃ T, tb.cls[c]? = some T ∧ y = T.nm := by
      unfold clsNm at h3
      split at h3
      · exact ⟨_, by assumption, of_decide_eq_true h3⟩
      · cases h3
    exact .plain ((se_isc st.cls (st.kit h0) (glB_ok hs h2) st.isi.1 hT hx (glB_ok hs h4) h5 (soE a X sc o st hs h6).se h7).of fun ρ => by rw [evE]) rfl fun ρ => by
      rw [evT, evE]
      simp only [bnd_bnd, ret_bnd, truth]
      congr 1
      funext p
      cases iscD c p.1 <;> simp
  | .dlen a cs => fun X sc e st hs h => by
    obtain ⟨x, p, o, pos, rfl, h1⟩ := inv_dlen h
    simp only [Bool.and_eq_true, Bool.not_eq_true'] at h1
    obtain ⟨⟨⟨⟨h1, h2⟩, h3⟩, h4⟩, h5⟩ := h1
    cases of_decide_eq_true h1
    exact .plain ((se_dlen st.cx st.cls h5 (glB_ok hs h2) (st.blt .len) (soE a X sc o st hs h3).se h4).of fun ρ => by rw [evE]) rfl fun ρ => by
      rw [evT, evE]
      simp only [bnd_bnd]
  | .dun o a c cs => fun X sc e st hs h => by
    have ga := soE a
    have gc := soE c
    rcases inv_dun h with ⟨x, p, y, pos, rfl, h1⟩ | ⟨x, p, y, pos, rfl, h1⟩ | ⟨x, y, pos, rfl, h1⟩
    · simp only [Bool.and_eq_true, Bool.not_eq_true'] at h1
      obtain ⟨⟨⟨⟨h1, h2⟩, h3⟩, h4⟩, h5⟩ := h1
      have ho := of_decide_eq_true h1
      refine ⟨(se_dcmp st.cx st.cls h5 ho (ga X sc x st hs h2).se (gc X sc y st hs h3).se h4).of fun ρ => ?_, (st_dcmp st.cx st.cls h5 ho (ga X sc x st hs h2).se (gc X sc y st hs h3).se h4).of fun ρ => ?_, fun z => nomatch z⟩
      · rw [evE]
        cases o <;> first | rfl | cases ho
      · rw [evT]
        cases o <;> first | rfl | cases ho
    · simp only [Bool.and_eq_true] at h1
      obtain ⟨⟨⟨h1, h2⟩, h3⟩, h5⟩ := h1
      have ho := of_decide_eq_true h1
      refine .none ((se_dbin st.cx st.cls h5 ho (ga X sc x st hs h2).se (gc X sc y st hs h3).se).of fun ρ => by rw [evE]) rfl fun ρ => ?_
      rw [evT]
      have e : ∀ p q, dunT C cs o p q = fail := fun p q => by cases o <;> first | rfl | cases ho
      simp only [e, bnd_fail]
    · simp only [Bool.and_eq_true, Bool.not_eq_true'] at h1
      obtain ⟨⟨⟨⟨h1, h2⟩, h3⟩, h4⟩, h5⟩ := h1
      cases of_decide_eq_true h1
      refine .plain ((se_didx st.cx st.cls h5 (ga X sc x st hs h2).se (gc X sc y st hs h3).se h4).of fun ρ => by rw [evE]; simp only [dunM]) rfl fun ρ => ?_
      rw [evT, evE]
      simp only [bnd_bnd, dunM, dunT]
  | .blen s => fun X sc e st hs h => by
    obtain ⟨l, lp, x, p, c, k, q, r, pos, rfl, h1⟩ := inv_blen h
    simp only [Bool.and_eq_true] at h1
    obtain ⟨⟨⟨h1, h2⟩, h3⟩, h4⟩ := h1
    obtain ⟨n1, n2, n3, n4⟩ := nameB_ok h1
    cases of_decide_eq_true h2
    cases of_decide_eq_true h3
    exact .none ((se_blen st.cx (glB_ok hs h4) (st.blt .len) (by rw [st.hN]; exact n1) (by rw [hs]; exact n2) n3 n4).of fun ρ => by rw [evE]) rfl fun ρ => by simp [evT]
  | .glob x d => fun X sc e st hs h => by
    obtain ⟨y, pos, rfl, h1⟩ := inv_glob h
    simp only [Bool.and_eq_true, Bool.not_eq_true'] at h1
    obtain ⟨⟨⟨h1, h2⟩, h3⟩, h4⟩ := h1
    cases of_decide_eq_true h1
    obtain ⟨⟨x', y'⟩, m, z⟩ := List.any_eq_true.mp h4
    rw [Bool.and_eq_true] at z
    have zx : x' = x := of_decide_eq_true z.1
    have cf : ConFact X x d := by
      have z2 := z.2
      cases d <;> first | (cases z2; done) | skip
      rename_i y2
      have zy : y2 = y' := of_decide_eq_true z2
      rw [zy, ← zx]
      exact st.cst _ _ m
    exact .none ((se_glob cf (glB_ok hs h2) h3).of fun ρ => by rw [evE]) rfl fun ρ => by simp [evT]
  | .fld a x tab => fun X sc e st hs h => by
    obtain ⟨o, y, pos, rfl, h1⟩ := inv_fld h
    simp only [Bool.and_eq_true, Bool.not_eq_true'] at h1
    obtain ⟨⟨⟨h1, h2⟩, h3⟩, h4⟩ := h1
    cases of_decide_eq_true h1
    exact .plain ((se_fld st.cx st.cls (soE a X sc o st hs h2).se h3 h4).of fun ρ => by rw [evE]) rfl fun ρ => by
      rw [evT, evE]
      simp only [bnd_bnd]
  | .meth a m cs as => fun X sc e st hs h => by
    obtain ⟨o, y, ap, args, cp, rfl, h1⟩ := inv_meth h
    simp only [Bool.and_eq_true, Bool.not_eq_true'] at h1
    obtain ⟨⟨⟨⟨⟨⟨⟨h1, h2⟩, h3⟩, h4⟩, h5⟩, h6⟩, h7⟩, h8⟩ := h1
    cases of_decide_eq_true h1
    have qs := soEs as X sc args st hs h3
    have qo := soE a X sc o st hs h2
    refine .plain ?_ rfl fun ρ => by
      rw [evT, evE]
      simp only [bnd_bnd]
    cases args with
    | nil =>
      rcases inv_es h3 with ⟨rfl, _⟩ | ⟨_, _, _, _, _, z, _⟩ | ⟨_, _, _, _, _, _, z, _⟩
      · refine (se_meth0 st.cx st.cls qo.se h4 h5 h8).of fun ρ => ?_
        rw [evE, evEs]
      · cases z
      · cases z
    | cons y ys =>
      have h7' := of_decide_eq_true h7
      rw [List.length_cons] at h7'
      exact (se_meth st.cx st.cls qo.se qs h4 h5 h6 (by omega) h8).of fun ρ => by rw [evE]
  | .mk c as => fun X sc e st hs h => by
    obtain ⟨x, p, a, es, pos, rfl, h1⟩ := inv_mk h
    simp only [Bool.and_eq_true, Bool.not_eq_true'] at h1
    obtain ⟨⟨⟨⟨⟨h1, h2⟩, h3⟩, h4⟩, h5⟩, h6⟩ := h1
    obtain ⟨T, hT, hx⟩ : ∃ T, tb.cls[c]? = some T ∧ x = T.nm := by
      unfold clsNm at h1
      split at h1
      · exact ⟨_, by assumption, of_decide_eq_true h1⟩
      · cases h1
    exact .none ((se_mk st.cx st.cls hT hx (glB_ok hs h2) h3 (soEs as X sc _ st hs h4) h5 h6).of fun ρ => by rw [evE]) rfl fun ρ => by simp [evT]
  | .isi a ts => fun X sc e st hs h => by
    have ga := soE a
    have mgT : ∀ t : Ty, t.nm ≠ "" → X.mg (Str.ofString t.nm) = none := fun t ht => by
      cases t with
      | int => exact st.blt .int
      | bool => exact st.isi.2.2
      | str => exact st.isi.2.1
      | tuple => exact st.blt .tuple
      | list => exact st.blt .list
      | cls c => exact absurd rfl ht
    rcases inv_isi h with ⟨t, x, p, o, y, p2, pos, rfl, rfl, h1⟩ | ⟨t, u, x, p, o, y, p2, z, p3, j, p4, pos, rfl, rfl, h1⟩
    · simp only [Bool.and_eq_true, Bool.not_eq_true'] at h1
      obtain ⟨⟨⟨⟨h1, h2⟩, h3⟩, h4⟩, h5⟩ := h1
      cases of_decide_eq_true h1
      unfold tyB at h3
      simp only [Bool.and_eq_true] at h3
      obtain ⟨⟨z1, z2⟩, z3⟩ := h3
      cases of_decide_eq_true z1
      have z3 := of_decide_eq_true z3
      exact .plain ((se_isi1 (glB_ok hs h2) st.isi.1 (glB_ok hs z2) (mgT t z3) z3 (ga X sc o st hs h4).se h5).of fun ρ => by rw [evE]) rfl fun ρ => by
        rw [evT, evE]
        simp only [bnd_bnd, ret_bnd, truth]
        congr 1
        funext p
        cases isiD [t] p.1 <;> simp
    · simp only [Bool.and_eq_true, Bool.not_eq_true'] at h1
      obtain ⟨⟨⟨⟨⟨h1, h2⟩, h3⟩, h3'⟩, h4⟩, h5⟩ := h1
      cases of_decide_eq_true h1
      unfold tyB at h3 h3'
      simp only [Bool.and_eq_true] at h3 h3'
      obtain ⟨⟨z1, z2⟩, z3⟩ := h3
      obtain ⟨⟨y1, y2⟩, y3⟩ := h3'
      cases of_decide_eq_true z1
      cases of_decide_eq_true y1
      have z3 := of_decide_eq_true z3
      have y3 := of_decide_eq_true y3
      exact .plain ((se_isi2 (glB_ok hs h2) st.isi.1 (glB_ok hs z2) (mgT t z3) z3 (glB_ok hs y2) (mgT u y3) y3 (ga X sc o st hs h4).se h5).of fun ρ => by rw [evE]) rfl fun ρ => by
        rw [evT, evE]
        simp only [bnd_bnd, ret_bnd, truth]
        congr 1
        funext p
        cases isiD [t, u] p.1 <;> simp
theorem soOe : ∀ c : Oe, GoOe b cl k0 C tb N c
  | .no => trivial
  | .yes a => soE a
theorem soEs : ∀ es : Es, GoEs b cl k0 C tb N es
  | .nil => fun X sc xs st hs h => by
    rcases inv_es h with ⟨_, rfl⟩ | ⟨_, _, _, _, z, _⟩ | ⟨_, _, _, _, _, z, _⟩
    · exact sa_nil.of fun ρ => by rw [evEs]
    · cases z
    · cases z
  | .cons a r => fun X sc xs st hs h => by
    have ga := soE a
    have gr := soEs r
    rcases inv_es h with ⟨z, rfl⟩ | ⟨_, _, x, ys, z, rfl, h1, h2, h3⟩ | ⟨_, _, _, _, _, z, _⟩
    · cases z
    · cases z
      exact (sa_cons (ga X sc x st hs h1).se (gr X sc ys st hs h3) h2).of fun ρ => by rw [evEs]
    · cases z
  | .star a r => fun X sc xs st hs h => by
    have ga := soE a
    have gr := soEs r
    rcases inv_es h with ⟨z, rfl⟩ | ⟨_, _, _, _, z, _⟩ | ⟨_, _, x, p, ys, z, rfl, h1, h3⟩
    · cases z
    · cases z
    · cases z
      exact (sa_star (ga X sc x st hs h1).se (gr X sc ys st hs h3)).of fun ρ => by
        rw [evEs]
        try rfl
theorem soIt : ∀ it : It, GoIt b cl k0 C tb N it
  | .seq a => fun X sc tg e o st hs h => by
    have ga := soE a
    rcases inv_it h with ⟨_, _, _, _, _, z, _⟩ | ⟨_, _, _, _, _, _, _, z, _⟩ | ⟨_, _, _, _, _, _, _, _, z, _⟩ | ⟨_, z, h1⟩ | ⟨_, _, _, _, _, _, _, _, _, _, z, _⟩
    · cases z
    · cases z
    · cases z
    · cases z
      exact (si_seq (ga X sc e st hs h1).se).of fun ρ => by rw [evIt]
    · cases z
  | .rng a => fun X sc tg e o st hs h => by
    have ga := soE a
    rcases inv_it h with ⟨_, x, p, y, pos, z, rfl, h1⟩ | ⟨_, _, _, _, _, _, _, z, _⟩ | ⟨_, _, _, _, _, _, _, _, z, _⟩ | ⟨_, z, h1⟩ | ⟨_, _, _, _, _, _, _, _, _, _, z, _⟩
    · cases z
      simp only [Bool.and_eq_true, Bool.not_eq_true'] at h1
      obtain ⟨⟨⟨h1, h2⟩, h3⟩, h4⟩ := h1
      cases of_decide_eq_true h1
      exact (si_rng (glB_ok hs h2) st.more.2.1 (ga X sc y st hs h3).se h4).of fun ρ => by rw [evIt]
    · cases z
    · cases z
    · cases z
    · cases z
  | .rng2 a c => fun X sc tg e o st hs h => by
    have ga := soE a
    have gc := soE c
    rcases inv_it h with ⟨_, _, _, _, _, z, _⟩ | ⟨_, _, x, p, y, y2, pos, z, rfl, h1⟩ | ⟨_, _, _, _, _, _, _, _, z, _⟩ | ⟨_, z, h1⟩ | ⟨_, _, _, _, _, _, _, _, _, _, z, _⟩
    · cases z
    · cases z
      simp only [Bool.and_eq_true, Bool.not_eq_true'] at h1
      obtain ⟨⟨⟨⟨⟨h1, h2⟩, h3⟩, h4⟩, h5⟩, h6⟩ := h1
      cases of_decide_eq_true h1
      exact (si_rng2 (glB_ok hs h2) st.more.2.1 (ga X sc y st hs h3).se (gc X sc y2 st hs h4).se h5 h6).of fun ρ => by rw [evIt]
    · cases z
    · cases z
    · cases z
  | .enm a => fun X sc tg e o st hs h => by
    have ga := soE a
    rcases inv_it h with ⟨_, _, _, _, _, z, _⟩ | ⟨_, _, _, _, _, _, _, z, _⟩ | ⟨_, x, p, y, pos, t1, t2, t3, z, rfl, rfl, h1⟩ | ⟨_, z, h1⟩ | ⟨_, _, _, _, _, _, _, _, _, _, z, _⟩
    · cases z
    · cases z
    · cases z
      simp only [Bool.and_eq_true, Bool.not_eq_true'] at h1
      obtain ⟨⟨⟨h1, h2⟩, h3⟩, h4⟩ := h1
      cases of_decide_eq_true h1
      exact (si_enm (glB_ok hs h2) st.more.2.2 (ga X sc y st hs h3).se h4).of fun ρ => by
        rw [evIt]
        try rfl
    · cases z
    · cases z
  | .zip a c => fun X sc tg e o st hs h => by
    have ga := soE a
    have gc := soE c
    rcases inv_it h with ⟨_, _, _, _, _, z, _⟩ | ⟨_, _, _, _, _, _, _, z, _⟩ | ⟨_, _, _, _, _, _, _, _, z, _⟩ | ⟨_, z, h1⟩ | ⟨_, _, x, p, y, y2, pos, t1, t2, t3, z, rfl, rfl, h1⟩
    · cases z
    · cases z
    · cases z
    · cases z
    · cases z
      simp only [Bool.and_eq_true, Bool.not_eq_true'] at h1
      obtain ⟨⟨⟨⟨⟨h1, h2⟩, h3⟩, h4⟩, h5⟩, h6⟩ := h1
      cases of_decide_eq_true h1
      exact (si_zip (glB_ok hs h2) st.zip (ga X sc y st hs h3).se (gc X sc y2 st hs h4).se h5 h6).of fun ρ => by
        rw [evIt]
        try rfl
end
end
end Ev
set_option Elab.async false
set_option linter.all false
set_option autoImplicit false
/-! Ev21: statements: the check, and that a checked text does what its tree says. -/
namespace Ev
open PySem PySem.Spec PyProof.Rows L2 M
def nmB (N : List Str) (sc : Scope) (x : Str) (i : Nat) : Bool := decide (N[i]? = some x) && locB sc x
def isLc : E → Bool
  | .lc .. => true
  | _ => false
def hasArg : Es → Bool
  | .cons _ _ => true
  | _ => false
def fldAt (cls : List ClsT) (c j : Nat) (x : Str) : Bool := match cls[c]? with
  | some T => decide (T.flds[j]? = some x) && decide (T.flds.Nodup)
  | none => false
section
variable (tb : Tab) (N : List Str)
mutual
def chS : Scope → S → Stmt → Bool
  | sc, .set i _ e, .Assign [.Name y _] v _ => nmB N sc y i && chE tb N sc e v && (isLc e || !isComp v)
  | sc, .set2 i j _ _ a c, .Assign [.Tuple [.Name x px, .Name y py] _ _] (.Tuple [v, w] _ _) _ => nmB N sc x i && nmB N sc y j && decide (i ≠ j) && decide (sc.names.lookup x = some .local) && decide (sc.names.lookup y = some .local) && (py.line == px.line) && !(x == y) && !isStar v && !isStar w &&
      !(foldedForSure 8 v && foldedForSure 8 w) && !(constantsAlone 8 v && constantsAlone 8 w) && chE tb N sc a v && chE tb N sc c w
  | sc, .set3 i j l _ _ _ a c e, .Assign [.Tuple [.Name x px, .Name y py, .Name z pz] _ _] (.Tuple [v, w, u] _ _) _ => nmB N sc x i && nmB N sc y j && nmB N sc z l && decide (i ≠ j) && decide (i ≠ l) && decide (j ≠ l) && decide (sc.names.lookup x = some .local) && decide (sc.names.lookup y = some .local) && decide (sc.names.lookup z = some .local) && (py.line == px.line) && (pz.line == px.line) && !(x == y) && !(x == z) && !(y == z) && !isStar v && !isStar w && !isStar u &&
      !(foldedForSure 8 v && (foldedForSure 8 w && foldedForSure 8 u)) && !(constantsAlone 8 v && (constantsAlone 8 w && constantsAlone 8 u)) && chE tb N sc a v && chE tb N sc c w && chE tb N sc e u
  | sc, .aug i neg e, .AugAssign (.Name x _) op v _ => nmB N sc x i && decide (op = if neg then .Sub else .Add) && chE tb N sc e v
  | sc, .unp is e, .Assign [.Tuple es _ _] v _ => namesB N sc sc true es is && chE tb N sc e v && (notTup v || es.any (oddT sc))
  | sc, .mut m i as, .Expr (.Call (.Attribute (.Name x _) nm ap) args [] cp) _ => decide (nm = m.nm) && nameB N sc x i && chEs tb N sc as args && args.all (fun e => !isStar e) && decide (args.length ≤ 20) && (ap.endLine == cp.line)
  | sc, .ext i e, .Expr (.Call (.Attribute (.Name x _) nm ap) [v] [] cp) _ => decide (nm = "extend") && nameB N sc x i && chE tb N sc e v && !isStar v && (ap.endLine == cp.line)
  | sc, .expr e, .Expr v _ => chE tb N sc e v && !isComp v
  | sc, .ifs c a d, .If t s1 s2 _ => chE tb N sc c t && chSs sc a s1 && chSs sc d s2
  | sc, .fors g it body, .For tg iter sts [] _ => tgB N sc sc true g tg && chIt tb N sc it tg iter && chSs sc body sts && !isSetD iter
  | sc, .whl c body, .While t sts [] _ => chE tb N sc c t && chSs sc body sts
  | sc, .ret e, .Return (some v) _ => chE tb N sc e v
  | sc, .bset s i e, .Assign [.Subscript (.Name x _) (.Constant (.int c) _ _) _] v _ => nameB N sc x s && decide (c = (i : Int)) && chE tb N sc e v && notLc v
  | sc, .baug s i j, .AugAssign (.Subscript (.Name x _) (.Constant (.int c) _ _) _) .Add (.Constant (.int c') _ _) _ => nameB N sc x s && decide (c = (i : Int)) && decide (c' = j)
  | sc, .retc f as, .Return (some v) _ => chE tb N sc (.call f as) v && hasArg as
  | sc, .fset i x c j e, .Assign [.Attribute (.Name y _) z _] v _ => decide (z = x) && nameB N sc y i && fldAt tb.cls c j x && chE tb N sc e v && !isComp v && decide (j < 900)
  | sc, .lput i ix e, .Assign [.Subscript (.Name y _) w _] v _ => nameB N sc y i && chE tb N sc ix w && chE tb N sc e v && notLc v && !isSl w
  | _, .pass, .Pass _ => true
  | _, .pass, .Expr (.Constant (.str _) _ _) _ => true
  | _, .never, _ => true
  | _, _, _ => false
def chSs : Scope → Ss → List Stmt → Bool
  | _, .nil, [] => true
  | sc, .cons s r, st :: sts => chS sc s st && chSs sc r sts
  | sc, .frz _ r, sts => chSs sc r sts
  | _, _, _ => false
end
end
section
variable {tb : Tab} {N : List Str} {sc : Scope} {st : Stmt}
theorem inv_set {i : Nat} {o : Bool} {e : E} (h : chS tb N sc (.set i o e) st = true) : ∃ y p v pos, st = .Assign [.Name y p] v pos ∧ (nmB N sc y i && chE tb N sc e v && (isLc e || !isComp v)) = true := by
  unfold chS at h
  split at h <;> first | (cases h; done) | (rename_i heq; cases heq; done) | (rename_i heq; cases heq; exact ⟨_, _, _, _, rfl, h⟩)
theorem inv_set2 {i j : Nat} {o o' : Bool} {a c : E} (h : chS tb N sc (.set2 i j o o' a c) st = true) : ∃ x px y py k1 p1 v w k2 p2 pos, st = .Assign [.Tuple [.Name x px, .Name y py] k1 p1] (.Tuple [v, w] k2 p2) pos ∧ (nmB N sc x i && nmB N sc y j && decide (i ≠ j) && decide (sc.names.lookup x = some .local) && decide (sc.names.lookup y = some .local) && (py.line == px.line) && !(x == y) && !isStar v && !isStar w &&
      !(foldedForSure 8 v && foldedForSure 8 w) && !(constantsAlone 8 v && constantsAlone 8 w) && chE tb N sc a v && chE tb N sc c w) = true := by
  unfold chS at h
  split at h <;> first | (cases h; done) | (rename_i heq; cases heq; done) | (rename_i heq; cases heq; exact ⟨_, _, _, _, _, _, _, _, _, _, _, rfl, h⟩)
theorem inv_set3 {i j l : Nat} {o o' o'' : Bool} {a c e : E} (h : chS tb N sc (.set3 i j l o o' o'' a c e) st = true) : ∃ x px y py z pz k1 p1 v w u k2 p2 pos, st = .Assign [.Tuple [.Name x px, .Name y py, .Name z pz] k1 p1] (.Tuple [v, w, u] k2 p2) pos ∧ (nmB N sc x i && nmB N sc y j && nmB N sc z l && decide (i ≠ j) && decide (i ≠ l) && decide (j ≠ l) && decide (sc.names.lookup x = some .local) && decide (sc.names.lookup y = some .local) && decide (sc.names.lookup z = some .local) && (py.line == px.line) && (pz.line == px.line) && !(x == y) && !(x == z) && !(y == z) && !isStar v && !isStar w && !isStar u &&
      !(foldedForSure 8 v && (foldedForSure 8 w && foldedForSure 8 u)) && !(constantsAlone 8 v && (constantsAlone 8 w && constantsAlone 8 u)) && chE tb N sc a v && chE tb N sc c w && chE tb N sc e u) = true := by
  unfold chS at h
  split at h <;> first | (cases h; done) | (rename_i heq; cases heq; done) | (rename_i heq; cases heq; exact ⟨_, _, _, _, _, _, _, _, _, _, _, _, _, _, rfl, h⟩)
theorem inv_aug {i : Nat} {neg : Bool} {e : E} (h : chS tb N sc (.aug i neg e) st = true) : ∃ x p op v pos, st = .AugAssign (.Name x p) op v pos ∧ (nmB N sc x i && decide (op = if neg then .Sub else .Add) && chE tb N sc e v) = true := by
  unfold chS at h
  split at h <;> first | (cases h; done) | (rename_i heq; cases heq; done) | (rename_i heq; cases heq; exact ⟨_, _, _, _, _, rfl, h⟩)
theorem inv_unp {is : List Nat} {e : E} (h : chS tb N sc (.unp is e) st = true) : ∃ es k p v pos, st = .Assign [.Tuple es k p] v pos ∧ (namesB N sc sc true es is && chE tb N sc e v && (notTup v || es.any (oddT sc))) = true := by
  unfold chS at h
  split at h <;> first | (cases h; done) | (rename_i heq; cases heq; done) | (rename_i heq; cases heq; exact ⟨_, _, _, _, _, rfl, h⟩)
theorem inv_mut {m : Mt} {i : Nat} {as : Es} (h : chS tb N sc (.mut m i as) st = true) : ∃ x p nm ap args cp pos, st = .Expr (.Call (.Attribute (.Name x p) nm ap) args [] cp) pos ∧ (decide (nm = m.nm) && nameB N sc x i && chEs tb N sc as args && args.all (fun e => !isStar e) && decide (args.length ≤ 20) && (ap.endLine == cp.line)) = true := by
  unfold chS at h
  split at h <;> first | (cases h; done) | (rename_i heq; cases heq; done) | (rename_i heq; cases heq; exact ⟨_, _, _, _, _, _, _, rfl, h⟩)
theorem inv_ext {i : Nat} {e : E} (h : chS tb N sc (.ext i e) st = true) : ∃ x p nm ap v cp pos, st = .Expr (.Call (.Attribute (.Name x p) nm ap) [v] [] cp) pos ∧ (decide (nm = "extend") && nameB N sc x i && chE tb N sc e v && !isStar v && (ap.endLine == cp.line)) = true := by
  unfold chS at h
  split at h <;> first | (cases h; done) | (rename_i heq; cases heq; done) | (rename_i heq; cases heq; exact ⟨_, _, _, _, _, _, _, rfl, h⟩)
theorem inv_expr {e : E} (h : chS tb N sc (.expr e) st = true) : ∃ v pos, st = .Expr v pos ∧ (chE tb N sc e v && !isComp v) = true := by
  unfold chS at h
  split at h <;> first | (cases h; done) | (rename_i heq; cases heq; done) | (rename_i heq; cases heq; exact ⟨_, _, rfl, h⟩)
theorem inv_ifs {c : E} {a d : Ss} (h : chS tb N sc (.ifs c a d) st = true) : ∃ t s1 s2 pos, st = .If t s1 s2 pos ∧ (chE tb N sc c t && chSs tb N sc a s1 && chSs tb N sc d s2) = true := by
  unfold chS at h
  split at h <;> first | (cases h; done) | (rename_i heq; cases heq; done) | (rename_i heq; cases heq; exact ⟨_, _, _, _, rfl, h⟩)
theorem inv_fors {g : Tg} {it : It} {body : Ss} (h : chS tb N sc (.fors g it body) st = true) : ∃ tg iter sts pos, st = .For tg iter sts [] pos ∧ (tgB N sc sc true g tg && chIt tb N sc it tg iter && chSs tb N sc body sts && !isSetD iter) = true := by
  unfold chS at h
  split at h <;> first | (cases h; done) | (rename_i heq; cases heq; done) | (rename_i heq; cases heq; exact ⟨_, _, _, _, rfl, h⟩)
theorem inv_whl {c : E} {body : Ss} (h : chS tb N sc (.whl c body) st = true) : ∃ t sts pos, st = .While t sts [] pos ∧ (chE tb N sc c t && chSs tb N sc body sts) = true := by
  unfold chS at h
  split at h <;> first | (cases h; done) | (rename_i heq; cases heq; done) | (rename_i heq; cases heq; exact ⟨_, _, _, rfl, h⟩)
theorem inv_ret {e : E} (h : chS tb N sc (.ret e) st = true) : ∃ v pos, st = .Return (some v) pos ∧ chE tb N sc e v = true := by
  unfold chS at h
  split at h <;> first | (cases h; done) | (rename_i heq; cases heq; done) | (rename_i heq; cases heq; exact ⟨_, _, rfl, h⟩)
theorem inv_bset {s i : Nat} {e : E} (h : chS tb N sc (.bset s i e) st = true) : ∃ x p c k q tp v pos, st = .Assign [.Subscript (.Name x p) (.Constant (.int c) k q) tp] v pos ∧ (nameB N sc x s && decide (c = (i : Int)) && chE tb N sc e v && notLc v) = true := by
  unfold chS at h
  split at h <;> first | (cases h; done) | (rename_i heq; cases heq; done) | (rename_i heq; cases heq; exact ⟨_, _, _, _, _, _, _, _, rfl, h⟩)
theorem inv_baug {s i : Nat} {j : Int} (h : chS tb N sc (.baug s i j) st = true) : ∃ x p c k q tp c' k' q' pos, st = .AugAssign (.Subscript (.Name x p) (.Constant (.int c) k q) tp) .Add (.Constant (.int c') k' q') pos ∧ (nameB N sc x s && decide (c = (i : Int)) && decide (c' = j)) = true := by
  unfold chS at h
  split at h <;> first | (cases h; done) | (rename_i heq; cases heq; done) | (rename_i heq; cases heq; exact ⟨_, _, _, _, _, _, _, _, _, _, rfl, h⟩)
theorem inv_retc {f : Str} {as : Es} (h : chS tb N sc (.retc f as) st = true) : ∃ v pos, st = .Return (some v) pos ∧ (chE tb N sc (.call f as) v && hasArg as) = true := by
  unfold chS at h
  split at h <;> first | (cases h; done) | (rename_i heq; cases heq; done) | (rename_i heq; cases heq; exact ⟨_, _, rfl, h⟩)
theorem inv_fset {i c j : Nat} {x : Str} {e : E} (h : chS tb N sc (.fset i x c j e) st = true) : ∃ y p z tp v pos, st = .Assign [.Attribute (.Name y p) z tp] v pos ∧ (decide (z = x) && nameB N sc y i && fldAt tb.cls c j x && chE tb N sc e v && !isComp v && decide (j < 900)) = true := by
  unfold chS at h
  split at h <;> first | (cases h; done) | (rename_i heq; cases heq; done) | (rename_i heq; cases heq; exact ⟨_, _, _, _, _, _, rfl, h⟩)
theorem inv_lput {i : Nat} {ix e : E} (h : chS tb N sc (.lput i ix e) st = true) : ∃ y p w tp v pos, st = .Assign [.Subscript (.Name y p) w tp] v pos ∧ (nameB N sc y i && chE tb N sc ix w && chE tb N sc e v && notLc v && !isSl w) = true := by
  unfold chS at h
  split at h <;> first | (cases h; done) | (rename_i heq; cases heq; done) | (rename_i heq; cases heq; exact ⟨_, _, _, _, _, _, rfl, h⟩)
theorem inv_pass (h : chS tb N sc .pass st = true) : (∃ pos, st = .Pass pos) ∨ ∃ x j p pos, st = .Expr (.Constant (.str x) j p) pos := by
  unfold chS at h
  split at h <;> first | (cases h; done) | (rename_i heq; cases heq; done) | exact .inl ⟨_, rfl⟩ | exact .inr ⟨_, _, _, _, rfl⟩
theorem inv_ss {s : S} {r : Ss} {sts : List Stmt} (h : chSs tb N sc (.cons s r) sts = true) : ∃ st rs, sts = st :: rs ∧ chS tb N sc s st = true ∧ chSs tb N sc r rs = true := by
  unfold chSs at h
  split at h <;> first | (cases h; done) | (rename_i heq; cases heq; done) | skip
  rename_i heq
  cases heq
  rw [Bool.and_eq_true] at h
  exact ⟨_, _, rfl, h.1, h.2⟩
theorem inv_s0 {sts : List Stmt} (h : chSs tb N sc .nil sts = true) : sts = [] := by
  unfold chSs at h
  split at h <;> first | (cases h; done) | (rename_i heq; cases heq; done) | rfl
end
section
variable {b : Addr} {cl : Cls} {X : Cx}
theorem SS.of {st : Stmt} {f g : List Slot → M Fl} (h : SS b cl X st g) (q : ∀ ρ, f ρ = g ρ) : SS b cl X st f := (funext q : f = g) ▸ h
theorem SSs.of {st : List Stmt} {f g : List Slot → M Fl} (h : SSs b cl X st g) (q : ∀ ρ, f ρ = g ρ) : SSs b cl X st f := (funext q : f = g) ▸ h
end
/-- a cell of one's own becomes a value -/
theorem Rel.frz {G : Gx} {M₀ : Addr → Prop} {H₀ H : Hp} {own : Nat → Addr} {ρ : List Slot} {σ : L2.St} {i : Nat} {d : D} (R : Rel G M₀ H₀ own ρ σ H) (e0 : ρ[i]? = some (.own d)) :
    Rel G M₀ H₀ own (ρ.set i (.val d)) σ H ∧ Sub (vis (hid M₀ own ρ) H) (vis (hid M₀ own (ρ.set i (.val d))) H) := by
  have hi : i < ρ.length := (List.getElem?_eq_some_iff.mp e0).1
  have low : ∀ j d', (ρ.set i (.val d))[j]? = some (.own d') → j ≠ i ∧ ρ[j]? = some (.own d') := fun j d' h => set_own (by intro _ z; cases z) h
  have hh : ∀ a, hid M₀ own (ρ.set i (.val d)) a → hid M₀ own ρ a := fun a z => by
    rcases z with z | ⟨j, d', z, rfl⟩
    · exact .inl z
    · exact .inr ⟨j, d', (low j d' z).2, rfl⟩
  have sb : Sub (vis (hid M₀ own ρ) H) (vis (hid M₀ own (ρ.set i (.val d))) H) := fun a o z => by
    obtain ⟨z1, z2⟩ := vis_iff.mp z
    exact vis_iff.mpr ⟨fun y => z1 (hh a y), z2⟩
  refine ⟨⟨fun j d' h => ?_, fun j d' h => ?_, fun j l d' e' h1 h2 h3 => R.inj j l d' e' (low _ _ h1).2 (low _ _ h2).2 h3, R.hb, R.hbc, R.ext, by rw [List.length_set]; exact R.len, R.dom⟩, sb⟩
  · by_cases ej : j = i
    · subst ej
      rw [List.getElem?_set_self hi] at h
      cases h
      obtain ⟨h1, h2, _, o, h4, h5⟩ := R.ow j _ e0
      refine ⟨_, h1, h5.rep sb (vis_iff.mpr ⟨fun y => ?_, h4⟩)⟩
      rcases y with y | ⟨l, d', y, z⟩
      · exact h2 y
      · exact (low _ _ y).1 (R.inj l j _ _ (low _ _ y).2 e0 z)
    · rw [List.getElem?_set_ne (Ne.symm ej)] at h
      obtain ⟨v, h1, h2⟩ := R.vl j _ h
      exact ⟨v, h1, h2.mono sb⟩
  · obtain ⟨_, h'⟩ := low _ _ h
    obtain ⟨h1, h2, h3, o, h4, h5⟩ := R.ow j _ h'
    exact ⟨h1, h2, h3, o, h4, h5.mono sb⟩
/-- where a def's body stands -/
structure StandS (b : Addr) (cl : Cls) (k0 : Nat) (C : Calls) (tb : Tab) (N : List Str) (X : Cx) : Prop where
  st : Stand b cl k0 C tb N X
  fn : ∀ x, X.fn x = true
  hp : PassesOwn (model X.prog X.w) X.A X.env X.xe
section
variable {b : Addr} {cl : Cls} {k0 : Nat} {C : Calls} {tb : Tab} {N : List Str} {X : Cx} {sc : Scope}
theorem nmB_ok {x : Str} {i : Nat} (hh : StandS b cl k0 C tb N X) (hs : X.env.scope = sc) (h : nmB N sc x i = true) : Nm X x i := by
  unfold nmB at h
  rw [Bool.and_eq_true] at h
  exact ⟨by rw [hh.st.hN]; exact of_decide_eq_true h.1, by rw [hs]; exact locB_ok h.2, .inl (hh.fn x)⟩
theorem namesS_ok {es : List Expr} {is : List Nat} (hh : StandS b cl k0 C tb N X) (hs : X.env.scope = sc) (h : namesB N sc sc true es is = true) : Nms X es is := namesB_ok hh.st.hN hs (fun x _ => hh.fn x) h
mutual
theorem soS : ∀ (ir : S) (st : Stmt), StandS b cl k0 C tb N X → X.env.scope = sc → chS tb N sc ir st = true → SS b cl X st (exS C ir)
  | .set i o e, st, hh, hs, h => by
    obtain ⟨y, p, v, pos, rfl, h0⟩ := inv_set h
    clear h
    have h := h0
    clear h0
    simp only [Bool.and_eq_true, Bool.or_eq_true, Bool.not_eq_true'] at h
    obtain ⟨⟨h1, h2⟩, h3⟩ := h
    have q : SAsg b cl X v (evE C e) := by
      rcases h3 with h3 | h3
      · cases e <;> first | (cases h3; done) | skip
        obtain ⟨elt, tg, iter, ifs, scope, pos, rfl, h⟩ := inv_lc h2
        obtain ⟨q, ok, hd⟩ := lc_go hh.st hs (soIt _) (soOe _) (soE _) h
        exact asg_lc hh.st.cx q ok hd
      · exact asg_plain hh.st.cx.nd (soE e X sc v hh.st hs h2).se h3
    exact (ss_set q (nmB_ok hh hs h1)).of fun ρ => by rw [exS]
  | .set2 i j o o' a c, st, hh, hs, h => by
    obtain ⟨x, px, y, py, k1, p1, v, w, k2, p2, pos, rfl, h0⟩ := inv_set2 h
    clear h
    have h := h0
    clear h0
    simp only [Bool.and_eq_true, Bool.not_eq_true', decide_eq_true_eq] at h
    obtain ⟨⟨⟨⟨⟨⟨⟨⟨⟨⟨⟨⟨h1, h2⟩, h3⟩, h4⟩, h5⟩, h6⟩, h7⟩, h8⟩, h9⟩, h10⟩, h11⟩, h12⟩, h13⟩ := h
    exact (ss_set2 hh.st.cx (soE a X sc v hh.st hs h12).se (soE c X sc w hh.st hs h13).se (nmB_ok hh hs h1) (nmB_ok hh hs h2) h3 (by rw [hs]; exact h4) (by rw [hs]; exact h5) h6 h7 h8 h9 h10 h11).of fun ρ => by rw [exS]
  | .unp is e, st, hh, hs, h => by
    obtain ⟨es, k, p, v, pos, rfl, h0⟩ := inv_unp h
    clear h
    have h := h0
    clear h0
    rw [Bool.and_eq_true, Bool.and_eq_true] at h
    obtain ⟨⟨h1, h2⟩, h4⟩ := h
    exact (ss_unp hh.st.cx (soE e X sc v hh.st hs h2).se (namesS_ok hh hs h1) (sw_tup (by rw [hs]; exact h4))).of fun ρ => by rw [exS]
  | .set3 i j l o o' o'' a c e, st, hh, hs, h => by
    obtain ⟨x, px, y, py, z, pz, k1, p1, v, w, u, k2, p2, pos, rfl, h0⟩ := inv_set3 h
    clear h
    have h := h0
    clear h0
    simp only [Bool.and_eq_true, Bool.not_eq_true', decide_eq_true_eq] at h
    obtain ⟨⟨⟨⟨⟨⟨⟨⟨⟨⟨⟨⟨⟨⟨⟨⟨⟨⟨⟨⟨⟨h1, h2⟩, h3⟩, h4⟩, h5⟩, h6⟩, h7⟩, h8⟩, h9⟩, h10⟩, h11⟩, h12⟩, h13⟩, h14⟩, h15⟩, h16⟩, h17⟩, h18⟩, h19⟩, h20⟩, h21⟩, h22⟩ := h
    exact (ss_set3 hh.st.cx (soE a X sc v hh.st hs h20).se (soE c X sc w hh.st hs h21).se (soE e X sc u hh.st hs h22).se (nmB_ok hh hs h1) (nmB_ok hh hs h2) (nmB_ok hh hs h3) h4 h5 h6 (by rw [hs]; exact h7) (by rw [hs]; exact h8) (by rw [hs]; exact h9) h10 h11 h12 h13 h14 h15 h16 h17 h18 h19).of fun ρ => by rw [exS]
  | .aug i neg e, st, hh, hs, h => by
    obtain ⟨x, p, op, v, pos, rfl, h0⟩ := inv_aug h
    rw [Bool.and_eq_true, Bool.and_eq_true] at h0
    obtain ⟨⟨h1, h2⟩, h3⟩ := h0
    cases of_decide_eq_true h2
    exact (ss_aug hh.st.cx (soE e X sc v hh.st hs h3).se (nmB_ok hh hs h1)).of fun ρ => by rw [exS]
  | .mut m i as, st, hh, hs, h => by
    obtain ⟨x, p, nm, ap, args, cp, pos, rfl, h0⟩ := inv_mut h
    clear h
    have h := h0
    clear h0
    simp only [Bool.and_eq_true] at h
    obtain ⟨⟨⟨⟨⟨h1, h2⟩, h3⟩, h4⟩, h5⟩, h6⟩ := h
    cases of_decide_eq_true h1
    obtain ⟨n1, n2, n3, n4⟩ := nameB_ok h2
    have h5 := of_decide_eq_true h5
    cases args with
    | nil =>
      rcases inv_es h3 with ⟨rfl, _⟩ | ⟨_, _, _, _, _, z, _⟩ | ⟨_, _, _, _, _, _, z, _⟩
      · refine (ss_mut0 (by rw [hh.st.hN]; exact n1) (by rw [hs]; exact n2) n3 n4 h6).of fun ρ => ?_
        rw [exS, evEs]
        try rfl
      · cases z
      · cases z
    | cons y ys =>
      refine (ss_mut (by rw [hh.st.hN]; exact n1) (by rw [hs]; exact n2) n3 n4 (soEs as X sc _ hh.st hs h3) h4 (by simp only [List.length_cons] at h5; omega) h6).of fun ρ => ?_
      rw [exS]
      try rfl
  | .ext i e, st, hh, hs, h => by
    obtain ⟨x, p, nm, ap, v, cp, pos, rfl, h0⟩ := inv_ext h
    clear h
    have h := h0
    clear h0
    simp only [Bool.and_eq_true, Bool.not_eq_true'] at h
    obtain ⟨⟨⟨⟨h1, h2⟩, h3⟩, h4⟩, h5⟩ := h
    cases of_decide_eq_true h1
    obtain ⟨n1, n2, n3, n4⟩ := nameB_ok h2
    refine (ss_ext (by rw [hh.st.hN]; exact n1) (by rw [hs]; exact n2) n3 n4 (soE e X sc v hh.st hs h3).se h4 h5).of fun ρ => ?_
    rw [exS]
    try rfl
  | .expr e, st, hh, hs, h => by
    obtain ⟨v, pos, rfl, h0⟩ := inv_expr h
    clear h
    have h := h0
    clear h0
    simp only [Bool.and_eq_true, Bool.not_eq_true'] at h
    exact (ss_expr (soE e X sc v hh.st hs h.1).se h.2).of fun ρ => by rw [exS]
  | .ifs c a d, st, hh, hs, h => by
    obtain ⟨t, s1, s2, pos, rfl, h0⟩ := inv_ifs h
    clear h
    have h := h0
    clear h0
    simp only [Bool.and_eq_true] at h
    obtain ⟨⟨h1, h2⟩, h3⟩ := h
    exact (ss_if (soE c X sc t hh.st hs h1).st (soSs a s1 hh hs h2) (soSs d s2 hh hs h3)).of fun ρ => by rw [exS]
  | .fors g it body, st, hh, hs, h => by
    obtain ⟨tg, iter, sts, pos, rfl, h0⟩ := inv_fors h
    clear h
    have h := h0
    clear h0
    simp only [Bool.and_eq_true, Bool.not_eq_true'] at h
    obtain ⟨⟨⟨h1, h2⟩, h3⟩, h4⟩ := h
    exact (ss_for hh.st.cx hh.hp (soIt it X sc tg iter false hh.st hs h2) (tgB_ok hh.st.cx.calm hh.st.cx.nd hh.st.hN hs (fun x _ => hh.fn x) h1) (soSs body sts hh hs h3) h4).of fun ρ => by rw [exS]
  | .whl c body, st, hh, hs, h => by
    obtain ⟨t, sts, pos, rfl, h0⟩ := inv_whl h
    clear h
    have h := h0
    clear h0
    simp only [Bool.and_eq_true] at h
    exact (ss_whl (n := 1000) hh.hp (soE c X sc t hh.st hs h.1).st (soSs body sts hh hs h.2)).of fun ρ => by rw [exS]
  | .ret e, st, hh, hs, h => by
    obtain ⟨v, pos, rfl, h0⟩ := inv_ret h
    clear h
    have h := h0
    clear h0
    exact (ss_ret (soE e X sc v hh.st hs h).se).of fun ρ => by rw [exS]
  | .fset i x c j e, st, hh, hs, h => by
    obtain ⟨y, p, z, tp, v, pos, rfl, h1⟩ := inv_fset h
    simp only [Bool.and_eq_true, Bool.not_eq_true'] at h1
    obtain ⟨⟨⟨⟨⟨h1, h2⟩, h3⟩, h4⟩, h5⟩, h6⟩ := h1
    cases of_decide_eq_true h1
    obtain ⟨n1, n2, n3, n4⟩ := nameB_ok h2
    obtain ⟨T, hT, hx, nd⟩ : ∃ T, tb.cls[c]? = some T ∧ T.flds[j]? = some x ∧ T.flds.Nodup := by
      unfold fldAt at h3
      split at h3
      · rw [Bool.and_eq_true] at h3
        exact ⟨_, by assumption, of_decide_eq_true h3.1, of_decide_eq_true h3.2⟩
      · cases h3
    exact (ss_fset hh.st.cls (by rw [hh.st.hN]; exact n1) (by rw [hs]; exact n2) n3 n4 hT hx nd (soE e X sc v hh.st hs h4).se h5 (of_decide_eq_true h6)).of fun ρ => by rw [exS]
  | .lput i ix e, st, hh, hs, h => by
    obtain ⟨y, p, w, tp, v, pos, rfl, h1⟩ := inv_lput h
    simp only [Bool.and_eq_true, Bool.not_eq_true'] at h1
    obtain ⟨⟨⟨⟨h1, h2⟩, h3⟩, h4⟩, h5⟩ := h1
    obtain ⟨n1, n2, n3, n4⟩ := nameB_ok h1
    exact (ss_lput (by rw [hh.st.hN]; exact n1) (by rw [hs]; exact n2) n3 n4 (soE e X sc v hh.st hs h3).se (soE ix X sc w hh.st hs h2).se h4 h5).of fun ρ => by rw [exS]
  | .bset s i e, st, hh, hs, h => by
    obtain ⟨x, p, c, k, q, tp, v, pos, rfl, h1⟩ := inv_bset h
    simp only [Bool.and_eq_true] at h1
    obtain ⟨⟨⟨h1, h2⟩, h3⟩, h4⟩ := h1
    obtain ⟨n1, n2, n3, n4⟩ := nameB_ok h1
    cases of_decide_eq_true h2
    exact (ss_bset (by rw [hh.st.hN]; exact n1) (by rw [hs]; exact n2) n3 n4 (soE e X sc v hh.st hs h3).se h4).of fun ρ => by rw [exS]
  | .baug s i j, st, hh, hs, h => by
    obtain ⟨x, p, c, k, q, tp, c', k', q', pos, rfl, h1⟩ := inv_baug h
    simp only [Bool.and_eq_true] at h1
    obtain ⟨⟨h1, h2⟩, h3⟩ := h1
    obtain ⟨n1, n2, n3, n4⟩ := nameB_ok h1
    cases of_decide_eq_true h2
    cases of_decide_eq_true h3
    exact (ss_baug (by rw [hh.st.hN]; exact n1) (by rw [hs]; exact n2) n3 n4).of fun ρ => by rw [exS]
  | .retc f as, st, hh, hs, h => by
    obtain ⟨v, pos, rfl, h0⟩ := inv_retc h
    rw [Bool.and_eq_true] at h0
    obtain ⟨x, p, args, pos2, rfl, h1⟩ := inv_call h0.1
    simp only [Bool.and_eq_true, Bool.not_eq_true'] at h1
    obtain ⟨⟨⟨⟨⟨h1, h2⟩, h3⟩, h4⟩, h5⟩, h6⟩ := h1
    cases of_decide_eq_true h1
    have h7 := h0.2
    cases as with
    | nil => cases h7
    | star _ _ => cases h7
    | cons e r =>
      rcases inv_es h5 with ⟨z, _⟩ | ⟨_, _, y, ys, z, rfl, _⟩ | ⟨_, _, _, _, _, z, _⟩
      · cases z
      · simp only [List.all_cons, Bool.and_eq_true, Bool.not_eq_true'] at h6
        exact (ss_retc hh.st.cx (hh.st.fn f (by simpa using h2)) (glB_ok hs h3) h4 (soEs _ X sc _ hh.st hs h5) h6.1 h6.2).of fun ρ => by rw [exS]
      · cases z
  | .pass, st, hh, hs, h => by
    rcases inv_pass h with ⟨pos, rfl⟩ | ⟨x, j, p, pos, rfl⟩
    · exact ss_pass.of fun ρ => by rw [exS]
    · exact ss_doc.of fun ρ => by rw [exS]
  | .never, st, hh, hs, h => ss_never.of fun ρ => by rw [exS]
theorem soSs : ∀ (ir : Ss) (sts : List Stmt), StandS b cl k0 C tb N X → X.env.scope = sc → chSs tb N sc ir sts = true → SSs b cl X sts (exSs C ir)
  | .nil, sts, hh, hs, h => by
    cases inv_s0 h
    exact sss_nil.of fun ρ => by rw [exSs]
  | .cons s r, sts, hh, hs, h => by
    obtain ⟨st, rs, rfl, h1, h2⟩ := inv_ss h
    refine (sss_cons (soS s st hh hs h1) (soSs r rs hh hs h2)).of fun ρ => ?_
    rw [exSs]
    try rfl
  | .frz i r, sts, hh, hs, h => fun M₀ H₀ own ρ σ H g l g' Z R B e q => by
    have h' : chSs tb N sc r sts = true := by
      rw [chSs] at h
      exact h
    have gr := soSs r sts hh hs h'
    rw [exSs] at e
    cases e0 : ρ[i]? with
    | none =>
      rw [e0] at e
      cases e
    | some sl =>
      rw [e0] at e
      cases sl <;> first | (cases e; done) | skip
      rename_i d
      obtain ⟨R', sb⟩ := R.frz e0
      exact gr M₀ H₀ own _ σ H g l g' Z R' B e (PostS.ahead q sb)
end
end
end Ev
set_option Elab.async false
set_option linter.all false
set_option autoImplicit false
/-! Ev22: the defs of a module, to any depth. -/
namespace Ev
open PySem PySem.Spec PyProof.Rows L2 M
/-- a def of the text by its tree: its names, its parameters -/
def TreeOk (tb : Tab) (st : Stmt) (N ps : List Str) (t : Fd) : Prop := FnScope N ps (defScope st) ∧ t.n = N.length ∧ t.np = ps.length ∧ chSs tb N (defScope st) t.body (defBody st) = true
/-- a def whose tree is known -/
def DefOk (K : PySem.W.Frag) (mg : Str → Option Value) (tb : Tab) (Γ : Fn → Option Fd) (x : Str) : Prop :=
  ∃ (qual : Str) (st : Stmt) (f : Addr) (fd : FuncData) (N ps : List Str) (t : Fd), Fun K x qual st f fd ∧ mg x = some (.ref f) ∧ Binds K fd ps [] ∧ Γ (.f x) = some t ∧ TreeOk tb st N ps t
/-- .. a method of the class at A -/
def MthOk (K : PySem.W.Frag) (tb : Tab) (Γ : Fn → Option Fd) (c : Nat) (A : Addr) (m : Str) : Prop :=
  ∃ (qual : Str) (st : Stmt) (f : Addr) (fd : FuncData) (N ps : List Str) (t : Fd), Fun K m qual st f fd ∧ Meth K A m f ∧ Binds K fd ps [] ∧ Γ (.m c m) = some t ∧ TreeOk tb st N ps t
/-- .. a property -/
def PrpOk (K : PySem.W.Frag) (tb : Tab) (Γ : Fn → Option Fd) (c : Nat) (A : Addr) (x : Str) : Prop :=
  ∃ (qual : Str) (st : Stmt) (p f : Addr) (fd : FuncData) (N ps : List Str) (t : Fd), Fun K x qual st f fd ∧ PropOf K A x p f ∧ Binds K fd ps [] ∧ Γ (.m c x) = some t ∧ TreeOk tb st N ps t
/-- the body of an __init__: tests that raise, stores to fields -/
def chIs (tb : Tab) (N : List Str) : Scope → Ss → List Stmt → Bool
  | _, .nil, [] => true
  | sc, .cons (.ifs c (.cons .never .nil) .nil) r, .If t _ [] _ :: sts => chE tb N sc c t && chIs tb N sc r sts
  | sc, .cons (.fset i x c j e) r, st :: sts => chS tb N sc (.fset i x c j e) st && chIs tb N sc r sts
  | _, _, _ => false
def IniOk (K : PySem.W.Frag) (tb : Tab) (Γ : Fn → Option Fd) (c : Nat) (A : Addr) : Prop :=
  ∃ (qual : Str) (st : Stmt) (f : Addr) (fd : FuncData) (N ps : List Str) (t : Fd), Fun K "__init__" qual st f fd ∧ Mk K A f ∧ Binds K fd ps [] ∧ Γ (.m c "__init__") = some t ∧ FnScope N ps (defScope st) ∧ t.n = N.length ∧ t.np = ps.length ∧ chIs tb N (defScope st) t.body (defBody st) = true
structure ClsMod (K : PySem.W.Frag) (mg : Str → Option Value) (tb : Tab) (Γ : Fn → Option Fd) (c : Nat) (A : Addr) (T : ClsT) : Prop where
  cls : L2.Cls K A
  mg : mg T.nm = some (.ref A)
  no : ∀ x, x ∈ T.flds → NoAttr K A x
  mth : ∀ m, m ∈ T.mths → m ∉ T.flds ∧ MthOk K tb Γ c A m
  prp : ∀ x, x ∈ T.prps → PrpOk K tb Γ c A x
  ini : IniOk K tb Γ c A
  sf : PySem.W.selfFirst K A = true
  nom : ∀ m, m ∉ T.mths → m ∉ T.prps → m ≠ "__init__" → Γ (.m c m) = none
/-- .. a def by which lists are sorted -/
def RankOk (K : PySem.W.Frag) (mg : Str → Option Value) (f : Str) : Prop := ∃ (fa : Addr) (fd : FuncData) (x nm qual : Str) (st : Stmt), mg f = some (.ref fa) ∧ Fun K nm qual st fa fd ∧ FnScope [x] [x] (defScope st) ∧ Binds K fd [x] [] ∧ isRank x (defBody st) = true ∧
  (defScope st).names.lookup x = some .local ∧ (defScope st).names.lookup ("len" : Str) = some .globalImplicit ∧ (x == ("__debug__" : Str)) = false ∧ mg "len" = none
/-- the classes' addresses and fields -/
def atOf (As : List Addr) (cls : List ClsT) (c : Nat) : Option (Addr × List Str) := match As[c]?, cls[c]? with
  | some A, some T => some (A, T.flds)
  | _, _ => none
/-- what is known of a module -/
structure ModOk (K : PySem.W.Frag) (mg : Str → Option Value) (tb : Tab) (As : List Addr) (Γ : Fn → Option Fd) : Prop where
  defs : ∀ x, x ∈ tb.fns → DefOk K mg tb Γ x
  rks : ∀ x, x ∈ tb.rks → RankOk K mg x
  blt : ∀ f : Blt, mg f.nm = none
  more : mg "set" = none ∧ mg "range" = none ∧ mg "enumerate" = none
  isi : mg "isinstance" = none ∧ mg "str" = none ∧ mg "bool" = none
  zip : mg "zip" = none
  cst : ∀ x y, (x, y) ∈ tb.cst → ∃ t, mg x = some (.str y t)
  cls : ∀ c A T, As[c]? = some A → tb.cls[c]? = some T → ClsMod K mg tb Γ c A T
  len : As.length = tb.cls.length
  kit : tb.isc = true → KitFacts K ⟨0, atOf As tb.cls⟩
theorem startS_own {n : Nat} {ds : List D} {i : Nat} {d : D} (h : (startS n ds)[i]? = some (.own d)) : False := by
  unfold startS at h
  rw [List.getElem?_append] at h
  split at h
  · rw [List.getElem?_map] at h
    obtain ⟨_, _, z⟩ := Option.map_eq_some_iff.mp h
    cases z
  · rw [List.getElem?_replicate] at h
    split at h <;> cases h
theorem startS_val {n : Nat} {ds : List D} {i : Nat} {d : D} (h : (startS n ds)[i]? = some (.val d)) : ds[i]? = some d := by
  unfold startS at h
  rw [List.getElem?_append] at h
  split at h
  · rw [List.getElem?_map] at h
    obtain ⟨x, e, z⟩ := Option.map_eq_some_iff.mp h
    cases z
    exact e
  · rw [List.getElem?_replicate] at h
    split at h <;> cases h
section
variable {P : Program} {w : World} {K : PySem.W.Frag} {mg : Str → Option Value} {base : Heap} {b : Addr} {cl : Cls} {tb : Tab} {As : List Addr} {Γ : Fn → Option Fd}
/-- a body's start -/
theorem Rel.start {G : Gx} {M₀ : Addr → Prop} {H : Hp} {N : List Str} {vs : List V} {ds : List D} (hb : M₀ G.b) (hbc : M₀ G.cl.bc) (dom : ∀ a, M₀ a → H a ≠ none) (r : Reps G (vis M₀ H) vs ds) : Rel G M₀ H (fun _ => 0) (startS N.length ds) (L2.start N vs) H := by
  have hl := r.length
  have hid0 : hid M₀ (fun _ => 0) (startS N.length ds) = M₀ := funext fun a => propext ⟨fun z => by
    rcases z with z | ⟨i, d, z, _⟩
    · exact z
    · exact (startS_own z).elim, fun z => .inl z⟩
  refine ⟨fun i d e => ?_, fun i d e => (startS_own e).elim, fun i j d e h => (startS_own h).elim, hb, hbc, Ext.refl _ _, ?_, dom⟩
  · have e1 := startS_val e
    obtain ⟨v, e2, r2⟩ := r.getD e1
    refine ⟨v, ?_, by rw [hid0]; exact r2⟩
    unfold L2.start
    have hi : i < vs.length := (List.getElem?_eq_some_iff.mp e2).1
    rw [List.getElem?_append_left (by rw [List.length_map]; exact hi), List.getElem?_map, e2]
    rfl
  · unfold startS L2.start
    rw [List.length_append, List.length_append, List.length_map, List.length_map, List.length_replicate, List.length_replicate, hl]
/-- what all defs and classes promise, to a depth -/
structure Facts (P : Program) (w : World) (K : PySem.W.Frag) (mg : Str → Option Value) (base : Heap) (b : Addr) (cl : Cls) (tb : Tab) (C : Calls) (k : Nat) : Prop where
  fn : ∀ x, x ∈ tb.fns → ∃ (f : Addr) (fd : FuncData) (ps : List Str), mg x = some (.ref f) ∧ PySem.W.keepIn K (.ref f) = true ∧ Binds K fd ps [] ∧ FnG P w K mg base k f fd ps (spF ⟨K, b, cl⟩ (C (.f x)))
  cls : ∀ c A ns, cl.at_ c = some (A, ns) → ∃ T, tb.cls[c]? = some T ∧ ns = T.flds ∧ L2.Cls K A ∧ mg T.nm = some (.ref A) ∧ (∀ x, x ∈ T.flds → NoAttr K A x) ∧
    (∀ m, m ∈ T.mths → m ∉ T.flds ∧ ∃ (f : Addr) (fd : FuncData) (ps : List Str), Meth K A m f ∧ PySem.W.fnIn K f = true ∧ Binds K fd ps [] ∧ FnG P w K mg base k f fd ps (spF ⟨K, b, cl⟩ (C (.m c m)))) ∧
    (∀ x, x ∈ T.prps → (∀ ds, C (.p c x) ds = fail) ∨ ∃ (p g : Addr) (fd : FuncData) (ps : List Str) (k1 : Nat), k1 + 1 ≤ k ∧ PropOf K A x p g ∧ Binds K fd ps [] ∧ FnG P w K mg base k1 g fd ps (spF ⟨K, b, cl⟩ (C (.p c x)))) ∧
    ((∀ ds, C (.i c) ds = fail) ∨ ∃ (f : Addr) (fd : FuncData) (ps : List Str) (k1 : Nat), k1 + 1 ≤ k ∧ Mk K A f ∧ Binds K fd ps [] ∧ FnG P w K mg base k1 f fd ps (spI ⟨K, b, cl⟩ A (C (.i c))) ∧ (∀ ds g d k g', C (.i c) ds g = some ((d, k), g') → k = .fresh)) ∧
    PySem.W.selfFirst K A = true ∧
    (∀ m, m ∈ T.mths → (∀ ds, C (.p c m) ds = fail) ∨ ∃ (f : Addr) (fd : FuncData) (ps : List Str) (k1 : Nat), k1 + 1 ≤ k ∧ Meth K A m f ∧ PySem.W.fnIn K f = true ∧ Binds K fd ps [] ∧ FnG P w K mg base k1 f fd ps (spF ⟨K, b, cl⟩ (C (.p c m)))) ∧
    (∀ m, m ∉ T.mths → m ∉ T.prps → m ≠ "__init__" → (∀ ds, C (.m c m) ds = fail) ∧ ∀ ds, C (.p c m) ds = fail)
/-- where a def's body stands -/
theorem stand_fx {k : Nat} {N : List Str} {qual : Str} {scope : Scope} {f : Addr} {cd : Value} {A : Around} {outer : List Env} {s : Shared} {H : Hp} {C : Calls} (mo : ModOk K mg tb As Γ) (ca : cl.at_ = atOf As tb.cls) (nd : N.Nodup)
    (hr : Room k (fx P w K mg base N qual scope f cd A outer s H).A) (hg : (fx P w K mg base N qual scope f cd A outer s H).A.guards = some [])
    (hf : Facts P w K mg base b cl tb C k) :
    StandS b cl k C tb N (fx P w K mg base N qual scope f cd A outer s H) where
  st := ⟨⟨rfl, nd, hr, hg⟩, rfl, fun x hx => hf.fn x hx, fun x hx => mo.rks x hx, mo.blt, mo.more, mo.isi, mo.zip, fun x y h => by
      obtain ⟨t, e⟩ := mo.cst x y h
      exact ⟨y, t, rfl, e⟩, ⟨fun c A ns e => by
      obtain ⟨T, h1, h2, h3, h4, h5, h6, h7, h8, h9, h10, h11⟩ := hf.cls c A ns e
      exact ⟨T, h1, h2, h3, h4, h5, h6, h7, h8, h9, h10, h11⟩, fun c T hT => by
      have hl : c < As.length := by
        rw [mo.len]
        exact (List.getElem?_eq_some_iff.mp hT).1
      refine ⟨As[c], ?_⟩
      rw [ca]
      unfold atOf
      rw [List.getElem?_eq_getElem hl, hT]⟩, fun z => by
      have q := mo.kit z
      exact ⟨fun c c' A A' ns ns' h1 h2 => q.own c c' A A' ns ns' (by rw [← ca]; exact h1) (by rw [← ca]; exact h2), fun c A ns n h1 h2 => q.blt c A ns n (by rw [← ca]; exact h1) h2, fun c A ns h1 => q.at_ c A ns (by rw [← ca]; exact h1), q.obj⟩⟩
  fn := fun _ => rfl
  hp := PassesOwn.never
/-- a def's body keeps the promise of its tree -/
theorem def_fn (mo : ModOk K mg tb As Γ) (ca : cl.at_ = atOf As tb.cls) {k : Nat} {C : Calls} {nm qual : Str} {st : Stmt} {f : Addr} {fd : FuncData} {N ps : List Str} {t : Fd} (F : Fun K nm qual st f fd) (tr : TreeOk tb st N ps t) (hf : Facts P w K mg base b cl tb C k) : FnG P w K mg base (k + 1) f fd ps (spF ⟨K, b, cl⟩ (defM (some t) C)) := by
  obtain ⟨S, hn, hnp, hc⟩ := tr
  refine fnG_of F S (fun vs H Q h => ?_) fun cd A outer s H vs Q hr hg h => ?_
  · obtain ⟨_, ds, g, g', d, kd, _, _, _, _, r, e, _⟩ := h
    obtain ⟨hl, _⟩ := guard_eq e
    rw [r.length, of_decide_eq_true hl, hnp]
  · obtain ⟨M₀, ds, g, g', d, kd, m1, m2, m3, B, r, e, q⟩ := h
    obtain ⟨hl, e⟩ := guard_eq e
    obtain ⟨l, g1, e1, e⟩ := bnd_some e
    have sd := stand_fx (P := P) (w := w) (base := base) (b := b) (cl := cl) (qual := qual) (f := f) (cd := cd) (A := A) (outer := outer) (s := s) (H := H) (scope := defScope st) (C := C) mo ca S.nd hr hg hf
    rw [hn] at e1
    refine soSs t.body (defBody st) sd rfl hc M₀ H (fun _ => 0) (startS N.length ds) (L2.start N vs) H g l g1 _ (Rel.start m1 m2 m3 r) B e1 ?_
    cases l with
    | rt d' k' =>
      cases e
      exact q
    | nx ρ' =>
      cases e
      exact fun own' σ' H' R' B' _ => q .non H' R'.ext B' .non
    | bk ρ' => cases e
    | ct ρ' => cases e
end
section
variable {b : Addr} {cl : Cls} {k0 : Nat} {C : Calls} {tb : Tab} {N : List Str} {X : Cx} {sc : Scope}
theorem inv_is {s : S} {r : Ss} {sts : List Stmt} (h : chIs tb N sc (.cons s r) sts = true) : (∃ c t s1 pos sts', s = .ifs c (.cons .never .nil) .nil ∧ sts = .If t s1 [] pos :: sts' ∧ chE tb N sc c t = true ∧ chIs tb N sc r sts' = true) ∨
    ∃ i x c j e st sts', s = .fset i x c j e ∧ sts = st :: sts' ∧ chS tb N sc (.fset i x c j e) st = true ∧ chIs tb N sc r sts' = true := by
  unfold chIs at h
  split at h <;> first | (cases h; done) | (rename_i heq; cases heq; done) | skip
  · rename_i heq
    cases heq
    rw [Bool.and_eq_true] at h
    exact .inl ⟨_, _, _, _, _, rfl, rfl, h.1, h.2⟩
  · rename_i heq
    cases heq
    rw [Bool.and_eq_true] at h
    exact .inr ⟨_, _, _, _, _, _, _, rfl, rfl, h.1, h.2⟩
/-- a body of an __init__, run: the cells stay where they are -/
theorem soIs : ∀ (t : Ss) (sts : List Stmt), StandS b cl k0 C tb N X → X.env.scope = sc → chIs tb N sc t sts = true →
    ∀ (M₀ : Addr → Prop) (H₀ : Hp) (own : Nat → Addr) (ρ : List Slot) (σ : L2.St) (H : Hp) (g : Bag) (l : Fl) (g' : Bag) (Z : Ends), Rel (gx X b cl) M₀ H₀ own ρ σ H → BagAt (gx X b cl) H g → exSs C t ρ g = some (l, g') →
      (∀ ρ' H', l = .nx ρ' → Rel (gx X b cl) M₀ H₀ own ρ' σ H' → BagAt (gx X b cl) H' g' → Z.nx σ H') → wpSs X sts Z σ H
  | .nil, sts, hh, hs, h, M₀, H₀, own, ρ, σ, H, g, l, g', Z, R, B, e, q => by
    cases sts with
    | cons _ _ => cases h
    | nil =>
      rw [exSs] at e
      cases e
      exact PSs.wp pss_nil (q ρ H rfl R B)
  | .cons s r, sts, hh, hs, h, M₀, H₀, own, ρ, σ, H, g, l, g', Z, R, B, e, q => by
    rw [exSs] at e
    obtain ⟨l1, g1, e1, e⟩ := bnd_some e
    rcases inv_is h with ⟨c, t, s1, pos, sts', rfl, rfl, h1, h2⟩ | ⟨i, x, c, j, e0, st, sts', rfl, rfl, h1, h2⟩
    · rw [exS] at e1
      obtain ⟨tv, g2, e2, e1⟩ := bnd_some e1
      cases tv with
      | true =>
        have e3 : exSs C (.cons .never .nil) ρ g2 = some (l1, g1) := e1
        rw [exSs, exS, fail_bnd] at e3
        cases e3
      | false =>
        have e3 : exSs C .nil ρ g2 = some (l1, g1) := e1
        rw [exSs] at e3
        cases e3
        refine PSs.wp (pss_cons (ps_if pt_wp pss_wp pss_nil) pss_wp) ?_
        refine (soE c X sc t hh.st hs h1).st M₀ H₀ own ρ σ H g false _ _ R B e2 fun H1 x1 B1 => ?_
        exact soIs r sts' hh hs h2 M₀ H₀ own ρ σ H1 _ l g' Z (R.move x1 B1.some) B1 e q
    · obtain ⟨y, p, z, tp, v, pos, rfl, hq⟩ := inv_fset h1
      simp only [Bool.and_eq_true, Bool.not_eq_true'] at hq
      obtain ⟨⟨⟨⟨⟨z1, z2⟩, z3⟩, z4⟩, z5⟩, z6⟩ := hq
      cases of_decide_eq_true z1
      obtain ⟨n1, n2, n3, n4⟩ := nameB_ok z2
      obtain ⟨T, hT, hx, nd⟩ : ∃ T, tb.cls[c]? = some T ∧ T.flds[j]? = some x ∧ T.flds.Nodup := by
        unfold fldAt at z3
        split at z3
        · rw [Bool.and_eq_true] at z3
          exact ⟨_, by assumption, of_decide_eq_true z3.1, of_decide_eq_true z3.2⟩
        · cases z3
      rw [exS] at e1
      refine PSs.wp (pss_cons ps_wp pss_wp) (fset_k hh.st.cls (by rw [hh.st.hN]; exact n1) (by rw [hs]; exact n2) n3 n4 hT hx nd (soE e0 X sc v hh.st hs z4).se z5 (of_decide_eq_true z6) R B e1 fun ρ' H' el R' B' _ => ?_)
      subst el
      exact soIs r sts' hh hs h2 M₀ H₀ own ρ' σ H' g1 l g' Z R' B' e q
end
section
variable {P : Program} {w : World} {K : PySem.W.Frag} {mg : Str → Option Value} {base : Heap} {b : Addr} {cl : Cls} {tb : Tab} {As : List Addr} {Γ : Fn → Option Fd}
theorem startI_own {n c : Nat} {ds : List D} {i : Nat} {d : D} (h : (startI n c ds)[i]? = some (.own d)) : i = 0 ∧ d = .ins c [] := by
  unfold startI at h
  cases i with
  | zero =>
    simp at h
    exact ⟨rfl, h.symm⟩
  | succ i =>
    rw [List.getElem?_cons_succ, List.getElem?_append] at h
    split at h
    · rw [List.getElem?_map] at h
      obtain ⟨_, _, z⟩ := Option.map_eq_some_iff.mp h
      cases z
    · rw [List.getElem?_replicate] at h
      split at h <;> cases h
theorem startI_val {n c : Nat} {ds : List D} {i : Nat} {d : D} (h : (startI n c ds)[i]? = some (.val d)) : ∃ j, i = j + 1 ∧ ds[j]? = some d := by
  unfold startI at h
  cases i with
  | zero => simp at h
  | succ i =>
    refine ⟨i, rfl, ?_⟩
    rw [List.getElem?_cons_succ, List.getElem?_append] at h
    split at h
    · rw [List.getElem?_map] at h
      obtain ⟨x, e, z⟩ := Option.map_eq_some_iff.mp h
      cases z
      exact e
    · rw [List.getElem?_replicate] at h
      split at h <;> cases h
/-- the start of an __init__ -/
theorem Rel.begI {G : Gx} {M₀ : Addr → Prop} {H1 : Hp} {N : List Str} {ws : List V} {ds : List D} {x dx A : Addr} {c : Nat} {ns : List Str} (hb : M₀ G.b) (hbc : M₀ G.cl.bc) (dom : ∀ a, M₀ a → H1 a ≠ none) (r : Reps G (vis M₀ H1) ws ds) (hx : H1 x = none) (hdx : H1 dx = none) (ne : dx ≠ x) (at_ : G.cl.at_ c = some (A, ns)) :
    Rel G M₀ H1 (fun _ => x) (startI N.length c ds) (L2.start N (.ref x :: ws)) (upd (upd H1 dx (.own x)) x (.ins A dx [])) := by
  have hl := r.length
  have nx : ¬ M₀ x := fun z => dom x z hx
  have keep : ∀ a o, H1 a = some o → upd (upd H1 dx (.own x)) x (.ins A dx []) a = some o := fun a o e => by
    rw [upd_ne (ne_of_none e hx), upd_ne (ne_of_none e hdx)]
    exact e
  have sub : Sub (vis M₀ H1) (vis (hid M₀ (fun _ => x) (startI N.length c ds)) (upd (upd H1 dx (.own x)) x (.ins A dx []))) := fun a o e => by
    obtain ⟨e1, e2⟩ := vis_iff.mp e
    refine vis_iff.mpr ⟨fun z => ?_, keep a o e2⟩
    rcases z with z | ⟨i, d, _, z⟩
    · exact e1 z
    · have z' : x = a := z
      rw [← z', hx] at e2
      cases e2
  refine ⟨fun i d e => ?_, fun i d e => ?_, fun i j d e h1 h2 _ => ?_, hb, hbc, fun a o _ e => keep a o e, ?_, fun a z => ?_⟩
  · obtain ⟨j, rfl, e1⟩ := startI_val e
    obtain ⟨v, e2, r2⟩ := r.getD e1
    refine ⟨v, ?_, r2.mono sub⟩
    unfold L2.start
    have hi : j < ws.length := (List.getElem?_eq_some_iff.mp e2).1
    rw [List.getElem?_append_left (by rw [List.length_map, List.length_cons]; omega), List.getElem?_map, List.getElem?_cons_succ, e2]
    rfl
  · obtain ⟨rfl, rfl⟩ := startI_own e
    refine ⟨?_, nx, hx, .ins A dx [], upd_same, .ins at_ (by simp) .nil⟩
    unfold L2.start
    rfl
  · rw [(startI_own h1).1, (startI_own h2).1]
  · unfold startI L2.start
    rw [List.length_cons, List.length_append, List.length_append, List.length_map, List.length_map, List.length_replicate, List.length_replicate, List.length_cons, hl]
    omega
  · have q := dom a z
    cases e : H1 a with
    | none => exact absurd e q
    | some o =>
      rw [keep a o e]
      exact Option.some_ne_none _
theorem init_fn (mo : ModOk K mg tb As Γ) (ca : cl.at_ = atOf As tb.cls) {k c : Nat} {A : Addr} {ns : List Str} {C : Calls} {qual : Str} {st : Stmt} {f : Addr} {fd : FuncData} {N ps : List Str} {t : Fd} (at_ : cl.at_ c = some (A, ns)) (F : Fun K "__init__" qual st f fd) (S : FnScope N ps (defScope st)) (hn : t.n = N.length) (hnp : t.np = ps.length) (hc : chIs tb N (defScope st) t.body (defBody st) = true) (hf : Facts P w K mg base b cl tb C k) :
    FnG P w K mg base (k + 1) f fd ps (spI ⟨K, b, cl⟩ A (initM (some t) c C)) := by
  refine fnG_of F S (fun vs H Q h => ?_) fun cd Ar outer s H vs Q hr hg h => ?_
  · obtain ⟨_, ds, g, g', d, x, dx, H1, ws, rfl, _, _, _, _, _, _, _, _, r, e, _⟩ := h
    obtain ⟨hl, _⟩ := guard_eq e
    rw [List.length_cons, r.length, of_decide_eq_true hl, hnp]
  · obtain ⟨M₀, ds, g, g', d, x, dx, H1, ws, rfl, hx, hdx, ne, rfl, m1, m2, m3, B, r, e, q⟩ := h
    obtain ⟨hl, e⟩ := guard_eq e
    obtain ⟨l, g1, e1, e⟩ := bnd_some e
    have sd := stand_fx (P := P) (w := w) (base := base) (b := b) (cl := cl) (qual := qual) (f := f) (cd := cd) (A := Ar) (outer := outer) (s := s) (H := upd (upd H1 dx (.own x)) x (.ins A dx [])) (scope := defScope st) (C := C) mo ca S.nd hr hg hf
    rw [hn] at e1
    have hd1 : upd H1 dx (HO.own x) x = none := by
      rw [upd_ne (Ne.symm ne)]
      exact hx
    refine soIs t.body (defBody st) sd rfl hc M₀ H1 (fun _ => x) (startI N.length c ds) (L2.start N (.ref x :: ws)) _ g l g1 _ (Rel.begI m1 m2 m3 r hx hdx ne at_) ((B.new hdx).new hd1) e1 fun ρ' H' el R' B' => ?_
    subst el
    unfold madeM at e
    dsimp only at e
    cases e0 : ρ'[0]? with
    | none =>
      rw [e0] at e
      cases e
    | some sl =>
      rw [e0] at e
      cases sl <;> first | (cases e; done) | skip
      rename_i d'
      cases e
      obtain ⟨_, _, _, o, w4, w5⟩ := R'.ow 0 _ e0
      refine q H' o R'.ext B' w4 (w5.mono fun a u z => ?_)
      obtain ⟨z1, z2⟩ := vis_iff.mp z
      refine vis_iff.mpr ⟨fun y => z1 ?_, z2⟩
      rcases y with y | y
      · exact .inl y
      · exact .inr ⟨0, _, e0, y.symm⟩
theorem nom_of {l : List (Str × Fd)} {T : ClsT} (h : ∀ x ∈ l.map (·.1), x ∈ T.mths ++ (T.prps ++ [(("__init__" : String) : Str)])) {m : Str} (h1 : m ∉ T.mths) (h2 : m ∉ T.prps) (h3 : m ≠ "__init__") : l.lookup m = none := by
  rw [List.lookup_eq_none_iff]
  intro p hp
  have q := h p.1 (List.mem_map_of_mem hp)
  simp only [List.mem_append, List.mem_singleton] at q
  simp
  rintro rfl
  rcases q with q | q | q
  · exact h1 q
  · exact h2 q
  · exact h3 q
theorem atOf_some {As : List Addr} {cls : List ClsT} {c : Nat} {A : Addr} {ns : List Str} (h : atOf As cls c = some (A, ns)) : As[c]? = some A := by
  unfold atOf at h
  split at h
  · rename_i e _
    cases h
    exact e
  · cases h
theorem kit_mk {K : PySem.W.Frag} {As : List Addr} {cls : List ClsT} (own : ∀ (c c' : Nat) (A A' : Addr), As[c]? = some A → As[c']? = some A' → PySem.W.kitOne K (.ref A) (.ref A') = some (decide (c = c')))
    (blt : ∀ (c : Nat) (A : Addr), As[c]? = some A → ∀ n, n ∈ ["NoneType", "bool", "int", "str", "tuple", "list"] → PySem.W.kitOne K (.type n) (.ref A) = some false)
    (at_ : ∀ (c : Nat) (A : Addr), As[c]? = some A → PySem.W.findIn K (.ref A) "__class__" = some (some (.builtin "object.__class__")) ∧ PySem.W.mroIn K A (.type "object") = some true)
    (obj : PySem.W.specialIn K (.builtin "object.__class__") "__get__" = some (some (.builtin "getset_descriptor.__get__")) ∧ PySem.W.takesIn K (.builtin "object.__class__") = some true) : KitFacts K ⟨0, atOf As cls⟩ :=
  ⟨fun c c' A A' _ _ h1 h2 => own c c' A A' (atOf_some h1) (atOf_some h2), fun c A _ n h1 h2 => blt c A (atOf_some h1) n h2, fun c A _ h1 => at_ c A (atOf_some h1), obj⟩
theorem fun_isIn {K : PySem.W.Frag} {x qual : Str} {st : Stmt} {f : Addr} {fd : FuncData} (F : Fun K x qual st f fd) : PySem.W.fnIn K f = true := by
  obtain ⟨_, _, _, _, _, _, _, _, _, _, lk, _⟩ := F.ex
  unfold PySem.W.fnIn
  rw [lk]
/-- every def and every class of the module keep the promises of their trees -/
theorem facts_of (mo : ModOk K mg tb As Γ) (ca : cl.at_ = atOf As tb.cls) {k : Nat} {C : Calls}
    (hf : ∀ x, x ∈ tb.fns → ∀ (f : Addr) (fd : FuncData) (ps : List Str), (∃ (qual : Str) (st : Stmt) (N : List Str) (t : Fd), Fun K x qual st f fd ∧ Γ (.f x) = some t ∧ TreeOk tb st N ps t) → FnG P w K mg base k f fd ps (spF ⟨K, b, cl⟩ (C (.f x))))
    (hm : ∀ (c : Nat) (m : Str) (f : Addr) (fd : FuncData) (ps : List Str), (∃ (qual : Str) (st : Stmt) (N : List Str) (t : Fd), Fun K m qual st f fd ∧ Γ (.m c m) = some t ∧ TreeOk tb st N ps t) → FnG P w K mg base k f fd ps (spF ⟨K, b, cl⟩ (C (.m c m))))
    (hp : ∀ (c : Nat) (x : Str), (∀ ds, C (.p c x) ds = fail) ∨ ∃ k1, k1 + 1 ≤ k ∧ ∀ (f : Addr) (fd : FuncData) (ps : List Str), (∃ (qual : Str) (st : Stmt) (N : List Str) (t : Fd), Fun K x qual st f fd ∧ Γ (.m c x) = some t ∧ TreeOk tb st N ps t) → FnG P w K mg base k1 f fd ps (spF ⟨K, b, cl⟩ (C (.p c x))))
    (hi : ∀ (c : Nat) (A : Addr) (ns : List Str), cl.at_ c = some (A, ns) → (∀ ds, C (.i c) ds = fail) ∨ ∃ k1, k1 + 1 ≤ k ∧ (∀ ds g d k g', C (.i c) ds g = some ((d, k), g') → k = .fresh) ∧ ∀ (f : Addr) (fd : FuncData) (ps : List Str), (∃ (qual : Str) (st : Stmt) (N : List Str) (t : Fd), Fun K "__init__" qual st f fd ∧ Γ (.m c "__init__") = some t ∧ FnScope N ps (defScope st) ∧ t.n = N.length ∧ t.np = ps.length ∧ chIs tb N (defScope st) t.body (defBody st) = true) → FnG P w K mg base k1 f fd ps (spI ⟨K, b, cl⟩ A (C (.i c))))
    (hn : ∀ (c : Nat) (m : Str), Γ (.m c m) = none → (∀ ds, C (.m c m) ds = fail) ∧ ∀ ds, C (.p c m) ds = fail) :
    Facts P w K mg base b cl tb C k where
  fn := fun x hx => by
    obtain ⟨qual, st, f, fd, N, ps, t, F, hm, hb, hΓ, tr⟩ := mo.defs x hx
    exact ⟨f, fd, ps, hm, F.kp, hb, hf x hx f fd ps ⟨qual, st, N, t, F, hΓ, tr⟩⟩
  cls := fun c A ns e => by
    have e' := e
    rw [ca] at e
    unfold atOf at e
    cases eA : As[c]? with
    | none =>
      rw [eA] at e
      cases e
    | some A' =>
      cases eT : tb.cls[c]? with
      | none =>
        rw [eA, eT] at e
        cases e
      | some T =>
        rw [eA, eT] at e
        cases e
        have M := mo.cls c A T eA eT
        refine ⟨T, rfl, rfl, M.cls, M.mg, M.no, fun m h => ?_, fun x h => ?_, ?_, M.sf, fun m h => ?_, fun m h1 h2 h3 => hn c m (M.nom m h1 h2 h3)⟩
        · obtain ⟨n, qual, st, f, fd, N, ps, t, F, mt, hb, hΓ, tr⟩ := M.mth m h
          exact ⟨n, f, fd, ps, mt, fun_isIn F, hb, hm c m f fd ps ⟨qual, st, N, t, F, hΓ, tr⟩⟩
        · obtain ⟨qual, st, p, f, fd, N, ps, t, F, po, hb, hΓ, tr⟩ := M.prp x h
          rcases hp c x with z | ⟨k1, lk, z⟩
          · exact .inl z
          · exact .inr ⟨p, f, fd, ps, k1, lk, po, hb, z f fd ps ⟨qual, st, N, t, F, hΓ, tr⟩⟩
        · obtain ⟨qual, st, f, fd, N, ps, t, F, mk, hb, hΓ, S, hn, hnp, hc⟩ := M.ini
          rcases hi c A _ e' with z | ⟨k1, lk, z1, z⟩
          · exact .inl z
          · exact .inr ⟨f, fd, ps, k1, lk, mk, hb, z f fd ps ⟨qual, st, N, t, F, hΓ, S, hn, hnp, hc⟩, z1⟩
        · obtain ⟨n, qual, st, f, fd, N, ps, t, F, mt, hb, hΓ, tr⟩ := M.mth m h
          rcases hp c m with z | ⟨k1, lk, z⟩
          · exact .inl z
          · exact .inr ⟨f, fd, ps, k1, lk, mt, fun_isIn F, hb, z f fd ps ⟨qual, st, N, t, F, hΓ, tr⟩⟩
theorem fnG_none {k : Nat} {f : Addr} {fd : FuncData} {ps : List Str} {F : List D → M (D × Kd)} (h : ∀ ds, F ds = fail) : FnG P w K mg base k f fd ps (spF ⟨K, b, cl⟩ F) := by
  refine ⟨fun vs H Q h' => ?_, fun A outer s H args us vs Q hr hg e0 hb' rv h' => ?_⟩
  all_goals
    obtain ⟨_, ds, g, g', d, kd, _, _, _, _, _, e, _⟩ := h'
    rw [h] at e
    cases e
theorem init_fresh {o : Option Fd} {c : Nat} {C : Calls} {ds : List D} {g g' : Bag} {d : D} {k : Kd} (h : initM o c C ds g = some ((d, k), g')) : k = .fresh := by
  cases o with
  | none => cases h
  | some t =>
    obtain ⟨_, h⟩ := guard_eq h
    obtain ⟨l, g1, e9, h⟩ := bnd_some h
    cases l <;> first | (cases h; done) | skip
    rename_i ρ
    unfold madeM at h
    dsimp only at h
    cases e0 : ρ[0]? with
    | none =>
      rw [e0] at h
      cases h
    | some sl =>
      rw [e0] at h
      cases sl <;> first | (cases h; done) | skip
      cases h
      rfl
theorem all_fns (mo : ModOk K mg tb As Γ) (ca : cl.at_ = atOf As tb.cls) : ∀ k : Nat, Facts P w K mg base b cl tb (runF Γ k) k
  | 0 => facts_of mo ca (fun x hx f fd ps _ => fnG_none fun ds => by rw [runF]) (fun c m f fd ps _ => fnG_none fun ds => by rw [runF]) (fun c x => .inl fun ds => by rw [runF]) (fun c A ns _ => .inl fun ds => by rw [runF]) (fun c m _ => ⟨fun ds => by rw [runF], fun ds => by rw [runF]⟩)
  | 1 => by
    have f0 := all_fns mo ca 0
    refine facts_of mo ca (fun x hx f fd ps ⟨qual, st, N, t, F, hΓ, tr⟩ => ?_) (fun c m f fd ps ⟨qual, st, N, t, F, hΓ, tr⟩ => ?_) (fun c x => .inl fun ds => by rw [runF]) (fun c A ns _ => .inl fun ds => by rw [runF]) (fun c m z => ⟨fun ds => by rw [runF, z]; rfl, fun ds => by rw [runF]⟩)
    · have e : runF Γ (0 + 1) (.f x) = defM (some t) (runF Γ 0) := funext fun ds => by rw [runF, hΓ]
      rw [e]
      exact def_fn mo ca F tr f0
    · have e : runF Γ (0 + 1) (.m c m) = defM (some t) (runF Γ 0) := funext fun ds => by rw [runF, hΓ]
      rw [e]
      exact def_fn mo ca F tr f0
  | k + 2 => by
    have f0 := all_fns mo ca k
    have f1 := all_fns mo ca (k + 1)
    refine facts_of mo ca (fun x hx f fd ps ⟨qual, st, N, t, F, hΓ, tr⟩ => ?_) (fun c m f fd ps ⟨qual, st, N, t, F, hΓ, tr⟩ => ?_) (fun c x => .inr ⟨k + 1, Nat.le_refl _, fun f fd ps ⟨qual, st, N, t, F, hΓ, tr⟩ => ?_⟩) (fun c A ns at_ => .inr ⟨k + 1, Nat.le_refl _, fun ds g d kd g' h => ?_, fun f fd ps ⟨qual, st, N, t, F, hΓ, S, hn, hnp, hc⟩ => ?_⟩) (fun c m z => ⟨fun ds => by rw [runF, z]; rfl, fun ds => by rw [runF, z]; rfl⟩)
    · have e : runF Γ (k + 1 + 1) (.f x) = defM (some t) (runF Γ (k + 1)) := funext fun ds => by rw [runF, hΓ]
      rw [e]
      exact def_fn mo ca F tr f1
    · have e : runF Γ (k + 1 + 1) (.m c m) = defM (some t) (runF Γ (k + 1)) := funext fun ds => by rw [runF, hΓ]
      rw [e]
      exact def_fn mo ca F tr f1
    · have e : runF Γ (k + 2) (.p c x) = defM (some t) (runF Γ k) := funext fun ds => by rw [runF, hΓ]
      rw [e]
      exact def_fn mo ca F tr f0
    · rw [runF] at h
      exact init_fresh h
    · have e : runF Γ (k + 2) (.i c) = initM (some t) c (runF Γ k) := funext fun ds => by rw [runF, hΓ]
      rw [e]
      exact init_fn mo ca at_ F S hn hnp hc f0
end
end Ev
set_option Elab.async false
set_option linter.all false
set_option autoImplicit false
/-! Ev23: the def that makes the bag. -/
namespace Ev
open PySem PySem.Spec PyProof.Rows L2 M
/-- the body that makes a bag of the script x (y: the comprehension's name) -/
def bagC (sc : Scope) (x y : Str) : List Stmt → Bool
  | [.Return (some (.List [.Constant (.int a) _ _, .Constant (.int b) _ _, .Constant (.int c) _ _, .ListComp (.Call (.Name f _) [.Name y1 p1] [] _) [⟨.Name y2 p2, .Subscript (.Name x1 _) (.Slice none (some (.Constant (.int d) _ _)) none _) _, [], 0⟩] scope _] _)) _] =>
    decide (a = 0) && decide (b = 1234567891) && decide (c = 0) && decide (d = 63) && decide (f = "abs") && decide (y1 = y) && decide (y2 = y) && decide (x1 = x) && blkC [x, y] sc scope [(y, 1)] && nameB [x, y] sc x 0 && nameB [x, y] (relS scope sc) y 1 && namesB [x, y] (relS scope sc) scope false [.Name y2 p2] [1] && glB (relS scope sc) "abs"
  | _ => false
def absI (i : Int) : Int := if i < 0 then -i else i
theorem cut63 (ns : List Int) : cutV (ns.map V.int) none (some 63) = (ns.take 63).map V.int := by
  unfold cutV
  have e0 : HT.sIx (ns.map V.int).length 0 none = 0 := rfl
  have e1 : HT.sIx (ns.map V.int).length (ns.map V.int).length (some 63) = min 63 (ns.map V.int).length := rfl
  rw [e0, e1, List.drop_zero, Nat.sub_zero, List.map_take, List.take_eq_take_iff]
  omega
section
variable {X : Cx}
theorem bag_body {k0 : Nat} {sc : Scope} {x y : Str} {sts : List Stmt} {σ : L2.St} {H : Hp} {a : Addr} {ns : List Int} {Z : Ends} (cx : CxOk k0 X) (hs : X.env.scope = sc) (hN : X.N = [x, y]) (hm : X.mg "abs" = none) (hc : bagC sc x y sts = true) (h0 : σ[0]? = some (some (.ref a))) (hl : σ.length = 2) (hq : SqL X.K H a (ns.map V.int))
    (q : ∀ p c H', H c = none → H p = none → c ≠ p → Sub H H' → H' p = some (.lst [.int 0, .int 1234567891, .int 0, .ref c]) → H' c = some (.lst ((ns.take 63).map fun i => V.int (absI i))) → Z.rt (.ref p) H') : wpSs X sts Z σ H := by
  unfold bagC at hc
  split at hc
  · rename_i i1 _ _ i2 _ _ i3 _ _ f _ y1 p1 _ y2 p2 x1 _ i4 _ _ _ _ scope _ _ _
    simp only [Bool.and_eq_true, decide_eq_true_eq] at hc
    obtain ⟨⟨⟨⟨⟨⟨⟨⟨⟨⟨⟨⟨rfl, rfl⟩, rfl⟩, rfl⟩, rfl⟩, rfl⟩, rfl⟩, rfl⟩, h9⟩, h10⟩, h11⟩, h12⟩, h13⟩ := hc
    obtain ⟨n1, n2, n3, n4⟩ := nameB_ok h10
    obtain ⟨m1, m2, m3, m4⟩ := nameB_ok h11
    have ok : BlkOk X.N X.env.scope scope [(y2, 1)] := by
      rw [hN, hs]
      exact blkOk_by h9
    have bs : ∀ s H D c fp, (bx X scope s H D c fp).env.scope = relS scope sc := fun s H D c fp => by
      show relS scope X.env.scope = _
      rw [hs]
    have pg : ∀ s H D c fp, PG (bx X scope s H D c fp) (.Name y2 p2) (gName 1) := fun s H D c fp => by
      have z := namesB_ok (X := bx X scope s H D c fp) hN (bs ..) (fun x z => by simpa using z) h12
      cases z with
      | cons n _ => exact pg_name cx.nd n.at_ n.loc n.fn
    have pe : ∀ (u1 u2 : Pos) s H D c fp, PE (bx X scope s H D c fp) (.Call (.Name "abs" u1) [.Name y2 p1] [] u2) (tCB _ (tCons (tVar 1) tNil)) := fun u1 u2 s H D c fp =>
      pe_blt (f := .abs) call_abs (glB_ok (bs ..) h13) hm (pe_var (by show X.N[1]? = _; rw [hN]; exact m1) (by rw [bs]; exact m2) m3 m4) rfl
    have px : ∀ u1 : Pos, PE X (.Name x1 u1) (tVar 0) := fun u1 => pe_var (by rw [hN]; exact n1) (by rw [hs]; exact n2) n3 n4
    have sl := sizeLine_eq
    refine PSs.wp (pss_cons (ps_ret (pe_lst (pa_cons pe_int (pa_cons pe_int (pa_cons pe_int (pa_cons (pe_lc cx.calm cx.nd (pi_list (pe_slice sl_list (px _) po_none (po_some pe_int))) ok pg (fun _ _ _ _ _ => pts_nil) (pe _ _)) pa_nil)))))) pss_nil) ?_
    refine ⟨.ref a, h0, 63, rfl, a, _, rfl, hq, fun p1 hp1 => ⟨p1, rfl, ⟨_, .of upd_same⟩, fun c hc => ?_⟩⟩
    rw [cut63] at hc ⊢
    have nc : c ≠ p1 := fun z => by
      rw [z, upd_same] at hc
      cases hc
    rw [upd_ne nc] at hc
    refine lc_list (fun i H' => Sub H H' ∧ H' p1 = some (.lst ((ns.take 63).map V.int)) ∧ H' c = some (.lst (((ns.take 63).map fun i => V.int (absI i)).take i))) ?_ (fun i H' _ z => .of z.2.1) (fun i v H' hv z => ?_) (fun H' z => ?_)
    · refine ⟨fun b o e => ?_, ?_, ?_⟩
      · rw [upd_ne (ne_of_none e hc), upd_ne (ne_of_none e hp1)]
        exact e
      · rw [upd_ne (Ne.symm nc), upd_same]
      · rw [upd_same, List.take_zero]
    · obtain ⟨z1, z2, z3⟩ := z
      rw [List.getElem?_map] at hv
      obtain ⟨n, hn, rfl⟩ := Option.map_eq_some_iff.mp hv
      refine ⟨?_, ?_⟩
      · refine (wipe_same (τ := wipe σ [1]) (by rw [List.length_set]; rfl) fun j hj => ?_).trans wipe_wipe
        rw [List.getElem?_set_ne]
        · rfl
        · intro z
          exact hj (by simp [z])
      unfold tYes
      dsimp only
      rw [if_pos rfl]
      refine ⟨.int n, ?_, n, rfl, _, z3, ?_, fun b o e => ?_, ?_, ?_⟩
      · have : 1 < (wipe σ [1]).length := by
          rw [wipe_length, hl]
          omega
        exact List.getElem?_set_self this
      · rw [List.length_take, List.length_map, List.length_take]
        omega
      · rw [upd_ne (ne_of_none e hc)]
        exact z1 b o e
      · rw [upd_ne (Ne.symm nc)]
        exact z2
      · rw [upd_same]
        congr 2
        have hlt : i < ((ns.take 63).map fun i => V.int (absI i)).length := by
          rw [List.length_map]
          exact (List.getElem?_eq_some_iff.mp hn).1
        rw [List.take_succ (i := i), List.getElem?_map, hn]
        rfl
    · obtain ⟨z1, z2, z3⟩ := z
      refine ⟨by show 4 ≤ sizeLine; omega, fun p hp => q p c _ hc ?_ (fun z => ?_) (fun b o e => ?_) upd_same ?_⟩
      · cases e : H p with
        | none => rfl
        | some o =>
          rw [z1 p o e] at hp
          cases hp
      · rw [z, hp] at z3
        cases z3
      · rw [upd_ne (ne_of_none (z1 b o e) hp)]
        exact z1 b o e
      · rw [upd_ne (fun z => by rw [z, hp] at z3; cases z3), z3, List.take_of_length_le (by rw [List.length_map, List.length_map]; exact Nat.le_refl _)]
  · cases hc
end
end Ev
set_option Elab.async false
set_option linter.all false
set_option autoImplicit false
/-! Ev24: the law's def; its end. -/
namespace Ev
open PySem PySem.Spec PyProof.Rows L2 M
/-- the promise of the def that makes the bag -/
def spBag (K : PySem.W.Frag) : SpT := fun vs H Q => ∃ (a : Addr) (ns : List Int), vs = [.ref a] ∧ SqL K H a (ns.map V.int) ∧
  ∀ p c H', H c = none → H p = none → c ≠ p → Sub H H' → H' p = some (.lst [.int 0, .int 1234567891, .int 0, .ref c]) → H' c = some (.lst ((ns.take 63).map fun i => V.int (absI i))) → Q (.ref p) H'
/-- the promise of the law -/
def spLaw (K : PySem.W.Frag) : SpT := fun vs H Q => ∃ (a : Addr) (ns : List Int), vs = [.ref a] ∧ SqL K H a (ns.map V.int) ∧ ∀ H', Q (.bl true) H'
/-- the def that makes the bag is there -/
def BagOk (K : PySem.W.Frag) (mg : Str → Option Value) : Prop := ∃ (qual : Str) (st : Stmt) (f : Addr) (fd : FuncData) (x y : Str), Fun K "_law_bag" qual st f fd ∧ mg "_law_bag" = some (.ref f) ∧ Binds K fd [x] [] ∧ FnScope [x, y] [x] (defScope st) ∧ bagC (defScope st) x y (defBody st) = true
/-- the law's body: the bag is made, then all else -/
def lawC (tb : Tab) (N : List Str) (sc : Scope) (i : Nat) (t : Ss) : List Stmt → Bool
  | .Assign [.Name y _] (.Call (.Name f _) [.Name x _] [] _) _ :: rest => nmB N sc y i && decide (f = "_law_bag") && glB sc "_law_bag" && nameB N sc x 0 && chSs tb N sc t rest
  | _ => false
/-- .. and the law's def -/
def LawOk (K : PySem.W.Frag) (mg : Str → Option Value) (tb : Tab) (nm : Str) (n i : Nat) (t : Ss) (f : Addr) (fd : FuncData) (x : Str) : Prop := ∃ (qual : Str) (st : Stmt) (N : List Str), Fun K nm qual st f fd ∧ FnScope N [x] (defScope st) ∧ N.length = n ∧ lawC tb N (defScope st) i t (defBody st) = true
/-- the plain claim: from every bag the tree says True -/
def lawS (n i : Nat) : List Slot := (List.replicate n Slot.no).set i (.val .bag)
def Plain (Γ : Fn → Option Fd) (k n i : Nat) (t : Ss) : Prop := ∀ cells : List Int, cells.length ≤ 63 → (∀ x ∈ cells, 0 ≤ x) → ∃ kd g', exSs (runF Γ k) t (lawS n i) ⟨0, 1234567891, 0, cells⟩ = some (.rt (.bl true) kd, g')
theorem lawS_own {n i j : Nat} {d : D} (h : (lawS n i)[j]? = some (.own d)) : False := by
  unfold lawS at h
  rw [List.getElem?_set] at h
  split at h
  · split at h <;> cases h
  · rw [List.getElem?_replicate] at h
    split at h <;> cases h
theorem lawS_val {n i j : Nat} {d : D} (h : (lawS n i)[j]? = some (.val d)) : j = i ∧ d = .bag ∧ i < n := by
  unfold lawS at h
  rw [List.getElem?_set] at h
  split at h
  · split at h
    · rename_i e l
      cases h
      rw [List.length_replicate] at l
      exact ⟨e.symm, rfl, l⟩
    · cases h
  · rw [List.getElem?_replicate] at h
    split at h <;> cases h
section
variable {P : Program} {w : World} {K : PySem.W.Frag} {mg : Str → Option Value} {base : Heap} {tb : Tab} {As : List Addr} {Γ : Fn → Option Fd}
theorem bag_fn (mo : ModOk K mg tb As Γ) (bo : BagOk K mg) (k : Nat) : ∃ (f : Addr) (fd : FuncData) (ps : List Str), mg "_law_bag" = some (.ref f) ∧ PySem.W.keepIn K (.ref f) = true ∧ Binds K fd ps [] ∧ FnG P w K mg base (k + 1) f fd ps (spBag K) := by
  obtain ⟨qual, st, f, fd, x, y, F, hm, hb, S, hc⟩ := bo
  refine ⟨f, fd, [x], hm, F.kp, hb, fnG_of F S (fun vs H Q h => ?_) fun cd A outer s H vs Q hr hg h => ?_⟩
  · obtain ⟨a, ns, rfl, _⟩ := h
    rfl
  · obtain ⟨a, ns, rfl, hq, q⟩ := h
    exact bag_body (k0 := k) (X := fx P w K mg base [x, y] qual (defScope st) f cd A outer s H) ⟨rfl, S.nd, hr, hg⟩ rfl rfl (mo.blt .abs) hc rfl rfl hq q
theorem law_fn {nm x : Str} {n i k : Nat} {t : Ss} {f : Addr} {fd : FuncData} (mo : ModOk K mg tb As Γ) (bo : BagOk K mg) (lo : LawOk K mg tb nm n i t f fd x) (pl : Plain Γ (k + 1) n i t) : FnG P w K mg base (k + 2) f fd [x] (spLaw K) := by
  obtain ⟨qual, st, N, F, S, hn, hc⟩ := lo
  refine fnG_of F S (fun vs H Q h => ?_) fun cd A outer s H vs Q hr hg h => ?_
  · obtain ⟨a, ns, rfl, _⟩ := h
    rfl
  obtain ⟨a, ns, rfl, hq, q⟩ := h
  unfold lawC at hc
  split at hc
  · rename_i y py fb pf x' px pc pa rest ebody
    simp only [Bool.and_eq_true, decide_eq_true_eq] at hc
    obtain ⟨⟨⟨⟨h1, rfl⟩, h3⟩, h4⟩, h5⟩ := hc
    rw [ebody]
    obtain ⟨n1, n2, n3, n4⟩ := nameB_ok h4
    have sd0 := stand_fx (P := P) (w := w) (base := base) (b := 0) (cl := ⟨0, atOf As tb.cls⟩) (qual := qual) (f := f) (cd := cd) (A := A) (outer := outer) (s := s) (H := H) (scope := defScope st) (C := runF Γ (k + 1)) mo rfl S.nd hr hg (all_fns mo rfl (k + 1))
    have hnm := nmB_ok sd0 rfl h1
    refine PSs.wp (pss_cons (ps_set S.nd hnm.at_ hnm.loc pe_wp rfl hnm.fn) pss_wp) ?_
    obtain ⟨fb, fdb, psb, m1, m2, m3, FB⟩ := bag_fn (P := P) (w := w) (base := base) mo bo k
    -- the bag is made
    intro pins s1 I
    refine wpAny_Call_Name_kw (ld_glob I (glB_ok rfl h3) m1 ?_ (by decide +kernel))
    refine PySem.W.callWith_K (h₀ := base) I.ok.mod.kin m2 ?_ (star_no rfl _ _) (stars_no rfl)
    have pa := pa_cons (pe_var (pos := px) (X := fx P w K mg base N qual (defScope st) f cd A outer s H) n1 n2 n3 n4) pa_nil (star_no rfl _ _)
    refine thn (pa.run pc pins s1 (L2.start N [.ref a]) H (fun vs H1 => spBag K vs H1 _) I ⟨.ref a, ?_, a, ns, rfl, hq, fun p c H1 hc hp ne sub hp1 hc1 => ?_⟩) fun us s2 ⟨vs, H1, I1, r, z⟩ => ⟨I1.kIn, runG FB hr hg m3 I1 r z⟩
    · unfold L2.start
      rfl
    -- all else
    show wpSs (fx P w K mg base N qual (defScope st) f cd A outer s H) rest _ ((L2.start N [.ref a]).set i (some (.ref p))) H1
    have sd := stand_fx (P := P) (w := w) (base := base) (b := p) (cl := ⟨c, atOf As tb.cls⟩) (qual := qual) (f := f) (cd := cd) (A := A) (outer := outer) (s := s) (H := H) (scope := defScope st) (C := runF Γ (k + 1)) mo rfl S.nd hr hg (all_fns mo rfl (k + 1))
    have cellE : ((ns.take 63).map absI).map V.int = (ns.take 63).map fun i => V.int (absI i) := by
      rw [List.map_map]
      rfl
    have cl63 : ((ns.take 63).map absI).length ≤ 63 := by
      rw [List.length_map, List.length_take]
      omega
    have cl0 : ∀ x ∈ (ns.take 63).map absI, 0 ≤ x := fun x hx => by
      obtain ⟨z, _, rfl⟩ := List.mem_map.mp hx
      unfold absI
      split <;> omega
    have B : BagAt ⟨K, p, ⟨c, atOf As tb.cls⟩⟩ H1 ⟨0, 1234567891, 0, (ns.take 63).map absI⟩ := ⟨⟨ne, hp1, by rw [hc1, cellE]⟩, (by decide : (0 : Int) ≤ 0), (by decide : (0 : Int) ≤ 1234567891), (by decide : (1234567891 : Int) < 2147483647), (by decide : (0 : Int) ≤ 0), cl0, cl63⟩
    obtain ⟨kd, g', e⟩ := pl _ cl63 cl0
    have R : Rel ⟨K, p, ⟨c, atOf As tb.cls⟩⟩ (fun z => z = p ∨ z = c) H1 (fun _ => 0) (lawS n i) ((L2.start N [.ref a]).set i (some (.ref p))) H1 := by
      have ls : (L2.start N [.ref a]).length = N.length := by
        have := S.pre
        have hN : 1 ≤ N.length := by
          cases N with
          | nil => cases this
          | cons _ _ => simp
        unfold L2.start
        rw [List.length_append, List.length_replicate, List.length_map]
        simp only [List.length_cons, List.length_nil]
        omega
      refine ⟨fun j d ej => ?_, fun j d ej => (lawS_own ej).elim, fun j j' d d' ej => (lawS_own ej).elim, .inl rfl, .inr rfl, Ext.refl _ _, ?_, fun z hz => ?_⟩
      · obtain ⟨rfl, rfl, lt⟩ := lawS_val ej
        exact ⟨.ref p, List.getElem?_set_self (by rw [ls, hn]; exact lt), .bag⟩
      · unfold lawS
        rw [List.length_set, List.length_set, List.length_replicate, ls, hn]
      · rcases hz with rfl | rfl
        · rw [hp1]
          exact Option.some_ne_none _
        · rw [hc1]
          exact Option.some_ne_none _
    refine soSs t rest sd rfl h5 _ H1 _ (lawS n i) _ H1 _ _ _ _ R B e ?_
    intro v H' _ _ rr
    cases kd with
    | clean =>
      have rr' : Rep ⟨K, p, ⟨c, atOf As tb.cls⟩⟩ (vis (fun z => z = p ∨ z = c) H') v (.bl true) := rr
      cases rr'
      exact q H'
    | fresh =>
      obtain ⟨_, _, _, _, _, cc⟩ := rr
      cases cc
    | own => exact rr.elim
    | dirty => exact rr.elim
  · cases hc
end
end Ev
set_option Elab.async false
set_option linter.all false
set_option autoImplicit false
/-! Ev25: from the law's def to the row that the head leaves. -/
namespace Ev
open PySem PySem.Spec PyProof.Rows L2 M
/-- what is tracked when the law is called: the script, unless it is the module's own -/
def scriptH (K : PySem.W.Frag) (a : Addr) (o : Obj) (xs : List V) : Hp := fun c => if c = a ∧ K.lookup a = none then some (.frz o (.lst xs)) else none
theorem scriptH_some {K : PySem.W.Frag} {a c : Addr} {o : Obj} {xs : List V} {u : HO} (h : scriptH K a o xs c = some u) : c = a ∧ K.lookup a = none ∧ u = .frz o (.lst xs) := by
  unfold scriptH at h
  split at h
  · rename_i z
    cases h
    exact ⟨z.1, z.2, rfl⟩
  · cases h
theorem scriptH_none {K : PySem.W.Frag} {a c : Addr} {o : Obj} {xs : List V} (h : c = a → K.lookup a ≠ none) : scriptH K a o xs c = none := by
  unfold scriptH
  rw [if_neg]
  rintro ⟨z1, z2⟩
  exact h z1 z2
theorem law_codeG {P : Program} {w : World} {K : PySem.W.Frag} {mg mb : Str → Option Value} {k : Nat} {fa a : Addr} {fd : FuncData} {x : Str} {s : Shared} {us : List Value} {ns : List Int}
    (hK : K.In s.heap) (hgl : s.heap.Ns mainGlobals mg) (hbl : s.heap.Ns builtinsNs mb) (hboot : ∀ y : Str, y ≠ "__name__" → mb y = bootBuiltins y) (hlim : s.heap.NoLimit) (hgen : s.gens = #[])
    (hsc : s.heap.get? a = some { cls := .type "list", data := .seq us.toArray }) (hints : IntsAre us ns) (hlen : ns.length ≤ sizeLine) (room : Room k callerA)
    (hF : ∀ base : Heap, FnG P w K mg base k fa fd [x] (spLaw K)) (hbind : ∀ (s : Shared) (u : Value), BindsTo s fd ⟨[u], []⟩ [(x, u)]) :
    codeAny (model P w) callerA (.call (.ref fa) ⟨[.ref a], []⟩) (fun r s' => r = .ok (.ret (.bool true)) ∧ OldK s.heap s'.heap ∧ s'.os = s.os ∧ AllBare s'.gens) s := by
  have vals := vals_ints hints
  have hus := hints.length
  let so : Obj := { cls := .type "list", data := .seq us.toArray }
  let H : Hp := scriptH K a so (ns.map V.int)
  have sq : SqL K H a (ns.map V.int) := by
    cases e : K.lookup a with
    | none => exact .inl (.inr ⟨so, if_pos ⟨rfl, e⟩⟩)
    | some o =>
      have e2 := hK a o e
      rw [hsc] at e2
      cases e2
      exact .inr ⟨_, us.toArray, _, e, rfl, rfl, rfl, by rw [List.size_toArray, hus]; exact hlen, by simpa using vals⟩
  have hok : HOk P w H s.heap := fun c u e => by
    obtain ⟨rfl, _, rfl⟩ := scriptH_some e
    exact ⟨hsc, by rw [List.length_map]; exact hlen, us, _, vals, hsc⟩
  have kIn : K.In (hidT s.heap H) := fun c o e => hidT_get (hK c o e) (scriptH_none fun z => by
    rw [← z, e]
    exact Option.some_ne_none _)
  have names : ∀ {c : Addr} {m : Str → Option Value}, s.heap.Ns c m → (hidT s.heap H).Ns c m := fun {c m} h => by
    obtain ⟨o, es, ep, e, d, r⟩ := h
    refine ⟨o, es, ep, hidT_get e ?_, d, r⟩
    cases q : H c with
    | none => rfl
    | some u =>
      obtain ⟨rfl, _, _⟩ := scriptH_some q
      rw [hsc] at e
      cases e
      cases d
  obtain ⟨ml, l1, l2⟩ := hlim
  have env : Env0 P w K mg (hidT s.heap H) callerA [] s H := {
    frames := rfl
    mod := ⟨kIn, names hgl, ⟨mb, names hbl, hboot⟩, ⟨ml, names l1, l2⟩⟩
    bs := fun c o e => of_hidT e
    bsz := by rw [hidT_size]; exact Nat.le_refl _
    funs := trivial
    frf := fun c hc => by cases hc
    hok := hok
    bare := .of_eq hgen }
  have run := (hF _).run callerA [] s H ⟨[.ref a], []⟩ [.ref a] [.ref a] (fun v _ => v = .bl true) room rfl env (hbind s (.ref a)) (.cons rfl .nil) ⟨a, ns, rfl, sq, fun _ => rfl⟩
  refine codeAny_mono run fun r s' h => ?_
  match r, h with
  | .ok (.ret u), h =>
    obtain ⟨v, H', h1, h2, h3, h4, h5, h6⟩ := h
    have h6' : v = .bl true := h6
    subst h6'
    have h5' : u = Value.bool true := h5
    subst h5'
    refine ⟨rfl, OldK.of_keep fun c o e => ?_, h1, h2⟩
    cases q : H c with
    | none => exact h3.keep c o e q (fun z => by cases z) (fun z => by cases z)
    | some u =>
      obtain ⟨rfl, _, rfl⟩ := scriptH_some q
      have z := (h4 _ _ (h3.frzs _ _ _ q)).1
      rw [hsc] at e
      cases e
      exact z
theorem walkG {l : PySem.W.OpenLaw} {n k : Nat} {q : Program} {loose : List Str} {XP : (Str → Option Value) → Heap → Prop} {YP : World → Heap → Prop} {d : DefRec} {K : Params → PySem.W.Frag} {x : Str} (hmost : l.most = some n) (hn : n ≤ sizeLine) (hdf : d.params.defaults = []) (room : Room k callerA)
    (hY : ∀ (w : World) (h : Heap), YP w h → (K w.params).In h)
    (hF : ∀ (w : World) (mg : Str → Option Value) (fa : Addr) (h : Heap), (K w.params).In h → h.Ns mainGlobals mg → mg d.name = some (.ref fa) → ∃ fd : FuncData, (∀ (s : Shared) (u : Value), BindsTo s fd ⟨[u], []⟩ [(x, u)]) ∧ ∀ base : Heap, FnG l.prog w (K w.params) mg base k fa fd [x] (spLaw (K w.params))) :
    PySem.W.WalkO q loose XP YP l.row.toRowW d [] (fun f vs => PySem.call f vs) := by
  refine Att.attach_call hmost hdf fun w s₀ s₁ mg mb fa o pm cd doc a us ns G Y ho hd hcd hmg hobj hints hlen hg => ?_
  obtain ⟨fd, hb, hf⟩ := hF w mg fa _ (hY w _ Y) G.T.g hmg
  exact law_codeG (hY w _ Y) G.T.g G.T.b G.T.builtins G.T.nolimit hg hobj hints (Nat.le_trans hlen hn) room hf hb
end Ev
set_option Elab.async false
set_option linter.all false
set_option autoImplicit false
/-! Ev26: plain reckoning: what a tree surely answers. -/
namespace Ev
open PySem M
theorem eqD_int (a b : Int) : eqD (.int a) (.int b) = some (decide (a = b)) := by
  unfold eqD eqDP
  simp only [D.py]
  rw [if_pos (by rfl)]
  by_cases h : a = b
  · subst h
    simp [PyData.eqv]
  · simp [PyData.eqv, h]
theorem ltD_int (a b : Int) : ltD (.int a) (.int b) = some (decide (a < b)) := by
  unfold ltD
  simp only [D.py]
  rw [if_pos (by rfl), PySem.W.dataLt_int]
/-- from every good bag the reckoning comes to an answer of which Q holds; the bag stays good -/
def Sure {α : Type} (x : M α) (Q : α → Prop) : Prop := ∀ g : Bag, g.okB = true → ∃ a g', x g = some (a, g') ∧ g'.okB = true ∧ Q a
section
variable {α β : Type} {x : M α} {f : α → M β} {P Q : α → Prop} {R : β → Prop}
theorem Sure.mono (h : Sure x P) (m : ∀ a, P a → Q a) : Sure x Q := fun g hg => by
  obtain ⟨a, g', e, k, p⟩ := h g hg
  exact ⟨a, g', e, k, m a p⟩
theorem sure_ret {a : α} (h : Q a) : Sure (ret a) Q := fun g hg => ⟨a, g, rfl, hg, h⟩
theorem sure_bnd (h : Sure x P) (k : ∀ a, P a → Sure (f a) R) : Sure (bnd x f) R := fun g hg => by
  obtain ⟨a, g', e, hg', p⟩ := h g hg
  obtain ⟨b, g2, e2, hg2, r⟩ := k a p g' hg'
  refine ⟨b, g2, ?_, hg2, r⟩
  unfold bnd
  rw [e]
  exact e2
theorem sure_guard {c : Bool} (hc : c = true) (h : Sure x Q) : Sure (guard c x) Q := by
  subst hc
  exact h
theorem sure_opt {o : Option α} {a : α} (e : o = some a) (h : Q a) : Sure (opt o) Q := by
  subst e
  exact sure_ret h
theorem sure_eq {y : M α} (e : x = y) (h : Sure y Q) : Sure x Q := e ▸ h
end
theorem okB_iff {d m c : Int} {cells : List Int} : (Bag.mk d m c cells).okB = true ↔ 0 ≤ d ∧ 0 ≤ m ∧ m < 2147483647 ∧ 0 ≤ c ∧ (∀ x ∈ cells, 0 ≤ x) ∧ cells.length ≤ 63 := by
  unfold Bag.okB
  simp only [Bool.and_eq_true, decide_eq_true_eq, List.all_eq_true]
  constructor
  · rintro ⟨⟨⟨⟨⟨h1, h2⟩, h3⟩, h4⟩, h5⟩, h6⟩
    exact ⟨h1, h2, h3, h4, h5, h6⟩
  · rintro ⟨h1, h2, h3, h4, h5, h6⟩
    exact ⟨⟨⟨⟨⟨h1, h2⟩, h3⟩, h4⟩, h5⟩, h6⟩
/-- the tree of the draw -/
def takeB : Ss :=
.cons (.ifs (.cmp .eq (.bget 0 0) (.con (.int 0)))
(.cons (.set 4 false (.con (.int 0))) <|
.cons (.ifs (.cmp .lt (.bget 0 2) (.blen 0))
(.cons (.set 4 false (.bcell 0)) .nil)
(.nil)) <|
.cons (.baug 0 2 1) <|
.cons (.ifs (.cmp .ge (.var 4) (.con (.int 1000000000000000000)))
(.cons (.bset 0 0 (.var 4)) .nil)
(.nil)) <|
.cons (.set 5 false (.bin .add (.bin .add (.bin .mul (.bget 0 1) (.con (.int 48271))) (.bin .mod (.blt .int (.var 4)) (.con (.int 2147483647)))) (.bin .mul (.con (.int 7919)) (.bget 0 2)))) <|
.cons (.bset 0 1 (.bin .mod (.blt .int (.var 5)) (.con (.int 2147483647)))) .nil)
(.nil)) <|
.cons (.ifs (.cmp .gt (.bget 0 0) (.con (.int 0)))
(.cons (.set 6 false (.bin .mod (.blt .int (.bget 0 0)) (.var 1))) <|
.cons (.bset 0 0 (.bin .fdiv (.bget 0 0) (.var 1))) <|
.cons (.ret (.var 6)) .nil)
(.nil)) <|
.cons (.set 2 false (.bin .mod (.blt .int (.bin .mul (.bin .add (.bget 0 1) (.con (.int 1))) (.con (.int 39373)))) (.con (.int 1000000007)))) <|
.cons (.set 3 false (.bin .mod (.blt .int (.bin .mul (.bin .mod (.blt .int (.bin .mul (.var 2) (.var 2))) (.con (.int 998244353))) (.con (.int 30011)))) (.con (.int 998244353)))) <|
.cons (.ifs (.cmp .gt (.var 1) (.con (.int 1000000)))
(.cons (.ret (.bin .mod (.blt .int (.bin .add (.bin .mul (.var 3) (.con (.int 1000000007))) (.var 2))) (.var 1))) .nil)
(.nil)) <|
.cons (.ret (.bin .mod (.blt .int (.bin .fdiv (.var 3) (.con (.int 7)))) (.var 1))) .nil
/-- a reckoning over the bag, run -/
theorem bnd_run {α β : Type} {x : M α} {f : α → M β} {g g1 : Bag} {a : α} (e : x g = some (a, g1)) : bnd x f g = f a g1 := by
  unfold bnd
  rw [e]
section
variable {C : Calls} {ρ : List Slot} {d m c : Int} {cells : List Int}
theorem run_bget0 (h : isBag 0 ρ = true) : evE C (.bget 0 0) ρ ⟨d, m, c, cells⟩ = some ((.int d, .clean), ⟨d, m, c, cells⟩) := by
  rw [evE, bgetM, h]
  rfl
theorem run_bget1 (h : isBag 0 ρ = true) : evE C (.bget 0 1) ρ ⟨d, m, c, cells⟩ = some ((.int m, .clean), ⟨d, m, c, cells⟩) := by
  rw [evE, bgetM, h]
  rfl
theorem run_bget2 (h : isBag 0 ρ = true) : evE C (.bget 0 2) ρ ⟨d, m, c, cells⟩ = some ((.int c, .clean), ⟨d, m, c, cells⟩) := by
  rw [evE, bgetM, h]
  rfl
end
theorem small_of {i : Int} (h1 : -(2 ^ 64) < i) (h2 : i < 2 ^ 64) : small i = true := by
  unfold small
  rw [decide_eq_true h1, decide_eq_true h2]
  rfl
/-- the last part of the draw: from the mixed number alone -/
def takeT : Ss :=
.cons (.set 2 false (.bin .mod (.blt .int (.bin .mul (.bin .add (.bget 0 1) (.con (.int 1))) (.con (.int 39373)))) (.con (.int 1000000007)))) <|
.cons (.set 3 false (.bin .mod (.blt .int (.bin .mul (.bin .mod (.blt .int (.bin .mul (.var 2) (.var 2))) (.con (.int 998244353))) (.con (.int 30011)))) (.con (.int 998244353)))) <|
.cons (.ifs (.cmp .gt (.var 1) (.con (.int 1000000)))
(.cons (.ret (.bin .mod (.blt .int (.bin .add (.bin .mul (.var 3) (.con (.int 1000000007))) (.var 2))) (.var 1))) .nil)
(.nil)) <|
.cons (.ret (.bin .mod (.blt .int (.bin .fdiv (.var 3) (.con (.int 7)))) (.var 1))) .nil
theorem take_tail {C : Calls} {n : Int} (h1 : 1 ≤ n) (s4 s5 s6 : Slot) {g : Bag} (hg : g.okB = true) : ∃ v, exSs C takeT [.val .bag, .val (.int n), .no, .no, s4, s5, s6] g = some (.rt (.int v) .clean, g) ∧ 0 ≤ v ∧ v < n := by
  obtain ⟨d, m, c, cells⟩ := g
  obtain ⟨_, hm, hm2, _, _, _⟩ := okB_iff.mp hg
  have e1 : small (m + 1) = true := small_of (by omega) (by omega)
  have b0 : (0 : Int) ≤ (m + 1) * 39373 % 1000000007 := Int.emod_nonneg _ (by decide)
  have b1 : (m + 1) * 39373 % 1000000007 < 1000000007 := Int.emod_lt_of_pos _ (by decide)
  generalize hb : (m + 1) * 39373 % 1000000007 = b at b0 b1
  have e2 : small b = true := small_of (by omega) (by omega)
  have c0 : (0 : Int) ≤ b * b % 998244353 := Int.emod_nonneg _ (by decide)
  have c1 : b * b % 998244353 < 998244353 := Int.emod_lt_of_pos _ (by decide)
  generalize hc : b * b % 998244353 = q at c0 c1
  have e3 : small q = true := small_of (by omega) (by omega)
  have d0 : (0 : Int) ≤ q * 30011 % 998244353 := Int.emod_nonneg _ (by decide)
  have d1 : q * 30011 % 998244353 < 998244353 := Int.emod_lt_of_pos _ (by decide)
  generalize hd : q * 30011 % 998244353 = r at d0 d1
  have e4 : small r = true := small_of (by omega) (by omega)
  have hn0 : 0 < n := by omega
  by_cases hn : 1000000 < n
  · refine ⟨(r * 1000000007 + b) % n, ?_, Int.emod_nonneg _ (by omega), Int.emod_lt_of_pos _ (by omega)⟩
    simp [takeT, exSs, exS, evE, evT, bgetM, isBag, Bag.get, M.bnd, M.ret, M.guard, M.opt, M.fail, binD, bltD, varM, e1, e2, e3, e4, hb, hc, hd, slotOf, Kd.ok, cmpD, ltD_int, hn, hn0, Kd.by, D.atom, Kd.out, Kd.nd]
  · refine ⟨r / 7 % n, ?_, Int.emod_nonneg _ (by omega), Int.emod_lt_of_pos _ (by omega)⟩
    simp [takeT, exSs, exS, evE, evT, bgetM, isBag, Bag.get, M.bnd, M.ret, M.guard, M.opt, M.fail, binD, bltD, varM, e1, e2, e3, e4, hb, hc, hd, slotOf, Kd.ok, cmpD, ltD_int, hn, hn0, Kd.by, D.atom, Kd.out, Kd.nd]
/-- the middle part: what is left of a great number is used up first -/
def takeM : Ss := .cons (.ifs (.cmp .gt (.bget 0 0) (.con (.int 0)))
(.cons (.set 6 false (.bin .mod (.blt .int (.bget 0 0)) (.var 1))) <|
.cons (.bset 0 0 (.bin .fdiv (.bget 0 0) (.var 1))) <|
.cons (.ret (.var 6)) .nil)
(.nil)) takeT
theorem take_mid {C : Calls} {n : Int} (h1 : 1 ≤ n) (h2 : n < 1073741824) (s4 s5 s6 : Slot) {g : Bag} (hg : g.okB = true) : ∃ v g', exSs C takeM [.val .bag, .val (.int n), .no, .no, s4, s5, s6] g = some (.rt (.int v) .clean, g') ∧ g'.okB = true ∧ 0 ≤ v ∧ v < n := by
  obtain ⟨d, m, c, cells⟩ := g
  obtain ⟨k1, k2, k3, k4, k5, k6⟩ := okB_iff.mp hg
  have hn0 : 0 < n := by omega
  by_cases hd : 0 < d
  · have ok : (Bag.mk (d / n) m c cells).okB = true := okB_iff.mpr ⟨Int.ediv_nonneg k1 (by omega), k2, k3, k4, k5, k6⟩
    refine ⟨d % n, ⟨d / n, m, c, cells⟩, ?_, ok, Int.emod_nonneg _ (by omega), Int.emod_lt_of_pos _ hn0⟩
    simp [takeM, exSs, exS, evE, evT, bgetM, bsetM, Bag.put, intM, isBag, Bag.get, M.bnd, M.ret, M.guard, M.opt, M.fail, binD, bltD, varM, ok, slotOf, Kd.ok, cmpD, ltD_int, hn0, h2, hd, Kd.by, D.atom, Kd.out, Kd.nd]
  · obtain ⟨v, e, e1, e2⟩ := take_tail (C := C) h1 s4 s5 s6 hg
    refine ⟨v, _, ?_, hg, e1, e2⟩
    simp [takeM, exSs, exS, evE, evT, bgetM, isBag, Bag.get, M.bnd, M.ret, M.guard, M.opt, M.fail, varM, cmpD, ltD_int, hd]
    exact e
theorem takeB_eq : takeB = .cons (.ifs (.cmp .eq (.bget 0 0) (.con (.int 0)))
(.cons (.set 4 false (.con (.int 0))) <|
.cons (.ifs (.cmp .lt (.bget 0 2) (.blen 0))
(.cons (.set 4 false (.bcell 0)) .nil)
(.nil)) <|
.cons (.baug 0 2 1) <|
.cons (.ifs (.cmp .ge (.var 4) (.con (.int 1000000000000000000)))
(.cons (.bset 0 0 (.var 4)) .nil)
(.nil)) <|
.cons (.set 5 false (.bin .add (.bin .add (.bin .mul (.bget 0 1) (.con (.int 48271))) (.bin .mod (.blt .int (.var 4)) (.con (.int 2147483647)))) (.bin .mul (.con (.int 7919)) (.bget 0 2)))) <|
.cons (.bset 0 1 (.bin .mod (.blt .int (.var 5)) (.con (.int 2147483647)))) .nil)
(.nil)) takeM := rfl
theorem sml7919 : small 7919 = true := by decide
theorem take_run {C : Calls} {n : Int} (h1 : 1 ≤ n) (h2 : n < 1073741824) : Sure (exSs C takeB [.val .bag, .val (.int n), .no, .no, .no, .no, .no]) fun l => ∃ v, l = .rt (.int v) .clean ∧ 0 ≤ v ∧ v < n := fun g hg => by
  rw [takeB_eq]
  obtain ⟨d, m, c, cells⟩ := g
  obtain ⟨k1, k2, k3, k4, k5, k6⟩ := okB_iff.mp hg
  by_cases hd : d = 0
  · subst hd
    -- the cell that is drawn
    have hcell : ∃ cell : Int, 0 ≤ cell ∧ ((c < (cells.length : Nat) ∧ L2.atI cells c = some cell) ∨ (¬ c < (cells.length : Nat) ∧ cell = 0)) := by
      by_cases h : c < (cells.length : Nat)
      · have hlt : c.toNat < cells.length := by omega
        have e : L2.atI cells c = some cells[c.toNat] := by
          have := L2.atI_nat (xs := cells) (j := c.toNat) (v := cells[c.toNat]) (List.getElem?_eq_getElem hlt)
          rw [show ((c.toNat : Nat) : Int) = c by omega] at this
          exact this
        exact ⟨_, k5 _ (List.getElem_mem hlt), .inl ⟨h, e⟩⟩
      · exact ⟨0, by decide, .inr ⟨h, rfl⟩⟩
    obtain ⟨cell, hc0, hcell⟩ := hcell
    have sm : small m = true := small_of (by omega) (by omega)
    have ok1 : (Bag.mk 0 m (c + 1) cells).okB = true := okB_iff.mpr ⟨by omega, k2, k3, by omega, k5, k6⟩
    have ok2 : (Bag.mk cell m (c + 1) cells).okB = true := okB_iff.mpr ⟨hc0, k2, k3, by omega, k5, k6⟩
    have okm : ∀ d' x : Int, 0 ≤ d' → (Bag.mk d' (x % 2147483647) (c + 1) cells).okB = true := fun d' x h => okB_iff.mpr ⟨h, Int.emod_nonneg _ (by decide), Int.emod_lt_of_pos _ (by decide), by omega, k5, k6⟩
    have big : ∃ d', 0 ≤ d' ∧ ((¬ cell < 1000000000000000000 ∧ d' = cell) ∨ (cell < 1000000000000000000 ∧ d' = 0)) := by
      by_cases h : cell < 1000000000000000000
      · exact ⟨0, by decide, .inr ⟨h, rfl⟩⟩
      · exact ⟨cell, hc0, .inl ⟨h, rfl⟩⟩
    obtain ⟨d', hd', hbig⟩ := big
    obtain ⟨v, g', e, e1, e2, e3⟩ := take_mid (C := C) h1 h2 (.val (.int cell)) (.val (.int (m * 48271 + cell % 2147483647 + 7919 * (c + 1)))) .no (okm d' (m * 48271 + cell % 2147483647 + 7919 * (c + 1)) hd')
    refine ⟨_, g', ?_, e1, v, rfl, e2, e3⟩
    rcases hcell with ⟨q1, q2⟩ | ⟨q1, rfl⟩
    · rcases hbig with ⟨q3, rfl⟩ | ⟨q3, rfl⟩
      · simp [exSs, exS, evE, evT, bgetM, bcellM, blenM, bsetM, Bag.put, intM, isBag, Bag.get, M.bnd, M.ret, M.guard, M.opt, M.fail, binD, bltD, varM, slotOf, Kd.ok, cmpD, ltD_int, eqD_int, Kd.by, D.atom, Kd.out, Kd.nd, q1, q3, sm, sml7919, ok1, ok2, okm, hd', q2]
        exact e
      · simp [exSs, exS, evE, evT, bgetM, bcellM, blenM, bsetM, Bag.put, intM, isBag, Bag.get, M.bnd, M.ret, M.guard, M.opt, M.fail, binD, bltD, varM, slotOf, Kd.ok, cmpD, ltD_int, eqD_int, Kd.by, D.atom, Kd.out, Kd.nd, q1, q3, sm, sml7919, ok1, ok2, okm, hd', q2]
        exact e
    · rcases hbig with ⟨q3, rfl⟩ | ⟨q3, rfl⟩
      · exact absurd (by decide) q3
      · simp [exSs, exS, evE, evT, bgetM, bcellM, blenM, bsetM, Bag.put, intM, isBag, Bag.get, M.bnd, M.ret, M.guard, M.opt, M.fail, binD, bltD, varM, slotOf, Kd.ok, cmpD, ltD_int, eqD_int, Kd.by, D.atom, Kd.out, Kd.nd, q1, q3, sm, sml7919, ok1, ok2, okm, hd']
        simpa using e
  · obtain ⟨v, g', e, e1, e2, e3⟩ := take_mid (C := C) h1 h2 .no .no .no hg
    refine ⟨_, g', ?_, e1, v, rfl, e2, e3⟩
    simp [exSs, exS, evE, evT, bgetM, isBag, Bag.get, M.bnd, M.ret, M.guard, M.opt, M.fail, cmpD, eqD_int, hd]
    exact e
end Ev
set_option Elab.async false
set_option linter.all false
set_option autoImplicit false
/-! Ev27: trees that can be compared and shown. -/
namespace Ev
open PySem M
/-- data of at most k levels, of a weight of at most n -/
structure FineP (k n : Nat) (y : PyData) : Prop where
  lay : y.canLay0 = true
  shn : y.intsShort 13 = true
  shw : y.showable = true
  dp : y.depth ≤ k
  wt : y.weight ≤ n
def Fine (k n : Nat) (d : D) : Prop := ∃ y, d.py = some y ∧ FineP k n y
theorem FineP.mono {k n k' n' : Nat} {y : PyData} (h : FineP k n y) (hk : k ≤ k') (hn : n ≤ n') : FineP k' n' y := ⟨h.lay, h.shn, h.shw, Nat.le_trans h.dp hk, Nat.le_trans h.wt hn⟩
theorem Fine.mono {k n k' n' : Nat} {d : D} (h : Fine k n d) (hk : k ≤ k') (hn : n ≤ n') : Fine k' n' d := by
  obtain ⟨y, e, f⟩ := h
  exact ⟨y, e, f.mono hk hn⟩
theorem fine_bl (b : Bool) : Fine 0 0 (.bl b) := ⟨.bool b, rfl, rfl, rfl, rfl, Nat.le_refl _, Nat.le_refl _⟩
theorem fine_non : Fine 0 0 .non := ⟨.none, rfl, rfl, rfl, rfl, Nat.le_refl _, Nat.le_refl _⟩
theorem fine_str {x : Str} {n : Nat} (h : PyData.strOk x = true) (hn : x.cps.size ≤ n) : Fine 0 n (.str x) := ⟨.str x, rfl, h, rfl, rfl, Nat.le_refl _, hn⟩
/-- the items of a row -/
theorem fine_all {k n : Nat} : ∀ {ds : List D}, (∀ d ∈ ds, Fine k n d) → ∃ ys, D.pys ds = some ys ∧ PyData.canLayAll0 ys = true ∧ PyData.intsShortAll 13 ys = true ∧ PyData.showableAll ys = true ∧ PyData.depthAll ys ≤ k ∧ PyData.weightAll ys ≤ ds.length * (n + 1)
  | [], _ => ⟨[], rfl, rfl, rfl, rfl, Nat.zero_le _, Nat.zero_le _⟩
  | d :: ds, h => by
    obtain ⟨y, e, f⟩ := h d (List.mem_cons_self ..)
    obtain ⟨ys, e2, f1, f2, f3, f4, f5⟩ := fine_all (ds := ds) fun d hd => h d (List.mem_cons_of_mem _ hd)
    refine ⟨y :: ys, ?_, ?_, ?_, ?_, ?_, ?_⟩
    · rw [D.pys, e, e2]
    · rw [PyData.canLayAll0, f.lay, f1]
      rfl
    · rw [PyData.intsShortAll, f.shn, f2]
      rfl
    · rw [PyData.showableAll, f.shw, f3]
      rfl
    · rw [PyData.depthAll]
      exact Nat.max_le.mpr ⟨f.dp, f4⟩
    · rw [PyData.weightAll, List.length_cons, Nat.succ_mul]
      have := f.wt
      omega
theorem fine_tup {k n m : Nat} {ds : List D} (h : ∀ d ∈ ds, Fine k n d) (hm : ds.length * (n + 1) ≤ m) : Fine (k + 1) m (.tup ds) := by
  obtain ⟨ys, e, f1, f2, f3, f4, f5⟩ := fine_all h
  refine ⟨.tuple ys, by rw [D.py, e]; rfl, ⟨?_, ?_, ?_, ?_, ?_⟩⟩
  · rw [PyData.canLay0]
    exact f1
  · rw [PyData.intsShort]
    exact f2
  · rw [PyData.showable]
    exact f3
  · rw [PyData.depth]
    omega
  · rw [PyData.weight]
    omega
theorem fine_lst {k n m : Nat} {ds : List D} (h : ∀ d ∈ ds, Fine k n d) (hm : ds.length * (n + 1) ≤ m) : Fine (k + 1) m (.lst ds) := by
  obtain ⟨ys, e, f1, f2, f3, f4, f5⟩ := fine_all h
  refine ⟨.list ys, by rw [D.py, e]; rfl, ⟨?_, ?_, ?_, ?_, ?_⟩⟩
  · rw [PyData.canLay0]
    exact f1
  · rw [PyData.intsShort]
    exact f2
  · rw [PyData.showable]
    exact f3
  · rw [PyData.depth]
    omega
  · rw [PyData.weight]
    omega
theorem FineP.shaped {k n : Nat} {y : PyData} (h : FineP k n y) (hk : k ≤ 64) : SeqAt.shaped y = true := by
  unfold SeqAt.shaped
  rw [h.lay, decide_eq_true (Nat.le_trans h.dp hk)]
  rfl
theorem eqD_str (x y : Str) : eqD (.str x) (.str y) = some (x == y) := rfl
theorem eqD_self {k n : Nat} {d : D} (h : Fine k n d) (hk : k ≤ 64) : eqD d d = some true := by
  obtain ⟨y, e, f⟩ := h
  unfold eqD
  split
  · simp
  unfold eqDP
  rw [e]
  simp only
  rw [if_pos (by rw [f.shaped hk]; rfl), SeqAt.eqv_refl y f.lay]
def isRow : D → Bool
  | .tup _ => true
  | .lst _ => true
  | _ => false
theorem repr_fine {k n : Nat} {d : D} (h : Fine k n d) (hk : k ≤ 64) (hn : n ≤ 2 ^ 20) (hr : isRow d = true) : ∃ x, bltD .repr d = some (.str x, .clean):= by
  obtain ⟨y, e, f⟩ := h
  have lay : PyData.layable0 y = true := by
    unfold PyData.layable0
    rw [f.lay, decide_eq_true (Nat.le_trans f.dp hk), decide_eq_true (Nat.le_trans f.wt hn)]
    rfl
  have len := PyProof.Rows.shown_le13 lay f.shn
  have sl := PySem.sizeLine_eq
  have ok : showOk y = true := by
    unfold showOk
    rw [f.shw, PyData.hasDict_of_canLay y f.lay, decide_eq_true (Nat.le_trans f.dp hk), decide_eq_true (show y.shown.length ≤ sizeLine by omega)]
    rfl
  refine ⟨y.shown, ?_⟩
  · cases d <;> first | (cases hr; done) | skip
    all_goals
      show (Option.bind _ fun y => if showOk y = true then some (D.str y.shown, Kd.clean) else none) = _
      rw [e]
      simp only [Option.bind_some, ok, if_true]
end Ev
set_option Elab.async false
set_option linter.all false
set_option autoImplicit false
/-! Ev28: rows of texts; comprehensions; calls. -/
namespace Ev
open PySem M
abbrev tD (xs : List Str) : D := .tup (xs.map .str)
abbrev tsD (ls : List (List Str)) : D := .lst (ls.map tD)
/-- what a def's end hands on -/
def outM : Fl → M (D × Kd)
  | .rt d kd => M.ret (d, kd)
  | .nx _ => M.ret (.non, .clean)
  | _ => fail
theorem defM_eq {np n : Nat} {body : Ss} {C : Calls} {ds : List D} (hl : ds.length = np) : defM (some ⟨np, n, body⟩) C ds = bnd (exSs C body (startS n ds)) outM := by
  unfold defM
  simp only [hl, decide_true, guard_true]
  rfl
theorem run_def {Γ : Fn → Option Fd} {k np n : Nat} {f : Str} {body : Ss} {ds : List D} (h : Γ (.f f) = some ⟨np, n, body⟩) (hl : ds.length = np) : runF Γ (k + 1) (.f f) ds = bnd (exSs (runF Γ k) body (startS n ds)) outM := by
  rw [runF, h, defM_eq hl]
theorem run_mth {Γ : Fn → Option Fd} {k np n c : Nat} {f : Str} {body : Ss} {ds : List D} (h : Γ (.m c f) = some ⟨np, n, body⟩) (hl : ds.length = np) : runF Γ (k + 1) (.m c f) ds = bnd (exSs (runF Γ k) body (startS n ds)) outM := by
  rw [runF, h, defM_eq hl]
theorem run_prp {Γ : Fn → Option Fd} {k np n c : Nat} {f : Str} {body : Ss} {ds : List D} (h : Γ (.m c f) = some ⟨np, n, body⟩) (hl : ds.length = np) : runF Γ (k + 2) (.p c f) ds = bnd (exSs (runF Γ k) body (startS n ds)) outM := by
  rw [runF, h, defM_eq hl]
theorem run_ini {Γ : Fn → Option Fd} {k np n c : Nat} {body : Ss} {ds : List D} (h : Γ (.m c "__init__") = some ⟨np, n, body⟩) (hl : ds.length + 1 = np) : runF Γ (k + 2) (.i c) ds = bnd (exSs (runF Γ k) body (startI n c ds)) madeM := by
  rw [runF, h]
  unfold initM
  simp only [hl, decide_true, guard_true]
/-- a comprehension over a row, each turn plain -/
theorem lcM_map {α : Type} (g : α → D) {f : D → M (Option (D × Bool))} (p : α → Bool) (h : α → D) : ∀ xs : List α, (∀ a ∈ xs, f (g a) = M.ret (if p a then some (h a, true) else none)) → lcM f (xs.map g) = M.ret ((xs.filter p).map h, true)
  | [], _ => rfl
  | a :: xs, hf => by
    rw [List.map_cons, lcM, hf a (List.mem_cons_self ..), ret_bnd, lcM_map g p h xs fun b hb => hf b (List.mem_cons_of_mem _ hb), ret_bnd]
    cases e : p a with
    | true => simp [e]
    | false => simp [e]
theorem lcM_all {α : Type} (g : α → D) {f : D → M (Option (D × Bool))} (h : α → D) (xs : List α) (hf : ∀ a ∈ xs, f (g a) = M.ret (some (h a, true))) : lcM f (xs.map g) = M.ret (xs.map h, true) := by
  have q := lcM_map g (f := f) (fun _ => true) h xs fun a ha => by rw [hf a ha]; rfl
  rw [q, List.filter_eq_self.mpr fun _ _ => rfl]
/-- a comprehension whose turns draw -/
theorem lcM_sure {α : Type} {f : D → M (Option (D × Bool))} {P : D → Prop} : ∀ xs : List D, (∀ x ∈ xs, Sure (f x) fun r => ∃ d, r = some (d, true) ∧ P d) → Sure (lcM f xs) fun q => q.2 = true ∧ q.1.length = xs.length ∧ ∀ d ∈ q.1, P d
  | [], _ => sure_ret ⟨rfl, rfl, fun _ h => nomatch h⟩
  | x :: xs, hf => by
    rw [lcM]
    refine sure_bnd (hf x (List.mem_cons_self ..)) fun r hr => ?_
    obtain ⟨d, rfl, hd⟩ := hr
    refine sure_bnd (lcM_sure (α := α) xs fun y hy => hf y (List.mem_cons_of_mem _ hy)) fun q hq => ?_
    obtain ⟨q1, q2, q3⟩ := hq
    refine sure_ret ⟨by simp [q1], by simp [q2], fun e he => ?_⟩
    rcases List.mem_cons.mp he with rfl | he
    · exact hd
    · exact q3 e he
theorem pys_strs : ∀ xs : List Str, D.pys (xs.map .str) = some (xs.map .str)
  | [] => rfl
  | x :: xs => by rw [List.map_cons, D.pys, pys_strs xs]; rfl
theorem py_tD (xs : List Str) : (tD xs).py = some (.tuple (xs.map .str)) := by rw [D.py, pys_strs]; rfl
theorem strs_map : ∀ xs : List Str, strsD (xs.map .str) = some xs
  | [] => rfl
  | x :: xs => by rw [List.map_cons, strsD, strs_map xs]; rfl
theorem bools_map : ∀ bs : List Bool, boolsD (bs.map .bl) = some bs
  | [] => rfl
  | b :: bs => by rw [List.map_cons, boolsD, bools_map bs]; rfl
theorem flat_strs (xs : List Str) : (xs.map D.str).all D.flat = true := List.all_eq_true.mpr fun d hd => by
  obtain ⟨x, _, rfl⟩ := List.mem_map.mp hd
  rfl
theorem inD_str (x : Str) (ys : List Str) : inD (.str x) (tD ys) = some (decide (x ∈ ys)) := by
  unfold inD
  simp only
  rw [if_pos (by rw [flat_strs]; rfl)]
  congr 1
  rw [Bool.eq_iff_iff, List.any_eq_true, decide_eq_true_eq]
  constructor
  · rintro ⟨d, hd, e⟩
    obtain ⟨y, hy, rfl⟩ := List.mem_map.mp hd
    have e' : (y == x) = true := e
    rw [← eq_of_beq e']
    exact hy
  · intro h
    exact ⟨.str x, List.mem_map_of_mem h, by show (x == x) = true; simp⟩
theorem truth_bl (b : Bool) : truth (.bl b) = some b := rfl
/-- one turn of a comprehension -/
def turnM (C : Calls) (g : Tg) (vs : List Nat) (c : Oe) (e : E) (ρ : List Slot) (x : D) : M (Option (D × Bool)) := match put (wipeS ρ vs) g x with
  | none => fail
  | some ρ' => bnd (evTo C c ρ') fun t => if t then bnd (evE C e ρ') fun p => M.ret (some (p.1, p.2.ok)) else M.ret none
theorem ev_lc {C : Calls} {g : Tg} {vs : List Nat} {it : It} {c : Oe} {e : E} {ρ : List Slot} (hw : (vs.all fun i => !isOwn ρ i) = true) : evE C (.lc g vs it c e) ρ = bnd (evIt C it true ρ) fun xs => bnd (lcM (turnM C g vs c e ρ) xs) fun q => M.ret (.lst q.1, if q.2 then .fresh else .dirty) := by
  rw [evE, hw]
  rfl
theorem ev_lcP {C : Calls} {g : Tg} {vs : List Nat} {it : It} {c : Oe} {e : E} {ρ : List Slot} {α : Type} (gm : α → D) (p : α → Bool) (h : α → D) (xs : List α) (hw : (vs.all fun i => !isOwn ρ i) = true) (hi : evIt C it true ρ = M.ret (xs.map gm))
    (ht : ∀ a ∈ xs, turnM C g vs c e ρ (gm a) = M.ret (if p a then some (h a, true) else none)) : evE C (.lc g vs it c e) ρ = M.ret (.lst ((xs.filter p).map h), .fresh) := by
  rw [ev_lc hw, hi, ret_bnd, lcM_map gm p h xs ht]
  rfl
theorem ev_lcA {C : Calls} {g : Tg} {vs : List Nat} {it : It} {c : Oe} {e : E} {ρ : List Slot} {α : Type} (gm : α → D) (h : α → D) (xs : List α) (hw : (vs.all fun i => !isOwn ρ i) = true) (hi : evIt C it true ρ = M.ret (xs.map gm))
    (ht : ∀ a ∈ xs, turnM C g vs c e ρ (gm a) = M.ret (some (h a, true))) : evE C (.lc g vs it c e) ρ = M.ret (.lst (xs.map h), .fresh) := by
  rw [ev_lc hw, hi, ret_bnd, lcM_all gm h xs ht]
  rfl
end Ev
set_option Elab.async false
set_option linter.all false
set_option autoImplicit false
/-! Ev29: lots in their order. -/
namespace Ev
open PySem M
def OkL (l : List Str) : Prop := ∀ x ∈ l, PyData.strOk x = true
def rk (l : List Str) : PyData := .tuple [.int (l.length : Nat), .tuple (l.map .str)]
theorem rank_rk (l : List Str) : (rankD (tD l)).py = some (rk l) := by
  unfold rankD rk
  simp only [D.py, D.pys, pys_strs, lenD, Option.map_some, Option.getD_some, List.length_map]
theorem pys_rk : ∀ ls : List (List Str), D.pys ((ls.map tD).map rankD) = some (ls.map rk)
  | [] => rfl
  | l :: ls => by
    rw [List.map_cons, List.map_cons, D.pys, rank_rk, pys_rk ls]
    rfl
theorem lay_strs : ∀ {l : List Str}, OkL l → PyData.canLayAll0 (l.map .str) = true
  | [], _ => rfl
  | x :: l, h => by
    rw [List.map_cons, PyData.canLayAll0, PyData.canLay0, h x (List.mem_cons_self ..), lay_strs fun y hy => h y (List.mem_cons_of_mem _ hy)]
    rfl
theorem depth_strs : ∀ l : List Str, PyData.depthAll (l.map .str) = 0
  | [] => rfl
  | x :: l => by
    rw [List.map_cons, PyData.depthAll, depth_strs l]
    rfl
theorem alike_strs : ∀ l m : List Str, PySem.W.alikeAll (l.map .str) (m.map .str) = true
  | [], _ => by rw [List.map_nil, PySem.W.alikeAll]
  | x :: l, [] => by rw [List.map_cons, List.map_nil, PySem.W.alikeAll]
  | x :: l, y :: m => by
    rw [List.map_cons, List.map_cons, PySem.W.alikeAll, alike_strs l m]
    rfl
theorem alike_rk (l m : List Str) : PySem.W.alike (rk l) (rk m) = true := by
  simp [rk, PySem.W.alike, PySem.W.alikeAll, alike_strs]
theorem shaped_rk {l : List Str} (h : OkL l) : SeqAt.shaped (rk l) = true := by
  have e1 : (rk l).canLay0 = true := by simp [rk, PyData.canLay0, PyData.canLayAll0, lay_strs h]
  have e2 : (rk l).depth ≤ 64 := by simp [rk, PyData.depth, PyData.depthAll, depth_strs]
  unfold SeqAt.shaped
  rw [e1, decide_eq_true e2]
  rfl
theorem sortOk_rk {ls : List (List Str)} (h : ∀ l ∈ ls, OkL l) : sortOk (ls.map rk) = true := by
  unfold sortOk
  rw [Bool.and_eq_true, Bool.or_eq_true]
  refine ⟨List.all_eq_true.mpr fun y hy => ?_, .inl (List.all_eq_true.mpr fun y hy => ?_)⟩
  · obtain ⟨l, hl, rfl⟩ := List.mem_map.mp hy
    rw [shaped_rk (h l hl), Bool.true_and]
    refine List.all_eq_true.mpr fun z hz => ?_
    obtain ⟨m, _, rfl⟩ := List.mem_map.mp hz
    exact alike_rk l m
  · obtain ⟨l, _, rfl⟩ := List.mem_map.mp hy
    rfl
/-- lots in their order -/
def sortL (ls : List (List Str)) : List (List Str) := ls.mergeSort fun l m => PySem.W.dataLe false (fun x => pyD (rankD x)) (tD l) (tD m)
theorem srtD_lots {ls : List (List Str)} (h : ∀ l ∈ ls, OkL l) : srtD (tsD ls) = some (tsD (sortL ls)) := by
  have ft : (ls.map tD).all flatTup = true := List.all_eq_true.mpr fun d hd => by
    obtain ⟨l, _, rfl⟩ := List.mem_map.mp hd
    exact flat_strs l
  show ((D.pys ((ls.map tD).map rankD)).bind fun ys => if (sortOk ys && (ls.map tD).all flatTup) = true then some (D.lst ((ls.map tD).mergeSort (PySem.W.dataLe false fun x => pyD (rankD x)))) else none) = _
  rw [pys_rk]
  simp only [Option.bind_some]
  rw [sortOk_rk h, ft]
  simp only [Bool.and_self, if_true]
  congr 2
  unfold sortL
  exact (List.map_mergeSort (f := tD) (s := PySem.W.dataLe false fun x => pyD (rankD x)) fun a _ c _ => rfl).symm
theorem sorted_pairs_lots {ls : List (List Str)} (h : ∀ l ∈ ls, OkL l) : bltD .sorted (.lst ((ls.map tD).map rankD)) = some (.lst (((sortL ls).map tD).map rankD), .fresh) := by
  show ((D.pys ((ls.map tD).map rankD)).bind fun ys => if sortOk ys = true then some (D.lst (((ls.map tD).map rankD).mergeSort (PySem.W.dataLe false pyD)), Kd.fresh) else none) = _
  rw [pys_rk]
  simp only [Option.bind_some]
  rw [sortOk_rk h]
  simp only [if_true]
  congr 3
  rw [List.map_map, List.map_map]
  unfold sortL
  exact (List.map_mergeSort (f := rankD ∘ tD) (s := PySem.W.dataLe false pyD) fun a _ c _ => rfl).symm
theorem sortL_mem {ls : List (List Str)} {l : List Str} : l ∈ sortL ls ↔ l ∈ ls := List.mem_mergeSort
theorem sortL_length (ls : List (List Str)) : (sortL ls).length = ls.length := List.length_mergeSort _
end Ev
set_option Elab.async false
set_option linter.all false
set_option autoImplicit false
/-! Ev30: loops. -/
namespace Ev
open PySem M
/-- a loop whose turns are plain -/
theorem forM_fold {α β : Type} (g : α → D) (st : β → List Slot) (step : β → α → β) {f : D → List Slot → M Fl} : ∀ (xs : List α) (b : β), (∀ b a, a ∈ xs → f (g a) (st b) = M.ret (.nx (st (step b a)))) → forM f (xs.map g) (st b) = M.ret (.nx (st (xs.foldl step b)))
  | [], b, _ => rfl
  | a :: xs, b, h => by
    rw [List.map_cons, forM, h b a (List.mem_cons_self ..), ret_bnd]
    exact forM_fold g st step xs (step b a) fun b a ha => h b a (List.mem_cons_of_mem _ ha)
/-- a loop whose turns draw, and go on -/
theorem forM_sure {f : D → List Slot → M Fl} {I : List Slot → Prop} : ∀ (xs : List D) (ρ : List Slot), I ρ → (∀ ρ x, x ∈ xs → I ρ → Sure (f x ρ) fun l => ∃ ρ', l = .nx ρ' ∧ I ρ') → Sure (forM f xs ρ) fun l => ∃ ρ', l = .nx ρ' ∧ I ρ'
  | [], ρ, h, _ => sure_ret ⟨ρ, rfl, h⟩
  | x :: xs, ρ, h, hf => by
    rw [forM]
    refine sure_bnd (hf ρ x (List.mem_cons_self ..) h) fun l hl => ?_
    obtain ⟨ρ', rfl, h'⟩ := hl
    exact forM_sure xs ρ' h' fun ρ y hy => hf ρ y (List.mem_cons_of_mem _ hy)
/-- all lots of some marks, as they come -/
def grow (ms : List Str) : List (List Str) := ms.foldl (fun f m => f ++ f.map (· ++ [m])) [[]]
theorem grow_length (ms : List Str) (f : List (List Str)) : (ms.foldl (fun f m => f ++ f.map (· ++ [m])) f).length = f.length * 2 ^ ms.length := by
  induction ms generalizing f with
  | nil => simp
  | cons m ms ih =>
    rw [List.foldl_cons, ih, List.length_append, List.length_map, List.length_cons, Nat.pow_succ]
    rw [← Nat.two_mul, Nat.mul_comm 2, Nat.mul_assoc, Nat.mul_comm 2]
theorem grow_mem {P : Str → Prop} (ms : List Str) (f : List (List Str)) (hf : ∀ l ∈ f, ∀ x ∈ l, P x) (hm : ∀ x ∈ ms, P x) : ∀ l ∈ ms.foldl (fun f m => f ++ f.map (· ++ [m])) f, ∀ x ∈ l, P x := by
  induction ms generalizing f with
  | nil => exact hf
  | cons m ms ih =>
    refine ih _ (fun l hl x hx => ?_) fun x hx => hm x (List.mem_cons_of_mem _ hx)
    rcases List.mem_append.mp hl with hl | hl
    · exact hf l hl x hx
    · obtain ⟨l', hl', rfl⟩ := List.mem_map.mp hl
      rcases List.mem_append.mp hx with hx | hx
      · exact hf l' hl' x hx
      · rw [List.mem_singleton.mp hx]
        exact hm m (List.mem_cons_self ..)
end Ev
set_option Elab.async false
set_option linter.all false
set_option autoImplicit false
/-! Ev31: the evaluator's equations, for simp (all but the comprehension's); defs that are there. -/
namespace Ev
open PySem M
/-- the def x is there, by this tree -/
class Has (Γ : Fn → Option Fd) (x : Str) (fd : Fd) : Prop where
  h : Γ (.f x) = some fd
theorem run_has {Γ : Fn → Option Fd} {k np n : Nat} {f : Str} {body : Ss} {ds : List D} [hh : Has Γ f ⟨np, n, body⟩] (hl : ds.length = np) : runF Γ (k + 1) (.f f) ds = bnd (exSs (runF Γ k) body (startS n ds)) outM := run_def hh.h hl
class HasM (Γ : Fn → Option Fd) (c : Nat) (x : Str) (fd : Fd) : Prop where
  h : Γ (.m c x) = some fd
theorem run_hasM {Γ : Fn → Option Fd} {k np n c : Nat} {f : Str} {body : Ss} {ds : List D} [hh : HasM Γ c f ⟨np, n, body⟩] (hl : ds.length = np) : runF Γ (k + 1) (.m c f) ds = bnd (exSs (runF Γ k) body (startS n ds)) outM := run_mth hh.h hl
theorem run_hasP {Γ : Fn → Option Fd} {k np n c : Nat} {f : Str} {body : Ss} {ds : List D} [hh : HasM Γ c f ⟨np, n, body⟩] (hl : ds.length = np) : runF Γ (k + 2) (.p c f) ds = bnd (exSs (runF Γ k) body (startS n ds)) outM := run_prp hh.h hl
theorem run_hasI {Γ : Fn → Option Fd} {k np n c : Nat} {body : Ss} {ds : List D} [hh : HasM Γ c "__init__" ⟨np, n, body⟩] (hl : ds.length + 1 = np) : runF Γ (k + 2) (.i c) ds = bnd (exSs (runF Γ k) body (startI n c ds)) madeM := run_ini hh.h hl
section
variable {C : Calls} {ρ : List Slot}
@[simp] theorem ev_glob {x : Str} {d : D} : evE C (.glob x d) ρ = ret (d, .clean) := by rw [evE]
@[simp] theorem ev_fld {e : E} {x : Str} {tab : List (Nat × Option Nat)} : evE C (.fld e x tab) ρ = bnd (evE C e ρ) fun p => fldM C x tab p := by rw [evE]
@[simp] theorem ev_meth {e : E} {m : Str} {cs : List Nat} {as : Es} : evE C (.meth e m cs as) ρ = bnd (evE C e ρ) fun p => bnd (evEs C as ρ) fun q => methM C m cs p q := by rw [evE]
@[simp] theorem ev_mk {c : Nat} {as : Es} : evE C (.mk c as) ρ = bnd (evEs C as ρ) fun q => bnd (C (.i c) q.1) fun r => ret (r.1, r.2.by r.1 q.2) := by rw [evE]
@[simp] theorem ev_isi {e : E} {ts : List Ty} : evE C (.isi e ts) ρ = bnd (evE C e ρ) fun p => bnd (opt (isiD ts p.1)) fun t => ret (.bl t, .clean) := by rw [evE]
@[simp] theorem evT_meth {e : E} {m : Str} {cs : List Nat} {as : Es} : evT C (.meth e m cs as) ρ = bnd (evE C e ρ) fun p => bnd (evEs C as ρ) fun q => bnd (methM C m cs p q) fun r => opt (truth r.1) := by rw [evT]
@[simp] theorem evT_fld {e : E} {x : Str} {tab : List (Nat × Option Nat)} : evT C (.fld e x tab) ρ = bnd (evE C e ρ) fun p => bnd (fldM C x tab p) fun r => opt (truth r.1) := by rw [evT]
@[simp] theorem evT_isi {e : E} {ts : List Ty} : evT C (.isi e ts) ρ = bnd (evE C e ρ) fun p => opt (isiD ts p.1) := by rw [evT]
@[simp] theorem ev_app {e : E} {cs : List Nat} {as : Es} : evE C (.app e cs as) ρ = bnd (evE C e ρ) fun p => bnd (evEs C as ρ) fun q => appM C cs p q := by rw [evE]
@[simp] theorem evT_app {e : E} {cs : List Nat} {as : Es} : evT C (.app e cs as) ρ = bnd (evE C e ρ) fun p => bnd (evEs C as ρ) fun q => bnd (appM C cs p q) fun r => opt (truth r.1) := by rw [evT]
@[simp] theorem ev_isc {e : E} {c : Nat} : evE C (.isc e c) ρ = bnd (evE C e ρ) fun p => bnd (opt (iscD c p.1)) fun t => ret (.bl t, .clean) := by rw [evE]
@[simp] theorem evT_isc {e : E} {c : Nat} : evT C (.isc e c) ρ = bnd (evE C e ρ) fun p => opt (iscD c p.1) := by rw [evT]
@[simp] theorem ex_set3 {i j l : Nat} {oi oj ol : Bool} {a b c : E} : exS C (.set3 i j l oi oj ol a b c) ρ = bnd (evE C a ρ) fun p => bnd (evE C b ρ) fun q => bnd (evE C c ρ) fun r => bnd (slotOf oi p) fun s => bnd (slotOf oj q) fun t => bnd (slotOf ol r) fun u => ret (.nx (((ρ.set i s).set j t).set l u)) := by rw [exS]
@[simp] theorem ex_aug {i : Nat} {neg : Bool} {e : E} : exS C (.aug i neg e) ρ = bnd (varM i ρ) fun q => bnd (intM q.1) fun x => bnd (evE C e ρ) fun p => bnd (intM p.1) fun y => ret (.nx (ρ.set i (.val (.int (if neg then x - y else x + y))))) := by rw [exS]
@[simp] theorem ev_lidx {a b : E} : evE C (.lidx a b) ρ = bnd (evE C a ρ) fun p => bnd (evE C b ρ) fun q => bnd (opt (lidxD p.1 q.1)) fun i => ret (.int i, .clean) := by rw [evE]
@[simp] theorem ev_dlen {e : E} {cs : List Nat} : evE C (.dlen e cs) ρ = bnd (evE C e ρ) fun p => dlenM C cs p := by rw [evE]
@[simp] theorem evT_dlen {e : E} {cs : List Nat} : evT C (.dlen e cs) ρ = bnd (evE C e ρ) fun p => bnd (dlenM C cs p) fun r => opt (truth r.1) := by rw [evT]
@[simp] theorem ev_dun {o : Dop} {a b : E} {cs : List Nat} : evE C (.dun o a b cs) ρ = bnd (evE C a ρ) fun p => bnd (evE C b ρ) fun q => dunM C cs o p q := by rw [evE]
@[simp] theorem evT_dun {o : Dop} {a b : E} {cs : List Nat} : evT C (.dun o a b cs) ρ = bnd (evE C a ρ) fun p => bnd (evE C b ρ) fun q => dunT C cs o p q := by rw [evT]
@[simp] theorem dunM_isin {cs : List Nat} {p q : D × Kd} : dunM C cs .isin p q = bnd (dinM C cs false p q) fun t => ret (.bl t, .clean) := by unfold dunM; rfl
@[simp] theorem dunM_notin {cs : List Nat} {p q : D × Kd} : dunM C cs .notin p q = bnd (dinM C cs true p q) fun t => ret (.bl t, .clean) := by unfold dunM; rfl
@[simp] theorem dunM_eq {cs : List Nat} {p q : D × Kd} : dunM C cs .eq p q = bnd (deqM C cs p q) fun t => ret (.bl t, .clean) := by unfold dunM; rfl
@[simp] theorem dunM_add {cs : List Nat} {p q : D × Kd} : dunM C cs .add p q = daddM C cs p q := by unfold dunM; rfl
@[simp] theorem dunM_bor {cs : List Nat} {p q : D × Kd} : dunM C cs .bor p q = dorM C cs p q := by unfold dunM; rfl
@[simp] theorem dunM_item {cs : List Nat} {p q : D × Kd} : dunM C cs .item p q = didxM C cs p q := by unfold dunM; rfl
@[simp] theorem dunT_isin {cs : List Nat} {p q : D × Kd} : dunT C cs .isin p q = dinM C cs false p q := by unfold dunT; rfl
@[simp] theorem dunT_notin {cs : List Nat} {p q : D × Kd} : dunT C cs .notin p q = dinM C cs true p q := by unfold dunT; rfl
@[simp] theorem dunT_eq {cs : List Nat} {p q : D × Kd} : dunT C cs .eq p q = deqM C cs p q := by unfold dunT; rfl
@[simp] theorem dunT_item {cs : List Nat} {p q : D × Kd} : dunT C cs .item p q = bnd (didxM C cs p q) fun r => opt (truth r.1) := by unfold dunT; rfl
section
variable {cs : List Nat} {c : Nat} {fs fs' : List D} {k l : Kd} {d : D}
theorem app_at {q : List D × Bool} (h : cs.contains c = true) : appM C cs (.ins c fs, k) q = bnd (C (.m c "__call__") (.ins c fs :: q.1)) fun r => ret (r.1, r.2.by r.1 (k.ok && q.2)) := by
  unfold appM
  simp only [h, guard_true]
theorem dlen_at (h : cs.contains c = true) : dlenM C cs (.ins c fs, k) = bnd (C (.p c "__len__") [.ins c fs]) fun r => bnd (intM r.1) fun n => guard (decide (0 ≤ n) && decide (n < 2 ^ 62)) (ret (.int n, .clean)) := by
  unfold dlenM
  simp only [h, guard_true]
theorem din_at {neg : Bool} (h : cs.contains c = true) : dinM C cs neg (d, l) (.ins c fs, k) = bnd (C (.m c "__contains__") [.ins c fs, d]) fun r => bnd (boolM r.1) fun t => ret (neg != t) := by
  unfold dinM
  simp only [h, guard_true]
theorem deq_at (h : cs.contains c = true) : deqM C cs (.ins c fs, k) (.ins c fs', l) = bnd (C (.m c "__eq__") [.ins c fs, .ins c fs']) fun r => boolM r.1 := by
  unfold deqM
  simp only [h, decide_true, Bool.and_self, guard_true]
theorem dadd_at {xs : List D} (h : cs.contains c = true) : daddM C cs (.ins c fs, k) (.tup xs, l) = bnd (C (.m c "__add__") [.ins c fs, .tup xs]) fun r => ret (r.1, r.2.by r.1 (k.ok && l.ok)) := by
  unfold daddM
  simp only [h, guard_true]
theorem dor_at (h : cs.contains c = true) : dorM C cs (.ins c fs, k) (.ins c fs', l) = bnd (C (.m c "__or__") [.ins c fs, .ins c fs']) fun r => ret (r.1, r.2.by r.1 (k.ok && l.ok)) := by
  unfold dorM
  simp only [h, decide_true, Bool.and_self, guard_true]
theorem didx_at (h : cs.contains c = true) : didxM C cs (.ins c fs, k) (d, l) = bnd (C (.p c "__getitem__") [.ins c fs, d]) fun r => ret (r.1, r.2.by r.1 (k.ok && l.ok)) := by
  unfold didxM
  simp only [h, guard_true]
end
theorem ex_frz {i : Nat} {r : Ss} {d : D} (h : ρ[i]? = some (.own d)) : exSs C (.frz i r) ρ = exSs C r (ρ.set i (.val d)) := by
  rw [exSs, h]
theorem fld_at {x : Str} {tab : List (Nat × Option Nat)} {c j : Nat} {fs : List D} {d : D} {k : Kd} (h : tab.lookup c = some (some j)) (e : fs[j]? = some d) : fldM C x tab (.ins c fs, k) = ret (d, Kd.clean.by d k.nd) := by
  unfold fldM
  simp only [h, e, opt_some, ret_bnd]
theorem fld_prp {x : Str} {tab : List (Nat × Option Nat)} {c : Nat} {fs : List D} {k : Kd} (h : tab.lookup c = some none) : fldM C x tab (.ins c fs, k) = bnd (C (.p c x) [.ins c fs]) fun r => ret (r.1, r.2.by r.1 k.ok) := by
  unfold fldM
  simp only [h]
theorem meth_at {m : Str} {cs : List Nat} {c : Nat} {fs : List D} {k : Kd} {q : List D × Bool} (h : cs.contains c = true) : methM C m cs (.ins c fs, k) q = bnd (C (.m c m) (.ins c fs :: q.1)) fun r => ret (r.1, r.2.by r.1 (k.ok && q.2)) := by
  unfold methM
  simp only [h, guard_true]
@[simp] theorem ex_fset {i c j : Nat} {x : Str} {e : E} : exS C (.fset i x c j e) ρ = bnd (evE C e ρ) fun p => guard p.2.ok (fsetM ρ i c j p.1) := by rw [exS]
@[simp] theorem ex_lput {i : Nat} {ix e : E} : exS C (.lput i ix e) ρ = bnd (evE C e ρ) fun p => bnd (evE C ix ρ) fun q => bnd (intM q.1) fun n => guard p.2.ok (lputM ρ i n p.1) := by rw [exS]
@[simp] theorem ex_never : exS C .never ρ = fail := by rw [exS]
theorem fset_at {i c j : Nat} {fs : List D} {d : D} (h : ρ[i]? = some (.own (.ins c fs))) (hl : fs.length = j) : fsetM ρ i c j d = ret (.nx (ρ.set i (.own (.ins c (fs ++ [d]))))) := by
  unfold fsetM
  simp [h, hl]
theorem lput_at {i j : Nat} {n : Int} {xs : List D} {d : D} (h : ρ[i]? = some (.own (.lst xs))) (hj : L2.ixN xs.length n = some j) : lputM ρ i n d = ret (.nx (ρ.set i (.own (.lst (xs.set j d))))) := by
  unfold lputM
  simp [h, hj]
@[simp] theorem ev_rev {e : E} : evE C (.rev e) ρ = bnd (evE C e ρ) fun p => bnd (opt (revD p.1)) fun r => ret (r, Kd.fresh.by r p.2.nd) := by rw [evE]
@[simp] theorem ev_sliB {a lo hi : E} : evE C (.sli a (.yes lo) (.yes hi)) ρ = bnd (evE C a ρ) fun p => bnd (evE C lo ρ) fun q => bnd (evE C hi ρ) fun r => bnd (intM q.1) fun i => bnd (intM r.1) fun j => bnd (opt (sliD p.1 (some i) (some j))) fun r => ret (r.1, r.2.by r.1 p.2.nd) := by
  rw [evE, evOe, evOe]
  simp only [bnd_bnd, ret_bnd]
  congr 1
  funext p
  congr 1
  funext q
  congr 1
  funext r
  cases q.1 <;> cases r.1 <;> simp [intM]
def zipM : D → D → M (List D)
  | .tup xs, .tup ys => ret (zipD xs ys)
  | _, _ => fail
@[simp] theorem zipM_tup {xs ys : List D} : zipM (.tup xs) (.tup ys) = ret (zipD xs ys) := by rw [zipM]
@[simp] theorem evIt_zip {a b : E} {o : Bool} : evIt C (.zip a b) o ρ = bnd (evE C a ρ) fun p => bnd (evE C b ρ) fun q => guard (p.2.ok && q.2.ok) (zipM p.1 q.1) := by
  rw [evIt]
  have e : ∀ x y : D, (match x, y with
    | .tup xs, .tup ys => (ret (zipD xs ys) : M (List D))
    | _, _ => fail) = zipM x y := fun x y => by cases x <;> cases y <;> rfl
  first | rfl | (simp only [e]) | (congr 1; funext p; congr 1; funext q; rw [← e])
@[simp] theorem rev_lst {xs : List D} : revD (.lst xs) = some (.lst xs.reverse) := rfl
@[simp] theorem ev_con {d : D} : evE C (.con d) ρ = ret (d, .clean) := by rw [evE]
@[simp] theorem ev_var {i : Nat} : evE C (.var i) ρ = varM i ρ := by rw [evE]
@[simp] theorem ev_tup {es : Es} : evE C (.tup es) ρ = bnd (evEs C es ρ) fun q => guard (decide (q.1.length ≤ sizeLine)) (ret (.tup q.1, if q.2 then .clean else .dirty)) := by rw [evE]
@[simp] theorem ev_lst {es : Es} : evE C (.lst es) ρ = bnd (evEs C es ρ) fun q => guard (decide (q.1.length ≤ sizeLine)) (ret (.lst q.1, if q.2 then .fresh else .dirty)) := by rw [evE]
@[simp] theorem ev_and {a b : E} : evE C (.and a b) ρ = bnd (evE C a ρ) fun p => bnd (boolM p.1) fun t => if t then evE C b ρ else ret (.bl false, .clean) := by rw [evE]
@[simp] theorem ev_or {a b : E} : evE C (.or a b) ρ = bnd (evE C a ρ) fun p => bnd (boolM p.1) fun t => if t then ret (.bl true, .clean) else evE C b ρ := by rw [evE]
@[simp] theorem ev_not {a : E} : evE C (.not a) ρ = bnd (evE C a ρ) fun p => bnd (boolM p.1) fun t => ret (.bl (!t), .clean) := by rw [evE]
@[simp] theorem ev_ite {c a b : E} : evE C (.ite c a b) ρ = bnd (evT C c ρ) fun t => if t then evE C a ρ else evE C b ρ := by rw [evE]
@[simp] theorem ev_cmp {op : Cop} {a b : E} : evE C (.cmp op a b) ρ = bnd (evE C a ρ) fun p => bnd (evE C b ρ) fun q => bnd (opt (cmpD op p.1 q.1)) fun t => ret (.bl t, .clean) := by rw [evE]
@[simp] theorem ev_chain {op op' : Cop} {a b c : E} : evE C (.chain op op' a b c) ρ = bnd (evE C a ρ) fun p => bnd (evE C b ρ) fun q => bnd (opt (cmpD op p.1 q.1)) fun t =>
      if t then bnd (evE C c ρ) fun r => bnd (opt (cmpD op' q.1 r.1)) fun u => ret (.bl u, .clean) else ret (.bl false, .clean) := by rw [evE]
@[simp] theorem ev_bin {op : Bop} {a b : E} : evE C (.bin op a b) ρ = bnd (evE C a ρ) fun p => bnd (evE C b ρ) fun q => bnd (opt (binD op p.1 q.1)) fun r => ret (r.1, r.2.by r.1 (p.2.nd && q.2.nd)) := by rw [evE]
@[simp] theorem ev_neg {a : E} : evE C (.neg a) ρ = bnd (evE C a ρ) fun p => bnd (intM p.1) fun i => ret (.int (-i), .clean) := by rw [evE]
@[simp] theorem ev_idx {a i : E} : evE C (.idx a i) ρ = bnd (evE C a ρ) fun p => bnd (evE C i ρ) fun q => bnd (opt (idxD p.1 q.1)) fun r => ret (r, Kd.clean.by r p.2.nd) := by rw [evE]
@[simp] theorem ev_sliL {a lo : E} : evE C (.sli a (.yes lo) .no) ρ = bnd (evE C a ρ) fun p => bnd (evE C lo ρ) fun q => bnd (intM q.1) fun i => bnd (opt (sliD p.1 (some i) none)) fun r => ret (r.1, r.2.by r.1 p.2.nd) := by
  rw [evE, evOe, evOe]
  simp only [bnd_bnd, ret_bnd]
  congr 1
  funext p
  congr 1
  funext q
  cases q.1 <;> rfl
@[simp] theorem ev_sliR {a hi : E} : evE C (.sli a .no (.yes hi)) ρ = bnd (evE C a ρ) fun p => bnd (evE C hi ρ) fun q => bnd (intM q.1) fun i => bnd (opt (sliD p.1 none (some i))) fun r => ret (r.1, r.2.by r.1 p.2.nd) := by
  rw [evE, evOe, evOe]
  simp only [bnd_bnd, ret_bnd]
  congr 1
  funext p
  congr 1
  funext q
  cases q.1 <;> rfl
@[simp] theorem ev_call {f : Str} {as : Es} : evE C (.call f as) ρ = bnd (evEs C as ρ) fun q => bnd (C (.f f) q.1) fun r => ret (r.1, r.2.by r.1 q.2) := by rw [evE]
@[simp] theorem ev_blt {f : Blt} {a : E} : evE C (.blt f a) ρ = bnd (evE C a ρ) fun p => bnd (opt (bltD f p.1)) fun r => ret (r.1, r.2.by r.1 p.2.nd) := by rw [evE]
@[simp] theorem ev_srt {f : Str} {a : E} : evE C (.srt f a) ρ = bnd (evE C a ρ) fun p => bnd (opt (srtD p.1)) fun r => ret (r, Kd.fresh.by r p.2.nd) := by rw [evE]
@[simp] theorem ev_split {a b : E} : evE C (.split a b) ρ = bnd (evE C a ρ) fun p => bnd (evE C b ρ) fun q => bnd (opt (splitD p.1 q.1)) fun r => ret (r, .fresh) := by rw [evE]
@[simp] theorem evT_and {a b : E} : evT C (.and a b) ρ = bnd (evT C a ρ) fun t => if t then evT C b ρ else ret false := by rw [evT]
@[simp] theorem evT_or {a b : E} : evT C (.or a b) ρ = bnd (evT C a ρ) fun t => if t then ret true else evT C b ρ := by rw [evT]
@[simp] theorem evT_not {a : E} : evT C (.not a) ρ = bnd (evT C a ρ) fun t => ret (!t) := by rw [evT]
@[simp] theorem evT_cmp {op : Cop} {a b : E} : evT C (.cmp op a b) ρ = bnd (evE C a ρ) fun p => bnd (evE C b ρ) fun q => opt (cmpD op p.1 q.1) := by rw [evT]
@[simp] theorem evT_chain {op op' : Cop} {a b c : E} : evT C (.chain op op' a b c) ρ = bnd (evE C a ρ) fun p => bnd (evE C b ρ) fun q => bnd (opt (cmpD op p.1 q.1)) fun t =>
      if t then bnd (evE C c ρ) fun r => opt (cmpD op' q.1 r.1) else ret false := by rw [evT]
@[simp] theorem evT_con {d : D} : evT C (.con d) ρ = opt (truth d) := by rw [evT]
@[simp] theorem evT_var {i : Nat} : evT C (.var i) ρ = bnd (varM i ρ) fun p => opt (truth p.1) := by rw [evT]
@[simp] theorem evT_call {f : Str} {as : Es} : evT C (.call f as) ρ = bnd (evEs C as ρ) fun q => bnd (C (.f f) q.1) fun r => opt (truth r.1) := by rw [evT]
@[simp] theorem evT_blt {f : Blt} {a : E} : evT C (.blt f a) ρ = bnd (evE C a ρ) fun p => bnd (opt (bltD f p.1)) fun r => opt (truth r.1) := by rw [evT]
@[simp] theorem evT_idx {a i : E} : evT C (.idx a i) ρ = bnd (evE C a ρ) fun p => bnd (evE C i ρ) fun q => bnd (opt (idxD p.1 q.1)) fun r => opt (truth r) := by rw [evT]
@[simp] theorem evTo_no : evTo C .no ρ = ret true := by rw [evTo]
@[simp] theorem evTo_yes {e : E} : evTo C (.yes e) ρ = evT C e ρ := by rw [evTo]
@[simp] theorem evEs_nil : evEs C .nil ρ = ret ([], true) := by rw [evEs]
@[simp] theorem evEs_cons {e : E} {r : Es} : evEs C (.cons e r) ρ = bnd (evE C e ρ) fun p => bnd (evEs C r ρ) fun q => ret (p.1 :: q.1, p.2.ok && q.2) := by rw [evEs]
/-- what a starred item brings -/
def starM : D → M (List D)
  | .tup xs => ret xs
  | .lst xs => ret xs
  | _ => fail
@[simp] theorem starM_tup {xs : List D} : starM (.tup xs) = ret xs := by rw [starM]
@[simp] theorem starM_lst {xs : List D} : starM (.lst xs) = ret xs := by rw [starM]
@[simp] theorem evEs_star {e : E} {r : Es} : evEs C (.star e r) ρ = bnd (evE C e ρ) fun p => bnd (starM p.1) fun xs => bnd (evEs C r ρ) fun q => ret (xs ++ q.1, p.2.nd && q.2) := by
  rw [evEs]
  congr 1
  funext p
  cases p.1 <;> rfl
@[simp] theorem evIt_seq {e : E} {o : Bool} : evIt C (.seq e) o ρ = bnd (evE C e ρ) fun p => guard (p.2.ok || (o && p.2.nd)) (opt (seqD p.1)) := by rw [evIt]
@[simp] theorem evIt_rng {e : E} {o : Bool} : evIt C (.rng e) o ρ = bnd (evE C e ρ) fun p => bnd (intM p.1) fun j => guard (line62 j && decide (j ≤ sizeLine)) (ret (rngD 0 j.toNat)) := by rw [evIt]
@[simp] theorem evIt_rng2 {a b : E} {o : Bool} : evIt C (.rng2 a b) o ρ = bnd (evE C a ρ) fun p => bnd (evE C b ρ) fun q => bnd (intM p.1) fun i => bnd (intM q.1) fun j =>
      guard (line62 i && line62 j && decide (j - i ≤ sizeLine)) (ret (rngD i (j - i).toNat)) := by rw [evIt]
def lstM : D → M (List D)
  | .lst xs => ret xs
  | _ => fail
@[simp] theorem lstM_lst {xs : List D} : lstM (.lst xs) = ret xs := by rw [lstM]
@[simp] theorem evIt_enm {e : E} {o : Bool} : evIt C (.enm e) o ρ = bnd (evE C e ρ) fun p => guard (p.2.ok || (o && p.2.nd)) (bnd (lstM p.1) fun xs => ret (enmD 0 xs)) := by
  rw [evIt]
  congr 1
  funext p
  cases p.1 <;> rfl
@[simp] theorem ex_set {i : Nat} {own : Bool} {e : E} : exS C (.set i own e) ρ = bnd (evE C e ρ) fun p => bnd (slotOf own p) fun s => ret (.nx (ρ.set i s)) := by rw [exS]
@[simp] theorem ex_set2 {i j : Nat} {oi oj : Bool} {a b : E} : exS C (.set2 i j oi oj a b) ρ = bnd (evE C a ρ) fun p => bnd (evE C b ρ) fun q => bnd (slotOf oi p) fun s => bnd (slotOf oj q) fun t => ret (.nx ((ρ.set i s).set j t)) := by rw [exS]
@[simp] theorem ex_unp {is : List Nat} {e : E} : exS C (.unp is e) ρ = bnd (evE C e ρ) fun p => guard p.2.ok (bnd (opt (put ρ (.tup is) p.1)) fun ρ' => ret (.nx ρ')) := by rw [exS]
/-- one's own list -/
def ownM (i : Nat) (ρ : List Slot) : M D := match ρ[i]? with
  | some (.own d) => ret d
  | _ => fail
@[simp] theorem ex_mut {m : Mt} {i : Nat} {as : Es} : exS C (.mut m i as) ρ = bnd (ownM i ρ) fun d => bnd (evEs C as ρ) fun q => guard q.2 (bnd (opt (mutD m d q.1)) fun d' => ret (.nx (ρ.set i (.own d')))) := by
  rw [exS]
  unfold ownM
  cases ρ[i]? with
  | none => rfl
  | some s => cases s <;> rfl
def extM (ρ : List Slot) (i : Nat) : D → D × Kd → M Fl
  | .lst xs, (.lst ys, .fresh) => guard (decide (xs.length + ys.length ≤ sizeLine)) (ret (.nx (ρ.set i (.own (.lst (xs ++ ys))))))
  | _, _ => fail
@[simp] theorem extM_lst {i : Nat} {xs ys : List D} : extM ρ i (.lst xs) (.lst ys, .fresh) = guard (decide (xs.length + ys.length ≤ sizeLine)) (ret (.nx (ρ.set i (.own (.lst (xs ++ ys)))))) := by rw [extM]
theorem ex_ext {i : Nat} {e : E} {xs : List D} (h : ρ[i]? = some (.own (.lst xs))) : exS C (.ext i e) ρ = bnd (evE C e ρ) fun p => extM ρ i (.lst xs) p := by
  rw [exS, h]
  simp only
  congr 1
  funext p
  obtain ⟨d, k⟩ := p
  cases d <;> cases k <;> rfl
@[simp] theorem ex_expr {e : E} : exS C (.expr e) ρ = bnd (evE C e ρ) fun _ => ret (.nx ρ) := by rw [exS]
@[simp] theorem ex_ifs {c : E} {a b : Ss} : exS C (.ifs c a b) ρ = bnd (evT C c ρ) fun t => if t then exSs C a ρ else exSs C b ρ := by rw [exS]
theorem ex_fors {g : Tg} {it : It} {body : Ss} : exS C (.fors g it body) ρ = bnd (evIt C it false ρ) fun xs => forM (fun x ρ => bnd (opt (put ρ g x)) fun ρ' => exSs C body ρ') xs ρ := by rw [exS]
theorem ex_whl {c : E} {body : Ss} : exS C (.whl c body) ρ = whlM (evT C c) (exSs C body) 1000 ρ := by rw [exS]
@[simp] theorem ex_ret {e : E} : exS C (.ret e) ρ = bnd (evE C e ρ) fun p => ret (.rt p.1 p.2.out) := by rw [exS]
@[simp] theorem ex_retc {f : Str} {as : Es} : exS C (.retc f as) ρ = bnd (evEs C as ρ) fun q => bnd (C (.f f) q.1) fun r => ret (.rt r.1 r.2) := by rw [exS]
@[simp] theorem ex_pass : exS C .pass ρ = ret (.nx ρ) := by rw [exS]
/-- how a block goes on -/
def nextM (C : Calls) (r : Ss) : Fl → M Fl
  | .nx ρ' => exSs C r ρ'
  | l => ret l
@[simp] theorem nextM_nx {r : Ss} : nextM C r (.nx ρ) = exSs C r ρ := by rw [nextM]
@[simp] theorem nextM_rt {r : Ss} {d : D} {k : Kd} : nextM C r (.rt d k) = ret (.rt d k) := by rw [nextM]; intro ρ e; cases e
@[simp] theorem exs_nil : exSs C .nil ρ = ret (.nx ρ) := by rw [exSs]
theorem exs_cons {s : S} {r : Ss} : exSs C (.cons s r) ρ = bnd (exS C s ρ) (nextM C r) := by
  rw [exSs]
  congr 1
/-- a block's first statement, of which something is sure -/
theorem sure_cons {s : S} {r : Ss} {P : List Slot → Prop} {Q : Fl → Prop} (h : Sure (exS C s ρ) fun l => ∃ ρ', l = .nx ρ' ∧ P ρ') (k : ∀ ρ', P ρ' → Sure (exSs C r ρ') Q) : Sure (exSs C (.cons s r) ρ) Q := by
  rw [exs_cons]
  refine sure_bnd h fun l hl => ?_
  obtain ⟨ρ', rfl, p⟩ := hl
  exact k ρ' p
@[simp] theorem varM_eq {i : Nat} : varM i ρ = match ρ[i]? with
    | some (.val d) => ret (d, .clean)
    | some (.own d) => ret (d, .own)
    | _ => fail := by
  unfold varM
  rfl
@[simp] theorem ownM_eq {i : Nat} : ownM i ρ = match ρ[i]? with
    | some (.own d) => ret d
    | _ => fail := by
  unfold ownM
  rfl
end
@[simp] theorem ok_clean : Kd.clean.ok = true := rfl
@[simp] theorem ok_fresh : Kd.fresh.ok = true := rfl
theorem slot_val {d : D} {k : Kd} (h : k.ok = true) : slotOf false (d, k) = ret (.val d) := by
  unfold slotOf
  simp [h]
@[simp] theorem slot_valc {d : D} : slotOf false (d, .clean) = ret (.val d) := by rw [slotOf, if_neg Bool.false_ne_true, ok_clean, guard_true]
@[simp] theorem slot_valf {d : D} : slotOf false (d, .fresh) = ret (.val d) := by rw [slotOf, if_neg Bool.false_ne_true, ok_fresh, guard_true]
@[simp] theorem slot_ownc {d : D} : slotOf true (d, .clean) = ret (.val d) := by rw [slotOf, if_pos rfl]
@[simp] theorem slot_own {d : D} : slotOf true (d, .fresh) = ret (.own d) := by rw [slotOf, if_pos rfl]
@[simp] theorem sl1 : (1 ≤ sizeLine) = True := eq_true (by decide)
@[simp] theorem sl2 : (2 ≤ sizeLine) = True := eq_true (by decide)
@[simp] theorem sl3 : (3 ≤ sizeLine) = True := eq_true (by decide)
@[simp] theorem sl4 : (4 ≤ sizeLine) = True := eq_true (by decide)
@[simp] theorem sl5 : (5 ≤ sizeLine) = True := eq_true (by decide)
@[simp] theorem sl6 : (6 ≤ sizeLine) = True := eq_true (by decide)
@[simp] theorem sl7 : (7 ≤ sizeLine) = True := eq_true (by decide)
@[simp] theorem sl8 : (8 ≤ sizeLine) = True := eq_true (by decide)
@[simp] theorem sl9 : (9 ≤ sizeLine) = True := eq_true (by decide)
@[simp] theorem sl10 : (10 ≤ sizeLine) = True := eq_true (by decide)
@[simp] theorem sl11 : (11 ≤ sizeLine) = True := eq_true (by decide)
@[simp] theorem sl12 : (12 ≤ sizeLine) = True := eq_true (by decide)
@[simp] theorem sl13 : (13 ≤ sizeLine) = True := eq_true (by decide)
@[simp] theorem sl14 : (14 ≤ sizeLine) = True := eq_true (by decide)
@[simp] theorem sl15 : (15 ≤ sizeLine) = True := eq_true (by decide)
@[simp] theorem sl16 : (16 ≤ sizeLine) = True := eq_true (by decide)
@[simp] theorem sl17 : (17 ≤ sizeLine) = True := eq_true (by decide)
@[simp] theorem sl18 : (18 ≤ sizeLine) = True := eq_true (by decide)
@[simp] theorem sl19 : (19 ≤ sizeLine) = True := eq_true (by decide)
@[simp] theorem sl20 : (20 ≤ sizeLine) = True := eq_true (by decide)
@[simp] theorem sl21 : (21 ≤ sizeLine) = True := eq_true (by decide)
@[simp] theorem sl22 : (22 ≤ sizeLine) = True := eq_true (by decide)
@[simp] theorem sl23 : (23 ≤ sizeLine) = True := eq_true (by decide)
@[simp] theorem sl24 : (24 ≤ sizeLine) = True := eq_true (by decide)
@[simp] theorem sl25 : (25 ≤ sizeLine) = True := eq_true (by decide)
@[simp] theorem sl26 : (26 ≤ sizeLine) = True := eq_true (by decide)
@[simp] theorem ok_own : Kd.own.ok = false := rfl
@[simp] theorem ok_dirty : Kd.dirty.ok = false := rfl
@[simp] theorem nd_clean : Kd.clean.nd = true := rfl
@[simp] theorem nd_fresh : Kd.fresh.nd = true := rfl
@[simp] theorem nd_own : Kd.own.nd = true := rfl
@[simp] theorem nd_dirty : Kd.dirty.nd = false := rfl
@[simp] theorem by_true {k : Kd} {d : D} : k.by d true = k := rfl
@[simp] theorem by_int {k : Kd} {i : Int} : k.by (.int i) false = .clean := rfl
@[simp] theorem by_bl {k : Kd} {i : Bool} : k.by (.bl i) false = .clean := rfl
@[simp] theorem by_str {k : Kd} {i : Str} : k.by (.str i) false = .clean := rfl
@[simp] theorem by_non {k : Kd} : k.by .non false = .clean := rfl
@[simp] theorem out_clean : Kd.clean.out = .clean := rfl
@[simp] theorem out_fresh : Kd.fresh.out = .fresh := rfl
@[simp] theorem out_own : Kd.own.out = .fresh := rfl
@[simp] theorem outM_rt {d : D} {k : Kd} : outM (.rt d k) = ret (d, k) := by rw [outM]
@[simp] theorem outM_nx {ρ : List Slot} : outM (.nx ρ) = ret (.non, .clean) := by rw [outM]
@[simp] theorem boolM_bl {b : Bool} : boolM (.bl b) = ret b := by rw [boolM]
@[simp] theorem intM_int {i : Int} : intM (.int i) = ret i := by rw [intM]
@[simp] theorem cmp_eq {a b : D} : cmpD .eq a b = eqD a b := rfl
@[simp] theorem cmp_ne {a b : D} : cmpD .ne a b = (eqD a b).map not := rfl
@[simp] theorem cmp_lt {a b : D} : cmpD .lt a b = ltD a b := rfl
@[simp] theorem cmp_gt {a b : D} : cmpD .gt a b = ltD b a := rfl
@[simp] theorem cmp_le {a b : D} : cmpD .le a b = (ltD b a).map not := rfl
@[simp] theorem cmp_ge {a b : D} : cmpD .ge a b = (ltD a b).map not := rfl
@[simp] theorem cmp_in {a b : D} : cmpD .isin a b = inD a b := rfl
@[simp] theorem cmp_notin {a b : D} : cmpD .notin a b = (inD a b).map not := rfl
@[simp] theorem eqD_int' (a b : Int) : eqD (.int a) (.int b) = some (decide (a = b)) := eqD_int a b
@[simp] theorem ltD_int' (a b : Int) : ltD (.int a) (.int b) = some (decide (a < b)) := ltD_int a b
@[simp] theorem eqD_str' (x y : Str) : eqD (.str x) (.str y) = some (x == y) := rfl
@[simp] theorem truth_bl' (b : Bool) : truth (.bl b) = some b := rfl
@[simp] theorem len_tup {xs : List D} : bltD .len (.tup xs) = some (.int xs.length, .clean) := rfl
@[simp] theorem len_lst {xs : List D} : bltD .len (.lst xs) = some (.int xs.length, .clean) := rfl
@[simp] theorem int_int {i : Int} : bltD .int (.int i) = some (.int i, .clean) := rfl
@[simp] theorem int_bl {b : Bool} : bltD .int (.bl b) = some (.int (if b then 1 else 0), .clean) := rfl
@[simp] theorem tuple_tup {xs : List D} : bltD .tuple (.tup xs) = some (.tup xs, .clean) := rfl
@[simp] theorem tuple_lst {xs : List D} : bltD .tuple (.lst xs) = some (.tup xs, .clean) := rfl
@[simp] theorem list_tup {xs : List D} : bltD .list (.tup xs) = some (.lst xs, .fresh) := rfl
@[simp] theorem list_lst {xs : List D} : bltD .list (.lst xs) = some (.lst xs, .fresh) := rfl
@[simp] theorem all_bls {bs : List Bool} : bltD .all (.lst (bs.map .bl)) = some (.bl (bs.all id), .clean) := by
  show (boolsD (bs.map .bl)).map (fun bs => (D.bl (bs.all id), Kd.clean)) = _
  rw [bools_map]
  rfl
@[simp] theorem any_bls {bs : List Bool} : bltD .any (.lst (bs.map .bl)) = some (.bl (bs.any id), .clean) := by
  show (boolsD (bs.map .bl)).map (fun bs => (D.bl (bs.any id), Kd.clean)) = _
  rw [bools_map]
  rfl
@[simp] theorem put_one {ρ : List Slot} {i : Nat} {d : D} : put ρ (.one i) d = put1 ρ i d := rfl
@[simp] theorem put_lst {ρ : List Slot} {is : List Nat} {ds : List D} : put ρ (.tup is) (.lst ds) = puts ρ is ds := rfl
@[simp] theorem put_tup {ρ : List Slot} {is : List Nat} {ds : List D} : put ρ (.tup is) (.tup ds) = puts ρ is ds := rfl
@[simp] theorem seqD_tup {xs : List D} : seqD (.tup xs) = some xs := rfl
@[simp] theorem seqD_lst {xs : List D} : seqD (.lst xs) = some xs := rfl
@[simp] theorem idx_tup {xs : List D} {i : Int} : idxD (.tup xs) (.int i) = L2.atI xs i := rfl
@[simp] theorem idx_lst {xs : List D} {i : Int} : idxD (.lst xs) (.int i) = L2.atI xs i := rfl
end Ev
set_option Elab.async false
set_option linter.all false
/-! trees of defs that several laws reach (printed by gen.py) -/
namespace Ev
open PySem
def b__law_alike : Ss :=
.cons (.ret (.and (.cmp .eq (.var 0) (.var 1)) (.cmp .eq (.blt .repr (.var 0)) (.blt .repr (.var 1))))) .nil
abbrev fd__law_alike : Fd := ⟨2, 2, b__law_alike⟩
def b__law_all_lots : Ss :=
.cons (.set 1 false (.lst (.cons (.tup (.nil)) (.nil)))) <|
.cons (.fors (.one 2) (.seq (.var 0))
(.cons (.set 1 false (.bin .add (.var 1) (.lc (.one 3) [3] (.seq (.var 1)) (.no) (.bin .add (.var 3) (.tup (.cons (.var 2) (.nil))))))) .nil)) <|
.cons (.retc "_law_in_order" (.cons (.var 1) (.nil))) .nil
abbrev fd__law_all_lots : Fd := ⟨1, 4, b__law_all_lots⟩
def b__law_in_order : Ss :=
.cons (.ret (.lc (.one 1) [1] (.seq (.blt .sorted (.lc (.one 2) [2] (.seq (.var 0)) (.no) (.tup (.cons (.blt .len (.var 2)) (.cons (.var 2) (.nil))))))) (.no) (.idx (.var 1) (.con (.int 1))))) .nil
abbrev fd__law_in_order : Fd := ⟨1, 3, b__law_in_order⟩
def b__law_lot : Ss :=
.cons (.ret (.blt .tuple (.lc (.one 2) [2] (.seq (.var 1)) (.yes (.cmp .eq (.call "_law_take" (.cons (.var 0) (.cons (.con (.int 2)) (.nil)))) (.con (.int 0)))) (.var 2)))) .nil
abbrev fd__law_lot : Fd := ⟨2, 3, b__law_lot⟩
def b__law_marks : Ss :=
.cons (.set 2 false (.split (.con (.str "has lacks marks yes no so more strike undo redo ab abc a z zzzzzzzz things")) (.con (.str " ")))) <|
.cons (.unp [5, 6] (.tup (.cons (.call "_law_take" (.cons (.var 0) (.cons (.con (.int 5)) (.nil)))) (.cons (.call "_law_take" (.cons (.var 0) (.cons (.con (.int 16)) (.nil)))) (.nil))))) <|
.cons (.ifs (.cmp .eq (.var 5) (.con (.int 0)))
(.cons (.ret (.blt .tuple (.blt .sorted (.sli (.bin .add (.sli (.var 2) (.yes (.var 6)) (.no)) (.sli (.var 2) (.no) (.yes (.var 6)))) (.no) (.yes (.var 1)))))) .nil)
(.nil)) <|
.cons (.ifs (.cmp .eq (.var 5) (.con (.int 1)))
(.cons (.ret (.blt .tuple (.lc (.one 7) [7] (.rng (.var 1)) (.no) (.sli (.con (.str "aaaaaaaa")) (.no) (.yes (.bin .add (.var 7) (.con (.int 1)))))))) .nil)
(.nil)) <|
.cons (.set 3 false (.con (.str "abcdefghijklmnopqrstuvwxyz"))) <|
.cons (.set 4 false (.idx (.lst (.cons (.con (.str "")) (.cons (.con (.str "")) (.cons (.idx (.var 3) (.var 6)) (.cons (.con (.str "zzzzzzz")) (.nil)))))) (.bin .sub (.var 5) (.con (.int 1))))) <|
.cons (.ret (.blt .tuple (.blt .sorted (.lc (.one 7) [7] (.rng (.var 1)) (.no) (.bin .add (.var 4) (.idx (.var 3) (.bin .mod (.blt .int (.bin .add (.var 6) (.bin .mul (.con (.int 3)) (.var 7)))) (.con (.int 26))))))))) .nil
abbrev fd__law_marks : Fd := ⟨2, 8, b__law_marks⟩
def b__law_one : Ss :=
.cons (.ret (.idx (.var 1) (.call "_law_take" (.cons (.var 0) (.cons (.blt .len (.var 1)) (.nil)))))) .nil
abbrev fd__law_one : Fd := ⟨2, 2, b__law_one⟩
def b__law_pair_right : Ss :=
.cons (.set 2 false (.lst (.cons (.call "comes_before" (.cons (.var 0) (.cons (.var 1) (.nil)))) (.cons (.call "within" (.cons (.var 0) (.cons (.var 1) (.nil)))) (.cons (.call "joined" (.cons (.var 0) (.cons (.var 1) (.nil)))) (.cons (.call "common" (.cons (.var 0) (.cons (.var 1) (.nil)))) (.cons (.call "without" (.cons (.var 0) (.cons (.var 1) (.nil)))) (.nil)))))))) <|
.cons (.set 3 false (.or (.cmp .lt (.blt .len (.var 0)) (.blt .len (.var 1))) (.and (.cmp .eq (.blt .len (.var 0)) (.blt .len (.var 1))) (.cmp .lt (.blt .list (.var 0)) (.blt .list (.var 1)))))) <|
.cons (.set 4 false (.blt .tuple (.lc (.one 6) [6] (.seq (.var 0)) (.yes (.cmp .isin (.var 6) (.var 1))) (.var 6)))) <|
.cons (.set 5 false (.blt .tuple (.lc (.one 6) [6] (.seq (.var 0)) (.yes (.cmp .notin (.var 6) (.var 1))) (.var 6)))) <|
.cons (.retc "_law_alike" (.cons (.var 2) (.cons (.lst (.cons (.var 3) (.cons (.call "_law_within" (.cons (.var 0) (.cons (.var 1) (.nil)))) (.cons (.call "_law_joined" (.cons (.var 0) (.cons (.var 1) (.nil)))) (.cons (.var 4) (.cons (.var 5) (.nil))))))) (.nil)))) .nil
abbrev fd__law_pair_right : Fd := ⟨2, 7, b__law_pair_right⟩
def b__law_take : Ss :=
.cons (.ifs (.cmp .eq (.bget 0 0) (.con (.int 0)))
(.cons (.set 4 false (.con (.int 0))) <|
.cons (.ifs (.cmp .lt (.bget 0 2) (.blen 0))
(.cons (.set 4 false (.bcell 0)) .nil)
(.nil)) <|
.cons (.baug 0 2 1) <|
.cons (.ifs (.cmp .ge (.var 4) (.con (.int 1000000000000000000)))
(.cons (.bset 0 0 (.var 4)) .nil)
(.nil)) <|
.cons (.set 5 false (.bin .add (.bin .add (.bin .mul (.bget 0 1) (.con (.int 48271))) (.bin .mod (.blt .int (.var 4)) (.con (.int 2147483647)))) (.bin .mul (.con (.int 7919)) (.bget 0 2)))) <|
.cons (.bset 0 1 (.bin .mod (.blt .int (.var 5)) (.con (.int 2147483647)))) .nil)
(.nil)) <|
.cons (.ifs (.cmp .gt (.bget 0 0) (.con (.int 0)))
(.cons (.set 6 false (.bin .mod (.blt .int (.bget 0 0)) (.var 1))) <|
.cons (.bset 0 0 (.bin .fdiv (.bget 0 0) (.var 1))) <|
.cons (.ret (.var 6)) .nil)
(.nil)) <|
.cons (.set 2 false (.bin .mod (.blt .int (.bin .mul (.bin .add (.bget 0 1) (.con (.int 1))) (.con (.int 39373)))) (.con (.int 1000000007)))) <|
.cons (.set 3 false (.bin .mod (.blt .int (.bin .mul (.bin .mod (.blt .int (.bin .mul (.var 2) (.var 2))) (.con (.int 998244353))) (.con (.int 30011)))) (.con (.int 998244353)))) <|
.cons (.ifs (.cmp .gt (.var 1) (.con (.int 1000000)))
(.cons (.ret (.bin .mod (.blt .int (.bin .add (.bin .mul (.var 3) (.con (.int 1000000007))) (.var 2))) (.var 1))) .nil)
(.nil)) <|
.cons (.ret (.bin .mod (.blt .int (.bin .fdiv (.var 3) (.con (.int 7)))) (.var 1))) .nil
abbrev fd__law_take : Fd := ⟨2, 7, b__law_take⟩
def b_all_lots : Ss :=
.cons (.set 1 true (.lst (.cons (.tup (.nil)) (.nil)))) <|
.cons (.fors (.one 2) (.seq (.var 0))
(.cons (.ext 1 (.lc (.one 3) [3] (.seq (.var 1)) (.no) (.tup (.star (.var 3) (.cons (.var 2) (.nil)))))) .nil)) <|
.cons (.retc "in_order" (.cons (.var 1) (.nil))) .nil
abbrev fd_all_lots : Fd := ⟨1, 4, b_all_lots⟩
def b_in_order : Ss :=
.cons (.ret (.srt "rank" (.var 0))) .nil
abbrev fd_in_order : Fd := ⟨1, 1, b_in_order⟩
def b_lot_of : Ss :=
.cons (.ret (.blt .tuple (.blt .sortset (.var 0)))) .nil
abbrev fd_lot_of : Fd := ⟨1, 1, b_lot_of⟩
def b__law_joined : Ss :=
.cons (.ret (.blt .tuple (.blt .sortset (.bin .add (.blt .tuple (.var 0)) (.blt .tuple (.var 1)))))) .nil
abbrev fd__law_joined : Fd := ⟨2, 2, b__law_joined⟩
def b__law_within : Ss :=
.cons (.ret (.cmp .eq (.lc (.one 2) [2] (.seq (.var 0)) (.yes (.cmp .notin (.var 2) (.var 1))) (.var 2)) (.lst (.nil)))) .nil
abbrev fd__law_within : Fd := ⟨2, 3, b__law_within⟩
def b_comes_before : Ss :=
.cons (.ret (.cmp .lt (.call "rank" (.cons (.var 0) (.nil))) (.call "rank" (.cons (.var 1) (.nil))))) .nil
abbrev fd_comes_before : Fd := ⟨2, 2, b_comes_before⟩
def b_common : Ss :=
.cons (.ret (.blt .tuple (.lc (.one 2) [2] (.seq (.var 0)) (.yes (.cmp .isin (.var 2) (.var 1))) (.var 2)))) .nil
abbrev fd_common : Fd := ⟨2, 3, b_common⟩
def b_joined : Ss :=
.cons (.retc "lot_of" (.cons (.lst (.star (.var 0) (.star (.var 1) (.nil)))) (.nil))) .nil
abbrev fd_joined : Fd := ⟨2, 2, b_joined⟩
def b_within : Ss :=
.cons (.ret (.blt .all (.lc (.one 2) [2] (.seq (.var 0)) (.no) (.cmp .isin (.var 2) (.var 1))))) .nil
abbrev fd_within : Fd := ⟨2, 3, b_within⟩
def b_without : Ss :=
.cons (.ret (.blt .tuple (.lc (.one 2) [2] (.seq (.var 0)) (.yes (.cmp .notin (.var 2) (.var 1))) (.var 2)))) .nil
abbrev fd_without : Fd := ⟨2, 3, b_without⟩
def b_rank : Ss :=
.cons (.ret (.tup (.cons (.blt .len (.var 0)) (.cons (.var 0) (.nil))))) .nil
abbrev fd_rank : Fd := ⟨1, 1, b_rank⟩
def b__law_fits : Ss :=
.cons (.ret (.and (.call "_law_within" (.cons (.idx (.var 1) (.con (.int 0))) (.cons (.var 0) (.nil)))) (.not (.call "_law_hits" (.cons (.var 0) (.cons (.idx (.var 1) (.con (.int 1))) (.nil))))))) .nil
abbrev fd__law_fits : Fd := ⟨2, 2, b__law_fits⟩
def b__law_joined_things : Ss :=
.cons (.set2 2 3 false false (.call "_law_joined" (.cons (.idx (.var 0) (.con (.int 0))) (.cons (.idx (.var 1) (.con (.int 0))) (.nil)))) (.call "_law_joined" (.cons (.idx (.var 0) (.con (.int 1))) (.cons (.idx (.var 1) (.con (.int 1))) (.nil))))) <|
.cons (.ret (.ite (.call "_law_hits" (.cons (.var 2) (.cons (.var 3) (.nil)))) (.con .non) (.tup (.cons (.var 2) (.cons (.var 3) (.nil)))))) .nil
abbrev fd__law_joined_things : Fd := ⟨2, 4, b__law_joined_things⟩
def b__law_thing : Ss :=
.cons (.set2 3 4 true true (.lst (.nil)) (.lst (.nil))) <|
.cons (.fors (.one 2) (.seq (.var 1))
(.cons (.set 5 false (.call "_law_take" (.cons (.var 0) (.cons (.con (.int 3)) (.nil))))) <|
.cons (.ifs (.cmp .eq (.var 5) (.con (.int 0)))
(.cons (.mut .append 3 (.cons (.var 2) (.nil))) .nil)
(.nil)) <|
.cons (.ifs (.cmp .eq (.var 5) (.con (.int 1)))
(.cons (.mut .append 4 (.cons (.var 2) (.nil))) .nil)
(.nil)) .nil)) <|
.cons (.ret (.tup (.cons (.blt .tuple (.var 3)) (.cons (.blt .tuple (.var 4)) (.nil))))) .nil
abbrev fd__law_thing : Fd := ⟨2, 6, b__law_thing⟩
def b_fillings : Ss :=
.cons (.ret (.lc (.one 2) [2] (.seq (.call "all_lots" (.cons (.var 0) (.nil)))) (.yes (.call "fits" (.cons (.var 2) (.cons (.var 1) (.nil))))) (.var 2))) .nil
abbrev fd_fillings : Fd := ⟨2, 3, b_fillings⟩
def b_fits : Ss :=
.cons (.ret (.and (.call "within" (.cons (.idx (.var 1) (.con (.int 0))) (.cons (.var 0) (.nil)))) (.cmp .eq (.call "common" (.cons (.var 0) (.cons (.idx (.var 1) (.con (.int 1))) (.nil)))) (.tup (.nil))))) .nil
abbrev fd_fits : Fd := ⟨2, 2, b_fits⟩
def b_full_thing : Ss :=
.cons (.ret (.tup (.cons (.var 1) (.cons (.call "without" (.cons (.var 0) (.cons (.var 1) (.nil)))) (.nil))))) .nil
abbrev fd_full_thing : Fd := ⟨2, 2, b_full_thing⟩
def b_is_full : Ss :=
.cons (.retc "within" (.cons (.var 0) (.cons (.call "joined" (.cons (.idx (.var 1) (.con (.int 0))) (.cons (.idx (.var 1) (.con (.int 1))) (.nil)))) (.nil)))) .nil
abbrev fd_is_full : Fd := ⟨2, 2, b_is_full⟩
def b_told_more : Ss :=
.cons (.set2 2 3 false false (.call "joined" (.cons (.idx (.var 0) (.con (.int 0))) (.cons (.idx (.var 1) (.con (.int 0))) (.nil)))) (.call "joined" (.cons (.idx (.var 0) (.con (.int 1))) (.cons (.idx (.var 1) (.con (.int 1))) (.nil))))) <|
.cons (.ret (.ite (.cmp .eq (.call "common" (.cons (.var 2) (.cons (.var 3) (.nil)))) (.tup (.nil))) (.tup (.cons (.var 2) (.cons (.var 3) (.nil)))) (.con .non))) .nil
abbrev fd_told_more : Fd := ⟨2, 4, b_told_more⟩
def b_untold : Ss :=
.cons (.retc "without" (.cons (.var 0) (.cons (.call "joined" (.cons (.idx (.var 1) (.con (.int 0))) (.cons (.idx (.var 1) (.con (.int 1))) (.nil)))) (.nil)))) .nil
abbrev fd_untold : Fd := ⟨2, 2, b_untold⟩
def b__law_hits : Ss :=
.cons (.ret (.cmp .ne (.lc (.one 2) [2] (.seq (.var 0)) (.yes (.cmp .isin (.var 2) (.var 1))) (.var 2)) (.lst (.nil)))) .nil
abbrev fd__law_hits : Fd := ⟨2, 3, b__law_hits⟩
end Ev
set_option Elab.async false
set_option linter.all false
/-! trees of defs that several laws reach (printed by gen.py) -/
namespace Ev
open PySem
def b__law_breaks : Ss :=
.cons (.ret (.and (.call "_law_within" (.cons (.idx (.var 1) (.con (.int 0))) (.cons (.var 0) (.nil)))) (.not (.call "_law_within" (.cons (.idx (.var 1) (.con (.int 1))) (.cons (.var 0) (.nil))))))) .nil
abbrev fd__law_breaks : Fd := ⟨2, 2, b__law_breaks⟩
def b__law_closed_lots : Ss :=
.cons (.ret (.lc (.one 2) [2] (.seq (.call "_law_all_lots" (.cons (.var 0) (.nil)))) (.yes (.cmp .eq (.lc (.one 3) [3] (.seq (.var 1)) (.yes (.call "_law_breaks" (.cons (.var 2) (.cons (.var 3) (.nil))))) (.var 3)) (.lst (.nil)))) (.var 2))) .nil
abbrev fd__law_closed_lots : Fd := ⟨2, 4, b__law_closed_lots⟩
def b__law_rule : Ss :=
.cons (.set 2 false (.call "_law_take" (.cons (.var 0) (.cons (.con (.int 10)) (.nil))))) <|
.cons (.ifs (.cmp .eq (.var 2) (.con (.int 8)))
(.cons (.ret (.tup (.cons (.call "_law_lot" (.cons (.var 0) (.cons (.var 1) (.nil)))) (.cons (.call "_law_lot" (.cons (.var 0) (.cons (.var 1) (.nil)))) (.nil))))) .nil)
(.nil)) <|
.cons (.set 3 false (.call "_law_few" (.cons (.var 0) (.cons (.var 1) (.cons (.idx (.lst (.cons (.con (.int 0)) (.cons (.con (.int 1)) (.cons (.con (.int 1)) (.cons (.con (.int 2)) (.cons (.con (.int 2)) (.cons (.con (.int 2)) (.cons (.con (.int 3)) (.cons (.con (.int 2)) (.cons (.con (.int 0)) (.cons (.con (.int 1)) (.nil)))))))))))) (.var 2)) (.nil)))))) <|
.cons (.ifs (.cmp .eq (.var 2) (.con (.int 9)))
(.cons (.ret (.tup (.cons (.var 3) (.cons (.var 3) (.nil))))) .nil)
(.nil)) <|
.cons (.ret (.tup (.cons (.var 3) (.cons (.call "_law_few" (.cons (.var 0) (.cons (.var 1) (.cons (.idx (.lst (.cons (.con (.int 1)) (.cons (.con (.int 1)) (.cons (.con (.int 2)) (.cons (.con (.int 1)) (.cons (.con (.int 2)) (.cons (.con (.int 1)) (.cons (.con (.int 1)) (.cons (.con (.int 3)) (.nil)))))))))) (.var 2)) (.nil))))) (.nil))))) .nil
abbrev fd__law_rule : Fd := ⟨2, 4, b__law_rule⟩
def b__law_some_rows : Ss :=
.cons (.set 3 true (.lc (.one 4) [4] (.rng (.call "_law_take" (.cons (.var 0) (.cons (.bin .add (.var 2) (.con (.int 1))) (.nil))))) (.no) (.call "_law_rule" (.cons (.var 0) (.cons (.var 1) (.nil)))))) <|
.cons (.ifs (.and (.cmp .gt (.blt .len (.var 3)) (.con (.int 1))) (.cmp .eq (.call "_law_take" (.cons (.var 0) (.cons (.con (.int 5)) (.nil)))) (.con (.int 0))))
(.cons (.lput 3 (.neg (.con (.int 1))) (.idx (.var 3) (.con (.int 0)))) .nil)
(.nil)) <|
.cons (.ret (.var 3)) .nil
abbrev fd__law_some_rows : Fd := ⟨3, 5, b__law_some_rows⟩
def b_against : Ss :=
.cons (.ret (.ite (.call "follows" (.cons (.var 0) (.cons (.var 1) (.nil)))) (.con .non) (.meth (.var 0) "closing" [0, 1] (.cons (.idx (.var 1) (.con (.int 0))) (.nil))))) .nil
abbrev fd_against : Fd := ⟨2, 2, b_against⟩
def b_follows : Ss :=
.cons (.retc "within" (.cons (.idx (.var 1) (.con (.int 1))) (.cons (.meth (.var 0) "closing" [0, 1] (.cons (.idx (.var 1) (.con (.int 0))) (.nil))) (.nil)))) .nil
abbrev fd_follows : Fd := ⟨2, 2, b_follows⟩
def b_Rules_rows : Ss :=
.cons (.ret (.blt .list (.fld (.var 0) "its_rows" [(0, some 1)]))) .nil
abbrev fd_Rules_rows : Fd := ⟨1, 1, b_Rules_rows⟩
def b_Rules___init__ : Ss :=
.cons (.ifs (.not (.call "is_lot" (.cons (.var 1) (.nil))))
(.cons (.never) .nil)
(.nil)) <|
.cons (.ifs (.not (.call "are_rules_of" (.cons (.var 1) (.cons (.var 2) (.nil)))))
(.cons (.never) .nil)
(.nil)) <|
.cons (.fset 0 "its_marks" 0 0 (.var 1)) <|
.cons (.fset 0 "its_rows" 0 1 (.blt .list (.var 2))) .nil
abbrev fd_Rules___init__ : Fd := ⟨3, 3, b_Rules___init__⟩
def b__law_few : Ss :=
.cons (.ret (.blt .tuple (.blt .sorted (.sli (.call "_law_mixed" (.cons (.var 0) (.cons (.var 1) (.nil)))) (.no) (.yes (.var 2)))))) .nil
abbrev fd__law_few : Fd := ⟨3, 3, b__law_few⟩
def b_Rules_closing : Ss :=
.cons (.set 2 false (.meth (.var 0) "broken_by" [0] (.cons (.var 1) (.nil)))) <|
.cons (.whl (.var 2)
(.cons (.fors (.tup [3, 4]) (.seq (.var 2))
(.cons (.set 1 false (.call "joined" (.cons (.var 1) (.cons (.var 4) (.nil))))) .nil)) <|
.cons (.set 2 false (.meth (.var 0) "broken_by" [0] (.cons (.var 1) (.nil)))) .nil)) <|
.cons (.ret (.var 1)) .nil
abbrev fd_Rules_closing : Fd := ⟨2, 5, b_Rules_closing⟩
def b_are_rules_of : Ss :=
.cons (.ret (.and (.isi (.var 1) [.list, .tuple]) (.blt .all (.lc (.one 2) [2] (.seq (.var 1)) (.no) (.call "is_rule_of" (.cons (.var 0) (.cons (.var 2) (.nil)))))))) .nil
abbrev fd_are_rules_of : Fd := ⟨2, 3, b_are_rules_of⟩
def b_is_lot : Ss :=
.cons (.ifs (.or (.not (.isi (.var 0) [.tuple])) (.not (.blt .all (.lc (.one 2) [2] (.seq (.var 0)) (.no) (.call "is_mark" (.cons (.var 2) (.nil)))))))
(.cons (.ret (.con (.bl false))) .nil)
(.nil)) <|
.cons (.ret (.blt .all (.lc (.one 1) [1] (.rng (.bin .sub (.blt .len (.var 0)) (.con (.int 1)))) (.no) (.cmp .lt (.idx (.var 0) (.var 1)) (.idx (.var 0) (.bin .add (.var 1) (.con (.int 1)))))))) .nil
abbrev fd_is_lot : Fd := ⟨1, 3, b_is_lot⟩
def b__law_mixed : Ss :=
.cons (.set 2 true (.lst (.nil))) <|
.cons (.fors (.one 3) (.seq (.var 1))
(.cons (.mut .insert 2 (.cons (.call "_law_take" (.cons (.var 0) (.cons (.bin .add (.blt .len (.var 2)) (.con (.int 1))) (.nil)))) (.cons (.var 3) (.nil)))) .nil)) <|
.cons (.ret (.var 2)) .nil
abbrev fd__law_mixed : Fd := ⟨2, 4, b__law_mixed⟩
def b_Rules_broken_by : Ss :=
.cons (.ret (.lc (.one 2) [2] (.seq (.fld (.var 0) "its_rows" [(0, some 1)])) (.yes (.call "breaks" (.cons (.var 1) (.cons (.var 2) (.nil))))) (.var 2))) .nil
abbrev fd_Rules_broken_by : Fd := ⟨2, 3, b_Rules_broken_by⟩
def b_is_rule_of : Ss :=
.cons (.ret (.and (.call "is_rule" (.cons (.var 1) (.nil))) (.and (.call "within" (.cons (.idx (.var 1) (.con (.int 0))) (.cons (.var 0) (.nil)))) (.call "within" (.cons (.idx (.var 1) (.con (.int 1))) (.cons (.var 0) (.nil))))))) .nil
abbrev fd_is_rule_of : Fd := ⟨2, 2, b_is_rule_of⟩
def b_is_mark : Ss :=
.cons (.ret (.and (.isi (.var 0) [.str]) (.and (.chain .lt .le (.con (.int 0)) (.blt .len (.var 0)) (.con (.int 8))) (.blt .all (.lc (.one 1) [1] (.seq (.var 0)) (.no) (.cmp .isin (.var 1) (.glob "LETTERS" (.str "abcdefghijklmnopqrstuvwxyz")))))))) .nil
abbrev fd_is_mark : Fd := ⟨1, 2, b_is_mark⟩
def b_breaks : Ss :=
.cons (.ret (.and (.call "within" (.cons (.idx (.var 1) (.con (.int 0))) (.cons (.var 0) (.nil)))) (.not (.call "within" (.cons (.idx (.var 1) (.con (.int 1))) (.cons (.var 0) (.nil))))))) .nil
abbrev fd_breaks : Fd := ⟨2, 2, b_breaks⟩
def b_is_rule : Ss :=
.cons (.ret (.and (.isi (.var 0) [.tuple]) (.and (.cmp .eq (.blt .len (.var 0)) (.con (.int 2))) (.and (.call "is_lot" (.cons (.idx (.var 0) (.con (.int 0))) (.nil))) (.call "is_lot" (.cons (.idx (.var 0) (.con (.int 1))) (.nil))))))) .nil
abbrev fd_is_rule : Fd := ⟨1, 1, b_is_rule⟩
end Ev
set_option Elab.async false
set_option linter.all false
/-! trees of defs that several laws reach (printed by gen.py) -/
namespace Ev
open PySem
def b__law_pair_right_v1 : Ss :=
.cons (.set2 3 4 false false (.app (.var 0) [0, 1, 5] (.cons (.var 1) (.nil))) (.app (.var 0) [0, 1, 5] (.cons (.var 2) (.nil)))) <|
.cons (.ifs (.and (.call "within" (.cons (.var 1) (.cons (.var 2) (.nil)))) (.not (.call "within" (.cons (.var 3) (.cons (.var 4) (.nil))))))
(.cons (.ret (.con (.bl false))) .nil)
(.nil)) <|
.cons (.ifs (.cmp .ne (.app (.var 0) [0, 1, 5] (.cons (.call "joined" (.cons (.var 1) (.cons (.var 2) (.nil)))) (.nil))) (.app (.var 0) [0, 1, 5] (.cons (.call "joined" (.cons (.var 3) (.cons (.var 4) (.nil)))) (.nil))))
(.cons (.ret (.con (.bl false))) .nil)
(.nil)) <|
.cons (.ret (.and (.dun .isin (.call "common" (.cons (.var 3) (.cons (.var 4) (.nil)))) (.var 0) [0, 1, 2]) (.call "within" (.cons (.var 3) (.cons (.app (.var 0) [0, 1, 5] (.cons (.call "joined" (.cons (.var 1) (.cons (.var 2) (.nil)))) (.nil))) (.nil)))))) .nil
abbrev fd__law_pair_right_v1 : Fd := ⟨3, 5, b__law_pair_right_v1⟩
def b__law_more_right : Ss :=
.cons (.set 4 false (.call "_law_rule" (.cons (.var 0) (.cons (.var 2) (.nil))))) <|
.cons (.set 5 false (.dun .add (.var 1) (.var 4) [0, 1])) <|
.cons (.ifs (.or (.not (.call "within" (.cons (.app (.var 1) [0, 1, 5] (.cons (.var 3) (.nil))) (.cons (.app (.var 5) [0, 1, 5] (.cons (.var 3) (.nil))) (.nil))))) (.cmp .notN (.meth (.meth (.var 1) "without" [0, 1] (.cons (.con (.int 0)) (.nil))) "follows_from" [0] (.cons (.var 1) (.nil))) (.con (.bl true))))
(.cons (.ret (.con (.bl false))) .nil)
(.nil)) <|
.cons (.ifs (.or (.cmp .notN (.meth (.var 1) "follows_from" [0] (.cons (.var 5) (.nil))) (.con (.bl true))) (.cmp .ne (.meth (.var 5) "follows_from" [0] (.cons (.var 1) (.nil))) (.call "within" (.cons (.idx (.var 4) (.con (.int 1))) (.cons (.app (.var 1) [0, 1, 5] (.cons (.idx (.var 4) (.con (.int 0))) (.nil))) (.nil))))))
(.cons (.ret (.con (.bl false))) .nil)
(.nil)) <|
.cons (.retc "within" (.cons (.app (.meth (.var 1) "without" [0, 1] (.cons (.bin .sub (.dlen (.var 1) [0, 1, 2, 3]) (.con (.int 1))) (.nil))) [0, 1, 5] (.cons (.var 3) (.nil))) (.cons (.app (.var 1) [0, 1, 5] (.cons (.var 3) (.nil))) (.nil)))) .nil
abbrev fd__law_more_right : Fd := ⟨4, 6, b__law_more_right⟩
def b_Rules___call__ : Ss :=
.cons (.ret (.meth (.var 0) "closing" [0] (.cons (.var 1) (.nil)))) .nil
abbrev fd_Rules___call__ : Fd := ⟨2, 2, b_Rules___call__⟩
def b_Rules___contains__ : Ss :=
.cons (.ret (.and (.call "is_lot" (.cons (.var 1) (.nil))) (.and (.call "within" (.cons (.var 1) (.cons (.fld (.var 0) "its_marks" [(0, some 0)]) (.nil)))) (.cmp .eq (.meth (.var 0) "broken_by" [0] (.cons (.var 1) (.nil))) (.lst (.nil)))))) .nil
abbrev fd_Rules___contains__ : Fd := ⟨2, 2, b_Rules___contains__⟩
def b_Rules___add__ : Ss :=
.cons (.ifs (.not (.call "is_rule_of" (.cons (.fld (.var 0) "its_marks" [(0, some 0)]) (.cons (.var 1) (.nil)))))
(.cons (.never) .nil)
(.nil)) <|
.cons (.ret (.mk 0 (.cons (.fld (.var 0) "its_marks" [(0, some 0)]) (.cons (.lst (.star (.fld (.var 0) "its_rows" [(0, some 1)]) (.cons (.var 1) (.nil)))) (.nil))))) .nil
abbrev fd_Rules___add__ : Fd := ⟨2, 2, b_Rules___add__⟩
def b_Rules___len__ : Ss :=
.cons (.ret (.blt .len (.fld (.var 0) "its_rows" [(0, some 1)]))) .nil
abbrev fd_Rules___len__ : Fd := ⟨1, 1, b_Rules___len__⟩
def b_Rules_follows_from : Ss :=
.cons (.ifs (.not (.call "within" (.cons (.fld (.var 0) "its_marks" [(0, some 0)]) (.cons (.fld (.var 1) "marks" [(0, none), (1, none), (2, none), (3, none)]) (.nil)))))
(.cons (.ret (.con (.bl false))) .nil)
(.nil)) <|
.cons (.ret (.blt .all (.lc (.tup [2, 3]) [2, 3] (.seq (.fld (.var 0) "its_rows" [(0, some 1)])) (.no) (.call "within" (.cons (.var 3) (.cons (.meth (.var 1) "closing" [0, 1] (.cons (.var 2) (.nil))) (.nil))))))) .nil
abbrev fd_Rules_follows_from : Fd := ⟨2, 4, b_Rules_follows_from⟩
def b_Rules_without : Ss :=
.cons (.expr (.meth (.var 0) "need_row" [0] (.cons (.var 1) (.nil)))) <|
.cons (.ret (.mk 0 (.cons (.fld (.var 0) "its_marks" [(0, some 0)]) (.cons (.bin .add (.sli (.fld (.var 0) "its_rows" [(0, some 1)]) (.no) (.yes (.var 1))) (.sli (.fld (.var 0) "its_rows" [(0, some 1)]) (.yes (.bin .add (.var 1) (.con (.int 1)))) (.no))) (.nil))))) .nil
abbrev fd_Rules_without : Fd := ⟨2, 2, b_Rules_without⟩
def b_Rules_marks : Ss :=
.cons (.ret (.fld (.var 0) "its_marks" [(0, some 0)])) .nil
abbrev fd_Rules_marks : Fd := ⟨1, 1, b_Rules_marks⟩
def b_Rules_need_row : Ss :=
.cons (.ifs (.or (.not (.call "is_integer" (.cons (.var 1) (.nil)))) (.not (.chain .le .lt (.con (.int 0)) (.var 1) (.blt .len (.fld (.var 0) "its_rows" [(0, some 1)])))))
(.cons (.never) .nil)
(.nil)) .nil
abbrev fd_Rules_need_row : Fd := ⟨2, 2, b_Rules_need_row⟩
def b_is_integer : Ss :=
.cons (.ret (.and (.isi (.var 0) [.int]) (.not (.isi (.var 0) [.bool])))) .nil
abbrev fd_is_integer : Fd := ⟨1, 1, b_is_integer⟩
def b_Rules___getitem__ : Ss :=
.cons (.expr (.meth (.var 0) "need_row" [0] (.cons (.var 1) (.nil)))) <|
.cons (.ret (.idx (.fld (.var 0) "its_rows" [(0, some 1)]) (.var 1))) .nil
abbrev fd_Rules___getitem__ : Fd := ⟨2, 2, b_Rules___getitem__⟩
def b_Rules___or__ : Ss :=
.cons (.ret (.mk 0 (.cons (.call "joined" (.cons (.fld (.var 0) "its_marks" [(0, some 0)]) (.cons (.fld (.var 1) "marks" [(0, none), (1, none), (2, none), (3, none)]) (.nil)))) (.cons (.bin .add (.fld (.var 0) "its_rows" [(0, some 1)]) (.meth (.var 1) "rows" [0] (.nil))) (.nil))))) .nil
abbrev fd_Rules___or__ : Fd := ⟨2, 2, b_Rules___or__⟩
end Ev
set_option Elab.async false
set_option linter.all false
set_option autoImplicit false
/-! PC1: defs that go together: Rules. -/
namespace Ev
open PySem M
/-- the defs of Rules and what they call -/
class RC (Γ : Fn → Option Fd) : Prop where
  i1 : Has Γ "lot_of" fd_lot_of
  i2 : Has Γ "joined" fd_joined
  i3 : Has Γ "within" fd_within
  i4 : Has Γ "is_integer" fd_is_integer
  i5 : Has Γ "is_mark" fd_is_mark
  i6 : Has Γ "is_lot" fd_is_lot
  i7 : Has Γ "is_rule" fd_is_rule
  i8 : Has Γ "breaks" fd_breaks
  i9 : Has Γ "is_rule_of" fd_is_rule_of
  i10 : Has Γ "are_rules_of" fd_are_rules_of
  i11 : HasM Γ 0 "__init__" fd_Rules___init__
  i12 : HasM Γ 0 "marks" fd_Rules_marks
  i13 : HasM Γ 0 "rows" fd_Rules_rows
  i14 : HasM Γ 0 "need_row" fd_Rules_need_row
  i15 : HasM Γ 0 "__getitem__" fd_Rules___getitem__
  i16 : HasM Γ 0 "__len__" fd_Rules___len__
  i17 : HasM Γ 0 "closing" fd_Rules_closing
  i18 : HasM Γ 0 "__call__" fd_Rules___call__
  i19 : HasM Γ 0 "broken_by" fd_Rules_broken_by
  i20 : HasM Γ 0 "__contains__" fd_Rules___contains__
  i21 : HasM Γ 0 "__add__" fd_Rules___add__
  i22 : HasM Γ 0 "__or__" fd_Rules___or__
section
variable {Γ : Fn → Option Fd}
instance (priority := low) rc1 [h : RC Γ] : Has Γ "lot_of" fd_lot_of := h.i1
instance (priority := low) rc2 [h : RC Γ] : Has Γ "joined" fd_joined := h.i2
instance (priority := low) rc3 [h : RC Γ] : Has Γ "within" fd_within := h.i3
instance (priority := low) rc4 [h : RC Γ] : Has Γ "is_integer" fd_is_integer := h.i4
instance (priority := low) rc5 [h : RC Γ] : Has Γ "is_mark" fd_is_mark := h.i5
instance (priority := low) rc6 [h : RC Γ] : Has Γ "is_lot" fd_is_lot := h.i6
instance (priority := low) rc7 [h : RC Γ] : Has Γ "is_rule" fd_is_rule := h.i7
instance (priority := low) rc8 [h : RC Γ] : Has Γ "breaks" fd_breaks := h.i8
instance (priority := low) rc9 [h : RC Γ] : Has Γ "is_rule_of" fd_is_rule_of := h.i9
instance (priority := low) rc10 [h : RC Γ] : Has Γ "are_rules_of" fd_are_rules_of := h.i10
instance (priority := low) rc11 [h : RC Γ] : HasM Γ 0 "__init__" fd_Rules___init__ := h.i11
instance (priority := low) rc12 [h : RC Γ] : HasM Γ 0 "marks" fd_Rules_marks := h.i12
instance (priority := low) rc13 [h : RC Γ] : HasM Γ 0 "rows" fd_Rules_rows := h.i13
instance (priority := low) rc14 [h : RC Γ] : HasM Γ 0 "need_row" fd_Rules_need_row := h.i14
instance (priority := low) rc15 [h : RC Γ] : HasM Γ 0 "__getitem__" fd_Rules___getitem__ := h.i15
instance (priority := low) rc16 [h : RC Γ] : HasM Γ 0 "__len__" fd_Rules___len__ := h.i16
instance (priority := low) rc17 [h : RC Γ] : HasM Γ 0 "closing" fd_Rules_closing := h.i17
instance (priority := low) rc18 [h : RC Γ] : HasM Γ 0 "__call__" fd_Rules___call__ := h.i18
instance (priority := low) rc19 [h : RC Γ] : HasM Γ 0 "broken_by" fd_Rules_broken_by := h.i19
instance (priority := low) rc20 [h : RC Γ] : HasM Γ 0 "__contains__" fd_Rules___contains__ := h.i20
instance (priority := low) rc21 [h : RC Γ] : HasM Γ 0 "__add__" fd_Rules___add__ := h.i21
instance (priority := low) rc22 [h : RC Γ] : HasM Γ 0 "__or__" fd_Rules___or__ := h.i22
end
end Ev
set_option Elab.async false
set_option linter.all false
/-! trees of defs that several laws reach (printed by gen.py) -/
namespace Ev
open PySem
def b__law_joined_right : Ss :=
.cons (.set2 6 7 false false (.dun .bor (.var 1) (.var 2) [0, 1]) (.call "_law_lot" (.cons (.var 0) (.cons (.fld (.var 1) "marks" [(0, none), (1, none), (2, none), (3, none)]) (.nil))))) <|
.cons (.set 3 false (.meth (.var 6) "cut" [1] (.cons (.var 7) (.nil)))) <|
.cons (.fors (.one 4) (.seq (.call "all_lots" (.cons (.fld (.var 1) "marks" [(0, none), (1, none), (2, none), (3, none)]) (.nil))))
(.cons (.ifs (.cmp .ne (.app (.var 6) [0, 1, 5] (.cons (.var 4) (.nil))) (.call "common" (.cons (.app (.var 1) [0, 1, 5] (.cons (.var 4) (.nil))) (.cons (.app (.var 2) [0, 1, 5] (.cons (.var 4) (.nil))) (.nil)))))
(.cons (.ret (.con (.bl false))) .nil)
(.nil)) .nil)) <|
.cons (.fors (.one 4) (.seq (.call "all_lots" (.cons (.var 7) (.nil))))
(.cons (.ifs (.cmp .ne (.app (.var 3) [0, 1, 5] (.cons (.var 4) (.nil))) (.call "common" (.cons (.app (.var 6) [0, 1, 5] (.cons (.var 4) (.nil))) (.cons (.var 7) (.nil)))))
(.cons (.ret (.con (.bl false))) .nil)
(.nil)) .nil)) <|
.cons (.fors (.one 5) (.rng (.con (.int 6)))
(.cons (.set 8 false (.call "_law_rule" (.cons (.var 0) (.cons (.fld (.var 1) "marks" [(0, none), (1, none), (2, none), (3, none)]) (.nil))))) <|
.cons (.ifs (.cmp .ne (.meth (.var 6) "keeps" [1] (.cons (.var 8) (.nil))) (.and (.meth (.var 1) "keeps" [1] (.cons (.var 8) (.nil))) (.meth (.var 2) "keeps" [1] (.cons (.var 8) (.nil)))))
(.cons (.ret (.con (.bl false))) .nil)
(.nil)) <|
.cons (.ifs (.cmp .ne (.meth (.var 6) "keeps" [1] (.cons (.var 8) (.nil))) (.cmp .eq (.call "joined" (.cons (.idx (.var 8) (.con (.int 1))) (.cons (.app (.var 6) [0, 1, 5] (.cons (.idx (.var 8) (.con (.int 0))) (.nil))) (.nil)))) (.app (.var 6) [0, 1, 5] (.cons (.idx (.var 8) (.con (.int 0))) (.nil)))))
(.cons (.ret (.con (.bl false))) .nil)
(.nil)) .nil)) <|
.cons (.ret (.con (.bl true))) .nil
abbrev fd__law_joined_right : Fd := ⟨3, 9, b__law_joined_right⟩
def b__law_kept_rules : Ss :=
.cons (.set 1 true (.lst (.nil))) <|
.cons (.fors (.one 2) (.seq (.call "all_lots" (.cons (.fld (.var 0) "marks" [(0, none), (1, none), (2, none), (3, none)]) (.nil))))
(.cons (.mut .append 1 (.cons (.tup (.cons (.var 2) (.cons (.blt .tuple (.lc (.one 3) [3] (.seq (.fld (.var 0) "marks" [(0, none), (1, none), (2, none), (3, none)])) (.yes (.meth (.var 0) "keeps" [1] (.cons (.tup (.cons (.var 2) (.cons (.tup (.cons (.var 3) (.nil))) (.nil)))) (.nil)))) (.var 3))) (.nil)))) (.nil))) .nil)) <|
.cons (.ret (.mk 0 (.cons (.fld (.var 0) "marks" [(0, none), (1, none), (2, none), (3, none)]) (.cons (.var 1) (.nil))))) .nil
abbrev fd__law_kept_rules : Fd := ⟨1, 4, b__law_kept_rules⟩
def b__law_table : Ss :=
.cons (.set 3 true (.lc (.one 4) [4] (.rng (.call "_law_take" (.cons (.var 0) (.cons (.bin .add (.var 2) (.con (.int 1))) (.nil))))) (.no) (.call "_law_lot" (.cons (.var 0) (.cons (.var 1) (.nil)))))) <|
.cons (.ifs (.and (.cmp .gt (.blt .len (.var 3)) (.con (.int 1))) (.cmp .eq (.call "_law_take" (.cons (.var 0) (.cons (.con (.int 3)) (.nil)))) (.con (.int 0))))
(.cons (.lput 3 (.neg (.con (.int 1))) (.idx (.var 3) (.con (.int 0)))) .nil)
(.nil)) <|
.cons (.ret (.var 3)) .nil
abbrev fd__law_table : Fd := ⟨3, 5, b__law_table⟩
def b_Table___add__ : Ss :=
.cons (.ifs (.not (.call "is_lot_of" (.cons (.fld (.var 0) "its_marks" [(1, some 0)]) (.cons (.var 1) (.nil)))))
(.cons (.never) .nil)
(.nil)) <|
.cons (.ret (.mk 1 (.cons (.fld (.var 0) "its_marks" [(1, some 0)]) (.cons (.lst (.star (.fld (.var 0) "its_lots" [(1, some 1)]) (.cons (.var 1) (.nil)))) (.nil))))) .nil
abbrev fd_Table___add__ : Fd := ⟨2, 2, b_Table___add__⟩
def b_Table___call__ : Ss :=
.cons (.ret (.meth (.var 0) "closing" [1] (.cons (.var 1) (.nil)))) .nil
abbrev fd_Table___call__ : Fd := ⟨2, 2, b_Table___call__⟩
def b_Table___contains__ : Ss :=
.cons (.ret (.and (.call "is_lot" (.cons (.var 1) (.nil))) (.cmp .isin (.var 1) (.fld (.var 0) "its_lots" [(1, some 1)])))) .nil
abbrev fd_Table___contains__ : Fd := ⟨2, 2, b_Table___contains__⟩
def b_Table_closing : Ss :=
.cons (.set 2 false (.fld (.var 0) "its_marks" [(1, some 0)])) <|
.cons (.fors (.one 3) (.seq (.fld (.var 0) "its_lots" [(1, some 1)]))
(.cons (.ifs (.call "within" (.cons (.var 1) (.cons (.var 3) (.nil))))
(.cons (.set 2 false (.call "common" (.cons (.var 2) (.cons (.var 3) (.nil))))) .nil)
(.nil)) .nil)) <|
.cons (.ret (.var 2)) .nil
abbrev fd_Table_closing : Fd := ⟨2, 4, b_Table_closing⟩
def b_Table_keeps : Ss :=
.cons (.ret (.not (.blt .any (.lc (.one 2) [2] (.seq (.fld (.var 0) "its_lots" [(1, some 1)])) (.no) (.call "breaks" (.cons (.var 2) (.cons (.var 1) (.nil)))))))) .nil
abbrev fd_Table_keeps : Fd := ⟨2, 3, b_Table_keeps⟩
def b_Table___init__ : Ss :=
.cons (.ifs (.not (.call "is_lot" (.cons (.var 1) (.nil))))
(.cons (.never) .nil)
(.nil)) <|
.cons (.ifs (.or (.not (.isi (.var 2) [.list, .tuple])) (.not (.blt .all (.lc (.one 3) [3] (.seq (.var 2)) (.no) (.call "is_lot_of" (.cons (.var 1) (.cons (.var 3) (.nil))))))))
(.cons (.never) .nil)
(.nil)) <|
.cons (.fset 0 "its_marks" 1 0 (.var 1)) <|
.cons (.fset 0 "its_lots" 1 1 (.blt .list (.var 2))) .nil
abbrev fd_Table___init__ : Fd := ⟨3, 4, b_Table___init__⟩
def b_Table___or__ : Ss :=
.cons (.ifs (.cmp .ne (.fld (.var 0) "its_marks" [(1, some 0)]) (.fld (.var 1) "marks" [(0, none), (1, none), (2, none), (3, none)]))
(.cons (.never) .nil)
(.nil)) <|
.cons (.ret (.mk 1 (.cons (.fld (.var 0) "its_marks" [(1, some 0)]) (.cons (.bin .add (.fld (.var 0) "its_lots" [(1, some 1)]) (.meth (.var 1) "lots" [1, 5] (.nil))) (.nil))))) .nil
abbrev fd_Table___or__ : Fd := ⟨2, 2, b_Table___or__⟩
def b_Table_cut : Ss :=
.cons (.ret (.mk 1 (.cons (.var 1) (.cons (.lc (.one 2) [2] (.seq (.fld (.var 0) "its_lots" [(1, some 1)])) (.no) (.call "common" (.cons (.var 2) (.cons (.var 1) (.nil))))) (.nil))))) .nil
abbrev fd_Table_cut : Fd := ⟨2, 3, b_Table_cut⟩
def b_Table_marks : Ss :=
.cons (.ret (.fld (.var 0) "its_marks" [(1, some 0)])) .nil
abbrev fd_Table_marks : Fd := ⟨1, 1, b_Table_marks⟩
def b_is_lot_of : Ss :=
.cons (.ret (.and (.call "is_lot" (.cons (.var 1) (.nil))) (.call "within" (.cons (.var 1) (.cons (.var 0) (.nil)))))) .nil
abbrev fd_is_lot_of : Fd := ⟨2, 2, b_is_lot_of⟩
def b_Table_lots : Ss :=
.cons (.ret (.blt .list (.fld (.var 0) "its_lots" [(1, some 1)]))) .nil
abbrev fd_Table_lots : Fd := ⟨1, 1, b_Table_lots⟩
def b_Table___len__ : Ss :=
.cons (.ret (.blt .len (.fld (.var 0) "its_lots" [(1, some 1)]))) .nil
abbrev fd_Table___len__ : Fd := ⟨1, 1, b_Table___len__⟩
end Ev
set_option Elab.async false
set_option linter.all false
set_option autoImplicit false
/-! PC2: defs that go together: Table. -/
namespace Ev
open PySem M
/-- the defs of Table and what they call -/
class TC (Γ : Fn → Option Fd) : Prop where
  i1 : Has Γ "common" fd_common
  i2 : Has Γ "in_order" fd_in_order
  i3 : Has Γ "within" fd_within
  i4 : Has Γ "is_mark" fd_is_mark
  i5 : Has Γ "is_lot" fd_is_lot
  i6 : Has Γ "is_lot_of" fd_is_lot_of
  i7 : HasM Γ 1 "__init__" fd_Table___init__
  i8 : HasM Γ 1 "marks" fd_Table_marks
  i9 : HasM Γ 1 "lots" fd_Table_lots
  i10 : HasM Γ 1 "__len__" fd_Table___len__
  i11 : HasM Γ 1 "closing" fd_Table_closing
  i12 : HasM Γ 1 "__call__" fd_Table___call__
  i13 : HasM Γ 1 "__contains__" fd_Table___contains__
  i14 : HasM Γ 1 "__add__" fd_Table___add__
  i15 : HasM Γ 1 "__or__" fd_Table___or__
section
variable {Γ : Fn → Option Fd}
instance (priority := low) tc1 [h : TC Γ] : Has Γ "common" fd_common := h.i1
instance (priority := low) tc2 [h : TC Γ] : Has Γ "in_order" fd_in_order := h.i2
instance (priority := low) tc3 [h : TC Γ] : Has Γ "within" fd_within := h.i3
instance (priority := low) tc4 [h : TC Γ] : Has Γ "is_mark" fd_is_mark := h.i4
instance (priority := low) tc5 [h : TC Γ] : Has Γ "is_lot" fd_is_lot := h.i5
instance (priority := low) tc6 [h : TC Γ] : Has Γ "is_lot_of" fd_is_lot_of := h.i6
instance (priority := low) tc7 [h : TC Γ] : HasM Γ 1 "__init__" fd_Table___init__ := h.i7
instance (priority := low) tc8 [h : TC Γ] : HasM Γ 1 "marks" fd_Table_marks := h.i8
instance (priority := low) tc9 [h : TC Γ] : HasM Γ 1 "lots" fd_Table_lots := h.i9
instance (priority := low) tc10 [h : TC Γ] : HasM Γ 1 "__len__" fd_Table___len__ := h.i10
instance (priority := low) tc11 [h : TC Γ] : HasM Γ 1 "closing" fd_Table_closing := h.i11
instance (priority := low) tc12 [h : TC Γ] : HasM Γ 1 "__call__" fd_Table___call__ := h.i12
instance (priority := low) tc13 [h : TC Γ] : HasM Γ 1 "__contains__" fd_Table___contains__ := h.i13
instance (priority := low) tc14 [h : TC Γ] : HasM Γ 1 "__add__" fd_Table___add__ := h.i14
instance (priority := low) tc15 [h : TC Γ] : HasM Γ 1 "__or__" fd_Table___or__ := h.i15
end
end Ev
set_option Elab.async false
set_option linter.all false
/-! trees of defs that several laws reach (printed by gen.py) -/
namespace Ev
open PySem
def b__law_right_v1 : Ss :=
.cons (.set 3 false (.call "_law_narrow" (.cons (.var 2) (.nil)))) <|
.cons (.fors (.one 4) (.rng (.con (.int 3)))
(.cons (.set 6 true (.call "narrow" (.cons (.var 0) (.nil)))) <|
.cons (.ifs (.not (.call "_law_alike" (.cons (.var 6) (.cons (.var 3) (.nil)))))
(.cons (.ret (.con (.bl false))) .nil)
(.nil)) <|
.cons (.mut .append 6 (.cons (.con .non) (.nil))) .nil)) <|
.cons (.set 5 false (.call "table_of" (.cons (.var 0) (.nil)))) <|
.cons (.retc "_law_alike" (.cons (.lst (.cons (.fld (.var 5) "marks" [(0, none), (1, none), (2, none), (3, none)]) (.cons (.meth (.var 5) "lots" [1, 5] (.nil)) (.nil)))) (.cons (.lst (.cons (.var 1) (.cons (.lc (.one 7) [7] (.seq (.var 3)) (.no) (.idx (.var 7) (.con (.int 0)))) (.nil)))) (.nil)))) .nil
abbrev fd__law_right_v1 : Fd := ⟨3, 8, b__law_right_v1⟩
def b__law_narrow : Ss :=
.cons (.set 1 true (.lst (.nil))) <|
.cons (.fors (.one 2) (.seq (.var 0))
(.cons (.set 3 false (.lc (.one 5) [5] (.seq (.var 0)) (.yes (.and (.cmp .ne (.var 5) (.var 2)) (.call "_law_within" (.cons (.var 2) (.cons (.var 5) (.nil)))))) (.var 5))) <|
.cons (.set 4 false (.lc (.one 5) [5] (.seq (.var 3)) (.yes (.cmp .eq (.lc (.one 6) [6] (.seq (.var 3)) (.yes (.and (.cmp .ne (.var 6) (.var 5)) (.call "_law_within" (.cons (.var 6) (.cons (.var 5) (.nil)))))) (.var 6)) (.lst (.nil)))) (.var 5))) <|
.cons (.ifs (.cmp .eq (.blt .len (.var 4)) (.con (.int 1)))
(.cons (.mut .append 1 (.cons (.tup (.cons (.var 2) (.cons (.idx (.var 4) (.con (.int 0))) (.nil)))) (.nil))) .nil)
(.nil)) .nil)) <|
.cons (.ret (.var 1)) .nil
abbrev fd__law_narrow : Fd := ⟨1, 7, b__law_narrow⟩
def b__law_shared : Ss :=
.cons (.set 3 false (.blt .list (.var 0))) <|
.cons (.fors (.one 4) (.seq (.var 1))
(.cons (.ifs (.call "_law_within" (.cons (.var 2) (.cons (.var 4) (.nil))))
(.cons (.set 3 false (.lc (.one 5) [5] (.seq (.var 3)) (.yes (.cmp .isin (.var 5) (.var 4))) (.var 5))) .nil)
(.nil)) .nil)) <|
.cons (.ret (.blt .tuple (.var 3))) .nil
abbrev fd__law_shared : Fd := ⟨3, 6, b__law_shared⟩
def b_narrow : Ss :=
.cons (.set 1 true (.lst (.nil))) <|
.cons (.fors (.one 2) (.seq (.call "closed_lots" (.cons (.var 0) (.nil))))
(.cons (.set 3 false (.call "next_ones" (.cons (.var 0) (.cons (.var 2) (.nil))))) <|
.cons (.ifs (.cmp .eq (.blt .len (.var 3)) (.con (.int 1)))
(.cons (.mut .append 1 (.cons (.tup (.cons (.var 2) (.cons (.idx (.var 3) (.con (.int 0))) (.nil)))) (.nil))) .nil)
(.nil)) .nil)) <|
.cons (.ret (.var 1)) .nil
abbrev fd_narrow : Fd := ⟨1, 4, b_narrow⟩
def b_table_of : Ss :=
.cons (.ret (.mk 1 (.cons (.fld (.var 0) "marks" [(0, none), (1, none), (2, none), (3, none)]) (.cons (.lc (.tup [1, 2]) [1, 2] (.seq (.call "narrow" (.cons (.var 0) (.nil)))) (.no) (.var 1)) (.nil))))) .nil
abbrev fd_table_of : Fd := ⟨1, 3, b_table_of⟩
def b_closed_lots : Ss :=
.cons (.ret (.lc (.one 1) [1] (.seq (.call "all_lots" (.cons (.fld (.var 0) "marks" [(0, none), (1, none), (2, none), (3, none)]) (.nil)))) (.yes (.cmp .eq (.meth (.var 0) "closing" [0, 1] (.cons (.var 1) (.nil))) (.var 1))) (.var 1))) .nil
abbrev fd_closed_lots : Fd := ⟨1, 2, b_closed_lots⟩
def b_next_ones : Ss :=
.cons (.expr (.call "need_closed" (.cons (.var 0) (.cons (.var 1) (.nil))))) <|
.cons (.set 2 true (.lst (.nil))) <|
.cons (.fors (.one 3) (.seq (.fld (.var 0) "marks" [(0, none), (1, none), (2, none), (3, none)]))
(.cons (.set 4 false (.meth (.var 0) "closing" [0, 1] (.cons (.call "joined" (.cons (.var 1) (.cons (.tup (.cons (.var 3) (.nil))) (.nil)))) (.nil)))) <|
.cons (.ifs (.and (.cmp .notin (.var 3) (.var 1)) (.cmp .notin (.var 4) (.var 2)))
(.cons (.mut .append 2 (.cons (.var 4) (.nil))) .nil)
(.nil)) .nil)) <|
.cons (.retc "in_order" (.cons (.lc (.one 5) [5] (.seq (.var 2)) (.yes (.not (.blt .any (.lc (.one 6) [6] (.seq (.var 2)) (.no) (.and (.cmp .ne (.var 6) (.var 5)) (.call "within" (.cons (.var 6) (.cons (.var 5) (.nil))))))))) (.var 5)) (.nil))) .nil
abbrev fd_next_ones : Fd := ⟨2, 7, b_next_ones⟩
def b_need_closed : Ss :=
.cons (.ifs (.not (.call "is_closed" (.cons (.var 0) (.cons (.var 1) (.nil)))))
(.cons (.never) .nil)
(.nil)) .nil
abbrev fd_need_closed : Fd := ⟨2, 2, b_need_closed⟩
def b_is_closed : Ss :=
.cons (.ret (.and (.call "is_lot" (.cons (.var 1) (.nil))) (.and (.call "within" (.cons (.var 1) (.cons (.fld (.var 0) "marks" [(0, none), (1, none), (2, none), (3, none)]) (.nil)))) (.cmp .eq (.meth (.var 0) "closing" [0, 1] (.cons (.var 1) (.nil))) (.var 1))))) .nil
abbrev fd_is_closed : Fd := ⟨2, 2, b_is_closed⟩
end Ev
set_option Elab.async false
set_option linter.all false
/-! trees of defs that several laws reach (printed by gen.py) -/
namespace Ev
open PySem
def b__law_right_v2 : Ss :=
.cons (.set2 4 5 false false (.call "closed_lots" (.cons (.var 1) (.nil))) (.call "table_of" (.cons (.var 1) (.nil)))) <|
.cons (.ifs (.or (.not (.call "_law_same" (.cons (.var 1) (.cons (.var 5) (.nil))))) (.cmp .ne (.lc (.tup [7, 11]) [7, 11] (.seq (.call "narrow" (.cons (.var 1) (.nil)))) (.no) (.var 7)) (.meth (.var 5) "lots" [1, 5] (.nil))))
(.cons (.ret (.con (.bl false))) .nil)
(.nil)) <|
.cons (.set 2 false (.sli (.call "_law_mixed" (.cons (.var 0) (.cons (.var 4) (.nil)))) (.no) (.yes (.call "_law_take" (.cons (.var 0) (.cons (.con (.int 7)) (.nil))))))) <|
.cons (.set 3 false (.mk 1 (.cons (.fld (.var 1) "marks" [(0, none), (1, none), (2, none), (3, none)]) (.cons (.call "_law_mixed" (.cons (.var 0) (.cons (.bin .add (.bin .add (.meth (.var 5) "lots" [1, 5] (.nil)) (.var 2)) (.sli (.meth (.var 5) "lots" [1, 5] (.nil)) (.no) (.yes (.con (.int 2))))) (.nil)))) (.nil))))) <|
.cons (.ifs (.not (.call "_law_same" (.cons (.var 1) (.cons (.var 3) (.nil)))))
(.cons (.ret (.con (.bl false))) .nil)
(.nil)) <|
.cons (.fors (.tup [6, 7]) (.enm (.meth (.var 5) "lots" [1, 5] (.nil)))
(.cons (.set 8 false (.meth (.var 5) "without" [0, 1] (.cons (.var 6) (.nil)))) <|
.cons (.ifs (.or (.cmp .eq (.meth (.var 8) "closing" [0, 1] (.cons (.var 7) (.nil))) (.var 7)) (.not (.call "within" (.cons (.idx (.call "next_ones" (.cons (.var 1) (.cons (.var 7) (.nil)))) (.con (.int 0))) (.cons (.meth (.var 8) "closing" [0, 1] (.cons (.var 7) (.nil))) (.nil))))))
(.cons (.ret (.con (.bl false))) .nil)
(.nil)) <|
.cons (.set 9 false (.mk 1 (.cons (.fld (.var 1) "marks" [(0, none), (1, none), (2, none), (3, none)]) (.cons (.lc (.one 10) [10] (.seq (.meth (.var 3) "lots" [1, 5] (.nil))) (.yes (.cmp .ne (.var 10) (.var 7))) (.var 10)) (.nil))))) <|
.cons (.ifs (.cmp .eq (.meth (.var 9) "closing" [0, 1] (.cons (.var 7) (.nil))) (.var 7))
(.cons (.ret (.con (.bl false))) .nil)
(.nil)) .nil)) <|
.cons (.ret (.con (.bl true))) .nil
abbrev fd__law_right_v2 : Fd := ⟨2, 12, b__law_right_v2⟩
def b__law_numbers_right : Ss :=
.cons (.set 2 false (.call "count" (.cons (.var 1) (.nil)))) <|
.cons (.fors (.one 3) (.rng (.con (.int 8)))
(.cons (.set2 4 5 false false (.call "_law_take" (.cons (.var 0) (.cons (.var 2) (.nil)))) (.call "_law_take" (.cons (.var 0) (.cons (.var 2) (.nil))))) <|
.cons (.set2 6 7 false false (.call "lot_at" (.cons (.var 1) (.cons (.var 4) (.nil)))) (.call "lot_at" (.cons (.var 1) (.cons (.var 5) (.nil))))) <|
.cons (.ifs (.or (.cmp .ne (.call "comes_before" (.cons (.var 6) (.cons (.var 7) (.nil)))) (.cmp .lt (.var 4) (.var 5))) (.cmp .ne (.call "number_of" (.cons (.var 1) (.cons (.var 6) (.nil)))) (.var 4)))
(.cons (.ret (.con (.bl false))) .nil)
(.nil)) <|
.cons (.ifs (.or (.not (.call "is_closed" (.cons (.var 1) (.cons (.call "common" (.cons (.var 6) (.cons (.var 7) (.nil)))) (.nil))))) (.and (.call "within" (.cons (.var 6) (.cons (.var 7) (.nil)))) (.cmp .gt (.var 4) (.var 5))))
(.cons (.ret (.con (.bl false))) .nil)
(.nil)) .nil)) <|
.cons (.ret (.and (.cmp .eq (.call "lot_at" (.cons (.var 1) (.cons (.bin .sub (.var 2) (.con (.int 1))) (.nil)))) (.fld (.var 1) "marks" [(0, none), (1, none), (2, none), (3, none)])) (.cmp .eq (.call "lot_at" (.cons (.var 1) (.cons (.con (.int 0)) (.nil)))) (.meth (.var 1) "closing" [0, 1] (.cons (.tup (.nil)) (.nil)))))) .nil
abbrev fd__law_numbers_right : Fd := ⟨2, 8, b__law_numbers_right⟩
def b_count : Ss :=
.cons (.ret (.blt .len (.call "closed_lots" (.cons (.var 0) (.nil))))) .nil
abbrev fd_count : Fd := ⟨1, 1, b_count⟩
def b_lot_at : Ss :=
.cons (.set 2 false (.call "closed_lots" (.cons (.var 0) (.nil)))) <|
.cons (.ifs (.or (.not (.call "is_integer" (.cons (.var 1) (.nil)))) (.not (.chain .le .lt (.con (.int 0)) (.var 1) (.blt .len (.var 2)))))
(.cons (.never) .nil)
(.nil)) <|
.cons (.ret (.idx (.var 2) (.var 1))) .nil
abbrev fd_lot_at : Fd := ⟨2, 3, b_lot_at⟩
def b_number_of : Ss :=
.cons (.expr (.call "need_closed" (.cons (.var 0) (.cons (.var 1) (.nil))))) <|
.cons (.ret (.lidx (.call "closed_lots" (.cons (.var 0) (.nil))) (.var 1))) .nil
abbrev fd_number_of : Fd := ⟨2, 2, b_number_of⟩
def b__law_same : Ss :=
.cons (.ret (.cmp .eq (.lc (.one 2) [2] (.seq (.call "all_lots" (.cons (.fld (.var 0) "marks" [(0, none), (1, none), (2, none), (3, none)]) (.nil)))) (.yes (.cmp .ne (.meth (.var 0) "closing" [0, 1] (.cons (.var 2) (.nil))) (.meth (.var 1) "closing" [0, 1] (.cons (.var 2) (.nil))))) (.var 2)) (.lst (.nil)))) .nil
abbrev fd__law_same : Fd := ⟨2, 3, b__law_same⟩
def b_Table_without : Ss :=
.cons (.ifs (.or (.not (.call "is_integer" (.cons (.var 1) (.nil)))) (.not (.chain .le .lt (.con (.int 0)) (.var 1) (.blt .len (.fld (.var 0) "its_lots" [(1, some 1)])))))
(.cons (.never) .nil)
(.nil)) <|
.cons (.ret (.mk 1 (.cons (.fld (.var 0) "its_marks" [(1, some 0)]) (.cons (.bin .add (.sli (.fld (.var 0) "its_lots" [(1, some 1)]) (.no) (.yes (.var 1))) (.sli (.fld (.var 0) "its_lots" [(1, some 1)]) (.yes (.bin .add (.var 1) (.con (.int 1)))) (.no))) (.nil))))) .nil
abbrev fd_Table_without : Fd := ⟨2, 2, b_Table_without⟩
end Ev
set_option Elab.async false
set_option linter.all false
set_option maxRecDepth 100000
/-! the trees of the defs of w_thesesothose_k36_whole_narrow_lots_are_n (printed by gen.py) -/
namespace Ev.T
open PySem Ev
def b_law : Ss :=
.cons (.fors (.one 2) (.rng (.con (.int 2)))
(.cons (.set 3 false (.call "_law_marks" (.cons (.var 1) (.cons (.call "_law_take" (.cons (.var 1) (.cons (.con (.int 7)) (.nil)))) (.nil))))) <|
.cons (.fors (.one 4) (.seq (.lst (.cons (.mk 0 (.cons (.var 3) (.cons (.call "_law_some_rows" (.cons (.var 1) (.cons (.var 3) (.cons (.con (.int 8)) (.nil))))) (.nil)))) (.cons (.mk 1 (.cons (.var 3) (.cons (.call "_law_table" (.cons (.var 1) (.cons (.var 3) (.cons (.con (.int 9)) (.nil))))) (.nil)))) (.nil)))))
(.cons (.ifs (.or (.not (.call "_law_right" (.cons (.var 1) (.cons (.var 4) (.nil))))) (.not (.call "_law_numbers_right" (.cons (.var 1) (.cons (.var 4) (.nil))))))
(.cons (.ret (.con (.bl false))) .nil)
(.nil)) .nil)) .nil)) <|
.cons (.ret (.con (.bl true))) .nil
def fns : List Str := [("lot_of" : Str), ("rank" : Str), ("in_order" : Str), ("all_lots" : Str), ("comes_before" : Str), ("within" : Str), ("joined" : Str), ("common" : Str), ("is_integer" : Str), ("is_mark" : Str), ("is_lot" : Str), ("is_rule" : Str), ("is_closed" : Str), ("closed_lots" : Str), ("count" : Str), ("need_closed" : Str), ("number_of" : Str), ("lot_at" : Str), ("next_ones" : Str), ("narrow" : Str), ("breaks" : Str), ("is_rule_of" : Str), ("are_rules_of" : Str), ("is_lot_of" : Str), ("table_of" : Str), ("_law_take" : Str), ("_law_mixed" : Str), ("_law_marks" : Str), ("_law_lot" : Str), ("_law_few" : Str), ("_law_rule" : Str), ("_law_some_rows" : Str), ("_law_table" : Str), ("_law_same" : Str), ("_law_right" : Str), ("_law_numbers_right" : Str)]
def rks : List Str := ["rank"]
def cst : List (Str × Str) := [("LETTERS", "abcdefghijklmnopqrstuvwxyz")]
def cT0 : ClsT := ⟨"Rules", ["its_marks", "its_rows"], ["rows", "need_row", "__getitem__", "__len__", "closing", "__call__", "broken_by", "__contains__", "__add__", "without", "__or__"], ["marks"]⟩
def cT1 : ClsT := ⟨"Table", ["its_marks", "its_lots"], ["lots", "__len__", "__call__", "closing", "__contains__", "__add__", "without", "__or__"], ["marks"]⟩
def cls : List ClsT := [cT0, cT1]
def tb : Tab := ⟨fns, rks, cst, cls, false⟩
theorem cls0 : tb.cls[0]? = some cT0 := by rfl
theorem cls1 : tb.cls[1]? = some cT1 := by rfl
def tab : List (Str × Fd) := [(("lot_of" : Str), fd_lot_of), (("rank" : Str), fd_rank), (("in_order" : Str), fd_in_order), (("all_lots" : Str), fd_all_lots), (("comes_before" : Str), fd_comes_before), (("within" : Str), fd_within), (("joined" : Str), fd_joined), (("common" : Str), fd_common), (("is_integer" : Str), fd_is_integer), (("is_mark" : Str), fd_is_mark), (("is_lot" : Str), fd_is_lot), (("is_rule" : Str), fd_is_rule), (("is_closed" : Str), fd_is_closed), (("closed_lots" : Str), fd_closed_lots), (("count" : Str), fd_count), (("need_closed" : Str), fd_need_closed), (("number_of" : Str), fd_number_of), (("lot_at" : Str), fd_lot_at), (("next_ones" : Str), fd_next_ones), (("narrow" : Str), fd_narrow), (("breaks" : Str), fd_breaks), (("is_rule_of" : Str), fd_is_rule_of), (("are_rules_of" : Str), fd_are_rules_of), (("is_lot_of" : Str), fd_is_lot_of), (("table_of" : Str), fd_table_of), (("_law_take" : Str), fd__law_take), (("_law_mixed" : Str), fd__law_mixed), (("_law_marks" : Str), fd__law_marks), (("_law_lot" : Str), fd__law_lot), (("_law_few" : Str), fd__law_few), (("_law_rule" : Str), fd__law_rule), (("_law_some_rows" : Str), fd__law_some_rows), (("_law_table" : Str), fd__law_table), (("_law_same" : Str), fd__law_same), (("_law_right" : Str), fd__law_right_v2), (("_law_numbers_right" : Str), fd__law_numbers_right)]
def mtab : List (List (Str × Fd)) := [[("__init__", fd_Rules___init__), ("marks", fd_Rules_marks), ("rows", fd_Rules_rows), ("need_row", fd_Rules_need_row), ("__getitem__", fd_Rules___getitem__), ("__len__", fd_Rules___len__), ("closing", fd_Rules_closing), ("__call__", fd_Rules___call__), ("broken_by", fd_Rules_broken_by), ("__contains__", fd_Rules___contains__), ("__add__", fd_Rules___add__), ("without", fd_Rules_without), ("__or__", fd_Rules___or__)], [("__init__", fd_Table___init__), ("marks", fd_Table_marks), ("lots", fd_Table_lots), ("__len__", fd_Table___len__), ("__call__", fd_Table___call__), ("closing", fd_Table_closing), ("__contains__", fd_Table___contains__), ("__add__", fd_Table___add__), ("without", fd_Table_without), ("__or__", fd_Table___or__)]]
def Γ : Fn → Option Fd
  | .f x => tab.lookup x
  | .m c x => (mtab.getD c []).lookup x
  | _ => none
instance has_lot_of : Has Γ "lot_of" fd_lot_of := ⟨by rfl⟩
instance has_rank : Has Γ "rank" fd_rank := ⟨by rfl⟩
instance has_in_order : Has Γ "in_order" fd_in_order := ⟨by rfl⟩
instance has_all_lots : Has Γ "all_lots" fd_all_lots := ⟨by rfl⟩
instance has_comes_before : Has Γ "comes_before" fd_comes_before := ⟨by rfl⟩
instance has_within : Has Γ "within" fd_within := ⟨by rfl⟩
instance has_joined : Has Γ "joined" fd_joined := ⟨by rfl⟩
instance has_common : Has Γ "common" fd_common := ⟨by rfl⟩
instance has_is_integer : Has Γ "is_integer" fd_is_integer := ⟨by rfl⟩
instance has_is_mark : Has Γ "is_mark" fd_is_mark := ⟨by rfl⟩
instance has_is_lot : Has Γ "is_lot" fd_is_lot := ⟨by rfl⟩
instance has_is_rule : Has Γ "is_rule" fd_is_rule := ⟨by rfl⟩
instance has_is_closed : Has Γ "is_closed" fd_is_closed := ⟨by rfl⟩
instance has_closed_lots : Has Γ "closed_lots" fd_closed_lots := ⟨by rfl⟩
instance has_count : Has Γ "count" fd_count := ⟨by rfl⟩
instance has_need_closed : Has Γ "need_closed" fd_need_closed := ⟨by rfl⟩
instance has_number_of : Has Γ "number_of" fd_number_of := ⟨by rfl⟩
instance has_lot_at : Has Γ "lot_at" fd_lot_at := ⟨by rfl⟩
instance has_next_ones : Has Γ "next_ones" fd_next_ones := ⟨by rfl⟩
instance has_narrow : Has Γ "narrow" fd_narrow := ⟨by rfl⟩
instance has_breaks : Has Γ "breaks" fd_breaks := ⟨by rfl⟩
instance has_is_rule_of : Has Γ "is_rule_of" fd_is_rule_of := ⟨by rfl⟩
instance has_are_rules_of : Has Γ "are_rules_of" fd_are_rules_of := ⟨by rfl⟩
instance has_is_lot_of : Has Γ "is_lot_of" fd_is_lot_of := ⟨by rfl⟩
instance has_table_of : Has Γ "table_of" fd_table_of := ⟨by rfl⟩
instance has__law_take : Has Γ "_law_take" fd__law_take := ⟨by rfl⟩
instance has__law_mixed : Has Γ "_law_mixed" fd__law_mixed := ⟨by rfl⟩
instance has__law_marks : Has Γ "_law_marks" fd__law_marks := ⟨by rfl⟩
instance has__law_lot : Has Γ "_law_lot" fd__law_lot := ⟨by rfl⟩
instance has__law_few : Has Γ "_law_few" fd__law_few := ⟨by rfl⟩
instance has__law_rule : Has Γ "_law_rule" fd__law_rule := ⟨by rfl⟩
instance has__law_some_rows : Has Γ "_law_some_rows" fd__law_some_rows := ⟨by rfl⟩
instance has__law_table : Has Γ "_law_table" fd__law_table := ⟨by rfl⟩
instance has__law_same : Has Γ "_law_same" fd__law_same := ⟨by rfl⟩
instance has__law_right : Has Γ "_law_right" fd__law_right_v2 := ⟨by rfl⟩
instance has__law_numbers_right : Has Γ "_law_numbers_right" fd__law_numbers_right := ⟨by rfl⟩
instance has_Rules___init__ : HasM Γ 0 "__init__" fd_Rules___init__ := ⟨by rfl⟩
instance has_Rules_marks : HasM Γ 0 "marks" fd_Rules_marks := ⟨by rfl⟩
instance has_Rules_rows : HasM Γ 0 "rows" fd_Rules_rows := ⟨by rfl⟩
instance has_Rules_need_row : HasM Γ 0 "need_row" fd_Rules_need_row := ⟨by rfl⟩
instance has_Rules___getitem__ : HasM Γ 0 "__getitem__" fd_Rules___getitem__ := ⟨by rfl⟩
instance has_Rules___len__ : HasM Γ 0 "__len__" fd_Rules___len__ := ⟨by rfl⟩
instance has_Rules_closing : HasM Γ 0 "closing" fd_Rules_closing := ⟨by rfl⟩
instance has_Rules___call__ : HasM Γ 0 "__call__" fd_Rules___call__ := ⟨by rfl⟩
instance has_Rules_broken_by : HasM Γ 0 "broken_by" fd_Rules_broken_by := ⟨by rfl⟩
instance has_Rules___contains__ : HasM Γ 0 "__contains__" fd_Rules___contains__ := ⟨by rfl⟩
instance has_Rules___add__ : HasM Γ 0 "__add__" fd_Rules___add__ := ⟨by rfl⟩
instance has_Rules_without : HasM Γ 0 "without" fd_Rules_without := ⟨by rfl⟩
instance has_Rules___or__ : HasM Γ 0 "__or__" fd_Rules___or__ := ⟨by rfl⟩
instance has_Table___init__ : HasM Γ 1 "__init__" fd_Table___init__ := ⟨by rfl⟩
instance has_Table_marks : HasM Γ 1 "marks" fd_Table_marks := ⟨by rfl⟩
instance has_Table_lots : HasM Γ 1 "lots" fd_Table_lots := ⟨by rfl⟩
instance has_Table___len__ : HasM Γ 1 "__len__" fd_Table___len__ := ⟨by rfl⟩
instance has_Table___call__ : HasM Γ 1 "__call__" fd_Table___call__ := ⟨by rfl⟩
instance has_Table_closing : HasM Γ 1 "closing" fd_Table_closing := ⟨by rfl⟩
instance has_Table___contains__ : HasM Γ 1 "__contains__" fd_Table___contains__ := ⟨by rfl⟩
instance has_Table___add__ : HasM Γ 1 "__add__" fd_Table___add__ := ⟨by rfl⟩
instance has_Table_without : HasM Γ 1 "without" fd_Table_without := ⟨by rfl⟩
instance has_Table___or__ : HasM Γ 1 "__or__" fd_Table___or__ := ⟨by rfl⟩
instance : RC Γ := ⟨inferInstance, inferInstance, inferInstance, inferInstance, inferInstance, inferInstance, inferInstance, inferInstance, inferInstance, inferInstance, inferInstance, inferInstance, inferInstance, inferInstance, inferInstance, inferInstance, inferInstance, inferInstance, inferInstance, inferInstance, inferInstance, inferInstance⟩
instance : TC Γ := ⟨inferInstance, inferInstance, inferInstance, inferInstance, inferInstance, inferInstance, inferInstance, inferInstance, inferInstance, inferInstance, inferInstance, inferInstance, inferInstance, inferInstance, inferInstance⟩
end Ev.T
set_option Elab.async false
set_option linter.all false
set_option autoImplicit false
/-! PL0: lots: ascending rows of texts. -/
namespace Ev
open PySem M
/-- insertion sort -/
def insS (x : Str) : List Str → List Str
  | [] => [x]
  | y :: r => if strLe x y then x :: y :: r else y :: insS x r
def isort : List Str → List Str
  | [] => []
  | x :: r => insS x (isort r)
theorem strLe_tot (a b : Str) : strLe a b = true ∨ strLe b a = true := by
  unfold strLe
  rw [decide_eq_true_eq, decide_eq_true_eq]
  exact List.le_total _ _
theorem strLe_trans {a b c : Str} (h1 : strLe a b = true) (h2 : strLe b c = true) : strLe a c = true := by
  unfold strLe at *
  rw [decide_eq_true_eq] at *
  exact List.le_trans h1 h2
theorem strLe_refl (a : Str) : strLe a a = true := by
  unfold strLe
  rw [decide_eq_true_eq]
  exact List.le_refl _
theorem insS_perm (x : Str) : ∀ l : List Str, (insS x l).Perm (x :: l)
  | [] => .refl _
  | y :: r => by
    rw [insS]
    split
    · exact .refl _
    · exact ((insS_perm x r).cons y).trans (.swap x y r)
theorem isort_perm : ∀ l : List Str, (isort l).Perm l
  | [] => .refl _
  | x :: r => (insS_perm x (isort r)).trans ((isort_perm r).cons x)
theorem insS_le {x : Str} : ∀ {l : List Str}, l.Pairwise (fun a b => strLe a b = true) → (insS x l).Pairwise (fun a b => strLe a b = true)
  | [], _ => List.pairwise_singleton _ _
  | y :: r, h => by
    obtain ⟨h1, h2⟩ := List.pairwise_cons.mp h
    rw [insS]
    split
    · rename_i e
      refine List.pairwise_cons.mpr ⟨fun z hz => ?_, h⟩
      rcases List.mem_cons.mp hz with rfl | hz
      · exact e
      · exact strLe_trans e (h1 z hz)
    · rename_i e
      refine List.pairwise_cons.mpr ⟨fun z hz => ?_, insS_le h2⟩
      rcases List.mem_cons.mp ((insS_perm x r).mem_iff.mp hz) with rfl | hz
      · exact (strLe_tot z y).resolve_left e
      · exact h1 z hz
theorem isort_le : ∀ l : List Str, (isort l).Pairwise (fun a b => strLe a b = true)
  | [] => List.Pairwise.nil
  | _ :: r => insS_le (isort_le r)
theorem mergeSort_isort (l : List Str) : l.mergeSort strLe = isort l := by
  have s1 := PySem.W.sort_pairwise strLe_total l
  exact ((List.mergeSort_perm l strLe).trans (isort_perm l).symm).eq_of_pairwise (fun a b _ _ h1 h2 => strLe_anti h1 h2) s1 (isort_le l)
/-- ascending -/
def Asc (l : List Str) : Prop := l.Pairwise fun a b => a.cps.toList < b.cps.toList
theorem asc_nodup {l : List Str} (h : Asc l) : l.Nodup := h.imp fun {a b} z e => by
  subst e
  exact absurd z (List.lt_irrefl _)
theorem asc_le {l : List Str} (h : Asc l) : l.Pairwise (fun a b => strLe a b = true) := h.imp fun {a b} z => by
  unfold strLe
  rw [decide_eq_true_eq]
  exact List.le_of_lt z
theorem asc_of {l : List Str} (h1 : l.Nodup) (h2 : l.Pairwise fun a b => strLe a b = true) : Asc l := by
  have q := List.Pairwise.and h1 h2
  refine q.imp fun {a b} z => ?_
  obtain ⟨z1, z2⟩ := z
  unfold strLe at z2
  rw [decide_eq_true_eq] at z2
  rcases List.le_iff_lt_or_eq.mp z2 with z3 | z3
  · exact z3
  · exact absurd (PySem.W.str_of_cps z3) z1
/-- two ascending rows with the same texts are one -/
theorem asc_ext {l m : List Str} (h1 : Asc l) (h2 : Asc m) (e : ∀ x, x ∈ l ↔ x ∈ m) : l = m := by
  have p : l.Perm m := (List.perm_ext_iff_of_nodup (asc_nodup h1) (asc_nodup h2)).mpr e
  exact p.eq_of_pairwise (fun a b _ _ q1 q2 => strLe_anti q1 q2) (asc_le h1) (asc_le h2)
theorem sortSet_asc (xs : List Str) : Asc (sortSet xs) := asc_of (sortSet_nodup xs) (sortSet_le xs)
theorem asc_filter {l : List Str} (p : Str → Bool) (h : Asc l) : Asc (l.filter p) := List.Pairwise.filter p h
theorem asc_sub {l m : List Str} (s : l.Sublist m) (h : Asc m) : Asc l := List.Pairwise.sublist s h
theorem sortSet_asc_self {l : List Str} (h : Asc l) : sortSet l = l := asc_ext (sortSet_asc l) h fun _ => sortSet_mem
theorem sortSet_length (xs : List Str) : (sortSet xs).length ≤ xs.length := by
  unfold sortSet
  rw [List.length_mergeSort]
  simpa using addAll_len xs []
theorem isort_asc {l : List Str} (h : l.Nodup) : Asc (isort l) := asc_of ((isort_perm l).nodup_iff.mpr h) (isort_le l)
theorem isort_nodup_eq {l : List Str} (h : l.Nodup) : isort l = sortSet l := asc_ext (isort_asc h) (sortSet_asc l) fun x => by rw [(isort_perm l).mem_iff, sortSet_mem]
/-- sorted, of a list of texts -/
theorem sortOk_strs {xs : List Str} (h : OkL xs) : sortOk (xs.map PyData.str) = true := by
  unfold sortOk
  rw [Bool.and_eq_true, Bool.or_eq_true]
  refine ⟨List.all_eq_true.mpr fun y hy => ?_, .inr (List.all_eq_true.mpr fun y hy => ?_)⟩
  · obtain ⟨x, hx, rfl⟩ := List.mem_map.mp hy
    rw [Bool.and_eq_true]
    refine ⟨?_, List.all_eq_true.mpr fun z hz => ?_⟩
    · unfold SeqAt.shaped
      rw [PyData.canLay0, h x hx]
      rfl
    · obtain ⟨m, _, rfl⟩ := List.mem_map.mp hz
      rfl
  · obtain ⟨x, _, rfl⟩ := List.mem_map.mp hy
    rfl
theorem sorted_strs {xs : List Str} (h : OkL xs) : bltD .sorted (.lst (xs.map .str)) = some (.lst ((isort xs).map .str), .fresh) := by
  show ((D.pys (xs.map .str)).bind fun ys => if sortOk ys = true then some (D.lst ((xs.map D.str).mergeSort (PySem.W.dataLe false pyD)), Kd.fresh) else none) = _
  rw [pys_strs]
  simp only [Option.bind_some]
  rw [sortOk_strs h]
  simp only [if_true]
  congr 3
  rw [← mergeSort_isort]
  have e : strLe = PySem.W.dataLe false (fun x : Str => PyData.str x) := (PySem.W.dataLe_str (fun x : Str => x)).symm
  rw [e]
  exact (List.map_mergeSort (f := D.str) (s := PySem.W.dataLe false pyD) fun a _ c _ => rfl).symm
/-- each text of the first is in the second -/
def sub (a b : List Str) : Bool := a.all fun x => decide (x ∈ b)
theorem sub_iff {a b : List Str} : sub a b = true ↔ ∀ x ∈ a, x ∈ b := by
  unfold sub
  simp
/-- a mark -/
def isMarkB (x : Str) : Bool := decide (0 < x.cps.size) && decide (x.cps.size ≤ 8) && x.cps.all fun c => decide (97 ≤ c) && decide (c ≤ 122)
def ascB : List Str → Bool
  | [] => true
  | [_] => true
  | x :: y :: r => decide (x.cps.toList < y.cps.toList) && ascB (y :: r)
theorem asc_by : ∀ {l : List Str}, ascB l = true → Asc l
  | [], _ => .nil
  | [_], _ => List.pairwise_singleton _ _
  | x :: y :: r, h => by
    rw [ascB, Bool.and_eq_true, decide_eq_true_eq] at h
    have q := asc_by h.2
    refine List.pairwise_cons.mpr ⟨fun z hz => ?_, q⟩
    rcases List.mem_cons.mp hz with rfl | hz
    · exact h.1
    · exact List.lt_trans h.1 ((List.pairwise_cons.mp q).1 z hz)
/-- a row of marks -/
structure Lot (l : List Str) : Prop where
  asc : Asc l
  mark : ∀ x ∈ l, isMarkB x = true
theorem mark_ok {x : Str} (h : isMarkB x = true) : PyData.strOk x = true ∧ x.cps.size ≤ 8 := by
  unfold isMarkB at h
  simp only [Bool.and_eq_true, decide_eq_true_eq, Array.all_eq_true] at h
  refine ⟨?_, h.1.2⟩
  unfold PyData.strOk
  rw [Array.all_eq_true]
  intro i hi
  have := (h.2 i hi).2
  simp only [decide_eq_true_eq]
  omega
theorem Lot.ok {l : List Str} (h : Lot l) : OkL l := fun x hx => (mark_ok (h.mark x hx)).1
theorem nodup_len : ∀ {l m : List Str}, l.Nodup → (∀ x ∈ l, x ∈ m) → l.length ≤ m.length
  | [], m, _, _ => Nat.zero_le _
  | x :: l, m, hn, hs => by
    obtain ⟨h1, h2⟩ := List.nodup_cons.mp hn
    have hx := hs x (List.mem_cons_self ..)
    have ih := nodup_len (l := l) (m := m.erase x) h2 fun y hy => (List.mem_erase_of_ne (fun e : y = x => h1 (e ▸ hy))).mpr (hs y (List.mem_cons_of_mem _ hy))
    rw [List.length_erase_of_mem hx] at ih
    have : 0 < m.length := List.length_pos_of_mem hx
    rw [List.length_cons]
    omega
/-- a lot of some marks -/
structure LotOf (ms l : List Str) : Prop where
  asc : Asc l
  sb : ∀ x ∈ l, x ∈ ms
theorem LotOf.lot {ms l : List Str} (h : LotOf ms l) (m : Lot ms) : Lot l := ⟨h.asc, fun x hx => m.mark x (h.sb x hx)⟩
theorem LotOf.length {ms l : List Str} (h : LotOf ms l) : l.length ≤ ms.length := by
  exact nodup_len (asc_nodup h.asc) h.sb
theorem fine_tD {n : Nat} {l : List Str} (h : Lot l) (hn : l.length * 9 ≤ n) : Fine 1 n (tD l) := fine_tup (k := 0) (n := 8) (fun d hd => by
  obtain ⟨x, hx, rfl⟩ := List.mem_map.mp hd
  exact fine_str (mark_ok (h.mark x hx)).1 (mark_ok (h.mark x hx)).2) (by rw [List.length_map]; exact hn)
theorem fine_tsD {n m : Nat} {ls : List (List Str)} (h : ∀ l ∈ ls, Lot l ∧ l.length * 9 ≤ m) (hn : ls.length * (m + 1) ≤ n) : Fine 2 n (tsD ls) := fine_lst (k := 1) (n := m) (fun d hd => by
  obtain ⟨l, hl, rfl⟩ := List.mem_map.mp hd
  exact fine_tD (h l hl).1 (h l hl).2) (by rw [List.length_map]; exact hn)
end Ev
set_option Elab.async false
set_option linter.all false
set_option autoImplicit false
set_option maxRecDepth 100000
/-! PL1: what the defs of lots answer. -/
namespace Ev
open PySem M
variable {Γ : Fn → Option Fd} {k : Nat}
theorem one_le : (1 : Nat) ≤ sizeLine := by decide
theorem two_le : (2 : Nat) ≤ sizeLine := by decide
theorem f_within [Has Γ "within" fd_within] (a b : List Str) : runF Γ (k + 1) (.f "within") [tD a, tD b] = M.ret (.bl (sub a b), .clean) := by
  have e : evE (runF Γ k) (.lc (.one 2) [2] (.seq (.var 0)) (.no) (.cmp .isin (.var 2) (.var 1))) [.val (tD a), .val (tD b), .no] = M.ret (.lst ((a.map fun x => decide (x ∈ b)).map D.bl), .fresh) :=
    (ev_lcA .str (fun x => .bl (decide (x ∈ b))) a rfl (by simp) fun x _ => by simp [turnM, put1, wipeS, isOwn, inD_str]).trans (by rw [List.map_map]; rfl)
  rw [run_has (np := 2) (n := 3) (body := b_within) rfl]
  simp [b_within, exs_cons, startS, e, -List.map_map]
  rfl
theorem f_common [Has Γ "common" fd_common] (a b : List Str) : runF Γ (k + 1) (.f "common") [tD a, tD b] = M.ret (tD (a.filter fun x => decide (x ∈ b)), .clean) := by
  have e : evE (runF Γ k) (.lc (.one 2) [2] (.seq (.var 0)) (.yes (.cmp .isin (.var 2) (.var 1))) (.var 2)) [.val (tD a), .val (tD b), .no] = M.ret (.lst ((a.filter fun x => decide (x ∈ b)).map D.str), .fresh) :=
    ev_lcP .str (fun x => decide (x ∈ b)) .str a rfl (by simp) fun x _ => by by_cases h : x ∈ b <;> simp [turnM, put1, wipeS, isOwn, inD_str, h]
  rw [run_has (np := 2) (n := 3) (body := b_common) rfl]
  simp [b_common, exs_cons, startS, e, -List.map_map]
theorem f_without [Has Γ "without" fd_without] (a b : List Str) : runF Γ (k + 1) (.f "without") [tD a, tD b] = M.ret (tD (a.filter fun x => !decide (x ∈ b)), .clean) := by
  have e : evE (runF Γ k) (.lc (.one 2) [2] (.seq (.var 0)) (.yes (.cmp .notin (.var 2) (.var 1))) (.var 2)) [.val (tD a), .val (tD b), .no] = M.ret (.lst ((a.filter fun x => !decide (x ∈ b)).map D.str), .fresh) :=
    ev_lcP .str (fun x => !decide (x ∈ b)) .str a rfl (by simp) fun x _ => by by_cases h : x ∈ b <;> simp [turnM, put1, wipeS, isOwn, inD_str, h]
  rw [run_has (np := 2) (n := 3) (body := b_without) rfl]
  simp [b_without, exs_cons, startS, e, -List.map_map]
theorem f_rank [Has Γ "rank" fd_rank] (a : List Str) : runF Γ (k + 1) (.f "rank") [tD a] = M.ret (rankD (tD a), .clean) := by
  rw [run_has (np := 1) (n := 1) (body := b_rank) rfl]
  have h2 := two_le
  simp [b_rank, exs_cons, startS, rankD, lenD, h2]
theorem sortset_lst {xs : List Str} (h : xs.length < 1000) : bltD .sortset (.lst (xs.map .str)) = some (.lst ((sortSet xs).map .str), .fresh) := by
  show ((strsD (xs.map .str)).bind fun ys => if ys.length < 1000 then some (D.lst ((sortSet ys).map .str), Kd.fresh) else none) = _
  rw [strs_map]
  simp [h]
theorem sortset_tup {xs : List Str} (h : xs.length < 1000) : bltD .sortset (.tup (xs.map .str)) = some (.lst ((sortSet xs).map .str), .fresh) := by
  show ((strsD (xs.map .str)).bind fun ys => if ys.length < 1000 then some (D.lst ((sortSet ys).map .str), Kd.fresh) else none) = _
  rw [strs_map]
  simp [h]
theorem f_lot_of [Has Γ "lot_of" fd_lot_of] (a : List Str) (h : a.length < 1000) : runF Γ (k + 1) (.f "lot_of") [.lst (a.map .str)] = M.ret (tD (sortSet a), .clean) := by
  rw [run_has (np := 1) (n := 1) (body := b_lot_of) rfl]
  simp [b_lot_of, exs_cons, startS, sortset_lst h]
theorem add_tup {xs ys : List D} (h : xs.length + ys.length ≤ sizeLine) : binD .add (.tup xs) (.tup ys) = some (.tup (xs ++ ys), .clean) := by
  unfold binD
  simp [h]
theorem add_lst {xs ys : List D} (h : xs.length + ys.length ≤ sizeLine) : binD .add (.lst xs) (.lst ys) = some (.lst (xs ++ ys), .fresh) := by
  unfold binD
  simp [h]
theorem thou {n : Nat} (h : n < 1000) : n ≤ sizeLine := Nat.le_trans (Nat.le_of_lt h) (by decide)
/-- the lot of two -/
def join (a b : List Str) : List Str := sortSet (a ++ b)
theorem f_joinedL [Has Γ "_law_joined" fd__law_joined] (a b : List Str) (h : a.length + b.length < 1000) : runF Γ (k + 1) (.f "_law_joined") [tD a, tD b] = M.ret (tD (join a b), .clean) := by
  rw [run_has (np := 2) (n := 2) (body := b__law_joined) rfl]
  have q := sortset_tup (xs := a ++ b) (by rw [List.length_append]; exact h)
  rw [List.map_append] at q
  simp [b__law_joined, exs_cons, startS, add_tup, thou h, q, join]
theorem f_joined [Has Γ "lot_of" fd_lot_of] [Has Γ "joined" fd_joined] (a b : List Str) (h : a.length + b.length < 1000) : runF Γ (k + 2) (.f "joined") [tD a, tD b] = M.ret (tD (join a b), .clean) := by
  rw [run_has (np := 2) (n := 2) (body := b_joined) rfl]
  have q := f_lot_of (Γ := Γ) (k := k) (a ++ b) (by rw [List.length_append]; exact h)
  rw [List.map_append] at q
  simp [b_joined, exs_cons, startS, thou h, q, join]
theorem f_in_order [Has Γ "in_order" fd_in_order] {ls : List (List Str)} (h : ∀ l ∈ ls, OkL l) : runF Γ (k + 1) (.f "in_order") [tsD ls] = M.ret (tsD (sortL ls), .fresh) := by
  rw [run_has (np := 1) (n := 1) (body := b_in_order) rfl]
  simp [b_in_order, exs_cons, startS, srtD_lots h]
theorem f_in_orderL [Has Γ "_law_in_order" fd__law_in_order] {ls : List (List Str)} (h : ∀ l ∈ ls, OkL l) : runF Γ (k + 1) (.f "_law_in_order") [tsD ls] = M.ret (tsD (sortL ls), .fresh) := by
  have h2 := two_le
  have e : evE (runF Γ k) (.lc (.one 2) [2] (.seq (.var 0)) (.no) (.tup (.cons (.blt .len (.var 2)) (.cons (.var 2) (.nil))))) [.val (tsD ls), .no, .no] = M.ret (.lst ((ls.map tD).map rankD), .fresh) :=
    (ev_lcA tD (fun l => rankD (tD l)) ls rfl (by simp) fun l _ => by simp [turnM, put1, wipeS, isOwn, rankD, lenD, h2]).trans (by rw [List.map_map]; rfl)
  have e2 : evE (runF Γ k) (.lc (.one 1) [1] (.seq (.blt .sorted (.lc (.one 2) [2] (.seq (.var 0)) (.no) (.tup (.cons (.blt .len (.var 2)) (.cons (.var 2) (.nil))))))) (.no) (.idx (.var 1) (.con (.int 1)))) [.val (tsD ls), .no, .no] = M.ret (.lst ((sortL ls).map tD), .fresh) :=
    ev_lcA (fun l => rankD (tD l)) tD (sortL ls) rfl (by rw [evIt_seq, ev_blt, e, ret_bnd, sorted_pairs_lots h]; simp; rfl) fun l _ => by simp [turnM, put1, wipeS, isOwn, rankD]; rfl
  rw [run_has (np := 1) (n := 3) (body := b__law_in_order) rfl]
  simp [b__law_in_order, exs_cons, startS, e2, -List.map_map]
theorem f_alike [Has Γ "_law_alike" fd__law_alike] {n j : Nat} {d : D} (h : Fine j n d) (hj : j ≤ 64) (hn : n ≤ 2 ^ 20) (hr : isRow d = true) : runF Γ (k + 1) (.f "_law_alike") [d, d] = M.ret (.bl true, .clean) := by
  obtain ⟨x, e⟩ := repr_fine h hj hn hr
  rw [run_has (np := 2) (n := 2) (body := b__law_alike) rfl]
  simp [b__law_alike, exs_cons, startS, eqD_self h hj, e]
theorem eqD_nil {l : List Str} (h : OkL l) : eqD (.lst (l.map .str)) (.lst []) = some l.isEmpty := by
  have e : (D.lst (l.map .str)).py = some (.list (l.map .str)) := by rw [D.py, pys_strs]; rfl
  have sh : SeqAt.shaped (.list (l.map PyData.str)) = true := by
    unfold SeqAt.shaped
    rw [PyData.canLay0, lay_strs h, PyData.depth, depth_strs]
    rfl
  show eqDP _ _ = _
  unfold eqDP
  rw [e]
  show (if (SeqAt.shaped (.list (l.map PyData.str)) && SeqAt.shaped (.list [])) = true then some (PyData.eqv (.list (l.map .str)) (.list [])) else none) = _
  rw [sh, if_pos (by rfl)]
  cases l <;> rfl
theorem f_withinL [Has Γ "_law_within" fd__law_within] (a b : List Str) (ha : OkL a) : runF Γ (k + 1) (.f "_law_within") [tD a, tD b] = M.ret (.bl (sub a b), .clean) := by
  have e : evE (runF Γ k) (.lc (.one 2) [2] (.seq (.var 0)) (.yes (.cmp .notin (.var 2) (.var 1))) (.var 2)) [.val (tD a), .val (tD b), .no] = M.ret (.lst ((a.filter fun x => !decide (x ∈ b)).map D.str), .fresh) :=
    ev_lcP .str (fun x => !decide (x ∈ b)) .str a rfl (by simp) fun x _ => by by_cases h : x ∈ b <;> simp [turnM, put1, wipeS, isOwn, inD_str, h]
  have e2 : (a.filter fun x => !decide (x ∈ b)).isEmpty = sub a b := by
    rw [Bool.eq_iff_iff, List.isEmpty_iff, List.filter_eq_nil_iff, sub_iff]
    simp
  rw [run_has (np := 2) (n := 3) (body := b__law_within) rfl]
  have q := eqD_nil (l := a.filter fun x => !decide (x ∈ b)) fun x hx => ha x ((List.mem_filter.mp hx).1)
  rw [e2] at q
  simp [b__law_within, exs_cons, startS, e, q, -List.map_map]
theorem f_take [Has Γ "_law_take" fd__law_take] {n : Int} (h1 : 1 ≤ n) (h2 : n < 1073741824) : Sure (runF Γ (k + 1) (.f "_law_take") [.bag, .int n]) fun r => ∃ v : Nat, r = (.int v, .clean) ∧ (v : Int) < n := by
  rw [run_has (np := 2) (n := 7) (body := b__law_take) rfl, show b__law_take = takeB from rfl]
  refine sure_bnd (take_run (C := runF Γ k) h1 h2) fun l hl => ?_
  obtain ⟨v, rfl, h3, h4⟩ := hl
  exact sure_ret ⟨v.toNat, by simp [Int.toNat_of_nonneg h3], by rw [Int.toNat_of_nonneg h3]; exact h4⟩
end Ev
set_option Elab.async false
set_option linter.all false
set_option autoImplicit false
set_option maxRecDepth 100000
/-! PL2: all lots; draws. -/
namespace Ev
open PySem M
variable {Γ : Fn → Option Fd} {k : Nat}
/-- a loop whose turns are plain, with what holds at each turn -/
theorem forM_foldI {α β : Type} (g : α → D) (st : β → List Slot) (step : β → α → β) (I : β → List α → Prop) {f : D → List Slot → M Fl} : ∀ (xs : List α) (b : β), I b xs → (∀ b a r, I b (a :: r) → f (g a) (st b) = M.ret (.nx (st (step b a))) ∧ I (step b a) r) → forM f (xs.map g) (st b) = M.ret (.nx (st (xs.foldl step b)))
  | [], b, _, _ => rfl
  | a :: xs, b, hi, h => by
    obtain ⟨h1, h2⟩ := h b a xs hi
    rw [List.map_cons, forM, h1, ret_bnd]
    exact forM_foldI g st step I xs (step b a) h2 h
def slotOk : Slot → Bool
  | .own _ => false
  | _ => true
/-- the turn of the law's own loop -/
theorem turn_allL {C : Calls} {m : Str} {f : List (List Str)} (hf : f.length + f.length ≤ sizeLine) (hl : ∀ l ∈ f, l.length + 1 ≤ sizeLine) (d0 : D) :
    exSs C (.cons (.set 1 false (.bin .add (.var 1) (.lc (.one 3) [3] (.seq (.var 1)) (.no) (.bin .add (.var 3) (.tup (.cons (.var 2) (.nil))))))) .nil) [.val d0, .val (tsD f), .val (.str m), .no] = M.ret (.nx [.val d0, .val (tsD (f ++ f.map (· ++ [m]))), .val (.str m), .no]) := by
  have h1 := one_le
  have e : evE C (.lc (.one 3) [3] (.seq (.var 1)) (.no) (.bin .add (.var 3) (.tup (.cons (.var 2) (.nil))))) [.val d0, .val (tsD f), .val (.str m), .no] = M.ret (.lst ((f.map (· ++ [m])).map tD), .fresh) :=
    (ev_lcA tD (fun l => tD (l ++ [m])) f rfl (by simp) fun l hl' => by
      have := hl l hl'
      simp [turnM, put1, wipeS, isOwn, add_tup, h1, this, tD]).trans (by rw [List.map_map]; rfl)
  rw [exs_cons, ex_set, ev_bin, e]
  simp [add_lst, hf, tsD]
/-- the turn of the program's loop -/
theorem turn_all {C : Calls} {m : Str} {f : List (List Str)} (hf : f.length + f.length ≤ sizeLine) (hl : ∀ l ∈ f, l.length + 1 ≤ sizeLine) (d0 : D) :
    exSs C (.cons (.ext 1 (.lc (.one 3) [3] (.seq (.var 1)) (.no) (.tup (.star (.var 3) (.cons (.var 2) (.nil)))))) .nil) [.val d0, .own (tsD f), .val (.str m), .no] = M.ret (.nx [.val d0, .own (tsD (f ++ f.map (· ++ [m]))), .val (.str m), .no]) := by
  have e : evE C (.lc (.one 3) [3] (.seq (.var 1)) (.no) (.tup (.star (.var 3) (.cons (.var 2) (.nil))))) [.val d0, .own (tsD f), .val (.str m), .no] = M.ret (.lst ((f.map (· ++ [m])).map tD), .fresh) :=
    (ev_lcA tD (fun l => tD (l ++ [m])) f rfl (by simp) fun l hl' => by
      have := hl l hl'
      simp [turnM, put1, wipeS, isOwn, this, tD]).trans (by rw [List.map_map]; rfl)
  rw [exs_cons, ex_ext (xs := f.map tD) rfl, e]
  simp [hf, tsD]
/-- what holds at each turn of both loops -/
def GrowI (b : List (List Str) × Slot) (r : List Str) : Prop := slotOk b.2 = true ∧ b.1.length * 2 ^ r.length ≤ 4096 ∧ ∀ l ∈ b.1, l.length + r.length ≤ 12
def growStep (b : List (List Str) × Slot) (m : Str) : List (List Str) × Slot := (b.1 ++ b.1.map (· ++ [m]), .val (.str m))
theorem grow_fold (ms : List Str) (f : List (List Str)) (s : Slot) : (ms.foldl growStep (f, s)).1 = ms.foldl (fun f m => f ++ f.map (· ++ [m])) f := by
  induction ms generalizing f s with
  | nil => rfl
  | cons m ms ih => exact ih _ _
theorem GrowI.next {b : List (List Str) × Slot} {m : Str} {r : List Str} (h : GrowI b (m :: r)) : GrowI (growStep b m) r ∧ b.1.length + b.1.length ≤ sizeLine ∧ ∀ l ∈ b.1, l.length + 1 ≤ sizeLine := by
  obtain ⟨h1, h2, h3⟩ := h
  have sl := sizeLine_eq
  rw [List.length_cons, Nat.pow_succ] at h2
  have pos : 0 < 2 ^ r.length := Nat.pow_pos (by decide)
  have e2 : b.1.length * (2 ^ r.length * 2) = (b.1.length + b.1.length) * 2 ^ r.length := by rw [← Nat.two_mul, Nat.mul_comm 2 b.1.length, Nat.mul_assoc, Nat.mul_comm 2]
  have le : b.1.length + b.1.length ≤ (b.1.length + b.1.length) * 2 ^ r.length := Nat.le_mul_of_pos_right _ pos
  refine ⟨⟨rfl, ?_, fun l hl => ?_⟩, ?_, fun l hl => ?_⟩
  · unfold growStep
    rw [List.length_append, List.length_map, ← e2]
    exact h2
  · rcases List.mem_append.mp hl with hl | hl
    · have := h3 l hl
      rw [List.length_cons] at this
      omega
    · obtain ⟨l', hl', rfl⟩ := List.mem_map.mp hl
      have := h3 l' hl'
      rw [List.length_cons] at this
      rw [List.length_append, List.length_singleton]
      omega
  · omega
  · have := h3 l hl
    rw [List.length_cons] at this
    omega
theorem GrowI.start {ms : List Str} (h : ms.length ≤ 12) : GrowI ([[]], .no) ms := by
  refine ⟨rfl, ?_, fun l hl => ?_⟩
  · have : 2 ^ ms.length ≤ 2 ^ 12 := Nat.pow_le_pow_right (by decide) h
    simpa using this
  · rw [List.mem_singleton.mp hl]
    simpa using h
theorem grow_ok {ms : List Str} (h : OkL ms) : ∀ l ∈ grow ms, OkL l := grow_mem (P := fun x => PyData.strOk x = true) ms [[]] (fun l hl => by
  rw [List.mem_singleton.mp hl]
  exact fun x hx => nomatch hx) h
theorem isOwn2 {a b c d : Slot} (h : slotOk c = true) : isOwn [a, b, c, d] 2 = false := by
  unfold isOwn
  cases c <;> first | rfl | cases h
theorem f_all_lots [Has Γ "all_lots" fd_all_lots] [Has Γ "in_order" fd_in_order] {ms : List Str} (h : OkL ms) (hl : ms.length ≤ 12) : runF Γ (k + 2) (.f "all_lots") [tD ms] = M.ret (tsD (sortL (grow ms)), .fresh) := by
  rw [run_has (np := 1) (n := 4) (body := b_all_lots) rfl]
  have h0 : (0 : Nat) ≤ sizeLine := Nat.zero_le _
  have h1 := one_le
  have lp : exS (runF Γ (k + 1)) (.fors (.one 2) (.seq (.var 0)) (.cons (.ext 1 (.lc (.one 3) [3] (.seq (.var 1)) (.no) (.tup (.star (.var 3) (.cons (.var 2) (.nil)))))) .nil)) [.val (tD ms), .own (tsD [[]]), .no, .no] = M.ret (.nx [.val (tD ms), .own (tsD (grow ms)), (ms.foldl growStep ([[]], .no)).2, .no]) := by
    rw [ex_fors]
    simp only [evIt_seq, ev_var, varM_eq]
    simp only [List.getElem?_cons_zero, ret_bnd, ok_clean, Bool.true_or, guard_true, seqD_tup, opt_some]
    rw [forM_foldI (α := Str) (β := List (List Str) × Slot) .str (fun b => [.val (tD ms), .own (tsD b.1), b.2, .no]) growStep GrowI ms ([[]], .no) (GrowI.start hl) fun b a r hi => ?_]
    · rw [grow_fold]
      rfl
    · obtain ⟨n1, n2, n3⟩ := hi.next
      refine ⟨?_, n1⟩
      simp only [put_one, put1, isOwn2 hi.1]
      exact turn_all n2 n3 _
  have io := f_in_order (Γ := Γ) (k := k) (grow_ok h)
  simp only [b_all_lots, startS]
  rw [exs_cons]
  simp
  rw [show [Slot.val (tD ms), Slot.own (D.lst [D.tup []]), Slot.no, Slot.no] = [.val (tD ms), .own (tsD [[]]), .no, .no] from rfl, exs_cons, lp]
  simp [exs_cons, io]
theorem f_all_lotsL [Has Γ "_law_all_lots" fd__law_all_lots] [Has Γ "_law_in_order" fd__law_in_order] {ms : List Str} (h : OkL ms) (hl : ms.length ≤ 12) : runF Γ (k + 2) (.f "_law_all_lots") [tD ms] = M.ret (tsD (sortL (grow ms)), .fresh) := by
  rw [run_has (np := 1) (n := 4) (body := b__law_all_lots) rfl]
  have h0 : (0 : Nat) ≤ sizeLine := Nat.zero_le _
  have h1 := one_le
  have lp : exS (runF Γ (k + 1)) (.fors (.one 2) (.seq (.var 0)) (.cons (.set 1 false (.bin .add (.var 1) (.lc (.one 3) [3] (.seq (.var 1)) (.no) (.bin .add (.var 3) (.tup (.cons (.var 2) (.nil))))))) .nil)) [.val (tD ms), .val (tsD [[]]), .no, .no] = M.ret (.nx [.val (tD ms), .val (tsD (grow ms)), (ms.foldl growStep ([[]], .no)).2, .no]) := by
    rw [ex_fors]
    simp only [evIt_seq, ev_var, varM_eq]
    simp only [List.getElem?_cons_zero, ret_bnd, ok_clean, Bool.true_or, guard_true, seqD_tup, opt_some]
    rw [forM_foldI (α := Str) (β := List (List Str) × Slot) .str (fun b => [.val (tD ms), .val (tsD b.1), b.2, .no]) growStep GrowI ms ([[]], .no) (GrowI.start hl) fun b a r hi => ?_]
    · rw [grow_fold]
      rfl
    · obtain ⟨n1, n2, n3⟩ := hi.next
      refine ⟨?_, n1⟩
      simp only [put_one, put1, isOwn2 hi.1]
      exact turn_allL n2 n3 _
  have io := f_in_orderL (Γ := Γ) (k := k) (grow_ok h)
  simp only [b__law_all_lots, startS]
  rw [exs_cons]
  simp
  rw [show [Slot.val (tD ms), Slot.val (D.lst [D.tup []]), Slot.no, Slot.no] = [.val (tD ms), .val (tsD [[]]), .no, .no] from rfl, exs_cons, lp]
  simp [exs_cons, io]
/-- one of things -/
theorem f_one_tup [Has Γ "_law_take" fd__law_take] [Has Γ "_law_one" fd__law_one] {xs : List D} (h : xs ≠ []) (hl : xs.length < 1073741824) : Sure (runF Γ (k + 2) (.f "_law_one") [.bag, .tup xs]) fun r => ∃ d ∈ xs, r = (d, .clean) := by
  rw [run_has (np := 2) (n := 2) (body := b__law_one) rfl]
  have pos : 0 < xs.length := List.length_pos_iff.mpr h
  simp [b__law_one, exs_cons, startS]
  refine sure_bnd (f_take (by omega) (by omega)) fun r hr => ?_
  obtain ⟨v, rfl, hv⟩ := hr
  have hv' : v < xs.length := by omega
  have e : L2.atI xs (v : Int) = some xs[v] := L2.atI_nat (List.getElem?_eq_getElem hv')
  simp [e]
  exact sure_ret ⟨xs[v], List.getElem_mem hv', rfl⟩
theorem f_one_lst [Has Γ "_law_take" fd__law_take] [Has Γ "_law_one" fd__law_one] {xs : List D} (h : xs ≠ []) (hl : xs.length < 1073741824) : Sure (runF Γ (k + 2) (.f "_law_one") [.bag, .lst xs]) fun r => ∃ d ∈ xs, r = (d, .clean) := by
  rw [run_has (np := 2) (n := 2) (body := b__law_one) rfl]
  have pos : 0 < xs.length := List.length_pos_iff.mpr h
  simp [b__law_one, exs_cons, startS]
  refine sure_bnd (f_take (by omega) (by omega)) fun r hr => ?_
  obtain ⟨v, rfl, hv⟩ := hr
  have hv' : v < xs.length := by omega
  have e : L2.atI xs (v : Int) = some xs[v] := L2.atI_nat (List.getElem?_eq_getElem hv')
  simp [e]
  exact sure_ret ⟨xs[v], List.getElem_mem hv', rfl⟩
/-- a comprehension that draws which ones stay -/
theorem lcM_subl {α : Type} (g : α → D) {f : D → M (Option (D × Bool))} : ∀ xs : List α, (∀ a ∈ xs, Sure (f (g a)) fun r => r = none ∨ r = some (g a, true)) → Sure (lcM f (xs.map g)) fun q => ∃ ys : List α, ys.Sublist xs ∧ q = (ys.map g, true)
  | [], _ => sure_ret ⟨[], .slnil, rfl⟩
  | x :: xs, hf => by
    rw [List.map_cons, lcM]
    refine sure_bnd (hf x (List.mem_cons_self ..)) fun r hr => ?_
    refine sure_bnd (lcM_subl g xs fun y hy => hf y (List.mem_cons_of_mem _ hy)) fun q hq => ?_
    obtain ⟨ys, s, rfl⟩ := hq
    rcases hr with rfl | rfl
    · exact sure_ret ⟨ys, .cons x s, rfl⟩
    · exact sure_ret ⟨x :: ys, .cons₂ x s, rfl⟩
theorem f_lot [Has Γ "_law_take" fd__law_take] [Has Γ "_law_lot" fd__law_lot] (ms : List Str) : Sure (runF Γ (k + 2) (.f "_law_lot") [.bag, tD ms]) fun r => ∃ l : List Str, l.Sublist ms ∧ r = (tD l, .clean) := by
  rw [run_has (np := 2) (n := 3) (body := b__law_lot) rfl]
  simp only [b__law_lot, exs_cons, startS, ex_ret, ev_blt]
  rw [ev_lc (by rfl)]
  simp
  refine sure_bnd (lcM_subl .str ms fun a ha => ?_) fun q hq => ?_
  · simp [turnM, wipeS, put1, isOwn]
    refine sure_bnd (f_take (by decide) (by decide)) fun r hr => ?_
    obtain ⟨v, rfl, hv⟩ := hr
    by_cases e : v = 0
    · subst e
      simp
      exact sure_ret (Or.inr rfl)
    · simp [e]
      exact sure_ret (Or.inl rfl)
  · obtain ⟨ys, s, rfl⟩ := hq
    simp
    exact sure_ret ⟨ys, s, rfl⟩
end Ev
set_option Elab.async false
set_option linter.all false
set_option autoImplicit false
set_option maxRecDepth 100000
/-! PL3: the marks that are drawn. -/
namespace Ev
open PySem M
variable {Γ : Fn → Option Fd} {k : Nat}
theorem cutD_lo {α : Type} (xs : List α) (t : Nat) : cutD xs (some (t : Int)) none = xs.drop t := by
  unfold cutD
  rw [HT.sIx_nat, HT.sIx_none, List.take_of_length_le (by rw [List.length_drop]; exact Nat.le_refl _)]
  rcases Nat.le_total t xs.length with h | h
  · rw [Nat.min_eq_left h]
  · rw [Nat.min_eq_right h, List.drop_eq_nil_of_le (Nat.le_refl _), List.drop_eq_nil_of_le h]
theorem cutD_hi {α : Type} (xs : List α) (t : Nat) : cutD xs none (some (t : Int)) = xs.take t := by
  unfold cutD
  rw [HT.sIx_nat, HT.sIx_none, List.drop_zero, Nat.sub_zero, List.take_eq_take_iff]
  omega
@[simp] theorem sli_lst_lo {xs : List D} {t : Nat} : sliD (.lst xs) (some (t : Int)) none = some (.lst (xs.drop t), .fresh) := by rw [sliD, cutD_lo]
@[simp] theorem sli_lst_hi {xs : List D} {t : Nat} : sliD (.lst xs) none (some (t : Int)) = some (.lst (xs.take t), .fresh) := by rw [sliD, cutD_hi]
@[simp] theorem sli_tup_lo {xs : List D} {t : Nat} : sliD (.tup xs) (some (t : Int)) none = some (.tup (xs.drop t), .clean) := by rw [sliD, cutD_lo]
@[simp] theorem sli_tup_hi {xs : List D} {t : Nat} : sliD (.tup xs) none (some (t : Int)) = some (.tup (xs.take t), .clean) := by rw [sliD, cutD_hi]
@[simp] theorem sli_tup_1 {xs : List D} : sliD (.tup xs) (some 1) none = some (.tup (xs.drop 1), .clean) := sli_tup_lo (t := 1)
theorem mul_int {i j : Int} (h : small i = true) : binD .mul (.int i) (.int j) = some (.int (i * j), .clean) := by
  show (if small i = true then some (D.int (i * j), Kd.clean) else none) = _
  rw [if_pos h]
theorem mod_int {i j : Int} (h : 0 < j) : binD .mod (.int i) (.int j) = some (.int (i % j), .clean) := by
  show (if 0 < j then some (D.int (i % j), Kd.clean) else none) = _
  rw [if_pos h]
@[simp] theorem add_int {i j : Int} : binD .add (.int i) (.int j) = some (.int (i + j), .clean) := rfl
@[simp] theorem sub_int {i j : Int} : binD .sub (.int i) (.int j) = some (.int (i - j), .clean) := rfl
theorem line_nat {n : Nat} (h : n ≤ 1000000) : (line62 (n : Int) && decide ((n : Int) ≤ sizeLine)) = true := by
  have sl := sizeLine_eq
  unfold line62
  simp only [Bool.and_eq_true, decide_eq_true_eq]
  omega
theorem rngD_nat (n : Nat) : rngD 0 n = (List.range n).map fun i : Nat => D.int i := by
  unfold rngD
  simp
theorem guard_by {α : Type} {c : Bool} {x : M α} (h : c = true) : guard c x = x := by
  subst h
  rfl
theorem it_rng {C : Calls} {e : E} {o : Bool} {ρ : List Slot} {n : Nat} {kd : Kd} (he : evE C e ρ = ret (.int (n : Int), kd)) (h : n ≤ 1000000) : evIt C (.rng e) o ρ = ret ((List.range n).map fun i : Nat => D.int i) := by
  rw [evIt_rng, he, ret_bnd, intM_int, ret_bnd, guard_by (line_nat h), Int.toNat_natCast, rngD_nat]
def menuS : List Str := ["has", "lacks", "marks", "yes", "no", "so", "more", "strike", "undo", "redo", "ab", "abc", "a", "z", "zzzzzzzz", "things"]
def menuT : Str := "has lacks marks yes no so more strike undo redo ab abc a z zzzzzzzz things"
def lettersT : Str := "abcdefghijklmnopqrstuvwxyz"
theorem split_menu : splitD (.str menuT) (.str " ") = some (.lst (menuS.map .str)) := by
  have e : Txt.split menuT " " = menuS := by decide +kernel
  show (if ((" " : Str).length == 0) = false ∧ menuT.length + 2 ≤ sizeLine then some (D.lst ((Txt.split menuT " ").map .str)) else none) = _
  rw [e, if_pos (by decide +kernel)]
def letS (i : Nat) : Str := ⟨#[97 + i]⟩
theorem idx_letters {i : Nat} (h : i < 26) : idxD (.str lettersT) (.int (i : Int)) = some (.str (letS i)) := by
  have q : ∀ j : Fin 26, L2.atI lettersT.cps.toList ((j.val : Nat) : Int) = some (97 + j.val) := by decide +kernel
  show (if lettersT.length ≤ sizeLine then (L2.atI lettersT.cps.toList (i : Int)).map fun c => D.str ⟨#[c]⟩ else none) = _
  rw [if_pos (by decide +kernel), q ⟨i, h⟩]
  rfl
def headA (n : Nat) : Str := ⟨(List.replicate n 97).toArray⟩
def stemS (w t : Nat) : Str := if w = 2 then "" else if w = 3 then letS t else "zzzzzzz"
/-- the marks by the two numbers drawn -/
def marksL (w t n : Nat) : List Str :=
  if w = 0 then isort ((menuS.drop t ++ menuS.take t).take n)
  else if w = 1 then (List.range n).map fun i => headA (i + 1)
  else isort ((List.range n).map fun i => stemS w t ++ letS ((t + 3 * i) % 26))
theorem marks_good : ∀ (w : Fin 5) (t : Fin 16) (n : Fin 9), (ascB (marksL w t n) && (marksL w t n).all isMarkB && decide ((marksL w t n).length = n.val)) = true := by decide +kernel
theorem head_cut : ∀ i : Fin 8, L2.cutS "aaaaaaaa" none (some ((i.val : Int) + 1)) = headA (i.val + 1) := by decide +kernel
theorem sli_head {i : Nat} (h : i < 8) : sliD (.str "aaaaaaaa") none (some ((i : Int) + 1)) = some (.str (headA (i + 1)), .clean) := by
  show (if ("aaaaaaaa" : Str).length ≤ sizeLine then some (D.str (L2.cutS "aaaaaaaa" none (some ((i : Int) + 1))), Kd.clean) else none) = _
  rw [if_pos (by decide +kernel), head_cut ⟨i, h⟩]
theorem lc_head {C : Calls} {ρ : List Slot} {n : Nat} (hn : n ≤ 8) (s2 s3 s4 s5 s6 s0 : Slot) : evE C (.lc (.one 7) [7] (.rng (.var 1)) (.no) (.sli (.con (.str "aaaaaaaa")) (.no) (.yes (.bin .add (.var 7) (.con (.int 1)))))) [s0, .val (.int (n : Int)), s2, s3, s4, s5, s6, .no] = M.ret (.lst (((List.range n).map fun i => headA (i + 1)).map .str), .fresh) := by
  rw [List.map_map]
  refine ev_lcA (fun i : Nat => D.int i) (fun i => .str (headA (i + 1))) (List.range n) rfl (it_rng (by simp; rfl) (by omega)) fun i hi => ?_
  have hi' : i < 8 := Nat.lt_of_lt_of_le (List.mem_range.mp hi) hn
  simp [turnM, put1, wipeS, isOwn, binD, sli_head hi']
theorem ok_letS (i : Nat) (h : i < 26) : PyData.strOk (letS i) = true := by
  have q : ∀ j : Fin 26, PyData.strOk (letS j.val) = true := by decide +kernel
  exact q ⟨i, h⟩
theorem ok_stem (w t : Nat) (h : t < 16) : PyData.strOk (stemS w t) = true := by
  unfold stemS
  split
  · decide +kernel
  · split
    · exact ok_letS t (by omega)
    · decide +kernel
theorem ok_append {x y : Str} (hx : PyData.strOk x = true) (hy : PyData.strOk y = true) : PyData.strOk (x ++ y) = true := by
  unfold PyData.strOk at *
  rw [Array.all_eq_true'] at *
  intro c hc
  have hc' : c ∈ x.cps ++ y.cps := hc
  rcases Array.mem_append.mp hc' with h | h
  · exact hx c h
  · exact hy c h
theorem stem_len (w t : Nat) : (stemS w t).length ≤ 7 := by
  unfold stemS
  split
  · decide +kernel
  · split
    · show (1 : Nat) ≤ 7
      decide
    · decide +kernel
theorem add_str {x y : Str} (h : x.length + y.length ≤ sizeLine) : binD .add (.str x) (.str y) = some (.str (x ++ y), .clean) := by
  unfold binD
  simp [h]
theorem mod26 (t i : Nat) : ((t : Int) + 3 * (i : Int)) % 26 = (((t + 3 * i) % 26 : Nat) : Int) := by omega
theorem lc_stem {C : Calls} {n w t : Nat} (hn : n ≤ 8) (ht : t < 16) (s0 s2 s5 : Slot) : evE C (.lc (.one 7) [7] (.rng (.var 1)) (.no) (.bin .add (.var 4) (.idx (.var 3) (.bin .mod (.blt .int (.bin .add (.var 6) (.bin .mul (.con (.int 3)) (.var 7)))) (.con (.int 26)))))) [s0, .val (.int (n : Int)), s2, .val (.str lettersT), .val (.str (stemS w t)), s5, .val (.int (t : Int)), .no] = M.ret (.lst (((List.range n).map fun i => stemS w t ++ letS ((t + 3 * i) % 26)).map .str), .fresh) := by
  rw [List.map_map]
  refine ev_lcA (fun i : Nat => D.int i) (fun i => .str (stemS w t ++ letS ((t + 3 * i) % 26))) (List.range n) rfl (it_rng (by simp; rfl) (by omega)) fun i hi => ?_
  have hs := stem_len w t
  have sl := sizeLine_eq
  have ha : binD .add (.str (stemS w t)) (.str (letS ((t + 3 * i) % 26))) = some (.str (stemS w t ++ letS ((t + 3 * i) % 26)), .clean) := add_str (by
    have : (letS ((t + 3 * i) % 26)).length = 1 := rfl
    omega)
  have hm : binD .mul (.int 3) (.int (i : Int)) = some (.int (3 * (i : Int)), .clean) := by
    exact mul_int (by decide)
  have hp : binD .add (.int (t : Int)) (.int (3 * (i : Int))) = some (.int ((t : Int) + 3 * (i : Int)), .clean) := rfl
  have hr : binD .mod (.int ((t : Int) + 3 * (i : Int))) (.int 26) = some (.int (((t + 3 * i) % 26 : Nat) : Int), .clean) := by
    rw [mod_int (by decide), mod26]
  have hx := idx_letters (i := (t + 3 * i) % 26) (Nat.mod_lt _ (by decide))
  simp only [turnM, put1, wipeS, put_one, isOwn]
  simp [hm, hp, hr, hx, ha, -Int.natCast_emod, -Int.natCast_add]
end Ev
set_option Elab.async false
set_option linter.all false
set_option autoImplicit false
set_option maxRecDepth 100000
/-! PL3b: the marks that are drawn. -/
namespace Ev
open PySem M
variable {Γ : Fn → Option Fd} {k : Nat}
/-- what stands behind the two draws -/
def marksR : Ss :=
.cons (.ifs (.cmp .eq (.var 5) (.con (.int 0)))
(.cons (.ret (.blt .tuple (.blt .sorted (.sli (.bin .add (.sli (.var 2) (.yes (.var 6)) (.no)) (.sli (.var 2) (.no) (.yes (.var 6)))) (.no) (.yes (.var 1)))))) .nil)
(.nil)) <|
.cons (.ifs (.cmp .eq (.var 5) (.con (.int 1)))
(.cons (.ret (.blt .tuple (.lc (.one 7) [7] (.rng (.var 1)) (.no) (.sli (.con (.str "aaaaaaaa")) (.no) (.yes (.bin .add (.var 7) (.con (.int 1)))))))) .nil)
(.nil)) <|
.cons (.set 3 false (.con (.str lettersT))) <|
.cons (.set 4 false (.idx (.lst (.cons (.con (.str "")) (.cons (.con (.str "")) (.cons (.idx (.var 3) (.var 6)) (.cons (.con (.str "zzzzzzz")) (.nil)))))) (.bin .sub (.var 5) (.con (.int 1))))) <|
.cons (.ret (.blt .tuple (.blt .sorted (.lc (.one 7) [7] (.rng (.var 1)) (.no) (.bin .add (.var 4) (.idx (.var 3) (.bin .mod (.blt .int (.bin .add (.var 6) (.bin .mul (.con (.int 3)) (.var 7)))) (.con (.int 26))))))))) .nil
def marksB : Ss := .cons (.set 2 false (.split (.con (.str menuT)) (.con (.str " ")))) <|
.cons (.unp [5, 6] (.tup (.cons (.call "_law_take" (.cons (.var 0) (.cons (.con (.int 5)) (.nil)))) (.cons (.call "_law_take" (.cons (.var 0) (.cons (.con (.int 16)) (.nil)))) (.nil))))) marksR
theorem marks_B : b__law_marks = marksB := rfl
section
variable {C : Calls} {n t w : Nat}
theorem ok_menu (t n : Nat) : OkL ((menuS.drop t ++ menuS.take t).take n) := fun x hx => by
  have hx2 : x ∈ menuS.drop t ++ menuS.take t := List.mem_of_mem_take hx
  have hx3 : x ∈ menuS := by
    rcases List.mem_append.mp hx2 with h | h
    · exact List.mem_of_mem_drop h
    · exact List.mem_of_mem_take h
  have all : menuS.all PyData.strOk = true := by decide +kernel
  exact List.all_eq_true.mp all x hx3
theorem add_menu (t : Nat) : binD .add (.lst ((menuS.map D.str).drop t)) (.lst ((menuS.map D.str).take t)) = some (.lst ((menuS.map D.str).drop t ++ (menuS.map D.str).take t), .fresh) := add_lst (by
  rw [List.length_drop, List.length_take, List.length_map]
  have : menuS.length = 16 := rfl
  have sl := sizeLine_eq
  omega)
theorem marks0 (ht : t < 16) : exSs C marksR [.val .bag, .val (.int (n : Int)), .val (.lst (menuS.map .str)), .no, .no, .val (.int 0), .val (.int (t : Int)), .no] = M.ret (.rt (tD (marksL 0 t n)) .clean) := by
  have so := sorted_strs (ok_menu t n)
  have ad := add_menu t
  have e : ((menuS.map D.str).drop t ++ (menuS.map D.str).take t).take n = ((menuS.drop t ++ menuS.take t).take n).map D.str := by
    rw [List.map_take, List.map_append, List.map_drop, List.map_take]
  have ml : marksL 0 t n = isort ((menuS.drop t ++ menuS.take t).take n) := rfl
  rw [ml]
  generalize menuS.map D.str = M0 at *
  unfold marksR
  rw [exs_cons]
  simp [exs_cons, ad, -List.map_take, -List.map_drop]
  rw [e, so]
  simp
theorem marks1 (hn : n ≤ 8) (ht : t < 16) (d2 : D) : exSs C marksR [.val .bag, .val (.int (n : Int)), .val d2, .no, .no, .val (.int 1), .val (.int (t : Int)), .no] = M.ret (.rt (tD (marksL 1 t n)) .clean) := by
  have lc := lc_head (C := C) (ρ := []) hn (.val d2) .no .no (.val (.int 1)) (.val (.int (t : Int))) (.val .bag)
  unfold marksR
  simp [exs_cons]
  rw [lc]
  simp [marksL, -List.map_map]
theorem stem_idx (h0 : w ≠ 0) (h1 : w ≠ 1) (hw : w < 5) : L2.atI [D.str "", .str "", .str (letS t), .str "zzzzzzz"] ((w : Int) - 1) = some (.str (stemS w t)) := by
  have : w = 2 ∨ w = 3 ∨ w = 4 := by omega
  rcases this with rfl | rfl | rfl <;> rfl
theorem ok_stems (ht : t < 16) : OkL ((List.range n).map fun i => stemS w t ++ letS ((t + 3 * i) % 26)) := fun x hx => by
  obtain ⟨i, _, rfl⟩ := List.mem_map.mp hx
  exact ok_append (ok_stem w t ht) (ok_letS _ (Nat.mod_lt _ (by decide)))
theorem marks2 (hn : n ≤ 8) (ht : t < 16) (hw : w < 5) (h0 : w ≠ 0) (h1 : w ≠ 1) (d2 : D) : exSs C marksR [.val .bag, .val (.int (n : Int)), .val d2, .no, .no, .val (.int (w : Int)), .val (.int (t : Int)), .no] = M.ret (.rt (tD (marksL w t n)) .clean) := by
  have hx := idx_letters (i := t) (by omega)
  have lc := lc_stem (C := C) (w := w) hn ht (.val .bag) (.val d2) (.val (.int (w : Int)))
  have so := sorted_strs (ok_stems (n := n) (w := w) ht)
  have ix := stem_idx (t := t) h0 h1 hw
  have hw0 : (w : Int) ≠ 0 := by omega
  have hw1 : (w : Int) ≠ 1 := by omega
  have ml : marksL w t n = isort ((List.range n).map fun i => stemS w t ++ letS ((t + 3 * i) % 26)) := by simp [marksL, h0, h1]
  rw [ml]
  generalize ((List.range n).map fun i => stemS w t ++ letS ((t + 3 * i) % 26)) = M0 at *
  unfold marksR
  rw [exs_cons]
  simp [exs_cons, h0, hw1, h1, hx, ix, lc, so]
end
theorem f_marks [Has Γ "_law_take" fd__law_take] [Has Γ "_law_marks" fd__law_marks] {n : Nat} (hn : n ≤ 8) : Sure (runF Γ (k + 2) (.f "_law_marks") [.bag, .int (n : Int)]) fun r => ∃ ms : List Str, r = (tD ms, .clean) ∧ Lot ms ∧ ms.length = n := by
  rw [run_has (np := 2) (n := 8) (body := b__law_marks) rfl, marks_B]
  unfold marksB
  rw [exs_cons]
  simp [split_menu, exs_cons, startS]
  refine sure_bnd (f_take (by decide) (by decide)) fun r hr => ?_
  obtain ⟨w, rfl, hw⟩ := hr
  simp
  refine sure_bnd (f_take (by decide) (by decide)) fun r hr => ?_
  obtain ⟨t, rfl, ht⟩ := hr
  have hw' : w < 5 := by omega
  have ht' : t < 16 := by omega
  have good := marks_good ⟨w, hw'⟩ ⟨t, ht'⟩ ⟨n, by omega⟩
  simp only [Bool.and_eq_true, decide_eq_true_eq, List.all_eq_true] at good
  obtain ⟨⟨g1, g2⟩, g3⟩ := good
  refine Sure.mono (P := fun r => r = (tD (marksL w t n), .clean)) ?_ fun r hr => ⟨marksL w t n, hr, ⟨asc_by g1, g2⟩, g3⟩
  simp [puts, put1, isOwn]
  by_cases h0 : w = 0
  · subst h0
    have q := marks0 (C := runF Γ (k + 1)) (n := n) ht'
    simp [q]
    exact sure_ret rfl
  · by_cases h1 : w = 1
    · subst h1
      have q := marks1 (C := runF Γ (k + 1)) hn ht' (.lst (menuS.map .str))
      simp [q]
      exact sure_ret rfl
    · have q := marks2 (C := runF Γ (k + 1)) hn ht' hw' h0 h1 (.lst (menuS.map .str))
      simp [q]
      exact sure_ret rfl
end Ev
set_option Elab.async false
set_option linter.all false
set_option autoImplicit false
set_option maxRecDepth 100000
/-! PL4: the order of lots; the lots of some marks. -/
namespace Ev
open PySem M
variable {Γ : Fn → Option Fd} {k : Nat}
theorem mem_growF (ms : List Str) : ∀ (f : List (List Str)) (l : List Str), l ∈ ms.foldl (fun f m => f ++ f.map (· ++ [m])) f ↔ ∃ l0 ∈ f, ∃ s : List Str, s.Sublist ms ∧ l = l0 ++ s := by
  induction ms with
  | nil =>
    intro f l
    constructor
    · intro h
      exact ⟨l, h, [], .slnil, by simp⟩
    · rintro ⟨l0, h, s, hs, rfl⟩
      rw [List.sublist_nil.mp hs]
      simpa using h
  | cons m ms ih =>
    intro f l
    rw [List.foldl_cons, ih]
    constructor
    · rintro ⟨l0, h, s, hs, rfl⟩
      rcases List.mem_append.mp h with h | h
      · exact ⟨l0, h, s, .cons m hs, rfl⟩
      · obtain ⟨l1, h1, rfl⟩ := List.mem_map.mp h
        exact ⟨l1, h1, m :: s, .cons₂ m hs, by simp⟩
    · rintro ⟨l0, h, s, hs, rfl⟩
      rcases List.sublist_cons_iff.mp hs with hs | ⟨r, rfl, hr⟩
      · exact ⟨l0, List.mem_append_left _ h, s, hs, rfl⟩
      · exact ⟨l0 ++ [m], List.mem_append_right _ (List.mem_map_of_mem h), r, hr, by simp⟩
theorem mem_grow {ms l : List Str} : l ∈ grow ms ↔ l.Sublist ms := by
  unfold grow
  rw [mem_growF]
  constructor
  · rintro ⟨l0, h, s, hs, rfl⟩
    rw [List.mem_singleton.mp h]
    simpa using hs
  · intro h
    exact ⟨[], List.mem_singleton.mpr rfl, l, h, rfl⟩
theorem lot_sub {ms l : List Str} (h : Lot ms) (s : l.Sublist ms) : Lot l := ⟨asc_sub s h.asc, fun x hx => h.mark x (s.subset hx)⟩
/-- all lots of some marks, in order -/
def allL (ms : List Str) : List (List Str) := sortL (grow ms)
theorem mem_allL {ms l : List Str} : l ∈ allL ms ↔ l.Sublist ms := by
  unfold allL
  rw [sortL_mem, mem_grow]
theorem allL_length (ms : List Str) : (allL ms).length = 2 ^ ms.length := by
  unfold allL grow
  rw [sortL_length, grow_length]
  simp
theorem fine_allL {ms : List Str} (h : Lot ms) (hl : ms.length ≤ 8) : Fine 2 (2 ^ 16) (tsD (allL ms)) := fine_tsD (m := 72) (fun l hl' => by
  have s := mem_allL.mp hl'
  have := s.length_le
  exact ⟨lot_sub h s, by omega⟩) (by
  rw [allL_length]
  have : 2 ^ ms.length ≤ 2 ^ 8 := Nat.pow_le_pow_right (by decide) hl
  omega)
/-- a lot comes before another one -/
def ltL (a b : List Str) : Bool := decide (a.length < b.length) || (decide (a.length = b.length) && PySem.W.dataLt (.list (a.map .str)) (.list (b.map .str)))
theorem eqv_int (a b : Int) : PyData.eqv (.int a) (.int b) = decide (a = b) := by
  by_cases h : a = b
  · subst h
    simp [PyData.eqv]
  · simp [PyData.eqv, h]
theorem lt_rank {a b : List Str} (ha : OkL a) (hb : OkL b) : ltD (rankD (tD a)) (rankD (tD b)) = some (ltL a b) := by
  unfold ltD
  rw [rank_rk, rank_rk]
  simp only
  rw [if_pos (by rw [shaped_rk ha, shaped_rk hb, alike_rk]; rfl)]
  congr 1
  unfold rk
  have al : PySem.W.alike (.tuple (a.map .str)) (.tuple (b.map .str)) = true := by rw [PySem.W.alike, alike_strs]
  rw [PySem.W.dataLt_pair (by rfl) al, PySem.W.dataLt_int, eqv_int]
  unfold ltL
  have e0 : PySem.W.dataLt (.list (a.map .str)) (.list (b.map .str)) = PySem.W.dataLt (.tuple (a.map .str)) (.tuple (b.map .str)) := by
    unfold PySem.W.dataLt
    rw [PySem.W.keyToks, PySem.W.keyToks, PySem.W.keyToks, PySem.W.keyToks]
  rw [e0]
  by_cases h : a.length = b.length
  · have h' : ((a.length : Nat) : Int) = ((b.length : Nat) : Int) := by omega
    rw [if_pos (decide_eq_true h')]
    have n : ¬ a.length < b.length := by omega
    simp only [h, n, decide_true, Bool.true_and]
    cases e : PyData.eqv (.tuple (a.map .str)) (.tuple (b.map .str)) with
    | false => simp
    | true =>
      have t := (PySem.W.toks_eqv _ _ al).1 e
      simp
      unfold PySem.W.dataLt
      rw [t]
      exact PyProof.Rows.lex_irrefl _
  · have h' : ¬ ((a.length : Nat) : Int) = ((b.length : Nat) : Int) := by omega
    rw [if_neg (by simpa using h')]
    simp [h]
theorem lt_list {a b : List Str} (ha : OkL a) (hb : OkL b) : ltD (.lst (a.map .str)) (.lst (b.map .str)) = some (PySem.W.dataLt (.list (a.map .str)) (.list (b.map .str))) := by
  unfold ltD
  have py : ∀ l : List Str, (D.lst (l.map .str)).py = some (.list (l.map .str)) := fun l => by rw [D.py, pys_strs]; rfl
  have sh : ∀ l : List Str, OkL l → SeqAt.shaped (.list (l.map PyData.str)) = true := fun l h => by
    unfold SeqAt.shaped
    rw [PyData.canLay0, lay_strs h, PyData.depth, depth_strs]
    rfl
  rw [py, py]
  simp only
  rw [if_pos (by rw [sh a ha, sh b hb, PySem.W.alike, alike_strs]; rfl)]
theorem f_comes_before [Has Γ "rank" fd_rank] [Has Γ "comes_before" fd_comes_before] {a b : List Str} (ha : OkL a) (hb : OkL b) : runF Γ (k + 2) (.f "comes_before") [tD a, tD b] = M.ret (.bl (ltL a b), .clean) := by
  rw [run_has (np := 2) (n := 2) (body := b_comes_before) rfl]
  simp [b_comes_before, exs_cons, startS, f_rank, lt_rank ha hb]
theorem eqvAll_strs : ∀ a b : List Str, PyData.eqvAll (a.map .str) (b.map .str) = decide (a = b)
  | [], [] => rfl
  | [], _ :: _ => rfl
  | _ :: _, [] => rfl
  | x :: a, y :: b => by
    rw [List.map_cons, List.map_cons, PyData.eqvAll, PyData.eqv, eqvAll_strs a b, Bool.eq_iff_iff]
    simp
theorem shaped_tup {a : List Str} (h : OkL a) : SeqAt.shaped (.tuple (a.map PyData.str)) = true := by
  unfold SeqAt.shaped
  rw [PyData.canLay0, lay_strs h, PyData.depth, depth_strs]
  rfl
theorem eqD_tD {a b : List Str} (ha : OkL a) (hb : OkL b) : eqD (tD a) (tD b) = some (decide (a = b)) := by
  show eqDP _ _ = _
  unfold eqDP
  rw [py_tD, py_tD]
  simp only
  rw [if_pos (by rw [shaped_tup ha, shaped_tup hb]; rfl), PyData.eqv, eqvAll_strs]
theorem eqD_tnil {a : List Str} (ha : OkL a) : eqD (tD a) (.tup []) = some (decide (a = [])) := eqD_tD (b := []) ha fun _ h => nomatch h
/-- rows whose items are all of a kind -/
theorem map_of {α : Type} (g : α → D) {P : α → Prop} : ∀ {ds : List D}, (∀ d ∈ ds, ∃ a, d = g a ∧ P a) → ∃ xs : List α, ds = xs.map g ∧ ∀ a ∈ xs, P a
  | [], _ => ⟨[], rfl, fun _ h => nomatch h⟩
  | d :: ds, h => by
    obtain ⟨a, rfl, pa⟩ := h d (List.mem_cons_self ..)
    obtain ⟨xs, rfl, px⟩ := map_of g (ds := ds) fun e he => h e (List.mem_cons_of_mem _ he)
    exact ⟨a :: xs, rfl, fun b hb => by
      rcases List.mem_cons.mp hb with rfl | hb
      · exact pa
      · exact px b hb⟩
/-- a comprehension whose turns draw, and all stay -/
theorem lc_sure {C : Calls} {g : Tg} {vs : List Nat} {it : It} {c : Oe} {e : E} {ρ : List Slot} {xs : List D} {α : Type} (gm : α → D) {P : α → Prop} (hw : (vs.all fun i => !isOwn ρ i) = true) (hi : evIt C it true ρ = M.ret xs)
    (ht : ∀ x ∈ xs, Sure (turnM C g vs c e ρ x) fun r => ∃ a, r = some (gm a, true) ∧ P a) : Sure (evE C (.lc g vs it c e) ρ) fun r => ∃ ys : List α, r = (.lst (ys.map gm), .fresh) ∧ ys.length = xs.length ∧ ∀ a ∈ ys, P a := by
  rw [ev_lc hw, hi, ret_bnd]
  refine sure_bnd (lcM_sure (α := Unit) (P := fun d => ∃ a, d = gm a ∧ P a) xs fun x hx => (ht x hx).mono fun r ⟨a, e, p⟩ => ⟨gm a, e, a, rfl, p⟩) fun q hq => ?_
  obtain ⟨q1, q2, q3⟩ := hq
  obtain ⟨ys, e, py⟩ := map_of gm q3
  refine sure_ret ⟨ys, ?_, ?_, py⟩
  · rw [q1, e]
    rfl
  · rw [← q2, e, List.length_map]
theorem ok_isOwn {ρ : List Slot} {i : Nat} {s : Slot} (h : ρ[i]? = some s) (ok : slotOk s = true) : isOwn ρ i = false := by
  unfold isOwn
  rw [h]
  cases s <;> first | rfl | cases ok
end Ev
set_option Elab.async false
set_option linter.all false
set_option autoImplicit false
set_option maxRecDepth 100000
/-! PL5: things that are told in part. -/
namespace Ev
open PySem M
variable {Γ : Fn → Option Fd} {k : Nat}
/-- what is alike to itself -/
structure Al (d : D) : Prop where
  eq : eqD d d = some true
  rp : ∃ x, bltD .repr d = some (.str x, .clean)
theorem al_fine {n j : Nat} {d : D} (h : Fine j n d) (hj : j ≤ 64) (hn : n ≤ 2 ^ 20) (hr : isRow d = true) : Al d := ⟨eqD_self h hj, repr_fine h hj hn hr⟩
theorem al_non : Al .non := ⟨by rfl, "None", rfl⟩
theorem al_bl (b : Bool) : Al (.bl b) := ⟨by cases b <;> rfl, _, rfl⟩
theorem f_alikeA [Has Γ "_law_alike" fd__law_alike] {d : D} (h : Al d) : runF Γ (k + 1) (.f "_law_alike") [d, d] = M.ret (.bl true, .clean) := by
  obtain ⟨x, e⟩ := h.rp
  rw [run_has (np := 2) (n := 2) (body := b__law_alike) rfl]
  simp [b__law_alike, exs_cons, startS, h.eq, e]
abbrev pD (a b : List Str) : D := .tup [tD a, tD b]
theorem fine_pD {a b : List Str} (ha : Lot a) (hb : Lot b) (la : a.length ≤ 100) (lb : b.length ≤ 100) : Fine 2 2000 (pD a b) := fine_tup (k := 1) (n := 900) (fun d hd => by
  simp only [List.mem_cons, List.not_mem_nil, or_false] at hd
  rcases hd with rfl | rfl
  · exact fine_tD ha (by omega)
  · exact fine_tD hb (by omega)) (by show 2 * 901 ≤ 2000; decide)
@[simp] theorem at0 {α : Type} {x : α} {xs : List α} : L2.atI (x :: xs) 0 = some x := L2.atI_nat (j := 0) rfl
@[simp] theorem at1 {α : Type} {x y : α} {xs : List α} : L2.atI (x :: y :: xs) 1 = some y := L2.atI_nat (j := 1) rfl
theorem f_is_full [Has Γ "lot_of" fd_lot_of] [Has Γ "joined" fd_joined] [Has Γ "within" fd_within] [Has Γ "is_full" fd_is_full] (m a b : List Str) (h : a.length + b.length < 1000) : runF Γ (k + 3) (.f "is_full") [tD m, pD a b] = M.ret (.bl (sub m (join a b)), .clean) := by
  have h1 := f_joined (Γ := Γ) (k := k) a b h
  have h2 := f_within (Γ := Γ) (k := k + 1) m (join a b)
  rw [run_has (np := 2) (n := 2) (body := b_is_full) rfl]
  simp [b_is_full, exs_cons, startS, h1, h2]
theorem f_untold [Has Γ "lot_of" fd_lot_of] [Has Γ "joined" fd_joined] [Has Γ "without" fd_without] [Has Γ "untold" fd_untold] (m a b : List Str) (h : a.length + b.length < 1000) : runF Γ (k + 3) (.f "untold") [tD m, pD a b] = M.ret (tD (m.filter fun x => !decide (x ∈ join a b)), .clean) := by
  have h1 := f_joined (Γ := Γ) (k := k) a b h
  have h2 := f_without (Γ := Γ) (k := k + 1) m (join a b)
  rw [run_has (np := 2) (n := 2) (body := b_untold) rfl]
  simp [b_untold, exs_cons, startS, h1, h2]
/-- a lot has all that stands in the first, nothing of the second -/
def fitB (l a b : List Str) : Bool := sub a l && decide ((l.filter fun x => decide (x ∈ b)) = [])
theorem fit_iff {l a b : List Str} : fitB l a b = true ↔ (∀ x ∈ a, x ∈ l) ∧ ∀ x ∈ l, x ∉ b := by
  unfold fitB
  rw [Bool.and_eq_true, sub_iff, decide_eq_true_eq, List.filter_eq_nil_iff]
  simp
theorem ok_filter {l : List Str} (h : OkL l) (p : Str → Bool) : OkL (l.filter p) := fun x hx => h x (List.mem_filter.mp hx).1
theorem f_fits [Has Γ "within" fd_within] [Has Γ "common" fd_common] [Has Γ "fits" fd_fits] (l a b : List Str) (hl : OkL l) : runF Γ (k + 2) (.f "fits") [tD l, pD a b] = M.ret (.bl (fitB l a b), .clean) := by
  have h1 := f_within (Γ := Γ) (k := k) a l
  have h2 := f_common (Γ := Γ) (k := k) l b
  have h3 := eqD_tnil (ok_filter hl fun x => decide (x ∈ b))
  rw [run_has (np := 2) (n := 2) (body := b_fits) rfl]
  simp [b_fits, exs_cons, startS, h1, h2, h3, -List.filter_eq_nil_iff]
  unfold fitB
  cases sub a l <;> simp
theorem f_full_thing [Has Γ "without" fd_without] [Has Γ "full_thing" fd_full_thing] (m l : List Str) : runF Γ (k + 2) (.f "full_thing") [tD m, tD l] = M.ret (pD l (m.filter fun x => !decide (x ∈ l)), .clean) := by
  have h2 := f_without (Γ := Γ) (k := k) m l
  rw [run_has (np := 2) (n := 2) (body := b_full_thing) rfl]
  simp [b_full_thing, exs_cons, startS, h2]
/-- two things told together -/
def moreD (a b c d : List Str) : D := if ((join a c).filter fun x => decide (x ∈ join b d)) = [] then pD (join a c) (join b d) else .non
theorem ok_join {a b : List Str} (ha : OkL a) (hb : OkL b) : OkL (join a b) := fun x hx => by
  rcases List.mem_append.mp (sortSet_mem.mp hx) with h | h
  · exact ha x h
  · exact hb x h
theorem f_told_more [Has Γ "lot_of" fd_lot_of] [Has Γ "joined" fd_joined] [Has Γ "common" fd_common] [Has Γ "told_more" fd_told_more] (a b c d : List Str) (oa : OkL a) (oc : OkL c) (h1 : a.length + c.length < 1000) (h2 : b.length + d.length < 1000) : runF Γ (k + 3) (.f "told_more") [pD a b, pD c d] = M.ret (moreD a b c d, .clean) := by
  have q1 := f_joined (Γ := Γ) (k := k) a c h1
  have q2 := f_joined (Γ := Γ) (k := k) b d h2
  have q3 := f_common (Γ := Γ) (k := k + 1) (join a c) (join b d)
  have q4 := eqD_tnil (ok_filter (ok_join oa oc) fun x => decide (x ∈ join b d))
  rw [run_has (np := 2) (n := 4) (body := b_told_more) rfl]
  unfold b_told_more
  rw [exs_cons]
  simp [startS, q1, q2]
  rw [exs_cons]
  simp [q3, q4, -List.filter_eq_nil_iff]
  unfold moreD
  by_cases e : ((join a c).filter fun x => decide (x ∈ join b d)) = []
  · rw [if_pos e, if_pos e]
    simp
  · rw [if_neg e, if_neg e]
    simp
theorem f_hits [Has Γ "_law_hits" fd__law_hits] (a b : List Str) (ha : OkL a) : runF Γ (k + 1) (.f "_law_hits") [tD a, tD b] = M.ret (.bl (!decide ((a.filter fun x => decide (x ∈ b)) = [])), .clean) := by
  have e : evE (runF Γ k) (.lc (.one 2) [2] (.seq (.var 0)) (.yes (.cmp .isin (.var 2) (.var 1))) (.var 2)) [.val (tD a), .val (tD b), .no] = M.ret (.lst ((a.filter fun x => decide (x ∈ b)).map D.str), .fresh) :=
    ev_lcP .str (fun x => decide (x ∈ b)) .str a rfl (by simp) fun x _ => by by_cases h : x ∈ b <;> simp [turnM, put1, wipeS, isOwn, inD_str, h]
  have q := eqD_nil (ok_filter ha fun x => decide (x ∈ b))
  have e2 : (a.filter fun x => decide (x ∈ b)).isEmpty = decide ((a.filter fun x => decide (x ∈ b)) = []) := by
    rw [Bool.eq_iff_iff, List.isEmpty_iff, decide_eq_true_eq]
  rw [e2] at q
  rw [run_has (np := 2) (n := 3) (body := b__law_hits) rfl]
  simp [b__law_hits, exs_cons, startS, e, q, -List.map_map, -List.filter_eq_nil_iff]
theorem f_fitsL [Has Γ "_law_within" fd__law_within] [Has Γ "_law_hits" fd__law_hits] [Has Γ "_law_fits" fd__law_fits] (l a b : List Str) (hl : OkL l) (ha : OkL a) : runF Γ (k + 2) (.f "_law_fits") [tD l, pD a b] = M.ret (.bl (fitB l a b), .clean) := by
  have h1 := f_withinL (Γ := Γ) (k := k) a l ha
  have h2 := f_hits (Γ := Γ) (k := k) l b hl
  rw [run_has (np := 2) (n := 2) (body := b__law_fits) rfl]
  simp [b__law_fits, exs_cons, startS, h1, h2, -List.filter_eq_nil_iff]
  unfold fitB
  cases sub a l <;> simp
theorem f_joined_things [Has Γ "_law_joined" fd__law_joined] [Has Γ "_law_hits" fd__law_hits] [Has Γ "_law_joined_things" fd__law_joined_things] (a b c d : List Str) (oa : OkL a) (oc : OkL c) (h1 : a.length + c.length < 1000) (h2 : b.length + d.length < 1000) : runF Γ (k + 2) (.f "_law_joined_things") [pD a b, pD c d] = M.ret (moreD a b c d, .clean) := by
  have q1 := f_joinedL (Γ := Γ) (k := k) a c h1
  have q2 := f_joinedL (Γ := Γ) (k := k) b d h2
  have q3 := f_hits (Γ := Γ) (k := k) (join a c) (join b d) (ok_join oa oc)
  rw [run_has (np := 2) (n := 4) (body := b__law_joined_things) rfl]
  unfold b__law_joined_things
  rw [exs_cons]
  simp [startS, q1, q2]
  rw [exs_cons]
  simp [q3, -List.filter_eq_nil_iff]
  unfold moreD
  by_cases e : ((join a c).filter fun x => decide (x ∈ join b d)) = []
  · rw [if_pos e, if_pos e]
    simp
  · rw [if_neg e, if_neg e]
    simp
/-- a loop whose turns draw, by what is left -/
theorem forM_sureI {α : Type} (g : α → D) {f : D → List Slot → M Fl} {I : List α → List Slot → Prop} : ∀ (xs : List α) (ρ : List Slot), I xs ρ → (∀ a r ρ, I (a :: r) ρ → Sure (f (g a) ρ) fun l => ∃ ρ', l = .nx ρ' ∧ I r ρ') → Sure (forM f (xs.map g) ρ) fun l => ∃ ρ', l = .nx ρ' ∧ I [] ρ'
  | [], ρ, h, _ => sure_ret ⟨ρ, rfl, h⟩
  | x :: xs, ρ, h, hf => by
    rw [List.map_cons, forM]
    refine sure_bnd (hf x xs ρ h) fun l hl => ?_
    obtain ⟨ρ', rfl, h'⟩ := hl
    exact forM_sureI g xs ρ' h' hf
def thingT : Ss := .cons (.set 5 false (.call "_law_take" (.cons (.var 0) (.cons (.con (.int 3)) (.nil))))) <|
.cons (.ifs (.cmp .eq (.var 5) (.con (.int 0)))
(.cons (.mut .append 3 (.cons (.var 2) (.nil))) .nil)
(.nil)) <|
.cons (.ifs (.cmp .eq (.var 5) (.con (.int 1)))
(.cons (.mut .append 4 (.cons (.var 2) (.nil))) .nil)
(.nil)) .nil
def ThingI (ms : List Str) (r : List Str) (ρ : List Slot) : Prop := ∃ (s2 s5 : Slot) (a b pre : List Str), ρ = [.val .bag, .val (tD ms), s2, .own (.lst (a.map .str)), .own (.lst (b.map .str)), s5] ∧ slotOk s2 = true ∧ ms = pre ++ r ∧ a.Sublist pre ∧ b.Sublist pre ∧ ∀ x ∈ a, x ∉ b
theorem f_thing [Has Γ "_law_take" fd__law_take] [Has Γ "_law_thing" fd__law_thing] {ms : List Str} (nd : ms.Nodup) (hl : ms.length ≤ 1000) : Sure (runF Γ (k + 2) (.f "_law_thing") [.bag, tD ms]) fun r => ∃ a b : List Str, r = (pD a b, .clean) ∧ a.Sublist ms ∧ b.Sublist ms ∧ ∀ x ∈ a, x ∉ b := by
  have sl := sizeLine_eq
  rw [run_has (np := 2) (n := 6) (body := b__law_thing) rfl]
  show Sure (bnd (exSs (runF Γ (k + 1)) (.cons (.set2 3 4 true true (.lst (.nil)) (.lst (.nil))) <| .cons (.fors (.one 2) (.seq (.var 1)) thingT) <| .cons (.ret (.tup (.cons (.blt .tuple (.var 3)) (.cons (.blt .tuple (.var 4)) (.nil))))) .nil) _) _) _
  rw [exs_cons]
  simp [startS]
  refine sure_bnd (P := fun l => ∃ a b : List Str, l = .rt (pD a b) .clean ∧ a.Sublist ms ∧ b.Sublist ms ∧ ∀ x ∈ a, x ∉ b) ?_ fun l hl => ?_
  · refine sure_cons (P := ThingI ms []) ?_ fun ρ hI => ?_
    · rw [ex_fors]
      simp
      refine forM_sureI D.str (I := ThingI ms) ms _ ⟨.no, .no, [], [], [], rfl, rfl, rfl, .slnil, .slnil, fun _ h => nomatch h⟩ fun x r ρ hI => ?_
      obtain ⟨s2, s5, a, b, pre, rfl, h2, e, sa, sb, dj⟩ := hI
      have i2 : isOwn [.val .bag, .val (tD ms), s2, .own (.lst (a.map .str)), .own (.lst (b.map .str)), s5] 2 = false := ok_isOwn (s := s2) rfl h2
      have lp : pre.length + (r.length + 1) ≤ 1000 := by
        rw [e, List.length_append, List.length_cons] at hl
        exact hl
      have la : a.length < sizeLine := by have := sa.length_le; omega
      have lb : b.length < sizeLine := by have := sb.length_le; omega
      have nx : x ∉ pre := fun hx => by
        rw [e] at nd
        exact (List.nodup_append.mp nd).2.2 x hx x (List.mem_cons_self ..) rfl
      have ap : ∀ {l : List Str}, l.Sublist pre → l.Sublist (pre ++ [x]) := fun s => s.trans (List.sublist_append_left _ _)
      have ax : ∀ {l : List Str}, l.Sublist pre → (l ++ [x]).Sublist (pre ++ [x]) := fun s => s.append (List.Sublist.refl _)
      have e' : ms = (pre ++ [x]) ++ r := by rw [e]; simp
      simp [put1, i2, thingT, exs_cons]
      refine sure_bnd (f_take (by decide) (by decide)) fun q hq => ?_
      obtain ⟨v, rfl, hv⟩ := hq
      have hv3 : v = 0 ∨ v = 1 ∨ v = 2 := by omega
      rcases hv3 with rfl | rfl | rfl
      · simp [mutD, la, exs_cons]
        exact sure_ret ⟨_, rfl, .val (.str x), .val (.int 0), a ++ [x], b, pre ++ [x], by simp, rfl, e', ax sa, ap sb, fun y hy => by
          rcases List.mem_append.mp hy with hy | hy
          · exact dj y hy
          · rw [List.mem_singleton.mp hy]
            exact fun hb => nx (sb.subset hb)⟩
      · simp [mutD, lb, exs_cons]
        exact sure_ret ⟨_, rfl, .val (.str x), .val (.int 1), a, b ++ [x], pre ++ [x], by simp, rfl, e', ap sa, ax sb, fun y hy hb => by
          rcases List.mem_append.mp hb with hb | hb
          · exact dj y hy hb
          · rw [List.mem_singleton.mp hb] at hy
            exact nx (sa.subset hy)⟩
      · simp [exs_cons]
        exact sure_ret ⟨_, rfl, .val (.str x), .val (.int 2), a, b, pre ++ [x], by simp, rfl, e', ap sa, ap sb, dj⟩
    · obtain ⟨s2, s5, a, b, pre, rfl, h2, e, sa, sb, dj⟩ := hI
      rw [List.append_nil] at e
      subst e
      rw [exs_cons]
      simp
      exact sure_ret ⟨a, b, rfl, sa, sb, dj⟩
  · obtain ⟨a, b, rfl, sa, sb, dj⟩ := hl
    simp
    exact sure_ret ⟨a, b, rfl, sa, sb, dj⟩
/-! all lots are each once -/
theorem growF_nodup (ms : List Str) : ∀ f : List (List Str), ms.Nodup → f.Nodup → (∀ l ∈ f, ∀ x ∈ l, x ∉ ms) → (ms.foldl (fun f m => f ++ f.map (· ++ [m])) f).Nodup := by
  induction ms with
  | nil => exact fun f _ h _ => h
  | cons m ms ih =>
    intro f nm nf h
    obtain ⟨n1, n2⟩ := List.nodup_cons.mp nm
    refine ih _ n2 (List.nodup_append.mpr ⟨nf, ?_, fun l hl l' hl' e => ?_⟩) fun l hl x hx hx2 => ?_
    · exact List.Pairwise.map _ (fun a b hne hab => hne (List.append_cancel_right hab)) nf
    · obtain ⟨l0, _, rfl⟩ := List.mem_map.mp hl'
      subst e
      exact h _ hl m (by simp) (List.mem_cons_self ..)
    · rcases List.mem_append.mp hl with hl | hl
      · exact h l hl x hx (List.mem_cons_of_mem _ hx2)
      · obtain ⟨l0, h0, rfl⟩ := List.mem_map.mp hl
        rcases List.mem_append.mp hx with hx | hx
        · exact h l0 h0 x hx (List.mem_cons_of_mem _ hx2)
        · rw [List.mem_singleton.mp hx] at hx2
          exact n1 hx2
theorem allL_nodup {ms : List Str} (h : ms.Nodup) : (allL ms).Nodup := by
  unfold allL sortL
  rw [(List.mergeSort_perm _ _).nodup_iff]
  exact growF_nodup ms [[]] h (by simp) fun l hl x hx => by
    rw [List.mem_singleton.mp hl] at hx
    cases hx
theorem filter_one {α : Type} {p : α → Bool} {a : α} : ∀ {xs : List α}, xs.Nodup → a ∈ xs → (∀ x ∈ xs, p x = true ↔ x = a) → xs.filter p = [a]
  | [], _, h, _ => nomatch h
  | x :: xs, nd, h, hp => by
    obtain ⟨n1, n2⟩ := List.nodup_cons.mp nd
    rcases List.mem_cons.mp h with rfl | h'
    · rw [List.filter_cons_of_pos ((hp a (List.mem_cons_self ..)).mpr rfl)]
      congr 1
      rw [List.filter_eq_nil_iff]
      intro y hy e
      exact n1 ((hp y (List.mem_cons_of_mem _ hy)).mp e ▸ hy)
    · rw [List.filter_cons_of_neg fun e => n1 ((hp x (List.mem_cons_self ..)).mp e ▸ h')]
      exact filter_one n2 h' fun y hy => hp y (List.mem_cons_of_mem _ hy)
theorem f_fillings [Has Γ "all_lots" fd_all_lots] [Has Γ "in_order" fd_in_order] [Has Γ "within" fd_within] [Has Γ "common" fd_common] [Has Γ "fits" fd_fits] [Has Γ "fillings" fd_fillings] {ms : List Str} (hm : OkL ms) (hl : ms.length ≤ 12) (a b : List Str) : runF Γ (k + 3) (.f "fillings") [tD ms, pD a b] = M.ret (tsD ((allL ms).filter fun l => fitB l a b), .fresh) := by
  have al := f_all_lots (Γ := Γ) (k := k) hm hl
  rw [show sortL (grow ms) = allL ms from rfl] at al
  have e : evE (runF Γ (k + 2)) (.lc (.one 2) [2] (.seq (.call "all_lots" (.cons (.var 0) (.nil)))) (.yes (.call "fits" (.cons (.var 2) (.cons (.var 1) (.nil))))) (.var 2)) [.val (tD ms), .val (pD a b), .no] = M.ret (.lst (((allL ms).filter fun l => fitB l a b).map tD), .fresh) :=
    ev_lcP tD (fun l => fitB l a b) tD (allL ms) rfl (by simp [al]) fun l hl' => by
      have ok : OkL l := fun x hx => hm x ((mem_allL.mp hl').subset hx)
      have h := f_fits (Γ := Γ) (k := k) l a b ok
      simp [turnM, put1, wipeS, isOwn, h]
      cases fitB l a b <;> simp
  rw [run_has (np := 2) (n := 3) (body := b_fillings) rfl]
  simp [b_fillings, exs_cons, startS, e]
end Ev
set_option Elab.async false
set_option linter.all false
set_option autoImplicit false
set_option maxRecDepth 100000
/-! PL6: marks, lots, rules; Rules. -/
namespace Ev
open PySem M
variable {Γ : Fn → Option Fd} {k : Nat}
/-- a list of signs -/
def sigD (x : Str) : List D := x.cps.toList.map fun c => .str ⟨#[c]⟩
theorem seqD_str {x : Str} (h : x.length ≤ sizeLine) : seqD (.str x) = some (sigD x) := by
  show (if x.length ≤ sizeLine then some (x.cps.toList.map fun c => D.str ⟨#[c]⟩) else none) = _
  rw [if_pos h]
  rfl
theorem len_str {x : Str} (h : x.length ≤ sizeLine) : bltD .len (.str x) = some (.int x.length, .clean) := by
  show (if x.length ≤ sizeLine then some (D.int x.length, Kd.clean) else none) = _
  rw [if_pos h]
theorem sign_in : ∀ c : Fin 123, 97 ≤ c.val → inD (.str ⟨#[c.val]⟩) (.str lettersT) = some true := by decide +kernel
theorem sign_in' {c : Nat} (h1 : 97 ≤ c) (h2 : c ≤ 122) : inD (.str ⟨#[c]⟩) (.str lettersT) = some true := sign_in ⟨c, by omega⟩ h1
theorem f_is_mark [Has Γ "is_mark" fd_is_mark] {x : Str} (h : isMarkB x = true) : runF Γ (k + 1) (.f "is_mark") [.str x] = M.ret (.bl true, .clean) := by
  unfold isMarkB at h
  simp only [Bool.and_eq_true, decide_eq_true_eq, Array.all_eq_true'] at h
  obtain ⟨⟨h1, h2⟩, h3⟩ := h
  have hl : x.length ≤ sizeLine := by
    have sl := sizeLine_eq
    show x.cps.size ≤ sizeLine
    omega
  have l1 : 0 < x.length := h1
  have l2 : ¬ (8 : Int) < (x.length : Int) := by
    show ¬ (8 : Int) < (x.cps.size : Int)
    omega
  have e : evE (runF Γ k) (.lc (.one 1) [1] (.seq (.var 0)) (.no) (.cmp .isin (.var 1) (.glob "LETTERS" (.str "abcdefghijklmnopqrstuvwxyz")))) [.val (.str x), .no] = M.ret (.lst ((x.cps.toList.map fun _ => true).map D.bl), .fresh) :=
    (ev_lcA (fun c : Nat => D.str ⟨#[c]⟩) (fun _ => .bl true) x.cps.toList rfl (by simp [seqD_str hl, sigD]) fun c hc => by
      have q := h3 c (by simpa using hc)
      have s := sign_in' q.1 q.2
      simp [turnM, put1, wipeS, isOwn]
      rw [show (D.str (Str.ofString "abcdefghijklmnopqrstuvwxyz")) = .str lettersT from rfl, s]
      simp).trans (by rw [List.map_map]; rfl)
  have al : ((x.cps.toList.map fun _ => true).all id) = true := by
    rw [List.all_map, List.all_eq_true]
    intro _ _
    rfl
  rw [run_has (np := 1) (n := 2) (body := b_is_mark) rfl]
  simp [b_is_mark, exs_cons, startS, isiD, isiOne, len_str hl, l1, l2]
  rw [e]
  simp only [ret_bnd, all_bls, al, opt_some]
  simp
theorem asc_get {l : List Str} (h : Asc l) {i : Nat} (hi : i + 1 < l.length) : ltD (.str l[i]) (.str l[i + 1]) = some (decide (l[i].cps.toList < l[i + 1].cps.toList)) ∨ True := .inr trivial
theorem ltD_str {x y : Str} (hx : PyData.strOk x = true) (hy : PyData.strOk y = true) : ltD (.str x) (.str y) = some (decide (x.cps.toList < y.cps.toList)) := by
  have sh : ∀ z : Str, PyData.strOk z = true → SeqAt.shaped (.str z) = true := fun z hz => by
    unfold SeqAt.shaped
    rw [PyData.canLay0, hz]
    rfl
  unfold ltD
  simp only [D.py]
  rw [if_pos (by rw [sh x hx, sh y hy]; rfl), PySem.W.dataLt_str]
theorem f_is_lot [Has Γ "is_mark" fd_is_mark] [Has Γ "is_lot" fd_is_lot] {l : List Str} (h : Lot l) (hn : l.length ≤ 1000) : runF Γ (k + 2) (.f "is_lot") [tD l] = M.ret (.bl true, .clean) := by
  have e : evE (runF Γ (k + 1)) (.lc (.one 2) [2] (.seq (.var 0)) (.no) (.call "is_mark" (.cons (.var 2) (.nil)))) [.val (tD l), .no, .no] = M.ret (.lst ((l.map fun _ => true).map D.bl), .fresh) :=
    (ev_lcA .str (fun _ => .bl true) l rfl (by simp) fun x hx => by
      have q := f_is_mark (Γ := Γ) (k := k) (h.mark x hx)
      simp [turnM, put1, wipeS, isOwn, q]).trans (by rw [List.map_map]; rfl)
  have al : ∀ (n : List Str), ((n.map fun _ => true).all id) = true := fun n => by
    rw [List.all_map, List.all_eq_true]
    intro _ _
    rfl
  have al2 : ∀ (n : List Nat), ((n.map fun _ => true).all id) = true := fun n => by
    rw [List.all_map, List.all_eq_true]
    intro _ _
    rfl
  have e2 : evE (runF Γ (k + 1)) (.lc (.one 1) [1] (.rng (.bin .sub (.blt .len (.var 0)) (.con (.int 1)))) (.no) (.cmp .lt (.idx (.var 0) (.var 1)) (.idx (.var 0) (.bin .add (.var 1) (.con (.int 1)))))) [.val (tD l), .no, .no] = M.ret (.lst (((List.range (l.length - 1)).map fun _ => true).map D.bl), .fresh) := by
    refine (ev_lcA (fun i : Nat => D.int i) (fun _ => .bl true) (List.range (l.length - 1)) rfl ?_ fun i hi => ?_).trans (by rw [List.map_map]; rfl)
    · by_cases h0 : l.length = 0
      · have ln : l = [] := List.length_eq_zero_iff.mp h0
        subst ln
        simp
        rw [show line62 (-1) = true by decide, guard_true]
        rfl
      · refine it_rng (n := l.length - 1) (kd := .clean) ?_ (by omega)
        have e9 : ((l.length : Int) - 1) = ((l.length - 1 : Nat) : Int) := by omega
        simp [e9]
    · have hi' : i + 1 < l.length := by
        have := List.mem_range.mp hi
        omega
      have g1 : L2.atI (l.map D.str) (i : Int) = some (.str (l[i]'(by omega))) := L2.atI_nat (by rw [List.getElem?_map, List.getElem?_eq_getElem (by omega)]; rfl)
      have g2 : L2.atI (l.map D.str) ((i : Int) + 1) = some (.str (l[i + 1]'hi')) := by
        have := L2.atI_nat (xs := l.map D.str) (j := i + 1) (v := .str (l[i + 1]'hi')) (by rw [List.getElem?_map, List.getElem?_eq_getElem hi']; rfl)
        simpa using this
      have lt := List.pairwise_iff_getElem.mp h.asc i (i + 1) (by omega) hi' (by omega)
      have q := ltD_str (h.ok _ (List.getElem_mem (show i < l.length by omega))) (h.ok _ (List.getElem_mem hi'))
      rw [decide_eq_true lt] at q
      simp [turnM, put1, wipeS, isOwn, g1, g2, q]
  rw [run_has (np := 1) (n := 3) (body := b_is_lot) rfl]
  unfold b_is_lot
  rw [exs_cons]
  simp only [ex_ifs, evT_or, evT_not, evT_isi, evT_blt, startS]
  simp only [List.map_cons, List.map_nil, List.length_cons, List.length_nil, List.replicate, List.cons_append, List.nil_append, ev_var, varM_eq, List.getElem?_cons_zero, ret_bnd, isiD, isiOne, opt_some]
  rw [e]
  simp only [ret_bnd, all_bls, al, opt_some, truth_bl']
  simp
  rw [exs_cons, ex_ret, ev_blt, e2]
  simp only [ret_bnd, all_bls, al2, opt_some]
  simp
end Ev
set_option Elab.async false
set_option linter.all false
set_option autoImplicit false
set_option maxRecDepth 100000
/-! PL7: rules; Rules made, their rows, closings. -/
namespace Ev
open PySem M
variable {Γ : Fn → Option Fd} {k : Nat}
abbrev Row := List Str × List Str
abbrev rowD (r : Row) : D := pD r.1 r.2
abbrev rowsD (rs : List Row) : D := .lst (rs.map rowD)
/-- rules of some marks -/
structure RowOf (ms : List Str) (r : Row) : Prop where
  a : r.1.Sublist ms
  b : r.2.Sublist ms
def rulesD (ms : List Str) (rs : List Row) : D := .ins 0 [tD ms, rowsD rs]
theorem f_is_rule [Has Γ "is_mark" fd_is_mark] [Has Γ "is_lot" fd_is_lot] [Has Γ "is_rule" fd_is_rule] {a b : List Str} (ha : Lot a) (hb : Lot b) (la : a.length ≤ 1000) (lb : b.length ≤ 1000) : runF Γ (k + 3) (.f "is_rule") [pD a b] = M.ret (.bl true, .clean) := by
  have q1 := f_is_lot (Γ := Γ) (k := k) ha la
  have q2 := f_is_lot (Γ := Γ) (k := k) hb lb
  rw [run_has (np := 1) (n := 1) (body := b_is_rule) rfl]
  simp [b_is_rule, exs_cons, startS, isiD, isiOne, q1, q2]
theorem sub_of {a b : List Str} (h : a.Sublist b) : sub a b = true := sub_iff.mpr fun _ hx => h.subset hx
theorem f_is_rule_of [Has Γ "is_mark" fd_is_mark] [Has Γ "is_lot" fd_is_lot] [Has Γ "is_rule" fd_is_rule] [Has Γ "within" fd_within] [Has Γ "is_rule_of" fd_is_rule_of] {ms : List Str} {r : Row} (hm : Lot ms) (hl : ms.length ≤ 1000) (h : RowOf ms r) : runF Γ (k + 4) (.f "is_rule_of") [tD ms, rowD r] = M.ret (.bl true, .clean) := by
  have q1 := f_is_rule (Γ := Γ) (k := k) (lot_sub hm h.a) (lot_sub hm h.b) (Nat.le_trans h.a.length_le hl) (Nat.le_trans h.b.length_le hl)
  have q2 := f_within (Γ := Γ) (k := k + 2) r.1 ms
  have q3 := f_within (Γ := Γ) (k := k + 2) r.2 ms
  rw [sub_of h.a] at q2
  rw [sub_of h.b] at q3
  rw [run_has (np := 2) (n := 2) (body := b_is_rule_of) rfl]
  simp [b_is_rule_of, exs_cons, startS, q1, q2, q3]
theorem f_are_rules_of [Has Γ "is_mark" fd_is_mark] [Has Γ "is_lot" fd_is_lot] [Has Γ "is_rule" fd_is_rule] [Has Γ "within" fd_within] [Has Γ "is_rule_of" fd_is_rule_of] [Has Γ "are_rules_of" fd_are_rules_of] {ms : List Str} {rs : List Row} (hm : Lot ms) (hl : ms.length ≤ 1000) (h : ∀ r ∈ rs, RowOf ms r) : runF Γ (k + 5) (.f "are_rules_of") [tD ms, rowsD rs] = M.ret (.bl true, .clean) := by
  have e : evE (runF Γ (k + 4)) (.lc (.one 2) [2] (.seq (.var 1)) (.no) (.call "is_rule_of" (.cons (.var 0) (.cons (.var 2) (.nil))))) [.val (tD ms), .val (rowsD rs), .no] = M.ret (.lst ((rs.map fun _ => true).map D.bl), .fresh) :=
    (ev_lcA rowD (fun _ => .bl true) rs rfl (by simp) fun r hr => by
      have q := f_is_rule_of (Γ := Γ) (k := k) hm hl (h r hr)
      simp [turnM, put1, wipeS, isOwn, q]).trans (by rw [List.map_map]; rfl)
  have al : ((rs.map fun _ => true).all id) = true := by
    rw [List.all_map, List.all_eq_true]
    intro _ _
    rfl
  rw [run_has (np := 2) (n := 3) (body := b_are_rules_of) rfl]
  unfold b_are_rules_of
  rw [exs_cons, ex_ret, ev_and]
  simp only [ev_isi, startS, List.map_cons, List.map_nil, List.length_cons, List.length_nil, List.replicate, List.cons_append, List.nil_append, ev_var, varM_eq, List.getElem?_cons_zero, List.getElem?_cons_succ, ret_bnd, isiD, isiOne, opt_some, boolM_bl, ev_blt]
  rw [if_pos trivial, e]
  simp only [ret_bnd, all_bls, al, opt_some]
  simp
@[simp] theorem madeM_own {d : D} {r : List Slot} : madeM (.nx (.own d :: r)) = ret (d, .fresh) := by
  unfold madeM
  rfl
theorem f_Rules [HasM Γ 0 "__init__" fd_Rules___init__] [Has Γ "is_mark" fd_is_mark] [Has Γ "is_lot" fd_is_lot] [Has Γ "is_rule" fd_is_rule] [Has Γ "within" fd_within] [Has Γ "is_rule_of" fd_is_rule_of] [Has Γ "are_rules_of" fd_are_rules_of] {ms : List Str} {rs : List Row} (hm : Lot ms) (hl : ms.length ≤ 1000) (h : ∀ r ∈ rs, RowOf ms r) : runF Γ (k + 7) (.i 0) [tD ms, rowsD rs] = M.ret (rulesD ms rs, .fresh) := by
  have q1 := f_is_lot (Γ := Γ) (k := k + 3) hm hl
  have q2 := f_are_rules_of (Γ := Γ) (k := k) hm hl h
  rw [run_hasI (np := 3) (n := 3) (body := b_Rules___init__) rfl]
  unfold b_Rules___init__
  rw [exs_cons]
  simp [startI, q1]
  rw [exs_cons]
  simp [q2]
  rw [exs_cons]
  simp
  rw [fset_at (fs := []) (j := 0) rfl rfl]
  simp
  rw [exs_cons]
  simp
  rw [fset_at (fs := [tD ms]) (j := 1) rfl rfl]
  simp [rulesD]
theorem f_Rules_rows [HasM Γ 0 "rows" fd_Rules_rows] (ms : List Str) (rs : List Row) : runF Γ (k + 1) (.m 0 "rows") [rulesD ms rs] = M.ret (rowsD rs, .fresh) := by
  rw [run_hasM (np := 1) (n := 1) (body := b_Rules_rows) rfl]
  simp [b_Rules_rows, exs_cons, startS, rulesD]
  rw [fld_at (j := 1) (d := rowsD rs) rfl rfl]
  simp
/-- a lot breaks a row -/
def brk (l : List Str) (r : Row) : Bool := sub r.1 l && !sub r.2 l
theorem f_breaks [Has Γ "within" fd_within] [Has Γ "breaks" fd_breaks] (l : List Str) (r : Row) : runF Γ (k + 2) (.f "breaks") [tD l, rowD r] = M.ret (.bl (brk l r), .clean) := by
  have q1 := f_within (Γ := Γ) (k := k) r.1 l
  have q2 := f_within (Γ := Γ) (k := k) r.2 l
  rw [run_has (np := 2) (n := 2) (body := b_breaks) rfl]
  simp [b_breaks, exs_cons, startS, q1, q2]
  unfold brk
  cases sub r.1 l <;> simp
theorem f_breaksL [Has Γ "_law_within" fd__law_within] [Has Γ "_law_breaks" fd__law_breaks] (l : List Str) (r : Row) (h1 : OkL r.1) (h2 : OkL r.2) : runF Γ (k + 2) (.f "_law_breaks") [tD l, rowD r] = M.ret (.bl (brk l r), .clean) := by
  have q1 := f_withinL (Γ := Γ) (k := k) r.1 l h1
  have q2 := f_withinL (Γ := Γ) (k := k) r.2 l h2
  rw [run_has (np := 2) (n := 2) (body := b__law_breaks) rfl]
  simp [b__law_breaks, exs_cons, startS, q1, q2]
  unfold brk
  cases sub r.1 l <;> simp
theorem f_broken_by [Has Γ "within" fd_within] [Has Γ "breaks" fd_breaks] [HasM Γ 0 "broken_by" fd_Rules_broken_by] (ms : List Str) (rs : List Row) (l : List Str) : runF Γ (k + 3) (.m 0 "broken_by") [rulesD ms rs, tD l] = M.ret (rowsD (rs.filter (brk l)), .fresh) := by
  have e : evE (runF Γ (k + 2)) (.lc (.one 2) [2] (.seq (.fld (.var 0) "its_rows" [(0, some 1)])) (.yes (.call "breaks" (.cons (.var 1) (.cons (.var 2) (.nil))))) (.var 2)) [.val (rulesD ms rs), .val (tD l), .no] = M.ret (.lst ((rs.filter (brk l)).map rowD), .fresh) :=
    ev_lcP rowD (brk l) rowD rs rfl (by
      rw [evIt_seq, ev_fld, ev_var]
      simp only [varM_eq, List.getElem?_cons_zero, ret_bnd, rulesD]
      rw [fld_at (j := 1) (d := rowsD rs) rfl rfl]
      simp) fun r hr => by
      have q := f_breaks (Γ := Γ) (k := k) l r
      simp [turnM, put1, wipeS, isOwn, q]
      cases brk l r <;> simp
  rw [run_hasM (np := 2) (n := 3) (body := b_Rules_broken_by) rfl]
  simp [b_Rules_broken_by, exs_cons, startS, e]
end Ev
set_option Elab.async false
set_option linter.all false
set_option autoImplicit false
set_option maxRecDepth 100000
/-! PL8: closings by Rules. -/
namespace Ev
open PySem M
variable {Γ : Fn → Option Fd} {k : Nat}
theorem asc_sublist {l m : List Str} (hl : Asc l) (hm : Asc m) (h : ∀ x ∈ l, x ∈ m) : l.Sublist m := by
  have e : l = m.filter fun x => decide (x ∈ l) := asc_ext hl (asc_filter _ hm) fun x => by
    rw [List.mem_filter, decide_eq_true_eq]
    exact ⟨fun q => ⟨h x q, q⟩, fun q => q.2⟩
  rw [e]
  exact List.filter_sublist
theorem join_mem {a b : List Str} {x : Str} : x ∈ join a b ↔ x ∈ a ∨ x ∈ b := by
  unfold join
  rw [sortSet_mem, List.mem_append]
theorem join_sub {ms a b : List Str} (hm : Asc ms) (ha : a.Sublist ms) (hb : b.Sublist ms) : (join a b).Sublist ms := asc_sublist (sortSet_asc _) hm fun x hx => by
  rcases join_mem.mp hx with h | h
  · exact ha.subset h
  · exact hb.subset h
theorem brk_false {l : List Str} {r : Row} : brk l r = false ↔ ((∀ x ∈ r.1, x ∈ l) → ∀ x ∈ r.2, x ∈ l) := by
  unfold brk
  cases h1 : sub r.1 l with
  | false =>
    simp
    intro h
    rw [sub_iff.mpr h] at h1
    cases h1
  | true =>
    have q := sub_iff.mp h1
    simp
    exact ⟨fun z _ => sub_iff.mp z, fun z => sub_iff.mpr (z q)⟩
theorem brk_true {l : List Str} {r : Row} : brk l r = true ↔ (∀ x ∈ r.1, x ∈ l) ∧ ∃ x ∈ r.2, x ∉ l := by
  unfold brk
  rw [Bool.and_eq_true, sub_iff]
  have : (!sub r.2 l) = true ↔ ∃ x ∈ r.2, x ∉ l := by
    rw [Bool.not_eq_true', ← Bool.not_eq_true, sub_iff]
    simp
  rw [this]
/-- all rows are kept -/
def Closed (rs : List Row) (l : List Str) : Prop := ∀ r ∈ rs, brk l r = false
/-- c is the closing of l -/
structure IsClo (rs : List Row) (l c : List Str) : Prop where
  inc : ∀ x ∈ l, x ∈ c
  cl : Closed rs c
  min : ∀ m, Closed rs m → (∀ x ∈ l, x ∈ m) → ∀ x ∈ c, x ∈ m
theorem IsClo.uniq {rs : List Row} {l c d : List Str} (h1 : IsClo rs l c) (h2 : IsClo rs l d) (a1 : Asc c) (a2 : Asc d) : c = d := asc_ext a1 a2 fun x => ⟨h1.min d h2.cl h2.inc x, h2.min c h1.cl h1.inc x⟩
def joinAll (l : List Str) (rs : List Row) : List Str := rs.foldl (fun l r => join l r.2) l
theorem joinAll_mem (rs : List Row) : ∀ (l : List Str) (x : Str), x ∈ joinAll l rs ↔ x ∈ l ∨ ∃ r ∈ rs, x ∈ r.2 := by
  induction rs with
  | nil =>
    intro l x
    simp [joinAll]
  | cons r rs ih =>
    intro l x
    show x ∈ joinAll (join l r.2) rs ↔ _
    rw [ih, join_mem]
    simp
    constructor
    · rintro ((h | h) | h)
      · exact .inl h
      · exact .inr (.inl h)
      · exact .inr (.inr h)
    · rintro (h | h | h)
      · exact .inl (.inl h)
      · exact .inl (.inr h)
      · exact .inr h
theorem joinAll_sub {ms : List Str} (hm : Asc ms) (rs : List Row) : ∀ (l : List Str), l.Sublist ms → (∀ r ∈ rs, RowOf ms r) → (joinAll l rs).Sublist ms := by
  induction rs with
  | nil => exact fun l h _ => h
  | cons r rs ih => exact fun l h hr => ih _ (join_sub hm h (hr r (List.mem_cons_self ..)).b) fun q hq => hr q (List.mem_cons_of_mem _ hq)
def cloT : Ss := .cons (.set 1 false (.call "joined" (.cons (.var 1) (.cons (.var 4) (.nil))))) .nil
def cloB : Ss := .cons (.fors (.tup [3, 4]) (.seq (.var 2)) cloT) <|
.cons (.set 2 false (.meth (.var 0) "broken_by" [0] (.cons (.var 1) (.nil)))) .nil
def StI (ms : List Str) (b : List Str × Slot × Slot) (r : List Row) : Prop := slotOk b.2.1 = true ∧ slotOk b.2.2 = true ∧ b.1.Sublist ms ∧ ∀ q ∈ r, RowOf ms q
def stStep (b : List Str × Slot × Slot) (r : Row) : List Str × Slot × Slot := (join b.1 r.2, .val (tD r.1), .val (tD r.2))
theorem st_fold (rs : List Row) : ∀ b : List Str × Slot × Slot, (rs.foldl stStep b).1 = joinAll b.1 rs := by
  induction rs with
  | nil => exact fun _ => rfl
  | cons r rs ih => exact fun b => ih _
theorem st_inv {ms : List Str} (hm : Asc ms) (rs : List Row) : ∀ b : List Str × Slot × Slot, StI ms b rs → StI ms (rs.foldl stStep b) [] := by
  induction rs with
  | nil => exact fun _ h => h
  | cons r rs ih => exact fun b h => ih _ ⟨rfl, rfl, join_sub hm h.2.2.1 (h.2.2.2 r (List.mem_cons_self ..)).b, fun q hq => h.2.2.2 q (List.mem_cons_of_mem _ hq)⟩
theorem clo_round [Has Γ "lot_of" fd_lot_of] [Has Γ "joined" fd_joined] [Has Γ "within" fd_within] [Has Γ "breaks" fd_breaks] [HasM Γ 0 "broken_by" fd_Rules_broken_by] {ms : List Str} (hm : Lot ms) (hl : ms.length ≤ 100) {rs bs : List Row} (hb : ∀ r ∈ bs, RowOf ms r) {l : List Str} (sl : l.Sublist ms) (s3 s4 : Slot) (h3 : slotOk s3 = true) (h4 : slotOk s4 = true) :
    ∃ s3' s4', slotOk s3' = true ∧ slotOk s4' = true ∧ exSs (runF Γ (k + 3)) cloB [.val (rulesD ms rs), .val (tD l), .val (rowsD bs), s3, s4] = M.ret (.nx [.val (rulesD ms rs), .val (tD (joinAll l bs)), .val (rowsD (rs.filter (brk (joinAll l bs)))), s3', s4']) := by
  have inv := st_inv hm.asc bs (l, s3, s4) ⟨h3, h4, sl, hb⟩
  have bb := f_broken_by (Γ := Γ) (k := k) ms rs (joinAll l bs)
  refine ⟨(bs.foldl stStep (l, s3, s4)).2.1, (bs.foldl stStep (l, s3, s4)).2.2, inv.1, inv.2.1, ?_⟩
  have lp : exS (runF Γ (k + 3)) (.fors (.tup [3, 4]) (.seq (.var 2)) cloT) [.val (rulesD ms rs), .val (tD l), .val (rowsD bs), s3, s4] = M.ret (.nx [.val (rulesD ms rs), .val (tD (joinAll l bs)), .val (rowsD bs), (bs.foldl stStep (l, s3, s4)).2.1, (bs.foldl stStep (l, s3, s4)).2.2]) := by
    rw [ex_fors]
    simp only [evIt_seq, ev_var, varM_eq]
    simp only [List.getElem?_cons_zero, List.getElem?_cons_succ, ret_bnd, ok_clean, Bool.true_or, guard_true, seqD_lst, opt_some]
    rw [forM_foldI (α := Row) (β := List Str × Slot × Slot) rowD (fun b => [.val (rulesD ms rs), .val (tD b.1), .val (rowsD bs), b.2.1, b.2.2]) stStep (StI ms) bs (l, s3, s4) ⟨h3, h4, sl, hb⟩ fun b r q hi => ?_]
    · rw [st_fold]
    · have e3 : isOwn [.val (rulesD ms rs), .val (tD b.1), .val (rowsD bs), b.2.1, b.2.2] 3 = false := ok_isOwn (s := b.2.1) rfl hi.1
      have e4 : isOwn [.val (rulesD ms rs), .val (tD b.1), .val (rowsD bs), .val (tD r.1), b.2.2] 4 = false := ok_isOwn (s := b.2.2) rfl hi.2.1
      have hr := hi.2.2.2 r (List.mem_cons_self ..)
      have j := f_joined (Γ := Γ) (k := k + 1) b.1 r.2 (by
        have h1 := hi.2.2.1.length_le
        have h2 := hr.b.length_le
        omega)
      refine ⟨?_, rfl, rfl, join_sub hm.asc hi.2.2.1 hr.b, fun q hq => hi.2.2.2 q (List.mem_cons_of_mem _ hq)⟩
      simp [puts, put1, e3, e4, cloT, exs_cons, j, stStep]
  unfold cloB
  rw [exs_cons, lp]
  simp only [ret_bnd, nextM_nx]
  rw [exs_cons]
  simp [rulesD]
  rw [meth_at (by rfl)]
  rw [show D.ins 0 [tD ms, rowsD rs] = rulesD ms rs from rfl]
  simp [bb]
theorem clo_whl [Has Γ "lot_of" fd_lot_of] [Has Γ "joined" fd_joined] [Has Γ "within" fd_within] [Has Γ "breaks" fd_breaks] [HasM Γ 0 "broken_by" fd_Rules_broken_by] {ms : List Str} (hm : Lot ms) (hl : ms.length ≤ 100) {rs : List Row} (hb : ∀ r ∈ rs, RowOf ms r) : ∀ (n : Nat) (l : List Str) (s3 s4 : Slot), l.Sublist ms → slotOk s3 = true → slotOk s4 = true → ms.length - l.length < n →
    ∃ c s2' s3' s4', c.Sublist ms ∧ IsClo rs l c ∧ whlM (evT (runF Γ (k + 3)) (.var 2)) (exSs (runF Γ (k + 3)) cloB) n [.val (rulesD ms rs), .val (tD l), .val (rowsD (rs.filter (brk l))), s3, s4] = M.ret (.nx [.val (rulesD ms rs), .val (tD c), s2', s3', s4'])
  | 0, _, _, _, _, _, _, h => absurd h (Nat.not_lt_zero _)
  | n + 1, l, s3, s4, sl, h3, h4, hn => by
    by_cases e : rs.filter (brk l) = []
    · refine ⟨l, .val (rowsD []), s3, s4, sl, ⟨fun _ h => h, fun r hr => ?_, fun m _ h => h⟩, ?_⟩
      · have q := List.filter_eq_nil_iff.mp e r hr
        simpa using q
      · rw [whlM]
        simp [e, truth]
    · obtain ⟨t3, t4, g3, g4, rd⟩ := clo_round (Γ := Γ) (k := k) hm hl (rs := rs) (bs := rs.filter (brk l)) (fun r hr => hb r (List.mem_filter.mp hr).1) sl s3 s4 h3 h4
      have sj := joinAll_sub hm.asc (rs.filter (brk l)) l sl fun r hr => hb r (List.mem_filter.mp hr).1
      have inc : ∀ x ∈ l, x ∈ joinAll l (rs.filter (brk l)) := fun x hx => (joinAll_mem _ l x).mpr (.inl hx)
      have grow : l.length < (joinAll l (rs.filter (brk l))).length := by
        obtain ⟨r, hr⟩ := List.exists_mem_of_ne_nil _ e
        obtain ⟨_, x, hx, nx⟩ := brk_true.mp (List.mem_filter.mp hr).2
        have hx' : x ∈ joinAll l (rs.filter (brk l)) := (joinAll_mem _ l x).mpr (.inr ⟨r, hr, hx⟩)
        have nd : (x :: l).Nodup := List.nodup_cons.mpr ⟨nx, asc_nodup (asc_sub sl hm.asc)⟩
        exact nodup_len nd fun y hy => by
          rcases List.mem_cons.mp hy with rfl | hy
          · exact hx'
          · exact inc y hy
      have lj := sj.length_le
      obtain ⟨c, s2', s3', s4', sc, ic, ew⟩ := clo_whl hm hl hb n (joinAll l (rs.filter (brk l))) t3 t4 sj g3 g4 (by omega)
      refine ⟨c, s2', s3', s4', sc, ⟨fun x hx => ic.inc x (inc x hx), ic.cl, fun m cm hm' => ic.min m cm fun x hx => ?_⟩, ?_⟩
      · rcases (joinAll_mem _ l x).mp hx with h | ⟨r, hr, hxr⟩
        · exact hm' x h
        · have q := brk_false.mp (cm r (List.mem_filter.mp hr).1)
          exact q (fun y hy => hm' y ((brk_true.mp (List.mem_filter.mp hr).2).1 y hy)) x hxr
      · have tr : truth (rowsD (rs.filter (brk l))) = some true := by
          show some (!((rs.filter (brk l)).map rowD).isEmpty) = some true
          cases h : rs.filter (brk l) with
          | nil => exact absurd h e
          | cons _ _ => rfl
        rw [whlM]
        simp only [evT_var, varM_eq, List.getElem?_cons_zero, List.getElem?_cons_succ, ret_bnd, tr, opt_some, if_true, rd]
        exact ew
theorem f_closing [Has Γ "lot_of" fd_lot_of] [Has Γ "joined" fd_joined] [Has Γ "within" fd_within] [Has Γ "breaks" fd_breaks] [HasM Γ 0 "broken_by" fd_Rules_broken_by] [HasM Γ 0 "closing" fd_Rules_closing] {ms : List Str} (hm : Lot ms) (hl : ms.length ≤ 100) {rs : List Row} (hb : ∀ r ∈ rs, RowOf ms r) {l : List Str} (sl : l.Sublist ms) :
    ∃ c, c.Sublist ms ∧ IsClo rs l c ∧ runF Γ (k + 4) (.m 0 "closing") [rulesD ms rs, tD l] = M.ret (tD c, .clean) := by
  obtain ⟨c, s2', s3', s4', sc, ic, ew⟩ := clo_whl (Γ := Γ) (k := k) hm hl hb 1000 l .no .no sl rfl rfl (by omega)
  have bb := f_broken_by (Γ := Γ) (k := k) ms rs l
  refine ⟨c, sc, ic, ?_⟩
  rw [run_hasM (np := 2) (n := 5) (body := b_Rules_closing) rfl]
  show bnd (exSs (runF Γ (k + 3)) (.cons (.set 2 false (.meth (.var 0) "broken_by" [0] (.cons (.var 1) (.nil)))) <| .cons (.whl (.var 2) cloB) <| .cons (.ret (.var 1)) .nil) _) _ = _
  rw [exs_cons]
  simp [rulesD, startS]
  rw [meth_at (by rfl)]
  rw [show D.ins 0 [tD ms, rowsD rs] = rulesD ms rs from rfl]
  simp [bb]
  rw [exs_cons, ex_whl, ew]
  simp
  rw [exs_cons]
  simp
end Ev
set_option Elab.async false
set_option linter.all false
set_option autoImplicit false
set_option maxRecDepth 100000
/-! PL9: rules that are drawn. -/
namespace Ev
open PySem M
variable {Γ : Fn → Option Fd} {k : Nat}
def mixT : Ss := .cons (.mut .insert 2 (.cons (.call "_law_take" (.cons (.var 0) (.cons (.bin .add (.blt .len (.var 2)) (.con (.int 1))) (.nil)))) (.cons (.var 3) (.nil)))) .nil
def MixI {α : Type} (g : α → D) (d1 : D) (all : List α) (r : List α) (ρ : List Slot) : Prop := ∃ (s3 : Slot) (ys pre : List α), ρ = [.val .bag, .val d1, .own (.lst (ys.map g)), s3] ∧ slotOk s3 = true ∧ all = pre ++ r ∧ ys.Perm pre
theorem insert_perm {α : Type} (ys : List α) (x : α) (n : Nat) : (ys.take n ++ [x] ++ ys.drop n).Perm (ys ++ [x]) := by
  have h1 : (ys.take n ++ [x] ++ ys.drop n).Perm (ys.take n ++ (ys.drop n ++ [x])) := by
    rw [List.append_assoc]
    exact List.Perm.append_left _ List.perm_append_comm
  rw [← List.append_assoc, List.take_append_drop] at h1
  exact h1
theorem mix_loop [Has Γ "_law_take" fd__law_take] {α : Type} (g : α → D) (d1 : D) (xs : List α) (hl : xs.length ≤ 1000) : Sure (forM (fun x ρ => bnd (opt (put ρ (.one 3) x)) fun ρ' => exSs (runF Γ (k + 1)) mixT ρ') (xs.map g) [.val .bag, .val d1, .own (.lst []), .no]) fun l => ∃ ρ', l = .nx ρ' ∧ MixI g d1 xs [] ρ' := by
  have sl := sizeLine_eq
  refine forM_sureI g (I := MixI g d1 xs) xs _ ⟨.no, [], [], rfl, rfl, rfl, .refl _⟩ fun x r ρ hI => ?_
  obtain ⟨s3, ys, pre, rfl, h3, e, p⟩ := hI
  have i3 : isOwn [.val .bag, .val d1, .own (.lst (ys.map g)), s3] 3 = false := ok_isOwn (s := s3) rfl h3
  have ly : ys.length ≤ 1000 := by
    rw [p.length_eq]
    have : pre.length ≤ xs.length := by
      rw [e, List.length_append]
      omega
    omega
  simp [put1, i3, mixT, exs_cons]
  refine sure_bnd (f_take (n := (ys.length : Int) + 1) (by omega) (by omega)) fun q hq => ?_
  obtain ⟨v, rfl, hv⟩ := hq
  have m : mutD .insert (.lst (ys.map g)) [.int (v : Int), g x] = some (.lst ((ys.take v ++ [x] ++ ys.drop v).map g)) := by
    show (if (ys.map g).length < sizeLine ∧ (0 : Int) ≤ v ∧ (v : Int) < 2 ^ 63 then some (D.lst ((ys.map g).take (v : Int).toNat ++ [g x] ++ (ys.map g).drop (v : Int).toNat)) else none) = _
    rw [if_pos ⟨by rw [List.length_map]; omega, by omega, by omega⟩, Int.toNat_natCast]
    simp [List.map_take, List.map_drop]
  simp [m, -List.append_assoc]
  refine sure_ret ⟨_, rfl, .val (g x), ys.take v ++ [x] ++ ys.drop v, pre ++ [x], by simp, rfl, by rw [e]; simp, ?_⟩
  exact (insert_perm ys x v).trans (p.append_right [x])
theorem f_mixed [Has Γ "_law_take" fd__law_take] [Has Γ "_law_mixed" fd__law_mixed] (xs : List Str) (hl : xs.length ≤ 1000) : Sure (runF Γ (k + 2) (.f "_law_mixed") [.bag, tD xs]) fun r => ∃ ys : List Str, ys.Perm xs ∧ r = (.lst (ys.map .str), .fresh) := by
  rw [run_has (np := 2) (n := 4) (body := b__law_mixed) rfl]
  show Sure (bnd (exSs (runF Γ (k + 1)) (.cons (.set 2 true (.lst (.nil))) <| .cons (.fors (.one 3) (.seq (.var 1)) mixT) <| .cons (.ret (.var 2)) .nil) _) _) _
  rw [exs_cons]
  simp [startS]
  rw [exs_cons, ex_fors]
  simp
  refine sure_bnd (mix_loop D.str (tD xs) xs hl) fun l hl' => ?_
  obtain ⟨ρ', rfl, s3, ys, pre, rfl, h3, e, p⟩ := hl'
  rw [List.append_nil] at e
  subst e
  simp [exs_cons]
  exact sure_ret ⟨ys, p, rfl⟩
theorem f_few [Has Γ "_law_take" fd__law_take] [Has Γ "_law_mixed" fd__law_mixed] [Has Γ "_law_few" fd__law_few] {ms : List Str} (hm : Lot ms) (hl : ms.length ≤ 1000) (n : Nat) : Sure (runF Γ (k + 3) (.f "_law_few") [.bag, tD ms, .int (n : Int)]) fun r => ∃ l : List Str, l.Sublist ms ∧ r = (tD l, .clean) := by
  rw [run_has (np := 3) (n := 3) (body := b__law_few) rfl]
  simp [b__law_few, exs_cons, startS]
  refine sure_bnd (f_mixed ms hl) fun r hr => ?_
  obtain ⟨ys, p, rfl⟩ := hr
  have sub : ∀ x ∈ ys.take n, x ∈ ms := fun x hx => p.mem_iff.mp (List.mem_of_mem_take hx)
  have nd : (ys.take n).Nodup := List.Nodup.sublist (List.take_sublist n ys) (p.nodup_iff.mpr (asc_nodup hm.asc))
  have ok : OkL (ys.take n) := fun x hx => hm.ok x (sub x hx)
  have so := sorted_strs ok
  rw [List.map_take] at so
  simp [so, -List.map_take]
  exact sure_ret ⟨isort (ys.take n), asc_sublist (isort_asc nd) hm.asc fun x hx => sub x ((isort_perm _).mem_iff.mp hx), rfl⟩
theorem at_small {xs : List Nat} {v : Nat} (h : v < xs.length) : ∃ n : Nat, L2.atI (xs.map fun i : Nat => D.int (i : Int)) (v : Int) = some (.int (n : Int)) := ⟨xs[v], L2.atI_nat (by rw [List.getElem?_map, List.getElem?_eq_getElem h]; rfl)⟩
theorem f_rule [Has Γ "_law_take" fd__law_take] [Has Γ "_law_mixed" fd__law_mixed] [Has Γ "_law_few" fd__law_few] [Has Γ "_law_lot" fd__law_lot] [Has Γ "_law_rule" fd__law_rule] {ms : List Str} (hm : Lot ms) (hl : ms.length ≤ 1000) : Sure (runF Γ (k + 4) (.f "_law_rule") [.bag, tD ms]) fun q => ∃ r : Row, RowOf ms r ∧ q = (rowD r, .clean) := by
  rw [run_has (np := 2) (n := 4) (body := b__law_rule) rfl]
  unfold b__law_rule
  rw [exs_cons]
  simp [startS]
  refine sure_bnd (f_take (by decide) (by decide)) fun r hr => ?_
  obtain ⟨v, rfl, hv⟩ := hr
  simp
  rw [exs_cons]
  by_cases h8 : v = 8
  · subst h8
    simp [exs_cons]
    refine sure_bnd (f_lot ms) fun r hr => ?_
    obtain ⟨a, sa, rfl⟩ := hr
    simp
    refine sure_bnd (f_lot ms) fun r hr => ?_
    obtain ⟨b, sb, rfl⟩ := hr
    simp
    exact sure_ret ⟨a, b, ⟨sa, sb⟩, rfl⟩
  · have h8' : (v : Int) ≠ 8 := by omega
    obtain ⟨n, e⟩ := at_small (xs := [0, 1, 1, 2, 2, 2, 3, 2, 0, 1]) (v := v) (by simp; omega)
    simp at e
    simp [h8', h8]
    rw [exs_cons]
    simp [e]
    refine sure_bnd (f_few hm hl n) fun r hr => ?_
    obtain ⟨a, sa, rfl⟩ := hr
    simp
    rw [exs_cons]
    by_cases h9 : v = 9
    · subst h9
      simp [exs_cons]
      exact sure_ret ⟨a, a, ⟨sa, sa⟩, rfl⟩
    · have h9' : (v : Int) ≠ 9 := by omega
      obtain ⟨n2, e2⟩ := at_small (xs := [1, 1, 2, 1, 2, 1, 1, 3]) (v := v) (by simp; omega)
      simp at e2
      simp [h9', h9]
      rw [exs_cons]
      simp [e2]
      refine sure_bnd (f_few hm hl n2) fun r hr => ?_
      obtain ⟨b, sb, rfl⟩ := hr
      simp
      exact sure_ret ⟨a, b, ⟨sa, sb⟩, rfl⟩
/-- a comprehension over a drawn number of turns -/
theorem lc_drawn {C : Calls} {g : Tg} {vs : List Nat} {a : E} {c : Oe} {e : E} {ρ : List Slot} {α : Type} (gm : α → D) {P : α → Prop} {m : Nat} (hm : m ≤ 1000000) (hw : (vs.all fun i => !isOwn ρ i) = true) (hi : Sure (evE C a ρ) fun r => ∃ n : Nat, r = (.int (n : Int), .clean) ∧ n ≤ m)
    (ht : ∀ j : Nat, Sure (turnM C g vs c e ρ (.int (j : Int))) fun r => ∃ a, r = some (gm a, true) ∧ P a) : Sure (evE C (.lc g vs (.rng a) c e) ρ) fun r => ∃ ys : List α, r = (.lst (ys.map gm), .fresh) ∧ ys.length ≤ m ∧ ∀ a ∈ ys, P a := by
  rw [ev_lc hw, evIt_rng]
  simp only [bnd_bnd]
  refine sure_bnd hi fun r hr => ?_
  obtain ⟨n, rfl, hn⟩ := hr
  rw [intM_int, ret_bnd, guard_by (line_nat (by omega)), ret_bnd, Int.toNat_natCast, rngD_nat]
  refine sure_bnd (lcM_sure (α := Unit) (P := fun d => ∃ a, d = gm a ∧ P a) _ fun x hx => ?_) fun q hq => ?_
  · obtain ⟨j, _, rfl⟩ := List.mem_map.mp hx
    exact (ht j).mono fun r ⟨a, e, p⟩ => ⟨gm a, e, a, rfl, p⟩
  · obtain ⟨q1, q2, q3⟩ := hq
    obtain ⟨ys, e, py⟩ := map_of gm q3
    refine sure_ret ⟨ys, ?_, ?_, py⟩
    · rw [q1, e]
      rfl
    · rw [e, List.length_map, List.length_map, List.length_range] at q2
      omega
theorem ixN_last {n : Nat} (h : 0 < n) : L2.ixN n (-1) = some (n - 1) := by
  unfold L2.ixN
  simp
  omega
theorem f_some_rows [Has Γ "_law_take" fd__law_take] [Has Γ "_law_mixed" fd__law_mixed] [Has Γ "_law_few" fd__law_few] [Has Γ "_law_lot" fd__law_lot] [Has Γ "_law_rule" fd__law_rule] [Has Γ "_law_some_rows" fd__law_some_rows] {ms : List Str} (hm : Lot ms) (hl : ms.length ≤ 1000) {n : Nat} (hn : n ≤ 1000) : Sure (runF Γ (k + 5) (.f "_law_some_rows") [.bag, tD ms, .int (n : Int)]) fun q => ∃ rs : List Row, q = (rowsD rs, .fresh) ∧ rs.length ≤ n ∧ ∀ r ∈ rs, RowOf ms r := by
  rw [run_has (np := 3) (n := 5) (body := b__law_some_rows) rfl]
  unfold b__law_some_rows
  refine sure_bnd (P := fun l => ∃ rs : List Row, l = .rt (rowsD rs) .fresh ∧ rs.length ≤ n ∧ ∀ r ∈ rs, RowOf ms r) ?_ fun l hl' => ?_
  · refine sure_cons (P := fun ρ => ∃ rs : List Row, ρ = [.val .bag, .val (tD ms), .val (.int (n : Int)), .own (rowsD rs), .no] ∧ rs.length ≤ n ∧ ∀ r ∈ rs, RowOf ms r) ?_ ?_
    · rw [ex_set]
      refine sure_bnd (lc_drawn rowD (P := RowOf ms) (m := n) (by omega) rfl ?_ fun j => ?_) fun r hr => ?_
      · simp [startS]
        refine sure_bnd (f_take (n := (n : Int) + 1) (by omega) (by omega)) fun r hr => ?_
        obtain ⟨v, rfl, hv⟩ := hr
        simp
        exact sure_ret ⟨v, rfl, by omega⟩
      · simp [turnM, wipeS, put1, isOwn, startS]
        refine sure_bnd (f_rule hm hl) fun r hr => ?_
        obtain ⟨r, hr, rfl⟩ := hr
        simp
        exact sure_ret ⟨r.1, r.2, rfl, hr⟩
      · obtain ⟨rs, rfl, h1, h2⟩ := hr
        simp [startS]
        exact sure_ret ⟨_, rfl, rs, rfl, h1, fun a b hb => h2 (a, b) hb⟩
    · rintro _ ⟨rs, rfl, h1, h2⟩
      rw [exs_cons]
      by_cases g1 : 1 < rs.length
      · have g1' : (1 : Int) < (rs.length : Int) := by omega
        simp [g1, g1']
        refine sure_bnd (f_take (by decide) (by decide)) fun r hr => ?_
        obtain ⟨v, rfl, hv⟩ := hr
        by_cases h0 : v = 0
        · subst h0
          have p0 : 0 < rs.length := by omega
          have at_ : L2.atI (rs.map rowD) 0 = some (rowD rs[0]) := L2.atI_nat (j := 0) (by rw [List.getElem?_map, List.getElem?_eq_getElem p0]; rfl)
          simp [exs_cons, at_]
          rw [lput_at (xs := rs.map rowD) (j := rs.length - 1) rfl (by rw [List.length_map]; exact ixN_last p0)]
          simp [← List.map_set]
          exact sure_ret ⟨rs.set (rs.length - 1) rs[0], rfl, by simpa using h1, fun a b hb => by
            rcases List.mem_or_eq_of_mem_set hb with z | z
            · exact h2 _ z
            · rw [z]
              exact h2 _ (List.getElem_mem p0)⟩
        · simp [h0, exs_cons]
          exact sure_ret ⟨rs, rfl, h1, fun a b hb => h2 (a, b) hb⟩
      · have g1' : ¬ (1 : Int) < (rs.length : Int) := by omega
        simp [g1, g1', exs_cons]
        exact sure_ret ⟨rs, rfl, h1, fun a b hb => h2 (a, b) hb⟩
  · obtain ⟨rs, rfl, h1, h2⟩ := hl'
    simp
    exact sure_ret ⟨rs, rfl, h1, fun a b hb => h2 (a, b) hb⟩
end Ev
set_option Elab.async false
set_option linter.all false
set_option autoImplicit false
set_option maxRecDepth 100000
/-! PL10: what follows; closed lots in order. -/
namespace Ev
open PySem M
variable {Γ : Fn → Option Fd} {k : Nat}
theorem fine_rowsD {ms : List Str} (hm : Lot ms) (hl : ms.length ≤ 100) {rs : List Row} (h : ∀ r ∈ rs, RowOf ms r) (hn : rs.length ≤ 100) : Fine 3 (2 ^ 18) (rowsD rs) := fine_lst (k := 2) (n := 2000) (fun d hd => by
  obtain ⟨r, hr, rfl⟩ := List.mem_map.mp hd
  exact fine_pD (lot_sub hm (h r hr).a) (lot_sub hm (h r hr).b) (Nat.le_trans (h r hr).a.length_le hl) (Nat.le_trans (h r hr).b.length_le hl)) (by rw [List.length_map]; omega)
theorem pys_len : ∀ {ds : List D} {ys : List PyData}, D.pys ds = some ys → ys.length = ds.length
  | [], ys, h => by
    rw [D.pys] at h
    cases h
    rfl
  | d :: ds, ys, h => by
    obtain ⟨y, r, rfl, _, h2⟩ := pys_cons h
    rw [List.length_cons, List.length_cons, pys_len h2]
theorem eqD_lnil {j n : Nat} {xs : List D} (h : Fine j n (.lst xs)) (hj : j ≤ 64) : eqD (.lst xs) (.lst []) = some xs.isEmpty := by
  obtain ⟨y, e, f⟩ := h
  rw [D.py] at e
  obtain ⟨ys, e1, rfl⟩ := Option.map_eq_some_iff.mp e
  have ln := pys_len e1
  show eqDP _ _ = _
  unfold eqDP
  rw [show (D.lst xs).py = some (.list ys) by rw [D.py, e1]; rfl]
  show (if (SeqAt.shaped (.list ys) && SeqAt.shaped (.list [])) = true then some (PyData.eqv (.list ys) (.list [])) else none) = _
  rw [if_pos (by rw [f.shaped hj]; rfl)]
  cases ys with
  | nil =>
    cases xs with
    | nil => rfl
    | cons _ _ => simp at ln
  | cons _ _ =>
    cases xs with
    | nil => simp at ln
    | cons _ _ => rfl
/-- the closed lots of some marks, in order -/
def closedL (ms : List Str) (rs : List Row) : List (List Str) := (allL ms).filter fun l => (rs.filter (brk l)).isEmpty
theorem mem_closedL {ms l : List Str} {rs : List Row} : l ∈ closedL ms rs ↔ l.Sublist ms ∧ Closed rs l := by
  unfold closedL Closed
  rw [List.mem_filter, mem_allL, List.isEmpty_iff, List.filter_eq_nil_iff]
  simp
theorem f_closed_lotsL [Has Γ "_law_within" fd__law_within] [Has Γ "_law_breaks" fd__law_breaks] [Has Γ "_law_all_lots" fd__law_all_lots] [Has Γ "_law_in_order" fd__law_in_order] [Has Γ "_law_closed_lots" fd__law_closed_lots] {ms : List Str} (hm : Lot ms) (hl : ms.length ≤ 12) {rs : List Row} (h : ∀ r ∈ rs, RowOf ms r) (hn : rs.length ≤ 100) : runF Γ (k + 3) (.f "_law_closed_lots") [tD ms, rowsD rs] = M.ret (tsD (closedL ms rs), .fresh) := by
  have al := f_all_lotsL (Γ := Γ) (k := k) hm.ok hl
  rw [show sortL (grow ms) = allL ms from rfl] at al
  have inner : ∀ l : List Str, evE (runF Γ (k + 2)) (.lc (.one 3) [3] (.seq (.var 1)) (.yes (.call "_law_breaks" (.cons (.var 2) (.cons (.var 3) (.nil))))) (.var 3)) [.val (tD ms), .val (rowsD rs), .val (tD l), .no] = M.ret (.lst ((rs.filter (brk l)).map rowD), .fresh) := fun l =>
    ev_lcP rowD (brk l) rowD rs rfl (by simp) fun r hr => by
      have q := f_breaksL (Γ := Γ) (k := k) l r (lot_sub hm (h r hr).a).ok (lot_sub hm (h r hr).b).ok
      simp [turnM, put1, wipeS, isOwn, q]
      cases brk l r <;> simp
  have e : evE (runF Γ (k + 2)) (.lc (.one 2) [2] (.seq (.call "_law_all_lots" (.cons (.var 0) (.nil)))) (.yes (.cmp .eq (.lc (.one 3) [3] (.seq (.var 1)) (.yes (.call "_law_breaks" (.cons (.var 2) (.cons (.var 3) (.nil))))) (.var 3)) (.lst (.nil)))) (.var 2)) [.val (tD ms), .val (rowsD rs), .no, .no] = M.ret (.lst ((closedL ms rs).map tD), .fresh) :=
    ev_lcP tD (fun l => (rs.filter (brk l)).isEmpty) tD (allL ms) rfl (by simp [al]) fun l hl' => by
      have fn := fine_rowsD hm (by omega) (rs := rs.filter (brk l)) (fun r hr => h r (List.mem_filter.mp hr).1) (Nat.le_trans (List.length_filter_le _ _) hn)
      have q := eqD_lnil fn (by decide)
      have q2 : eqD (.lst ((rs.filter (brk l)).map rowD)) (.lst []) = some (rs.filter (brk l)).isEmpty := by
        rw [q]
        cases rs.filter (brk l) <;> rfl
      simp only [turnM, wipeS, put_one, put1]
      simp [isOwn, inner, q2, -List.isEmpty_iff, -List.filter_eq_nil_iff]
      cases (rs.filter (brk l)).isEmpty <;> simp
  rw [run_has (np := 2) (n := 4) (body := b__law_closed_lots) rfl]
  simp [b__law_closed_lots, exs_cons, startS, e]
/-- what follows, what is against a rule -/
theorem f_against [Has Γ "lot_of" fd_lot_of] [Has Γ "joined" fd_joined] [Has Γ "within" fd_within] [Has Γ "breaks" fd_breaks] [HasM Γ 0 "broken_by" fd_Rules_broken_by] [HasM Γ 0 "closing" fd_Rules_closing] [Has Γ "follows" fd_follows] [Has Γ "against" fd_against] {ms : List Str} (hm : Lot ms) (hl : ms.length ≤ 100) {rs : List Row} (hb : ∀ r ∈ rs, RowOf ms r) {r : Row} (hr : RowOf ms r) :
    ∃ c, c.Sublist ms ∧ IsClo rs r.1 c ∧ (∀ j, runF Γ (j + 5) (.f "follows") [rulesD ms rs, rowD r] = M.ret (.bl (sub r.2 c), .clean)) ∧ ∀ j, runF Γ (j + 6) (.f "against") [rulesD ms rs, rowD r] = M.ret (if sub r.2 c then .non else tD c, .clean) := by
  obtain ⟨c, sc, ic, _⟩ := f_closing (Γ := Γ) (k := 0) hm hl hb hr.a
  have clo : ∀ j, runF Γ (j + 4) (.m 0 "closing") [rulesD ms rs, tD r.1] = M.ret (tD c, .clean) := fun j => by
    obtain ⟨c', sc', ic', e⟩ := f_closing (Γ := Γ) (k := j) hm hl hb hr.a
    rw [e, ic'.uniq ic (asc_sub sc' hm.asc) (asc_sub sc hm.asc)]
  have fo : ∀ j, runF Γ (j + 5) (.f "follows") [rulesD ms rs, rowD r] = M.ret (.bl (sub r.2 c), .clean) := fun j => by
    have q := f_within (Γ := Γ) (k := j + 3) r.2 c
    have cj := clo j
    unfold rulesD at cj
    rw [run_has (np := 2) (n := 2) (body := b_follows) rfl]
    simp [b_follows, exs_cons, startS, rulesD]
    rw [meth_at (by rfl)]
    simp [cj, q]
  refine ⟨c, sc, ic, fo, fun j => ?_⟩
  have cj := clo (j + 1)
  have fj := fo j
  unfold rulesD at cj fj
  rw [run_has (np := 2) (n := 2) (body := b_against) rfl]
  simp [b_against, exs_cons, startS, rulesD, fj]
  cases sub r.2 c with
  | true => simp
  | false =>
    simp
    rw [meth_at (by rfl)]
    simp [cj]
/-! ### the order of lots -/
theorem dataLt_rk (a b : List Str) : PySem.W.dataLt (rk a) (rk b) = ltL a b := by
  unfold rk
  have al : PySem.W.alike (.tuple (a.map .str)) (.tuple (b.map .str)) = true := by rw [PySem.W.alike, alike_strs]
  rw [PySem.W.dataLt_pair (by rfl) al, PySem.W.dataLt_int, eqv_int]
  unfold ltL
  have e0 : PySem.W.dataLt (.list (a.map .str)) (.list (b.map .str)) = PySem.W.dataLt (.tuple (a.map .str)) (.tuple (b.map .str)) := by
    unfold PySem.W.dataLt
    rw [PySem.W.keyToks, PySem.W.keyToks, PySem.W.keyToks, PySem.W.keyToks]
  rw [e0]
  by_cases h : a.length = b.length
  · have h' : ((a.length : Nat) : Int) = ((b.length : Nat) : Int) := by omega
    rw [if_pos (decide_eq_true h')]
    have n : ¬ a.length < b.length := by omega
    simp only [h, n, decide_true, Bool.true_and]
    cases e : PyData.eqv (.tuple (a.map .str)) (.tuple (b.map .str)) with
    | false => simp
    | true =>
      have t := (PySem.W.toks_eqv _ _ al).1 e
      simp
      unfold PySem.W.dataLt
      rw [t]
      exact PyProof.Rows.lex_irrefl _
  · have h' : ¬ ((a.length : Nat) : Int) = ((b.length : Nat) : Int) := by omega
    rw [if_neg (by simpa using h')]
    simp [h]
theorem sortL_le (ls : List (List Str)) : (sortL ls).Pairwise fun l m => ltL m l = false := by
  have tot : PySem.W.TotalLe (PySem.W.dataLe false fun l : List Str => pyD (rankD (tD l))) := PySem.W.sortLe_total _ _ _
  have p := PySem.W.sort_pairwise tot ls
  have e : sortL ls = ls.mergeSort (PySem.W.dataLe false fun l : List Str => pyD (rankD (tD l))) := rfl
  rw [e]
  refine p.imp fun {l m} h => ?_
  rw [PySem.W.dataLe_eq] at h
  simp only [cond_false] at h
  have py : ∀ l : List Str, pyD (rankD (tD l)) = rk l := fun l => by
    unfold pyD
    rw [rank_rk]
    rfl
  rw [py, py, dataLt_rk] at h
  simpa using h
/-- the first of lots in order, if all others are longer -/
theorem head_short {xs : List (List Str)} {c : List Str} (hp : xs.Pairwise fun l m => ltL m l = false) (hc : c ∈ xs) (h : ∀ y ∈ xs, y ≠ c → c.length < y.length) : ∃ t, xs = c :: t := by
  cases xs with
  | nil => cases hc
  | cons x t =>
    by_cases e : x = c
    · exact ⟨t, by rw [e]⟩
    · have hct : c ∈ t := by
        rcases List.mem_cons.mp hc with z | z
        · exact absurd z.symm e
        · exact z
      have q := (List.pairwise_cons.mp hp).1 c hct
      have l := h x (List.mem_cons_self ..) e
      unfold ltL at q
      simp [l] at q
theorem longer {c m : List Str} (ac : Asc c) (am : Asc m) (h : ∀ x ∈ c, x ∈ m) (ne : m ≠ c) : c.length < m.length := by
  have : ∃ x ∈ m, x ∉ c := Classical.byContradiction fun z => ne (asc_ext am ac fun x => ⟨fun hx => Classical.byContradiction fun q => z ⟨x, hx, q⟩, h x⟩)
  obtain ⟨x, hx, nx⟩ := this
  exact nodup_len (List.nodup_cons.mpr ⟨nx, asc_nodup ac⟩) fun y hy => by
    rcases List.mem_cons.mp hy with rfl | hy
    · exact hx
    · exact h y hy
/-- the closed lots that break a rule: none, or its closing first -/
theorem closed_against {ms c : List Str} (hm : Lot ms) {rs : List Row} {r : Row} (hr : RowOf ms r) (sc : c.Sublist ms) (ic : IsClo rs r.1 c) : (sub r.2 c = true → (closedL ms rs).filter (fun l => brk l r) = []) ∧ (sub r.2 c = false → ∃ t, (closedL ms rs).filter (fun l => brk l r) = c :: t) := by
  have big : ∀ l ∈ (closedL ms rs).filter (fun l => brk l r), ∀ x ∈ c, x ∈ l := fun l hl => by
    obtain ⟨h1, h2⟩ := List.mem_filter.mp hl
    exact ic.min l (mem_closedL.mp h1).2 (brk_true.mp h2).1
  refine ⟨fun h => ?_, fun h => ?_⟩
  · rw [List.filter_eq_nil_iff]
    intro l hl hb
    obtain ⟨_, x, hx, nx⟩ := brk_true.mp hb
    exact nx (big l (List.mem_filter.mpr ⟨hl, hb⟩) x (sub_iff.mp h x hx))
  · refine head_short ?_ ?_ fun y hy ne => ?_
    · unfold closedL
      exact List.Pairwise.filter _ (List.Pairwise.filter _ (sortL_le _))
    · rw [List.mem_filter, mem_closedL]
      refine ⟨⟨sc, ic.cl⟩, ?_⟩
      unfold brk
      rw [sub_iff.mpr ic.inc, h]
      rfl
    · have hy' := (mem_closedL.mp (List.mem_filter.mp hy).1).1
      exact longer (asc_sub sc hm.asc) (asc_sub hy' hm.asc) (big y hy) ne
end Ev
set_option Elab.async false
set_option linter.all false
set_option autoImplicit false
set_option maxRecDepth 100000
/-! PL16: Rules as a whole: its defs together, the closing as a function, its operators. -/
namespace Ev
open PySem M
/-! ### the closing as a function -/
def closedB (rs : List Row) (l : List Str) : Bool := rs.all fun r => !brk l r
theorem closedB_iff {rs : List Row} {l : List Str} : closedB rs l = true ↔ Closed rs l := by
  unfold closedB Closed
  simp
/-- what all closed lots that hold it share -/
def cloF (rs : List Row) (ms l : List Str) : List Str := ms.filter fun x => (allL ms).all fun m => !(closedB rs m && sub l m) || decide (x ∈ m)
theorem mem_cloF {rs : List Row} {ms l : List Str} {x : Str} : x ∈ cloF rs ms l ↔ x ∈ ms ∧ ∀ m : List Str, m.Sublist ms → Closed rs m → (∀ y ∈ l, y ∈ m) → x ∈ m := by
  unfold cloF
  rw [List.mem_filter, List.all_eq_true]
  refine and_congr_right fun _ => ⟨fun h m sm cm im => ?_, fun h m hm => ?_⟩
  · have q := h m (mem_allL.mpr sm)
    rw [closedB_iff.mpr cm, sub_iff.mpr im] at q
    simpa using q
  · cases e : closedB rs m && sub l m with
    | false => rfl
    | true =>
      rw [Bool.and_eq_true] at e
      simpa using h m (mem_allL.mp hm) (closedB_iff.mp e.1) (sub_iff.mp e.2)
theorem cloF_sub {rs : List Row} {ms l : List Str} : (cloF rs ms l).Sublist ms := List.filter_sublist
theorem cloF_clo {rs : List Row} {ms l : List Str} (h : ∀ r ∈ rs, RowOf ms r) (sl : l.Sublist ms) : IsClo rs l (cloF rs ms l) where
  inc := fun x hx => mem_cloF.mpr ⟨sl.subset hx, fun m _ _ im => im x hx⟩
  cl := fun r hr => by
    rw [brk_false]
    intro h1 x hx
    refine mem_cloF.mpr ⟨(h r hr).b.subset hx, fun m sm cm im => ?_⟩
    exact brk_false.mp (cm r hr) (fun y hy => (mem_cloF.mp (h1 y hy)).2 m sm cm im) x hx
  min := fun m cm im x hx => by
    have q := (mem_cloF.mp hx).2 (ms.filter fun y => decide (y ∈ m)) List.filter_sublist (fun r hr => by
      rw [brk_false]
      intro h1 y hy
      rw [List.mem_filter]
      refine ⟨(h r hr).b.subset hy, ?_⟩
      rw [decide_eq_true_eq]
      exact brk_false.mp (cm r hr) (fun z hz => by simpa using (List.mem_filter.mp (h1 z hz)).2) y hy) fun y hy => by
        rw [List.mem_filter]
        exact ⟨sl.subset hy, by simpa using im y hy⟩
    simpa using (List.mem_filter.mp q).2
section
variable {rs rs' : List Row} {ms l m : List Str}
theorem cloF_inc (h : ∀ r ∈ rs, RowOf ms r) (sl : l.Sublist ms) : ∀ x ∈ l, x ∈ cloF rs ms l := (cloF_clo h sl).inc
theorem cloF_mono (hlm : ∀ x ∈ l, x ∈ m) : ∀ x ∈ cloF rs ms l, x ∈ cloF rs ms m := fun x hx => by
  obtain ⟨h1, h2⟩ := mem_cloF.mp hx
  exact mem_cloF.mpr ⟨h1, fun n sn cn im => h2 n sn cn fun y hy => im y (hlm y hy)⟩
theorem cloF_min (h : ∀ r ∈ rs, RowOf ms r) (sl : l.Sublist ms) (cm : Closed rs m) (hlm : ∀ x ∈ l, x ∈ m) : ∀ x ∈ cloF rs ms l, x ∈ m := (cloF_clo h sl).min m cm hlm
theorem cloF_closed (h : ∀ r ∈ rs, RowOf ms r) (sl : l.Sublist ms) : Closed rs (cloF rs ms l) := (cloF_clo h sl).cl
theorem cloF_fix (hm : Asc ms) (h : ∀ r ∈ rs, RowOf ms r) (sl : l.Sublist ms) : cloF rs ms l = l ↔ Closed rs l := by
  refine ⟨fun e => e ▸ cloF_closed h sl, fun c => ?_⟩
  exact asc_ext (asc_sub cloF_sub hm) (asc_sub sl hm) fun x => ⟨cloF_min h sl c (fun _ z => z) x, cloF_inc h sl x⟩
theorem cloF_idem (hm : Asc ms) (h : ∀ r ∈ rs, RowOf ms r) (sl : l.Sublist ms) : cloF rs ms (cloF rs ms l) = cloF rs ms l := (cloF_fix hm h cloF_sub).mpr (cloF_closed h sl)
/-- more rows, more closing -/
theorem cloF_rows (hh : ∀ r ∈ rs, r ∈ rs') : ∀ x ∈ cloF rs ms l, x ∈ cloF rs' ms l := fun x hx => by
  obtain ⟨h1, h2⟩ := mem_cloF.mp hx
  exact mem_cloF.mpr ⟨h1, fun n sn cn im => h2 n sn (fun r hr => cn r (hh r hr)) im⟩
end
/-! ### the defs, at any depth that is enough -/
section
variable {Γ : Fn → Option Fd} {k : Nat}
theorem s_within [Has Γ "within" fd_within] (hk : 1 ≤ k) {a b : List Str} : runF Γ k (.f "within") [tD a, tD b] = M.ret (.bl (sub a b), .clean) := by
  obtain ⟨j, rfl⟩ := Nat.exists_eq_add_of_le' hk
  exact f_within a b
theorem s_common [Has Γ "common" fd_common] (hk : 1 ≤ k) {a b : List Str} : runF Γ k (.f "common") [tD a, tD b] = M.ret (tD (a.filter fun x => decide (x ∈ b)), .clean) := by
  obtain ⟨j, rfl⟩ := Nat.exists_eq_add_of_le' hk
  exact f_common a b
theorem s_without [Has Γ "without" fd_without] (hk : 1 ≤ k) {a b : List Str} : runF Γ k (.f "without") [tD a, tD b] = M.ret (tD (a.filter fun x => !decide (x ∈ b)), .clean) := by
  obtain ⟨j, rfl⟩ := Nat.exists_eq_add_of_le' hk
  exact f_without a b
theorem s_joined [Has Γ "lot_of" fd_lot_of] [Has Γ "joined" fd_joined] (hk : 2 ≤ k) {a b : List Str} (h : a.length + b.length < 1000) : runF Γ k (.f "joined") [tD a, tD b] = M.ret (tD (join a b), .clean) := by
  obtain ⟨j, rfl⟩ := Nat.exists_eq_add_of_le' hk
  exact f_joined a b h
theorem s_breaks [Has Γ "within" fd_within] [Has Γ "breaks" fd_breaks] (hk : 2 ≤ k) {l : List Str} {r : Row} : runF Γ k (.f "breaks") [tD l, rowD r] = M.ret (.bl (brk l r), .clean) := by
  obtain ⟨j, rfl⟩ := Nat.exists_eq_add_of_le' hk
  exact f_breaks l r
theorem s_is_lot [Has Γ "is_mark" fd_is_mark] [Has Γ "is_lot" fd_is_lot] (hk : 2 ≤ k) {l : List Str} (h : Lot l) (hn : l.length ≤ 1000) : runF Γ k (.f "is_lot") [tD l] = M.ret (.bl true, .clean) := by
  obtain ⟨j, rfl⟩ := Nat.exists_eq_add_of_le' hk
  exact f_is_lot h hn
theorem s_all_lots [Has Γ "all_lots" fd_all_lots] [Has Γ "in_order" fd_in_order] (hk : 2 ≤ k) {ms : List Str} (h : Lot ms) (hl : ms.length ≤ 12) : runF Γ k (.f "all_lots") [tD ms] = M.ret (tsD (allL ms), .fresh) := by
  obtain ⟨j, rfl⟩ := Nat.exists_eq_add_of_le' hk
  exact f_all_lots h.ok hl
section
variable [RC Γ] {ms l : List Str} {rs : List Row}
theorem s_is_rule_of (hk : 4 ≤ k) {r : Row} (hm : Lot ms) (hl : ms.length ≤ 1000) (h : RowOf ms r) : runF Γ k (.f "is_rule_of") [tD ms, rowD r] = M.ret (.bl true, .clean) := by
  obtain ⟨j, rfl⟩ := Nat.exists_eq_add_of_le' hk
  exact f_is_rule_of hm hl h
theorem s_Rules (hk : 7 ≤ k) (hm : Lot ms) (hl : ms.length ≤ 1000) (h : ∀ r ∈ rs, RowOf ms r) : runF Γ k (.i 0) [tD ms, rowsD rs] = M.ret (rulesD ms rs, .fresh) := by
  obtain ⟨j, rfl⟩ := Nat.exists_eq_add_of_le' hk
  exact f_Rules hm hl h
theorem s_rows (hk : 1 ≤ k) : runF Γ k (.m 0 "rows") [rulesD ms rs] = M.ret (rowsD rs, .fresh) := by
  obtain ⟨j, rfl⟩ := Nat.exists_eq_add_of_le' hk
  exact f_Rules_rows ms rs
theorem s_broken_by (hk : 3 ≤ k) : runF Γ k (.m 0 "broken_by") [rulesD ms rs, tD l] = M.ret (rowsD (rs.filter (brk l)), .fresh) := by
  obtain ⟨j, rfl⟩ := Nat.exists_eq_add_of_le' hk
  exact f_broken_by ms rs l
theorem s_closing (hk : 4 ≤ k) (hm : Lot ms) (hl : ms.length ≤ 100) (h : ∀ r ∈ rs, RowOf ms r) (sl : l.Sublist ms) : runF Γ k (.m 0 "closing") [rulesD ms rs, tD l] = M.ret (tD (cloF rs ms l), .clean) := by
  obtain ⟨j, rfl⟩ := Nat.exists_eq_add_of_le' hk
  obtain ⟨c, sc, ic, e⟩ := f_closing (Γ := Γ) (k := j) hm hl h sl
  rw [e, ic.uniq (cloF_clo h sl) (asc_sub sc hm.asc) (asc_sub cloF_sub hm.asc)]
theorem s_call (hk : 5 ≤ k) (hm : Lot ms) (hl : ms.length ≤ 100) (h : ∀ r ∈ rs, RowOf ms r) (sl : l.Sublist ms) : runF Γ k (.m 0 "__call__") [rulesD ms rs, tD l] = M.ret (tD (cloF rs ms l), .clean) := by
  obtain ⟨j, rfl⟩ := Nat.exists_eq_add_of_le' hk
  have q := s_closing (Γ := Γ) (k := j + 4) (by omega) hm hl h sl
  rw [show j + 5 = (j + 4) + 1 from rfl, run_hasM (np := 2) (n := 2) (body := b_Rules___call__) rfl]
  unfold b_Rules___call__
  rw [exs_cons]
  simp [startS, rulesD]
  rw [meth_at (by rfl), ← rulesD]
  simp [q]
theorem s_marks (hk : 2 ≤ k) : runF Γ k (.p 0 "marks") [rulesD ms rs] = M.ret (tD ms, .clean) := by
  obtain ⟨j, rfl⟩ := Nat.exists_eq_add_of_le' hk
  rw [run_hasP (np := 1) (n := 1) (body := b_Rules_marks) rfl]
  simp [b_Rules_marks, exs_cons, startS, rulesD]
  rw [fld_at (j := 0) (d := tD ms) rfl rfl]
  simp
theorem s_len (hk : 2 ≤ k) : runF Γ k (.p 0 "__len__") [rulesD ms rs] = M.ret (.int (rs.length : Int), .clean) := by
  obtain ⟨j, rfl⟩ := Nat.exists_eq_add_of_le' hk
  rw [run_hasP (np := 1) (n := 1) (body := b_Rules___len__) rfl]
  simp [b_Rules___len__, exs_cons, startS, rulesD]
  rw [fld_at (j := 1) (d := rowsD rs) rfl rfl]
  simp
theorem s_in (hk : 4 ≤ k) (hm : Lot ms) (hl : ms.length ≤ 100) (h : ∀ r ∈ rs, RowOf ms r) (hn : rs.length ≤ 100) (sl : l.Sublist ms) : runF Γ k (.m 0 "__contains__") [rulesD ms rs, tD l] = M.ret (.bl (closedB rs l), .clean) := by
  obtain ⟨j, rfl⟩ := Nat.exists_eq_add_of_le' hk
  have q1 := s_is_lot (Γ := Γ) (k := j + 3) (by omega) (lot_sub hm sl) (Nat.le_trans sl.length_le (by omega))
  have q2 := s_within (Γ := Γ) (k := j + 3) (by omega) (a := l) (b := ms)
  rw [sub_of sl] at q2
  have q3 := s_broken_by (Γ := Γ) (k := j + 3) (ms := ms) (rs := rs) (l := l) (by omega)
  have fn := fine_rowsD hm hl (rs := rs.filter (brk l)) (fun r hr => h r (List.mem_filter.mp hr).1) (Nat.le_trans (List.length_filter_le _ _) hn)
  have q4 := eqD_lnil fn (by decide)
  have q5 : ((rs.filter (brk l)).map rowD).isEmpty = closedB rs l := by
    rw [List.isEmpty_map]
    unfold closedB
    rw [Bool.eq_iff_iff, List.isEmpty_iff, List.filter_eq_nil_iff, List.all_eq_true]
    simp
  rw [q5] at q4
  rw [show j + 4 = (j + 3) + 1 from rfl, run_hasM (np := 2) (n := 2) (body := b_Rules___contains__) rfl]
  unfold b_Rules___contains__
  rw [exs_cons]
  simp only [ex_ret, ev_and, ev_call, evEs_cons, evEs_nil, ev_fld, ev_cmp, ev_meth, ev_lst, startS]
  simp [q1, rulesD]
  rw [fld_at (j := 0) (d := tD ms) rfl rfl, meth_at (by rfl), ← rulesD]
  simp [q2, q3, q4]
theorem s_add (hk : 8 ≤ k) {r : Row} (hm : Lot ms) (hl : ms.length ≤ 1000) (h : ∀ r ∈ rs, RowOf ms r) (hn : rs.length < 1000) (hr : RowOf ms r) : runF Γ k (.m 0 "__add__") [rulesD ms rs, rowD r] = M.ret (rulesD ms (rs ++ [r]), .fresh) := by
  obtain ⟨j, rfl⟩ := Nat.exists_eq_add_of_le' hk
  have q1 := s_is_rule_of (Γ := Γ) (k := j + 7) (by omega) hm hl hr
  have q2 := s_Rules (Γ := Γ) (k := j + 7) (by omega) hm hl (rs := rs ++ [r]) (fun x hx => by
    rcases List.mem_append.mp hx with z | z
    · exact h x z
    · rw [List.mem_singleton.mp z]
      exact hr)
  have hs : rs.length + 1 ≤ sizeLine := Nat.le_trans (show rs.length + 1 ≤ 1000 by omega) (by decide)
  rw [show j + 8 = (j + 7) + 1 from rfl, run_hasM (np := 2) (n := 2) (body := b_Rules___add__) rfl]
  unfold b_Rules___add__
  rw [exs_cons]
  simp only [ex_ifs, evT_not, evT_call, evEs_cons, evEs_nil, ev_fld, startS]
  simp [rulesD]
  rw [fld_at (j := 0) (d := tD ms) rfl rfl]
  simp [q1]
  rw [exs_cons]
  simp
  rw [fld_at (j := 0) (d := tD ms) rfl rfl, fld_at (j := 1) (d := rowsD rs) rfl rfl]
  simp [hs]
  have e : rs.map rowD ++ [rowD r] = (rs ++ [r]).map rowD := by simp
  rw [e, q2]
  simp [rulesD]
end
end
end Ev
set_option Elab.async false
set_option linter.all false
set_option autoImplicit false
set_option maxRecDepth 100000
/-! PL17: Rules: rows left out, what follows from others. -/
namespace Ev
open PySem M
variable {Γ : Fn → Option Fd} {k : Nat}
section
variable [RC Γ] {ms ms' l : List Str} {rs rs' : List Row}
theorem all_map_bl {α : Type} (p : α → Bool) (xs : List α) : bltD .all (.lst (xs.map fun x => D.bl (p x))) = some (.bl (xs.all p), .clean) := by
  have e : (xs.map fun x => D.bl (p x)) = (xs.map p).map D.bl := by rw [List.map_map]; rfl
  rw [e, all_bls, List.all_map]
  rfl
theorem any_map_bl {α : Type} (p : α → Bool) (xs : List α) : bltD .any (.lst (xs.map fun x => D.bl (p x))) = some (.bl (xs.any p), .clean) := by
  have e : (xs.map fun x => D.bl (p x)) = (xs.map p).map D.bl := by rw [List.map_map]; rfl
  rw [e, any_bls, List.any_map]
  rfl
theorem s_follows_from [HasM Γ 0 "follows_from" fd_Rules_follows_from] (hk : 5 ≤ k) (hm : Lot ms') (hl : ms'.length ≤ 100) (sm : ms.Sublist ms') (h : ∀ r ∈ rs, RowOf ms r) (h' : ∀ r ∈ rs', RowOf ms' r) :
    runF Γ k (.m 0 "follows_from") [rulesD ms rs, rulesD ms' rs'] = M.ret (.bl (rs.all fun r => sub r.2 (cloF rs' ms' r.1)), .clean) := by
  obtain ⟨j, rfl⟩ := Nat.exists_eq_add_of_le' hk
  have q1 := s_within (Γ := Γ) (k := j + 4) (by omega) (a := ms) (b := ms')
  rw [sub_of sm] at q1
  have q2 := s_marks (Γ := Γ) (k := j + 4) (ms := ms') (rs := rs') (by omega)
  rw [show j + 5 = (j + 4) + 1 from rfl, run_hasM (np := 2) (n := 4) (body := b_Rules_follows_from) rfl]
  unfold b_Rules_follows_from
  rw [exs_cons]
  simp only [ex_ifs, evT_not, evT_call, evEs_cons, evEs_nil, ev_fld, startS]
  simp [rulesD]
  rw [fld_at (j := 0) (d := tD ms) rfl rfl, fld_prp (by rfl), ← rulesD]
  simp [q1, q2]
  rw [exs_cons]
  simp
  rw [ev_lcA rowD (fun r => .bl (sub r.2 (cloF rs' ms' r.1))) rs rfl]
  · simp [all_map_bl]
  · simp
    rw [fld_at (j := 1) (d := rowsD rs) rfl rfl]
    simp
  · intro r hr
    have q3 := s_closing (Γ := Γ) (k := j + 4) (by omega) hm hl h' ((h r hr).a.trans sm)
    have q4 := s_within (Γ := Γ) (k := j + 4) (by omega) (a := r.2) (b := cloF rs' ms' r.1)
    simp [turnM, put1, puts, wipeS, isOwn]
    rw [rulesD, meth_at (by rfl), ← rulesD]
    simp [q3, q4]
theorem f_is_integer [Has Γ "is_integer" fd_is_integer] (hk : 1 ≤ k) {i : Int} : runF Γ k (.f "is_integer") [.int i] = M.ret (.bl true, .clean) := by
  obtain ⟨j, rfl⟩ := Nat.exists_eq_add_of_le' hk
  rw [run_has (np := 1) (n := 1) (body := b_is_integer) rfl]
  simp [b_is_integer, exs_cons, startS, isiD, isiOne]
theorem s_need_row (hk : 2 ≤ k) {i : Nat} (hi : i < rs.length) : runF Γ k (.m 0 "need_row") [rulesD ms rs, .int (i : Int)] = M.ret (.non, .clean) := by
  obtain ⟨j, rfl⟩ := Nat.exists_eq_add_of_le' hk
  have q := f_is_integer (Γ := Γ) (k := j + 1) (by omega) (i := (i : Int))
  rw [show j + 2 = (j + 1) + 1 from rfl, run_hasM (np := 2) (n := 2) (body := b_Rules_need_row) rfl]
  unfold b_Rules_need_row
  rw [exs_cons]
  simp [startS, q, rulesD]
  rw [fld_at (j := 1) (d := rowsD rs) rfl rfl]
  rw [ret_bnd, len_lst, opt_some, ret_bnd, ltD_int, opt_some, ret_bnd]
  have e2 : ((i : Int) < ((rs.map rowD).length : Int)) := by rw [List.length_map]; omega
  simp only [e2, decide_true, Bool.true_eq_false, if_false, ret_bnd, nextM_nx, exs_nil, outM_nx]
theorem s_getitem (hk : 5 ≤ k) {i : Nat} (hi : i < rs.length) : runF Γ k (.p 0 "__getitem__") [rulesD ms rs, .int (i : Int)] = M.ret (rowD rs[i], .clean) := by
  obtain ⟨j, rfl⟩ := Nat.exists_eq_add_of_le' hk
  have q := s_need_row (Γ := Γ) (k := j + 3) (ms := ms) (rs := rs) (by omega) hi
  rw [show j + 5 = (j + 3) + 2 from rfl, run_hasP (np := 2) (n := 2) (body := b_Rules___getitem__) rfl]
  unfold b_Rules___getitem__
  rw [exs_cons]
  simp [startS, rulesD]
  rw [meth_at (by rfl), ← rulesD]
  simp [q]
  rw [exs_cons]
  have at_ : L2.atI (rs.map rowD) (i : Int) = some (rowD rs[i]) := L2.atI_nat (by rw [List.getElem?_map, List.getElem?_eq_getElem hi]; rfl)
  simp [rulesD]
  rw [fld_at (j := 1) (d := rowsD rs) rfl rfl]
  simp [at_]
theorem s_withoutR [HasM Γ 0 "without" fd_Rules_without] (hk : 8 ≤ k) {i : Nat} (hi : i < rs.length) (hm : Lot ms) (hl : ms.length ≤ 1000) (h : ∀ r ∈ rs, RowOf ms r) (hn : rs.length ≤ 1000) :
    runF Γ k (.m 0 "without") [rulesD ms rs, .int (i : Int)] = M.ret (rulesD ms (rs.eraseIdx i), .fresh) := by
  obtain ⟨j, rfl⟩ := Nat.exists_eq_add_of_le' hk
  have q := s_need_row (Γ := Γ) (k := j + 7) (ms := ms) (rs := rs) (by omega) hi
  have q2 := s_Rules (Γ := Γ) (k := j + 7) (by omega) hm hl (rs := rs.eraseIdx i) (fun x hx => h x ((List.eraseIdx_sublist rs i).subset hx))
  rw [show j + 8 = (j + 7) + 1 from rfl, run_hasM (np := 2) (n := 2) (body := b_Rules_without) rfl]
  unfold b_Rules_without
  rw [exs_cons]
  simp [startS, rulesD]
  rw [meth_at (by rfl), ← rulesD]
  simp [q]
  rw [exs_cons]
  simp [rulesD]
  rw [fld_at (j := 0) (d := tD ms) rfl rfl, fld_at (j := 1) (d := rowsD rs) rfl rfl]
  simp
  have e1 : sliD (rowsD rs) (some ((i : Int) + 1)) none = some (.lst ((rs.map rowD).drop (i + 1)), .fresh) := sli_lst_lo (xs := rs.map rowD) (t := i + 1)
  have e2 : binD .add (.lst ((rs.map rowD).take i)) (.lst ((rs.map rowD).drop (i + 1))) = some (rowsD (rs.eraseIdx i), .fresh) := by
    rw [add_lst (by
      rw [List.length_take, List.length_map, List.length_drop, List.length_map]
      exact Nat.le_trans (show min i rs.length + (rs.length - (i + 1)) ≤ 1000 by omega) (by decide)), ← List.map_take, ← List.map_drop, ← List.map_append, List.eraseIdx_eq_take_drop_succ]
  rw [e1, opt_some, ret_bnd, e2]
  simp [q2]
  simp [rulesD]
end
end Ev
set_option Elab.async false
set_option linter.all false
set_option autoImplicit false
set_option maxRecDepth 100000
/-! PL18: calls of Rules in trees; small laws of closings. -/
namespace Ev
open PySem M
variable {Γ : Fn → Option Fd} {k : Nat}
section
variable [RC Γ] {ms a b l : List Str} {rs : List Row}
theorem and_ret (c t : Bool) : (if c = true then M.ret t else M.ret false) = (M.ret (c && t) : M Bool) := by cases c <;> rfl
theorem or_ret (c t : Bool) : (if c = true then M.ret true else M.ret t) = (M.ret (c || t) : M Bool) := by cases c <;> rfl
theorem and_retE (c t : Bool) : (if c = true then M.ret (D.bl t, Kd.clean) else M.ret (D.bl false, Kd.clean)) = (M.ret (D.bl (c && t), Kd.clean) : M (D × Kd)) := by cases c <;> rfl
theorem or_retE (c t : Bool) : (if c = true then M.ret (D.bl true, Kd.clean) else M.ret (D.bl t, Kd.clean)) = (M.ret (D.bl (c || t), Kd.clean) : M (D × Kd)) := by cases c <;> rfl
@[simp] theorem notN_bl (a b : Bool) : cmpD .notN (.bl a) (.bl b) = some (!decide (a = b)) := by unfold cmpD; rfl
@[simp] theorem isN_bl (a b : Bool) : cmpD .isN (.bl a) (.bl b) = some (decide (a = b)) := by unfold cmpD; rfl
theorem eqD_bl (a b : Bool) : eqD (.bl a) (.bl b) = some (decide (a = b)) := by cases a <;> cases b <;> rfl
theorem eq_self {l : List Str} (h : OkL l) : eqD (tD l) (tD l) = some true := by
  rw [eqD_tD h h, decide_eq_true rfl]
/-- a list of just so many that are drawn -/
theorem lc_times {C : Calls} {g : Tg} {vs : List Nat} {a : E} {c : Oe} {e : E} {ρ : List Slot} {α : Type} (gm : α → D) {P : α → Prop} {n : Nat} {kd : Kd} (hn : n ≤ 1000000) (hw : (vs.all fun i => !isOwn ρ i) = true) (hi : evE C a ρ = M.ret (.int (n : Int), kd))
    (ht : ∀ j : Nat, j < n → Sure (turnM C g vs c e ρ (.int (j : Int))) fun r => ∃ a, r = some (gm a, true) ∧ P a) : Sure (evE C (.lc g vs (.rng a) c e) ρ) fun r => ∃ ys : List α, r = (.lst (ys.map gm), .fresh) ∧ ys.length = n ∧ ∀ a ∈ ys, P a := by
  rw [ev_lc hw, it_rng hi hn, ret_bnd]
  refine sure_bnd (lcM_sure (α := Unit) (P := fun d => ∃ a, d = gm a ∧ P a) _ fun x hx => ?_) fun q hq => ?_
  · obtain ⟨j, hj, rfl⟩ := List.mem_map.mp hx
    exact (ht j (List.mem_range.mp hj)).mono fun r ⟨a, e, p⟩ => ⟨gm a, e, a, rfl, p⟩
  · obtain ⟨q1, q2, q3⟩ := hq
    obtain ⟨ys, e, py⟩ := map_of gm q3
    refine sure_ret ⟨ys, ?_, ?_, py⟩
    · rw [q1, e]
      rfl
    · rw [e, List.length_map, List.length_map, List.length_range] at q2
      exact q2
/-- a loop, then what is behind it -/
theorem sure_loop {C : Calls} {g : Tg} {it : It} {body r : Ss} {ρ : List Slot} {α : Type} {gm : α → D} {xs : List α} (I : List Slot → Prop) {Q : Fl → Prop} (hi : evIt C it false ρ = M.ret (xs.map gm)) (h0 : I ρ)
    (step : ∀ ρ a, a ∈ xs → I ρ → Sure (bnd (opt (put ρ g (gm a))) fun ρ' => exSs C body ρ') fun l => ∃ ρ', l = .nx ρ' ∧ I ρ') (rest : ∀ ρ', I ρ' → Sure (exSs C r ρ') Q) : Sure (exSs C (.cons (.fors g it body) r) ρ) Q := by
  refine sure_cons (P := I) ?_ rest
  rw [ex_fors, hi, ret_bnd]
  refine forM_sure (I := I) _ _ h0 fun ρ x hx h => ?_
  obtain ⟨a, ha, rfl⟩ := List.mem_map.mp hx
  exact step ρ a ha h
/-- a loop that draws nothing -/
theorem loop_fold {C : Calls} {g : Tg} {it : It} {body r : Ss} {ρ : List Slot} {α β : Type} (gm : α → D) (st : β → List Slot) (step : β → α → β) (I : β → List α → Prop) (xs : List α) (b : β) (hi : evIt C it false ρ = M.ret (xs.map gm)) (hρ : ρ = st b) (hI : I b xs)
    (hs : ∀ b a r', I b (a :: r') → bnd (opt (put (st b) g (gm a))) (fun ρ' => exSs C body ρ') = M.ret (.nx (st (step b a))) ∧ I (step b a) r') : exSs C (.cons (.fors g it body) r) ρ = exSs C r (st (xs.foldl step b)) := by
  rw [exs_cons, ex_fors, hi, ret_bnd, hρ, forM_foldI gm st step I xs b hI hs, ret_bnd, nextM_nx]
/-- a loop over drawn or fixed numbers -/
theorem sure_times {C : Calls} {i : Nat} {e : E} {body r : Ss} {ρ : List Slot} {n : Nat} {kd : Kd} (I : List Slot → Prop) {Q : Fl → Prop} (hi : evE C e ρ = M.ret (.int (n : Int), kd)) (hn : n ≤ 1000000) (h0 : I ρ)
    (step : ∀ ρ a, a < n → I ρ → Sure (bnd (opt (put1 ρ i (.int (a : Nat)))) fun ρ' => exSs C body ρ') fun l => ∃ ρ', l = .nx ρ' ∧ I ρ') (rest : ∀ ρ', I ρ' → Sure (exSs C r ρ') Q) : Sure (exSs C (.cons (.fors (.one i) (.rng e) body) r) ρ) Q :=
  sure_loop (gm := fun i : Nat => D.int i) (xs := List.range n) I (it_rng hi hn) h0 (fun ρ a ha h => step ρ a (List.mem_range.mp ha) h) rest
theorem put_ok {ρ : List Slot} {i : Nat} {s : Slot} {d : D} (h : ρ[i]? = some s) (ok : slotOk s = true) : put1 ρ i d = some (ρ.set i (.val d)) := by
  rw [put1, ok_isOwn h ok]
  simp
/-- what a Rules is -/
structure RulesOk (ms : List Str) (rs : List Row) : Prop where
  m : Lot ms
  l : ms.length ≤ 100
  r : ∀ r ∈ rs, RowOf ms r
  n : rs.length ≤ 100
theorem app_rules (hk : 5 ≤ k) (h : RulesOk ms rs) (sl : l.Sublist ms) {kd : Kd} {bb : Bool} {cs : List Nat} (hc : cs.contains 0 = true) : appM (runF Γ k) cs (rulesD ms rs, kd) ([tD l], bb) = M.ret (tD (cloF rs ms l), Kd.clean.by (tD (cloF rs ms l)) (kd.ok && bb)) := by
  rw [rulesD, app_at hc, ← rulesD, s_call hk h.m h.l h.r sl, ret_bnd]
theorem in_rules (hk : 4 ≤ k) (h : RulesOk ms rs) (sl : l.Sublist ms) {kd kd' : Kd} {neg : Bool} {cs : List Nat} (hc : cs.contains 0 = true) : dinM (runF Γ k) cs neg (tD l, kd') (rulesD ms rs, kd) = M.ret (neg != closedB rs l) := by
  rw [rulesD, din_at hc, ← rulesD, s_in hk h.m h.l h.r h.n sl, ret_bnd, boolM_bl, ret_bnd]
theorem meth_closing (hk : 4 ≤ k) (h : RulesOk ms rs) (sl : l.Sublist ms) {kd : Kd} {bb : Bool} {cs : List Nat} (hc : cs.contains 0 = true) : methM (runF Γ k) "closing" cs (rulesD ms rs, kd) ([tD l], bb) = M.ret (tD (cloF rs ms l), Kd.clean.by (tD (cloF rs ms l)) (kd.ok && bb)) := by
  rw [rulesD, meth_at hc, ← rulesD, s_closing hk h.m h.l h.r sl, ret_bnd]
theorem meth_rows (hk : 1 ≤ k) {kd : Kd} {bb : Bool} {cs : List Nat} (hc : cs.contains 0 = true) : methM (runF Γ k) "rows" cs (rulesD ms rs, kd) ([], bb) = M.ret (rowsD rs, Kd.fresh.by (rowsD rs) (kd.ok && bb)) := by
  rw [rulesD, meth_at hc, ← rulesD, s_rows hk, ret_bnd]
theorem fld_marks (hk : 2 ≤ k) {kd : Kd} {tab : List (Nat × Option Nat)} (ht : tab.lookup 0 = some none) : fldM (runF Γ k) "marks" tab (rulesD ms rs, kd) = M.ret (tD ms, Kd.clean.by (tD ms) kd.ok) := by
  rw [rulesD, fld_prp ht, ← rulesD, s_marks hk, ret_bnd]
theorem fldR (hk : 2 ≤ k) {kd : Kd} : fldM (runF Γ k) "marks" [(0, none), (1, none), (2, none), (3, none)] (rulesD ms rs, kd) = M.ret (tD ms, Kd.clean.by (tD ms) kd.ok) := fld_marks hk rfl
theorem len_rules (hk : 2 ≤ k) (hn : rs.length ≤ 100000) {kd : Kd} {cs : List Nat} (hc : cs.contains 0 = true) : dlenM (runF Γ k) cs (rulesD ms rs, kd) = M.ret (.int (rs.length : Int), .clean) := by
  rw [rulesD, dlen_at hc, ← rulesD, s_len hk, ret_bnd, intM_int, ret_bnd]
  have e1 : (0 : Int) ≤ (rs.length : Int) := by omega
  have e2 : (rs.length : Int) < 2 ^ 62 := by omega
  simp only [e1, e2, decide_true, Bool.and_self, guard_true]
theorem add_rules (hk : 8 ≤ k) {r : Row} (h : RulesOk ms rs) (hr : RowOf ms r) {kd kd' : Kd} {cs : List Nat} (hc : cs.contains 0 = true) : daddM (runF Γ k) cs (rulesD ms rs, kd) (rowD r, kd') = M.ret (rulesD ms (rs ++ [r]), Kd.fresh.by (rulesD ms (rs ++ [r])) (kd.ok && kd'.ok)) := by
  rw [rulesD, dadd_at hc, ← rulesD, s_add hk h.m (Nat.le_trans h.l (by decide)) h.r (Nat.lt_of_le_of_lt h.n (by decide)) hr, ret_bnd]
theorem item_rules (hk : 5 ≤ k) {i : Nat} (hi : i < rs.length) {kd kd' : Kd} {cs : List Nat} (hc : cs.contains 0 = true) : didxM (runF Γ k) cs (rulesD ms rs, kd) (.int (i : Int), kd') = M.ret (rowD rs[i], Kd.clean.by (rowD rs[i]) (kd.ok && kd'.ok)) := by
  rw [rulesD, didx_at hc, ← rulesD, s_getitem hk hi, ret_bnd]
theorem meth_follows_from [HasM Γ 0 "follows_from" fd_Rules_follows_from] {ms' : List Str} {rs' : List Row} (hk : 5 ≤ k) (h : RulesOk ms' rs') (sm : ms.Sublist ms') (hr : ∀ r ∈ rs, RowOf ms r) {kd : Kd} {bb : Bool} {cs : List Nat} (hc : cs.contains 0 = true) :
    methM (runF Γ k) "follows_from" cs (rulesD ms rs, kd) ([rulesD ms' rs'], bb) = M.ret (.bl (rs.all fun r => sub r.2 (cloF rs' ms' r.1)), .clean) := by
  rw [rulesD, meth_at hc, ← rulesD, s_follows_from hk h.m h.l sm hr h.r, ret_bnd]
  cases (kd.ok && bb) <;> rfl
theorem meth_without [HasM Γ 0 "without" fd_Rules_without] (hk : 8 ≤ k) {i : Nat} (hi : i < rs.length) (h : RulesOk ms rs) {kd : Kd} {bb : Bool} {cs : List Nat} (hc : cs.contains 0 = true) :
    methM (runF Γ k) "without" cs (rulesD ms rs, kd) ([.int (i : Int)], bb) = M.ret (rulesD ms (rs.eraseIdx i), Kd.fresh.by (rulesD ms (rs.eraseIdx i)) (kd.ok && bb)) := by
  rw [rulesD, meth_at hc, ← rulesD, s_withoutR hk hi h.m (Nat.le_trans h.l (by decide)) h.r (Nat.le_trans h.n (by decide)), ret_bnd]
end
section
variable {ms a b l : List Str} {rs : List Row}
theorem RulesOk.add (h : RulesOk ms rs) {r : Row} (hr : RowOf ms r) (hn : rs.length < 100) : RulesOk ms (rs ++ [r]) := ⟨h.m, h.l, fun x hx => by
  rcases List.mem_append.mp hx with z | z
  · exact h.r x z
  · rw [List.mem_singleton.mp z]
    exact hr, by rw [List.length_append, List.length_singleton]; omega⟩
theorem RulesOk.erase (h : RulesOk ms rs) (i : Nat) : RulesOk ms (rs.eraseIdx i) := ⟨h.m, h.l, fun x hx => h.r x ((List.eraseIdx_sublist rs i).subset hx), Nat.le_trans (List.eraseIdx_sublist rs i).length_le h.n⟩
theorem clo_len (h : RulesOk ms rs) : (cloF rs ms l).length ≤ 100 := Nat.le_trans cloF_sub.length_le h.l
theorem sub_len (h : RulesOk ms rs) (sl : l.Sublist ms) : l.length ≤ 100 := Nat.le_trans sl.length_le h.l
theorem ok_sub (h : Lot ms) (sl : l.Sublist ms) : OkL l := (lot_sub h sl).ok
theorem sub_clo (h : RulesOk ms rs) (sl : l.Sublist ms) : sub l (cloF rs ms l) = true := sub_iff.mpr (cloF_inc h.r sl)
theorem sub_clo_mono (hab : sub a b = true) : sub (cloF rs ms a) (cloF rs ms b) = true := sub_iff.mpr (cloF_mono (sub_iff.mp hab))
theorem closed_clo (h : RulesOk ms rs) (sl : l.Sublist ms) : closedB rs (cloF rs ms l) = true := closedB_iff.mpr (cloF_closed h.r sl)
theorem join_sub' (h : Lot ms) (sa : a.Sublist ms) (sb : b.Sublist ms) : (join a b).Sublist ms := join_sub h.asc sa sb
/-- the closing of two closings together -/
theorem clo_join (h : RulesOk ms rs) (sa : a.Sublist ms) (sb : b.Sublist ms) : cloF rs ms (join (cloF rs ms a) (cloF rs ms b)) = cloF rs ms (join a b) := by
  have sj := join_sub' h.m sa sb
  refine asc_ext (asc_sub cloF_sub h.m.asc) (asc_sub cloF_sub h.m.asc) fun x => ⟨fun hx => ?_, fun hx => ?_⟩
  · refine cloF_min h.r (join_sub' h.m cloF_sub cloF_sub) (cloF_closed h.r sj) (fun y hy => ?_) x hx
    rcases join_mem.mp hy with z | z
    · exact cloF_mono (fun w hw => join_mem.mpr (.inl hw)) y z
    · exact cloF_mono (fun w hw => join_mem.mpr (.inr hw)) y z
  · refine cloF_mono (fun y hy => ?_) x hx
    rcases join_mem.mp hy with z | z
    · exact join_mem.mpr (.inl (cloF_inc h.r sa y z))
    · exact join_mem.mpr (.inr (cloF_inc h.r sb y z))
/-- what two closed lots share is closed -/
theorem closed_common (ha : Closed rs a) (hb : Closed rs b) : closedB rs (a.filter fun x => decide (x ∈ b)) = true := closedB_iff.mpr fun r hr => brk_false.mpr fun h1 x hx => by
  rw [List.mem_filter]
  refine ⟨brk_false.mp (ha r hr) (fun y hy => (List.mem_filter.mp (h1 y hy)).1) x hx, ?_⟩
  rw [decide_eq_true_eq]
  exact brk_false.mp (hb r hr) (fun y hy => by simpa using (List.mem_filter.mp (h1 y hy)).2) x hx
theorem sub_join_l : sub a (join a b) = true := sub_iff.mpr fun x hx => join_mem.mpr (.inl hx)
theorem sub_join_r : sub b (join a b) = true := sub_iff.mpr fun x hx => join_mem.mpr (.inr hx)
/-- a row follows just if the closing with it is the same -/
theorem all_follow (h : RulesOk ms rs) {qs : List Row} (hq : ∀ q ∈ qs, q ∈ rs) : (qs.all fun r => sub r.2 (cloF rs ms r.1)) = true := by
  rw [List.all_eq_true]
  intro r hr
  rw [sub_iff]
  exact brk_false.mp (cloF_closed h.r (h.r r (hq r hr)).a r (hq r hr)) (cloF_inc h.r (h.r r (hq r hr)).a)
end
end Ev
set_option Elab.async false
set_option linter.all false
set_option autoImplicit false
set_option maxRecDepth 100000
/-! PL19: Tables. -/
namespace Ev
open PySem M
variable {Γ : Fn → Option Fd} {k : Nat}
def tableD (ms : List Str) (ls : List (List Str)) : D := .ins 1 [tD ms, tsD ls]
structure TableOk (ms : List Str) (ls : List (List Str)) : Prop where
  m : Lot ms
  l : ms.length ≤ 100
  s : ∀ l ∈ ls, l.Sublist ms
  n : ls.length ≤ 500
/-- what all lots of a table that hold it share -/
def tclo (ls : List (List Str)) (ms l : List Str) : List Str := ms.filter fun x => ls.all fun o => !sub l o || decide (x ∈ o)
theorem mem_tclo {ls : List (List Str)} {ms l : List Str} {x : Str} : x ∈ tclo ls ms l ↔ x ∈ ms ∧ ∀ o ∈ ls, (∀ y ∈ l, y ∈ o) → x ∈ o := by
  unfold tclo
  rw [List.mem_filter, List.all_eq_true]
  refine and_congr_right fun _ => forall_congr' fun o => forall_congr' fun ho => ?_
  rw [Bool.or_eq_true, decide_eq_true_eq, Bool.not_eq_true', ← sub_iff]
  cases sub l o <;> simp
theorem tclo_sub {ls : List (List Str)} {ms l : List Str} : (tclo ls ms l).Sublist ms := List.filter_sublist
theorem tclo_fold (ls : List (List Str)) (l : List Str) : ∀ ms : List Str, ls.foldl (fun f o => if sub l o then f.filter (fun x => decide (x ∈ o)) else f) ms = tclo ls ms l := by
  induction ls with
  | nil =>
    intro ms
    unfold tclo
    exact (List.filter_eq_self.mpr fun _ _ => rfl).symm
  | cons o r ih =>
    intro ms
    rw [List.foldl_cons, ih]
    unfold tclo
    cases e : sub l o with
    | false => simp [e]
    | true => simp [e, List.filter_filter, Bool.and_comm]
section
variable {ls : List (List Str)} {ms l m : List Str}
theorem tclo_inc (sl : l.Sublist ms) : ∀ x ∈ l, x ∈ tclo ls ms l := fun x hx => mem_tclo.mpr ⟨sl.subset hx, fun o _ h => h x hx⟩
theorem tclo_mono (h : ∀ x ∈ l, x ∈ m) : ∀ x ∈ tclo ls ms l, x ∈ tclo ls ms m := fun x hx => by
  obtain ⟨h1, h2⟩ := mem_tclo.mp hx
  exact mem_tclo.mpr ⟨h1, fun o ho im => h2 o ho fun y hy => im y (h y hy)⟩
theorem tclo_idem (hm : Asc ms) (sl : l.Sublist ms) : tclo ls ms (tclo ls ms l) = tclo ls ms l := asc_ext (asc_sub tclo_sub hm) (asc_sub tclo_sub hm) fun x => by
  refine ⟨fun hx => ?_, tclo_inc tclo_sub x⟩
  obtain ⟨h1, h2⟩ := mem_tclo.mp hx
  exact mem_tclo.mpr ⟨h1, fun o ho im => h2 o ho fun y hy => (mem_tclo.mp hy).2 o ho im⟩
/-- a rule holds in a table just if what is behind is in the closing -/
def keepsB (ls : List (List Str)) (r : Row) : Bool := ls.all fun l => !brk l r
theorem keeps_iff {r : Row} (hr : RowOf ms r) : keepsB ls r = sub r.2 (tclo ls ms r.1) := by
  rw [Bool.eq_iff_iff]
  unfold keepsB
  rw [List.all_eq_true, sub_iff]
  refine ⟨fun h x hx => mem_tclo.mpr ⟨hr.b.subset hx, fun o ho im => ?_⟩, fun h o ho => ?_⟩
  · have := h o ho
    rw [Bool.not_eq_true'] at this
    exact brk_false.mp this im x hx
  · rw [Bool.not_eq_true', brk_false]
    exact fun im x hx => (mem_tclo.mp (h x hx)).2 o ho im
end
section
variable [TC Γ] {ms l : List Str} {ls : List (List Str)}
theorem s_is_lot_of (hk : 3 ≤ k) (hm : Lot ms) (hl : ms.length ≤ 1000) (sl : l.Sublist ms) : runF Γ k (.f "is_lot_of") [tD ms, tD l] = M.ret (.bl true, .clean) := by
  obtain ⟨j, rfl⟩ := Nat.exists_eq_add_of_le' hk
  have q1 := s_is_lot (Γ := Γ) (k := j + 2) (by omega) (lot_sub hm sl) (Nat.le_trans sl.length_le hl)
  have q2 := s_within (Γ := Γ) (k := j + 2) (by omega) (a := l) (b := ms)
  rw [sub_of sl] at q2
  rw [show j + 3 = (j + 2) + 1 from rfl, run_has (np := 2) (n := 2) (body := b_is_lot_of) rfl]
  simp [b_is_lot_of, exs_cons, startS, q1, q2]
theorem s_Table (hk : 5 ≤ k) (h : TableOk ms ls) : runF Γ k (.i 1) [tD ms, tsD ls] = M.ret (tableD ms ls, .fresh) := by
  obtain ⟨j, rfl⟩ := Nat.exists_eq_add_of_le' hk
  have hl : ms.length ≤ 1000 := Nat.le_trans h.l (by decide)
  have q1 := s_is_lot (Γ := Γ) (k := j + 3) (by omega) h.m hl
  rw [show j + 5 = (j + 3) + 2 from rfl, run_hasI (np := 3) (n := 4) (body := b_Table___init__) rfl]
  unfold b_Table___init__
  rw [exs_cons]
  simp [startI, q1]
  rw [exs_cons]
  simp only [ex_ifs, evT_or, evT_not, evT_isi, evT_blt, ev_var, varM_eq, List.getElem?_cons_zero, List.getElem?_cons_succ, ret_bnd, isiD, isiOne, opt_some]
  rw [ev_lcA tD (fun _ => .bl true) ls rfl (by simp) (fun l hl' => by
    simp [turnM, put1, wipeS, isOwn, s_is_lot_of (Γ := Γ) (k := j + 3) (by omega) h.m hl (h.s l hl')])]
  have al : (ls.all fun _ => true) = true := List.all_eq_true.mpr fun _ _ => rfl
  simp [all_map_bl (fun _ => true) ls, al]
  rw [exs_cons]
  simp
  rw [fset_at (fs := []) (j := 0) rfl rfl]
  simp
  rw [exs_cons]
  simp
  rw [fset_at (fs := [tD ms]) (j := 1) rfl rfl]
  simp [tableD]
theorem s_tclosing (hk : 2 ≤ k) : runF Γ k (.m 1 "closing") [tableD ms ls, tD l] = M.ret (tD (tclo ls ms l), .clean) := by
  obtain ⟨j, rfl⟩ := Nat.exists_eq_add_of_le' hk
  rw [show j + 2 = (j + 1) + 1 from rfl, run_hasM (np := 2) (n := 4) (body := b_Table_closing) rfl]
  unfold b_Table_closing
  rw [exs_cons]
  simp [startS, tableD]
  rw [fld_at (j := 0) (d := tD ms) rfl rfl]
  simp
  rw [exs_cons, ex_fors]
  simp
  rw [fld_at (j := 1) (d := tsD ls) rfl rfl]
  simp
  have go := forM_foldI (α := List Str) (β := List Str × Slot) tD (fun b => [.val (.ins 1 [tD ms, tsD ls]), .val (tD l), .val (tD b.1), b.2]) (fun b o => (if sub l o then b.1.filter (fun x => decide (x ∈ o)) else b.1, .val (tD o))) (fun b _ => slotOk b.2 = true)
    (f := fun x ρ => (opt (put1 ρ 3 x)).bnd fun ρ' => exSs (runF Γ (j + 1)) (.cons (.ifs (.call "within" (.cons (.var 1) (.cons (.var 3) .nil))) (.cons (.set 2 false (.call "common" (.cons (.var 2) (.cons (.var 3) .nil)))) .nil) .nil) .nil) ρ') ls (ms, .no) rfl (fun b o r hb => by
      refine ⟨?_, rfl⟩
      dsimp only
      rw [put_ok (s := b.2) rfl hb]
      simp only [opt_some, ret_bnd]
      rw [exs_cons]
      simp [s_within (Γ := Γ) (k := j + 1) (by omega)]
      cases e : sub l o with
      | false => simp
      | true =>
        simp
        rw [exs_cons]
        simp [s_common (Γ := Γ) (k := j + 1) (by omega)])
  rw [go, ret_bnd]
  have fd : ∀ (ls : List (List Str)) (b : List Str × Slot), (ls.foldl (fun (b : List Str × Slot) o => (if sub l o then b.1.filter (fun x => decide (x ∈ o)) else b.1, Slot.val (tD o))) b).1 = ls.foldl (fun f o => if sub l o then f.filter (fun x => decide (x ∈ o)) else f) b.1 := fun ls => by
    induction ls with
    | nil => intro b; rfl
    | cons o r ih => intro b; rw [List.foldl_cons, List.foldl_cons, ih]
  simp [exs_cons, fd, tclo_fold]
theorem s_tcall (hk : 3 ≤ k) : runF Γ k (.m 1 "__call__") [tableD ms ls, tD l] = M.ret (tD (tclo ls ms l), .clean) := by
  obtain ⟨j, rfl⟩ := Nat.exists_eq_add_of_le' hk
  have q := s_tclosing (Γ := Γ) (k := j + 2) (by omega) (ms := ms) (ls := ls) (l := l)
  rw [show j + 3 = (j + 2) + 1 from rfl, run_hasM (np := 2) (n := 2) (body := b_Table___call__) rfl]
  unfold b_Table___call__
  rw [exs_cons]
  simp [startS, tableD]
  rw [meth_at (by rfl), ← tableD]
  simp [q]
theorem s_tmarks (hk : 2 ≤ k) : runF Γ k (.p 1 "marks") [tableD ms ls] = M.ret (tD ms, .clean) := by
  obtain ⟨j, rfl⟩ := Nat.exists_eq_add_of_le' hk
  rw [run_hasP (np := 1) (n := 1) (body := b_Table_marks) rfl]
  simp [b_Table_marks, exs_cons, startS, tableD]
  rw [fld_at (j := 0) (d := tD ms) rfl rfl]
  simp
theorem s_tlots (hk : 1 ≤ k) : runF Γ k (.m 1 "lots") [tableD ms ls] = M.ret (tsD ls, .fresh) := by
  obtain ⟨j, rfl⟩ := Nat.exists_eq_add_of_le' hk
  rw [run_hasM (np := 1) (n := 1) (body := b_Table_lots) rfl]
  simp [b_Table_lots, exs_cons, startS, tableD]
  rw [fld_at (j := 1) (d := tsD ls) rfl rfl]
  simp
theorem s_keeps [Has Γ "breaks" fd_breaks] [HasM Γ 1 "keeps" fd_Table_keeps] (hk : 3 ≤ k) {r : Row} : runF Γ k (.m 1 "keeps") [tableD ms ls, rowD r] = M.ret (.bl (keepsB ls r), .clean) := by
  obtain ⟨j, rfl⟩ := Nat.exists_eq_add_of_le' hk
  rw [show j + 3 = (j + 2) + 1 from rfl, run_hasM (np := 2) (n := 3) (body := b_Table_keeps) rfl]
  unfold b_Table_keeps
  rw [exs_cons]
  simp only [ex_ret, ev_not, ev_blt, startS]
  rw [ev_lcA tD (fun l => .bl (brk l r)) ls rfl (by
    simp [tableD]
    rw [fld_at (j := 1) (d := tsD ls) rfl rfl]
    simp) (fun l hl' => by
    simp [turnM, put1, wipeS, isOwn, s_breaks (Γ := Γ) (k := j + 2) (by omega)])]
  have e : (!ls.any fun l => brk l r) = keepsB ls r := by
    unfold keepsB
    rw [List.all_eq_not_any_not]
    simp
  simp [any_map_bl (fun l => brk l r) ls, e]
theorem s_tadd (hk : 6 ≤ k) (h : TableOk ms ls) (hn : ls.length < 500) (sl : l.Sublist ms) : runF Γ k (.m 1 "__add__") [tableD ms ls, tD l] = M.ret (tableD ms (ls ++ [l]), .fresh) := by
  obtain ⟨j, rfl⟩ := Nat.exists_eq_add_of_le' hk
  have q1 := s_is_lot_of (Γ := Γ) (k := j + 5) (by omega) h.m (Nat.le_trans h.l (by decide)) sl
  have h2 : TableOk ms (ls ++ [l]) := ⟨h.m, h.l, fun x hx => by
    rcases List.mem_append.mp hx with z | z
    · exact h.s x z
    · rw [List.mem_singleton.mp z]
      exact sl, by rw [List.length_append, List.length_singleton]; omega⟩
  have q2 := s_Table (Γ := Γ) (k := j + 5) (by omega) h2
  have hs : ls.length + 1 ≤ sizeLine := Nat.le_trans (show ls.length + 1 ≤ 1000 by omega) (by decide)
  rw [show j + 6 = (j + 5) + 1 from rfl, run_hasM (np := 2) (n := 2) (body := b_Table___add__) rfl]
  unfold b_Table___add__
  rw [exs_cons]
  simp only [ex_ifs, evT_not, evT_call, evEs_cons, evEs_nil, ev_fld, startS]
  simp [tableD]
  rw [fld_at (j := 0) (d := tD ms) rfl rfl]
  simp [q1]
  rw [exs_cons]
  simp
  rw [fld_at (j := 0) (d := tD ms) rfl rfl, fld_at (j := 1) (d := tsD ls) rfl rfl]
  simp [hs]
  have e : ls.map tD ++ [tD l] = (ls ++ [l]).map tD := by simp
  rw [e, q2]
  simp [tableD]
theorem s_tor {ls' : List (List Str)} (hk : 6 ≤ k) (h : TableOk ms ls) (h' : TableOk ms ls') (hn : ls.length + ls'.length ≤ 500) : runF Γ k (.m 1 "__or__") [tableD ms ls, tableD ms ls'] = M.ret (tableD ms (ls ++ ls'), .fresh) := by
  obtain ⟨j, rfl⟩ := Nat.exists_eq_add_of_le' hk
  have h2 : TableOk ms (ls ++ ls') := ⟨h.m, h.l, fun x hx => by
    rcases List.mem_append.mp hx with z | z
    · exact h.s x z
    · exact h'.s x z, by rw [List.length_append]; omega⟩
  have q2 := s_Table (Γ := Γ) (k := j + 5) (by omega) h2
  have q3 := s_tmarks (Γ := Γ) (k := j + 5) (ms := ms) (ls := ls') (by omega)
  have q4 := s_tlots (Γ := Γ) (k := j + 5) (ms := ms) (ls := ls') (by omega)
  have q5 := eqD_tD h.m.ok h.m.ok
  rw [decide_eq_true rfl] at q5
  have q6 : binD .add (tsD ls) (tsD ls') = some (tsD (ls ++ ls'), .fresh) := by
    rw [add_lst (by rw [List.length_map, List.length_map]; exact Nat.le_trans (show ls.length + ls'.length ≤ 1000 by omega) (by decide)), ← List.map_append]
  rw [show j + 6 = (j + 5) + 1 from rfl, run_hasM (np := 2) (n := 2) (body := b_Table___or__) rfl]
  unfold b_Table___or__
  rw [exs_cons]
  simp only [ex_ifs, evT_cmp, ev_fld, startS]
  simp [tableD]
  rw [fld_at (j := 0) (d := tD ms) rfl rfl, fld_prp (by rfl), ← tableD]
  simp [q3, q5]
  rw [exs_cons]
  simp [tableD]
  rw [fld_at (j := 0) (d := tD ms) rfl rfl, fld_at (j := 1) (d := tsD ls) rfl rfl, meth_at (by rfl), ← tableD]
  simp [q4, q6, q2]
  simp [tableD]
theorem s_cut [HasM Γ 1 "cut" fd_Table_cut] {ms' : List Str} (hk : 6 ≤ k) (h : TableOk ms ls) (sm : ms'.Sublist ms) : runF Γ k (.m 1 "cut") [tableD ms ls, tD ms'] = M.ret (tableD ms' (ls.map fun l => l.filter fun x => decide (x ∈ ms')), .fresh) := by
  obtain ⟨j, rfl⟩ := Nat.exists_eq_add_of_le' hk
  have h2 : TableOk ms' (ls.map fun l => l.filter fun x => decide (x ∈ ms')) := ⟨lot_sub h.m sm, Nat.le_trans sm.length_le h.l, fun x hx => by
    obtain ⟨l, hl, rfl⟩ := List.mem_map.mp hx
    refine asc_sublist (asc_filter _ (asc_sub (h.s l hl) h.m.asc)) (asc_sub sm h.m.asc) fun y hy => by simpa using (List.mem_filter.mp hy).2, by rw [List.length_map]; exact h.n⟩
  have q2 := s_Table (Γ := Γ) (k := j + 5) (by omega) h2
  rw [show j + 6 = (j + 5) + 1 from rfl, run_hasM (np := 2) (n := 3) (body := b_Table_cut) rfl]
  unfold b_Table_cut
  rw [exs_cons]
  simp [startS]
  rw [ev_lcA tD (fun l => tD (l.filter fun x => decide (x ∈ ms'))) ls rfl (by
    simp [tableD]
    rw [fld_at (j := 1) (d := tsD ls) rfl rfl]
    simp) (fun l hl' => by
    simp [turnM, put1, wipeS, isOwn, s_common (Γ := Γ) (k := j + 5) (by omega)])]
  have e : (ls.map fun l => tD (l.filter fun x => decide (x ∈ ms'))) = (ls.map fun l => l.filter fun x => decide (x ∈ ms')).map tD := by rw [List.map_map]; rfl
  rw [ret_bnd, e, q2]
  simp
/-! in trees -/
theorem app_table (hk : 3 ≤ k) {kd : Kd} {bb : Bool} {cs : List Nat} (hc : cs.contains 1 = true) : appM (runF Γ k) cs (tableD ms ls, kd) ([tD l], bb) = M.ret (tD (tclo ls ms l), Kd.clean.by (tD (tclo ls ms l)) (kd.ok && bb)) := by
  rw [tableD, app_at hc, ← tableD, s_tcall hk, ret_bnd]
theorem meth_tclosing (hk : 2 ≤ k) {kd : Kd} {bb : Bool} {cs : List Nat} (hc : cs.contains 1 = true) : methM (runF Γ k) "closing" cs (tableD ms ls, kd) ([tD l], bb) = M.ret (tD (tclo ls ms l), Kd.clean.by (tD (tclo ls ms l)) (kd.ok && bb)) := by
  rw [tableD, meth_at hc, ← tableD, s_tclosing hk, ret_bnd]
theorem fld_tmarks (hk : 2 ≤ k) {kd : Kd} {tab : List (Nat × Option Nat)} (ht : tab.lookup 1 = some none) : fldM (runF Γ k) "marks" tab (tableD ms ls, kd) = M.ret (tD ms, Kd.clean.by (tD ms) kd.ok) := by
  rw [tableD, fld_prp ht, ← tableD, s_tmarks hk, ret_bnd]
theorem fldT (hk : 2 ≤ k) {kd : Kd} : fldM (runF Γ k) "marks" [(0, none), (1, none), (2, none), (3, none)] (tableD ms ls, kd) = M.ret (tD ms, Kd.clean.by (tD ms) kd.ok) := fld_tmarks hk rfl
theorem meth_tlots (hk : 1 ≤ k) {kd : Kd} {bb : Bool} {cs : List Nat} (hc : cs.contains 1 = true) : methM (runF Γ k) "lots" cs (tableD ms ls, kd) ([], bb) = M.ret (tsD ls, Kd.fresh.by (tsD ls) (kd.ok && bb)) := by
  rw [tableD, meth_at hc, ← tableD, s_tlots hk, ret_bnd]
theorem meth_keeps [Has Γ "breaks" fd_breaks] [HasM Γ 1 "keeps" fd_Table_keeps] (hk : 3 ≤ k) {r : Row} {kd : Kd} {bb : Bool} {cs : List Nat} (hc : cs.contains 1 = true) : methM (runF Γ k) "keeps" cs (tableD ms ls, kd) ([rowD r], bb) = M.ret (.bl (keepsB ls r), .clean) := by
  rw [tableD, meth_at hc, ← tableD, s_keeps hk, ret_bnd]
  cases (kd.ok && bb) <;> rfl
theorem add_table (hk : 6 ≤ k) (h : TableOk ms ls) (hn : ls.length < 500) (sl : l.Sublist ms) {kd kd' : Kd} {cs : List Nat} (hc : cs.contains 1 = true) : daddM (runF Γ k) cs (tableD ms ls, kd) (tD l, kd') = M.ret (tableD ms (ls ++ [l]), Kd.fresh.by (tableD ms (ls ++ [l])) (kd.ok && kd'.ok)) := by
  rw [tableD, dadd_at hc, ← tableD, s_tadd hk h hn sl, ret_bnd]
theorem or_table {ls' : List (List Str)} (hk : 6 ≤ k) (h : TableOk ms ls) (h' : TableOk ms ls') (hn : ls.length + ls'.length ≤ 500) {kd kd' : Kd} {cs : List Nat} (hc : cs.contains 1 = true) : dorM (runF Γ k) cs (tableD ms ls, kd) (tableD ms ls', kd') = M.ret (tableD ms (ls ++ ls'), Kd.fresh.by (tableD ms (ls ++ ls')) (kd.ok && kd'.ok)) := by
  rw [tableD, tableD, dor_at hc, ← tableD, ← tableD, s_tor hk h h' hn, ret_bnd]
theorem meth_cut [HasM Γ 1 "cut" fd_Table_cut] {ms' : List Str} (hk : 6 ≤ k) (h : TableOk ms ls) (sm : ms'.Sublist ms) {kd : Kd} {bb : Bool} {cs : List Nat} (hc : cs.contains 1 = true) : methM (runF Γ k) "cut" cs (tableD ms ls, kd) ([tD ms'], bb) = M.ret (tableD ms' (ls.map fun l => l.filter fun x => decide (x ∈ ms')), Kd.fresh.by (tableD ms' (ls.map fun l => l.filter fun x => decide (x ∈ ms'))) (kd.ok && bb)) := by
  rw [tableD, meth_at hc, ← tableD, s_cut hk h sm, ret_bnd]
end
theorem f_table [Has Γ "_law_take" fd__law_take] [Has Γ "_law_lot" fd__law_lot] [Has Γ "_law_table" fd__law_table] {ms : List Str} {n : Nat} (hn : n ≤ 1000) : Sure (runF Γ (k + 3) (.f "_law_table") [.bag, tD ms, .int (n : Int)]) fun q => ∃ ls : List (List Str), q = (tsD ls, .fresh) ∧ ls.length ≤ n ∧ ∀ l ∈ ls, l.Sublist ms := by
  rw [run_has (np := 3) (n := 5) (body := b__law_table) rfl]
  unfold b__law_table
  refine sure_bnd (P := fun l => ∃ rs : List (List Str), l = .rt (tsD rs) .fresh ∧ rs.length ≤ n ∧ ∀ r ∈ rs, r.Sublist ms) ?_ fun l hl' => ?_
  · refine sure_cons (P := fun ρ => ∃ rs : List (List Str), ρ = [.val .bag, .val (tD ms), .val (.int (n : Int)), .own (tsD rs), .no] ∧ rs.length ≤ n ∧ ∀ r ∈ rs, r.Sublist ms) ?_ ?_
    · rw [ex_set]
      refine sure_bnd (lc_drawn tD (P := fun l => l.Sublist ms) (m := n) (by omega) rfl ?_ fun j => ?_) fun r hr => ?_
      · simp [startS]
        refine sure_bnd (f_take (n := (n : Int) + 1) (by omega) (by omega)) fun r hr => ?_
        obtain ⟨v, rfl, hv⟩ := hr
        simp
        exact sure_ret ⟨v, rfl, by omega⟩
      · simp [turnM, wipeS, put1, isOwn, startS]
        refine sure_bnd (f_lot ms) fun r hr => ?_
        obtain ⟨r, hr, rfl⟩ := hr
        simp
        exact sure_ret ⟨r, rfl, hr⟩
      · obtain ⟨rs, rfl, h1, h2⟩ := hr
        simp [startS]
        exact sure_ret ⟨_, rfl, rs, rfl, h1, h2⟩
    · rintro _ ⟨rs, rfl, h1, h2⟩
      rw [exs_cons]
      by_cases g1 : 1 < rs.length
      · have g1' : (1 : Int) < (rs.length : Int) := by omega
        simp [g1, g1']
        refine sure_bnd (f_take (by decide) (by decide)) fun r hr => ?_
        obtain ⟨v, rfl, hv⟩ := hr
        by_cases h0 : v = 0
        · subst h0
          have p0 : 0 < rs.length := by omega
          have at_ : L2.atI (rs.map tD) 0 = some (tD rs[0]) := L2.atI_nat (j := 0) (by rw [List.getElem?_map, List.getElem?_eq_getElem p0]; rfl)
          simp [exs_cons, at_]
          rw [lput_at (xs := rs.map tD) (j := rs.length - 1) rfl (by rw [List.length_map]; exact ixN_last p0)]
          simp [← List.map_set]
          exact sure_ret ⟨rs.set (rs.length - 1) rs[0], rfl, by simpa using h1, fun b hb => by
            rcases List.mem_or_eq_of_mem_set hb with z | z
            · exact h2 _ z
            · rw [z]
              exact h2 _ (List.getElem_mem p0)⟩
        · simp [h0, exs_cons]
          exact sure_ret ⟨rs, rfl, h1, h2⟩
      · have g1' : ¬ (1 : Int) < (rs.length : Int) := by omega
        simp [g1, g1', exs_cons]
        exact sure_ret ⟨rs, rfl, h1, h2⟩
  · obtain ⟨rs, rfl, h1, h2⟩ := hl'
    simp
    exact sure_ret ⟨rs, rfl, h1, h2⟩
theorem s_follows [RC Γ] [Has Γ "follows" fd_follows] {ms : List Str} {rs : List Row} {r : Row} (hk : 5 ≤ k) (h : RulesOk ms rs) (hr : RowOf ms r) : runF Γ k (.f "follows") [rulesD ms rs, rowD r] = M.ret (.bl (sub r.2 (cloF rs ms r.1)), .clean) := by
  obtain ⟨j, rfl⟩ := Nat.exists_eq_add_of_le' hk
  rw [show j + 5 = (j + 4) + 1 from rfl, run_has (np := 2) (n := 2) (body := b_follows) rfl]
  unfold b_follows
  rw [exs_cons]
  simp [startS, meth_closing (Γ := Γ) (k := j + 4) (by omega) h hr.a, s_within (Γ := Γ) (k := j + 4) (by omega)]
end Ev
set_option Elab.async false
set_option linter.all false
set_option autoImplicit false
set_option maxRecDepth 100000
/-! PL22: closings as such: closed lots, next ones, narrow ones (plain maths). -/
namespace Ev
open PySem M
/-- a closing on the lots of some marks -/
structure ClOp (ms : List Str) (f : List Str → List Str) : Prop where
  sb : ∀ l, l.Sublist ms → (f l).Sublist ms
  inc : ∀ l, l.Sublist ms → ∀ x ∈ l, x ∈ f l
  mono : ∀ l m, l.Sublist ms → m.Sublist ms → (∀ x ∈ l, x ∈ m) → ∀ x ∈ f l, x ∈ f m
  idem : ∀ l, l.Sublist ms → f (f l) = f l
theorem clop_rules {ms : List Str} {rs : List Row} (h : RulesOk ms rs) : ClOp ms (cloF rs ms) := ⟨fun _ _ => cloF_sub, fun _ sl => cloF_inc h.r sl, fun _ _ _ _ h => cloF_mono h, fun _ sl => cloF_idem h.m.asc h.r sl⟩
theorem clop_table {ms : List Str} {ls : List (List Str)} (h : TableOk ms ls) : ClOp ms (tclo ls ms) := ⟨fun _ _ => tclo_sub, fun _ sl => tclo_inc sl, fun _ _ _ _ h => tclo_mono h, fun _ sl => tclo_idem h.m.asc sl⟩
/-- closed lots, in order -/
def closedT (ms : List Str) (f : List Str → List Str) : List (List Str) := (allL ms).filter fun l => decide (f l = l)
theorem mem_closedT {ms l : List Str} {f : List Str → List Str} : l ∈ closedT ms f ↔ l.Sublist ms ∧ f l = l := by
  unfold closedT
  rw [List.mem_filter, mem_allL, decide_eq_true_eq]
theorem closedT_congr {ms : List Str} {f g : List Str → List Str} (h : ∀ l, l.Sublist ms → f l = g l) : closedT ms f = closedT ms g := List.filter_congr fun l hl => by rw [h l (mem_allL.mp hl)]
/-- the lots with one mark more, closed -/
def aboveA (f : List Str → List Str) (l : List Str) : List Str → List (List Str) → List (List Str)
  | [], acc => acc
  | m :: r, acc => aboveA f l r (if !decide (m ∈ l) && !decide (f (join l [m]) ∈ acc) then acc ++ [f (join l [m])] else acc)
theorem mem_aboveA {f : List Str → List Str} {l y : List Str} : ∀ {ms : List Str} {acc : List (List Str)}, y ∈ aboveA f l ms acc ↔ y ∈ acc ∨ ∃ m ∈ ms, m ∉ l ∧ y = f (join l [m])
  | [], acc => by
    rw [aboveA]
    simp
  | m :: r, acc => by
    rw [aboveA, mem_aboveA (ms := r)]
    constructor
    · rintro (h | ⟨n, hn, h⟩)
      · split at h
        · rename_i c
          rw [Bool.and_eq_true, Bool.not_eq_true', decide_eq_false_iff_not] at c
          rcases List.mem_append.mp h with h | h
          · exact .inl h
          · exact .inr ⟨m, List.mem_cons_self .., c.1, List.mem_singleton.mp h⟩
        · exact .inl h
      · exact .inr ⟨n, List.mem_cons_of_mem _ hn, h⟩
    · rintro (h | ⟨n, hn, h1, h2⟩)
      · refine .inl ?_
        split
        · exact List.mem_append_left _ h
        · exact h
      · rcases List.mem_cons.mp hn with e | hn
        · subst e
          refine .inl ?_
          split
          · rw [h2]
            exact List.mem_append_right _ (List.mem_singleton.mpr rfl)
          · rename_i c
            rw [Bool.and_eq_true, Bool.not_eq_true', decide_eq_false_iff_not, Bool.not_eq_true', decide_eq_false_iff_not] at c
            rw [h2]
            exact Classical.byContradiction fun z => c ⟨h1, z⟩
        · exact .inr ⟨n, hn, h1, h2⟩
theorem nodup_aboveA {f : List Str → List Str} {l : List Str} : ∀ {ms : List Str} {acc : List (List Str)}, acc.Nodup → (aboveA f l ms acc).Nodup
  | [], acc, h => h
  | m :: r, acc, h => by
    rw [aboveA]
    refine nodup_aboveA ?_
    split
    · rename_i c
      rw [Bool.and_eq_true, Bool.not_eq_true', Bool.not_eq_true', decide_eq_false_iff_not, decide_eq_false_iff_not] at c
      rw [List.nodup_append]
      refine ⟨h, by simp, fun x hx y hy => ?_⟩
      rw [List.mem_singleton.mp hy]
      rintro rfl
      exact c.2 hx
    · exact h
/-- the least ones -/
def minsL (xs : List (List Str)) : List (List Str) := xs.filter fun y => !xs.any fun z => !decide (z = y) && sub z y
theorem mem_minsL {xs : List (List Str)} {y : List Str} : y ∈ minsL xs ↔ y ∈ xs ∧ ∀ z ∈ xs, sub z y = true → z = y := by
  unfold minsL
  rw [List.mem_filter, Bool.not_eq_true', List.any_eq_false]
  refine and_congr_right fun _ => forall_congr' fun z => forall_congr' fun hz => ?_
  rw [Bool.and_eq_true, Bool.not_eq_true', decide_eq_false_iff_not]
  refine ⟨fun h s => Classical.byContradiction fun n => h ⟨n, s⟩, fun h ⟨n, s⟩ => n (h s)⟩
/-- closed lots that strictly hold a lot -/
def aboveB (cs : List (List Str)) (l : List Str) : List (List Str) := cs.filter fun y => !decide (y = l) && sub l y
theorem mem_aboveB {cs : List (List Str)} {l y : List Str} : y ∈ aboveB cs l ↔ y ∈ cs ∧ y ≠ l ∧ sub l y = true := by
  unfold aboveB
  rw [List.mem_filter, Bool.and_eq_true, Bool.not_eq_true', decide_eq_false_iff_not]
theorem sub_anti {a b : List Str} (ha : Asc a) (hb : Asc b) (h1 : sub a b = true) (h2 : sub b a = true) : a = b := asc_ext ha hb fun x => ⟨sub_iff.mp h1 x, sub_iff.mp h2 x⟩
theorem ex_out {a b : List Str} (ha : Asc a) (hb : Asc b) (h : sub a b = true) (ne : b ≠ a) : ∃ m ∈ b, m ∉ a := Classical.byContradiction fun n => ne (sub_anti hb ha (sub_iff.mpr fun x hx => Classical.byContradiction fun z => n ⟨x, hx, z⟩) h)
theorem one_sub {ms : List Str} {m : Str} (h : m ∈ ms) : [m].Sublist ms := List.singleton_sublist.mpr h
section
variable {ms : List Str} {f : List Str → List Str}
theorem nodup_allL (hm : Asc ms) : (allL ms).Nodup := by
  have go : ∀ (ms : List Str) (acc : List (List Str)), (∀ x ∈ ms, ∀ l ∈ acc, x ∉ l) → ms.Nodup → acc.Nodup → (ms.foldl (fun f m => f ++ f.map (· ++ [m])) acc).Nodup := fun ms => by
    induction ms with
    | nil => intro acc _ _ h; exact h
    | cons m r ih =>
      intro acc h1 h2 h3
      obtain ⟨n1, n2⟩ := List.nodup_cons.mp h2
      rw [List.foldl_cons]
      refine ih _ (fun x hx l hl => ?_) n2 ?_
      · rcases List.mem_append.mp hl with z | z
        · exact h1 x (List.mem_cons_of_mem _ hx) l z
        · obtain ⟨l', z1, rfl⟩ := List.mem_map.mp z
          intro w
          rcases List.mem_append.mp w with w | w
          · exact h1 x (List.mem_cons_of_mem _ hx) l' z1 w
          · rw [List.mem_singleton.mp w] at hx
            exact n1 hx
      · rw [List.nodup_append]
        refine ⟨h3, ?_, fun x hx y hy => ?_⟩
        · exact List.pairwise_map.mpr (h3.imp fun {a b} h e => h (List.append_cancel_right e))
        · obtain ⟨l', z1, rfl⟩ := List.mem_map.mp hy
          rintro rfl
          exact h1 m (List.mem_cons_self ..) _ hx (List.mem_append_right _ (List.mem_singleton.mpr rfl))
  unfold allL sortL
  exact (List.mergeSort_perm _ _).nodup_iff.mpr (go ms [[]] (fun x _ l hl => by rw [List.mem_singleton.mp hl]; exact List.not_mem_nil) (asc_nodup hm) (by simp))
theorem nodup_closedT (hm : Asc ms) : (closedT ms f).Nodup := (nodup_allL hm).filter _
/-- a closed lot with one mark more, closed -/
theorem up_one (hm : Lot ms) (op : ClOp ms f) {l : List Str} (sl : l.Sublist ms) (cl : f l = l) {m : Str} (hx : m ∈ ms) (hn : m ∉ l) : f (join l [m]) ∈ aboveB (closedT ms f) l := by
  have sj := join_sub' hm sl (one_sub hx)
  refine mem_aboveB.mpr ⟨mem_closedT.mpr ⟨op.sb _ sj, op.idem _ sj⟩, fun e => ?_, sub_iff.mpr fun x hx' => op.inc _ sj x (join_mem.mpr (.inl hx'))⟩
  exact hn (e ▸ op.inc _ sj m (join_mem.mpr (.inr (List.mem_singleton.mpr rfl))))
theorem up_le (hm : Lot ms) (op : ClOp ms f) {l y : List Str} (sl : l.Sublist ms) (sy : y.Sublist ms) (cy : f y = y) (ly : sub l y = true) {m : Str} (hx : m ∈ y) : sub (f (join l [m])) y = true := by
  have sj := join_sub' hm sl (one_sub (sy.subset hx))
  rw [← cy]
  refine sub_iff.mpr (op.mono _ _ sj sy fun x hx' => ?_)
  rcases join_mem.mp hx' with z | z
  · exact sub_iff.mp ly x z
  · rw [List.mem_singleton.mp z]
    exact hx
/-- the least of the lots above a closed one: two ways -/
theorem mins_same (hm : Lot ms) (op : ClOp ms f) {l : List Str} (sl : l.Sublist ms) (cl : f l = l) (y : List Str) : y ∈ minsL (aboveA f l ms []) ↔ y ∈ minsL (aboveB (closedT ms f) l) := by
  have aa : ∀ {y : List Str}, y ∈ aboveA f l ms [] ↔ ∃ m ∈ ms, m ∉ l ∧ y = f (join l [m]) := fun {y} => by rw [mem_aboveA]; simp
  have ab : ∀ {y : List Str}, y ∈ aboveA f l ms [] → y ∈ aboveB (closedT ms f) l := fun {y} h => by
    obtain ⟨m, h1, h2, rfl⟩ := aa.mp h
    exact up_one hm op sl cl h1 h2
  have ba : ∀ {y : List Str}, y ∈ aboveB (closedT ms f) l → ∃ z ∈ aboveA f l ms [], sub z y = true := fun {y} h => by
    obtain ⟨h1, h2, h3⟩ := mem_aboveB.mp h
    obtain ⟨sy, cy⟩ := mem_closedT.mp h1
    obtain ⟨m, m1, m2⟩ := ex_out (asc_sub sl hm.asc) (asc_sub sy hm.asc) h3 h2
    exact ⟨_, aa.mpr ⟨m, sy.subset m1, m2, rfl⟩, up_le hm op sl sy cy h3 m1⟩
  have asc : ∀ {y : List Str}, y ∈ aboveB (closedT ms f) l → Asc y := fun {y} h => asc_sub (mem_closedT.mp (mem_aboveB.mp h).1).1 hm.asc
  rw [mem_minsL, mem_minsL]
  constructor
  · rintro ⟨h1, h2⟩
    refine ⟨ab h1, fun z hz s => ?_⟩
    obtain ⟨w, w1, w2⟩ := ba hz
    have e := h2 w w1 (sub_iff.mpr fun x hx => sub_iff.mp s x (sub_iff.mp w2 x hx))
    subst e
    exact sub_anti (asc hz) (asc (ab h1)) s w2
  · rintro ⟨h1, h2⟩
    obtain ⟨w, w1, w2⟩ := ba h1
    have e := h2 w (ab w1) w2
    subst e
    exact ⟨w1, fun z hz s => h2 z (ab hz) s⟩
theorem nodup_one {xs ys : List (List Str)} (nx : xs.Nodup) (ny : ys.Nodup) (h : ∀ y, y ∈ xs ↔ y ∈ ys) (x : List Str) : xs = [x] ↔ ys = [x] := by
  have go : ∀ {xs ys : List (List Str)}, ys.Nodup → (∀ y, y ∈ xs ↔ y ∈ ys) → xs = [x] → ys = [x] := fun {xs ys} ny h e => by
    subst e
    match ys, ny, h with
    | [], _, h => exact absurd ((h x).mp (List.mem_singleton.mpr rfl)) List.not_mem_nil
    | [y], _, h =>
      rw [List.mem_singleton.mp ((h y).mpr (List.mem_singleton.mpr rfl))]
    | y :: z :: r, ny, h =>
      have e1 := List.mem_singleton.mp ((h y).mpr (by simp))
      have e2 := List.mem_singleton.mp ((h z).mpr (by simp))
      subst e1
      subst e2
      simp at ny
  exact ⟨go ny h, go nx fun y => (h y).symm⟩
/-- the next ones -/
def nextT (ms : List Str) (f : List Str → List Str) (l : List Str) : List (List Str) := sortL (minsL (aboveA f l ms []))
def oneOf (l : List Str) : List (List Str) → Option Row
  | [x] => some (l, x)
  | _ => none
/-- the narrow lots, each with the next one -/
def narrowN (cs : List (List Str)) : List Row := cs.filterMap fun l => oneOf l (minsL (aboveB cs l))
theorem oneOf_some {l : List Str} {xs : List (List Str)} {p : Row} : oneOf l xs = some p ↔ p.1 = l ∧ xs = [p.2] := by
  unfold oneOf
  split
  · rename_i x
    constructor
    · intro h
      cases h
      exact ⟨rfl, rfl⟩
    · rintro ⟨h1, h2⟩
      cases h2
      rw [← h1]
  · rename_i h
    constructor
    · intro z
      cases z
    · rintro ⟨_, z⟩
      exact absurd z (h _)
theorem next_one (hm : Lot ms) (op : ClOp ms f) {l : List Str} (sl : l.Sublist ms) (cl : f l = l) : oneOf l (nextT ms f l) = oneOf l (minsL (aboveB (closedT ms f) l)) := by
  have n1 : (nextT ms f l).Nodup := (List.mergeSort_perm _ _).nodup_iff.mpr ((nodup_aboveA List.nodup_nil).filter _)
  have n2 : (minsL (aboveB (closedT ms f) l)).Nodup := ((nodup_closedT hm.asc).filter _).filter _
  have mm : ∀ y, y ∈ nextT ms f l ↔ y ∈ minsL (aboveB (closedT ms f) l) := fun y => by
    unfold nextT
    rw [sortL_mem, mins_same hm op sl cl]
  refine Option.ext fun p => ?_
  rw [oneOf_some, oneOf_some, nodup_one n1 n2 mm]
theorem ex_max : ∀ {xs : List (List Str)}, xs ≠ [] → ∃ y ∈ xs, ∀ z ∈ xs, z.length ≤ y.length
  | [], h => absurd rfl h
  | [x], _ => ⟨x, by simp, fun z hz => by rw [List.mem_singleton.mp hz]; exact Nat.le_refl _⟩
  | x :: y :: r, _ => by
    obtain ⟨w, w1, w2⟩ := ex_max (xs := y :: r) (by simp)
    by_cases h : x.length ≤ w.length
    · refine ⟨w, List.mem_cons_of_mem _ w1, fun z hz => ?_⟩
      rcases List.mem_cons.mp hz with rfl | hz
      · exact h
      · exact w2 z hz
    · refine ⟨x, List.mem_cons_self .., fun z hz => ?_⟩
      rcases List.mem_cons.mp hz with rfl | hz
      · exact Nat.le_refl _
      · have := w2 z hz
        omega
/-- a closed lot without a mark is in a narrow one without it -/
theorem narrow_out (hm : Lot ms) (op : ClOp ms f) {l : List Str} (sl : l.Sublist ms) {x : Str} (hx : x ∈ ms) (nx : x ∉ f l) : ∃ n ∈ (narrowN (closedT ms f)).map (·.1), sub l n = true ∧ x ∉ n := by
  have ne : (closedT ms f).filter (fun n => sub l n && !decide (x ∈ n)) ≠ [] := by
    intro z
    have := List.filter_eq_nil_iff.mp z (f l) (mem_closedT.mpr ⟨op.sb l sl, op.idem l sl⟩)
    rw [Bool.and_eq_true, Bool.not_eq_true', decide_eq_false_iff_not] at this
    exact this ⟨sub_iff.mpr (op.inc l sl), nx⟩
  obtain ⟨n, n1, n2⟩ := ex_max ne
  obtain ⟨n3, n4⟩ := List.mem_filter.mp n1
  rw [Bool.and_eq_true, Bool.not_eq_true', decide_eq_false_iff_not] at n4
  obtain ⟨sn, cn⟩ := mem_closedT.mp n3
  have g1 := up_one hm op sn cn hx n4.2
  have up : ∀ z ∈ aboveB (closedT ms f) n, x ∈ z := fun z hz => by
    obtain ⟨z1, z2, z3⟩ := mem_aboveB.mp hz
    refine Classical.byContradiction fun w => ?_
    have := n2 z (List.mem_filter.mpr ⟨z1, by
      rw [Bool.and_eq_true, Bool.not_eq_true', decide_eq_false_iff_not]
      exact ⟨sub_iff.mpr fun y hy => sub_iff.mp z3 y (sub_iff.mp n4.1 y hy), w⟩⟩)
    have sz := (mem_closedT.mp z1).1
    have szn := asc_sublist (asc_sub sn hm.asc) (asc_sub sz hm.asc) (sub_iff.mp z3)
    exact z2 (szn.eq_of_length_le this).symm
  have le : ∀ z ∈ aboveB (closedT ms f) n, sub (f (join n [x])) z = true := fun z hz => by
    obtain ⟨z1, z2, z3⟩ := mem_aboveB.mp hz
    obtain ⟨sz, cz⟩ := mem_closedT.mp z1
    exact up_le hm op sn sz cz z3 (up z hz)
  have asc : ∀ {y : List Str}, y ∈ aboveB (closedT ms f) n → Asc y := fun {y} h => asc_sub (mem_closedT.mp (mem_aboveB.mp h).1).1 hm.asc
  have only : minsL (aboveB (closedT ms f) n) = [f (join n [x])] := by
    refine (nodup_one (xs := [f (join n [x])]) (ys := minsL (aboveB (closedT ms f) n)) (by simp) (((nodup_closedT hm.asc).filter _).filter _) (fun y => ?_) _).mp rfl
    rw [List.mem_singleton, mem_minsL]
    constructor
    · rintro rfl
      exact ⟨g1, fun z hz s => sub_anti (asc hz) (asc g1) s (le z hz)⟩
    · rintro ⟨h1, h2⟩
      exact (h2 _ g1 (le y h1)).symm
  refine ⟨n, List.mem_map.mpr ⟨(n, f (join n [x])), ?_, rfl⟩, n4⟩
  unfold narrowN
  rw [List.mem_filterMap]
  exact ⟨n, n3, oneOf_some.mpr ⟨rfl, only⟩⟩
theorem narrowN_mem {cs : List (List Str)} {p : Row} (h : p ∈ narrowN cs) : p.1 ∈ cs ∧ p.2 ∈ cs := by
  unfold narrowN at h
  obtain ⟨l, h1, h2⟩ := List.mem_filterMap.mp h
  obtain ⟨rfl, e⟩ := oneOf_some.mp h2
  refine ⟨h1, ?_⟩
  have : p.2 ∈ minsL (aboveB cs p.1) := by rw [e]; exact List.mem_singleton.mpr rfl
  exact (mem_aboveB.mp (mem_minsL.mp this).1).1
/-- the table of the narrow lots has the same closings -/
theorem narrow_table (hm : Lot ms) (op : ClOp ms f) {l : List Str} (sl : l.Sublist ms) : tclo ((narrowN (closedT ms f)).map (·.1)) ms l = f l := by
  refine asc_ext (asc_sub tclo_sub hm.asc) (asc_sub (op.sb l sl) hm.asc) fun x => ⟨fun hx => ?_, fun hx => ?_⟩
  · obtain ⟨h1, h2⟩ := mem_tclo.mp hx
    refine Classical.byContradiction fun nx => ?_
    obtain ⟨n, n1, n2, n3⟩ := narrow_out hm op sl h1 nx
    exact n3 (h2 n n1 (sub_iff.mp n2))
  · refine mem_tclo.mpr ⟨(op.sb l sl).subset hx, fun o ho im => ?_⟩
    obtain ⟨p, hp, rfl⟩ := List.mem_map.mp ho
    obtain ⟨so, co⟩ := mem_closedT.mp (narrowN_mem hp).1
    rw [← co]
    exact op.mono l _ sl so im x hx
end
end Ev
set_option Elab.async false
set_option linter.all false
set_option autoImplicit false
set_option maxRecDepth 100000
/-! PL23: theories: closed lots, next ones, narrow ones, run. -/
namespace Ev
open PySem M
variable {Γ : Fn → Option Fd} {k : Nat}
abbrev mtab : List (Nat × Option Nat) := [(0, none), (1, none), (2, none), (3, none)]
/-- a value that is a theory: Rules or a Table -/
structure Th (Γ : Fn → Option Fd) (th : D) (ms : List Str) (f : List Str → List Str) : Prop where
  m : Lot ms
  l : ms.length ≤ 8
  op : ClOp ms f
  clo : ∀ {k : Nat}, 4 ≤ k → ∀ {l : List Str}, l.Sublist ms → methM (runF Γ k) "closing" [0, 1] (th, .clean) ([tD l], true) = M.ret (tD (f l), .clean)
  app : ∀ {k : Nat}, 5 ≤ k → ∀ {l : List Str}, l.Sublist ms → appM (runF Γ k) [0, 1, 5] (th, .clean) ([tD l], true) = M.ret (tD (f l), .clean)
  mks : ∀ {k : Nat}, 2 ≤ k → fldM (runF Γ k) "marks" [(0, none), (1, none), (2, none), (3, none)] (th, .clean) = M.ret (tD ms, .clean)
theorem th_rules [RC Γ] {ms : List Str} {rs : List Row} (h : RulesOk ms rs) (hl : ms.length ≤ 8) : Th Γ (rulesD ms rs) ms (cloF rs ms) := ⟨h.m, hl, clop_rules h, fun hk _ sl => meth_closing hk h sl rfl, fun hk _ sl => app_rules hk h sl rfl, fun hk => fldR hk⟩
theorem th_table [TC Γ] {ms : List Str} {ls : List (List Str)} (h : TableOk ms ls) (hl : ms.length ≤ 8) : Th Γ (tableD ms ls) ms (tclo ls ms) := ⟨h.m, hl, clop_table h, fun hk _ sl => meth_tclosing (by omega) rfl, fun hk _ sl => app_table (by omega) rfl, fun hk => fldT hk⟩
theorem Th.congr {th : D} {ms : List Str} {f g : List Str → List Str} (h : Th Γ th ms f) (e : ∀ l, l.Sublist ms → f l = g l) : Th Γ th ms g := ⟨h.m, h.l, ⟨fun l sl => e l sl ▸ h.op.sb l sl, fun l sl => e l sl ▸ h.op.inc l sl, fun l m sl sm => e l sl ▸ e m sm ▸ h.op.mono l m sl sm, fun l sl => by rw [← e l sl, ← e _ (h.op.sb l sl)]; exact h.op.idem l sl⟩, fun hk _ sl => e _ sl ▸ h.clo hk sl, fun hk _ sl => e _ sl ▸ h.app hk sl, h.mks⟩
section
variable {th : D} {ms : List Str} {f : List Str → List Str}
theorem Th.ok (h : Th Γ th ms f) {l : List Str} (sl : l.Sublist ms) : OkL (f l) := ok_sub h.m (h.op.sb l sl)
theorem th_closed_lots [Has Γ "all_lots" fd_all_lots] [Has Γ "in_order" fd_in_order] [Has Γ "closed_lots" fd_closed_lots] (h : Th Γ th ms f) (hk : 5 ≤ k) : runF Γ k (.f "closed_lots") [th] = M.ret (tsD (closedT ms f), .fresh) := by
  obtain ⟨j, rfl⟩ := Nat.exists_eq_add_of_le' hk
  rw [show j + 5 = (j + 4) + 1 from rfl, run_has (np := 1) (n := 2) (body := b_closed_lots) rfl]
  unfold b_closed_lots
  rw [exs_cons]
  simp [startS]
  have hl := h.l
  rw [ev_lcP tD (fun l => decide (f l = l)) tD (allL ms) rfl (by
    simp [h.mks (k := j + 4) (by omega), s_all_lots (Γ := Γ) (k := j + 4) (by omega) h.m (by omega)]) (fun l hl' => by
    have sl := mem_allL.mp hl'
    simp [turnM, put1, wipeS, isOwn, h.clo (k := j + 4) (by omega) sl, eqD_tD (h.ok sl) (ok_sub h.m sl)]
    split <;> rfl)]
  simp [closedT]
theorem th_is_closed [Has Γ "within" fd_within] [Has Γ "is_mark" fd_is_mark] [Has Γ "is_lot" fd_is_lot] [Has Γ "is_closed" fd_is_closed] (h : Th Γ th ms f) (hk : 5 ≤ k) {l : List Str} (sl : l.Sublist ms) : runF Γ k (.f "is_closed") [th, tD l] = M.ret (.bl (decide (f l = l)), .clean) := by
  obtain ⟨j, rfl⟩ := Nat.exists_eq_add_of_le' hk
  have hl := h.l
  have q1 := s_is_lot (Γ := Γ) (k := j + 4) (by omega) (lot_sub h.m sl) (Nat.le_trans sl.length_le (by omega))
  have q2 := s_within (Γ := Γ) (k := j + 4) (by omega) (a := l) (b := ms)
  rw [sub_of sl] at q2
  rw [show j + 5 = (j + 4) + 1 from rfl, run_has (np := 2) (n := 2) (body := b_is_closed) rfl]
  unfold b_is_closed
  rw [exs_cons]
  simp [startS, q1, q2, h.mks (k := j + 4) (by omega), h.clo (k := j + 4) (by omega) sl, eqD_tD (h.ok sl) (ok_sub h.m sl)]
theorem th_need_closed [Has Γ "within" fd_within] [Has Γ "is_mark" fd_is_mark] [Has Γ "is_lot" fd_is_lot] [Has Γ "is_closed" fd_is_closed] [Has Γ "need_closed" fd_need_closed] (h : Th Γ th ms f) (hk : 6 ≤ k) {l : List Str} (sl : l.Sublist ms) (cl : f l = l) : runF Γ k (.f "need_closed") [th, tD l] = M.ret (.non, .clean) := by
  obtain ⟨j, rfl⟩ := Nat.exists_eq_add_of_le' hk
  have q := th_is_closed h (k := j + 5) (by omega) sl
  rw [decide_eq_true cl] at q
  rw [show j + 6 = (j + 5) + 1 from rfl, run_has (np := 2) (n := 2) (body := b_need_closed) rfl]
  unfold b_need_closed
  rw [exs_cons]
  simp [startS, q]
theorem pys_lots (ls : List (List Str)) : D.pys (ls.map tD) = some (ls.map fun m => .tuple (m.map .str)) := by
  induction ls with
  | nil => rw [List.map_nil, D.pys]; rfl
  | cons m r ih =>
    rw [List.map_cons, D.pys, py_tD, ih]
    rfl
theorem eqv_lots (a b : List Str) : PyData.eqv (.tuple (a.map .str)) (.tuple (b.map .str)) = decide (a = b) := by
  rw [PyData.eqv, eqvAll_strs]
theorem inD_lots {l : List Str} {ls : List (List Str)} (hl : OkL l) (h : ∀ m ∈ ls, Lot m ∧ m.length ≤ 100) : inD (tD l) (tsD ls) = some (decide (l ∈ ls)) := by
  obtain ⟨y, e, fp⟩ := fine_tsD (n := ls.length * 901) (m := 900) (fun m hm => ⟨(h m hm).1, by have := (h m hm).2; omega⟩) (Nat.le_refl _)
  have s2 := fp.shaped (by decide)
  rw [D.py, pys_lots] at e
  cases e
  show (match (tD l).py, D.pys (ls.map tD) with
    | some x, some ys => if (SeqAt.shaped x && SeqAt.shaped (.list ys)) = true then some (ys.any fun z => PyData.eqv z x) else none
    | _, _ => none) = _
  rw [pys_lots, py_tD]
  dsimp only
  rw [if_pos (by rw [shaped_tup hl]; exact s2)]
  congr 1
  rw [Bool.eq_iff_iff, List.any_eq_true, decide_eq_true_eq]
  constructor
  · rintro ⟨d, hd, e⟩
    obtain ⟨m, hm, rfl⟩ := List.mem_map.mp hd
    rw [eqv_lots, decide_eq_true_eq] at e
    rw [← e]
    exact hm
  · intro hm
    exact ⟨_, List.mem_map.mpr ⟨l, hm, rfl⟩, by rw [eqv_lots, decide_eq_true rfl]⟩
theorem aboveA_fold (l : List Str) : ∀ (xs : List Str) (acc : List (List Str)), xs.foldl (fun acc m => if !decide (m ∈ l) && !decide (f (join l [m]) ∈ acc) then acc ++ [f (join l [m])] else acc) acc = aboveA f l xs acc
  | [], acc => rfl
  | m :: r, acc => by rw [List.foldl_cons, aboveA_fold l r, aboveA]
theorem aboveA_len (l : List Str) : ∀ (xs : List Str) (acc : List (List Str)), (aboveA f l xs acc).length ≤ acc.length + xs.length
  | [], acc => Nat.le_refl _
  | m :: r, acc => by
    rw [aboveA]
    refine Nat.le_trans (aboveA_len l r _) ?_
    rw [List.length_cons]
    split
    · rw [List.length_append, List.length_singleton]
      omega
    · omega
theorem th_next_ones [Has Γ "within" fd_within] [Has Γ "is_mark" fd_is_mark] [Has Γ "is_lot" fd_is_lot] [Has Γ "is_closed" fd_is_closed] [Has Γ "need_closed" fd_need_closed] [Has Γ "lot_of" fd_lot_of] [Has Γ "joined" fd_joined] [Has Γ "in_order" fd_in_order] [Has Γ "next_ones" fd_next_ones]
    (h : Th Γ th ms f) (hk : 7 ≤ k) {l : List Str} (sl : l.Sublist ms) (cl : f l = l) : runF Γ k (.f "next_ones") [th, tD l] = M.ret (tsD (nextT ms f l), .fresh) := by
  obtain ⟨j, rfl⟩ := Nat.exists_eq_add_of_le' hk
  have hl := h.l
  have ll := Nat.le_trans sl.length_le hl
  rw [show j + 7 = (j + 6) + 1 from rfl, run_has (np := 2) (n := 7) (body := b_next_ones) rfl]
  unfold b_next_ones
  rw [exs_cons]
  simp [startS, th_need_closed h (k := j + 6) (by omega) sl cl]
  rw [exs_cons]
  simp
  have lots : ∀ y ∈ aboveA f l ms [], y.Sublist ms := fun y hy => by
    rcases mem_aboveA.mp hy with z | ⟨m, hm, _, rfl⟩
    · cases z
    · exact h.op.sb _ (join_sub' h.m sl (one_sub hm))
  rw [loop_fold (β := List (List Str) × Slot × Slot) (fun x : Str => D.str x) (fun b => [.val th, .val (tD l), .own (tsD b.1), b.2.1, b.2.2, .no, .no]) (fun b m => (if !decide (m ∈ l) && !decide (f (join l [m]) ∈ b.1) then b.1 ++ [f (join l [m])] else b.1, .val (.str m), .val (tD (f (join l [m])))))
    (fun b r => slotOk b.2.1 = true ∧ b.1.length + r.length ≤ 8 ∧ (∀ y ∈ b.1, y.Sublist ms) ∧ ∀ m ∈ r, m ∈ ms) ms ([], .no, .no)]
  · have fd : ∀ (xs : List Str) (b : List (List Str) × Slot × Slot), (xs.foldl (fun (b : List (List Str) × Slot × Slot) m => (if !decide (m ∈ l) && !decide (f (join l [m]) ∈ b.1) then b.1 ++ [f (join l [m])] else b.1, Slot.val (.str m), Slot.val (tD (f (join l [m]))))) b).1 = aboveA f l xs b.1 := fun xs => by
      induction xs with
      | nil => intro b; rfl
      | cons m r ih => intro b; rw [List.foldl_cons, ih, aboveA]
    have fd2 := fd ms ([], .no, .no)
    generalize ms.foldl (fun (b : List (List Str) × Slot × Slot) m => (if !decide (m ∈ l) && !decide (f (join l [m]) ∈ b.1) then b.1 ++ [f (join l [m])] else b.1, Slot.val (.str m), Slot.val (tD (f (join l [m]))))) ([], .no, .no) = b at fd2
    obtain ⟨b1, b2, b3⟩ := b
    dsimp only at fd2 ⊢
    subst fd2
    rw [exs_cons]
    simp
    rw [ev_lcP tD (fun y => !(aboveA f l ms []).any fun z => !decide (z = y) && sub z y) tD (aboveA f l ms []) rfl (by simp) (fun y hy => by
      simp [turnM, put1, wipeS, isOwn]
      rw [ev_lcA tD (fun z => .bl (!decide (z = y) && sub z y)) (aboveA f l ms []) rfl (by simp) (fun z hz => by
        simp [turnM, put1, wipeS, isOwn, eqD_tD (ok_sub h.m (lots z hz)) (ok_sub h.m (lots y hy)), s_within (Γ := Γ) (k := j + 6) (by omega)]
        by_cases e : z = y <;> simp [e])]
      simp [any_map_bl (fun z => !decide (z = y) && sub z y)]
      split <;> rfl)]
    have q := f_in_order (Γ := Γ) (k := j + 5) (ls := minsL (aboveA f l ms [])) fun y hy => ok_sub h.m (lots y (mem_minsL.mp hy).1)
    have e : ((aboveA f l ms []).filter fun y => !(aboveA f l ms []).any fun z => !decide (z = y) && sub z y) = minsL (aboveA f l ms []) := rfl
    rw [e]
    simp [q, nextT]
  · simp [h.mks (k := j + 6) (by omega)]
  · rfl
  · exact ⟨rfl, by simpa using hl, (by intro y hy; cases hy), fun m hm => hm⟩
  · rintro ⟨b1, b2, b3⟩ m r ⟨g1, g2, g3, g4⟩
    have hm := g4 m (List.mem_cons_self ..)
    have sj := join_sub' h.m sl (one_sub hm)
    dsimp only at g1 g2 g3
    refine ⟨?_, rfl, ?_, ?_, fun x hx => g4 x (List.mem_cons_of_mem _ hx)⟩
    · dsimp only
      rw [put_one, put_ok (s := b2) rfl g1]
      simp only [opt_some, ret_bnd]
      rw [exs_cons]
      have jj : runF Γ (j + 6) (.f "joined") [tD l, .tup [.str m]] = M.ret (tD (join l [m]), .clean) := s_joined (Γ := Γ) (k := j + 6) (by omega) (a := l) (b := [m]) (by simp; omega)
      simp [jj, h.clo (k := j + 6) (by omega) sj]
      rw [exs_cons]
      have i1 := inD_str m l
      have i2 := inD_lots (l := f (join l [m])) (ls := b1) (h.ok sj) fun y hy => ⟨lot_sub h.m (g3 y hy), Nat.le_trans (g3 y hy).length_le (by omega)⟩
      have hs : b1.length < sizeLine := by
        rw [List.length_cons] at g2
        exact Nat.lt_of_le_of_lt (show b1.length ≤ 8 by omega) (by decide)
      simp [i1, i2, and_ret]
      by_cases c1 : m ∈ l
      · simp [c1]
      · by_cases c2 : f (join l [m]) ∈ b1
        · simp [c1, c2]
        · simp [c1, c2, exs_cons, mutD, hs]
          rw [show tsD (b1 ++ [f (join l [m])]) = .lst (b1.map tD ++ [tD (f (join l [m]))]) by simp]
    · dsimp only
      rw [List.length_cons] at g2
      split
      · rw [List.length_append, List.length_singleton]
        omega
      · omega
    · dsimp only
      intro y hy
      split at hy
      · rcases List.mem_append.mp hy with z | z
        · exact g3 y z
        · rw [List.mem_singleton.mp z]
          exact h.op.sb _ sj
      · exact g3 y hy
end
end Ev
set_option Elab.async false
set_option linter.all false
/-! trees of defs that several laws reach (printed by gen.py) -/
namespace Ev
open PySem
def b__law_closing : Ss :=
.cons (.set 2 true (.blt .list (.var 1))) <|
.cons (.fors (.one 3) (.rng (.bin .add (.blt .len (.var 0)) (.con (.int 1))))
(.cons (.set 4 false (.blt .len (.var 2))) <|
.cons (.fors (.tup [5, 6]) (.seq (.var 0))
(.cons (.ifs (.call "_law_within" (.cons (.var 5) (.cons (.var 2) (.nil))))
(.cons (.ext 2 (.lc (.one 7) [7] (.seq (.var 6)) (.yes (.cmp .notin (.var 7) (.var 2))) (.var 7))) .nil)
(.nil)) .nil)) <|
.cons (.ifs (.cmp .eq (.blt .len (.var 2)) (.var 4))
(.cons (.ret (.blt .tuple (.blt .sorted (.var 2)))) .nil)
(.nil)) .nil)) <|
.cons (.ret (.blt .tuple (.blt .sorted (.var 2)))) .nil
abbrev fd__law_closing : Fd := ⟨2, 8, b__law_closing⟩
def b__law_many_rows : Ss :=
.cons (.set 2 false (.call "_law_take" (.cons (.var 0) (.cons (.con (.int 4)) (.nil))))) <|
.cons (.ifs (.cmp .eq (.var 2) (.con (.int 0)))
(.cons (.ret (.lc (.one 4) [4] (.rng (.bin .add (.con (.int 11)) (.call "_law_take" (.cons (.var 0) (.cons (.con (.int 20)) (.nil)))))) (.no) (.call "_law_rule" (.cons (.var 0) (.cons (.var 1) (.nil)))))) .nil)
(.nil)) <|
.cons (.ifs (.cmp .eq (.var 2) (.con (.int 1)))
(.cons (.set 3 false (.lc (.tup [5, 6]) [5, 6] (.zip (.var 1) (.sli (.var 1) (.yes (.con (.int 1))) (.no))) (.no) (.tup (.cons (.tup (.cons (.var 5) (.nil))) (.cons (.tup (.cons (.var 6) (.nil))) (.nil)))))) <|
.cons (.ret (.bin .add (.rev (.var 3)) (.call "_law_some_rows" (.cons (.var 0) (.cons (.var 1) (.cons (.con (.int 3)) (.nil))))))) .nil)
(.nil)) <|
.cons (.retc "_law_some_rows" (.cons (.var 0) (.cons (.var 1) (.cons (.con (.int 10)) (.nil))))) .nil
abbrev fd__law_many_rows : Fd := ⟨2, 7, b__law_many_rows⟩
def b__law_right : Ss :=
.cons (.set 3 false (.call "_law_walk" (.cons (.var 1) (.cons (.var 2) (.nil))))) <|
.cons (.fors (.one 4) (.rng (.con (.int 2)))
(.cons (.set 5 true (.call "gained" (.cons (.var 0) (.cons (.var 2) (.nil))))) <|
.cons (.ifs (.not (.call "_law_alike" (.cons (.var 5) (.cons (.var 3) (.nil)))))
(.cons (.ret (.con (.bl false))) .nil)
(.nil)) <|
.cons (.mut .append 5 (.cons (.con .non) (.nil))) .nil)) <|
.cons (.fors (.one 4) (.rng (.con (.int 2)))
(.cons (.set 6 true (.call "broken" (.cons (.var 0) (.cons (.var 2) (.nil))))) <|
.cons (.ifs (.not (.call "_law_alike" (.cons (.var 6) (.cons (.lc (.one 7) [7] (.rng (.blt .len (.var 1))) (.yes (.call "_law_breaks" (.cons (.var 2) (.cons (.idx (.var 1) (.var 7)) (.nil))))) (.var 7)) (.nil)))))
(.cons (.ret (.con (.bl false))) .nil)
(.nil)) <|
.cons (.mut .append 6 (.cons (.con (.int 0)) (.nil))) .nil)) <|
.cons (.retc "_law_alike" (.cons (.call "closing" (.cons (.var 0) (.cons (.var 2) (.nil)))) (.cons (.idx (.bin .add (.lst (.cons (.var 2) (.nil))) (.lc (.one 8) [8] (.seq (.var 3)) (.no) (.idx (.var 8) (.con (.int 1))))) (.neg (.con (.int 1)))) (.nil)))) .nil
abbrev fd__law_right : Fd := ⟨3, 9, b__law_right⟩
def b__law_walk : Ss :=
.cons (.set 2 true (.lst (.nil))) <|
.cons (.fors (.one 3) (.rng (.bin .add (.blt .len (.var 0)) (.con (.int 1))))
(.cons (.fors (.one 4) (.rng (.blt .len (.var 0)))
(.cons (.ifs (.call "_law_breaks" (.cons (.var 1) (.cons (.idx (.var 0) (.var 4)) (.nil))))
(.cons (.set 1 false (.call "_law_joined" (.cons (.var 1) (.cons (.idx (.idx (.var 0) (.var 4)) (.con (.int 1))) (.nil))))) <|
.cons (.mut .append 2 (.cons (.tup (.cons (.var 4) (.cons (.var 1) (.nil)))) (.nil))) .nil)
(.nil)) .nil)) .nil)) <|
.cons (.ret (.var 2)) .nil
abbrev fd__law_walk : Fd := ⟨2, 5, b__law_walk⟩
def b_broken : Ss :=
.cons (.ret (.lc (.tup [2, 3]) [2, 3] (.enm (.meth (.var 0) "rows" [0] (.nil))) (.yes (.call "breaks" (.cons (.var 1) (.cons (.var 3) (.nil))))) (.var 2))) .nil
abbrev fd_broken : Fd := ⟨2, 4, b_broken⟩
def b_closing : Ss :=
.cons (.ret (.meth (.var 0) "closing" [0, 1] (.cons (.var 1) (.nil)))) .nil
abbrev fd_closing : Fd := ⟨2, 2, b_closing⟩
def b_gained : Ss :=
.cons (.set2 2 3 true false (.lst (.nil)) (.neg (.con (.int 1)))) <|
.cons (.whl (.cmp .lt (.var 3) (.blt .len (.var 2)))
(.cons (.set 3 false (.blt .len (.var 2))) <|
.cons (.fors (.tup [4, 5]) (.enm (.meth (.var 0) "rows" [0] (.nil)))
(.cons (.ifs (.call "breaks" (.cons (.var 1) (.cons (.var 5) (.nil))))
(.cons (.set 1 false (.call "joined" (.cons (.var 1) (.cons (.idx (.var 5) (.con (.int 1))) (.nil))))) <|
.cons (.mut .append 2 (.cons (.tup (.cons (.var 4) (.cons (.var 1) (.nil)))) (.nil))) .nil)
(.nil)) .nil)) .nil)) <|
.cons (.ret (.var 2)) .nil
abbrev fd_gained : Fd := ⟨2, 6, b_gained⟩
end Ev
set_option Elab.async false
set_option linter.all false
set_option autoImplicit false
set_option maxRecDepth 100000
/-! PL11: walks through the rows. -/
namespace Ev
open PySem M
/-- where a walk is: the lot, what was done -/
abbrev WSt := List Str × List (Nat × List Str)
def wStep (s : WSt) (p : Nat × Row) : WSt := if brk s.1 p.2 then (join s.1 p.2.2, s.2 ++ [(p.1, join s.1 p.2.2)]) else s
def wPass (ps : List (Nat × Row)) (s : WSt) : WSt := ps.foldl wStep s
def wIter (ps : List (Nat × Row)) : Nat → WSt → WSt
  | 0, s => s
  | n + 1, s => wIter ps n (wPass ps s)
def idxR : Nat → List Row → List (Nat × Row)
  | _, [] => []
  | i, r :: rs => (i, r) :: idxR (i + 1) rs
theorem idxR_len : ∀ (i : Nat) (rs : List Row), (idxR i rs).length = rs.length
  | _, [] => rfl
  | i, r :: rs => by rw [idxR, List.length_cons, List.length_cons, idxR_len]
theorem idxR_mem : ∀ {i : Nat} {rs : List Row} {p : Nat × Row}, p ∈ idxR i rs → p.2 ∈ rs
  | _, [], _, h => nomatch h
  | i, r :: rs, p, h => by
    rcases List.mem_cons.mp h with rfl | h
    · exact List.mem_cons_self ..
    · exact List.mem_cons_of_mem _ (idxR_mem h)
theorem idxR_of : ∀ {i : Nat} {rs : List Row} {r : Row}, r ∈ rs → ∃ j, (j, r) ∈ idxR i rs
  | _, [], _, h => nomatch h
  | i, q :: rs, r, h => by
    rcases List.mem_cons.mp h with rfl | h
    · exact ⟨i, List.mem_cons_self ..⟩
    · obtain ⟨j, hj⟩ := idxR_of (i := i + 1) h
      exact ⟨j, List.mem_cons_of_mem _ hj⟩
theorem wStep_len (s : WSt) (p : Nat × Row) : s.2.length ≤ (wStep s p).2.length := by
  unfold wStep
  split
  · rw [List.length_append]
    omega
  · exact Nat.le_refl _
theorem wPass_len : ∀ (ps : List (Nat × Row)) (s : WSt), s.2.length ≤ (wPass ps s).2.length
  | [], _ => Nat.le_refl _
  | p :: ps, s => Nat.le_trans (wStep_len s p) (wPass_len ps (wStep s p))
theorem wPass_same : ∀ {ps : List (Nat × Row)} {s : WSt}, (wPass ps s).2.length ≤ s.2.length → wPass ps s = s ∧ ∀ p ∈ ps, brk s.1 p.2 = false
  | [], s, _ => ⟨rfl, fun _ h => nomatch h⟩
  | p :: ps, s, h => by
    have h0 : (wPass ps (wStep s p)).2.length ≤ s.2.length := h
    cases e : brk s.1 p.2 with
    | true =>
      have l1 := wPass_len ps (wStep s p)
      have l2 : (wStep s p).2.length = s.2.length + 1 := by
        unfold wStep
        rw [if_pos e, List.length_append]
        rfl
      omega
    | false =>
      have ws : wStep s p = s := by
        unfold wStep
        rw [if_neg (by rw [e]; exact Bool.false_ne_true)]
      rw [ws] at h0
      obtain ⟨q1, q2⟩ := wPass_same h0
      refine ⟨?_, fun q hq => ?_⟩
      · show wPass ps (wStep s p) = s
        rw [ws]
        exact q1
      · rcases List.mem_cons.mp hq with rfl | hq
        · exact e
        · exact q2 q hq
/-- rows whose behind is not there yet -/
def uns (ps : List (Nat × Row)) (l : List Str) : Nat := (ps.filter fun p => !sub p.2.2 l).length
theorem sub_join {a b c : List Str} (h : sub a b = true) : sub a (join b c) = true := sub_iff.mpr fun x hx => join_mem.mpr (.inl (sub_iff.mp h x hx))
theorem uns_join : ∀ (ps : List (Nat × Row)) (l c : List Str), uns ps (join l c) ≤ uns ps l
  | [], _, _ => Nat.le_refl _
  | p :: ps, l, c => by
    have ih := uns_join ps l c
    unfold uns at *
    cases e : sub p.2.2 l with
    | true =>
      rw [List.filter_cons_of_neg (by rw [sub_join e]; simp), List.filter_cons_of_neg (by rw [e]; simp)]
      exact ih
    | false =>
      rw [List.filter_cons_of_pos (a := p) (p := fun p => !sub p.2.2 l) (by rw [e]; rfl), List.length_cons]
      cases e2 : sub p.2.2 (join l c) with
      | true =>
        rw [List.filter_cons_of_neg (by rw [e2]; simp)]
        omega
      | false =>
        rw [List.filter_cons_of_pos (by rw [e2]; rfl), List.length_cons]
        omega
theorem uns_lt : ∀ {ps : List (Nat × Row)} {l : List Str} {p : Nat × Row}, p ∈ ps → sub p.2.2 l = false → uns ps (join l p.2.2) < uns ps l
  | [], _, _, h, _ => nomatch h
  | q :: ps, l, p, h, e => by
    have s2 : sub p.2.2 (join l p.2.2) = true := sub_iff.mpr fun x hx => join_mem.mpr (.inr hx)
    rcases List.mem_cons.mp h with rfl | h'
    · have ih := uns_join ps l p.2.2
      unfold uns at *
      rw [List.filter_cons_of_neg (by rw [s2]; simp), List.filter_cons_of_pos (by rw [e]; rfl), List.length_cons]
      omega
    · have ih := uns_lt h' e
      unfold uns at *
      cases e1 : sub q.2.2 l with
      | true =>
        rw [List.filter_cons_of_neg (by rw [sub_join e1]; simp), List.filter_cons_of_neg (by rw [e1]; simp)]
        exact ih
      | false =>
        rw [List.filter_cons_of_pos (a := q) (p := fun p => !sub p.2.2 l) (by rw [e1]; rfl), List.length_cons]
        cases e2 : sub q.2.2 (join l p.2.2) with
        | true =>
          rw [List.filter_cons_of_neg (by rw [e2]; simp)]
          omega
        | false =>
          rw [List.filter_cons_of_pos (by rw [e2]; rfl), List.length_cons]
          omega
theorem brk_uns {l : List Str} {r : Row} (h : brk l r = true) : sub r.2 l = false := by
  unfold brk at h
  rw [Bool.and_eq_true] at h
  simpa using h.2
theorem phi_step {all : List (Nat × Row)} {s : WSt} {p : Nat × Row} (hp : p ∈ all) : (wStep s p).2.length + uns all (wStep s p).1 ≤ s.2.length + uns all s.1 := by
  unfold wStep
  split
  · rename_i e
    have := uns_lt hp (brk_uns e)
    simp only [List.length_append, List.length_singleton]
    omega
  · exact Nat.le_refl _
theorem phi_pass {all : List (Nat × Row)} : ∀ (ps : List (Nat × Row)) (s : WSt), (∀ p ∈ ps, p ∈ all) → (wPass ps s).2.length + uns all (wPass ps s).1 ≤ s.2.length + uns all s.1
  | [], _, _ => Nat.le_refl _
  | p :: ps, s, h => Nat.le_trans (phi_pass ps (wStep s p) fun q hq => h q (List.mem_cons_of_mem _ hq)) (phi_step (h p (List.mem_cons_self ..)))
theorem iter_same {ps : List (Nat × Row)} {s : WSt} (h : wPass ps s = s) : ∀ n, wIter ps n s = s
  | 0 => rfl
  | n + 1 => by rw [wIter, h, iter_same h n]
theorem iter_add (ps : List (Nat × Row)) : ∀ (a b : Nat) (s : WSt), wIter ps (a + b) s = wIter ps b (wIter ps a s)
  | 0, b, s => by rw [Nat.zero_add]; rfl
  | a + 1, b, s => by rw [show a + 1 + b = (a + b) + 1 by omega, wIter, wIter, iter_add ps a b]
theorem iter_stable {ps : List (Nat × Row)} : ∀ (n : Nat) (s : WSt), uns ps s.1 ≤ n → wPass ps (wIter ps n s) = wIter ps n s
  | 0, s, h => by
    have h2 := phi_pass (all := ps) ps s fun _ h => h
    show wPass ps s = s
    exact (wPass_same (by omega)).1
  | n + 1, s, h => by
    rw [wIter]
    by_cases e : (wPass ps s).2.length ≤ s.2.length
    · have q := (wPass_same e).1
      rw [q, iter_same q n, q]
    · have h2 := phi_pass (all := ps) ps s fun _ h => h
      exact iter_stable n _ (by omega)
theorem iter_uniq {ps : List (Nat × Row)} {s : WSt} {a b : Nat} (ha : wPass ps (wIter ps a s) = wIter ps a s) (hb : wPass ps (wIter ps b s) = wIter ps b s) : wIter ps a s = wIter ps b s := by
  rcases Nat.le_total a b with h | h
  · obtain ⟨c, rfl⟩ := Nat.exists_eq_add_of_le h
    rw [iter_add, iter_same ha]
  · obtain ⟨c, rfl⟩ := Nat.exists_eq_add_of_le h
    rw [iter_add, iter_same hb]
theorem uns_le (ps : List (Nat × Row)) (l : List Str) : uns ps l ≤ ps.length := List.length_filter_le _ _
/-- what holds all along a walk -/
structure WOk (ms l0 : List Str) (rs : List Row) (s : WSt) : Prop where
  sb : s.1.Sublist ms
  lots : ∀ q ∈ s.2, q.2.Sublist ms
  inc : ∀ x ∈ l0, x ∈ s.1
  min : ∀ m, Closed rs m → (∀ x ∈ l0, x ∈ m) → ∀ x ∈ s.1, x ∈ m
  last : (l0 :: s.2.map (·.2)).getLast? = some s.1
theorem wok_start {ms l0 : List Str} (rs : List Row) (h : l0.Sublist ms) : WOk ms l0 rs (l0, []) := ⟨h, (fun _ h => nomatch h), fun _ h => h, fun _ _ h => h, rfl⟩
theorem wok_step {ms l0 : List Str} {rs : List Row} (hm : Asc ms) (hr : ∀ r ∈ rs, RowOf ms r) {s : WSt} {p : Nat × Row} (hp : p.2 ∈ rs) (h : WOk ms l0 rs s) : WOk ms l0 rs (wStep s p) := by
  unfold wStep
  split
  · rename_i e
    have sj := join_sub hm h.sb (hr _ hp).b
    refine ⟨sj, fun q hq => ?_, fun x hx => join_mem.mpr (.inl (h.inc x hx)), fun m cm lm x hx => ?_, ?_⟩
    · rcases List.mem_append.mp hq with hq | hq
      · exact h.lots q hq
      · rw [List.mem_singleton.mp hq]
        exact sj
    · rcases join_mem.mp hx with hx | hx
      · exact h.min m cm lm x hx
      · exact brk_false.mp (cm _ hp) (fun y hy => h.min m cm lm y ((brk_true.mp e).1 y hy)) x hx
    · rw [List.map_append, List.map_cons, List.map_nil, ← List.cons_append, List.getLast?_concat]
  · exact h
theorem wok_pass {ms l0 : List Str} {rs : List Row} (hm : Asc ms) (hr : ∀ r ∈ rs, RowOf ms r) : ∀ (ps : List (Nat × Row)) (s : WSt), (∀ p ∈ ps, p.2 ∈ rs) → WOk ms l0 rs s → WOk ms l0 rs (wPass ps s)
  | [], _, _, h => h
  | p :: ps, s, hp, h => wok_pass hm hr ps _ (fun q hq => hp q (List.mem_cons_of_mem _ hq)) (wok_step hm hr (hp p (List.mem_cons_self ..)) h)
theorem wok_iter {ms l0 : List Str} {rs : List Row} (hm : Asc ms) (hr : ∀ r ∈ rs, RowOf ms r) : ∀ (n : Nat) (s : WSt), WOk ms l0 rs s → WOk ms l0 rs (wIter (idxR 0 rs) n s)
  | 0, _, h => h
  | n + 1, s, h => wok_iter hm hr n _ (wok_pass hm hr _ s (fun p hp => idxR_mem hp) h)
theorem wok_clo {ms l0 : List Str} {rs : List Row} {s : WSt} (h : WOk ms l0 rs s) (st : wPass (idxR 0 rs) s = s) : IsClo rs l0 s.1 := ⟨h.inc, fun r hr => by
  obtain ⟨j, hj⟩ := idxR_of (i := 0) hr
  exact (wPass_same (s := s) (by rw [st]; exact Nat.le_refl _)).2 _ hj, h.min⟩
/-- how many were done at most -/
theorem iter_count {ps : List (Nat × Row)} : ∀ (n : Nat) (s : WSt), (wIter ps n s).2.length ≤ s.2.length + ps.length
  | n, s => by
    have go : ∀ (n : Nat) (s : WSt), (wIter ps n s).2.length + uns ps (wIter ps n s).1 ≤ s.2.length + uns ps s.1 := fun n => by
      induction n with
      | zero => exact fun _ => Nat.le_refl _
      | succ n ih => exact fun s => Nat.le_trans (ih _) (phi_pass ps s fun _ h => h)
    have h1 := go n s
    have h2 := uns_le ps s.1
    omega
/-- the walk of some rows from a lot -/
def walkL (rs : List Row) (l : List Str) : WSt := wIter (idxR 0 rs) (rs.length + 1) (l, [])
theorem walkL_stable (rs : List Row) (l : List Str) : wPass (idxR 0 rs) (walkL rs l) = walkL rs l := iter_stable _ _ (by
  have := uns_le (idxR 0 rs) l
  rw [idxR_len] at this
  exact Nat.le_trans this (Nat.le_succ _))
end Ev
set_option Elab.async false
set_option linter.all false
set_option autoImplicit false
set_option maxRecDepth 100000
/-! PL12: closing.py. -/
namespace Ev
open PySem M
variable {Γ : Fn → Option Fd} {k : Nat}
abbrev stD (q : Nat × List Str) : D := .tup [.int (q.1 : Int), tD q.2]
abbrev ixD (p : Nat × Row) : D := .tup [.int (p.1 : Int), rowD p.2]
theorem enm_rows : ∀ (i : Nat) (rs : List Row), enmD i (rs.map rowD) = (idxR i rs).map ixD
  | _, [] => rfl
  | i, r :: rs => by
    rw [List.map_cons, enmD, idxR, List.map_cons, enm_rows]
def gainT : Ss := .cons (.ifs (.call "breaks" (.cons (.var 1) (.cons (.var 5) (.nil))))
(.cons (.set 1 false (.call "joined" (.cons (.var 1) (.cons (.idx (.var 5) (.con (.int 1))) (.nil))))) <|
.cons (.mut .append 2 (.cons (.tup (.cons (.var 4) (.cons (.var 1) (.nil)))) (.nil))) .nil)
(.nil)) .nil
def gainB : Ss := .cons (.set 3 false (.blt .len (.var 2))) <|
.cons (.fors (.tup [4, 5]) (.enm (.meth (.var 0) "rows" [0] (.nil))) gainT) .nil
theorem len_sub {ms l : List Str} (h : l.Sublist ms) (hl : ms.length ≤ 100) : l.length ≤ 100 := Nat.le_trans h.length_le hl
theorem gain_turn [Has Γ "lot_of" fd_lot_of] [Has Γ "joined" fd_joined] [Has Γ "within" fd_within] [Has Γ "breaks" fd_breaks] {ms : List Str} (hl : ms.length ≤ 100) {s : WSt} {p : Nat × Row} (sb : s.1.Sublist ms) (hp : RowOf ms p.2) (hn : s.2.length ≤ 1000) (R : D) (s3 : Slot) :
    exSs (runF Γ (k + 3)) gainT [.val R, .val (tD s.1), .own (.lst (s.2.map stD)), s3, .val (.int (p.1 : Int)), .val (rowD p.2)] = M.ret (.nx [.val R, .val (tD (wStep s p).1), .own (.lst ((wStep s p).2.map stD)), s3, .val (.int (p.1 : Int)), .val (rowD p.2)]) := by
  have sl := sizeLine_eq
  have b := f_breaks (Γ := Γ) (k := k + 1) s.1 p.2
  have j := f_joined (Γ := Γ) (k := k + 1) s.1 p.2.2 (by
    have h1 := len_sub sb hl
    have h2 := len_sub hp.b hl
    omega)
  have len : s.2.length < sizeLine := by omega
  unfold gainT wStep
  rw [exs_cons]
  simp [b]
  cases e : brk s.1 p.2 with
  | true => simp [exs_cons, j, mutD, len]
  | false => simp
def GI (ms : List Str) (rs : List Row) (b : WSt × Slot × Slot) (r : List (Nat × Row)) : Prop := slotOk b.2.1 = true ∧ slotOk b.2.2 = true ∧ b.1.1.Sublist ms ∧ b.1.2.length + r.length ≤ 1000 ∧ ∀ p ∈ r, p.2 ∈ rs
def gStep (b : WSt × Slot × Slot) (p : Nat × Row) : WSt × Slot × Slot := (wStep b.1 p, .val (.int (p.1 : Int)), .val (rowD p.2))
theorem g_fold : ∀ (ps : List (Nat × Row)) (b : WSt × Slot × Slot), (ps.foldl gStep b).1 = wPass ps b.1
  | [], _ => rfl
  | p :: ps, b => g_fold ps (gStep b p)
theorem g_slots : ∀ (ps : List (Nat × Row)) (b : WSt × Slot × Slot), slotOk b.2.1 = true → slotOk b.2.2 = true → slotOk (ps.foldl gStep b).2.1 = true ∧ slotOk (ps.foldl gStep b).2.2 = true
  | [], _, h1, h2 => ⟨h1, h2⟩
  | p :: ps, b, _, _ => g_slots ps (gStep b p) rfl rfl
theorem gain_loop [Has Γ "lot_of" fd_lot_of] [Has Γ "joined" fd_joined] [Has Γ "within" fd_within] [Has Γ "breaks" fd_breaks] [HasM Γ 0 "rows" fd_Rules_rows] {ms : List Str} (hm : Lot ms) (hl : ms.length ≤ 100) {rs : List Row} (hr : ∀ r ∈ rs, RowOf ms r) {s : WSt} (sb : s.1.Sublist ms) (hn : s.2.length + rs.length ≤ 1000) (s3 s4 s5 : Slot) (h4 : slotOk s4 = true) (h5 : slotOk s5 = true) :
    ∃ s4' s5', slotOk s4' = true ∧ slotOk s5' = true ∧ exSs (runF Γ (k + 3)) gainB [.val (rulesD ms rs), .val (tD s.1), .own (.lst (s.2.map stD)), s3, s4, s5] = M.ret (.nx [.val (rulesD ms rs), .val (tD (wPass (idxR 0 rs) s).1), .own (.lst ((wPass (idxR 0 rs) s).2.map stD)), .val (.int (s.2.length : Int)), s4', s5']) := by
  have ro := f_Rules_rows (Γ := Γ) (k := k + 2) ms rs
  obtain ⟨g4, g5⟩ := g_slots (idxR 0 rs) (s, s4, s5) h4 h5
  refine ⟨_, _, g4, g5, ?_⟩
  unfold gainB
  rw [exs_cons]
  simp
  rw [exs_cons, ex_fors]
  simp only [evIt_enm, ev_meth, ev_var, varM_eq, evEs_nil]
  simp only [List.getElem?_cons_zero, ret_bnd]
  rw [show rulesD ms rs = .ins 0 [tD ms, rowsD rs] from rfl, meth_at (by rfl)]
  rw [show D.ins 0 [tD ms, rowsD rs] = rulesD ms rs from rfl]
  simp only [ro, ret_bnd, ok_clean, Bool.and_self, by_true, ok_fresh, Bool.true_or, guard_true, lstM_lst, enm_rows]
  rw [forM_foldI (α := Nat × Row) (β := WSt × Slot × Slot) ixD (fun b => [.val (rulesD ms rs), .val (tD b.1.1), .own (.lst (b.1.2.map stD)), .val (.int (s.2.length : Int)), b.2.1, b.2.2]) gStep (GI ms rs) (idxR 0 rs) (s, s4, s5) ⟨h4, h5, sb, by rw [idxR_len]; exact hn, fun p hp => idxR_mem hp⟩ fun b p r hi => ?_]
  · rw [g_fold]
    simp
  · obtain ⟨i1, i2, i3, i4, i5⟩ := hi
    rw [List.length_cons] at i4
    have hp := i5 p (List.mem_cons_self ..)
    have e4 : isOwn [.val (rulesD ms rs), .val (tD b.1.1), .own (.lst (b.1.2.map stD)), .val (.int (s.2.length : Int)), b.2.1, b.2.2] 4 = false := ok_isOwn (s := b.2.1) rfl i1
    have e5 : isOwn [.val (rulesD ms rs), .val (tD b.1.1), .own (.lst (b.1.2.map stD)), .val (.int (s.2.length : Int)), .val (.int (p.1 : Int)), b.2.2] 5 = false := ok_isOwn (s := b.2.2) rfl i2
    have tu := gain_turn (Γ := Γ) (k := k) hl i3 (hr _ hp) (by omega) (rulesD ms rs) (.val (.int (s.2.length : Int)))
    refine ⟨?_, rfl, rfl, ?_, ?_, fun q hq => i5 q (List.mem_cons_of_mem _ hq)⟩
    · simp only [put_tup, puts, put1, e4, e5]
      simp [e5, tu, gStep]
    · show (wStep b.1 p).1.Sublist ms
      unfold wStep
      split
      · exact join_sub hm.asc i3 (hr _ hp).b
      · exact i3
    · show (wStep b.1 p).2.length + r.length ≤ 1000
      unfold wStep
      split
      · rw [List.length_append, List.length_singleton]
        omega
      · omega
theorem gain_whl [Has Γ "lot_of" fd_lot_of] [Has Γ "joined" fd_joined] [Has Γ "within" fd_within] [Has Γ "breaks" fd_breaks] [HasM Γ 0 "rows" fd_Rules_rows] {ms l0 : List Str} (hm : Lot ms) (hl : ms.length ≤ 100) {rs : List Row} (hr : ∀ r ∈ rs, RowOf ms r) (hn : rs.length ≤ 100) : ∀ (fuel : Nat) (s : WSt) (bf : Int) (s4 s5 : Slot), WOk ms l0 rs s → s.2.length + uns (idxR 0 rs) s.1 ≤ rs.length → uns (idxR 0 rs) s.1 + 1 < fuel → bf < (s.2.length : Int) → slotOk s4 = true → slotOk s5 = true →
    ∃ m s3' s4' s5', wPass (idxR 0 rs) (wIter (idxR 0 rs) m s) = wIter (idxR 0 rs) m s ∧ whlM (evT (runF Γ (k + 3)) (.cmp .lt (.var 3) (.blt .len (.var 2)))) (exSs (runF Γ (k + 3)) gainB) fuel [.val (rulesD ms rs), .val (tD s.1), .own (.lst (s.2.map stD)), .val (.int bf), s4, s5] = M.ret (.nx [.val (rulesD ms rs), .val (tD (wIter (idxR 0 rs) m s).1), .own (.lst ((wIter (idxR 0 rs) m s).2.map stD)), s3', s4', s5'])
  | 0, _, _, _, _, _, _, h, _, _, _ => absurd h (Nat.not_lt_zero _)
  | 1, _, _, _, _, _, _, h, _, _, _ => absurd h (by omega)
  | fuel + 2, s, bf, s4, s5, ok, ph, hf, hb, h4, h5 => by
    obtain ⟨t4, t5, g4, g5, rd⟩ := gain_loop (Γ := Γ) (k := k) hm hl hr ok.sb (by omega) (.val (.int bf)) s4 s5 h4 h5
    have cond : evT (runF Γ (k + 3)) (.cmp .lt (.var 3) (.blt .len (.var 2))) [.val (rulesD ms rs), .val (tD s.1), .own (.lst (s.2.map stD)), .val (.int bf), s4, s5] = M.ret true := by
      simp [hb]
    rw [whlM, cond, ret_bnd]
    simp only [if_true]
    rw [rd, ret_bnd]
    simp only []
    have wl := wPass_len (idxR 0 rs) s
    by_cases e : (wPass (idxR 0 rs) s).2.length ≤ s.2.length
    · have q := (wPass_same e).1
      refine ⟨0, .val (.int (s.2.length : Int)), t4, t5, q, ?_⟩
      rw [q]
      have c2 : evT (runF Γ (k + 3)) (.cmp .lt (.var 3) (.blt .len (.var 2))) [.val (rulesD ms rs), .val (tD s.1), .own (.lst (s.2.map stD)), .val (.int (s.2.length : Int)), t4, t5] = M.ret false := by simp
      rw [whlM, c2, ret_bnd]
      rfl
    · have h2 := phi_pass (all := idxR 0 rs) (idxR 0 rs) s fun _ h => h
      obtain ⟨m, s3', s4', s5', st, ew⟩ := gain_whl hm hl hr hn (fuel + 1) (wPass (idxR 0 rs) s) (s.2.length : Int) t4 t5 (wok_pass hm.asc hr _ s (fun p hp => idxR_mem hp) ok) (by omega) (by omega) (by omega) g4 g5
      exact ⟨m + 1, s3', s4', s5', st, ew⟩
theorem f_gained [Has Γ "lot_of" fd_lot_of] [Has Γ "joined" fd_joined] [Has Γ "within" fd_within] [Has Γ "breaks" fd_breaks] [HasM Γ 0 "rows" fd_Rules_rows] [Has Γ "gained" fd_gained] {ms : List Str} (hm : Lot ms) (hl : ms.length ≤ 100) {rs : List Row} (hr : ∀ r ∈ rs, RowOf ms r) (hn : rs.length ≤ 100) {l : List Str} (sl : l.Sublist ms) :
    runF Γ (k + 4) (.f "gained") [rulesD ms rs, tD l] = M.ret (.lst ((walkL rs l).2.map stD), .fresh) := by
  have ul := uns_le (idxR 0 rs) l
  rw [idxR_len] at ul
  obtain ⟨m, s3', s4', s5', st, ew⟩ := gain_whl (Γ := Γ) (k := k) hm hl hr hn 1000 (l, []) (-1) .no .no (wok_start rs sl) (by simpa using ul) (by simp only []; omega) (by simp) rfl rfl
  have un := iter_uniq st (walkL_stable rs l)
  rw [un] at ew
  rw [run_has (np := 2) (n := 6) (body := b_gained) rfl]
  show bnd (exSs (runF Γ (k + 3)) (.cons (.set2 2 3 true false (.lst (.nil)) (.neg (.con (.int 1)))) <| .cons (.whl (.cmp .lt (.var 3) (.blt .len (.var 2))) gainB) <| .cons (.ret (.var 2)) .nil) _) _ = _
  rw [exs_cons]
  simp [startS]
  rw [exs_cons, ex_whl]
  rw [show ([] : List D) = (([] : List (Nat × List Str)).map stD) from rfl, ew]
  simp [exs_cons]
  rfl
theorem f_broken [Has Γ "within" fd_within] [Has Γ "breaks" fd_breaks] [HasM Γ 0 "rows" fd_Rules_rows] [Has Γ "broken" fd_broken] (ms : List Str) (rs : List Row) (l : List Str) : runF Γ (k + 3) (.f "broken") [rulesD ms rs, tD l] = M.ret (.lst (((idxR 0 rs).filter fun p => brk l p.2).map fun p => .int (p.1 : Int)), .fresh) := by
  have ro := f_Rules_rows (Γ := Γ) (k := k + 1) ms rs
  have e : evE (runF Γ (k + 2)) (.lc (.tup [2, 3]) [2, 3] (.enm (.meth (.var 0) "rows" [0] (.nil))) (.yes (.call "breaks" (.cons (.var 1) (.cons (.var 3) (.nil))))) (.var 2)) [.val (rulesD ms rs), .val (tD l), .no, .no] = M.ret (.lst (((idxR 0 rs).filter fun p => brk l p.2).map fun p => .int (p.1 : Int)), .fresh) :=
    ev_lcP ixD (fun p => brk l p.2) (fun p => .int (p.1 : Int)) (idxR 0 rs) rfl (by
      simp only [evIt_enm, ev_meth, ev_var, varM_eq, evEs_nil]
      simp only [List.getElem?_cons_zero, ret_bnd]
      rw [show rulesD ms rs = .ins 0 [tD ms, rowsD rs] from rfl, meth_at (by rfl)]
      rw [show D.ins 0 [tD ms, rowsD rs] = rulesD ms rs from rfl]
      simp only [ro, ret_bnd, ok_clean, Bool.and_self, by_true, ok_fresh, Bool.true_or, guard_true, lstM_lst, enm_rows]) fun p hp => by
      have q := f_breaks (Γ := Γ) (k := k) l p.2
      simp [turnM, puts, put1, wipeS, isOwn, q]
      cases brk l p.2 <;> simp
  rw [run_has (np := 2) (n := 4) (body := b_broken) rfl]
  simp [b_broken, exs_cons, startS, e, -List.map_map]
end Ev
set_option Elab.async false
set_option linter.all false
set_option autoImplicit false
set_option maxRecDepth 100000
/-! PL13: the law's own walk and closing. -/
namespace Ev
open PySem M
variable {Γ : Fn → Option Fd} {k : Nat}
theorem idxR_ints : ∀ (i : Nat) (rs : List Row), (idxR i rs).map (fun p => D.int (p.1 : Int)) = (List.range' i rs.length).map fun j : Nat => D.int (j : Int)
  | _, [] => rfl
  | i, r :: rs => by rw [idxR, List.map_cons, idxR_ints, List.length_cons, List.range'_succ, List.map_cons]
theorem idxR_at : ∀ {i : Nat} {rs : List Row} {p : Nat × Row}, p ∈ idxR i rs → ∃ j, p.1 = i + j ∧ rs[j]? = some p.2
  | _, [], _, h => nomatch h
  | i, r :: rs, p, h => by
    rcases List.mem_cons.mp h with rfl | h
    · exact ⟨0, rfl, rfl⟩
    · obtain ⟨j, h1, h2⟩ := idxR_at h
      exact ⟨j + 1, by omega, by simpa using h2⟩
def walkT : Ss := .cons (.ifs (.call "_law_breaks" (.cons (.var 1) (.cons (.idx (.var 0) (.var 4)) (.nil))))
(.cons (.set 1 false (.call "_law_joined" (.cons (.var 1) (.cons (.idx (.idx (.var 0) (.var 4)) (.con (.int 1))) (.nil))))) <|
.cons (.mut .append 2 (.cons (.tup (.cons (.var 4) (.cons (.var 1) (.nil)))) (.nil))) .nil)
(.nil)) .nil
def walkB : Ss := .cons (.fors (.one 4) (.rng (.blt .len (.var 0))) walkT) .nil
theorem walk_turn [Has Γ "_law_within" fd__law_within] [Has Γ "_law_breaks" fd__law_breaks] [Has Γ "_law_joined" fd__law_joined] {ms : List Str} (hm : Lot ms) (hl : ms.length ≤ 100) {rs : List Row} {s : WSt} {p : Nat × Row} (sb : s.1.Sublist ms) (hp : RowOf ms p.2) (hat : rs[p.1]? = some p.2) (hn : s.2.length ≤ 1000) (s3 : Slot) :
    exSs (runF Γ (k + 2)) walkT [.val (rowsD rs), .val (tD s.1), .own (.lst (s.2.map stD)), s3, .val (.int (p.1 : Int))] = M.ret (.nx [.val (rowsD rs), .val (tD (wStep s p).1), .own (.lst ((wStep s p).2.map stD)), s3, .val (.int (p.1 : Int))]) := by
  have sl := sizeLine_eq
  have b := f_breaksL (Γ := Γ) (k := k) s.1 p.2 (lot_sub hm hp.a).ok (lot_sub hm hp.b).ok
  have j := f_joinedL (Γ := Γ) (k := k + 1) s.1 p.2.2 (by
    have h1 := len_sub sb hl
    have h2 := len_sub hp.b hl
    omega)
  have at_ : L2.atI (rs.map rowD) (p.1 : Int) = some (rowD p.2) := L2.atI_nat (by rw [List.getElem?_map, hat]; rfl)
  have len : s.2.length < sizeLine := by omega
  unfold walkT wStep
  rw [exs_cons]
  simp [at_, b]
  cases e : brk s.1 p.2 with
  | true => simp [exs_cons, at_, j, mutD, len]
  | false => simp
def LI (ms : List Str) (rs : List Row) (b : WSt × Slot) (r : List (Nat × Row)) : Prop := slotOk b.2 = true ∧ b.1.1.Sublist ms ∧ b.1.2.length + r.length ≤ 1000 ∧ ∀ p ∈ r, p.2 ∈ rs ∧ rs[p.1]? = some p.2
def lStep (b : WSt × Slot) (p : Nat × Row) : WSt × Slot := (wStep b.1 p, .val (.int (p.1 : Int)))
theorem l_fold : ∀ (ps : List (Nat × Row)) (b : WSt × Slot), (ps.foldl lStep b).1 = wPass ps b.1
  | [], _ => rfl
  | p :: ps, b => l_fold ps (lStep b p)
theorem l_slots : ∀ (ps : List (Nat × Row)) (b : WSt × Slot), slotOk b.2 = true → slotOk (ps.foldl lStep b).2 = true
  | [], _, h => h
  | p :: ps, b, _ => l_slots ps (lStep b p) rfl
theorem walk_round [Has Γ "_law_within" fd__law_within] [Has Γ "_law_breaks" fd__law_breaks] [Has Γ "_law_joined" fd__law_joined] {ms : List Str} (hm : Lot ms) (hl : ms.length ≤ 100) {rs : List Row} (hr : ∀ r ∈ rs, RowOf ms r) (hn : rs.length ≤ 100) {s : WSt} (sb : s.1.Sublist ms) (hc : s.2.length + rs.length ≤ 1000) (s3 s4 : Slot) (h4 : slotOk s4 = true) :
    ∃ s4', slotOk s4' = true ∧ exSs (runF Γ (k + 2)) walkB [.val (rowsD rs), .val (tD s.1), .own (.lst (s.2.map stD)), s3, s4] = M.ret (.nx [.val (rowsD rs), .val (tD (wPass (idxR 0 rs) s).1), .own (.lst ((wPass (idxR 0 rs) s).2.map stD)), s3, s4']) := by
  refine ⟨_, l_slots (idxR 0 rs) (s, s4) h4, ?_⟩
  unfold walkB
  rw [exs_cons, ex_fors, it_rng (n := rs.length) (kd := .clean) (by simp) (by omega), ret_bnd]
  have e : (List.range rs.length).map (fun j : Nat => D.int (j : Int)) = (idxR 0 rs).map fun p => D.int (p.1 : Int) := by
    rw [idxR_ints, List.range_eq_range']
  rw [e, forM_foldI (α := Nat × Row) (β := WSt × Slot) (fun p => D.int (p.1 : Int)) (fun b => [.val (rowsD rs), .val (tD b.1.1), .own (.lst (b.1.2.map stD)), s3, b.2]) lStep (LI ms rs) (idxR 0 rs) (s, s4) ⟨h4, sb, by rw [idxR_len]; exact hc, fun p hp => ⟨idxR_mem hp, by
    obtain ⟨j, h1, h2⟩ := idxR_at hp
    rw [h1, Nat.zero_add]
    exact h2⟩⟩ fun b p r hi => ?_]
  · rw [l_fold]
    simp
  · obtain ⟨i1, i2, i3, i4⟩ := hi
    rw [List.length_cons] at i3
    obtain ⟨hp, hat⟩ := i4 p (List.mem_cons_self ..)
    have e4 : isOwn [.val (rowsD rs), .val (tD b.1.1), .own (.lst (b.1.2.map stD)), s3, b.2] 4 = false := ok_isOwn (s := b.2) rfl i1
    have tu := walk_turn (Γ := Γ) (k := k) hm hl i2 (hr _ hp) hat (by omega) s3
    refine ⟨?_, rfl, ?_, ?_, fun q hq => i4 q (List.mem_cons_of_mem _ hq)⟩
    · simp only [put_one, put1, e4]
      simp [tu, lStep]
    · show (wStep b.1 p).1.Sublist ms
      unfold wStep
      split
      · exact join_sub hm.asc i2 (hr _ hp).b
      · exact i2
    · show (wStep b.1 p).2.length + r.length ≤ 1000
      unfold wStep
      split
      · rw [List.length_append, List.length_singleton]
        omega
      · omega
theorem walk_rounds [Has Γ "_law_within" fd__law_within] [Has Γ "_law_breaks" fd__law_breaks] [Has Γ "_law_joined" fd__law_joined] {ms l0 : List Str} (hm : Lot ms) (hl : ms.length ≤ 100) {rs : List Row} (hr : ∀ r ∈ rs, RowOf ms r) (hn : rs.length ≤ 100) : ∀ (xs : List D) (s : WSt) (s3 s4 : Slot), WOk ms l0 rs s → s.2.length + uns (idxR 0 rs) s.1 ≤ rs.length → slotOk s3 = true → slotOk s4 = true →
    ∃ s3' s4', forM (fun x ρ => bnd (opt (put ρ (.one 3) x)) fun ρ' => exSs (runF Γ (k + 2)) walkB ρ') xs [.val (rowsD rs), .val (tD s.1), .own (.lst (s.2.map stD)), s3, s4] = M.ret (.nx [.val (rowsD rs), .val (tD (wIter (idxR 0 rs) xs.length s).1), .own (.lst ((wIter (idxR 0 rs) xs.length s).2.map stD)), s3', s4'])
  | [], s, s3, s4, _, _, _, _ => ⟨s3, s4, rfl⟩
  | x :: xs, s, s3, s4, ok, ph, h3, h4 => by
    obtain ⟨t4, g4, rd⟩ := walk_round (Γ := Γ) (k := k) hm hl hr hn ok.sb (by omega) (.val x) s4 h4
    have h2 := phi_pass (all := idxR 0 rs) (idxR 0 rs) s fun _ h => h
    obtain ⟨s3', s4', ih⟩ := walk_rounds hm hl hr hn xs (wPass (idxR 0 rs) s) (.val x) t4 (wok_pass hm.asc hr _ s (fun p hp => idxR_mem hp) ok) (by omega) rfl g4
    refine ⟨s3', s4', ?_⟩
    have e3 : isOwn [.val (rowsD rs), .val (tD s.1), .own (.lst (s.2.map stD)), s3, s4] 3 = false := ok_isOwn (s := s3) rfl h3
    rw [forM, put_one, put1, e3]
    simp only [Bool.false_eq_true, if_false, opt_some, ret_bnd, List.set_cons_succ, List.set_cons_zero]
    rw [rd, ret_bnd]
    exact ih
theorem f_walk [Has Γ "_law_within" fd__law_within] [Has Γ "_law_breaks" fd__law_breaks] [Has Γ "_law_joined" fd__law_joined] [Has Γ "_law_walk" fd__law_walk] {ms : List Str} (hm : Lot ms) (hl : ms.length ≤ 100) {rs : List Row} (hr : ∀ r ∈ rs, RowOf ms r) (hn : rs.length ≤ 100) {l : List Str} (sl : l.Sublist ms) :
    runF Γ (k + 3) (.f "_law_walk") [rowsD rs, tD l] = M.ret (.lst ((walkL rs l).2.map stD), .fresh) := by
  have ul := uns_le (idxR 0 rs) l
  rw [idxR_len] at ul
  obtain ⟨s3', s4', ew⟩ := walk_rounds (Γ := Γ) (k := k) hm hl hr hn ((List.range (rs.length + 1)).map fun i : Nat => D.int (i : Int)) (l, []) .no .no (wok_start rs sl) (by simpa using ul) rfl rfl
  rw [List.length_map, List.length_range] at ew
  rw [run_has (np := 2) (n := 5) (body := b__law_walk) rfl]
  show bnd (exSs (runF Γ (k + 2)) (.cons (.set 2 true (.lst (.nil))) <| .cons (.fors (.one 3) (.rng (.bin .add (.blt .len (.var 0)) (.con (.int 1)))) walkB) <| .cons (.ret (.var 2)) .nil) _) _ = _
  rw [exs_cons]
  simp [startS]
  rw [exs_cons, ex_fors, it_rng (n := rs.length + 1) (kd := .clean) (by simp) (by omega), ret_bnd]
  rw [show ([] : List D) = (([] : List (Nat × List Str)).map stD) from rfl, ew]
  simp [exs_cons]
  rfl
/-! ### the law's own closing -/
def cStep (fs : List Str) (r : Row) : List Str := if sub r.1 fs then fs ++ r.2.filter (fun x => !decide (x ∈ fs)) else fs
def cPass (rs : List Row) (fs : List Str) : List Str := rs.foldl cStep fs
def unsC (rs : List Row) (fs : List Str) : Nat := (rs.filter fun r => !sub r.2 fs).length
theorem cStep_inc {fs : List Str} {r : Row} {x : Str} (h : x ∈ fs) : x ∈ cStep fs r := by
  unfold cStep
  split
  · exact List.mem_append_left _ h
  · exact h
theorem cPass_inc : ∀ (rs : List Row) (fs : List Str) {x : Str}, x ∈ fs → x ∈ cPass rs fs
  | [], _, _, h => h
  | r :: rs, fs, _, h => cPass_inc rs (cStep fs r) (cStep_inc h)
theorem cStep_len (fs : List Str) (r : Row) : fs.length ≤ (cStep fs r).length := by
  unfold cStep
  split
  · rw [List.length_append]
    omega
  · exact Nat.le_refl _
theorem cPass_len : ∀ (rs : List Row) (fs : List Str), fs.length ≤ (cPass rs fs).length
  | [], _ => Nat.le_refl _
  | r :: rs, fs => Nat.le_trans (cStep_len fs r) (cPass_len rs _)
theorem cStep_same {fs : List Str} {r : Row} (h : (cStep fs r).length ≤ fs.length) : cStep fs r = fs ∧ brk fs r = false := by
  unfold cStep at *
  by_cases e : sub r.1 fs = true
  · rw [if_pos e] at h ⊢
    rw [List.length_append] at h
    have z : r.2.filter (fun x => !decide (x ∈ fs)) = [] := List.length_eq_zero_iff.mp (by omega)
    refine ⟨by rw [z, List.append_nil], brk_false.mpr fun _ x hx => ?_⟩
    have q := List.filter_eq_nil_iff.mp z x hx
    simpa using q
  · rw [if_neg e]
    refine ⟨rfl, ?_⟩
    unfold brk
    rw [Bool.not_eq_true] at e
    rw [e]
    rfl
theorem cPass_same : ∀ {rs : List Row} {fs : List Str}, (cPass rs fs).length ≤ fs.length → cPass rs fs = fs ∧ Closed rs fs
  | [], _, _ => ⟨rfl, fun _ h => nomatch h⟩
  | r :: rs, fs, h => by
    have h0 : (cPass rs (cStep fs r)).length ≤ fs.length := h
    have l1 := cPass_len rs (cStep fs r)
    obtain ⟨q1, q2⟩ := cStep_same (fs := fs) (r := r) (by omega)
    rw [q1] at h0
    obtain ⟨p1, p2⟩ := cPass_same h0
    refine ⟨?_, fun q hq => ?_⟩
    · show cPass rs (cStep fs r) = fs
      rw [q1]
      exact p1
    · rcases List.mem_cons.mp hq with rfl | hq
      · exact q2
      · exact p2 q hq
theorem unsC_mono {fs gs : List Str} (h : ∀ x ∈ fs, x ∈ gs) : ∀ rs : List Row, unsC rs gs ≤ unsC rs fs
  | [] => Nat.le_refl _
  | r :: rs => by
    have ih := unsC_mono h rs
    unfold unsC at *
    cases e : sub r.2 fs with
    | true =>
      have e' : sub r.2 gs = true := sub_iff.mpr fun x hx => h x (sub_iff.mp e x hx)
      rw [List.filter_cons_of_neg (by rw [e']; simp), List.filter_cons_of_neg (by rw [e]; simp)]
      exact ih
    | false =>
      rw [List.filter_cons_of_pos (a := r) (p := fun r => !sub r.2 fs) (by rw [e]; rfl), List.length_cons]
      cases e2 : sub r.2 gs with
      | true =>
        rw [List.filter_cons_of_neg (by rw [e2]; simp)]
        omega
      | false =>
        rw [List.filter_cons_of_pos (by rw [e2]; rfl), List.length_cons]
        omega
theorem unsC_lt {fs gs : List Str} (h : ∀ x ∈ fs, x ∈ gs) : ∀ {rs : List Row} {r : Row}, r ∈ rs → sub r.2 fs = false → sub r.2 gs = true → unsC rs gs < unsC rs fs
  | [], _, hr, _, _ => nomatch hr
  | q :: rs, r, hr, e1, e2 => by
    rcases List.mem_cons.mp hr with rfl | hr'
    · have ih := unsC_mono h rs
      unfold unsC at *
      rw [List.filter_cons_of_neg (by rw [e2]; simp), List.filter_cons_of_pos (by rw [e1]; rfl), List.length_cons]
      omega
    · have ih := unsC_lt h hr' e1 e2
      unfold unsC at *
      cases e : sub q.2 fs with
      | true =>
        have e' : sub q.2 gs = true := sub_iff.mpr fun x hx => h x (sub_iff.mp e x hx)
        rw [List.filter_cons_of_neg (by rw [e']; simp), List.filter_cons_of_neg (by rw [e]; simp)]
        exact ih
      | false =>
        rw [List.filter_cons_of_pos (a := q) (p := fun r => !sub r.2 fs) (by rw [e]; rfl), List.length_cons]
        cases e3 : sub q.2 gs with
        | true =>
          rw [List.filter_cons_of_neg (by rw [e3]; simp)]
          omega
        | false =>
          rw [List.filter_cons_of_pos (by rw [e3]; rfl), List.length_cons]
          omega
theorem cPass_grow : ∀ {all rs : List Row} {fs : List Str}, (∀ r ∈ rs, r ∈ all) → fs.length < (cPass rs fs).length → unsC all (cPass rs fs) < unsC all fs
  | _, [], fs, _, h => absurd h (Nat.lt_irrefl _)
  | all, r :: rs, fs, ha, h => by
    by_cases e : (cStep fs r).length ≤ fs.length
    · have q := (cStep_same e).1
      have h' : fs.length < (cPass rs (cStep fs r)).length := h
      show unsC all (cPass rs (cStep fs r)) < _
      rw [q] at h' ⊢
      exact cPass_grow (fun q hq => ha q (List.mem_cons_of_mem _ hq)) h'
    · have hs : sub r.1 fs = true := by
        cases z : sub r.1 fs with
        | true => rfl
        | false =>
          exfalso
          apply e
          unfold cStep
          rw [z]
          exact Nat.le_refl _
      have n1 : sub r.2 fs = false := by
        cases z : sub r.2 fs with
        | false => rfl
        | true =>
          exfalso
          apply e
          unfold cStep
          rw [if_pos hs]
          have z' : r.2.filter (fun x => !decide (x ∈ fs)) = [] := by
            rw [List.filter_eq_nil_iff]
            intro x hx
            simp [sub_iff.mp z x hx]
          rw [z', List.append_nil]
          exact Nat.le_refl _
      have n2 : sub r.2 (cStep fs r) = true := sub_iff.mpr fun x hx => by
        unfold cStep
        rw [if_pos hs]
        by_cases z : x ∈ fs
        · exact List.mem_append_left _ z
        · exact List.mem_append_right _ (List.mem_filter.mpr ⟨hx, by simpa using z⟩)
      have l1 := unsC_lt (fun x hx => cStep_inc (r := r) hx) (ha r (List.mem_cons_self ..)) n1 n2
      have l2 := unsC_mono (fun x hx => cPass_inc rs (cStep fs r) hx) all
      exact Nat.lt_of_le_of_lt l2 l1
structure COk (ms l0 : List Str) (rs : List Row) (fs : List Str) : Prop where
  nd : fs.Nodup
  sb : ∀ x ∈ fs, x ∈ ms
  inc : ∀ x ∈ l0, x ∈ fs
  min : ∀ m, Closed rs m → (∀ x ∈ l0, x ∈ m) → ∀ x ∈ fs, x ∈ m
theorem cok_step {ms l0 : List Str} {rs : List Row} (hm : ms.Nodup) (hr : ∀ r ∈ rs, RowOf ms r) {fs : List Str} {r : Row} (hp : r ∈ rs) (h : COk ms l0 rs fs) : COk ms l0 rs (cStep fs r) := by
  unfold cStep
  split
  · rename_i e
    refine ⟨List.nodup_append.mpr ⟨h.nd, List.Nodup.sublist List.filter_sublist (List.Nodup.sublist (hr r hp).b hm), fun a ha b hb e => ?_⟩, fun x hx => ?_, fun x hx => List.mem_append_left _ (h.inc x hx), fun m cm lm x hx => ?_⟩
    · subst e
      have := (List.mem_filter.mp hb).2
      simp at this
      exact this ha
    · rcases List.mem_append.mp hx with hx | hx
      · exact h.sb x hx
      · exact (hr r hp).b.subset (List.mem_filter.mp hx).1
    · rcases List.mem_append.mp hx with hx | hx
      · exact h.min m cm lm x hx
      · exact brk_false.mp (cm r hp) (fun y hy => h.min m cm lm y (sub_iff.mp e y hy)) x (List.mem_filter.mp hx).1
  · exact h
theorem cok_pass {ms l0 : List Str} {all : List Row} (hm : ms.Nodup) (hr : ∀ r ∈ all, RowOf ms r) : ∀ (rs : List Row) (fs : List Str), (∀ r ∈ rs, r ∈ all) → COk ms l0 all fs → COk ms l0 all (cPass rs fs)
  | [], _, _, h => h
  | r :: rs, fs, ha, h => cok_pass hm hr rs _ (fun q hq => ha q (List.mem_cons_of_mem _ hq)) (cok_step hm hr (ha r (List.mem_cons_self ..)) h)
end Ev
set_option Elab.async false
set_option linter.all false
set_option autoImplicit false
set_option maxRecDepth 100000
/-! PL14: the law's own closing, run; many rows. -/
namespace Ev
open PySem M
variable {Γ : Fn → Option Fd} {k : Nat}
theorem inD_strL {x : Str} {ys : List Str} (hx : PyData.strOk x = true) (hy : OkL ys) : inD (.str x) (.lst (ys.map .str)) = some (decide (x ∈ ys)) := by
  have s1 : SeqAt.shaped (.str x) = true := by
    unfold SeqAt.shaped
    rw [PyData.canLay0, hx]
    rfl
  have s2 : SeqAt.shaped (.list (ys.map PyData.str)) = true := by
    unfold SeqAt.shaped
    rw [PyData.canLay0, lay_strs hy, PyData.depth, depth_strs]
    rfl
  show (match (D.str x).py, D.pys (ys.map .str) with
    | some x, some ys => if (SeqAt.shaped x && SeqAt.shaped (.list ys)) = true then some (ys.any fun z => PyData.eqv z x) else none
    | _, _ => none) = _
  rw [pys_strs]
  simp only [D.py]
  rw [if_pos (by rw [s1, s2]; rfl)]
  congr 1
  rw [Bool.eq_iff_iff, List.any_eq_true, decide_eq_true_eq]
  constructor
  · rintro ⟨d, hd, e⟩
    obtain ⟨y, hy, rfl⟩ := List.mem_map.mp hd
    have e' : (y == x) = true := e
    rw [← eq_of_beq e']
    exact hy
  · intro h
    exact ⟨.str x, List.mem_map_of_mem h, by show (x == x) = true; simp⟩
theorem f_withinLl [Has Γ "_law_within" fd__law_within] (a b : List Str) (ha : OkL a) (hb : OkL b) : runF Γ (k + 1) (.f "_law_within") [tD a, .lst (b.map .str)] = M.ret (.bl (sub a b), .clean) := by
  have e : evE (runF Γ k) (.lc (.one 2) [2] (.seq (.var 0)) (.yes (.cmp .notin (.var 2) (.var 1))) (.var 2)) [.val (tD a), .val (.lst (b.map .str)), .no] = M.ret (.lst ((a.filter fun x => !decide (x ∈ b)).map D.str), .fresh) :=
    ev_lcP .str (fun x => !decide (x ∈ b)) .str a rfl (by simp) fun x hx => by
      have q := inD_strL (ha x hx) hb
      by_cases h : x ∈ b <;> simp [turnM, put1, wipeS, isOwn, q, h]
  have e2 : (a.filter fun x => !decide (x ∈ b)).isEmpty = sub a b := by
    rw [Bool.eq_iff_iff, List.isEmpty_iff, List.filter_eq_nil_iff, sub_iff]
    simp
  rw [run_has (np := 2) (n := 3) (body := b__law_within) rfl]
  have q := eqD_nil (l := a.filter fun x => !decide (x ∈ b)) fun x hx => ha x ((List.mem_filter.mp hx).1)
  rw [e2] at q
  simp [b__law_within, exs_cons, startS, e, q, -List.map_map]
def clT : Ss := .cons (.ifs (.call "_law_within" (.cons (.var 5) (.cons (.var 2) (.nil))))
(.cons (.ext 2 (.lc (.one 7) [7] (.seq (.var 6)) (.yes (.cmp .notin (.var 7) (.var 2))) (.var 7))) .nil)
(.nil)) .nil
def clB : Ss := .cons (.set 4 false (.blt .len (.var 2))) <|
.cons (.fors (.tup [5, 6]) (.seq (.var 0)) clT) <|
.cons (.ifs (.cmp .eq (.blt .len (.var 2)) (.var 4))
(.cons (.ret (.blt .tuple (.blt .sorted (.var 2)))) .nil)
(.nil)) .nil
theorem cl_turn [Has Γ "_law_within" fd__law_within] {fs : List Str} {r : Row} (of : OkL fs) (o1 : OkL r.1) (o2 : OkL r.2) (hn : fs.length + r.2.length ≤ 1000) (s0 s1 s3 s4 : Slot) :
    exSs (runF Γ (k + 1)) clT [s0, s1, .own (.lst (fs.map .str)), s3, s4, .val (tD r.1), .val (tD r.2), .no] = M.ret (.nx [s0, s1, .own (.lst ((cStep fs r).map .str)), s3, s4, .val (tD r.1), .val (tD r.2), .no]) := by
  have sl := sizeLine_eq
  have w := f_withinLl (Γ := Γ) (k := k) r.1 fs o1 of
  have e : evE (runF Γ (k + 1)) (.lc (.one 7) [7] (.seq (.var 6)) (.yes (.cmp .notin (.var 7) (.var 2))) (.var 7)) [s0, s1, .own (.lst (fs.map .str)), s3, s4, .val (tD r.1), .val (tD r.2), .no] = M.ret (.lst ((r.2.filter fun x => !decide (x ∈ fs)).map D.str), .fresh) :=
    ev_lcP .str (fun x => !decide (x ∈ fs)) .str r.2 rfl (by simp) fun x hx => by
      have q := inD_strL (o2 x hx) of
      by_cases h : x ∈ fs <;> simp [turnM, put1, wipeS, isOwn, q, h]
  have len : fs.length + (r.2.filter fun x => !decide (x ∈ fs)).length ≤ sizeLine := by
    have := List.length_filter_le (fun x => !decide (x ∈ fs)) r.2
    omega
  unfold clT cStep
  rw [exs_cons]
  simp [w]
  cases h : sub r.1 fs with
  | true =>
    simp [exs_cons]
    rw [ex_ext (xs := fs.map D.str) rfl, e]
    simp [len]
  | false => simp
def CI (ms l0 : List Str) (all : List Row) (b : List Str × Slot × Slot) (r : List Row) : Prop := slotOk b.2.1 = true ∧ slotOk b.2.2 = true ∧ COk ms l0 all b.1 ∧ ∀ q ∈ r, q ∈ all
def ccStep (b : List Str × Slot × Slot) (r : Row) : List Str × Slot × Slot := (cStep b.1 r, .val (tD r.1), .val (tD r.2))
theorem cc_fold : ∀ (rs : List Row) (b : List Str × Slot × Slot), (rs.foldl ccStep b).1 = cPass rs b.1
  | [], _ => rfl
  | r :: rs, b => cc_fold rs (ccStep b r)
theorem cc_slots : ∀ (rs : List Row) (b : List Str × Slot × Slot), slotOk b.2.1 = true → slotOk b.2.2 = true → slotOk (rs.foldl ccStep b).2.1 = true ∧ slotOk (rs.foldl ccStep b).2.2 = true
  | [], _, h1, h2 => ⟨h1, h2⟩
  | r :: rs, b, _, _ => cc_slots rs (ccStep b r) rfl rfl
theorem cl_rounds [Has Γ "_law_within" fd__law_within] {ms l0 : List Str} (hm : Lot ms) (hl : ms.length ≤ 100) {rs : List Row} (hr : ∀ r ∈ rs, RowOf ms r) (d1 : D) : ∀ (xs : List D) (fs : List Str) (s3 s4 s5 s6 : Slot), COk ms l0 rs fs → unsC rs fs < xs.length → slotOk s3 = true → slotOk s5 = true → slotOk s6 = true →
    ∃ c, c.Sublist ms ∧ IsClo rs l0 c ∧ forM (fun x ρ => bnd (opt (put ρ (.one 3) x)) fun ρ' => exSs (runF Γ (k + 1)) clB ρ') xs [.val (rowsD rs), .val d1, .own (.lst (fs.map .str)), s3, s4, s5, s6, .no] = M.ret (.rt (tD c) .clean)
  | [], _, _, _, _, _, _, h, _, _, _ => absurd h (Nat.not_lt_zero _)
  | x :: xs, fs, s3, s4, s5, s6, ok, hu, h3, h5, h6 => by
    have e3 : isOwn [.val (rowsD rs), .val d1, .own (.lst (fs.map .str)), s3, s4, s5, s6, .no] 3 = false := ok_isOwn (s := s3) rfl h3
    have okp := cok_pass (asc_nodup hm.asc) hr rs fs (fun _ h => h) ok
    obtain ⟨g5, g6⟩ := cc_slots rs (fs, s5, s6) h5 h6
    have lp : exS (runF Γ (k + 1)) (.fors (.tup [5, 6]) (.seq (.var 0)) clT) [.val (rowsD rs), .val d1, .own (.lst (fs.map .str)), .val x, .val (.int (fs.length : Int)), s5, s6, .no] = M.ret (.nx [.val (rowsD rs), .val d1, .own (.lst ((cPass rs fs).map .str)), .val x, .val (.int (fs.length : Int)), (rs.foldl ccStep (fs, s5, s6)).2.1, (rs.foldl ccStep (fs, s5, s6)).2.2, .no]) := by
      rw [ex_fors]
      simp only [evIt_seq, ev_var, varM_eq]
      simp only [List.getElem?_cons_zero, ret_bnd, ok_clean, Bool.true_or, guard_true, seqD_lst, opt_some]
      rw [forM_foldI (α := Row) (β := List Str × Slot × Slot) rowD (fun b => [.val (rowsD rs), .val d1, .own (.lst (b.1.map .str)), .val x, .val (.int (fs.length : Int)), b.2.1, b.2.2, .no]) ccStep (CI ms l0 rs) rs (fs, s5, s6) ⟨h5, h6, ok, fun _ h => h⟩ fun b r q hi => ?_]
      · rw [cc_fold]
      · obtain ⟨i1, i2, i3, i4⟩ := hi
        have hr' := hr r (i4 r (List.mem_cons_self ..))
        have e5 : isOwn [.val (rowsD rs), .val d1, .own (.lst (b.1.map .str)), .val x, .val (.int (fs.length : Int)), b.2.1, b.2.2, .no] 5 = false := ok_isOwn (s := b.2.1) rfl i1
        have e6 : isOwn [.val (rowsD rs), .val d1, .own (.lst (b.1.map .str)), .val x, .val (.int (fs.length : Int)), .val (tD r.1), b.2.2, .no] 6 = false := ok_isOwn (s := b.2.2) rfl i2
        have tu := cl_turn (Γ := Γ) (k := k) (fs := b.1) (r := r) (fun y hy => hm.ok y (i3.sb y hy)) (lot_sub hm hr'.a).ok (lot_sub hm hr'.b).ok (by
          have n1 := nodup_len i3.nd i3.sb
          have n2 := len_sub hr'.b hl
          omega) (.val (rowsD rs)) (.val d1) (.val x) (.val (.int (fs.length : Int)))
        refine ⟨?_, rfl, rfl, cok_step (asc_nodup hm.asc) hr (i4 r (List.mem_cons_self ..)) i3, fun q hq => i4 q (List.mem_cons_of_mem _ hq)⟩
        simp only [put_tup, puts, put1, e5, e6]
        simp [e6, tu, ccStep]
    have cl := cPass_len rs fs
    rw [forM, put_one, put1, e3]
    simp only [Bool.false_eq_true, if_false, opt_some, ret_bnd, List.set_cons_succ, List.set_cons_zero]
    by_cases e : (cPass rs fs).length ≤ fs.length
    · obtain ⟨q1, q2⟩ := cPass_same e
      refine ⟨isort fs, asc_sublist (isort_asc ok.nd) hm.asc fun y hy => ok.sb y ((isort_perm fs).mem_iff.mp hy), ⟨fun y hy => (isort_perm fs).mem_iff.mpr (ok.inc y hy), fun r hr' => ?_, fun m cm lm y hy => ok.min m cm lm y ((isort_perm fs).mem_iff.mp hy)⟩, ?_⟩
      · have z := brk_false.mp (q2 r hr')
        exact brk_false.mpr fun h y hy => (isort_perm fs).mem_iff.mpr (z (fun w hw => (isort_perm fs).mem_iff.mp (h w hw)) y hy)
      · have so := sorted_strs (xs := fs) fun y hy => hm.ok y (ok.sb y hy)
        unfold clB
        rw [exs_cons]
        simp
        rw [exs_cons, lp, q1]
        simp [exs_cons, so]
    · obtain ⟨c, c1, c2, ih⟩ := cl_rounds hm hl hr d1 xs (cPass rs fs) (.val x) (.val (.int (fs.length : Int))) (rs.foldl ccStep (fs, s5, s6)).2.1 (rs.foldl ccStep (fs, s5, s6)).2.2 okp (by
        have := cPass_grow (all := rs) (rs := rs) (fs := fs) (fun _ h => h) (by omega)
        rw [List.length_cons] at hu
        omega) rfl g5 g6
      refine ⟨c, c1, c2, ?_⟩
      have ne : ¬ (cPass rs fs).length = fs.length := by omega
      have ne' : ¬ ((cPass rs fs).length : Int) = (fs.length : Int) := by omega
      have tu : exSs (runF Γ (k + 1)) clB [.val (rowsD rs), .val d1, .own (.lst (fs.map .str)), .val x, s4, s5, s6, .no] = M.ret (.nx [.val (rowsD rs), .val d1, .own (.lst ((cPass rs fs).map .str)), .val x, .val (.int (fs.length : Int)), (rs.foldl ccStep (fs, s5, s6)).2.1, (rs.foldl ccStep (fs, s5, s6)).2.2, .no]) := by
        unfold clB
        rw [exs_cons]
        simp
        rw [exs_cons, lp]
        simp [exs_cons, ne, ne']
      rw [tu, ret_bnd]
      exact ih
theorem f_closingL [Has Γ "_law_within" fd__law_within] [Has Γ "_law_closing" fd__law_closing] {ms : List Str} (hm : Lot ms) (hl : ms.length ≤ 100) {rs : List Row} (hr : ∀ r ∈ rs, RowOf ms r) (hn : rs.length ≤ 100) {l : List Str} (sl : l.Sublist ms) :
    ∃ c, c.Sublist ms ∧ IsClo rs l c ∧ runF Γ (k + 2) (.f "_law_closing") [rowsD rs, tD l] = M.ret (tD c, .clean) := by
  have ul : unsC rs l ≤ rs.length := List.length_filter_le _ _
  obtain ⟨c, c1, c2, e⟩ := cl_rounds (Γ := Γ) (k := k) (l0 := l) hm hl hr (tD l) ((List.range (rs.length + 1)).map fun i : Nat => D.int (i : Int)) l .no .no .no .no ⟨asc_nodup (asc_sub sl hm.asc), fun x hx => sl.subset hx, fun _ h => h, fun _ _ h => h⟩ (by rw [List.length_map, List.length_range]; omega) rfl rfl rfl
  refine ⟨c, c1, c2, ?_⟩
  rw [run_has (np := 2) (n := 8) (body := b__law_closing) rfl]
  show bnd (exSs (runF Γ (k + 1)) (.cons (.set 2 true (.blt .list (.var 1))) <| .cons (.fors (.one 3) (.rng (.bin .add (.blt .len (.var 0)) (.con (.int 1)))) clB) <| .cons (.ret (.blt .tuple (.blt .sorted (.var 2)))) .nil) _) _ = _
  rw [exs_cons]
  simp [startS]
  rw [exs_cons, ex_fors, it_rng (n := rs.length + 1) (kd := .clean) (by simp) (by omega), ret_bnd, e]
  simp
theorem zip_strs : ∀ xs ys : List Str, zipD (xs.map .str) (ys.map .str) = (xs.zip ys).map fun p => .tup [.str p.1, .str p.2]
  | [], _ => by simp [zipD]
  | _ :: _, [] => by simp [zipD]
  | x :: xs, y :: ys => by simp [zipD, zip_strs xs ys]
theorem f_many_rows [Has Γ "_law_take" fd__law_take] [Has Γ "_law_mixed" fd__law_mixed] [Has Γ "_law_few" fd__law_few] [Has Γ "_law_lot" fd__law_lot] [Has Γ "_law_rule" fd__law_rule] [Has Γ "_law_some_rows" fd__law_some_rows] [Has Γ "_law_many_rows" fd__law_many_rows] {ms : List Str} (hm : Lot ms) (hl : ms.length ≤ 8) : Sure (runF Γ (k + 6) (.f "_law_many_rows") [.bag, tD ms]) fun q => ∃ rs : List Row, q = (rowsD rs, .fresh) ∧ rs.length ≤ 40 ∧ ∀ r ∈ rs, RowOf ms r := by
  have sl := sizeLine_eq
  rw [run_has (np := 2) (n := 7) (body := b__law_many_rows) rfl]
  unfold b__law_many_rows
  rw [exs_cons]
  simp [startS]
  refine sure_bnd (f_take (by decide) (by decide)) fun r hr => ?_
  obtain ⟨v, rfl, hv⟩ := hr
  simp
  rw [exs_cons]
  by_cases h0 : v = 0
  · subst h0
    simp [exs_cons]
    refine sure_bnd (lc_drawn rowD (P := RowOf ms) (m := 31) (by decide) rfl ?_ fun j => ?_) fun r hr => ?_
    · simp
      refine sure_bnd (f_take (by decide) (by decide)) fun r hr => ?_
      obtain ⟨w, rfl, hw⟩ := hr
      simp
      exact sure_ret ⟨11 + w, by simp, by omega⟩
    · simp [turnM, wipeS, put1, isOwn]
      refine sure_bnd (f_rule hm (by omega)) fun r hr => ?_
      obtain ⟨r, hr, rfl⟩ := hr
      simp
      exact sure_ret ⟨r.1, r.2, rfl, hr⟩
    · obtain ⟨rs, rfl, h1, h2⟩ := hr
      simp
      exact sure_ret ⟨rs, rfl, by omega, fun a b hb => h2 (a, b) hb⟩
  · simp [h0]
    rw [exs_cons]
    by_cases h1 : v = 1
    · subst h1
      have lc : evE (runF Γ (k + 5)) (.lc (.tup [5, 6]) [5, 6] (.zip (.var 1) (.sli (.var 1) (.yes (.con (.int 1))) (.no))) (.no) (.tup (.cons (.tup (.cons (.var 5) (.nil))) (.cons (.tup (.cons (.var 6) (.nil))) (.nil))))) [.val .bag, .val (tD ms), .val (.int 1), .no, .no, .no, .no] = M.ret (.lst (((ms.zip (ms.drop 1)).map fun p => (([p.1], [p.2]) : Row)).map rowD), .fresh) := by
        rw [List.map_map]
        refine ev_lcA (fun p : Str × Str => D.tup [.str p.1, .str p.2]) (fun p => rowD ([p.1], [p.2])) (ms.zip (ms.drop 1)) rfl ?_ fun p hp => ?_
        · have z := zip_strs ms ms.tail
          rw [List.map_tail] at z
          simp [z]
        · simp [turnM, puts, put1, wipeS, isOwn]
          rfl
      have ad : ∀ xs : List Row, xs.length ≤ 3 → binD .add (.lst (((ms.zip (ms.drop 1)).map fun p => (([p.1], [p.2]) : Row)).map rowD).reverse) (rowsD xs) = some (.lst ((((ms.zip (ms.drop 1)).map fun p => (([p.1], [p.2]) : Row)).reverse ++ xs).map rowD), .fresh) := fun xs hx => by
        have z := add_lst (xs := (((ms.zip (ms.drop 1)).map fun p => (([p.1], [p.2]) : Row)).map rowD).reverse) (ys := xs.map rowD) (by
          rw [List.length_reverse, List.length_map, List.length_map, List.length_zip, List.length_map]
          omega)
        rw [z, ← List.map_reverse, ← List.map_append]
      have hz : ∀ r ∈ ((ms.zip (ms.drop 1)).map fun p => (([p.1], [p.2]) : Row)), RowOf ms r := fun r hr => by
        obtain ⟨p, hp, rfl⟩ := List.mem_map.mp hr
        have := List.of_mem_zip hp
        exact ⟨List.singleton_sublist.mpr this.1, List.singleton_sublist.mpr (List.mem_of_mem_drop this.2)⟩
      have lz : ((ms.zip (ms.drop 1)).map fun p => (([p.1], [p.2]) : Row)).length ≤ 8 := by
        rw [List.length_map, List.length_zip]
        omega
      simp
      rw [exs_cons, ex_set, lc]
      generalize ((ms.zip (ms.drop 1)).map fun p => (([p.1], [p.2]) : Row)) = ch at *
      simp only [ret_bnd, slot_valf, nextM_nx, List.set_cons_succ, List.set_cons_zero]
      rw [exs_cons]
      simp [-List.map_reverse]
      refine sure_bnd (f_some_rows (n := 3) hm (by omega) (by decide)) fun q hq => ?_
      obtain ⟨rs, rfl, n1, n2⟩ := hq
      simp [ad rs n1, -List.map_reverse, -List.map_append]
      exact sure_ret ⟨ch.reverse ++ rs, rfl, by rw [List.length_append, List.length_reverse]; omega, fun a b hb => by
        rcases List.mem_append.mp hb with hb | hb
        · exact hz _ (List.mem_reverse.mp hb)
        · exact n2 _ hb⟩
    · have h1' : (v : Int) ≠ 1 := by omega
      simp [h1, h1']
      rw [exs_cons]
      simp
      refine sure_bnd (f_some_rows (n := 10) hm (by omega) (by decide)) fun q hq => ?_
      obtain ⟨rs, rfl, n1, n2⟩ := hq
      simp
      exact sure_ret ⟨rs, rfl, by omega, fun a b hb => n2 (a, b) hb⟩
end Ev
set_option Elab.async false
set_option linter.all false
set_option autoImplicit false
set_option maxRecDepth 100000
/-! PL15: the closing and what follows, asked by def; the law's own check of one walk. -/
namespace Ev
open PySem M
variable {Γ : Fn → Option Fd} {k : Nat}
def fineI (i : Nat) : Bool := (PyData.int (i : Int)).intsShort 13 && (PyData.int (i : Int)).showable && decide ((PyData.int (i : Int)).depth ≤ 0) && decide ((PyData.int (i : Int)).weight ≤ 20)
theorem fineI_all : ∀ i : Fin 200, fineI i.val = true := by decide +kernel
theorem fine_int {i : Nat} (h : i < 200) : Fine 0 20 (.int (i : Int)) := by
  have q := fineI_all ⟨i, h⟩
  unfold fineI at q
  simp only [Bool.and_eq_true, decide_eq_true_eq] at q
  exact ⟨.int (i : Int), rfl, rfl, q.1.1.1, q.1.1.2, q.1.2, q.2⟩
theorem fine_stD {ms : List Str} (hm : Lot ms) (hl : ms.length ≤ 100) {q : Nat × List Str} (hi : q.1 < 200) (hq : q.2.Sublist ms) : Fine 2 2000 (stD q) := fine_tup (k := 1) (n := 900) (fun d hd => by
  simp only [List.mem_cons, List.not_mem_nil, or_false] at hd
  rcases hd with rfl | rfl
  · exact (fine_int hi).mono (by decide) (by decide)
  · exact fine_tD (lot_sub hm hq) (by have := hq.length_le; omega)) (by simp)
theorem f_closingF [Has Γ "lot_of" fd_lot_of] [Has Γ "joined" fd_joined] [Has Γ "within" fd_within] [Has Γ "breaks" fd_breaks] [HasM Γ 0 "broken_by" fd_Rules_broken_by] [HasM Γ 0 "closing" fd_Rules_closing] [Has Γ "closing" fd_closing] {ms : List Str} (hm : Lot ms) (hl : ms.length ≤ 100) {rs : List Row} (hb : ∀ r ∈ rs, RowOf ms r) {l : List Str} (sl : l.Sublist ms) :
    ∃ c, c.Sublist ms ∧ IsClo rs l c ∧ runF Γ (k + 5) (.f "closing") [rulesD ms rs, tD l] = M.ret (tD c, .clean) := by
  obtain ⟨c, sc, ic, e⟩ := f_closing (Γ := Γ) (k := k) hm hl hb sl
  refine ⟨c, sc, ic, ?_⟩
  unfold rulesD at e
  rw [run_has (np := 2) (n := 2) (body := b_closing) rfl]
  simp [b_closing, exs_cons, startS, rulesD]
  rw [meth_at (by rfl)]
  simp [e]
theorem f_followsF [Has Γ "lot_of" fd_lot_of] [Has Γ "joined" fd_joined] [Has Γ "within" fd_within] [Has Γ "breaks" fd_breaks] [HasM Γ 0 "broken_by" fd_Rules_broken_by] [HasM Γ 0 "closing" fd_Rules_closing] [Has Γ "follows" fd_follows] {ms : List Str} (hm : Lot ms) (hl : ms.length ≤ 100) {rs : List Row} (hb : ∀ r ∈ rs, RowOf ms r) {r : Row} (hr : RowOf ms r) :
    ∃ c, c.Sublist ms ∧ IsClo rs r.1 c ∧ runF Γ (k + 5) (.f "follows") [rulesD ms rs, rowD r] = M.ret (.bl (sub r.2 c), .clean) := by
  obtain ⟨c, sc, ic, e⟩ := f_closing (Γ := Γ) (k := k) hm hl hb hr.a
  refine ⟨c, sc, ic, ?_⟩
  have q := f_within (Γ := Γ) (k := k + 3) r.2 c
  unfold rulesD at e
  rw [run_has (np := 2) (n := 2) (body := b_follows) rfl]
  simp [b_follows, exs_cons, startS, rulesD]
  rw [meth_at (by rfl)]
  simp [e, q]
theorem idxR_lt {rs : List Row} {p : Nat × Row} (h : p ∈ idxR 0 rs) : p.1 < rs.length := by
  obtain ⟨j, h1, h2⟩ := idxR_at h
  have := (List.getElem?_eq_some_iff.mp h2).1
  omega
theorem wPass_ix {n : Nat} : ∀ (ps : List (Nat × Row)) (s : WSt), (∀ p ∈ ps, p.1 < n) → (∀ q ∈ s.2, q.1 < n) → ∀ q ∈ (wPass ps s).2, q.1 < n
  | [], _, _, h => h
  | p :: ps, s, hp, h => wPass_ix ps (wStep s p) (fun q hq => hp q (List.mem_cons_of_mem _ hq)) fun q hq => by
    unfold wStep at hq
    split at hq
    · rcases List.mem_append.mp hq with hq | hq
      · exact h q hq
      · rw [List.mem_singleton.mp hq]
        exact hp p (List.mem_cons_self ..)
    · exact h q hq
theorem wIter_ix {n : Nat} (ps : List (Nat × Row)) (hp : ∀ p ∈ ps, p.1 < n) : ∀ (m : Nat) (s : WSt), (∀ q ∈ s.2, q.1 < n) → ∀ q ∈ (wIter ps m s).2, q.1 < n
  | 0, _, h => h
  | m + 1, s, h => wIter_ix ps hp m _ (wPass_ix ps s hp h)
def riA : Ss := .cons (.set 5 true (.call "gained" (.cons (.var 0) (.cons (.var 2) (.nil))))) <|
.cons (.ifs (.not (.call "_law_alike" (.cons (.var 5) (.cons (.var 3) (.nil)))))
(.cons (.ret (.con (.bl false))) .nil)
(.nil)) <|
.cons (.mut .append 5 (.cons (.con .non) (.nil))) .nil
def riB : Ss := .cons (.set 6 true (.call "broken" (.cons (.var 0) (.cons (.var 2) (.nil))))) <|
.cons (.ifs (.not (.call "_law_alike" (.cons (.var 6) (.cons (.lc (.one 7) [7] (.rng (.blt .len (.var 1))) (.yes (.call "_law_breaks" (.cons (.var 2) (.cons (.idx (.var 1) (.var 7)) (.nil))))) (.var 7)) (.nil)))))
(.cons (.ret (.con (.bl false))) .nil)
(.nil)) <|
.cons (.mut .append 6 (.cons (.con (.int 0)) (.nil))) .nil
theorem at_last {α : Type} {xs : List α} {x : α} (h : xs.getLast? = some x) : L2.atI xs (-1) = some x := by
  have p : 0 < xs.length := by
    cases xs with
    | nil => cases h
    | cons _ _ => simp
  unfold L2.atI
  rw [ixN_last p]
  rw [List.getLast?_eq_getElem?] at h
  exact h
theorem f_right [Has Γ "lot_of" fd_lot_of] [Has Γ "joined" fd_joined] [Has Γ "within" fd_within] [Has Γ "breaks" fd_breaks] [HasM Γ 0 "rows" fd_Rules_rows] [HasM Γ 0 "broken_by" fd_Rules_broken_by] [HasM Γ 0 "closing" fd_Rules_closing] [Has Γ "closing" fd_closing] [Has Γ "gained" fd_gained] [Has Γ "broken" fd_broken] [Has Γ "_law_alike" fd__law_alike] [Has Γ "_law_within" fd__law_within] [Has Γ "_law_breaks" fd__law_breaks] [Has Γ "_law_joined" fd__law_joined] [Has Γ "_law_walk" fd__law_walk] [Has Γ "_law_right" fd__law_right] {ms : List Str} (hm : Lot ms) (hl : ms.length ≤ 100) {rs : List Row} (hr : ∀ r ∈ rs, RowOf ms r) (hn : rs.length ≤ 100) {l : List Str} (sl : l.Sublist ms) :
    runF Γ (k + 6) (.f "_law_right") [rulesD ms rs, rowsD rs, tD l] = M.ret (.bl true, .clean) := by
  have szl := sizeLine_eq
  have wk := f_walk (Γ := Γ) (k := k + 2) hm hl hr hn sl
  have ga := f_gained (Γ := Γ) (k := k + 1) hm hl hr hn sl
  have br := f_broken (Γ := Γ) (k := k + 2) ms rs l
  obtain ⟨c, sc, ic, cl⟩ := f_closingF (Γ := Γ) (k := k) hm hl hr sl
  have wo : WOk ms l rs (walkL rs l) := wok_iter hm.asc hr (rs.length + 1) (l, []) (wok_start rs sl)
  have ec : (walkL rs l).1 = c := (wok_clo wo (walkL_stable rs l)).uniq ic (asc_sub wo.sb hm.asc) (asc_sub sc hm.asc)
  have cnt : (walkL rs l).2.length ≤ 100 := by
    have := iter_count (ps := idxR 0 rs) (rs.length + 1) (l, [])
    rw [idxR_len] at this
    have e : (walkL rs l).2.length ≤ 0 + rs.length := this
    omega
  have ix : ∀ q ∈ (walkL rs l).2, q.1 < rs.length := wIter_ix (idxR 0 rs) (fun p hp => idxR_lt hp) (rs.length + 1) (l, []) (fun _ h => nomatch h)
  have lots := wo.lots
  have last := wo.last
  rw [ec] at last
  generalize (walkL rs l).2 = ws at *
  have aw : Al (.lst (ws.map stD)) := al_fine (j := 3) (n := 300000) (fine_lst (k := 2) (n := 2000) (fun d hd => by
    obtain ⟨q, hq, rfl⟩ := List.mem_map.mp hd
    exact fine_stD hm hl (by have := ix q hq; omega) (lots q hq)) (by rw [List.length_map]; omega)) (by decide) (by decide) rfl
  have ab : Al (.lst (((idxR 0 rs).filter fun p => brk l p.2).map fun p => .int (p.1 : Int))) := al_fine (j := 1) (n := 3000) (fine_lst (k := 0) (n := 20) (fun d hd => by
    obtain ⟨q, hq, rfl⟩ := List.mem_map.mp hd
    have := idxR_lt (List.mem_filter.mp hq).1
    exact fine_int (by omega)) (by
      rw [List.length_map]
      have := List.length_filter_le (fun p : Nat × Row => brk l p.2) (idxR 0 rs)
      rw [idxR_len] at this
      omega)) (by decide) (by decide) rfl
  have ac : Al (tD c) := al_fine (j := 1) (n := 1000) (fine_tD (lot_sub hm sc) (by have := sc.length_le; omega)) (by decide) (by decide) rfl
  have f1 := f_alikeA (Γ := Γ) (k := k + 4) aw
  have f2 := f_alikeA (Γ := Γ) (k := k + 4) ab
  have f3 := f_alikeA (Γ := Γ) (k := k + 4) ac
  have lb : ∀ s3 s4 s5 s6 : Slot, evE (runF Γ (k + 5)) (.lc (.one 7) [7] (.rng (.blt .len (.var 1))) (.yes (.call "_law_breaks" (.cons (.var 2) (.cons (.idx (.var 1) (.var 7)) (.nil))))) (.var 7)) [.val (rulesD ms rs), .val (rowsD rs), .val (tD l), s3, s4, s5, s6, .no, .no] = M.ret (.lst (((idxR 0 rs).filter fun p => brk l p.2).map fun p => .int (p.1 : Int)), .fresh) := fun s3 s4 s5 s6 =>
    ev_lcP (fun p : Nat × Row => D.int (p.1 : Int)) (fun p => brk l p.2) (fun p => .int (p.1 : Int)) (idxR 0 rs) rfl (by
      rw [it_rng (n := rs.length) (kd := .clean) (by simp) (by omega), idxR_ints, List.range_eq_range']) fun p hp => by
      obtain ⟨j, h1, h2⟩ := idxR_at hp
      rw [Nat.zero_add] at h1
      have hr' := hr _ (idxR_mem hp)
      have q := f_breaksL (Γ := Γ) (k := k + 3) l p.2 (lot_sub hm hr'.a).ok (lot_sub hm hr'.b).ok
      have at_ : L2.atI (rs.map rowD) (p.1 : Int) = some (rowD p.2) := L2.atI_nat (by rw [List.getElem?_map, h1, h2]; rfl)
      simp [turnM, put1, wipeS, isOwn, at_, q]
      cases brk l p.2 <;> simp
  have tA : ∀ (x : D) (s5 s6 : Slot), exSs (runF Γ (k + 5)) riA [.val (rulesD ms rs), .val (rowsD rs), .val (tD l), .val (.lst (ws.map stD)), .val x, s5, s6, .no, .no] = M.ret (.nx [.val (rulesD ms rs), .val (rowsD rs), .val (tD l), .val (.lst (ws.map stD)), .val x, .own (.lst (ws.map stD ++ [.non])), s6, .no, .no]) := fun x s5 s6 => by
    unfold riA
    rw [exs_cons]
    simp [ga]
    rw [exs_cons]
    simp [f1]
    rw [exs_cons]
    have m : mutD .append (.lst (ws.map stD)) [.non] = some (.lst (ws.map stD ++ [.non])) := by
      show (if (ws.map stD).length < sizeLine then _ else _) = _
      rw [if_pos (by rw [List.length_map]; omega)]
    simp [m]
  have tB : ∀ (x : D) (s5 s6 : Slot), ∃ s6', exSs (runF Γ (k + 5)) riB [.val (rulesD ms rs), .val (rowsD rs), .val (tD l), .val (.lst (ws.map stD)), .val x, s5, s6, .no, .no] = M.ret (.nx [.val (rulesD ms rs), .val (rowsD rs), .val (tD l), .val (.lst (ws.map stD)), .val x, s5, s6', .no, .no]) := fun x s5 s6 => by
    refine ⟨.own (.lst ((((idxR 0 rs).filter fun p => brk l p.2).map fun p => .int (p.1 : Int)) ++ [.int 0])), ?_⟩
    have ln : (((idxR 0 rs).filter fun p => brk l p.2).map fun p => D.int (p.1 : Int)).length ≤ 100 := by
      rw [List.length_map]
      have := List.length_filter_le (fun p : Nat × Row => brk l p.2) (idxR 0 rs)
      rw [idxR_len] at this
      omega
    unfold riB
    rw [exs_cons]
    simp only [ex_set, ev_call, evEs_cons, evEs_nil, ev_var, varM_eq]
    simp [br, -List.map_map]
    have lb' := lb (.val (.lst (ws.map stD))) (.val x) s5 (.own (.lst (((idxR 0 rs).filter fun p => brk l p.2).map fun p => .int (p.1 : Int))))
    rw [exs_cons]
    simp [f2, lb']
    rw [exs_cons]
    generalize (((idxR 0 rs).filter fun p => brk l p.2).map fun p => D.int (p.1 : Int)) = zs at *
    have m : mutD .append (.lst zs) [.int 0] = some (.lst (zs ++ [.int 0])) := by
      show (if zs.length < sizeLine then _ else _) = _
      rw [if_pos (by omega)]
    simp [m]
  have lp : ∀ s4 s5 s6 : Slot, evE (runF Γ (k + 5)) (.lc (.one 8) [8] (.seq (.var 3)) (.no) (.idx (.var 8) (.con (.int 1)))) [.val (rulesD ms rs), .val (rowsD rs), .val (tD l), .val (.lst (ws.map stD)), s4, s5, s6, .no, .no] = M.ret (.lst (ws.map fun q => tD q.2), .fresh) := fun s4 s5 s6 =>
    ev_lcA stD (fun q => tD q.2) ws rfl (by simp) fun q hq => by simp [turnM, put1, wipeS, isOwn]
  have at_ : L2.atI (tD l :: ws.map fun q => tD q.2) (-1) = some (tD c) := at_last (by
    have z := congrArg (Option.map tD) last
    rw [← List.getLast?_map, List.map_cons, List.map_map] at z
    exact z)
  have ad : binD .add (.lst [tD l]) (.lst (ws.map fun q => tD q.2)) = some (.lst (tD l :: ws.map fun q => tD q.2), .fresh) := by
    have z := add_lst (xs := [tD l]) (ys := ws.map fun q => tD q.2) (by rw [List.length_map, List.length_singleton]; omega)
    simpa using z
  have l1 : forM (fun x ρ => bnd (opt (put ρ (.one 4) x)) fun ρ' => exSs (runF Γ (k + 5)) riA ρ') [.int 0, .int 1] [.val (rulesD ms rs), .val (rowsD rs), .val (tD l), .val (.lst (ws.map stD)), .no, .no, .no, .no, .no] = M.ret (.nx [.val (rulesD ms rs), .val (rowsD rs), .val (tD l), .val (.lst (ws.map stD)), .val (.int 1), .own (.lst (ws.map stD ++ [.non])), .no, .no, .no]) := by
    simp [forM, put1, isOwn, tA]
  have l2 : ∀ x s5, ∃ s6, forM (fun x ρ => bnd (opt (put ρ (.one 4) x)) fun ρ' => exSs (runF Γ (k + 5)) riB ρ') [.int 0, .int 1] [.val (rulesD ms rs), .val (rowsD rs), .val (tD l), .val (.lst (ws.map stD)), .val x, s5, .no, .no, .no] = M.ret (.nx [.val (rulesD ms rs), .val (rowsD rs), .val (tD l), .val (.lst (ws.map stD)), .val (.int 1), s5, s6, .no, .no]) := fun x s5 => by
    obtain ⟨t1, e1⟩ := tB (.int 0) s5 .no
    obtain ⟨t2, e2⟩ := tB (.int 1) s5 t1
    refine ⟨t2, ?_⟩
    simp [forM, put1, isOwn, e1, e2]
  obtain ⟨s6, l2⟩ := l2 (.int 1) (.own (.lst (ws.map stD ++ [.non])))
  rw [run_has (np := 3) (n := 9) (body := b__law_right) rfl]
  show bnd (exSs (runF Γ (k + 5)) (.cons (.set 3 false (.call "_law_walk" (.cons (.var 1) (.cons (.var 2) (.nil))))) <| .cons (.fors (.one 4) (.rng (.con (.int 2))) riA) <| .cons (.fors (.one 4) (.rng (.con (.int 2))) riB) <| .cons (.retc "_law_alike" (.cons (.call "closing" (.cons (.var 0) (.cons (.var 2) (.nil)))) (.cons (.idx (.bin .add (.lst (.cons (.var 2) (.nil))) (.lc (.one 8) [8] (.seq (.var 3)) (.no) (.idx (.var 8) (.con (.int 1))))) (.neg (.con (.int 1)))) (.nil)))) .nil) _) _ = _
  rw [exs_cons]
  simp [startS, wk]
  rw [exs_cons, ex_fors, it_rng (n := 2) (kd := .clean) (by simp) (by omega), ret_bnd, show (List.range 2).map (fun i : Nat => D.int (i : Int)) = [.int 0, .int 1] from rfl, l1]
  simp only [ret_bnd, nextM_nx]
  rw [exs_cons, ex_fors, it_rng (n := 2) (kd := .clean) (by simp) (by omega), ret_bnd, show (List.range 2).map (fun i : Nat => D.int (i : Int)) = [.int 0, .int 1] from rfl, l2]
  simp only [ret_bnd, nextM_nx]
  rw [exs_cons]
  simp [cl, lp, ad, at_, f3]
end Ev
set_option Elab.async false
set_option linter.all false
set_option autoImplicit false
set_option maxRecDepth 100000
/-! PL24: narrow lots, run: the program's and the law's. -/
namespace Ev
open PySem M
variable {Γ : Fn → Option Fd} {k : Nat} {th : D} {ms : List Str} {f : List Str → List Str}
/-- the defs about closed lots -/
class CC (Γ : Fn → Option Fd) : Prop where
  i1 : Has Γ "lot_of" fd_lot_of
  i2 : Has Γ "joined" fd_joined
  i3 : Has Γ "within" fd_within
  i4 : Has Γ "is_mark" fd_is_mark
  i5 : Has Γ "is_lot" fd_is_lot
  i6 : Has Γ "all_lots" fd_all_lots
  i7 : Has Γ "in_order" fd_in_order
  i8 : Has Γ "is_closed" fd_is_closed
  i9 : Has Γ "closed_lots" fd_closed_lots
  i10 : Has Γ "need_closed" fd_need_closed
  i11 : Has Γ "next_ones" fd_next_ones
section
instance (priority := low) cc1 [h : CC Γ] : Has Γ "lot_of" fd_lot_of := h.i1
instance (priority := low) cc2 [h : CC Γ] : Has Γ "joined" fd_joined := h.i2
instance (priority := low) cc3 [h : CC Γ] : Has Γ "within" fd_within := h.i3
instance (priority := low) cc4 [h : CC Γ] : Has Γ "is_mark" fd_is_mark := h.i4
instance (priority := low) cc5 [h : CC Γ] : Has Γ "is_lot" fd_is_lot := h.i5
instance (priority := low) cc6 [h : CC Γ] : Has Γ "all_lots" fd_all_lots := h.i6
instance (priority := low) cc7 [h : CC Γ] : Has Γ "in_order" fd_in_order := h.i7
instance (priority := low) cc8 [h : CC Γ] : Has Γ "is_closed" fd_is_closed := h.i8
instance (priority := low) cc9 [h : CC Γ] : Has Γ "closed_lots" fd_closed_lots := h.i9
instance (priority := low) cc10 [h : CC Γ] : Has Γ "need_closed" fd_need_closed := h.i10
instance (priority := low) cc11 [h : CC Γ] : Has Γ "next_ones" fd_next_ones := h.i11
end
theorem closedT_len (hl : ms.length ≤ 8) : (closedT ms f).length ≤ 256 := Nat.le_trans (List.length_filter_le _ _) (by rw [allL_length]; exact Nat.le_trans (Nat.pow_le_pow_right (by decide) hl) (by decide))
theorem narrowN_len (cs : List (List Str)) : (narrowN cs).length ≤ cs.length := List.length_filterMap_le _ _
/-- one more of a list of narrow ones -/
def narStep (F : List Str → List (List Str)) (acc : List Row) (l : List Str) : List Row := match oneOf l (F l) with
  | some p => acc ++ [p]
  | none => acc
theorem nar_fold (F : List Str → List (List Str)) : ∀ (cs : List (List Str)) (acc : List Row), cs.foldl (narStep F) acc = acc ++ cs.filterMap fun l => oneOf l (F l)
  | [], acc => by simp
  | l :: r, acc => by
    rw [List.foldl_cons, nar_fold F r, narStep, List.filterMap_cons]
    cases oneOf l (F l) <;> simp
theorem narStep_len (F : List Str → List (List Str)) (acc : List Row) (l : List Str) : (narStep F acc l).length ≤ acc.length + 1 := by
  unfold narStep
  split
  · rw [List.length_append, List.length_singleton]
    exact Nat.le_refl _
  · omega
theorem fm_congr {α β : Type} {F G : α → Option β} : ∀ {xs : List α}, (∀ x ∈ xs, F x = G x) → xs.filterMap F = xs.filterMap G
  | [], _ => rfl
  | x :: xs, h => by
    rw [List.filterMap_cons, List.filterMap_cons, h x (List.mem_cons_self ..), fm_congr fun y hy => h y (List.mem_cons_of_mem _ hy)]
theorem narrow_eq (h : Th Γ th ms f) : ((closedT ms f).filterMap fun l => oneOf l (nextT ms f l)) = narrowN (closedT ms f) := by
  unfold narrowN
  refine fm_congr fun l hl => ?_
  obtain ⟨sl, cl⟩ := mem_closedT.mp hl
  exact next_one h.m h.op sl cl
theorem th_narrow [CC Γ] [Has Γ "narrow" fd_narrow] (h : Th Γ th ms f) (hk : 8 ≤ k) : runF Γ k (.f "narrow") [th] = M.ret (rowsD (narrowN (closedT ms f)), .fresh) := by
  obtain ⟨j, rfl⟩ := Nat.exists_eq_add_of_le' hk
  have hl := h.l
  have cl := closedT_len (f := f) hl
  rw [show j + 8 = (j + 7) + 1 from rfl, run_has (np := 1) (n := 4) (body := b_narrow) rfl]
  unfold b_narrow
  rw [exs_cons]
  simp [startS]
  rw [loop_fold (β := List Row × Slot × Slot) tD (fun b => [.val th, .own (rowsD b.1), b.2.1, b.2.2]) (fun b l => (narStep (nextT ms f) b.1 l, .val (tD l), .val (tsD (nextT ms f l)))) (fun b r => slotOk b.2.1 = true ∧ b.1.length + r.length ≤ 256 ∧ ∀ l ∈ r, l ∈ closedT ms f) (closedT ms f) ([], .no, .no)]
  · have fd : ∀ (xs : List (List Str)) (b : List Row × Slot × Slot), (xs.foldl (fun (b : List Row × Slot × Slot) l => (narStep (nextT ms f) b.1 l, Slot.val (tD l), Slot.val (tsD (nextT ms f l)))) b).1 = xs.foldl (narStep (nextT ms f)) b.1 := fun xs => by
      induction xs with
      | nil => intro b; rfl
      | cons o r ih => intro b; rw [List.foldl_cons, List.foldl_cons, ih]
    rw [exs_cons]
    simp [fd, nar_fold, narrow_eq h]
  · simp [th_closed_lots h (k := j + 7) (by omega)]
  · rfl
  · exact ⟨rfl, by simpa using cl, fun l hl => hl⟩
  · rintro ⟨acc, s2, s3⟩ l r ⟨g1, g2, g3⟩
    obtain ⟨sl, cl'⟩ := mem_closedT.mp (g3 l (List.mem_cons_self ..))
    dsimp only at g1 g2
    rw [List.length_cons] at g2
    refine ⟨?_, rfl, ?_, fun x hx => g3 x (List.mem_cons_of_mem _ hx)⟩
    · dsimp only
      rw [put_one, put_ok (s := s2) rfl g1]
      simp only [opt_some, ret_bnd]
      rw [exs_cons]
      simp [th_next_ones h (k := j + 7) (by omega) sl cl']
      rw [exs_cons]
      have hs : acc.length < sizeLine := Nat.lt_of_le_of_lt (show acc.length ≤ 256 by omega) (by decide)
      unfold narStep
      match e : nextT ms f l with
      | [] => simp [oneOf]
      | [x] =>
        have at_ : L2.atI [tD x] 0 = some (tD x) := rfl
        simp [oneOf, exs_cons, at_, mutD, hs]
        rw [show rowsD (acc ++ [(l, x)]) = .lst (acc.map rowD ++ [rowD (l, x)]) by simp]
      | x :: y :: r' =>
        have ne : ¬ ((r'.length : Int) + 1 + 1 = 1) := by omega
        simp [oneOf, ne]
    · have := narStep_len (nextT ms f) acc l
      dsimp only
      omega
theorem th_table_of [CC Γ] [TC Γ] [Has Γ "narrow" fd_narrow] [Has Γ "table_of" fd_table_of] (h : Th Γ th ms f) (hk : 9 ≤ k) : runF Γ k (.f "table_of") [th] = M.ret (tableD ms ((narrowN (closedT ms f)).map (·.1)), .fresh) := by
  obtain ⟨j, rfl⟩ := Nat.exists_eq_add_of_le' hk
  have hl := h.l
  have cl := closedT_len (f := f) hl
  have nl := narrowN_len (closedT ms f)
  have ok : TableOk ms ((narrowN (closedT ms f)).map (·.1)) := ⟨h.m, by omega, fun l hl' => by
    obtain ⟨p, hp, rfl⟩ := List.mem_map.mp hl'
    exact (mem_closedT.mp (narrowN_mem hp).1).1, by rw [List.length_map]; omega⟩
  have q := s_Table (Γ := Γ) (k := j + 8) (by omega) ok
  rw [show j + 9 = (j + 8) + 1 from rfl, run_has (np := 1) (n := 3) (body := b_table_of) rfl]
  unfold b_table_of
  rw [exs_cons]
  simp [startS, h.mks (k := j + 8) (by omega)]
  rw [ev_lcA rowD (fun p => tD p.1) (narrowN (closedT ms f)) rfl (by simp [th_narrow h (k := j + 8) (by omega)]) (fun p hp => by
    simp [turnM, puts, put1, wipeS, isOwn])]
  have e : ((narrowN (closedT ms f)).map fun p => tD p.1) = ((narrowN (closedT ms f)).map (·.1)).map tD := by rw [List.map_map]; rfl
  rw [ret_bnd, e, q]
  simp
theorem table_ok (h : Th Γ th ms f) : TableOk ms ((narrowN (closedT ms f)).map (·.1)) := ⟨h.m, by have := h.l; omega, fun l hl' => by
    obtain ⟨p, hp, rfl⟩ := List.mem_map.mp hl'
    exact (mem_closedT.mp (narrowN_mem hp).1).1, by
  have cl := closedT_len (f := f) h.l
  have nl := narrowN_len (closedT ms f)
  rw [List.length_map]
  omega⟩
/-! ### the law's own -/
theorem f_mixedD [Has Γ "_law_take" fd__law_take] [Has Γ "_law_mixed" fd__law_mixed] {α : Type} (g : α → D) (xs : List α) (hl : xs.length ≤ 1000) : Sure (runF Γ (k + 2) (.f "_law_mixed") [.bag, .lst (xs.map g)]) fun r => ∃ ys : List α, ys.Perm xs ∧ r = (.lst (ys.map g), .fresh) := by
  rw [run_has (np := 2) (n := 4) (body := b__law_mixed) rfl]
  show Sure (bnd (exSs (runF Γ (k + 1)) (.cons (.set 2 true (.lst (.nil))) <| .cons (.fors (.one 3) (.seq (.var 1)) mixT) <| .cons (.ret (.var 2)) .nil) _) _) _
  rw [exs_cons]
  simp [startS]
  rw [exs_cons, ex_fors]
  simp
  refine sure_bnd (mix_loop g (.lst (xs.map g)) xs hl) fun l hl' => ?_
  obtain ⟨ρ', rfl, s3, ys, pre, rfl, h3, e, p⟩ := hl'
  rw [List.append_nil] at e
  subst e
  simp [exs_cons]
  exact sure_ret ⟨ys, p, rfl⟩
theorem f_narrowL [Has Γ "_law_within" fd__law_within] [Has Γ "_law_narrow" fd__law_narrow] (hm : Lot ms) {cs : List (List Str)} (hc : ∀ l ∈ cs, l.Sublist ms) (hl : ms.length ≤ 8) (hn : cs.length ≤ 256) (hk : 2 ≤ k) : runF Γ k (.f "_law_narrow") [tsD cs] = M.ret (rowsD (narrowN cs), .fresh) := by
  obtain ⟨j, rfl⟩ := Nat.exists_eq_add_of_le' hk
  have ok : ∀ {l : List Str}, l ∈ cs → OkL l := fun h => ok_sub hm (hc _ h)
  rw [show j + 2 = (j + 1) + 1 from rfl, run_has (np := 1) (n := 7) (body := b__law_narrow) rfl]
  unfold b__law_narrow
  rw [exs_cons]
  simp [startS]
  rw [loop_fold (β := List Row × Slot × Slot × Slot) tD (fun b => [.val (tsD cs), .own (rowsD b.1), b.2.1, b.2.2.1, b.2.2.2, .no, .no]) (fun b l => (narStep (fun l => minsL (aboveB cs l)) b.1 l, .val (tD l), .val (tsD (aboveB cs l)), .val (tsD (minsL (aboveB cs l))))) (fun b r => slotOk b.2.1 = true ∧ b.1.length + r.length ≤ 256 ∧ ∀ l ∈ r, l ∈ cs) cs ([], .no, .no, .no)]
  · have fd : ∀ (xs : List (List Str)) (b : List Row × Slot × Slot × Slot), (xs.foldl (fun (b : List Row × Slot × Slot × Slot) l => (narStep (fun l => minsL (aboveB cs l)) b.1 l, Slot.val (tD l), Slot.val (tsD (aboveB cs l)), Slot.val (tsD (minsL (aboveB cs l))))) b).1 = xs.foldl (narStep (fun l => minsL (aboveB cs l))) b.1 := fun xs => by
      induction xs with
      | nil => intro b; rfl
      | cons o r ih => intro b; rw [List.foldl_cons, List.foldl_cons, ih]
    rw [exs_cons]
    simp [fd, nar_fold, narrowN]
  · simp
  · rfl
  · exact ⟨rfl, by simpa using hn, fun l hl => hl⟩
  · rintro ⟨acc, s2, s3, s4⟩ l r ⟨g1, g2, g3⟩
    have hlc := g3 l (List.mem_cons_self ..)
    dsimp only at g1 g2
    rw [List.length_cons] at g2
    have ab : ∀ {y : List Str}, y ∈ aboveB cs l → y ∈ cs := fun h => (mem_aboveB.mp h).1
    refine ⟨?_, rfl, ?_, fun x hx => g3 x (List.mem_cons_of_mem _ hx)⟩
    · dsimp only
      rw [put_one, put_ok (s := s2) rfl g1]
      simp only [opt_some, ret_bnd]
      rw [exs_cons]
      simp
      rw [ev_lcP tD (fun y => !decide (y = l) && sub l y) tD cs rfl (by simp) (fun y hy => by
        simp [turnM, put1, wipeS, isOwn, eqD_tD (ok hy) (ok hlc), f_withinL (Γ := Γ) (k := j) l y (ok hlc)]
        by_cases e : y = l
        · simp [e]
        · simp [e]
          split <;> rfl)]
      rw [show (cs.filter fun y => !decide (y = l) && sub l y) = aboveB cs l from rfl]
      simp
      rw [exs_cons]
      simp
      rw [ev_lcP tD (fun y => !(aboveB cs l).any fun z => !decide (z = y) && sub z y) tD (aboveB cs l) rfl (by simp) (fun y hy => by
        have fn : Fine 2 (2 ^ 18) (tsD ((aboveB cs l).filter fun z => !decide (z = y) && sub z y)) := fine_tsD (m := 72) (fun z hz => by
          have hz' := hc z (ab (List.mem_filter.mp hz).1)
          exact ⟨lot_sub hm hz', by have := Nat.le_trans hz'.length_le hl; omega⟩) (by
          have h1 := List.length_filter_le (fun z => !decide (z = y) && sub z y) (aboveB cs l)
          have h2 : (aboveB cs l).length ≤ cs.length := List.length_filter_le _ _
          omega)
        have q := eqD_lnil fn (by decide)
        simp [turnM, put1, wipeS, isOwn]
        rw [ev_lcP tD (fun z => !decide (z = y) && sub z y) tD (aboveB cs l) rfl (by simp) (fun z hz => by
          simp [turnM, put1, wipeS, isOwn, eqD_tD (ok (ab hz)) (ok (ab hy)), f_withinL (Γ := Γ) (k := j) z y (ok (ab hz))]
          by_cases e : z = y
          · simp [e]
          · simp [e]
            split <;> rfl)]
        have e9 : (((aboveB cs l).filter fun z => !decide (z = y) && sub z y).map tD).isEmpty = !(aboveB cs l).any fun z => !decide (z = y) && sub z y := by
          rw [List.isEmpty_map, Bool.eq_iff_iff, List.isEmpty_iff, List.filter_eq_nil_iff, Bool.not_eq_true', List.any_eq_false]
        rw [e9] at q
        simp only [ret_bnd, ev_lst, evEs_nil, List.length_nil, q, opt_some, cmp_eq]
        simp
        split <;> rfl)]
      rw [show ((aboveB cs l).filter fun y => !(aboveB cs l).any fun z => !decide (z = y) && sub z y) = minsL (aboveB cs l) from rfl]
      simp
      rw [exs_cons]
      have hs : acc.length < sizeLine := Nat.lt_of_le_of_lt (show acc.length ≤ 256 by omega) (by decide)
      unfold narStep
      dsimp only
      match e : minsL (aboveB cs l) with
      | [] =>
        simp [oneOf]
        rfl
      | [x] =>
        have at_ : L2.atI [tD x] 0 = some (tD x) := rfl
        simp [oneOf, exs_cons, at_, mutD, hs]
        rw [show rowsD (acc ++ [(l, x)]) = .lst (acc.map rowD ++ [rowD (l, x)]) by simp]
        rfl
      | x :: y :: r' =>
        have ne : ¬ ((r'.length : Int) + 1 + 1 = 1) := by omega
        simp [oneOf, ne]
        rfl
    · have := narStep_len (fun l => minsL (aboveB cs l)) acc l
      dsimp only at this ⊢
      omega
theorem f_sharedL [Has Γ "_law_within" fd__law_within] [Has Γ "_law_shared" fd__law_shared] {ls : List (List Str)} {l : List Str} (hl : OkL l) (hk : 2 ≤ k) : runF Γ k (.f "_law_shared") [tD ms, tsD ls, tD l] = M.ret (tD (tclo ls ms l), .clean) := by
  obtain ⟨j, rfl⟩ := Nat.exists_eq_add_of_le' hk
  rw [show j + 2 = (j + 1) + 1 from rfl, run_has (np := 3) (n := 6) (body := b__law_shared) rfl]
  unfold b__law_shared
  rw [exs_cons]
  simp [startS]
  rw [loop_fold (β := List Str × Slot) tD (fun b => [.val (tD ms), .val (tsD ls), .val (tD l), .val (.lst (b.1.map .str)), b.2, .no]) (fun b o => (if sub l o then b.1.filter (fun x => decide (x ∈ o)) else b.1, .val (tD o))) (fun b _ => slotOk b.2 = true) ls (ms, .no)]
  · have fd : ∀ (ls : List (List Str)) (b : List Str × Slot), (ls.foldl (fun (b : List Str × Slot) o => (if sub l o then b.1.filter (fun x => decide (x ∈ o)) else b.1, Slot.val (tD o))) b).1 = ls.foldl (fun f o => if sub l o then f.filter (fun x => decide (x ∈ o)) else f) b.1 := fun ls => by
      induction ls with
      | nil => intro b; rfl
      | cons o r ih => intro b; rw [List.foldl_cons, List.foldl_cons, ih]
    rw [exs_cons]
    simp [fd, tclo_fold]
  · simp
  · rfl
  · rfl
  · rintro ⟨b1, b2⟩ o r g1
    refine ⟨?_, rfl⟩
    dsimp only at g1 ⊢
    rw [put_one, put_ok (s := b2) rfl g1]
    simp only [opt_some, ret_bnd]
    rw [exs_cons]
    simp [f_withinL (Γ := Γ) (k := j) l o hl]
    cases e : sub l o with
    | false => simp
    | true =>
      simp
      rw [exs_cons]
      simp
      rw [ev_lcP .str (fun x => decide (x ∈ o)) .str b1 rfl (by simp) (fun x hx => by
        simp [turnM, put1, wipeS, isOwn, inD_str]
        split <;> rfl)]
      simp
end Ev
set_option Elab.async false
set_option linter.all false
set_option autoImplicit false
set_option maxRecDepth 100000
/-! PL25: the places of closed lots, tables with one narrow lot less. -/
namespace Ev
open PySem M
variable {Γ : Fn → Option Fd} {k : Nat} {th : D} {ms : List Str} {f : List Str → List Str}
/-! ### the order -/
theorem toks_inj : ∀ {a b : List Str}, PySem.W.keyToksAll (a.map .str) = PySem.W.keyToksAll (b.map .str) → a = b
  | [], [], _ => rfl
  | [], y :: b, h => by
    rw [List.map_nil, List.map_cons, PySem.W.keyToksAll, PySem.W.keyToksAll] at h
    simp at h
  | x :: a, [], h => by
    rw [List.map_nil, List.map_cons, PySem.W.keyToksAll, PySem.W.keyToksAll] at h
    simp at h
  | x :: a, y :: b, h => by
    rw [List.map_cons, List.map_cons, PySem.W.keyToksAll, PySem.W.keyToksAll, PySem.W.keyToks, PySem.W.keyToks] at h
    simp only [List.cons_append, List.nil_append, List.cons.injEq, true_and, Sum.inr.injEq] at h
    rw [PySem.W.str_of_cps h.1, toks_inj h.2]
theorem ltL_total {a b : List Str} (h1 : ltL a b = false) (h2 : ltL b a = false) : a = b := by
  rw [← dataLt_rk] at h1 h2
  unfold PySem.W.dataLt at h1 h2
  have e := PyProof.Rows.lex_total _ _ h1 h2
  unfold rk at e
  simp only [PySem.W.keyToks, PySem.W.keyToksAll, List.cons_append, List.nil_append, List.cons.injEq, true_and] at e
  exact toks_inj (List.append_cancel_right e.2)
theorem ltL_irrefl (a : List Str) : ltL a a = false := by
  rw [← dataLt_rk]
  exact PyProof.Rows.lex_irrefl _
theorem ltL_len {a b : List Str} (h : a.length < b.length) : ltL a b = true := by
  unfold ltL
  rw [decide_eq_true h]
  rfl
theorem closedT_le : (closedT ms f).Pairwise fun l m => ltL m l = false := (sortL_le (grow ms)).filter _
theorem place_lt (hm : Asc ms) {i j : Nat} (hi : i < (closedT ms f).length) (hj : j < (closedT ms f).length) : ltL (closedT ms f)[i] (closedT ms f)[j] = decide (i < j) := by
  have pw := List.pairwise_iff_getElem.mp (closedT_le (ms := ms) (f := f))
  have nd := List.pairwise_iff_getElem.mp (nodup_closedT (f := f) hm)
  rcases Nat.lt_trichotomy i j with h | h | h
  · rw [decide_eq_true h]
    cases e : ltL (closedT ms f)[i] (closedT ms f)[j] with
    | true => rfl
    | false => exact absurd (ltL_total e (pw i j hi hj h)) (nd i j hi hj h)
  · subst h
    rw [ltL_irrefl, decide_eq_false (by omega)]
  · rw [pw j i hj hi h, decide_eq_false (by omega)]
theorem place_inj (hm : Asc ms) {i j : Nat} (hi : i < (closedT ms f).length) (hj : j < (closedT ms f).length) (e : (closedT ms f)[i] = (closedT ms f)[j]) : i = j := by
  have nd := List.pairwise_iff_getElem.mp (nodup_closedT (f := f) hm)
  rcases Nat.lt_trichotomy i j with h | h | h
  · exact absurd e (nd i j hi hj h)
  · exact h
  · exact absurd e.symm (nd j i hj hi h)
theorem top_closed (hm : Asc ms) (op : ClOp ms f) : ms ∈ closedT ms f := mem_closedT.mpr ⟨List.Sublist.refl _, asc_ext (asc_sub (op.sb ms (List.Sublist.refl _)) hm) hm fun x => ⟨fun h => (op.sb ms (List.Sublist.refl _)).subset h, op.inc ms (List.Sublist.refl _) x⟩⟩
theorem last_at (hm : Asc ms) (op : ClOp ms f) : ∃ h : (closedT ms f).length - 1 < (closedT ms f).length, (closedT ms f)[(closedT ms f).length - 1] = ms := by
  obtain ⟨j, hj, e⟩ := List.getElem_of_mem (top_closed hm op)
  have h : (closedT ms f).length - 1 < (closedT ms f).length := by omega
  refine ⟨h, Classical.byContradiction fun ne => ?_⟩
  have sl := (mem_closedT.mp (List.getElem_mem h)).1
  have len : (closedT ms f)[(closedT ms f).length - 1].length < ms.length := Nat.lt_of_not_le fun z => ne (sl.eq_of_length_le z)
  have := place_lt hm h hj
  rw [e, ltL_len len] at this
  have := of_decide_eq_true this.symm
  omega
theorem first_at (hm : Asc ms) (op : ClOp ms f) : ∃ h : 0 < (closedT ms f).length, (closedT ms f)[0] = f [] := by
  have c0 : f [] ∈ closedT ms f := mem_closedT.mpr ⟨op.sb _ (List.nil_sublist _), op.idem _ (List.nil_sublist _)⟩
  obtain ⟨j, hj, e⟩ := List.getElem_of_mem c0
  have h : 0 < (closedT ms f).length := by omega
  refine ⟨h, Classical.byContradiction fun ne => ?_⟩
  obtain ⟨sl, cl⟩ := mem_closedT.mp (List.getElem_mem h)
  have sb : (f []).Sublist (closedT ms f)[0] := asc_sublist (asc_sub (op.sb _ (List.nil_sublist _)) hm) (asc_sub sl hm) fun x hx => by
    rw [← cl]
    exact op.mono [] _ (List.nil_sublist _) sl (fun _ z => nomatch z) x hx
  have len : (f []).length < (closedT ms f)[0].length := Nat.lt_of_not_le fun z => ne (sb.eq_of_length_le z).symm
  have := place_lt hm hj h
  rw [e, ltL_len len] at this
  have := of_decide_eq_true this.symm
  omega
theorem common_closed (hm : Asc ms) (op : ClOp ms f) {a b : List Str} (ha : a ∈ closedT ms f) (hb : b ∈ closedT ms f) : f (a.filter fun x => decide (x ∈ b)) = a.filter fun x => decide (x ∈ b) := by
  obtain ⟨sa, ca⟩ := mem_closedT.mp ha
  obtain ⟨sb, cb⟩ := mem_closedT.mp hb
  have sc : (a.filter fun x => decide (x ∈ b)).Sublist ms := List.filter_sublist.trans sa
  refine asc_ext (asc_sub (op.sb _ sc) hm) (asc_sub sc hm) fun x => ⟨fun hx => ?_, op.inc _ sc x⟩
  rw [List.mem_filter, decide_eq_true_eq]
  refine ⟨?_, ?_⟩
  · rw [← ca]
    exact op.mono _ _ sc sa (fun y hy => (List.mem_filter.mp hy).1) x hx
  · rw [← cb]
    exact op.mono _ _ sc sb (fun y hy => by simpa using (List.mem_filter.mp hy).2) x hx
/-! ### a narrow lot that lacks -/
theorem ex_min : ∀ {xs : List (List Str)}, xs ≠ [] → ∃ y ∈ xs, ∀ z ∈ xs, y.length ≤ z.length
  | [], h => absurd rfl h
  | [x], _ => ⟨x, by simp, fun z hz => by rw [List.mem_singleton.mp hz]; exact Nat.le_refl _⟩
  | x :: y :: r, _ => by
    obtain ⟨w, w1, w2⟩ := ex_min (xs := y :: r) (by simp)
    by_cases h : w.length ≤ x.length
    · refine ⟨w, List.mem_cons_of_mem _ w1, fun z hz => ?_⟩
      rcases List.mem_cons.mp hz with rfl | hz
      · exact h
      · exact w2 z hz
    · refine ⟨x, List.mem_cons_self .., fun z hz => ?_⟩
      rcases List.mem_cons.mp hz with rfl | hz
      · exact Nat.le_refl _
      · have := w2 z hz
        omega
/-- the only next one is in all lots above -/
theorem next_in (hm : Asc ms) {cs : List (List Str)} (hc : ∀ l ∈ cs, l.Sublist ms) {p : Row} (hp : p ∈ narrowN cs) {o : List Str} (ho : o ∈ aboveB cs p.1) : sub p.2 o = true := by
  obtain ⟨l, h1, h2⟩ := List.mem_filterMap.mp hp
  obtain ⟨rfl, e⟩ := oneOf_some.mp h2
  have ne : (aboveB cs p.1).filter (fun z => sub z o) ≠ [] := fun z => by
    have := List.filter_eq_nil_iff.mp z o ho
    exact this (sub_iff.mpr fun _ h => h)
  obtain ⟨y, y1, y2⟩ := ex_min ne
  obtain ⟨y3, y4⟩ := List.mem_filter.mp y1
  have asc : ∀ {z : List Str}, z ∈ aboveB cs p.1 → Asc z := fun h => asc_sub (hc _ (mem_aboveB.mp h).1) hm
  have ym : y ∈ minsL (aboveB cs p.1) := mem_minsL.mpr ⟨y3, fun z hz s => by
    have := y2 z (List.mem_filter.mpr ⟨hz, sub_iff.mpr fun x hx => sub_iff.mp y4 x (sub_iff.mp s x hx)⟩)
    exact (asc_sublist (asc hz) (asc y3) (sub_iff.mp s)).eq_of_length_le this⟩
  rw [e, List.mem_singleton] at ym
  rw [← ym]
  exact y4
theorem lack_one (hm : Lot ms) (op : ClOp ms f) {p : Row} (hp : p ∈ narrowN (closedT ms f)) {xs : List (List Str)} (hx : ∀ o ∈ xs, o ∈ closedT ms f) (hn : p.1 ∉ xs) : sub p.2 (tclo xs ms p.1) = true ∧ tclo xs ms p.1 ≠ p.1 := by
  have hc : ∀ l ∈ closedT ms f, l.Sublist ms := fun l h => (mem_closedT.mp h).1
  have pm : p.2 ∈ aboveB (closedT ms f) p.1 := by
    obtain ⟨l, h1, h2⟩ := List.mem_filterMap.mp hp
    obtain ⟨rfl, e⟩ := oneOf_some.mp h2
    have : p.2 ∈ minsL (aboveB (closedT ms f) p.1) := by rw [e]; exact List.mem_singleton.mpr rfl
    exact (mem_minsL.mp this).1
  obtain ⟨q1, q2, q3⟩ := mem_aboveB.mp pm
  have s1 : sub p.2 (tclo xs ms p.1) = true := sub_iff.mpr fun x hx' => mem_tclo.mpr ⟨(hc _ q1).subset hx', fun o ho im => by
    refine sub_iff.mp (next_in hm.asc hc hp (mem_aboveB.mpr ⟨hx o ho, fun e => hn (e ▸ ho), sub_iff.mpr im⟩)) x hx'⟩
  refine ⟨s1, fun e => q2 ?_⟩
  rw [e] at s1
  exact sub_anti (asc_sub (hc _ q1) hm.asc) (asc_sub (hc _ (narrowN_mem hp).1) hm.asc) s1 q3
/-- closed lots with all narrow ones among them -/
theorem tclo_wide (hm : Lot ms) (op : ClOp ms f) {xs : List (List Str)} (hx : ∀ o ∈ xs, o ∈ closedT ms f) (hn : ∀ p ∈ narrowN (closedT ms f), p.1 ∈ xs) {l : List Str} (sl : l.Sublist ms) : tclo xs ms l = f l := by
  rw [← narrow_table hm op sl]
  refine asc_ext (asc_sub tclo_sub hm.asc) (asc_sub tclo_sub hm.asc) fun x => ⟨fun h => ?_, fun h => ?_⟩
  · obtain ⟨h1, h2⟩ := mem_tclo.mp h
    refine mem_tclo.mpr ⟨h1, fun o ho im => ?_⟩
    obtain ⟨p, hp, rfl⟩ := List.mem_map.mp ho
    exact h2 _ (hn p hp) im
  · rw [narrow_table hm op sl] at h
    refine mem_tclo.mpr ⟨(op.sb l sl).subset h, fun o ho im => ?_⟩
    obtain ⟨so, co⟩ := mem_closedT.mp (hx o ho)
    rw [← co]
    exact op.mono l o sl so im x h
theorem narrowN_nodup (hm : Asc ms) : ((narrowN (closedT ms f)).map (·.1)).Nodup := by
  have go : ∀ {cs : List (List Str)} (G : List Str → List (List Str)), cs.Nodup → ((cs.filterMap fun l => oneOf l (G l)).map (·.1)).Sublist cs := fun {cs} G => by
    induction cs with
    | nil => intro _; simp
    | cons l r ih =>
      intro h
      have := ih (List.nodup_cons.mp h).2
      rw [List.filterMap_cons]
      cases e : oneOf l (G l) with
      | none => exact this.cons _
      | some p =>
        dsimp only
        rw [List.map_cons, (oneOf_some.mp e).1]
        exact this.cons₂ _
  exact (go _ (nodup_closedT hm)).nodup (nodup_closedT hm)
/-! ### the defs -/
theorem s_is_int [Has Γ "is_integer" fd_is_integer] (hk : 1 ≤ k) {i : Int} : runF Γ k (.f "is_integer") [.int i] = M.ret (.bl true, .clean) := by
  obtain ⟨j, rfl⟩ := Nat.exists_eq_add_of_le' hk
  rw [run_has (np := 1) (n := 1) (body := b_is_integer) rfl]
  simp [b_is_integer, exs_cons, startS, isiD, isiOne]
theorem th_count [CC Γ] [Has Γ "count" fd_count] (h : Th Γ th ms f) (hk : 6 ≤ k) : runF Γ k (.f "count") [th] = M.ret (.int ((closedT ms f).length : Int), .clean) := by
  obtain ⟨j, rfl⟩ := Nat.exists_eq_add_of_le' hk
  rw [show j + 6 = (j + 5) + 1 from rfl, run_has (np := 1) (n := 1) (body := b_count) rfl]
  simp [b_count, exs_cons, startS, th_closed_lots h (k := j + 5) (by omega)]
theorem th_lot_at [CC Γ] [Has Γ "is_integer" fd_is_integer] [Has Γ "lot_at" fd_lot_at] (h : Th Γ th ms f) (hk : 6 ≤ k) {i : Nat} (hi : i < (closedT ms f).length) : runF Γ k (.f "lot_at") [th, .int (i : Int)] = M.ret (tD (closedT ms f)[i], .clean) := by
  obtain ⟨j, rfl⟩ := Nat.exists_eq_add_of_le' hk
  rw [show j + 6 = (j + 5) + 1 from rfl, run_has (np := 2) (n := 3) (body := b_lot_at) rfl]
  unfold b_lot_at
  have at_ : L2.atI ((closedT ms f).map tD) (i : Int) = some (tD (closedT ms f)[i]) := L2.atI_nat (by rw [List.getElem?_map, List.getElem?_eq_getElem hi]; rfl)
  have c1 : ¬ ((i : Int) < 0) := by omega
  rw [exs_cons]
  simp [startS, th_closed_lots h (k := j + 5) (by omega)]
  rw [exs_cons]
  simp [s_is_int (Γ := Γ) (k := j + 5) (by omega), c1, hi]
  rw [exs_cons]
  simp [at_]
theorem lidx_lots (hm : Lot ms) (hl : ms.length ≤ 8) {i : Nat} (hi : i < (closedT ms f).length) : lidxD (tsD (closedT ms f)) (tD (closedT ms f)[i]) = some (i : Int) := by
  have sl := (mem_closedT.mp (List.getElem_mem hi)).1
  obtain ⟨y, e, fp⟩ := fine_tsD (ls := closedT ms f) (n := (closedT ms f).length * 901) (m := 900) (fun m hm' => ⟨lot_sub hm (mem_closedT.mp hm').1, by have := Nat.le_trans (mem_closedT.mp hm').1.length_le hl; omega⟩) (Nat.le_refl _)
  have s2 := fp.shaped (by decide)
  rw [D.py, pys_lots] at e
  cases e
  unfold lidxD
  dsimp only
  rw [pys_lots, py_tD]
  dsimp only
  rw [if_pos (by rw [shaped_tup (ok_sub hm sl), Bool.and_true]; exact s2)]
  rw [show ((closedT ms f).map fun m => PyData.tuple (m.map .str)).findIdx? (fun z => PyData.eqv z (.tuple ((closedT ms f)[i].map .str))) = some i from ?_]
  · rfl
  · rw [List.findIdx?_eq_some_iff_getElem]
    refine ⟨by rw [List.length_map]; exact hi, ?_, fun j hj => ?_⟩
    · rw [List.getElem_map, eqv_lots, decide_eq_true rfl]
    · rw [List.getElem_map, eqv_lots, decide_eq_true_eq]
      intro z
      have := place_inj hm.asc (by omega) hi z
      omega
theorem th_number_of [CC Γ] [Has Γ "number_of" fd_number_of] (h : Th Γ th ms f) (hk : 7 ≤ k) {i : Nat} (hi : i < (closedT ms f).length) : runF Γ k (.f "number_of") [th, tD (closedT ms f)[i]] = M.ret (.int (i : Int), .clean) := by
  obtain ⟨j, rfl⟩ := Nat.exists_eq_add_of_le' hk
  obtain ⟨sl, cl⟩ := mem_closedT.mp (List.getElem_mem hi)
  rw [show j + 7 = (j + 6) + 1 from rfl, run_has (np := 2) (n := 2) (body := b_number_of) rfl]
  unfold b_number_of
  rw [exs_cons]
  simp [startS, th_need_closed h (k := j + 6) (by omega) sl cl]
  rw [exs_cons]
  simp [th_closed_lots h (k := j + 6) (by omega), lidx_lots h.m h.l hi]
theorem s_twithout [TC Γ] [Has Γ "is_integer" fd_is_integer] [HasM Γ 1 "without" fd_Table_without] (hk : 6 ≤ k) {ls : List (List Str)} {i : Nat} (hi : i < ls.length) (h : TableOk ms ls) : runF Γ k (.m 1 "without") [tableD ms ls, .int (i : Int)] = M.ret (tableD ms (ls.eraseIdx i), .fresh) := by
  obtain ⟨j, rfl⟩ := Nat.exists_eq_add_of_le' hk
  have h2 : TableOk ms (ls.eraseIdx i) := ⟨h.m, h.l, fun x hx => h.s x ((List.eraseIdx_sublist ls i).subset hx), Nat.le_trans (List.eraseIdx_sublist ls i).length_le h.n⟩
  have q2 := s_Table (Γ := Γ) (k := j + 5) (by omega) h2
  have hn := h.n
  have c1 : ¬ ((i : Int) < 0) := by omega
  rw [show j + 6 = (j + 5) + 1 from rfl, run_hasM (np := 2) (n := 2) (body := b_Table_without) rfl]
  unfold b_Table_without
  rw [exs_cons]
  simp [startS, s_is_int (Γ := Γ) (k := j + 5) (by omega), c1, tableD]
  rw [fld_at (j := 1) (d := tsD ls) rfl rfl]
  rw [ret_bnd, len_lst, opt_some, ret_bnd, ltD_int, opt_some, ret_bnd]
  have e2 : ((i : Int) < ((ls.map tD).length : Int)) := by rw [List.length_map]; omega
  simp only [e2, decide_true, Bool.true_eq_false, if_false, ret_bnd, nextM_nx]
  rw [exs_cons]
  simp
  rw [fld_at (j := 0) (d := tD ms) rfl rfl, fld_at (j := 1) (d := tsD ls) rfl rfl]
  simp
  have e1 : sliD (tsD ls) (some ((i : Int) + 1)) none = some (.lst ((ls.map tD).drop (i + 1)), .fresh) := sli_lst_lo (xs := ls.map tD) (t := i + 1)
  have e2 : binD .add (.lst ((ls.map tD).take i)) (.lst ((ls.map tD).drop (i + 1))) = some (tsD (ls.eraseIdx i), .fresh) := by
    rw [add_lst (by
      rw [List.length_take, List.length_map, List.length_drop, List.length_map]
      exact Nat.le_trans (show min i ls.length + (ls.length - (i + 1)) ≤ 1000 by omega) (by decide)), ← List.map_take, ← List.map_drop, ← List.map_append, List.eraseIdx_eq_take_drop_succ]
  rw [e1, opt_some, ret_bnd, e2]
  simp [q2]
  simp [tableD]
theorem f_sameL [CC Γ] [Has Γ "_law_same" fd__law_same] {th' : D} (h : Th Γ th ms f) (h' : Th Γ th' ms f) (hk : 5 ≤ k) : runF Γ k (.f "_law_same") [th, th'] = M.ret (.bl true, .clean) := by
  obtain ⟨j, rfl⟩ := Nat.exists_eq_add_of_le' hk
  have hl := h.l
  rw [show j + 5 = (j + 4) + 1 from rfl, run_has (np := 2) (n := 3) (body := b__law_same) rfl]
  unfold b__law_same
  rw [exs_cons]
  simp [startS]
  have e0 : (allL ms).filter (fun _ => false) = [] := List.filter_eq_nil_iff.mpr fun _ _ => by simp
  rw [ev_lcP tD (fun _ => false) tD (allL ms) rfl (by
    simp [h.mks (k := j + 4) (by omega), s_all_lots (Γ := Γ) (k := j + 4) (by omega) h.m (by omega)]) (fun l hl' => by
    have sl := mem_allL.mp hl'
    simp [turnM, put1, wipeS, isOwn, h.clo (k := j + 4) (by omega) sl, h'.clo (k := j + 4) (by omega) sl, eq_self (h.ok sl)]), e0]
  have en : eqD (.lst []) (.lst []) = some true := rfl
  simp [en]
end Ev
set_option Elab.async false
set_option linter.all false
set_option autoImplicit false
set_option maxRecDepth 100000
/-! P36: the plain law of k36. -/
namespace Ev.T
open PySem M Ev
variable {k : Nat} {th : D} {ms : List Str} {f : List Str → List Str}
instance : CC Γ := ⟨inferInstance, inferInstance, inferInstance, inferInstance, inferInstance, inferInstance, inferInstance, inferInstance, inferInstance, inferInstance, inferInstance⟩
theorem closed6 (hl : ms.length ≤ 6) : (closedT ms f).length ≤ 64 := Nat.le_trans (List.length_filter_le _ _) (by rw [allL_length]; exact Nat.le_trans (Nat.pow_le_pow_right (by decide) hl) (by decide))
def NI (th : D) (cs : List (List Str)) (ρ : List Slot) : Prop := ∃ s3 s4 s5 s6 s7, ρ = [.val .bag, .val th, .val (.int (cs.length : Int)), s3, s4, s5, s6, s7] ∧ slotOk s3 = true
theorem f_numbers (h : Th Γ th ms f) (h6 : ms.length ≤ 6) : Sure (runF Γ (k + 8) (.f "_law_numbers_right") [.bag, th]) fun r => r = (.bl true, .clean) := by
  have hl := h.l
  have n1 := closed6 (f := f) h6
  obtain ⟨l1, e1⟩ := last_at h.m.asc h.op
  obtain ⟨l2, e2⟩ := first_at h.m.asc h.op
  have okc : ∀ {i : Nat} (hi : i < (closedT ms f).length), OkL (closedT ms f)[i] := fun hi => ok_sub h.m (mem_closedT.mp (List.getElem_mem hi)).1
  rw [show k + 8 = (k + 7) + 1 from rfl, run_has (np := 2) (n := 8) (body := b__law_numbers_right) rfl]
  unfold b__law_numbers_right
  refine sure_bnd (P := fun l => l = .rt (.bl true) .clean) ?_ fun l hl => by
    subst hl
    simp
    exact sure_ret rfl
  rw [exs_cons]
  simp [startS, th_count h (k := k + 7) (by omega)]
  refine sure_times (n := 8) (kd := .clean) (NI th (closedT ms f)) (by simp) (by decide) ⟨_, _, _, _, _, rfl, rfl⟩ (fun ρ y _ hh => ?_) fun ρ hh => ?_
  · obtain ⟨s3, s4, s5, s6, s7, rfl, g3⟩ := hh
    rw [put_ok (s := s3) rfl g3]
    simp only [opt_some, ret_bnd]
    rw [exs_cons]
    simp
    refine sure_bnd (f_take (k := k + 6) (n := ((closedT ms f).length : Int)) (by omega) (by omega)) fun r hr => ?_
    obtain ⟨i, rfl, hi⟩ := hr
    simp
    refine sure_bnd (f_take (k := k + 6) (n := ((closedT ms f).length : Int)) (by omega) (by omega)) fun r hr => ?_
    obtain ⟨j, rfl, hj⟩ := hr
    have hi' : i < (closedT ms f).length := by omega
    have hj' : j < (closedT ms f).length := by omega
    have si := (mem_closedT.mp (List.getElem_mem hi')).1
    have sj := (mem_closedT.mp (List.getElem_mem hj')).1
    simp
    rw [exs_cons]
    simp [th_lot_at h (k := k + 7) (by omega) hi', th_lot_at h (k := k + 7) (by omega) hj']
    rw [exs_cons]
    have cb := f_comes_before (Γ := Γ) (k := k + 5) (okc hi') (okc hj')
    rw [place_lt h.m.asc hi' hj'] at cb
    simp [cb, eqD_bl, th_number_of h (k := k + 7) (by omega) hi']
    rw [exs_cons]
    have sc : ((closedT ms f)[i].filter fun x => decide (x ∈ (closedT ms f)[j])).Sublist ms := List.filter_sublist.trans si
    have ic := th_is_closed h (k := k + 7) (by omega) sc
    rw [decide_eq_true (common_closed h.m.asc h.op (List.getElem_mem hi') (List.getElem_mem hj'))] at ic
    have nw : (sub (closedT ms f)[i] (closedT ms f)[j] && decide (j < i)) = false := by
      cases e : sub (closedT ms f)[i] (closedT ms f)[j] with
      | false => rfl
      | true =>
        have sb := asc_sublist (asc_sub si h.m.asc) (asc_sub sj h.m.asc) (sub_iff.mp e)
        rw [Bool.true_and, decide_eq_false_iff_not]
        intro lt
        have p := place_lt (f := f) h.m.asc hj' hi'
        rw [decide_eq_true lt] at p
        by_cases le : (closedT ms f)[j].length ≤ (closedT ms f)[i].length
        · have := place_inj h.m.asc hi' hj' (sb.eq_of_length_le le)
          omega
        · have q := ltL_len (Nat.lt_of_not_le le)
          rw [place_lt h.m.asc hi' hj', decide_eq_true_eq] at q
          omega
    simp [s_common (Γ := Γ) (k := k + 7) (by omega), ic, s_within (Γ := Γ) (k := k + 7) (by omega), and_ret, nw]
    exact sure_ret ⟨_, rfl, _, _, _, _, _, rfl, rfl⟩
  · obtain ⟨s3, s4, s5, s6, s7, rfl, g3⟩ := hh
    have la := th_lot_at h (k := k + 7) (by omega) l1
    rw [e1, show (((closedT ms f).length - 1 : Nat) : Int) = ((closedT ms f).length : Int) - 1 by omega] at la
    have fa : runF Γ (k + 7) (.f "lot_at") [th, .int 0] = M.ret (tD (f []), .clean) := by
      have := th_lot_at h (k := k + 7) (by omega) l2
      rw [e2] at this
      exact this
    have cl : methM (runF Γ (k + 7)) "closing" [0, 1] (th, .clean) ([.tup []], true) = M.ret (tD (f []), .clean) := h.clo (k := k + 7) (by omega) (l := []) (List.nil_sublist _)
    rw [exs_cons]
    simp [la, fa, cl, h.mks (k := k + 7) (by omega), eq_self h.m.ok, eq_self (h.ok (List.nil_sublist ms))]
    exact sure_ret rfl
theorem enm_lots : ∀ (i : Nat) (xs : List (List Str)), enmD i (xs.map tD) = (xs.zipIdx i).map fun p => .tup [.int (p.2 : Int), tD p.1]
  | _, [] => rfl
  | i, x :: xs => by rw [List.map_cons, enmD, enm_lots (i + 1) xs, List.zipIdx_cons, List.map_cons]
def RI (th d2 : D) (ms : List Str) (xs cs N : List (List Str)) (ρ : List Slot) : Prop := ∃ s6 s7 s8 s9, ρ = [.val .bag, .val th, .val d2, .val (tableD ms xs), .val (tsD cs), .val (tableD ms N), s6, s7, s8, s9, .no, .no] ∧ slotOk s6 = true ∧ slotOk s7 = true
theorem meth_twithout {ls : List (List Str)} (hk : 6 ≤ k) {i : Nat} (hi : i < ls.length) (h : TableOk ms ls) {kd : Kd} {bb : Bool} {cs : List Nat} (hc : cs.contains 1 = true) : methM (runF Γ k) "without" cs (tableD ms ls, kd) ([.int (i : Int)], bb) = M.ret (tableD ms (ls.eraseIdx i), Kd.fresh.by (tableD ms (ls.eraseIdx i)) (kd.ok && bb)) := by
  rw [tableD, meth_at hc, ← tableD, s_twithout hk hi h, ret_bnd]
theorem f_right (h : Th Γ th ms f) (h6 : ms.length ≤ 6) : Sure (runF Γ (k + 10) (.f "_law_right") [.bag, th]) fun r => r = (.bl true, .clean) := by
  have hl := h.l
  have n1 := closed6 (f := f) h6
  have n2 := narrowN_len (closedT ms f)
  have tok := table_ok h
  have T3 : Th Γ (tableD ms ((narrowN (closedT ms f)).map (·.1))) ms f := (th_table tok (by omega)).congr fun l sl => narrow_table h.m h.op sl
  have nd := narrowN_nodup (ms := ms) (f := f) h.m.asc
  have nm : ∀ n ∈ (narrowN (closedT ms f)).map (·.1), ∃ p ∈ narrowN (closedT ms f), p.1 = n := fun n hn => by
    obtain ⟨p, hp, e⟩ := List.mem_map.mp hn
    exact ⟨p, hp, e⟩
  have nc : ∀ n ∈ (narrowN (closedT ms f)).map (·.1), n ∈ closedT ms f := fun n hn => by
    obtain ⟨p, hp, rfl⟩ := nm n hn
    exact (narrowN_mem hp).1
  have nl : ((narrowN (closedT ms f)).map (·.1)).length ≤ 64 := by rw [List.length_map]; omega
  have fN : Fine 2 (2 ^ 18) (tsD ((narrowN (closedT ms f)).map (·.1))) := fine_tsD (m := 72) (fun l hl' => ⟨lot_sub h.m (tok.s l hl'), by have := Nat.le_trans (tok.s l hl').length_le hl; omega⟩) (by omega)
  have eN := eqD_self fN (by decide)
  have to := th_table_of h (k := k + 9) (by omega)
  have e0 : ((narrowN (closedT ms f)).map fun p => tD p.1) = ((narrowN (closedT ms f)).map (·.1)).map tD := by rw [List.map_map]; rfl
  have nwn : ∀ p ∈ narrowN (closedT ms f), p.1 ∈ (narrowN (closedT ms f)).map (·.1) := fun p hp => List.mem_map.mpr ⟨p, hp, rfl⟩
  have na : runF Γ (k + 9) (.f "narrow") [th] = M.ret (rowsD (narrowN (closedT ms f)), .fresh) := th_narrow h (k := k + 9) (by omega)
  rw [show k + 10 = (k + 9) + 1 from rfl, run_has (np := 2) (n := 12) (body := b__law_right_v2) rfl]
  unfold b__law_right_v2
  refine sure_bnd (P := fun l => l = .rt (.bl true) .clean) ?_ fun l hl => by
    subst hl
    simp
    exact sure_ret rfl
  rw [exs_cons]
  simp [startS, th_closed_lots h (k := k + 9) (by omega), to]
  rw [exs_cons]
  simp [f_sameL (k := k + 9) h T3 (by omega)]
  rw [ev_lcA rowD (fun p => tD p.1) (narrowN (closedT ms f)) rfl (by simp [na]) (fun p hp => by simp [turnM, puts, put1, wipeS, isOwn]), e0]
  generalize eqNN : (narrowN (closedT ms f)).map (·.1) = N at *
  simp [meth_tlots (Γ := Γ) (k := k + 9) (by omega), eN]
  rw [exs_cons]
  simp
  refine sure_bnd (f_mixedD (k := k + 7) tD (closedT ms f) (by omega)) fun r hr => ?_
  obtain ⟨ys, py, rfl⟩ := hr
  simp
  refine sure_bnd (f_take (k := k + 8) (by decide) (by decide)) fun r hr => ?_
  obtain ⟨v, rfl, hv⟩ := hr
  simp [-List.map_take]
  rw [exs_cons]
  simp [h.mks (k := k + 9) (by omega), meth_tlots (Γ := Γ) (k := k + 9) (by omega), -List.map_take]
  have ly : ys.length = (closedT ms f).length := py.length_eq
  have sz : ∀ {n : Nat}, n ≤ 500 → n ≤ sizeLine := fun hn => thou (by omega)
  have t1 : (ys.take v).length ≤ 64 := by rw [List.length_take]; omega
  have t2 : (N.take 2).length ≤ 2 := by rw [List.length_take]; omega
  have hN2 : sliD (tsD N) none (some 2) = some (tsD (N.take 2), .fresh) := by
    rw [tsD, tsD, List.map_take]
    exact sli_lst_hi (t := 2)
  have ha1 : binD .add (tsD N) (.lst ((ys.map tD).take v)) = some (tsD (N ++ ys.take v), .fresh) := by
    rw [tsD, add_lst (sz (by rw [List.length_map, ← List.map_take, List.length_map]; omega)), tsD, List.map_append, List.map_take]
  have ha2 : binD .add (tsD (N ++ ys.take v)) (tsD (N.take 2)) = some (tsD (N ++ ys.take v ++ N.take 2), .fresh) := by
    rw [tsD, tsD, add_lst (sz (by rw [List.length_map, List.length_map, List.length_append]; omega)), ← List.map_append, ← tsD]
  simp only [ha1, ha2, hN2, opt_some, ret_bnd]
  refine sure_bnd (f_mixedD (k := k + 7) tD (N ++ ys.take v ++ N.take 2) (by rw [List.length_append, List.length_append]; omega)) fun r hr => ?_
  obtain ⟨xs, px, rfl⟩ := hr
  have xc : ∀ o ∈ xs, o ∈ closedT ms f := fun o ho => by
    have := px.mem_iff.mp ho
    rw [List.mem_append, List.mem_append] at this
    rcases this with (h1 | h1) | h1
    · exact nc o h1
    · exact py.mem_iff.mp (List.mem_of_mem_take h1)
    · exact nc o (List.mem_of_mem_take h1)
  have xn : ∀ p ∈ narrowN (closedT ms f), p.1 ∈ xs := fun p hp => px.mem_iff.mpr (List.mem_append_left _ (List.mem_append_left _ (nwn p hp)))
  have xl : xs.length ≤ 200 := by rw [px.length_eq, List.length_append, List.length_append]; omega
  have xok : TableOk ms xs := ⟨h.m, by omega, fun l hl' => (mem_closedT.mp (xc l hl')).1, by omega⟩
  have T4 : Th Γ (tableD ms xs) ms f := (th_table xok (by omega)).congr fun l sl => tclo_wide h.m h.op xc xn sl
  simp [s_Table (Γ := Γ) (k := k + 9) (by omega) xok]
  rw [exs_cons]
  simp [f_sameL (k := k + 9) h T4 (by omega)]
  refine sure_loop (gm := fun p : List Str × Nat => .tup [.int (p.2 : Int), tD p.1]) (xs := N.zipIdx) (RI th (.lst (List.take v (List.map tD ys))) ms xs (closedT ms f) N) (by
    rw [← enm_lots 0]
    simp [meth_tlots (Γ := Γ) (k := k + 9) (by omega)]) ⟨_, _, _, _, rfl, rfl, rfl⟩ (fun ρ a ha hh => ?_) fun ρ hh => ?_
  · obtain ⟨s6, s7, s8, s9, rfl, g6, g7⟩ := hh
    obtain ⟨l, i⟩ := a
    have hz := List.mem_zipIdx_iff_getElem?.mp ha
    obtain ⟨hi, ei⟩ := List.getElem?_eq_some_iff.mp hz
    simp only at hi ei
    have lN : l ∈ N := ei ▸ List.getElem_mem hi
    obtain ⟨p, hp, rfl⟩ := nm l lN
    obtain ⟨ps, pf⟩ := mem_closedT.mp (nc _ lN)
    have nx : nextT ms f p.1 = [p.2] := by
      obtain ⟨l, h1, h2⟩ := List.mem_filterMap.mp hp
      obtain ⟨rfl, e⟩ := oneOf_some.mp h2
      exact (oneOf_some.mp ((next_one h.m h.op ps pf).trans h2)).2
    have no1 : p.1 ∉ N.eraseIdx i := fun hmem => by
      obtain ⟨j, hj, ne, ej⟩ := List.mem_eraseIdx_iff_getElem.mp hmem
      have pw := List.pairwise_iff_getElem.mp nd
      rcases Nat.lt_or_gt_of_ne ne with lt | lt
      · exact pw j i hj hi lt (ej.trans ei.symm)
      · exact pw i j hi hj lt (ei.trans ej.symm)
    have no2 : p.1 ∉ xs.filter (fun o => decide (o ≠ p.1)) := fun hmem => by
      have := (List.mem_filter.mp hmem).2
      simp at this
    obtain ⟨w1, w2⟩ := lack_one h.m h.op hp (xs := N.eraseIdx i) (fun o ho => nc o ((List.eraseIdx_sublist N i).subset ho)) no1
    obtain ⟨w3, w4⟩ := lack_one h.m h.op hp (xs := xs.filter fun o => decide (o ≠ p.1)) (fun o ho => xc o (List.mem_filter.mp ho).1) no2
    have fok : TableOk ms (xs.filter fun o => decide (o ≠ p.1)) := ⟨h.m, by omega, fun l hl' => xok.s l (List.mem_filter.mp hl').1, Nat.le_trans (List.length_filter_le _ _) xok.n⟩
    have okt : ∀ {zs : List (List Str)}, OkL (tclo zs ms p.1) := ok_sub h.m tclo_sub
    have okp : OkL p.1 := ok_sub h.m ps
    have q1 : eqD (tD (tclo (N.eraseIdx i) ms p.1)) (tD p.1) = some false := by rw [eqD_tD okt okp, decide_eq_false w2]
    have q2 : eqD (tD (tclo (xs.filter fun o => decide (o ≠ p.1)) ms p.1)) (tD p.1) = some false := by rw [eqD_tD okt okp, decide_eq_false w4]
    have no := th_next_ones h (k := k + 9) (by omega) ps pf
    rw [nx] at no
    simp only [put_tup, puts]
    rw [put_ok (s := s6) rfl g6, Option.bind_some, put_ok (s := s7) rfl g7]
    simp only [Option.bind_some, opt_some, ret_bnd]
    rw [exs_cons]
    simp [meth_twithout (k := k + 9) (by omega) hi tok]
    rw [exs_cons]
    simp [meth_tclosing (Γ := Γ) (k := k + 9) (by omega), q1, no, s_within (Γ := Γ) (k := k + 9) (by omega), w1]
    rw [exs_cons]
    simp [h.mks (k := k + 9) (by omega)]
    rw [ev_lcP tD (fun o => decide (o ≠ p.1)) tD xs rfl (by simp [meth_tlots (Γ := Γ) (k := k + 9) (by omega)]) (fun o ho => by
      have oo : OkL o := ok_sub h.m (xok.s o ho)
      simp [turnM, put1, wipeS, isOwn, eqD_tD oo okp]
      split <;> rfl)]
    have sT := s_Table (Γ := Γ) (k := k + 9) (by omega) fok
    rw [tsD] at sT
    simp only [ret_bnd]
    rw [sT]
    generalize eqF : xs.filter (fun o => decide (o ≠ p.1)) = F at *
    simp
    rw [exs_cons]
    simp [meth_tclosing (Γ := Γ) (k := k + 9) (by omega), q2]
    exact sure_ret ⟨_, rfl, _, _, _, _, rfl, rfl, rfl⟩
  · obtain ⟨s6, s7, s8, s9, rfl, g6, g7⟩ := hh
    rw [exs_cons]
    simp
    exact sure_ret rfl
def Inv (ρ : List Slot) : Prop := ∃ s2 s3 s4, ρ = [.no, .val .bag, s2, s3, s4] ∧ slotOk s2 = true ∧ slotOk s4 = true
def I1 (d2 d3 : D) (ρ : List Slot) : Prop := ∃ s4, ρ = [.no, .val .bag, .val d2, .val d3, s4] ∧ slotOk s4 = true
theorem plain : Plain Γ 30 5 1 b_law := fun cells h1 h2 => by
  have go : Sure (exSs (runF Γ 30) b_law (lawS 5 1)) fun l => l = .rt (.bl true) .clean := by
    unfold b_law
    refine sure_times (n := 2) (kd := .clean) Inv (by simp) (by decide) ⟨.no, .no, .no, rfl, rfl, rfl⟩ (fun ρ x _ h => ?_) fun ρ hh => ?_
    · obtain ⟨s2, s3, s4, rfl, g2, g4⟩ := h
      rw [put_ok (s := s2) rfl g2]
      simp only [opt_some, ret_bnd]
      rw [exs_cons]
      simp
      refine sure_bnd (f_take (k := 29) (by decide) (by decide)) fun r hr => ?_
      obtain ⟨v, rfl, hv⟩ := hr
      simp
      refine sure_bnd (f_marks (k := 28) (show v ≤ 8 by omega)) fun r hr => ?_
      obtain ⟨ms, rfl, hm, hl⟩ := hr
      have hl6 : ms.length ≤ 6 := by omega
      simp
      rw [exs_cons, ex_fors]
      simp
      refine sure_bnd (f_some_rows (k := 25) (n := 8) hm (by omega) (by decide)) fun r hr => ?_
      obtain ⟨rs, rfl, n1, hrs⟩ := hr
      simp [s_Rules (Γ := Γ) (k := 30) (by omega) hm (by omega) hrs]
      refine sure_bnd (f_table (k := 27) (n := 9) (by decide)) fun r hr => ?_
      obtain ⟨ls, rfl, n2, hls⟩ := hr
      have ok : RulesOk ms rs := ⟨hm, by omega, hrs, by omega⟩
      have tk : TableOk ms ls := ⟨hm, by omega, hls, by omega⟩
      have T1 : Th Γ (rulesD ms rs) ms (cloF rs ms) := th_rules ok (by omega)
      have T2 : Th Γ (tableD ms ls) ms (tclo ls ms) := th_table tk (by omega)
      simp [s_Table (Γ := Γ) (k := 30) (by omega) tk]
      refine sure_bnd (forM_sure (I := I1 (.int x) (tD ms)) _ _ ⟨s4, rfl, g4⟩ fun ρ y hy h => ?_) fun l hl' => ?_
      · obtain ⟨s4, rfl, g4⟩ := h
        have hc : ∃ f, Th Γ y ms f := by
          simp at hy
          rcases hy with rfl | rfl
          · exact ⟨_, T1⟩
          · exact ⟨_, T2⟩
        obtain ⟨f, T⟩ := hc
        rw [put_ok (s := s4) rfl g4]
        simp only [opt_some, ret_bnd]
        rw [exs_cons]
        simp
        refine sure_bnd (f_right (k := 20) T hl6) fun r hr => ?_
        subst hr
        simp
        refine sure_bnd (f_numbers (k := 22) T hl6) fun r hr => ?_
        subst hr
        simp
        exact sure_ret ⟨_, rfl, _, rfl, rfl⟩
      · obtain ⟨ρ', rfl, s4, rfl, g4⟩ := hl'
        simp
        exact sure_ret ⟨_, rfl, _, _, _, rfl, rfl, g4⟩
    · rw [exs_cons]
      simp
      exact sure_ret rfl
  obtain ⟨l, g, e, _, rfl⟩ := go ⟨0, 1234567891, 0, cells⟩ (okB_iff.mpr ⟨by decide, by decide, by decide, by decide, h2, h1⟩)
  exact ⟨_, g, e⟩
end Ev.T
set_option Elab.async false
set_option linter.all false
set_option maxRecDepth 100000
/-! the checks of the trees of w_thesesothose_k36_whole_narrow_lots_are_n (printed by gen.py) -/
namespace Ev.T
open PySem PySem.Spec PyProof.Rows L2 Ev
def top (i : Nat) : Stmt := PySem.Challenge.pw_thesesothose_k36_whole_narrow_lots_are_n.main.body.getD i (.Pass ⟨0, 0, 0, 0⟩)
def clsB : Stmt → List Stmt
  | .ClassDef _ _ _ b _ _ _ _ _ _ _ => b
  | _ => []
def mth (i j : Nat) : Stmt := (clsB (top i)).getD j (.Pass ⟨0, 0, 0, 0⟩)
theorem ch_lot_of : chSs tb ["marks"] (defScope (top 9)) b_lot_of (defBody (top 9)) = true := by decide +kernel
theorem sc_lot_of : FnScope ["marks"] ["marks"] (defScope (top 9)) := C8.fnScope_by (by decide +kernel)
theorem ch_rank : chSs tb ["lot"] (defScope (top 10)) b_rank (defBody (top 10)) = true := by decide +kernel
theorem sc_rank : FnScope ["lot"] ["lot"] (defScope (top 10)) := C8.fnScope_by (by decide +kernel)
theorem ch_in_order : chSs tb ["lots"] (defScope (top 11)) b_in_order (defBody (top 11)) = true := by decide +kernel
theorem sc_in_order : FnScope ["lots"] ["lots"] (defScope (top 11)) := C8.fnScope_by (by decide +kernel)
theorem ch_all_lots : chSs tb ["marks", "found", "mark", "lot"] (defScope (top 12)) b_all_lots (defBody (top 12)) = true := by decide +kernel
theorem sc_all_lots : FnScope ["marks", "found", "mark", "lot"] ["marks"] (defScope (top 12)) := C8.fnScope_by (by decide +kernel)
theorem ch_comes_before : chSs tb ["one", "other"] (defScope (top 13)) b_comes_before (defBody (top 13)) = true := by decide +kernel
theorem sc_comes_before : FnScope ["one", "other"] ["one", "other"] (defScope (top 13)) := C8.fnScope_by (by decide +kernel)
theorem ch_within : chSs tb ["one", "other", "mark"] (defScope (top 14)) b_within (defBody (top 14)) = true := by decide +kernel
theorem sc_within : FnScope ["one", "other", "mark"] ["one", "other"] (defScope (top 14)) := C8.fnScope_by (by decide +kernel)
theorem ch_joined : chSs tb ["one", "other"] (defScope (top 15)) b_joined (defBody (top 15)) = true := by decide +kernel
theorem sc_joined : FnScope ["one", "other"] ["one", "other"] (defScope (top 15)) := C8.fnScope_by (by decide +kernel)
theorem ch_common : chSs tb ["one", "other", "mark"] (defScope (top 16)) b_common (defBody (top 16)) = true := by decide +kernel
theorem sc_common : FnScope ["one", "other", "mark"] ["one", "other"] (defScope (top 16)) := C8.fnScope_by (by decide +kernel)
theorem ch_is_integer : chSs tb ["thing"] (defScope (top 19)) b_is_integer (defBody (top 19)) = true := by decide +kernel
theorem sc_is_integer : FnScope ["thing"] ["thing"] (defScope (top 19)) := C8.fnScope_by (by decide +kernel)
theorem ch_is_mark : chSs tb ["thing", "sign"] (defScope (top 20)) b_is_mark (defBody (top 20)) = true := by decide +kernel
theorem sc_is_mark : FnScope ["thing", "sign"] ["thing"] (defScope (top 20)) := C8.fnScope_by (by decide +kernel)
theorem ch_is_lot : chSs tb ["thing", "at", "mark"] (defScope (top 21)) b_is_lot (defBody (top 21)) = true := by decide +kernel
theorem sc_is_lot : FnScope ["thing", "at", "mark"] ["thing"] (defScope (top 21)) := C8.fnScope_by (by decide +kernel)
theorem ch_is_rule : chSs tb ["thing"] (defScope (top 22)) b_is_rule (defBody (top 22)) = true := by decide +kernel
theorem sc_is_rule : FnScope ["thing"] ["thing"] (defScope (top 22)) := C8.fnScope_by (by decide +kernel)
theorem ch_is_closed : chSs tb ["theory", "thing"] (defScope (top 24)) b_is_closed (defBody (top 24)) = true := by decide +kernel
theorem sc_is_closed : FnScope ["theory", "thing"] ["theory", "thing"] (defScope (top 24)) := C8.fnScope_by (by decide +kernel)
theorem ch_closed_lots : chSs tb ["theory", "lot"] (defScope (top 25)) b_closed_lots (defBody (top 25)) = true := by decide +kernel
theorem sc_closed_lots : FnScope ["theory", "lot"] ["theory"] (defScope (top 25)) := C8.fnScope_by (by decide +kernel)
theorem ch_count : chSs tb ["theory"] (defScope (top 26)) b_count (defBody (top 26)) = true := by decide +kernel
theorem sc_count : FnScope ["theory"] ["theory"] (defScope (top 26)) := C8.fnScope_by (by decide +kernel)
theorem ch_need_closed : chSs tb ["theory", "thing"] (defScope (top 27)) b_need_closed (defBody (top 27)) = true := by decide +kernel
theorem sc_need_closed : FnScope ["theory", "thing"] ["theory", "thing"] (defScope (top 27)) := C8.fnScope_by (by decide +kernel)
theorem ch_number_of : chSs tb ["theory", "lot"] (defScope (top 28)) b_number_of (defBody (top 28)) = true := by decide +kernel
theorem sc_number_of : FnScope ["theory", "lot"] ["theory", "lot"] (defScope (top 28)) := C8.fnScope_by (by decide +kernel)
theorem ch_lot_at : chSs tb ["theory", "number", "found"] (defScope (top 29)) b_lot_at (defBody (top 29)) = true := by decide +kernel
theorem sc_lot_at : FnScope ["theory", "number", "found"] ["theory", "number"] (defScope (top 29)) := C8.fnScope_by (by decide +kernel)
theorem ch_next_ones : chSs tb ["theory", "lot", "above", "mark", "later", "one", "other"] (defScope (top 30)) b_next_ones (defBody (top 30)) = true := by decide +kernel
theorem sc_next_ones : FnScope ["theory", "lot", "above", "mark", "later", "one", "other"] ["theory", "lot"] (defScope (top 30)) := C8.fnScope_by (by decide +kernel)
theorem ch_narrow : chSs tb ["theory", "found", "lot", "later"] (defScope (top 31)) b_narrow (defBody (top 31)) = true := by decide +kernel
theorem sc_narrow : FnScope ["theory", "found", "lot", "later"] ["theory"] (defScope (top 31)) := C8.fnScope_by (by decide +kernel)
theorem ch_breaks : chSs tb ["lot", "rule"] (defScope (top 33)) b_breaks (defBody (top 33)) = true := by decide +kernel
theorem sc_breaks : FnScope ["lot", "rule"] ["lot", "rule"] (defScope (top 33)) := C8.fnScope_by (by decide +kernel)
theorem ch_is_rule_of : chSs tb ["marks", "thing"] (defScope (top 34)) b_is_rule_of (defBody (top 34)) = true := by decide +kernel
theorem sc_is_rule_of : FnScope ["marks", "thing"] ["marks", "thing"] (defScope (top 34)) := C8.fnScope_by (by decide +kernel)
theorem ch_are_rules_of : chSs tb ["marks", "thing", "row"] (defScope (top 35)) b_are_rules_of (defBody (top 35)) = true := by decide +kernel
theorem sc_are_rules_of : FnScope ["marks", "thing", "row"] ["marks", "thing"] (defScope (top 35)) := C8.fnScope_by (by decide +kernel)
theorem ch_is_lot_of : chSs tb ["marks", "thing"] (defScope (top 38)) b_is_lot_of (defBody (top 38)) = true := by decide +kernel
theorem sc_is_lot_of : FnScope ["marks", "thing"] ["marks", "thing"] (defScope (top 38)) := C8.fnScope_by (by decide +kernel)
theorem ch_table_of : chSs tb ["theory", "lot", "later"] (defScope (top 40)) b_table_of (defBody (top 40)) = true := by decide +kernel
theorem sc_table_of : FnScope ["theory", "lot", "later"] ["theory"] (defScope (top 40)) := C8.fnScope_by (by decide +kernel)
theorem ch__law_take : chSs tb ["_law_bag_here", "_law_many", "_law_begin", "_law_second", "_law_cell", "_law_mixed_here", "_law_value"] (defScope (top 43)) b__law_take (defBody (top 43)) = true := by decide +kernel
theorem sc__law_take : FnScope ["_law_bag_here", "_law_many", "_law_begin", "_law_second", "_law_cell", "_law_mixed_here", "_law_value"] ["_law_bag_here", "_law_many"] (defScope (top 43)) := C8.fnScope_by (by decide +kernel)
theorem ch__law_mixed : chSs tb ["_law_bag_here", "_law_things", "_law_found", "_law_thing"] (defScope (top 44)) b__law_mixed (defBody (top 44)) = true := by decide +kernel
theorem sc__law_mixed : FnScope ["_law_bag_here", "_law_things", "_law_found", "_law_thing"] ["_law_bag_here", "_law_things"] (defScope (top 44)) := C8.fnScope_by (by decide +kernel)
theorem ch__law_marks : chSs tb ["_law_bag_here", "_law_many", "_law_menu", "_law_letters", "_law_stem", "_law_way", "_law_turn", "_law_k"] (defScope (top 45)) b__law_marks (defBody (top 45)) = true := by decide +kernel
theorem sc__law_marks : FnScope ["_law_bag_here", "_law_many", "_law_menu", "_law_letters", "_law_stem", "_law_way", "_law_turn", "_law_k"] ["_law_bag_here", "_law_many"] (defScope (top 45)) := C8.fnScope_by (by decide +kernel)
theorem ch__law_lot : chSs tb ["_law_bag_here", "_law_marks_here", "_law_mark"] (defScope (top 46)) b__law_lot (defBody (top 46)) = true := by decide +kernel
theorem sc__law_lot : FnScope ["_law_bag_here", "_law_marks_here", "_law_mark"] ["_law_bag_here", "_law_marks_here"] (defScope (top 46)) := C8.fnScope_by (by decide +kernel)
theorem ch__law_few : chSs tb ["_law_bag_here", "_law_marks_here", "_law_many"] (defScope (top 47)) b__law_few (defBody (top 47)) = true := by decide +kernel
theorem sc__law_few : FnScope ["_law_bag_here", "_law_marks_here", "_law_many"] ["_law_bag_here", "_law_marks_here", "_law_many"] (defScope (top 47)) := C8.fnScope_by (by decide +kernel)
theorem ch__law_rule : chSs tb ["_law_bag_here", "_law_marks_here", "_law_way", "_law_ahead"] (defScope (top 48)) b__law_rule (defBody (top 48)) = true := by decide +kernel
theorem sc__law_rule : FnScope ["_law_bag_here", "_law_marks_here", "_law_way", "_law_ahead"] ["_law_bag_here", "_law_marks_here"] (defScope (top 48)) := C8.fnScope_by (by decide +kernel)
theorem ch__law_some_rows : chSs tb ["_law_bag_here", "_law_marks_here", "_law_many", "_law_found", "_law_k"] (defScope (top 49)) b__law_some_rows (defBody (top 49)) = true := by decide +kernel
theorem sc__law_some_rows : FnScope ["_law_bag_here", "_law_marks_here", "_law_many", "_law_found", "_law_k"] ["_law_bag_here", "_law_marks_here", "_law_many"] (defScope (top 49)) := C8.fnScope_by (by decide +kernel)
theorem ch__law_table : chSs tb ["_law_bag_here", "_law_marks_here", "_law_many", "_law_found", "_law_k"] (defScope (top 50)) b__law_table (defBody (top 50)) = true := by decide +kernel
theorem sc__law_table : FnScope ["_law_bag_here", "_law_marks_here", "_law_many", "_law_found", "_law_k"] ["_law_bag_here", "_law_marks_here", "_law_many"] (defScope (top 50)) := C8.fnScope_by (by decide +kernel)
theorem ch__law_same : chSs tb ["_law_one", "_law_other", "_law_lot_here"] (defScope (top 51)) b__law_same (defBody (top 51)) = true := by decide +kernel
theorem sc__law_same : FnScope ["_law_one", "_law_other", "_law_lot_here"] ["_law_one", "_law_other"] (defScope (top 51)) := C8.fnScope_by (by decide +kernel)
theorem ch__law_right : chSs tb ["_law_bag_here", "_law_theory", "_law_some", "_law_wide", "_law_every", "_law_told", "_law_at", "_law_lot_here", "_law_less", "_law_lacking", "_law_one", "_law_later"] (defScope (top 52)) b__law_right_v2 (defBody (top 52)) = true := by decide +kernel
theorem sc__law_right : FnScope ["_law_bag_here", "_law_theory", "_law_some", "_law_wide", "_law_every", "_law_told", "_law_at", "_law_lot_here", "_law_less", "_law_lacking", "_law_one", "_law_later"] ["_law_bag_here", "_law_theory"] (defScope (top 52)) := C8.fnScope_by (by decide +kernel)
theorem ch__law_numbers_right : chSs tb ["_law_bag_here", "_law_theory", "_law_many", "_law_k", "_law_at", "_law_to", "_law_one", "_law_other"] (defScope (top 53)) b__law_numbers_right (defBody (top 53)) = true := by decide +kernel
theorem sc__law_numbers_right : FnScope ["_law_bag_here", "_law_theory", "_law_many", "_law_k", "_law_at", "_law_to", "_law_one", "_law_other"] ["_law_bag_here", "_law_theory"] (defScope (top 53)) := C8.fnScope_by (by decide +kernel)
theorem ch_Rules___init__ : chIs tb ["self", "marks", "rows"] (defScope (mth 36 0)) b_Rules___init__ (defBody (mth 36 0)) = true := by decide +kernel
theorem sc_Rules___init__ : FnScope ["self", "marks", "rows"] ["self", "marks", "rows"] (defScope (mth 36 0)) := C8.fnScope_by (by decide +kernel)
theorem ch_Rules_marks : chSs tb ["self"] (defScope (mth 36 1)) b_Rules_marks (defBody (mth 36 1)) = true := by decide +kernel
theorem sc_Rules_marks : FnScope ["self"] ["self"] (defScope (mth 36 1)) := C8.fnScope_by (by decide +kernel)
theorem ch_Rules_rows : chSs tb ["self"] (defScope (mth 36 2)) b_Rules_rows (defBody (mth 36 2)) = true := by decide +kernel
theorem sc_Rules_rows : FnScope ["self"] ["self"] (defScope (mth 36 2)) := C8.fnScope_by (by decide +kernel)
theorem ch_Rules_need_row : chSs tb ["self", "index"] (defScope (mth 36 3)) b_Rules_need_row (defBody (mth 36 3)) = true := by decide +kernel
theorem sc_Rules_need_row : FnScope ["self", "index"] ["self", "index"] (defScope (mth 36 3)) := C8.fnScope_by (by decide +kernel)
theorem ch_Rules___getitem__ : chSs tb ["self", "index"] (defScope (mth 36 4)) b_Rules___getitem__ (defBody (mth 36 4)) = true := by decide +kernel
theorem sc_Rules___getitem__ : FnScope ["self", "index"] ["self", "index"] (defScope (mth 36 4)) := C8.fnScope_by (by decide +kernel)
theorem ch_Rules___len__ : chSs tb ["self"] (defScope (mth 36 5)) b_Rules___len__ (defBody (mth 36 5)) = true := by decide +kernel
theorem sc_Rules___len__ : FnScope ["self"] ["self"] (defScope (mth 36 5)) := C8.fnScope_by (by decide +kernel)
theorem ch_Rules_closing : chSs tb ["self", "lot", "broken", "ahead", "behind"] (defScope (mth 36 7)) b_Rules_closing (defBody (mth 36 7)) = true := by decide +kernel
theorem sc_Rules_closing : FnScope ["self", "lot", "broken", "ahead", "behind"] ["self", "lot"] (defScope (mth 36 7)) := C8.fnScope_by (by decide +kernel)
theorem ch_Rules___call__ : chSs tb ["self", "lot"] (defScope (mth 36 8)) b_Rules___call__ (defBody (mth 36 8)) = true := by decide +kernel
theorem sc_Rules___call__ : FnScope ["self", "lot"] ["self", "lot"] (defScope (mth 36 8)) := C8.fnScope_by (by decide +kernel)
theorem ch_Rules_broken_by : chSs tb ["self", "lot", "row"] (defScope (mth 36 9)) b_Rules_broken_by (defBody (mth 36 9)) = true := by decide +kernel
theorem sc_Rules_broken_by : FnScope ["self", "lot", "row"] ["self", "lot"] (defScope (mth 36 9)) := C8.fnScope_by (by decide +kernel)
theorem ch_Rules___contains__ : chSs tb ["self", "thing"] (defScope (mth 36 10)) b_Rules___contains__ (defBody (mth 36 10)) = true := by decide +kernel
theorem sc_Rules___contains__ : FnScope ["self", "thing"] ["self", "thing"] (defScope (mth 36 10)) := C8.fnScope_by (by decide +kernel)
theorem ch_Rules___add__ : chSs tb ["self", "rule"] (defScope (mth 36 11)) b_Rules___add__ (defBody (mth 36 11)) = true := by decide +kernel
theorem sc_Rules___add__ : FnScope ["self", "rule"] ["self", "rule"] (defScope (mth 36 11)) := C8.fnScope_by (by decide +kernel)
theorem ch_Rules_without : chSs tb ["self", "index"] (defScope (mth 36 13)) b_Rules_without (defBody (mth 36 13)) = true := by decide +kernel
theorem sc_Rules_without : FnScope ["self", "index"] ["self", "index"] (defScope (mth 36 13)) := C8.fnScope_by (by decide +kernel)
theorem ch_Rules___or__ : chSs tb ["self", "other"] (defScope (mth 36 14)) b_Rules___or__ (defBody (mth 36 14)) = true := by decide +kernel
theorem sc_Rules___or__ : FnScope ["self", "other"] ["self", "other"] (defScope (mth 36 14)) := C8.fnScope_by (by decide +kernel)
theorem ch_Table___init__ : chIs tb ["self", "marks", "lots", "lot"] (defScope (mth 39 0)) b_Table___init__ (defBody (mth 39 0)) = true := by decide +kernel
theorem sc_Table___init__ : FnScope ["self", "marks", "lots", "lot"] ["self", "marks", "lots"] (defScope (mth 39 0)) := C8.fnScope_by (by decide +kernel)
theorem ch_Table_marks : chSs tb ["self"] (defScope (mth 39 1)) b_Table_marks (defBody (mth 39 1)) = true := by decide +kernel
theorem sc_Table_marks : FnScope ["self"] ["self"] (defScope (mth 39 1)) := C8.fnScope_by (by decide +kernel)
theorem ch_Table_lots : chSs tb ["self"] (defScope (mth 39 2)) b_Table_lots (defBody (mth 39 2)) = true := by decide +kernel
theorem sc_Table_lots : FnScope ["self"] ["self"] (defScope (mth 39 2)) := C8.fnScope_by (by decide +kernel)
theorem ch_Table___len__ : chSs tb ["self"] (defScope (mth 39 3)) b_Table___len__ (defBody (mth 39 3)) = true := by decide +kernel
theorem sc_Table___len__ : FnScope ["self"] ["self"] (defScope (mth 39 3)) := C8.fnScope_by (by decide +kernel)
theorem ch_Table___call__ : chSs tb ["self", "lot"] (defScope (mth 39 5)) b_Table___call__ (defBody (mth 39 5)) = true := by decide +kernel
theorem sc_Table___call__ : FnScope ["self", "lot"] ["self", "lot"] (defScope (mth 39 5)) := C8.fnScope_by (by decide +kernel)
theorem ch_Table_closing : chSs tb ["self", "lot", "found", "one"] (defScope (mth 39 6)) b_Table_closing (defBody (mth 39 6)) = true := by decide +kernel
theorem sc_Table_closing : FnScope ["self", "lot", "found", "one"] ["self", "lot"] (defScope (mth 39 6)) := C8.fnScope_by (by decide +kernel)
theorem ch_Table___contains__ : chSs tb ["self", "thing"] (defScope (mth 39 7)) b_Table___contains__ (defBody (mth 39 7)) = true := by decide +kernel
theorem sc_Table___contains__ : FnScope ["self", "thing"] ["self", "thing"] (defScope (mth 39 7)) := C8.fnScope_by (by decide +kernel)
theorem ch_Table___add__ : chSs tb ["self", "lot"] (defScope (mth 39 9)) b_Table___add__ (defBody (mth 39 9)) = true := by decide +kernel
theorem sc_Table___add__ : FnScope ["self", "lot"] ["self", "lot"] (defScope (mth 39 9)) := C8.fnScope_by (by decide +kernel)
theorem ch_Table_without : chSs tb ["self", "index"] (defScope (mth 39 10)) b_Table_without (defBody (mth 39 10)) = true := by decide +kernel
theorem sc_Table_without : FnScope ["self", "index"] ["self", "index"] (defScope (mth 39 10)) := C8.fnScope_by (by decide +kernel)
theorem ch_Table___or__ : chSs tb ["self", "other"] (defScope (mth 39 11)) b_Table___or__ (defBody (mth 39 11)) = true := by decide +kernel
theorem sc_Table___or__ : FnScope ["self", "other"] ["self", "other"] (defScope (mth 39 11)) := C8.fnScope_by (by decide +kernel)
theorem ch_law : lawC tb ["_law_script", "_law_bag_here", "_law_turn", "_law_marks_here", "_law_theory"] (defScope (top 54)) 1 b_law (defBody (top 54)) = true := by decide +kernel
theorem sc_law : FnScope ["_law_script", "_law_bag_here", "_law_turn", "_law_marks_here", "_law_theory"] ["_law_script"] (defScope (top 54)) := C8.fnScope_by (by decide +kernel)
theorem ch_bag : bagC (defScope (top 42)) "_law_script" "_law_cell" (defBody (top 42)) = true := by decide +kernel
theorem sc_bag : FnScope ["_law_script", "_law_cell"] ["_law_script"] (defScope (top 42)) := C8.fnScope_by (by decide +kernel)
set_option maxHeartbeats 0 in
theorem all_mk {l : PySem.W.OpenLaw} {w : World} {K : PySem.W.Frag} {h : Heap} {mg : Str → Option Value} {fa f1 f2 f3 f4 f5 f6 f7 f8 f9 f10 f11 f12 f13 f14 f15 f16 f17 f18 f19 f20 f21 f22 f23 f24 f25 f26 f27 f28 f29 f30 f31 f32 f33 f34 f35 f36 f37 f38 f39 f40 f41 f42 f43 f44 f45 f46 f47 f48 f49 f50 f51 f52 f53 f54 f55 f56 f57 f58 f59 f60 f61 A0 A1 : Addr} (X : K.In h) (G : h.Ns mainGlobals mg) (hfa : mg "law" = some (.ref fa))
    {od1 an1 od2 an2 od3 an3 od4 an4 od5 an5 od6 an6 od7 an7 od8 an8 od9 an9 od10 an10 od11 an11 od12 an12 od13 an13 od14 an14 od15 an15 od16 an16 od17 an17 od18 an18 od19 an19 od20 an20 od21 an21 od22 an22 od23 an23 od24 an24 od25 an25 od26 an26 od27 an27 od28 an28 od29 an29 od30 an30 od31 an31 od32 an32 od33 an33 od34 an34 od35 an35 od36 an36 od37 an37 od38 an38 od39 an39 od40 an40 od41 an41 od42 an42 od43 an43 od44 an44 od45 an45 od46 an46 od47 an47 od48 an48 od49 an49 od50 an50 od51 an51 od52 an52 od53 an53 od54 an54 od55 an55 od56 an56 od57 an57 od58 an58 od59 an59 od60 an60 od61 an61 : Option Addr} {sl1 sl2 sl3 sl4 sl5 sl6 sl7 sl8 sl9 sl10 sl11 sl12 sl13 sl14 sl15 sl16 sl17 sl18 sl19 sl20 sl21 sl22 sl23 sl24 sl25 sl26 sl27 sl28 sl29 sl30 sl31 sl32 sl33 sl34 sl35 sl36 sl37 sl38 sl39 sl40 sl41 sl42 sl43 sl44 sl45 sl46 sl47 sl48 sl49 sl50 sl51 sl52 sl53 sl54 sl55 sl56 sl57 sl58 sl59 sl60 sl61 : Array (Option Value)} {oc1 kV1 dc1 pm1 cd1 ct1 oc2 kV2 dc2 pm2 cd2 ct2 oc3 kV3 dc3 pm3 cd3 ct3 oc4 kV4 dc4 pm4 cd4 ct4 oc5 kV5 dc5 pm5 cd5 ct5 oc6 kV6 dc6 pm6 cd6 ct6 oc7 kV7 dc7 pm7 cd7 ct7 oc8 kV8 dc8 pm8 cd8 ct8 oc9 kV9 dc9 pm9 cd9 ct9 oc10 kV10 dc10 pm10 cd10 ct10 oc11 kV11 dc11 pm11 cd11 ct11 oc12 kV12 dc12 pm12 cd12 ct12 oc13 kV13 dc13 pm13 cd13 ct13 oc14 kV14 dc14 pm14 cd14 ct14 oc15 kV15 dc15 pm15 cd15 ct15 oc16 kV16 dc16 pm16 cd16 ct16 oc17 kV17 dc17 pm17 cd17 ct17 oc18 kV18 dc18 pm18 cd18 ct18 oc19 kV19 dc19 pm19 cd19 ct19 oc20 kV20 dc20 pm20 cd20 ct20 oc21 kV21 dc21 pm21 cd21 ct21 oc22 kV22 dc22 pm22 cd22 ct22 oc23 kV23 dc23 pm23 cd23 ct23 oc24 kV24 dc24 pm24 cd24 ct24 oc25 kV25 dc25 pm25 cd25 ct25 oc26 kV26 dc26 pm26 cd26 ct26 oc27 kV27 dc27 pm27 cd27 ct27 oc28 kV28 dc28 pm28 cd28 ct28 oc29 kV29 dc29 pm29 cd29 ct29 oc30 kV30 dc30 pm30 cd30 ct30 oc31 kV31 dc31 pm31 cd31 ct31 oc32 kV32 dc32 pm32 cd32 ct32 oc33 kV33 dc33 pm33 cd33 ct33 oc34 kV34 dc34 pm34 cd34 ct34 oc35 kV35 dc35 pm35 cd35 ct35 oc36 kV36 dc36 pm36 cd36 ct36 oc37 kV37 dc37 pm37 cd37 ct37 oc38 kV38 dc38 pm38 cd38 ct38 oc39 kV39 dc39 pm39 cd39 ct39 oc40 kV40 dc40 pm40 cd40 ct40 oc41 kV41 dc41 pm41 cd41 ct41 oc42 kV42 dc42 pm42 cd42 ct42 oc43 kV43 dc43 pm43 cd43 ct43 oc44 kV44 dc44 pm44 cd44 ct44 oc45 kV45 dc45 pm45 cd45 ct45 oc46 kV46 dc46 pm46 cd46 ct46 oc47 kV47 dc47 pm47 cd47 ct47 oc48 kV48 dc48 pm48 cd48 ct48 oc49 kV49 dc49 pm49 cd49 ct49 oc50 kV50 dc50 pm50 cd50 ct50 oc51 kV51 dc51 pm51 cd51 ct51 oc52 kV52 dc52 pm52 cd52 ct52 oc53 kV53 dc53 pm53 cd53 ct53 oc54 kV54 dc54 pm54 cd54 ct54 oc55 kV55 dc55 pm55 cd55 ct55 oc56 kV56 dc56 pm56 cd56 ct56 oc57 kV57 dc57 pm57 cd57 ct57 oc58 kV58 dc58 pm58 cd58 ct58 oc59 kV59 dc59 pm59 cd59 ct59 oc60 kV60 dc60 pm60 cd60 ct60 oc61 kV61 dc61 pm61 cd61 ct61 : Value}
    {t0 : Tok}
    {p0 : Addr} {rest0 : List Value}
    {p1 : Addr} {rest1 : List Value}
    (gA0 : PySem.W.nsIn K mainGlobals "Rules" = some (some (.ref A0)))
    (pg0 : PySem.W.plainGet K A0 Str.empty = true)
    (hd0 : PySem.W.hasDictIn K A0 = true)
    (po0 : PySem.W.plainOver K A0 = true)
    (sa0 : PySem.W.findIn K (.ref A0) "__setattr__" = some (some (.builtin "object.__setattr__")))
    (mk0 : PySem.W.makesIn K A0 = true)
    (kc0 : PySem.W.keepIn K (.ref A0) = true)
    (sf0 : PySem.W.selfFirst K A0 = true)
    (n0_0 : PySem.W.findIn K (.ref A0) "its_marks" = some none)
    (n0_1 : PySem.W.findIn K (.ref A0) "its_rows" = some none)
    (gA1 : PySem.W.nsIn K mainGlobals "Table" = some (some (.ref A1)))
    (pg1 : PySem.W.plainGet K A1 Str.empty = true)
    (hd1 : PySem.W.hasDictIn K A1 = true)
    (po1 : PySem.W.plainOver K A1 = true)
    (sa1 : PySem.W.findIn K (.ref A1) "__setattr__" = some (some (.builtin "object.__setattr__")))
    (mk1 : PySem.W.makesIn K A1 = true)
    (kc1 : PySem.W.keepIn K (.ref A1) = true)
    (sf1 : PySem.W.selfFirst K A1 = true)
    (n1_0 : PySem.W.findIn K (.ref A1) "its_marks" = some none)
    (n1_1 : PySem.W.findIn K (.ref A1) "its_lots" = some none)
    (a1 : PySem.W.nsIn K mainGlobals "lot_of" = some (some (.ref f1)))
    (l1 : K.lookup f1 = some ⟨oc1, od1, .func (PySem.W.fnOf "lot_of" "lot_of" (defArgs (top 9)) (defBody (top 9)) (defScope (top 9)) .none kV1 dc1 pm1 an1 cd1 ct1), sl1⟩)
    (c1 : PySem.W.codeIn K cd1 "lot_of" = true)
    (k1 : PySem.W.keepIn K (.ref f1) = true)
    (a2 : PySem.W.nsIn K mainGlobals "rank" = some (some (.ref f2)))
    (l2 : K.lookup f2 = some ⟨oc2, od2, .func (PySem.W.fnOf "rank" "rank" (defArgs (top 10)) (defBody (top 10)) (defScope (top 10)) .none kV2 dc2 pm2 an2 cd2 ct2), sl2⟩)
    (c2 : PySem.W.codeIn K cd2 "rank" = true)
    (k2 : PySem.W.keepIn K (.ref f2) = true)
    (a3 : PySem.W.nsIn K mainGlobals "in_order" = some (some (.ref f3)))
    (l3 : K.lookup f3 = some ⟨oc3, od3, .func (PySem.W.fnOf "in_order" "in_order" (defArgs (top 11)) (defBody (top 11)) (defScope (top 11)) .none kV3 dc3 pm3 an3 cd3 ct3), sl3⟩)
    (c3 : PySem.W.codeIn K cd3 "in_order" = true)
    (k3 : PySem.W.keepIn K (.ref f3) = true)
    (a4 : PySem.W.nsIn K mainGlobals "all_lots" = some (some (.ref f4)))
    (l4 : K.lookup f4 = some ⟨oc4, od4, .func (PySem.W.fnOf "all_lots" "all_lots" (defArgs (top 12)) (defBody (top 12)) (defScope (top 12)) .none kV4 dc4 pm4 an4 cd4 ct4), sl4⟩)
    (c4 : PySem.W.codeIn K cd4 "all_lots" = true)
    (k4 : PySem.W.keepIn K (.ref f4) = true)
    (a5 : PySem.W.nsIn K mainGlobals "comes_before" = some (some (.ref f5)))
    (l5 : K.lookup f5 = some ⟨oc5, od5, .func (PySem.W.fnOf "comes_before" "comes_before" (defArgs (top 13)) (defBody (top 13)) (defScope (top 13)) .none kV5 dc5 pm5 an5 cd5 ct5), sl5⟩)
    (c5 : PySem.W.codeIn K cd5 "comes_before" = true)
    (k5 : PySem.W.keepIn K (.ref f5) = true)
    (a6 : PySem.W.nsIn K mainGlobals "within" = some (some (.ref f6)))
    (l6 : K.lookup f6 = some ⟨oc6, od6, .func (PySem.W.fnOf "within" "within" (defArgs (top 14)) (defBody (top 14)) (defScope (top 14)) .none kV6 dc6 pm6 an6 cd6 ct6), sl6⟩)
    (c6 : PySem.W.codeIn K cd6 "within" = true)
    (k6 : PySem.W.keepIn K (.ref f6) = true)
    (a7 : PySem.W.nsIn K mainGlobals "joined" = some (some (.ref f7)))
    (l7 : K.lookup f7 = some ⟨oc7, od7, .func (PySem.W.fnOf "joined" "joined" (defArgs (top 15)) (defBody (top 15)) (defScope (top 15)) .none kV7 dc7 pm7 an7 cd7 ct7), sl7⟩)
    (c7 : PySem.W.codeIn K cd7 "joined" = true)
    (k7 : PySem.W.keepIn K (.ref f7) = true)
    (a8 : PySem.W.nsIn K mainGlobals "common" = some (some (.ref f8)))
    (l8 : K.lookup f8 = some ⟨oc8, od8, .func (PySem.W.fnOf "common" "common" (defArgs (top 16)) (defBody (top 16)) (defScope (top 16)) .none kV8 dc8 pm8 an8 cd8 ct8), sl8⟩)
    (c8 : PySem.W.codeIn K cd8 "common" = true)
    (k8 : PySem.W.keepIn K (.ref f8) = true)
    (a9 : PySem.W.nsIn K mainGlobals "is_integer" = some (some (.ref f9)))
    (l9 : K.lookup f9 = some ⟨oc9, od9, .func (PySem.W.fnOf "is_integer" "is_integer" (defArgs (top 19)) (defBody (top 19)) (defScope (top 19)) .none kV9 dc9 pm9 an9 cd9 ct9), sl9⟩)
    (c9 : PySem.W.codeIn K cd9 "is_integer" = true)
    (k9 : PySem.W.keepIn K (.ref f9) = true)
    (a10 : PySem.W.nsIn K mainGlobals "is_mark" = some (some (.ref f10)))
    (l10 : K.lookup f10 = some ⟨oc10, od10, .func (PySem.W.fnOf "is_mark" "is_mark" (defArgs (top 20)) (defBody (top 20)) (defScope (top 20)) .none kV10 dc10 pm10 an10 cd10 ct10), sl10⟩)
    (c10 : PySem.W.codeIn K cd10 "is_mark" = true)
    (k10 : PySem.W.keepIn K (.ref f10) = true)
    (a11 : PySem.W.nsIn K mainGlobals "is_lot" = some (some (.ref f11)))
    (l11 : K.lookup f11 = some ⟨oc11, od11, .func (PySem.W.fnOf "is_lot" "is_lot" (defArgs (top 21)) (defBody (top 21)) (defScope (top 21)) .none kV11 dc11 pm11 an11 cd11 ct11), sl11⟩)
    (c11 : PySem.W.codeIn K cd11 "is_lot" = true)
    (k11 : PySem.W.keepIn K (.ref f11) = true)
    (a12 : PySem.W.nsIn K mainGlobals "is_rule" = some (some (.ref f12)))
    (l12 : K.lookup f12 = some ⟨oc12, od12, .func (PySem.W.fnOf "is_rule" "is_rule" (defArgs (top 22)) (defBody (top 22)) (defScope (top 22)) .none kV12 dc12 pm12 an12 cd12 ct12), sl12⟩)
    (c12 : PySem.W.codeIn K cd12 "is_rule" = true)
    (k12 : PySem.W.keepIn K (.ref f12) = true)
    (a13 : PySem.W.nsIn K mainGlobals "is_closed" = some (some (.ref f13)))
    (l13 : K.lookup f13 = some ⟨oc13, od13, .func (PySem.W.fnOf "is_closed" "is_closed" (defArgs (top 24)) (defBody (top 24)) (defScope (top 24)) .none kV13 dc13 pm13 an13 cd13 ct13), sl13⟩)
    (c13 : PySem.W.codeIn K cd13 "is_closed" = true)
    (k13 : PySem.W.keepIn K (.ref f13) = true)
    (a14 : PySem.W.nsIn K mainGlobals "closed_lots" = some (some (.ref f14)))
    (l14 : K.lookup f14 = some ⟨oc14, od14, .func (PySem.W.fnOf "closed_lots" "closed_lots" (defArgs (top 25)) (defBody (top 25)) (defScope (top 25)) .none kV14 dc14 pm14 an14 cd14 ct14), sl14⟩)
    (c14 : PySem.W.codeIn K cd14 "closed_lots" = true)
    (k14 : PySem.W.keepIn K (.ref f14) = true)
    (a15 : PySem.W.nsIn K mainGlobals "count" = some (some (.ref f15)))
    (l15 : K.lookup f15 = some ⟨oc15, od15, .func (PySem.W.fnOf "count" "count" (defArgs (top 26)) (defBody (top 26)) (defScope (top 26)) .none kV15 dc15 pm15 an15 cd15 ct15), sl15⟩)
    (c15 : PySem.W.codeIn K cd15 "count" = true)
    (k15 : PySem.W.keepIn K (.ref f15) = true)
    (a16 : PySem.W.nsIn K mainGlobals "need_closed" = some (some (.ref f16)))
    (l16 : K.lookup f16 = some ⟨oc16, od16, .func (PySem.W.fnOf "need_closed" "need_closed" (defArgs (top 27)) (defBody (top 27)) (defScope (top 27)) .none kV16 dc16 pm16 an16 cd16 ct16), sl16⟩)
    (c16 : PySem.W.codeIn K cd16 "need_closed" = true)
    (k16 : PySem.W.keepIn K (.ref f16) = true)
    (a17 : PySem.W.nsIn K mainGlobals "number_of" = some (some (.ref f17)))
    (l17 : K.lookup f17 = some ⟨oc17, od17, .func (PySem.W.fnOf "number_of" "number_of" (defArgs (top 28)) (defBody (top 28)) (defScope (top 28)) .none kV17 dc17 pm17 an17 cd17 ct17), sl17⟩)
    (c17 : PySem.W.codeIn K cd17 "number_of" = true)
    (k17 : PySem.W.keepIn K (.ref f17) = true)
    (a18 : PySem.W.nsIn K mainGlobals "lot_at" = some (some (.ref f18)))
    (l18 : K.lookup f18 = some ⟨oc18, od18, .func (PySem.W.fnOf "lot_at" "lot_at" (defArgs (top 29)) (defBody (top 29)) (defScope (top 29)) .none kV18 dc18 pm18 an18 cd18 ct18), sl18⟩)
    (c18 : PySem.W.codeIn K cd18 "lot_at" = true)
    (k18 : PySem.W.keepIn K (.ref f18) = true)
    (a19 : PySem.W.nsIn K mainGlobals "next_ones" = some (some (.ref f19)))
    (l19 : K.lookup f19 = some ⟨oc19, od19, .func (PySem.W.fnOf "next_ones" "next_ones" (defArgs (top 30)) (defBody (top 30)) (defScope (top 30)) .none kV19 dc19 pm19 an19 cd19 ct19), sl19⟩)
    (c19 : PySem.W.codeIn K cd19 "next_ones" = true)
    (k19 : PySem.W.keepIn K (.ref f19) = true)
    (a20 : PySem.W.nsIn K mainGlobals "narrow" = some (some (.ref f20)))
    (l20 : K.lookup f20 = some ⟨oc20, od20, .func (PySem.W.fnOf "narrow" "narrow" (defArgs (top 31)) (defBody (top 31)) (defScope (top 31)) .none kV20 dc20 pm20 an20 cd20 ct20), sl20⟩)
    (c20 : PySem.W.codeIn K cd20 "narrow" = true)
    (k20 : PySem.W.keepIn K (.ref f20) = true)
    (a21 : PySem.W.nsIn K mainGlobals "breaks" = some (some (.ref f21)))
    (l21 : K.lookup f21 = some ⟨oc21, od21, .func (PySem.W.fnOf "breaks" "breaks" (defArgs (top 33)) (defBody (top 33)) (defScope (top 33)) .none kV21 dc21 pm21 an21 cd21 ct21), sl21⟩)
    (c21 : PySem.W.codeIn K cd21 "breaks" = true)
    (k21 : PySem.W.keepIn K (.ref f21) = true)
    (a22 : PySem.W.nsIn K mainGlobals "is_rule_of" = some (some (.ref f22)))
    (l22 : K.lookup f22 = some ⟨oc22, od22, .func (PySem.W.fnOf "is_rule_of" "is_rule_of" (defArgs (top 34)) (defBody (top 34)) (defScope (top 34)) .none kV22 dc22 pm22 an22 cd22 ct22), sl22⟩)
    (c22 : PySem.W.codeIn K cd22 "is_rule_of" = true)
    (k22 : PySem.W.keepIn K (.ref f22) = true)
    (a23 : PySem.W.nsIn K mainGlobals "are_rules_of" = some (some (.ref f23)))
    (l23 : K.lookup f23 = some ⟨oc23, od23, .func (PySem.W.fnOf "are_rules_of" "are_rules_of" (defArgs (top 35)) (defBody (top 35)) (defScope (top 35)) .none kV23 dc23 pm23 an23 cd23 ct23), sl23⟩)
    (c23 : PySem.W.codeIn K cd23 "are_rules_of" = true)
    (k23 : PySem.W.keepIn K (.ref f23) = true)
    (a24 : PySem.W.nsIn K mainGlobals "is_lot_of" = some (some (.ref f24)))
    (l24 : K.lookup f24 = some ⟨oc24, od24, .func (PySem.W.fnOf "is_lot_of" "is_lot_of" (defArgs (top 38)) (defBody (top 38)) (defScope (top 38)) .none kV24 dc24 pm24 an24 cd24 ct24), sl24⟩)
    (c24 : PySem.W.codeIn K cd24 "is_lot_of" = true)
    (k24 : PySem.W.keepIn K (.ref f24) = true)
    (a25 : PySem.W.nsIn K mainGlobals "table_of" = some (some (.ref f25)))
    (l25 : K.lookup f25 = some ⟨oc25, od25, .func (PySem.W.fnOf "table_of" "table_of" (defArgs (top 40)) (defBody (top 40)) (defScope (top 40)) .none kV25 dc25 pm25 an25 cd25 ct25), sl25⟩)
    (c25 : PySem.W.codeIn K cd25 "table_of" = true)
    (k25 : PySem.W.keepIn K (.ref f25) = true)
    (a26 : PySem.W.nsIn K mainGlobals "_law_take" = some (some (.ref f26)))
    (l26 : K.lookup f26 = some ⟨oc26, od26, .func (PySem.W.fnOf "_law_take" "_law_take" (defArgs (top 43)) (defBody (top 43)) (defScope (top 43)) .none kV26 dc26 pm26 an26 cd26 ct26), sl26⟩)
    (c26 : PySem.W.codeIn K cd26 "_law_take" = true)
    (k26 : PySem.W.keepIn K (.ref f26) = true)
    (a27 : PySem.W.nsIn K mainGlobals "_law_mixed" = some (some (.ref f27)))
    (l27 : K.lookup f27 = some ⟨oc27, od27, .func (PySem.W.fnOf "_law_mixed" "_law_mixed" (defArgs (top 44)) (defBody (top 44)) (defScope (top 44)) .none kV27 dc27 pm27 an27 cd27 ct27), sl27⟩)
    (c27 : PySem.W.codeIn K cd27 "_law_mixed" = true)
    (k27 : PySem.W.keepIn K (.ref f27) = true)
    (a28 : PySem.W.nsIn K mainGlobals "_law_marks" = some (some (.ref f28)))
    (l28 : K.lookup f28 = some ⟨oc28, od28, .func (PySem.W.fnOf "_law_marks" "_law_marks" (defArgs (top 45)) (defBody (top 45)) (defScope (top 45)) .none kV28 dc28 pm28 an28 cd28 ct28), sl28⟩)
    (c28 : PySem.W.codeIn K cd28 "_law_marks" = true)
    (k28 : PySem.W.keepIn K (.ref f28) = true)
    (a29 : PySem.W.nsIn K mainGlobals "_law_lot" = some (some (.ref f29)))
    (l29 : K.lookup f29 = some ⟨oc29, od29, .func (PySem.W.fnOf "_law_lot" "_law_lot" (defArgs (top 46)) (defBody (top 46)) (defScope (top 46)) .none kV29 dc29 pm29 an29 cd29 ct29), sl29⟩)
    (c29 : PySem.W.codeIn K cd29 "_law_lot" = true)
    (k29 : PySem.W.keepIn K (.ref f29) = true)
    (a30 : PySem.W.nsIn K mainGlobals "_law_few" = some (some (.ref f30)))
    (l30 : K.lookup f30 = some ⟨oc30, od30, .func (PySem.W.fnOf "_law_few" "_law_few" (defArgs (top 47)) (defBody (top 47)) (defScope (top 47)) .none kV30 dc30 pm30 an30 cd30 ct30), sl30⟩)
    (c30 : PySem.W.codeIn K cd30 "_law_few" = true)
    (k30 : PySem.W.keepIn K (.ref f30) = true)
    (a31 : PySem.W.nsIn K mainGlobals "_law_rule" = some (some (.ref f31)))
    (l31 : K.lookup f31 = some ⟨oc31, od31, .func (PySem.W.fnOf "_law_rule" "_law_rule" (defArgs (top 48)) (defBody (top 48)) (defScope (top 48)) .none kV31 dc31 pm31 an31 cd31 ct31), sl31⟩)
    (c31 : PySem.W.codeIn K cd31 "_law_rule" = true)
    (k31 : PySem.W.keepIn K (.ref f31) = true)
    (a32 : PySem.W.nsIn K mainGlobals "_law_some_rows" = some (some (.ref f32)))
    (l32 : K.lookup f32 = some ⟨oc32, od32, .func (PySem.W.fnOf "_law_some_rows" "_law_some_rows" (defArgs (top 49)) (defBody (top 49)) (defScope (top 49)) .none kV32 dc32 pm32 an32 cd32 ct32), sl32⟩)
    (c32 : PySem.W.codeIn K cd32 "_law_some_rows" = true)
    (k32 : PySem.W.keepIn K (.ref f32) = true)
    (a33 : PySem.W.nsIn K mainGlobals "_law_table" = some (some (.ref f33)))
    (l33 : K.lookup f33 = some ⟨oc33, od33, .func (PySem.W.fnOf "_law_table" "_law_table" (defArgs (top 50)) (defBody (top 50)) (defScope (top 50)) .none kV33 dc33 pm33 an33 cd33 ct33), sl33⟩)
    (c33 : PySem.W.codeIn K cd33 "_law_table" = true)
    (k33 : PySem.W.keepIn K (.ref f33) = true)
    (a34 : PySem.W.nsIn K mainGlobals "_law_same" = some (some (.ref f34)))
    (l34 : K.lookup f34 = some ⟨oc34, od34, .func (PySem.W.fnOf "_law_same" "_law_same" (defArgs (top 51)) (defBody (top 51)) (defScope (top 51)) .none kV34 dc34 pm34 an34 cd34 ct34), sl34⟩)
    (c34 : PySem.W.codeIn K cd34 "_law_same" = true)
    (k34 : PySem.W.keepIn K (.ref f34) = true)
    (a35 : PySem.W.nsIn K mainGlobals "_law_right" = some (some (.ref f35)))
    (l35 : K.lookup f35 = some ⟨oc35, od35, .func (PySem.W.fnOf "_law_right" "_law_right" (defArgs (top 52)) (defBody (top 52)) (defScope (top 52)) .none kV35 dc35 pm35 an35 cd35 ct35), sl35⟩)
    (c35 : PySem.W.codeIn K cd35 "_law_right" = true)
    (k35 : PySem.W.keepIn K (.ref f35) = true)
    (a36 : PySem.W.nsIn K mainGlobals "_law_numbers_right" = some (some (.ref f36)))
    (l36 : K.lookup f36 = some ⟨oc36, od36, .func (PySem.W.fnOf "_law_numbers_right" "_law_numbers_right" (defArgs (top 53)) (defBody (top 53)) (defScope (top 53)) .none kV36 dc36 pm36 an36 cd36 ct36), sl36⟩)
    (c36 : PySem.W.codeIn K cd36 "_law_numbers_right" = true)
    (k36 : PySem.W.keepIn K (.ref f36) = true)
    (a37 : PySem.W.nsIn K mainGlobals "_law_bag" = some (some (.ref f37)))
    (l37 : K.lookup f37 = some ⟨oc37, od37, .func (PySem.W.fnOf "_law_bag" "_law_bag" (defArgs (top 42)) (defBody (top 42)) (defScope (top 42)) .none kV37 dc37 pm37 an37 cd37 ct37), sl37⟩)
    (c37 : PySem.W.codeIn K cd37 "_law_bag" = true)
    (k37 : PySem.W.keepIn K (.ref f37) = true)
    (a38 : PySem.W.nsIn K mainGlobals "law" = some (some (.ref f38)))
    (l38 : K.lookup f38 = some ⟨oc38, od38, .func (PySem.W.fnOf "law" "law" (defArgs (top 54)) (defBody (top 54)) (defScope (top 54)) .none kV38 dc38 pm38 an38 cd38 ct38), sl38⟩)
    (c38 : PySem.W.codeIn K cd38 "law" = true)
    (k38 : PySem.W.keepIn K (.ref f38) = true)
    (a39 : PySem.W.findIn K (.ref A0) "__init__" = some (some (.ref f39)))
    (i39 : PySem.W.isFn K (.ref f39) = true)
    (l39 : K.lookup f39 = some ⟨oc39, od39, .func (PySem.W.fnOf "__init__" "Rules.__init__" (defArgs (mth 36 0)) (defBody (mth 36 0)) (defScope (mth 36 0)) .none kV39 dc39 pm39 an39 cd39 ct39), sl39⟩)
    (c39 : PySem.W.codeIn K cd39 "Rules.__init__" = true)
    (k39 : PySem.W.keepIn K (.ref f39) = true)
    (a40 : PySem.W.findIn K (.ref A0) "marks" = some (some (.ref p0)))
    (g40 : PySem.W.specialIn K (.ref p0) "__get__" = some (some (.builtin "property.__get__")))
    (t40_ : PySem.W.takesIn K (.ref p0) = some true)
    (r40 : PySem.W.recIn K p0 "property" = some (.ref f40 :: rest0))
    (l40 : K.lookup f40 = some ⟨oc40, od40, .func (PySem.W.fnOf "marks" "Rules.marks" (defArgs (mth 36 1)) (defBody (mth 36 1)) (defScope (mth 36 1)) .none kV40 dc40 pm40 an40 cd40 ct40), sl40⟩)
    (c40 : PySem.W.codeIn K cd40 "Rules.marks" = true)
    (k40 : PySem.W.keepIn K (.ref f40) = true)
    (a41 : PySem.W.findIn K (.ref A0) "rows" = some (some (.ref f41)))
    (i41 : PySem.W.isFn K (.ref f41) = true)
    (l41 : K.lookup f41 = some ⟨oc41, od41, .func (PySem.W.fnOf "rows" "Rules.rows" (defArgs (mth 36 2)) (defBody (mth 36 2)) (defScope (mth 36 2)) .none kV41 dc41 pm41 an41 cd41 ct41), sl41⟩)
    (c41 : PySem.W.codeIn K cd41 "Rules.rows" = true)
    (k41 : PySem.W.keepIn K (.ref f41) = true)
    (a42 : PySem.W.findIn K (.ref A0) "need_row" = some (some (.ref f42)))
    (i42 : PySem.W.isFn K (.ref f42) = true)
    (l42 : K.lookup f42 = some ⟨oc42, od42, .func (PySem.W.fnOf "need_row" "Rules.need_row" (defArgs (mth 36 3)) (defBody (mth 36 3)) (defScope (mth 36 3)) .none kV42 dc42 pm42 an42 cd42 ct42), sl42⟩)
    (c42 : PySem.W.codeIn K cd42 "Rules.need_row" = true)
    (k42 : PySem.W.keepIn K (.ref f42) = true)
    (a43 : PySem.W.findIn K (.ref A0) "__getitem__" = some (some (.ref f43)))
    (i43 : PySem.W.isFn K (.ref f43) = true)
    (l43 : K.lookup f43 = some ⟨oc43, od43, .func (PySem.W.fnOf "__getitem__" "Rules.__getitem__" (defArgs (mth 36 4)) (defBody (mth 36 4)) (defScope (mth 36 4)) .none kV43 dc43 pm43 an43 cd43 ct43), sl43⟩)
    (c43 : PySem.W.codeIn K cd43 "Rules.__getitem__" = true)
    (k43 : PySem.W.keepIn K (.ref f43) = true)
    (a44 : PySem.W.findIn K (.ref A0) "__len__" = some (some (.ref f44)))
    (i44 : PySem.W.isFn K (.ref f44) = true)
    (l44 : K.lookup f44 = some ⟨oc44, od44, .func (PySem.W.fnOf "__len__" "Rules.__len__" (defArgs (mth 36 5)) (defBody (mth 36 5)) (defScope (mth 36 5)) .none kV44 dc44 pm44 an44 cd44 ct44), sl44⟩)
    (c44 : PySem.W.codeIn K cd44 "Rules.__len__" = true)
    (k44 : PySem.W.keepIn K (.ref f44) = true)
    (a45 : PySem.W.findIn K (.ref A0) "closing" = some (some (.ref f45)))
    (i45 : PySem.W.isFn K (.ref f45) = true)
    (l45 : K.lookup f45 = some ⟨oc45, od45, .func (PySem.W.fnOf "closing" "Rules.closing" (defArgs (mth 36 7)) (defBody (mth 36 7)) (defScope (mth 36 7)) .none kV45 dc45 pm45 an45 cd45 ct45), sl45⟩)
    (c45 : PySem.W.codeIn K cd45 "Rules.closing" = true)
    (k45 : PySem.W.keepIn K (.ref f45) = true)
    (a46 : PySem.W.findIn K (.ref A0) "__call__" = some (some (.ref f46)))
    (i46 : PySem.W.isFn K (.ref f46) = true)
    (l46 : K.lookup f46 = some ⟨oc46, od46, .func (PySem.W.fnOf "__call__" "Rules.__call__" (defArgs (mth 36 8)) (defBody (mth 36 8)) (defScope (mth 36 8)) .none kV46 dc46 pm46 an46 cd46 ct46), sl46⟩)
    (c46 : PySem.W.codeIn K cd46 "Rules.__call__" = true)
    (k46 : PySem.W.keepIn K (.ref f46) = true)
    (a47 : PySem.W.findIn K (.ref A0) "broken_by" = some (some (.ref f47)))
    (i47 : PySem.W.isFn K (.ref f47) = true)
    (l47 : K.lookup f47 = some ⟨oc47, od47, .func (PySem.W.fnOf "broken_by" "Rules.broken_by" (defArgs (mth 36 9)) (defBody (mth 36 9)) (defScope (mth 36 9)) .none kV47 dc47 pm47 an47 cd47 ct47), sl47⟩)
    (c47 : PySem.W.codeIn K cd47 "Rules.broken_by" = true)
    (k47 : PySem.W.keepIn K (.ref f47) = true)
    (a48 : PySem.W.findIn K (.ref A0) "__contains__" = some (some (.ref f48)))
    (i48 : PySem.W.isFn K (.ref f48) = true)
    (l48 : K.lookup f48 = some ⟨oc48, od48, .func (PySem.W.fnOf "__contains__" "Rules.__contains__" (defArgs (mth 36 10)) (defBody (mth 36 10)) (defScope (mth 36 10)) .none kV48 dc48 pm48 an48 cd48 ct48), sl48⟩)
    (c48 : PySem.W.codeIn K cd48 "Rules.__contains__" = true)
    (k48 : PySem.W.keepIn K (.ref f48) = true)
    (a49 : PySem.W.findIn K (.ref A0) "__add__" = some (some (.ref f49)))
    (i49 : PySem.W.isFn K (.ref f49) = true)
    (l49 : K.lookup f49 = some ⟨oc49, od49, .func (PySem.W.fnOf "__add__" "Rules.__add__" (defArgs (mth 36 11)) (defBody (mth 36 11)) (defScope (mth 36 11)) .none kV49 dc49 pm49 an49 cd49 ct49), sl49⟩)
    (c49 : PySem.W.codeIn K cd49 "Rules.__add__" = true)
    (k49 : PySem.W.keepIn K (.ref f49) = true)
    (a50 : PySem.W.findIn K (.ref A0) "without" = some (some (.ref f50)))
    (i50 : PySem.W.isFn K (.ref f50) = true)
    (l50 : K.lookup f50 = some ⟨oc50, od50, .func (PySem.W.fnOf "without" "Rules.without" (defArgs (mth 36 13)) (defBody (mth 36 13)) (defScope (mth 36 13)) .none kV50 dc50 pm50 an50 cd50 ct50), sl50⟩)
    (c50 : PySem.W.codeIn K cd50 "Rules.without" = true)
    (k50 : PySem.W.keepIn K (.ref f50) = true)
    (a51 : PySem.W.findIn K (.ref A0) "__or__" = some (some (.ref f51)))
    (i51 : PySem.W.isFn K (.ref f51) = true)
    (l51 : K.lookup f51 = some ⟨oc51, od51, .func (PySem.W.fnOf "__or__" "Rules.__or__" (defArgs (mth 36 14)) (defBody (mth 36 14)) (defScope (mth 36 14)) .none kV51 dc51 pm51 an51 cd51 ct51), sl51⟩)
    (c51 : PySem.W.codeIn K cd51 "Rules.__or__" = true)
    (k51 : PySem.W.keepIn K (.ref f51) = true)
    (a52 : PySem.W.findIn K (.ref A1) "__init__" = some (some (.ref f52)))
    (i52 : PySem.W.isFn K (.ref f52) = true)
    (l52 : K.lookup f52 = some ⟨oc52, od52, .func (PySem.W.fnOf "__init__" "Table.__init__" (defArgs (mth 39 0)) (defBody (mth 39 0)) (defScope (mth 39 0)) .none kV52 dc52 pm52 an52 cd52 ct52), sl52⟩)
    (c52 : PySem.W.codeIn K cd52 "Table.__init__" = true)
    (k52 : PySem.W.keepIn K (.ref f52) = true)
    (a53 : PySem.W.findIn K (.ref A1) "marks" = some (some (.ref p1)))
    (g53 : PySem.W.specialIn K (.ref p1) "__get__" = some (some (.builtin "property.__get__")))
    (t53_ : PySem.W.takesIn K (.ref p1) = some true)
    (r53 : PySem.W.recIn K p1 "property" = some (.ref f53 :: rest1))
    (l53 : K.lookup f53 = some ⟨oc53, od53, .func (PySem.W.fnOf "marks" "Table.marks" (defArgs (mth 39 1)) (defBody (mth 39 1)) (defScope (mth 39 1)) .none kV53 dc53 pm53 an53 cd53 ct53), sl53⟩)
    (c53 : PySem.W.codeIn K cd53 "Table.marks" = true)
    (k53 : PySem.W.keepIn K (.ref f53) = true)
    (a54 : PySem.W.findIn K (.ref A1) "lots" = some (some (.ref f54)))
    (i54 : PySem.W.isFn K (.ref f54) = true)
    (l54 : K.lookup f54 = some ⟨oc54, od54, .func (PySem.W.fnOf "lots" "Table.lots" (defArgs (mth 39 2)) (defBody (mth 39 2)) (defScope (mth 39 2)) .none kV54 dc54 pm54 an54 cd54 ct54), sl54⟩)
    (c54 : PySem.W.codeIn K cd54 "Table.lots" = true)
    (k54 : PySem.W.keepIn K (.ref f54) = true)
    (a55 : PySem.W.findIn K (.ref A1) "__len__" = some (some (.ref f55)))
    (i55 : PySem.W.isFn K (.ref f55) = true)
    (l55 : K.lookup f55 = some ⟨oc55, od55, .func (PySem.W.fnOf "__len__" "Table.__len__" (defArgs (mth 39 3)) (defBody (mth 39 3)) (defScope (mth 39 3)) .none kV55 dc55 pm55 an55 cd55 ct55), sl55⟩)
    (c55 : PySem.W.codeIn K cd55 "Table.__len__" = true)
    (k55 : PySem.W.keepIn K (.ref f55) = true)
    (a56 : PySem.W.findIn K (.ref A1) "__call__" = some (some (.ref f56)))
    (i56 : PySem.W.isFn K (.ref f56) = true)
    (l56 : K.lookup f56 = some ⟨oc56, od56, .func (PySem.W.fnOf "__call__" "Table.__call__" (defArgs (mth 39 5)) (defBody (mth 39 5)) (defScope (mth 39 5)) .none kV56 dc56 pm56 an56 cd56 ct56), sl56⟩)
    (c56 : PySem.W.codeIn K cd56 "Table.__call__" = true)
    (k56 : PySem.W.keepIn K (.ref f56) = true)
    (a57 : PySem.W.findIn K (.ref A1) "closing" = some (some (.ref f57)))
    (i57 : PySem.W.isFn K (.ref f57) = true)
    (l57 : K.lookup f57 = some ⟨oc57, od57, .func (PySem.W.fnOf "closing" "Table.closing" (defArgs (mth 39 6)) (defBody (mth 39 6)) (defScope (mth 39 6)) .none kV57 dc57 pm57 an57 cd57 ct57), sl57⟩)
    (c57 : PySem.W.codeIn K cd57 "Table.closing" = true)
    (k57 : PySem.W.keepIn K (.ref f57) = true)
    (a58 : PySem.W.findIn K (.ref A1) "__contains__" = some (some (.ref f58)))
    (i58 : PySem.W.isFn K (.ref f58) = true)
    (l58 : K.lookup f58 = some ⟨oc58, od58, .func (PySem.W.fnOf "__contains__" "Table.__contains__" (defArgs (mth 39 7)) (defBody (mth 39 7)) (defScope (mth 39 7)) .none kV58 dc58 pm58 an58 cd58 ct58), sl58⟩)
    (c58 : PySem.W.codeIn K cd58 "Table.__contains__" = true)
    (k58 : PySem.W.keepIn K (.ref f58) = true)
    (a59 : PySem.W.findIn K (.ref A1) "__add__" = some (some (.ref f59)))
    (i59 : PySem.W.isFn K (.ref f59) = true)
    (l59 : K.lookup f59 = some ⟨oc59, od59, .func (PySem.W.fnOf "__add__" "Table.__add__" (defArgs (mth 39 9)) (defBody (mth 39 9)) (defScope (mth 39 9)) .none kV59 dc59 pm59 an59 cd59 ct59), sl59⟩)
    (c59 : PySem.W.codeIn K cd59 "Table.__add__" = true)
    (k59 : PySem.W.keepIn K (.ref f59) = true)
    (a60 : PySem.W.findIn K (.ref A1) "without" = some (some (.ref f60)))
    (i60 : PySem.W.isFn K (.ref f60) = true)
    (l60 : K.lookup f60 = some ⟨oc60, od60, .func (PySem.W.fnOf "without" "Table.without" (defArgs (mth 39 10)) (defBody (mth 39 10)) (defScope (mth 39 10)) .none kV60 dc60 pm60 an60 cd60 ct60), sl60⟩)
    (c60 : PySem.W.codeIn K cd60 "Table.without" = true)
    (k60 : PySem.W.keepIn K (.ref f60) = true)
    (a61 : PySem.W.findIn K (.ref A1) "__or__" = some (some (.ref f61)))
    (i61 : PySem.W.isFn K (.ref f61) = true)
    (l61 : K.lookup f61 = some ⟨oc61, od61, .func (PySem.W.fnOf "__or__" "Table.__or__" (defArgs (mth 39 11)) (defBody (mth 39 11)) (defScope (mth 39 11)) .none kV61 dc61 pm61 an61 cd61 ct61), sl61⟩)
    (c61 : PySem.W.codeIn K cd61 "Table.__or__" = true)
    (k61 : PySem.W.keepIn K (.ref f61) = true)
    (y0 : PySem.W.nsIn K mainGlobals "LETTERS" = some (some (.str "abcdefghijklmnopqrstuvwxyz" t0)))
    (z1 : PySem.W.nsIn K mainGlobals "len" = some none)
    (z2 : PySem.W.nsIn K mainGlobals "int" = some none)
    (z3 : PySem.W.nsIn K mainGlobals "tuple" = some none)
    (z4 : PySem.W.nsIn K mainGlobals "list" = some none)
    (z5 : PySem.W.nsIn K mainGlobals "all" = some none)
    (z6 : PySem.W.nsIn K mainGlobals "any" = some none)
    (z7 : PySem.W.nsIn K mainGlobals "repr" = some none)
    (z8 : PySem.W.nsIn K mainGlobals "sorted" = some none)
    (z9 : PySem.W.nsIn K mainGlobals "abs" = some none)
    (z10 : PySem.W.nsIn K mainGlobals "set" = some none)
    (z11 : PySem.W.nsIn K mainGlobals "range" = some none)
    (z12 : PySem.W.nsIn K mainGlobals "enumerate" = some none)
    (z13 : PySem.W.nsIn K mainGlobals "isinstance" = some none)
    (z14 : PySem.W.nsIn K mainGlobals "str" = some none)
    (z15 : PySem.W.nsIn K mainGlobals "bool" = some none)
    (z16 : PySem.W.nsIn K mainGlobals "zip" = some none)
    (z17 : PySem.W.nsIn K mainGlobals "sum" = some none)
    (z18 : PySem.W.nsIn K mainGlobals "max" = some none)
    (z19 : PySem.W.nsIn K mainGlobals "min" = some none)
    (plain : Plain Γ 30 5 1 b_law) :
    ∃ fd : FuncData, (∀ (s : Shared) (u : Value), BindsTo s fd ⟨[u], []⟩ [("_law_script", u)]) ∧ ∀ base : Heap, FnG l.prog w K mg base 31 fa fd ["_law_script"] (spLaw K) := by
  have e := hfa.symm.trans (PySem.W.mg_of X G a38)
  cases e
  have F1 := fun_mk (st := top 9) l1 c1 k1
  have B1 := F1.binds (ps := ["marks"]) fun _ _ _ _ _ _ us hl => match us, hl with | [_], _ => rfl
  have F2 := fun_mk (st := top 10) l2 c2 k2
  have B2 := F2.binds (ps := ["lot"]) fun _ _ _ _ _ _ us hl => match us, hl with | [_], _ => rfl
  have F3 := fun_mk (st := top 11) l3 c3 k3
  have B3 := F3.binds (ps := ["lots"]) fun _ _ _ _ _ _ us hl => match us, hl with | [_], _ => rfl
  have F4 := fun_mk (st := top 12) l4 c4 k4
  have B4 := F4.binds (ps := ["marks"]) fun _ _ _ _ _ _ us hl => match us, hl with | [_], _ => rfl
  have F5 := fun_mk (st := top 13) l5 c5 k5
  have B5 := F5.binds (ps := ["one", "other"]) fun _ _ _ _ _ _ us hl => match us, hl with | [_, _], _ => rfl
  have F6 := fun_mk (st := top 14) l6 c6 k6
  have B6 := F6.binds (ps := ["one", "other"]) fun _ _ _ _ _ _ us hl => match us, hl with | [_, _], _ => rfl
  have F7 := fun_mk (st := top 15) l7 c7 k7
  have B7 := F7.binds (ps := ["one", "other"]) fun _ _ _ _ _ _ us hl => match us, hl with | [_, _], _ => rfl
  have F8 := fun_mk (st := top 16) l8 c8 k8
  have B8 := F8.binds (ps := ["one", "other"]) fun _ _ _ _ _ _ us hl => match us, hl with | [_, _], _ => rfl
  have F9 := fun_mk (st := top 19) l9 c9 k9
  have B9 := F9.binds (ps := ["thing"]) fun _ _ _ _ _ _ us hl => match us, hl with | [_], _ => rfl
  have F10 := fun_mk (st := top 20) l10 c10 k10
  have B10 := F10.binds (ps := ["thing"]) fun _ _ _ _ _ _ us hl => match us, hl with | [_], _ => rfl
  have F11 := fun_mk (st := top 21) l11 c11 k11
  have B11 := F11.binds (ps := ["thing"]) fun _ _ _ _ _ _ us hl => match us, hl with | [_], _ => rfl
  have F12 := fun_mk (st := top 22) l12 c12 k12
  have B12 := F12.binds (ps := ["thing"]) fun _ _ _ _ _ _ us hl => match us, hl with | [_], _ => rfl
  have F13 := fun_mk (st := top 24) l13 c13 k13
  have B13 := F13.binds (ps := ["theory", "thing"]) fun _ _ _ _ _ _ us hl => match us, hl with | [_, _], _ => rfl
  have F14 := fun_mk (st := top 25) l14 c14 k14
  have B14 := F14.binds (ps := ["theory"]) fun _ _ _ _ _ _ us hl => match us, hl with | [_], _ => rfl
  have F15 := fun_mk (st := top 26) l15 c15 k15
  have B15 := F15.binds (ps := ["theory"]) fun _ _ _ _ _ _ us hl => match us, hl with | [_], _ => rfl
  have F16 := fun_mk (st := top 27) l16 c16 k16
  have B16 := F16.binds (ps := ["theory", "thing"]) fun _ _ _ _ _ _ us hl => match us, hl with | [_, _], _ => rfl
  have F17 := fun_mk (st := top 28) l17 c17 k17
  have B17 := F17.binds (ps := ["theory", "lot"]) fun _ _ _ _ _ _ us hl => match us, hl with | [_, _], _ => rfl
  have F18 := fun_mk (st := top 29) l18 c18 k18
  have B18 := F18.binds (ps := ["theory", "number"]) fun _ _ _ _ _ _ us hl => match us, hl with | [_, _], _ => rfl
  have F19 := fun_mk (st := top 30) l19 c19 k19
  have B19 := F19.binds (ps := ["theory", "lot"]) fun _ _ _ _ _ _ us hl => match us, hl with | [_, _], _ => rfl
  have F20 := fun_mk (st := top 31) l20 c20 k20
  have B20 := F20.binds (ps := ["theory"]) fun _ _ _ _ _ _ us hl => match us, hl with | [_], _ => rfl
  have F21 := fun_mk (st := top 33) l21 c21 k21
  have B21 := F21.binds (ps := ["lot", "rule"]) fun _ _ _ _ _ _ us hl => match us, hl with | [_, _], _ => rfl
  have F22 := fun_mk (st := top 34) l22 c22 k22
  have B22 := F22.binds (ps := ["marks", "thing"]) fun _ _ _ _ _ _ us hl => match us, hl with | [_, _], _ => rfl
  have F23 := fun_mk (st := top 35) l23 c23 k23
  have B23 := F23.binds (ps := ["marks", "thing"]) fun _ _ _ _ _ _ us hl => match us, hl with | [_, _], _ => rfl
  have F24 := fun_mk (st := top 38) l24 c24 k24
  have B24 := F24.binds (ps := ["marks", "thing"]) fun _ _ _ _ _ _ us hl => match us, hl with | [_, _], _ => rfl
  have F25 := fun_mk (st := top 40) l25 c25 k25
  have B25 := F25.binds (ps := ["theory"]) fun _ _ _ _ _ _ us hl => match us, hl with | [_], _ => rfl
  have F26 := fun_mk (st := top 43) l26 c26 k26
  have B26 := F26.binds (ps := ["_law_bag_here", "_law_many"]) fun _ _ _ _ _ _ us hl => match us, hl with | [_, _], _ => rfl
  have F27 := fun_mk (st := top 44) l27 c27 k27
  have B27 := F27.binds (ps := ["_law_bag_here", "_law_things"]) fun _ _ _ _ _ _ us hl => match us, hl with | [_, _], _ => rfl
  have F28 := fun_mk (st := top 45) l28 c28 k28
  have B28 := F28.binds (ps := ["_law_bag_here", "_law_many"]) fun _ _ _ _ _ _ us hl => match us, hl with | [_, _], _ => rfl
  have F29 := fun_mk (st := top 46) l29 c29 k29
  have B29 := F29.binds (ps := ["_law_bag_here", "_law_marks_here"]) fun _ _ _ _ _ _ us hl => match us, hl with | [_, _], _ => rfl
  have F30 := fun_mk (st := top 47) l30 c30 k30
  have B30 := F30.binds (ps := ["_law_bag_here", "_law_marks_here", "_law_many"]) fun _ _ _ _ _ _ us hl => match us, hl with | [_, _, _], _ => rfl
  have F31 := fun_mk (st := top 48) l31 c31 k31
  have B31 := F31.binds (ps := ["_law_bag_here", "_law_marks_here"]) fun _ _ _ _ _ _ us hl => match us, hl with | [_, _], _ => rfl
  have F32 := fun_mk (st := top 49) l32 c32 k32
  have B32 := F32.binds (ps := ["_law_bag_here", "_law_marks_here", "_law_many"]) fun _ _ _ _ _ _ us hl => match us, hl with | [_, _, _], _ => rfl
  have F33 := fun_mk (st := top 50) l33 c33 k33
  have B33 := F33.binds (ps := ["_law_bag_here", "_law_marks_here", "_law_many"]) fun _ _ _ _ _ _ us hl => match us, hl with | [_, _, _], _ => rfl
  have F34 := fun_mk (st := top 51) l34 c34 k34
  have B34 := F34.binds (ps := ["_law_one", "_law_other"]) fun _ _ _ _ _ _ us hl => match us, hl with | [_, _], _ => rfl
  have F35 := fun_mk (st := top 52) l35 c35 k35
  have B35 := F35.binds (ps := ["_law_bag_here", "_law_theory"]) fun _ _ _ _ _ _ us hl => match us, hl with | [_, _], _ => rfl
  have F36 := fun_mk (st := top 53) l36 c36 k36
  have B36 := F36.binds (ps := ["_law_bag_here", "_law_theory"]) fun _ _ _ _ _ _ us hl => match us, hl with | [_, _], _ => rfl
  have F37 := fun_mk (st := top 42) l37 c37 k37
  have B37 := F37.binds (ps := ["_law_script"]) fun _ _ _ _ _ _ us hl => match us, hl with | [_], _ => rfl
  have F38 := fun_mk (st := top 54) l38 c38 k38
  have B38 := F38.binds (ps := ["_law_script"]) fun _ _ _ _ _ _ us hl => match us, hl with | [_], _ => rfl
  have F39 := fun_mk (st := mth 36 0) l39 c39 k39
  have B39 := F39.binds (ps := ["self", "marks", "rows"]) fun _ _ _ _ _ _ us hl => match us, hl with | [_, _, _], _ => rfl
  have F40 := fun_mk (st := mth 36 1) l40 c40 k40
  have B40 := F40.binds (ps := ["self"]) fun _ _ _ _ _ _ us hl => match us, hl with | [_], _ => rfl
  have F41 := fun_mk (st := mth 36 2) l41 c41 k41
  have B41 := F41.binds (ps := ["self"]) fun _ _ _ _ _ _ us hl => match us, hl with | [_], _ => rfl
  have F42 := fun_mk (st := mth 36 3) l42 c42 k42
  have B42 := F42.binds (ps := ["self", "index"]) fun _ _ _ _ _ _ us hl => match us, hl with | [_, _], _ => rfl
  have F43 := fun_mk (st := mth 36 4) l43 c43 k43
  have B43 := F43.binds (ps := ["self", "index"]) fun _ _ _ _ _ _ us hl => match us, hl with | [_, _], _ => rfl
  have F44 := fun_mk (st := mth 36 5) l44 c44 k44
  have B44 := F44.binds (ps := ["self"]) fun _ _ _ _ _ _ us hl => match us, hl with | [_], _ => rfl
  have F45 := fun_mk (st := mth 36 7) l45 c45 k45
  have B45 := F45.binds (ps := ["self", "lot"]) fun _ _ _ _ _ _ us hl => match us, hl with | [_, _], _ => rfl
  have F46 := fun_mk (st := mth 36 8) l46 c46 k46
  have B46 := F46.binds (ps := ["self", "lot"]) fun _ _ _ _ _ _ us hl => match us, hl with | [_, _], _ => rfl
  have F47 := fun_mk (st := mth 36 9) l47 c47 k47
  have B47 := F47.binds (ps := ["self", "lot"]) fun _ _ _ _ _ _ us hl => match us, hl with | [_, _], _ => rfl
  have F48 := fun_mk (st := mth 36 10) l48 c48 k48
  have B48 := F48.binds (ps := ["self", "thing"]) fun _ _ _ _ _ _ us hl => match us, hl with | [_, _], _ => rfl
  have F49 := fun_mk (st := mth 36 11) l49 c49 k49
  have B49 := F49.binds (ps := ["self", "rule"]) fun _ _ _ _ _ _ us hl => match us, hl with | [_, _], _ => rfl
  have F50 := fun_mk (st := mth 36 13) l50 c50 k50
  have B50 := F50.binds (ps := ["self", "index"]) fun _ _ _ _ _ _ us hl => match us, hl with | [_, _], _ => rfl
  have F51 := fun_mk (st := mth 36 14) l51 c51 k51
  have B51 := F51.binds (ps := ["self", "other"]) fun _ _ _ _ _ _ us hl => match us, hl with | [_, _], _ => rfl
  have F52 := fun_mk (st := mth 39 0) l52 c52 k52
  have B52 := F52.binds (ps := ["self", "marks", "lots"]) fun _ _ _ _ _ _ us hl => match us, hl with | [_, _, _], _ => rfl
  have F53 := fun_mk (st := mth 39 1) l53 c53 k53
  have B53 := F53.binds (ps := ["self"]) fun _ _ _ _ _ _ us hl => match us, hl with | [_], _ => rfl
  have F54 := fun_mk (st := mth 39 2) l54 c54 k54
  have B54 := F54.binds (ps := ["self"]) fun _ _ _ _ _ _ us hl => match us, hl with | [_], _ => rfl
  have F55 := fun_mk (st := mth 39 3) l55 c55 k55
  have B55 := F55.binds (ps := ["self"]) fun _ _ _ _ _ _ us hl => match us, hl with | [_], _ => rfl
  have F56 := fun_mk (st := mth 39 5) l56 c56 k56
  have B56 := F56.binds (ps := ["self", "lot"]) fun _ _ _ _ _ _ us hl => match us, hl with | [_, _], _ => rfl
  have F57 := fun_mk (st := mth 39 6) l57 c57 k57
  have B57 := F57.binds (ps := ["self", "lot"]) fun _ _ _ _ _ _ us hl => match us, hl with | [_, _], _ => rfl
  have F58 := fun_mk (st := mth 39 7) l58 c58 k58
  have B58 := F58.binds (ps := ["self", "thing"]) fun _ _ _ _ _ _ us hl => match us, hl with | [_, _], _ => rfl
  have F59 := fun_mk (st := mth 39 9) l59 c59 k59
  have B59 := F59.binds (ps := ["self", "lot"]) fun _ _ _ _ _ _ us hl => match us, hl with | [_, _], _ => rfl
  have F60 := fun_mk (st := mth 39 10) l60 c60 k60
  have B60 := F60.binds (ps := ["self", "index"]) fun _ _ _ _ _ _ us hl => match us, hl with | [_, _], _ => rfl
  have F61 := fun_mk (st := mth 39 11) l61 c61 k61
  have B61 := F61.binds (ps := ["self", "other"]) fun _ _ _ _ _ _ us hl => match us, hl with | [_, _], _ => rfl
  have M0 : ClsMod K mg tb Γ 0 A0 cT0 := by
    refine ⟨⟨pg0, hd0, po0, sa0⟩, PySem.W.mg_of X G gA0, fun x hx => ?_, fun x hx => ?_, fun x hx => ?_, ?_, sf0, fun x h1 h2 h3 => nom_of (l := mtab.getD 0 []) (T := cT0) (by decide +kernel) h1 h2 h3⟩
    · simp only [cT0, List.mem_cons, List.not_mem_nil, or_false] at hx
      rcases hx with rfl | rfl
      · exact n0_0
      · exact n0_1
    · simp only [cT0, List.mem_cons, List.not_mem_nil, or_false] at hx
      rcases hx with rfl | rfl | rfl | rfl | rfl | rfl | rfl | rfl | rfl | rfl | rfl
      · exact ⟨by decide +kernel, _, mth 36 2, _, _, ["self"], ["self"], fd_Rules_rows, F41, ⟨a41, i41, k41⟩, B41, by rfl, sc_Rules_rows, rfl, rfl, ch_Rules_rows⟩
      · exact ⟨by decide +kernel, _, mth 36 3, _, _, ["self", "index"], ["self", "index"], fd_Rules_need_row, F42, ⟨a42, i42, k42⟩, B42, by rfl, sc_Rules_need_row, rfl, rfl, ch_Rules_need_row⟩
      · exact ⟨by decide +kernel, _, mth 36 4, _, _, ["self", "index"], ["self", "index"], fd_Rules___getitem__, F43, ⟨a43, i43, k43⟩, B43, by rfl, sc_Rules___getitem__, rfl, rfl, ch_Rules___getitem__⟩
      · exact ⟨by decide +kernel, _, mth 36 5, _, _, ["self"], ["self"], fd_Rules___len__, F44, ⟨a44, i44, k44⟩, B44, by rfl, sc_Rules___len__, rfl, rfl, ch_Rules___len__⟩
      · exact ⟨by decide +kernel, _, mth 36 7, _, _, ["self", "lot", "broken", "ahead", "behind"], ["self", "lot"], fd_Rules_closing, F45, ⟨a45, i45, k45⟩, B45, by rfl, sc_Rules_closing, rfl, rfl, ch_Rules_closing⟩
      · exact ⟨by decide +kernel, _, mth 36 8, _, _, ["self", "lot"], ["self", "lot"], fd_Rules___call__, F46, ⟨a46, i46, k46⟩, B46, by rfl, sc_Rules___call__, rfl, rfl, ch_Rules___call__⟩
      · exact ⟨by decide +kernel, _, mth 36 9, _, _, ["self", "lot", "row"], ["self", "lot"], fd_Rules_broken_by, F47, ⟨a47, i47, k47⟩, B47, by rfl, sc_Rules_broken_by, rfl, rfl, ch_Rules_broken_by⟩
      · exact ⟨by decide +kernel, _, mth 36 10, _, _, ["self", "thing"], ["self", "thing"], fd_Rules___contains__, F48, ⟨a48, i48, k48⟩, B48, by rfl, sc_Rules___contains__, rfl, rfl, ch_Rules___contains__⟩
      · exact ⟨by decide +kernel, _, mth 36 11, _, _, ["self", "rule"], ["self", "rule"], fd_Rules___add__, F49, ⟨a49, i49, k49⟩, B49, by rfl, sc_Rules___add__, rfl, rfl, ch_Rules___add__⟩
      · exact ⟨by decide +kernel, _, mth 36 13, _, _, ["self", "index"], ["self", "index"], fd_Rules_without, F50, ⟨a50, i50, k50⟩, B50, by rfl, sc_Rules_without, rfl, rfl, ch_Rules_without⟩
      · exact ⟨by decide +kernel, _, mth 36 14, _, _, ["self", "other"], ["self", "other"], fd_Rules___or__, F51, ⟨a51, i51, k51⟩, B51, by rfl, sc_Rules___or__, rfl, rfl, ch_Rules___or__⟩
    · simp only [cT0, List.mem_cons, List.not_mem_nil, or_false] at hx
      subst hx
      · exact ⟨_, mth 36 1, _, _, _, ["self"], ["self"], fd_Rules_marks, F40, ⟨a40, g40, t40_, _, r40⟩, B40, by rfl, sc_Rules_marks, rfl, rfl, ch_Rules_marks⟩
    · exact ⟨_, mth 36 0, _, _, ["self", "marks", "rows"], ["self", "marks", "rows"], fd_Rules___init__, F39, ⟨mk0, a39, i39, kc0⟩, B39, by rfl, sc_Rules___init__, rfl, rfl, ch_Rules___init__⟩
  have M1 : ClsMod K mg tb Γ 1 A1 cT1 := by
    refine ⟨⟨pg1, hd1, po1, sa1⟩, PySem.W.mg_of X G gA1, fun x hx => ?_, fun x hx => ?_, fun x hx => ?_, ?_, sf1, fun x h1 h2 h3 => nom_of (l := mtab.getD 1 []) (T := cT1) (by decide +kernel) h1 h2 h3⟩
    · simp only [cT1, List.mem_cons, List.not_mem_nil, or_false] at hx
      rcases hx with rfl | rfl
      · exact n1_0
      · exact n1_1
    · simp only [cT1, List.mem_cons, List.not_mem_nil, or_false] at hx
      rcases hx with rfl | rfl | rfl | rfl | rfl | rfl | rfl | rfl
      · exact ⟨by decide +kernel, _, mth 39 2, _, _, ["self"], ["self"], fd_Table_lots, F54, ⟨a54, i54, k54⟩, B54, by rfl, sc_Table_lots, rfl, rfl, ch_Table_lots⟩
      · exact ⟨by decide +kernel, _, mth 39 3, _, _, ["self"], ["self"], fd_Table___len__, F55, ⟨a55, i55, k55⟩, B55, by rfl, sc_Table___len__, rfl, rfl, ch_Table___len__⟩
      · exact ⟨by decide +kernel, _, mth 39 5, _, _, ["self", "lot"], ["self", "lot"], fd_Table___call__, F56, ⟨a56, i56, k56⟩, B56, by rfl, sc_Table___call__, rfl, rfl, ch_Table___call__⟩
      · exact ⟨by decide +kernel, _, mth 39 6, _, _, ["self", "lot", "found", "one"], ["self", "lot"], fd_Table_closing, F57, ⟨a57, i57, k57⟩, B57, by rfl, sc_Table_closing, rfl, rfl, ch_Table_closing⟩
      · exact ⟨by decide +kernel, _, mth 39 7, _, _, ["self", "thing"], ["self", "thing"], fd_Table___contains__, F58, ⟨a58, i58, k58⟩, B58, by rfl, sc_Table___contains__, rfl, rfl, ch_Table___contains__⟩
      · exact ⟨by decide +kernel, _, mth 39 9, _, _, ["self", "lot"], ["self", "lot"], fd_Table___add__, F59, ⟨a59, i59, k59⟩, B59, by rfl, sc_Table___add__, rfl, rfl, ch_Table___add__⟩
      · exact ⟨by decide +kernel, _, mth 39 10, _, _, ["self", "index"], ["self", "index"], fd_Table_without, F60, ⟨a60, i60, k60⟩, B60, by rfl, sc_Table_without, rfl, rfl, ch_Table_without⟩
      · exact ⟨by decide +kernel, _, mth 39 11, _, _, ["self", "other"], ["self", "other"], fd_Table___or__, F61, ⟨a61, i61, k61⟩, B61, by rfl, sc_Table___or__, rfl, rfl, ch_Table___or__⟩
    · simp only [cT1, List.mem_cons, List.not_mem_nil, or_false] at hx
      subst hx
      · exact ⟨_, mth 39 1, _, _, _, ["self"], ["self"], fd_Table_marks, F53, ⟨a53, g53, t53_, _, r53⟩, B53, by rfl, sc_Table_marks, rfl, rfl, ch_Table_marks⟩
    · exact ⟨_, mth 39 0, _, _, ["self", "marks", "lots", "lot"], ["self", "marks", "lots"], fd_Table___init__, F52, ⟨mk1, a52, i52, kc1⟩, B52, by rfl, sc_Table___init__, rfl, rfl, ch_Table___init__⟩
  have mo : ModOk K mg tb [A0, A1] Γ := by
    refine ⟨fun x hx => ?_, fun x hx => ?_, fun f => ?_, ⟨PySem.W.mg_none_of X G z10, PySem.W.mg_none_of X G z11, PySem.W.mg_none_of X G z12⟩, ⟨PySem.W.mg_none_of X G z13, PySem.W.mg_none_of X G z14, PySem.W.mg_none_of X G z15⟩, PySem.W.mg_none_of X G z16, fun x y h => ?_, fun c A T hA hT => ?_, rfl, fun hz => ?_⟩
    · simp only [tb, fns, List.mem_cons, List.not_mem_nil, or_false] at hx
      rcases hx with rfl | rfl | rfl | rfl | rfl | rfl | rfl | rfl | rfl | rfl | rfl | rfl | rfl | rfl | rfl | rfl | rfl | rfl | rfl | rfl | rfl | rfl | rfl | rfl | rfl | rfl | rfl | rfl | rfl | rfl | rfl | rfl | rfl | rfl | rfl | rfl
      · exact ⟨_, top 9, _, _, ["marks"], ["marks"], fd_lot_of, F1, PySem.W.mg_of X G a1, B1, by rfl, sc_lot_of, rfl, rfl, ch_lot_of⟩
      · exact ⟨_, top 10, _, _, ["lot"], ["lot"], fd_rank, F2, PySem.W.mg_of X G a2, B2, by rfl, sc_rank, rfl, rfl, ch_rank⟩
      · exact ⟨_, top 11, _, _, ["lots"], ["lots"], fd_in_order, F3, PySem.W.mg_of X G a3, B3, by rfl, sc_in_order, rfl, rfl, ch_in_order⟩
      · exact ⟨_, top 12, _, _, ["marks", "found", "mark", "lot"], ["marks"], fd_all_lots, F4, PySem.W.mg_of X G a4, B4, by rfl, sc_all_lots, rfl, rfl, ch_all_lots⟩
      · exact ⟨_, top 13, _, _, ["one", "other"], ["one", "other"], fd_comes_before, F5, PySem.W.mg_of X G a5, B5, by rfl, sc_comes_before, rfl, rfl, ch_comes_before⟩
      · exact ⟨_, top 14, _, _, ["one", "other", "mark"], ["one", "other"], fd_within, F6, PySem.W.mg_of X G a6, B6, by rfl, sc_within, rfl, rfl, ch_within⟩
      · exact ⟨_, top 15, _, _, ["one", "other"], ["one", "other"], fd_joined, F7, PySem.W.mg_of X G a7, B7, by rfl, sc_joined, rfl, rfl, ch_joined⟩
      · exact ⟨_, top 16, _, _, ["one", "other", "mark"], ["one", "other"], fd_common, F8, PySem.W.mg_of X G a8, B8, by rfl, sc_common, rfl, rfl, ch_common⟩
      · exact ⟨_, top 19, _, _, ["thing"], ["thing"], fd_is_integer, F9, PySem.W.mg_of X G a9, B9, by rfl, sc_is_integer, rfl, rfl, ch_is_integer⟩
      · exact ⟨_, top 20, _, _, ["thing", "sign"], ["thing"], fd_is_mark, F10, PySem.W.mg_of X G a10, B10, by rfl, sc_is_mark, rfl, rfl, ch_is_mark⟩
      · exact ⟨_, top 21, _, _, ["thing", "at", "mark"], ["thing"], fd_is_lot, F11, PySem.W.mg_of X G a11, B11, by rfl, sc_is_lot, rfl, rfl, ch_is_lot⟩
      · exact ⟨_, top 22, _, _, ["thing"], ["thing"], fd_is_rule, F12, PySem.W.mg_of X G a12, B12, by rfl, sc_is_rule, rfl, rfl, ch_is_rule⟩
      · exact ⟨_, top 24, _, _, ["theory", "thing"], ["theory", "thing"], fd_is_closed, F13, PySem.W.mg_of X G a13, B13, by rfl, sc_is_closed, rfl, rfl, ch_is_closed⟩
      · exact ⟨_, top 25, _, _, ["theory", "lot"], ["theory"], fd_closed_lots, F14, PySem.W.mg_of X G a14, B14, by rfl, sc_closed_lots, rfl, rfl, ch_closed_lots⟩
      · exact ⟨_, top 26, _, _, ["theory"], ["theory"], fd_count, F15, PySem.W.mg_of X G a15, B15, by rfl, sc_count, rfl, rfl, ch_count⟩
      · exact ⟨_, top 27, _, _, ["theory", "thing"], ["theory", "thing"], fd_need_closed, F16, PySem.W.mg_of X G a16, B16, by rfl, sc_need_closed, rfl, rfl, ch_need_closed⟩
      · exact ⟨_, top 28, _, _, ["theory", "lot"], ["theory", "lot"], fd_number_of, F17, PySem.W.mg_of X G a17, B17, by rfl, sc_number_of, rfl, rfl, ch_number_of⟩
      · exact ⟨_, top 29, _, _, ["theory", "number", "found"], ["theory", "number"], fd_lot_at, F18, PySem.W.mg_of X G a18, B18, by rfl, sc_lot_at, rfl, rfl, ch_lot_at⟩
      · exact ⟨_, top 30, _, _, ["theory", "lot", "above", "mark", "later", "one", "other"], ["theory", "lot"], fd_next_ones, F19, PySem.W.mg_of X G a19, B19, by rfl, sc_next_ones, rfl, rfl, ch_next_ones⟩
      · exact ⟨_, top 31, _, _, ["theory", "found", "lot", "later"], ["theory"], fd_narrow, F20, PySem.W.mg_of X G a20, B20, by rfl, sc_narrow, rfl, rfl, ch_narrow⟩
      · exact ⟨_, top 33, _, _, ["lot", "rule"], ["lot", "rule"], fd_breaks, F21, PySem.W.mg_of X G a21, B21, by rfl, sc_breaks, rfl, rfl, ch_breaks⟩
      · exact ⟨_, top 34, _, _, ["marks", "thing"], ["marks", "thing"], fd_is_rule_of, F22, PySem.W.mg_of X G a22, B22, by rfl, sc_is_rule_of, rfl, rfl, ch_is_rule_of⟩
      · exact ⟨_, top 35, _, _, ["marks", "thing", "row"], ["marks", "thing"], fd_are_rules_of, F23, PySem.W.mg_of X G a23, B23, by rfl, sc_are_rules_of, rfl, rfl, ch_are_rules_of⟩
      · exact ⟨_, top 38, _, _, ["marks", "thing"], ["marks", "thing"], fd_is_lot_of, F24, PySem.W.mg_of X G a24, B24, by rfl, sc_is_lot_of, rfl, rfl, ch_is_lot_of⟩
      · exact ⟨_, top 40, _, _, ["theory", "lot", "later"], ["theory"], fd_table_of, F25, PySem.W.mg_of X G a25, B25, by rfl, sc_table_of, rfl, rfl, ch_table_of⟩
      · exact ⟨_, top 43, _, _, ["_law_bag_here", "_law_many", "_law_begin", "_law_second", "_law_cell", "_law_mixed_here", "_law_value"], ["_law_bag_here", "_law_many"], fd__law_take, F26, PySem.W.mg_of X G a26, B26, by rfl, sc__law_take, rfl, rfl, ch__law_take⟩
      · exact ⟨_, top 44, _, _, ["_law_bag_here", "_law_things", "_law_found", "_law_thing"], ["_law_bag_here", "_law_things"], fd__law_mixed, F27, PySem.W.mg_of X G a27, B27, by rfl, sc__law_mixed, rfl, rfl, ch__law_mixed⟩
      · exact ⟨_, top 45, _, _, ["_law_bag_here", "_law_many", "_law_menu", "_law_letters", "_law_stem", "_law_way", "_law_turn", "_law_k"], ["_law_bag_here", "_law_many"], fd__law_marks, F28, PySem.W.mg_of X G a28, B28, by rfl, sc__law_marks, rfl, rfl, ch__law_marks⟩
      · exact ⟨_, top 46, _, _, ["_law_bag_here", "_law_marks_here", "_law_mark"], ["_law_bag_here", "_law_marks_here"], fd__law_lot, F29, PySem.W.mg_of X G a29, B29, by rfl, sc__law_lot, rfl, rfl, ch__law_lot⟩
      · exact ⟨_, top 47, _, _, ["_law_bag_here", "_law_marks_here", "_law_many"], ["_law_bag_here", "_law_marks_here", "_law_many"], fd__law_few, F30, PySem.W.mg_of X G a30, B30, by rfl, sc__law_few, rfl, rfl, ch__law_few⟩
      · exact ⟨_, top 48, _, _, ["_law_bag_here", "_law_marks_here", "_law_way", "_law_ahead"], ["_law_bag_here", "_law_marks_here"], fd__law_rule, F31, PySem.W.mg_of X G a31, B31, by rfl, sc__law_rule, rfl, rfl, ch__law_rule⟩
      · exact ⟨_, top 49, _, _, ["_law_bag_here", "_law_marks_here", "_law_many", "_law_found", "_law_k"], ["_law_bag_here", "_law_marks_here", "_law_many"], fd__law_some_rows, F32, PySem.W.mg_of X G a32, B32, by rfl, sc__law_some_rows, rfl, rfl, ch__law_some_rows⟩
      · exact ⟨_, top 50, _, _, ["_law_bag_here", "_law_marks_here", "_law_many", "_law_found", "_law_k"], ["_law_bag_here", "_law_marks_here", "_law_many"], fd__law_table, F33, PySem.W.mg_of X G a33, B33, by rfl, sc__law_table, rfl, rfl, ch__law_table⟩
      · exact ⟨_, top 51, _, _, ["_law_one", "_law_other", "_law_lot_here"], ["_law_one", "_law_other"], fd__law_same, F34, PySem.W.mg_of X G a34, B34, by rfl, sc__law_same, rfl, rfl, ch__law_same⟩
      · exact ⟨_, top 52, _, _, ["_law_bag_here", "_law_theory", "_law_some", "_law_wide", "_law_every", "_law_told", "_law_at", "_law_lot_here", "_law_less", "_law_lacking", "_law_one", "_law_later"], ["_law_bag_here", "_law_theory"], fd__law_right_v2, F35, PySem.W.mg_of X G a35, B35, by rfl, sc__law_right, rfl, rfl, ch__law_right⟩
      · exact ⟨_, top 53, _, _, ["_law_bag_here", "_law_theory", "_law_many", "_law_k", "_law_at", "_law_to", "_law_one", "_law_other"], ["_law_bag_here", "_law_theory"], fd__law_numbers_right, F36, PySem.W.mg_of X G a36, B36, by rfl, sc__law_numbers_right, rfl, rfl, ch__law_numbers_right⟩
    · simp only [tb, rks, List.mem_cons, List.not_mem_nil, or_false] at hx
      subst hx
      · exact ⟨_, _, "lot", _, _, top 10, PySem.W.mg_of X G a2, F2, C8.fnScope_by (by decide +kernel), B2, by decide +kernel, by decide +kernel, by decide +kernel, by decide +kernel, PySem.W.mg_none_of X G z1⟩
    · cases f
      · exact PySem.W.mg_none_of X G z1
      · exact PySem.W.mg_none_of X G z2
      · exact PySem.W.mg_none_of X G z3
      · exact PySem.W.mg_none_of X G z4
      · exact PySem.W.mg_none_of X G z5
      · exact PySem.W.mg_none_of X G z6
      · exact PySem.W.mg_none_of X G z7
      · exact PySem.W.mg_none_of X G z8
      · exact PySem.W.mg_none_of X G z8
      · exact PySem.W.mg_none_of X G z9
      · exact PySem.W.mg_none_of X G z17
      · exact PySem.W.mg_none_of X G z18
      · exact PySem.W.mg_none_of X G z19
    · simp only [tb, cst, List.mem_cons, List.not_mem_nil, or_false] at h
      have z := h
      · cases z
        exact ⟨_, PySem.W.mg_of X G y0⟩
    · rcases c with _ | _ | c
      · have hA1 : some A0 = some A := hA
        cases hA1
        rw [cls0] at hT
        cases hT
        exact M0
      · have hA1 : some A1 = some A := hA
        cases hA1
        rw [cls1] at hT
        cases hT
        exact M1
      · simp at hA
    · exact absurd hz (by decide)
  have bo : BagOk K mg := ⟨_, top 42, _, _, "_law_script", "_law_cell", F37, PySem.W.mg_of X G a37, B37, sc_bag, ch_bag⟩
  exact ⟨_, fun s u => .of_eq rfl, fun base => law_fn (k := 29) mo bo ⟨_, top 54, _, F38, sc_law, rfl, ch_law⟩ plain⟩
end Ev.T
open PySem PySem.W PyProof.Rows
set_option maxRecDepth 100000 in
set_option maxHeartbeats 0 in
theorem PySem.Challenge.cw_thesesothose_k36_whole_narrow_lots_are_n_holds : PySem.Challenge.rw_thesesothose_k36_whole_narrow_lots_are_n.Holds := by
  w_on; o_law; k_head; (case hw => w_witness2)
  k_fill
  refine Ev.walkG (l := PySem.Challenge.rw_thesesothose_k36_whole_narrow_lots_are_n) (n := 63) (k := 31) (x := "_law_script") rfl (by decide) rfl ⟨rfl, by decide, by decide⟩ (fun w h Y => PySem.W.kIn_of Y) ?F
  case F =>
    intro w mg fa h KX G hmg
    refine' Ev.T.all_mk KX G hmg ?gA0 ?pg0 ?hd0 ?po0 ?sa0 ?mk0 ?kc0 ?sf0 ?n0_0 ?n0_1 ?gA1 ?pg1 ?hd1 ?po1 ?sa1 ?mk1 ?kc1 ?sf1 ?n1_0 ?n1_1 ?a1 ?l1 ?c1 ?k1 ?a2 ?l2 ?c2 ?k2 ?a3 ?l3 ?c3 ?k3 ?a4 ?l4 ?c4 ?k4 ?a5 ?l5 ?c5 ?k5 ?a6 ?l6 ?c6 ?k6 ?a7 ?l7 ?c7 ?k7 ?a8 ?l8 ?c8 ?k8 ?a9 ?l9 ?c9 ?k9 ?a10 ?l10 ?c10 ?k10 ?a11 ?l11 ?c11 ?k11 ?a12 ?l12 ?c12 ?k12 ?a13 ?l13 ?c13 ?k13 ?a14 ?l14 ?c14 ?k14 ?a15 ?l15 ?c15 ?k15 ?a16 ?l16 ?c16 ?k16 ?a17 ?l17 ?c17 ?k17 ?a18 ?l18 ?c18 ?k18 ?a19 ?l19 ?c19 ?k19 ?a20 ?l20 ?c20 ?k20 ?a21 ?l21 ?c21 ?k21 ?a22 ?l22 ?c22 ?k22 ?a23 ?l23 ?c23 ?k23 ?a24 ?l24 ?c24 ?k24 ?a25 ?l25 ?c25 ?k25 ?a26 ?l26 ?c26 ?k26 ?a27 ?l27 ?c27 ?k27 ?a28 ?l28 ?c28 ?k28 ?a29 ?l29 ?c29 ?k29 ?a30 ?l30 ?c30 ?k30 ?a31 ?l31 ?c31 ?k31 ?a32 ?l32 ?c32 ?k32 ?a33 ?l33 ?c33 ?k33 ?a34 ?l34 ?c34 ?k34 ?a35 ?l35 ?c35 ?k35 ?a36 ?l36 ?c36 ?k36 ?a37 ?l37 ?c37 ?k37 ?a38 ?l38 ?c38 ?k38 ?a39 ?i39 ?l39 ?c39 ?k39 ?a40 ?g40 ?t40_ ?r40 ?l40 ?c40 ?k40 ?a41 ?i41 ?l41 ?c41 ?k41 ?a42 ?i42 ?l42 ?c42 ?k42 ?a43 ?i43 ?l43 ?c43 ?k43 ?a44 ?i44 ?l44 ?c44 ?k44 ?a45 ?i45 ?l45 ?c45 ?k45 ?a46 ?i46 ?l46 ?c46 ?k46 ?a47 ?i47 ?l47 ?c47 ?k47 ?a48 ?i48 ?l48 ?c48 ?k48 ?a49 ?i49 ?l49 ?c49 ?k49 ?a50 ?i50 ?l50 ?c50 ?k50 ?a51 ?i51 ?l51 ?c51 ?k51 ?a52 ?i52 ?l52 ?c52 ?k52 ?a53 ?g53 ?t53_ ?r53 ?l53 ?c53 ?k53 ?a54 ?i54 ?l54 ?c54 ?k54 ?a55 ?i55 ?l55 ?c55 ?k55 ?a56 ?i56 ?l56 ?c56 ?k56 ?a57 ?i57 ?l57 ?c57 ?k57 ?a58 ?i58 ?l58 ?c58 ?k58 ?a59 ?i59 ?l59 ?c59 ?k59 ?a60 ?i60 ?l60 ?c60 ?k60 ?a61 ?i61 ?l61 ?c61 ?k61 ?y0 ?z1 ?z2 ?z3 ?z4 ?z5 ?z6 ?z7 ?z8 ?z9 ?z10 ?z11 ?z12 ?z13 ?z14 ?z15 ?z16 ?z17 ?z18 ?z19 Ev.T.plain
    (case gA0 => k_is)
    (case pg0 => k_is)
    (case hd0 => k_is)
    (case po0 => k_is)
    (case sa0 => k_is)
    (case mk0 => k_is)
    (case kc0 => k_is)
    (case sf0 => k_is)
    (case n0_0 => k_is)
    (case n0_1 => k_is)
    (case gA1 => k_is)
    (case pg1 => k_is)
    (case hd1 => k_is)
    (case po1 => k_is)
    (case sa1 => k_is)
    (case mk1 => k_is)
    (case kc1 => k_is)
    (case sf1 => k_is)
    (case n1_0 => k_is)
    (case n1_1 => k_is)
    (case a1 => k_is)
    (case l1 => k_is)
    (case c1 => k_is)
    (case k1 => k_is)
    (case a2 => k_is)
    (case l2 => k_is)
    (case c2 => k_is)
    (case k2 => k_is)
    (case a3 => k_is)
    (case l3 => k_is)
    (case c3 => k_is)
    (case k3 => k_is)
    (case a4 => k_is)
    (case l4 => k_is)
    (case c4 => k_is)
    (case k4 => k_is)
    (case a5 => k_is)
    (case l5 => k_is)
    (case c5 => k_is)
    (case k5 => k_is)
    (case a6 => k_is)
    (case l6 => k_is)
    (case c6 => k_is)
    (case k6 => k_is)
    (case a7 => k_is)
    (case l7 => k_is)
    (case c7 => k_is)
    (case k7 => k_is)
    (case a8 => k_is)
    (case l8 => k_is)
    (case c8 => k_is)
    (case k8 => k_is)
    (case a9 => k_is)
    (case l9 => k_is)
    (case c9 => k_is)
    (case k9 => k_is)
    (case a10 => k_is)
    (case l10 => k_is)
    (case c10 => k_is)
    (case k10 => k_is)
    (case a11 => k_is)
    (case l11 => k_is)
    (case c11 => k_is)
    (case k11 => k_is)
    (case a12 => k_is)
    (case l12 => k_is)
    (case c12 => k_is)
    (case k12 => k_is)
    (case a13 => k_is)
    (case l13 => k_is)
    (case c13 => k_is)
    (case k13 => k_is)
    (case a14 => k_is)
    (case l14 => k_is)
    (case c14 => k_is)
    (case k14 => k_is)
    (case a15 => k_is)
    (case l15 => k_is)
    (case c15 => k_is)
    (case k15 => k_is)
    (case a16 => k_is)
    (case l16 => k_is)
    (case c16 => k_is)
    (case k16 => k_is)
    (case a17 => k_is)
    (case l17 => k_is)
    (case c17 => k_is)
    (case k17 => k_is)
    (case a18 => k_is)
    (case l18 => k_is)
    (case c18 => k_is)
    (case k18 => k_is)
    (case a19 => k_is)
    (case l19 => k_is)
    (case c19 => k_is)
    (case k19 => k_is)
    (case a20 => k_is)
    (case l20 => k_is)
    (case c20 => k_is)
    (case k20 => k_is)
    (case a21 => k_is)
    (case l21 => k_is)
    (case c21 => k_is)
    (case k21 => k_is)
    (case a22 => k_is)
    (case l22 => k_is)
    (case c22 => k_is)
    (case k22 => k_is)
    (case a23 => k_is)
    (case l23 => k_is)
    (case c23 => k_is)
    (case k23 => k_is)
    (case a24 => k_is)
    (case l24 => k_is)
    (case c24 => k_is)
    (case k24 => k_is)
    (case a25 => k_is)
    (case l25 => k_is)
    (case c25 => k_is)
    (case k25 => k_is)
    (case a26 => k_is)
    (case l26 => k_is)
    (case c26 => k_is)
    (case k26 => k_is)
    (case a27 => k_is)
    (case l27 => k_is)
    (case c27 => k_is)
    (case k27 => k_is)
    (case a28 => k_is)
    (case l28 => k_is)
    (case c28 => k_is)
    (case k28 => k_is)
    (case a29 => k_is)
    (case l29 => k_is)
    (case c29 => k_is)
    (case k29 => k_is)
    (case a30 => k_is)
    (case l30 => k_is)
    (case c30 => k_is)
    (case k30 => k_is)
    (case a31 => k_is)
    (case l31 => k_is)
    (case c31 => k_is)
    (case k31 => k_is)
    (case a32 => k_is)
    (case l32 => k_is)
    (case c32 => k_is)
    (case k32 => k_is)
    (case a33 => k_is)
    (case l33 => k_is)
    (case c33 => k_is)
    (case k33 => k_is)
    (case a34 => k_is)
    (case l34 => k_is)
    (case c34 => k_is)
    (case k34 => k_is)
    (case a35 => k_is)
    (case l35 => k_is)
    (case c35 => k_is)
    (case k35 => k_is)
    (case a36 => k_is)
    (case l36 => k_is)
    (case c36 => k_is)
    (case k36 => k_is)
    (case a37 => k_is)
    (case l37 => k_is)
    (case c37 => k_is)
    (case k37 => k_is)
    (case a38 => k_is)
    (case l38 => k_is)
    (case c38 => k_is)
    (case k38 => k_is)
    (case a39 => k_is)
    (case i39 => k_is)
    (case l39 => k_is)
    (case c39 => k_is)
    (case k39 => k_is)
    (case a40 => k_is)
    (case g40 => k_is)
    (case t40_ => k_is)
    (case r40 => k_is)
    (case l40 => k_is)
    (case c40 => k_is)
    (case k40 => k_is)
    (case a41 => k_is)
    (case i41 => k_is)
    (case l41 => k_is)
    (case c41 => k_is)
    (case k41 => k_is)
    (case a42 => k_is)
    (case i42 => k_is)
    (case l42 => k_is)
    (case c42 => k_is)
    (case k42 => k_is)
    (case a43 => k_is)
    (case i43 => k_is)
    (case l43 => k_is)
    (case c43 => k_is)
    (case k43 => k_is)
    (case a44 => k_is)
    (case i44 => k_is)
    (case l44 => k_is)
    (case c44 => k_is)
    (case k44 => k_is)
    (case a45 => k_is)
    (case i45 => k_is)
    (case l45 => k_is)
    (case c45 => k_is)
    (case k45 => k_is)
    (case a46 => k_is)
    (case i46 => k_is)
    (case l46 => k_is)
    (case c46 => k_is)
    (case k46 => k_is)
    (case a47 => k_is)
    (case i47 => k_is)
    (case l47 => k_is)
    (case c47 => k_is)
    (case k47 => k_is)
    (case a48 => k_is)
    (case i48 => k_is)
    (case l48 => k_is)
    (case c48 => k_is)
    (case k48 => k_is)
    (case a49 => k_is)
    (case i49 => k_is)
    (case l49 => k_is)
    (case c49 => k_is)
    (case k49 => k_is)
    (case a50 => k_is)
    (case i50 => k_is)
    (case l50 => k_is)
    (case c50 => k_is)
    (case k50 => k_is)
    (case a51 => k_is)
    (case i51 => k_is)
    (case l51 => k_is)
    (case c51 => k_is)
    (case k51 => k_is)
    (case a52 => k_is)
    (case i52 => k_is)
    (case l52 => k_is)
    (case c52 => k_is)
    (case k52 => k_is)
    (case a53 => k_is)
    (case g53 => k_is)
    (case t53_ => k_is)
    (case r53 => k_is)
    (case l53 => k_is)
    (case c53 => k_is)
    (case k53 => k_is)
    (case a54 => k_is)
    (case i54 => k_is)
    (case l54 => k_is)
    (case c54 => k_is)
    (case k54 => k_is)
    (case a55 => k_is)
    (case i55 => k_is)
    (case l55 => k_is)
    (case c55 => k_is)
    (case k55 => k_is)
    (case a56 => k_is)
    (case i56 => k_is)
    (case l56 => k_is)
    (case c56 => k_is)
    (case k56 => k_is)
    (case a57 => k_is)
    (case i57 => k_is)
    (case l57 => k_is)
    (case c57 => k_is)
    (case k57 => k_is)
    (case a58 => k_is)
    (case i58 => k_is)
    (case l58 => k_is)
    (case c58 => k_is)
    (case k58 => k_is)
    (case a59 => k_is)
    (case i59 => k_is)
    (case l59 => k_is)
    (case c59 => k_is)
    (case k59 => k_is)
    (case a60 => k_is)
    (case i60 => k_is)
    (case l60 => k_is)
    (case c60 => k_is)
    (case k60 => k_is)
    (case a61 => k_is)
    (case i61 => k_is)
    (case l61 => k_is)
    (case c61 => k_is)
    (case k61 => k_is)
    (case y0 => k_is)
    (case z1 => k_is)
    (case z2 => k_is)
    (case z3 => k_is)
    (case z4 => k_is)
    (case z5 => k_is)
    (case z6 => k_is)
    (case z7 => k_is)
    (case z8 => k_is)
    (case z9 => k_is)
    (case z10 => k_is)
    (case z11 => k_is)
    (case z12 => k_is)
    (case z13 => k_is)
    (case z14 => k_is)
    (case z15 => k_is)
    (case z16 => k_is)
    (case z17 => k_is)
    (case z18 => k_is)
    (case z19 => k_is)
