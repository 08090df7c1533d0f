import PyProof.Rows.All
import Wide.All
import OpenK.AllK
import Wide.FinOn
import HandS.ForMost
import HandS.Exc
import HandS.WordsExc
import HandS.CallSlots
import HandS.Wide
import HandS.IsInst
import HandS.Conv
import HandS.Deep
import HandS.SortInts
import HandS.TupAny
import HandS.Style
import HandS.SortRule
import HandS.SetFor
import HandS.Strs
import HandS.TupSets
import HandS.Replace
import HandS.Star
import HandS.Zip
import KE.GoesEnum
import KE.GoesSet
import PyProof.RulesMatch
import HandS.Codes
import HandS.Defaults
import HandS.EndBits
import PySem.Challenge.RW_cutsanywhere_k08_whole_patterns
set_option Elab.async false
set_option linter.all false
set_option maxRecDepth 100000
/-! A small reading of Python texts by data: values without addresses, a store of the few things that are changed through more than one name. -/
namespace Ev
open PySem PySem.Spec PyProof.Rows L2

/-! ### data -/
abbrev Tx := List Nat
def sOf (x : Tx) : Str := ⟨x.toArray⟩
inductive D where
  | non | bl (b : Bool) | int (i : Int) | str (x : Tx) | tup (ds : List D) | lst (ds : List D) | obj (i : Nat)
  | scr (ns : List Int) | dic (ks vs : List D) | set (ds : List D) | ins (c : Nat) (ds : List D) | deq (ds : List D)
  deriving Inhabited

theorem sOf_inj {x y : Tx} (h : sOf x = sOf y) : x = y := by
  have e := congrArg (fun s => Array.toList (Str.cps s)) h
  simpa [sOf] using e
theorem sOf_len (x : Tx) : (sOf x).length = x.length := by simp [sOf, Str.length]
theorem sOf_app (x y : Tx) : sOf x ++ sOf y = sOf (x ++ y) := by
  show (⟨x.toArray ++ y.toArray⟩ : Str) = ⟨(x ++ y).toArray⟩
  simp
theorem of_sOf (s : Str) : sOf s.cps.toList = s := by
  cases s; simp [sOf]

/-! ### what is known of the heap: what stays for ever (F), where the store's things lie (A) -/
structure Gh where
  F : Hp
  A : List Addr

section
variable (K : PySem.W.Frag)
mutual
def Den (G : Gh) : D → V → Prop
  | .non, v => v = .non
  | .bl b, v => v = .bl b
  | .int i, v => v = .int i
  | .str x, v => v = .str (sOf x)
  | .tup ds, v => ∃ a vs, v = .ref a ∧ SqT K G.F a vs ∧ DenL G ds vs
  | .lst ds, v => ∃ a vs, v = .ref a ∧ G.F a = some (.lst vs) ∧ DenL G ds vs
  | .scr ns, v => ∃ a, v = .ref a ∧ SqL K G.F a (ns.map V.int)
  | .obj i, v => ∃ a, v = .ref a ∧ G.A[i]? = some a
  | .dic _ _, _ => False
  | .set _, _ => False
  | .ins _ _, _ => False
  | .deq _, _ => False
def DenL (G : Gh) : List D → List V → Prop
  | [], vs => vs = []
  | d :: ds, vs => ∃ v r, vs = v :: r ∧ Den G d v ∧ DenL G ds r
end
end

/-- one heap of things that stay is part of another -/
def Sub (F F' : Hp) : Prop := ∀ a o, F a = some o → F' a = some o
theorem Sub.refl (F : Hp) : Sub F F := fun _ _ h => h
theorem Sub.trans {F1 F2 F3 : Hp} (a : Sub F1 F2) (b : Sub F2 F3) : Sub F1 F3 := fun c o h => b c o (a c o h)
theorem Sub.sqL {K : PySem.W.Frag} {F F' : Hp} {a : Addr} {xs : List V} (e : Sub F F') (h : SqL K F a xs) : SqL K F' a xs := by
  rcases h with (h | ⟨o, h⟩) | h
  · exact .inl (.inl (e _ _ h))
  · exact .inl (.inr ⟨o, e _ _ h⟩)
  · exact .inr h
theorem Sub.sqT {K : PySem.W.Frag} {F F' : Hp} {a : Addr} {xs : List V} (e : Sub F F') (h : SqT K F a xs) : SqT K F' a xs := by
  rcases h with (h | ⟨o, h⟩) | h
  · exact .inl (.inl (e _ _ h))
  · exact .inl (.inr ⟨o, e _ _ h⟩)
  · exact .inr h

/-- what is known grows -/
structure Le (G G' : Gh) : Prop where
  f : Sub G.F G'.F
  a : ∀ (i : Nat) (x : Addr), G.A[i]? = some x → G'.A[i]? = some x
theorem Le.refl (G : Gh) : Le G G := ⟨Sub.refl _, fun _ _ h => h⟩
theorem Le.trans {G1 G2 G3 : Gh} (x : Le G1 G2) (y : Le G2 G3) : Le G1 G3 := ⟨x.f.trans y.f, fun i a h => y.a i a (x.a i a h)⟩

section
variable {K : PySem.W.Frag} {G G' : Gh}
mutual
theorem Den.mono (h : Le G G') : ∀ (d : D) (v : V), Den K G d v → Den K G' d v
  | .non, _, x => x
  | .bl _, _, x => x
  | .int _, _, x => x
  | .str _, _, x => x
  | .tup ds, _, x => by
    unfold Den at x ⊢
    obtain ⟨a, vs, e, s, t⟩ := x
    exact ⟨a, vs, e, h.f.sqT s, DenL.mono h ds vs t⟩
  | .lst ds, _, x => by
    unfold Den at x ⊢
    obtain ⟨a, vs, e, s, t⟩ := x
    exact ⟨a, vs, e, h.f a _ s, DenL.mono h ds vs t⟩
  | .scr ns, _, x => by
    unfold Den at x ⊢
    obtain ⟨a, e, s⟩ := x
    exact ⟨a, e, h.f.sqL s⟩
  | .obj i, _, x => by
    unfold Den at x ⊢
    obtain ⟨a, e, s⟩ := x
    exact ⟨a, e, h.a _ _ s⟩
  | .dic _ _, _, x => x.elim
  | .set _, _, x => x.elim
  | .ins _ _, _, x => x.elim
  | .deq _, _, x => x.elim
theorem DenL.mono (h : Le G G') : ∀ (ds : List D) (vs : List V), DenL K G ds vs → DenL K G' ds vs
  | [], _, x => x
  | d :: ds, _, x => by
    unfold DenL at x ⊢
    obtain ⟨v, r, e, p, q⟩ := x
    exact ⟨v, r, e, Den.mono h d v p, DenL.mono h ds r q⟩
end
theorem DenL.len : ∀ {ds : List D} {vs : List V}, DenL K G ds vs → vs.length = ds.length
  | [], _, x => by unfold DenL at x; subst x; rfl
  | d :: ds, _, x => by
    unfold DenL at x
    obtain ⟨v, r, e, _, q⟩ := x
    subst e
    simp [DenL.len q]
theorem DenL.get : ∀ {ds : List D} {vs : List V} {i : Nat} {d : D}, DenL K G ds vs → ds[i]? = some d → ∃ v, vs[i]? = some v ∧ Den K G d v
  | [], _, _, _, _, e => by simp at e
  | d :: ds, _, 0, _, x, e => by
    unfold DenL at x
    obtain ⟨v, r, rfl, p, q⟩ := x
    simp at e; subst e
    exact ⟨v, rfl, p⟩
  | d :: ds, _, i + 1, _, x, e => by
    unfold DenL at x
    obtain ⟨v, r, rfl, p, q⟩ := x
    exact DenL.get (i := i) q (by simpa using e)
theorem DenL.app : ∀ {ds es : List D} {vs us : List V}, DenL K G ds vs → DenL K G es us → DenL K G (ds ++ es) (vs ++ us)
  | [], _, _, _, x, y => by unfold DenL at x; subst x; exact y
  | d :: ds, _, _, _, x, y => by
    unfold DenL at x
    obtain ⟨v, r, rfl, p, q⟩ := x
    show DenL K G (d :: (ds ++ _)) _
    unfold DenL
    exact ⟨v, _, rfl, p, DenL.app q y⟩
theorem DenL.nil : DenL K G [] [] := by unfold DenL; rfl
theorem DenL.cons {d : D} {v : V} {ds : List D} {vs : List V} (h : Den K G d v) (t : DenL K G ds vs) : DenL K G (d :: ds) (v :: vs) := by
  unfold DenL; exact ⟨v, vs, rfl, h, t⟩
theorem DenL.inv {d : D} {ds : List D} {vs : List V} (h : DenL K G (d :: ds) vs) : ∃ v r, vs = v :: r ∧ Den K G d v ∧ DenL K G ds r := by
  unfold DenL at h; exact h
theorem DenL.inv0 {vs : List V} (h : DenL K G [] vs) : vs = [] := by unfold DenL at h; exact h
theorem DenL.drop : ∀ {ds : List D} {vs : List V} (n : Nat), DenL K G ds vs → DenL K G (ds.drop n) (vs.drop n)
  | _, _, 0, x => x
  | [], _, n + 1, x => by rw [x.inv0]; exact .nil
  | d :: ds, _, n + 1, x => by
    obtain ⟨v, r, rfl, p, q⟩ := x.inv
    exact DenL.drop n q
theorem DenL.take : ∀ {ds : List D} {vs : List V} (n : Nat), DenL K G ds vs → DenL K G (ds.take n) (vs.take n)
  | _, _, 0, x => .nil
  | [], _, n + 1, x => by rw [x.inv0]; exact .nil
  | d :: ds, _, n + 1, x => by
    obtain ⟨v, r, rfl, p, q⟩ := x.inv
    exact .cons p (DenL.take n q)
theorem DenL.set : ∀ {ds : List D} {vs : List V} {d : D} {v : V} (n : Nat), Den K G d v → DenL K G ds vs → DenL K G (ds.set n d) (vs.set n v)
  | [], _, _, _, n, _, x => by rw [x.inv0]; exact .nil
  | e :: ds, _, d, v, 0, h, x => by
    obtain ⟨w, r, rfl, p, q⟩ := x.inv
    exact .cons h q
  | e :: ds, _, d, v, n + 1, h, x => by
    obtain ⟨w, r, rfl, p, q⟩ := x.inv
    exact .cons p (DenL.set n h q)
theorem DenL.rev : ∀ {ds : List D} {vs : List V}, DenL K G ds vs → DenL K G ds.reverse vs.reverse
  | [], _, x => by rw [x.inv0]; exact .nil
  | d :: ds, _, x => by
    obtain ⟨v, r, rfl, p, q⟩ := x.inv
    rw [List.reverse_cons, List.reverse_cons]
    exact DenL.app (DenL.rev q) (.cons p .nil)
theorem DenL.erase : ∀ {ds : List D} {vs : List V} (n : Nat), DenL K G ds vs → DenL K G (ds.eraseIdx n) (vs.eraseIdx n)
  | [], _, n, x => by rw [x.inv0]; exact .nil
  | d :: ds, _, 0, x => by
    obtain ⟨v, r, rfl, p, q⟩ := x.inv
    exact q
  | d :: ds, _, n + 1, x => by
    obtain ⟨v, r, rfl, p, q⟩ := x.inv
    exact .cons p (DenL.erase n q)
theorem DenL.ints : ∀ {ns : List Int} {vs : List V}, DenL K G (ns.map D.int) vs → vs = ns.map V.int
  | [], _, x => x.inv0
  | n :: ns, _, x => by
    obtain ⟨v, r, rfl, p, q⟩ := DenL.inv (ds := ns.map D.int) x
    rw [DenL.ints q]
    unfold Den at p
    rw [p]; rfl
theorem DenL.of_ints : ∀ (ns : List Int), DenL K G (ns.map D.int) (ns.map V.int)
  | [] => .nil
  | n :: ns => .cons (by unfold Den; rfl) (DenL.of_ints ns)
end

/-! ### things of one's own: lists that only one name knows, to a depth -/
section
variable (K : PySem.W.Frag)
def Own3 (P : D → V → List Addr → Prop) : List D → List V → List (List Addr) → Prop
  | [], vs, fs => vs = [] ∧ fs = []
  | d :: ds, vs, fs => ∃ v r f g, vs = v :: r ∧ fs = f :: g ∧ P d v f ∧ Own3 P ds r g
def Own (G : Gh) (H : Hp) : Nat → D → V → List Addr → Prop
  | 0, d, v, fp => fp = [] ∧ Den K G d v
  | n + 1, .lst ds, v, fp => ∃ a vs fs, v = .ref a ∧ H a = some (.lst vs) ∧ fp = a :: fs.flatten ∧ Own3 (Own G H n) ds vs fs
  | _ + 1, _, _, _ => False
end

/-! ### the store -/
inductive Ob where
  | cell (ds : List D)
abbrev Sto := List Ob

/-- what a name holds: nothing, a thing that stays, a list of its own (to a depth) -/
inductive Sl where
  | un | va (d : D) | ow (n : Nat) (d : D)
  deriving Inhabited
/-- what an expression gives: a thing that stays, a new list that nobody knows, something read in place -/
inductive XD where
  | fz (d : D) | ow (n : Nat) (d : D) | br (n : Nat) (d : D)

structure Ex where
  c : Nat
  ds : List D

inductive R (α : Type) where
  | ok (a : α) (O : Sto)
  | exc (x : Ex) (O : Sto)
  | stk
def R.bind {α β : Type} (r : R α) (f : α → Sto → R β) : R β := match r with
  | .ok a O => f a O
  | .exc x O => .exc x O
  | .stk => .stk
def R.nox {α : Type} (r : R α) : R α := match r with
  | .ok a O => .ok a O
  | _ => .stk
@[simp] theorem R.nox_ok {α : Type} (a : α) (O : Sto) : (R.ok a O).nox = .ok a O := rfl
@[simp] theorem R.bind_ok {α β : Type} (a : α) (O : Sto) (f : α → Sto → R β) : (R.ok a O).bind f = f a O := rfl
@[simp] theorem R.bind_exc {α β : Type} (x : Ex) (O : Sto) (f : α → Sto → R β) : (R.exc x O).bind f = .exc x O := rfl
@[simp] theorem R.bind_stk {α β : Type} (f : α → Sto → R β) : (R.stk : R α).bind f = .stk := rfl

/-- kept for ever from now on -/
def XD.fzd : XD → Option D
  | .fz d => some d
  | .ow _ d => some d
  | .br _ _ => none
/-- read: a list's items stay -/
def XD.rdd : XD → Option D
  | .fz d => some d
  | .ow n d => if n ≤ 1 then some d else none
  | .br n d => if n ≤ 1 then some d else none
def XD.any : XD → D
  | .fz d => d
  | .ow _ d => d
  | .br _ d => d
end Ev

namespace Ev
open PySem PySem.Spec PyProof.Rows L2

/-! ### the code, told again in few words -/
mutual
inductive T where
  | nm (i : Nat)
  | tp (ts : Ts)
inductive Ts where
  | nil | cons (t : T) (ts : Ts)
end
/-- built-ins asked by name -/
inductive Bi where
  | len | int | ord | list | tuple | sorted | max | min | sum | any | all | repr | str
  deriving DecidableEq
/-- methods that change nothing -/
inductive Mt where
  | join | index | split | starts
  deriving DecidableEq
mutual
inductive E where
  | var (i : Nat)
  | con (d : D)
  | glb (x : Str) (d : D)
  | bin (op : Operator) (a b : E)
  | neg (a : E)
  | cmp (op : CmpOp) (a b : E)
  | isn (neg : Bool) (a : E)
  | chn (o p : CmpOp) (a b c : E)
  | and (es : Es)
  | or (es : Es)
  | not (a : E)
  | ite (c a b : E)
  | tup (es : Es)
  | lst (n : Nat) (es : Es)
  | cell (es : Es)
  | idx (a i : E)
  | slc (a : E) (lo hi : Es)
  | rev (a : E)
  | call (f : Nat) (es : Es)
  | callD (f : Nat) (es : Es) (ds : List D)
  | bi (b : Bi) (a : E)
  | sset (a : E)
  | isi (a : E) (ty : String)
  | met (m : Mt) (a b : E)
  | lrg (tu : Bool) (a b : E)
  | lrg1 (tu : Bool) (a : E)
  | lc (n : Nat) (t : T) (i : I) (c : Es) (e : E)
  | lc2 (n : Nat) (t : T) (i : I) (c : Es) (t1 : T) (i1 : I) (c1 : Es) (e : E)
  | ssc (t : T) (i : I) (c : Es) (t1 : T) (i1 : I) (c1 : Es) (e : E)
  | tups (xs : Xs)
  | lsts (xs : Xs)
inductive Es where
  | nil | cons (e : E) (es : Es)
/-- a display's parts, some of them starred -/
inductive Xs where
  | nil | cons (e : E) (xs : Xs) | star (e : E) (xs : Xs)
inductive I where
  | e (a : E)
  | rng (a b : E)
  | rng1 (a : E)
  | enum (a : E)
  | enumS (a k : E)
  | zip (es : Es)
end
mutual
inductive S where
  | set (i : Nat) (own : Bool) (e : E)
  | par (js : List (Nat × Bool)) (es : Es)
  | unp (t : T) (e : E)
  | aug (i : Nat) (op : Operator) (e : E)
  | seti (i : Nat) (k e : E)
  | app (i : Nat) (e : E)
  | ext (i : Nat) (e : E)
  | drop (e : E)
  | ret (e : E)
  | retv (i : Nat)
  | retN
  | ife (c : E) (a b : Ss)
  | for (t : T) (i : I) (b : Ss)
  | whl (c : E) (b : Ss)
  | brk | cnt | pas | nev
  | frz (i : Nat)
  | mat (e : E) (cs : Cs)
inductive Ss where
  | nil | cons (s : S) (ss : Ss)
/-- the cases of a match over texts -/
inductive Cs where
  | nil | cons (ws : List Tx) (b : Ss) (r : Cs)
end

/-! ### operations by data -/
mutual
def eqv : D → D → Bool
  | .non, .non => true
  | .bl a, .bl b => a == b
  | .bl a, .int j => (if a then 1 else 0) == j
  | .int i, .bl b => i == (if b then 1 else 0)
  | .int i, .int j => i == j
  | .str x, .str y => x == y
  | .lst xs, .lst ys => eqvL xs ys
  | .tup xs, .tup ys => eqvL xs ys
  | _, _ => false
def eqvL : List D → List D → Bool
  | [], [] => true
  | x :: xs, y :: ys => eqv x y && eqvL xs ys
  | _, _ => false
end
/-- data that == can be asked of -/
def okD : Nat → D → Prop
  | _, .non => True
  | _, .bl _ => True
  | _, .int _ => True
  | _, .str x => ∀ c ∈ x, c < 0x110000
  | n + 1, .tup ds => ∀ d ∈ ds, okD n d
  | n + 1, .lst ds => ∀ d ∈ ds, okD n d
  | _, _ => False
/-- two flat things that == tells apart without more -/
def flat2 : D → D → Bool
  | .non, .non => true | .non, .int _ => true | .int _, .non => true | .non, .bl _ => true | .bl _, .non => true | .non, .str _ => true | .str _, .non => true
  | .int _, .int _ => true | .bl _, .bl _ => true | .str _, .str _ => true
  | .int _, .str _ => true | .str _, .int _ => true | .bl _, .str _ => true | .str _, .bl _ => true
  | _, _ => false
open Classical in
noncomputable def eqD (x y : D) : Option Bool := if flat2 x y = true ∨ (okD 64 x ∧ okD 64 y) then some (eqv x y) else none
def flatD : D → Bool
  | .non => true | .bl _ => true | .int _ => true | .str _ => true | _ => false
open Classical in
noncomputable def inD (x y : D) : Option Bool := match y with
  | .str b => match x with
    | .str a => some (!(Builtin.Str.occurrences (sOf b) (sOf a) 0 (sOf b).length 1).isEmpty)
    | _ => none
  | .lst ds => if (flatD x = true ∧ ∀ d ∈ ds, flatD d = true) ∨ (okD 64 x ∧ okD 64 (.lst ds)) then some (ds.any fun d => eqv d x) else none
  | .tup ds => if flatD x = true ∧ ∀ d ∈ ds, flatD d = true then some (ds.any fun d => eqv d x) else none
  | _ => none
noncomputable def cmpD : CmpOp → D → D → Option Bool
  | .Eq, x, y => eqD x y
  | .NotEq, x, y => (eqD x y).map (!·)
  | .Lt, .int i, .int j => some (decide (i < j))
  | .LtE, .int i, .int j => some (decide (i ≤ j))
  | .Gt, .int i, .int j => some (decide (j < i))
  | .GtE, .int i, .int j => some (decide (j ≤ i))
  | .In, x, y => inD x y
  | .NotIn, x, y => (inD x y).map (!·)
  | _, _, _ => none
def RpF (n : Nat) (k : Int) : Prop := -(2 ^ 63) ≤ k ∧ k < 2 ^ 63 ∧ n * k.toNat ≤ sizeLine
open Classical in
noncomputable def binD : Operator → D → D → Option XD
  | .Add, .int i, .int j => some (.fz (.int (i + j)))
  | .Add, .str a, .str b => if a.length + b.length ≤ sizeLine then some (.fz (.str (a ++ b))) else none
  | .Add, .lst a, .lst b => if a.length + b.length ≤ sizeLine then some (.ow 1 (.lst (a ++ b))) else none
  | .Add, .tup a, .tup b => if a.length + b.length ≤ sizeLine then some (.fz (.tup (a ++ b))) else none
  | .Sub, .int i, .int j => some (.fz (.int (i - j)))
  | .Mult, .int i, .int j => if CMul i j ∨ CMulW i j then some (.fz (.int (i * j))) else none
  | .Mult, .lst a, .int k => if RpF a.length k then some (.ow 1 (.lst (List.replicate k.toNat a).flatten)) else none
  | .FloorDiv, .int i, .int j => if CDiv i j ∨ CDivW i j then some (.fz (.int (i / j))) else none
  | .Mod, .int i, .int j => if 0 < j then some (.fz (.int (i % j))) else none
  | .Pow, .int i, .int j => if CPow i j then some (.fz (.int (i ^ j.toNat))) else none
  | .BitAnd, .int i, .int j => some (.fz (.int (Builtin.bitAnd i j)))
  | _, _, _ => none
/-- x[i] -/
def idxD (x i : D) (O : Sto) : Option D := match x, i with
  | .scr ns, .int k => (atI ns k).map .int
  | .lst ds, .int k => atI ds k
  | .tup ds, .int k => atI ds k
  | .str a, .int k => if a.length ≤ sizeLine then (atI a k).map fun c => .str [c] else none
  | .obj j, .int k => match O[j]? with
    | some (.cell ds) => atI ds k
    | none => none
  | _, _ => none
def cutL {α : Type} (xs : List α) (lo hi : Option Int) : List α := (xs.drop (HT.sIx xs.length 0 lo)).take (HT.sIx xs.length xs.length hi - HT.sIx xs.length 0 lo)
def intX : XD → Option (Option Int)
  | .fz (.int i) => some (some i)
  | _ => none
def slcD (x : D) (lo hi : Option Int) : Option XD := match x with
  | .lst ds => some (.ow 1 (.lst (cutL ds lo hi)))
  | .scr ns => some (.ow 1 (.lst ((cutL ns lo hi).map D.int)))
  | .tup ds => some (.fz (.tup (cutL ds lo hi)))
  | .str a => if a.length ≤ sizeLine then some (.fz (.str (cutL a lo hi))) else none
  | _ => none
def revD : D → Option XD
  | .lst ds => some (.ow 1 (.lst ds.reverse))
  | .tup ds => some (.fz (.tup ds.reverse))
  | _ => none
/-- the ints of a list -/
def intsD : List D → Option (List Int)
  | [] => some []
  | .int i :: r => (intsD r).map (i :: ·)
  | _ :: _ => none
def blsD : List D → Option (List Bool)
  | [] => some []
  | .bl i :: r => (blsD r).map (i :: ·)
  | _ :: _ => none
def strsD : List D → Option (List Tx)
  | [] => some []
  | .str i :: r => (strsD r).map (i :: ·)
  | _ :: _ => none
def maxL : List Int → Option Int
  | [] => none
  | x :: r => some (r.foldl max x)
def minL : List Int → Option Int
  | [] => none
  | x :: r => some (r.foldl min x)
def joinT (s : Tx) : List Tx → Tx
  | [] => []
  | [x] => x
  | x :: r => x ++ s ++ joinT s r
open Classical in
noncomputable def lenD : D → Option XD
  | .lst ds => some (.fz (.int ds.length))
  | .tup ds => some (.fz (.int ds.length))
  | .scr ns => some (.fz (.int ns.length))
  | .str a => if a.length ≤ sizeLine then some (.fz (.int a.length)) else none
  | _ => none
def intD : D → Option XD
  | .int i => some (.fz (.int i))
  | .bl b => some (.fz (.int (if b then 1 else 0)))
  | _ => none
def ordD : D → Option XD
  | .str [c] => some (.fz (.int c))
  | _ => none
def listD : D → Option XD
  | .lst ds => some (.ow 1 (.lst ds))
  | .tup ds => some (.ow 1 (.lst ds))
  | _ => none
def tupleD : D → Option XD
  | .lst ds => some (.fz (.tup ds))
  | .tup ds => some (.fz (.tup ds))
  | _ => none
def maxD : D → Option XD
  | .lst ds => (intsD ds).bind fun ns => (maxL ns).map fun m => .fz (.int m)
  | _ => none
def minD : D → Option XD
  | .lst ds => (intsD ds).bind fun ns => (minL ns).map fun m => .fz (.int m)
  | _ => none
def sumD : D → Option XD
  | .lst ds => (intsD ds).map fun ns => .fz (.int ns.sum)
  | _ => none
def anyD : D → Option XD
  | .lst ds => (blsD ds).map fun bs => .fz (.bl (bs.any id))
  | _ => none
def allD : D → Option XD
  | .lst ds => (blsD ds).map fun bs => .fz (.bl (bs.all id))
  | _ => none
/-- stable insertion -/
def insK {α : Type} (lt : α → α → Bool) (x : α) : List α → List α
  | [] => [x]
  | y :: r => if lt y x then y :: insK lt x r else x :: y :: r
def srtK {α : Type} (lt : α → α → Bool) : List α → List α
  | [] => []
  | x :: r => insK lt x (srtK lt r)
abbrev ltI (x y : Int) : Bool := decide (x < y)
/-- pairs of ints -/
def pairD : D → Option (Int × Int)
  | .tup [.int i, .int j] => some (i, j)
  | _ => none
def pairsD : List D → Option (List (Int × Int))
  | [] => some []
  | d :: r => (pairD d).bind fun p => (pairsD r).map (p :: ·)
def pairT (p : Int × Int) : D := .tup [.int p.1, .int p.2]
def sortL (ds : List D) : Option (List D) := match intsD ds with
  | some ns => some ((srtK ltI ns).map .int)
  | none => (pairsD ds).map fun ps => (srtK SrtO.lexB ps).map pairT
def sortedD : D → Option XD
  | .lst ds => (sortL ds).map fun es => .ow 1 (.lst es)
  | .tup ds => (sortL ds).map fun es => .ow 1 (.lst es)
  | _ => none
/-- ascending, without repeats -/
def sIns (x : Int) : List Int → List Int
  | [] => [x]
  | y :: r => if x < y then x :: y :: r else if x = y then y :: r else y :: sIns x r
def sdI : List Int → List Int
  | [] => []
  | x :: l => sIns x (sdI l)
/-- sorted(set(..)) -/
def ssetD : D → Option XD
  | .lst ds => (intsD ds).bind fun ns => if ns.length + 1 < scanBound ∧ (sdI ns).length < 64 then some (.ow 1 (.lst ((sdI ns).map .int))) else none
  | _ => none
noncomputable def bi1 (b : Bi) (d : D) : Option XD := match b with
  | .len => lenD d
  | .int => intD d
  | .ord => ordD d
  | .list => listD d
  | .tuple => tupleD d
  | .max => maxD d
  | .min => minD d
  | .sum => sumD d
  | .any => anyD d
  | .all => allD d
  | .sorted => sortedD d
  | _ => none
/-- what isinstance tells of data -/
def isiD (x : D) (ty : String) : Option Bool := match x with
  | .non => if ty = "int" ∨ ty = "bool" ∨ ty = "str" ∨ ty = "tuple" ∨ ty = "list" ∨ ty = "dict" then some false else none
  | .bl _ => if ty = "int" ∨ ty = "bool" then some true else if ty = "str" ∨ ty = "tuple" ∨ ty = "list" ∨ ty = "dict" then some false else none
  | .int _ => if ty = "int" then some true else if ty = "bool" ∨ ty = "str" ∨ ty = "tuple" ∨ ty = "list" ∨ ty = "dict" then some false else none
  | .str _ => if ty = "str" then some true else if ty = "bool" ∨ ty = "int" ∨ ty = "tuple" ∨ ty = "list" ∨ ty = "dict" then some false else none
  | .tup _ => if ty = "tuple" then some true else if ty = "bool" ∨ ty = "int" ∨ ty = "str" ∨ ty = "list" ∨ ty = "dict" then some false else none
  | .lst _ => if ty = "list" then some true else if ty = "bool" ∨ ty = "int" ∨ ty = "str" ∨ ty = "tuple" ∨ ty = "dict" then some false else none
  | _ => none
open Classical in
noncomputable def metD : Mt → Tx → D → Option XD
  | .join, s, .lst ds => (strsD ds).bind fun xs => if (xs.map List.length).sum + xs.length * s.length ≤ 16777216 then some (.fz (.str (joinT s xs))) else none
  | .join, s, .tup ds => (strsD ds).bind fun xs => if (xs.map List.length).sum + xs.length * s.length ≤ 16777216 then some (.fz (.str (joinT s xs))) else none
  | .index, s, .str t => match Builtin.Str.occurrences (sOf s) (sOf t) 0 (sOf s).length 1 with
    | i :: _ => some (.fz (.int i))
    | [] => none
  | _, _, _ => none
/-- list(range(a, b)), tuple(range(a, b)) -/
def rgL (a b : Int) : List D := (List.range (b - a).toNat).map fun i => D.int (a + (i : Nat))
open Classical in
noncomputable def lrgD (tu : Bool) (a b : D) : Option XD := match a, b with
  | .int i, .int j => if RgOk i j then some (if tu then .fz (.tup (rgL i j)) else .ow 1 (.lst (rgL i j))) else none
  | _, _ => none

def R.ofO {α : Type} (o : Option α) (O : Sto) : R α := match o with
  | some a => .ok a O
  | none => .stk
@[simp] theorem R.ofO_some {α : Type} (a : α) (O : Sto) : R.ofO (some a) O = .ok a O := rfl
@[simp] theorem R.ofO_none {α : Type} (O : Sto) : R.ofO (none : Option α) O = .stk := rfl
def look (env : List Sl) (i : Nat) : Option XD := match env[i]? with
  | some (.va d) => some (.fz d)
  | some (.ow n d) => some (.br n d)
  | _ => none
def XD.bl : XD → Option Bool
  | .fz (.bl b) => some b
  | _ => none
def fzL : List XD → Option (List D)
  | [] => some []
  | x :: r => x.fzd.bind fun d => (fzL r).map (d :: ·)
def rdL : List XD → Option (List D)
  | [] => some []
  | x :: r => x.rdd.bind fun d => (rdL r).map (d :: ·)
/-- children of a list of one's own, to a depth -/
def XD.kid (n : Nat) (x : XD) : Option D := match n with
  | 0 => x.fzd
  | n + 1 => match x with
    | .ow m d => if m = n + 1 then some d else none
    | _ => none
def kidL (n : Nat) : List XD → Option (List D)
  | [] => some []
  | x :: r => (x.kid n).bind fun d => (kidL n r).map (d :: ·)
/-! targets: the names that are stored, and how data goes to them -/
mutual
def T.own : T → List Nat
  | .nm i => [i]
  | .tp ts => ts.own
def Ts.own : Ts → List Nat
  | .nil => []
  | .cons t ts => t.own ++ ts.own
end
mutual
def asg : T → D → List Sl → Option (List Sl)
  | .nm i, d, env => if i < env.length then some (env.set i (.va d)) else none
  | .tp ts, .tup ds, env => asgs ts ds env
  | .tp _, _, _ => none
def asgs : Ts → List D → List Sl → Option (List Sl)
  | .nil, [], env => some env
  | .cons t ts, d :: ds, env => (asg t d env).bind fun env' => asgs ts ds env'
  | _, _, _ => none
end
def wipeE (env : List Sl) : List Nat → List Sl
  | [] => env
  | i :: r => (wipeE env r).set i .un
/-- the items of a loop -/
def itD : D → Option (List D)
  | .lst ds => some ds
  | .tup ds => some ds
  | .str a => some (a.map fun c => .str [c])
  | _ => none
def enumL (ds : List D) : List D := ds.mapIdx fun i d => .tup [.int i, d]
def zipL (ds es : List D) : List D := List.zipWith (fun d e => .tup [d, e]) ds es
/-- the items of a starred thing -/
def itmD : D → Option (List D)
  | .lst ds => some ds
  | .tup ds => some ds
  | _ => none
def strX : XD → Option Tx
  | .fz (.str s) => some s
  | _ => none
def negX : XD → Option XD
  | .fz (.int i) => some (.fz (.int (-i)))
  | _ => none
def isnX (neg : Bool) (x : XD) : Bool := match x.any with | .non => !neg | _ => neg
/-- what a loop over a range can bear; told by a name, that nobody reckons the bounds out -/
def RgF (i j : Int) : Prop := -(2 ^ 62) ≤ i ∧ i < 2 ^ 62 ∧ -(2 ^ 62) ≤ j ∧ j < 2 ^ 62
open Classical in
noncomputable def rngX : D → D → Option (List D)
  | .int i, .int j => if RgF i j then some (rgL i j) else none
  | _, _ => none
def enumX : D → Option (List D)
  | .lst ds => some (enumL ds)
  | .tup ds => some (enumL ds)
  | _ => none
def enumLK (k : Int) (ds : List D) : List D := ds.mapIdx fun i d => .tup [.int (k + (i : Nat)), d]
open Classical in
noncomputable def enumSX : D → D → Option (List D)
  | .lst ds, .int k => if RgF k k then some (enumLK k ds) else none
  | .tup ds, .int k => if RgF k k then some (enumLK k ds) else none
  | _, _ => none
def zipX : List D → Option (List D)
  | [.lst ds, .lst es] => some (zipL ds es)
  | [.tup ds, .tup es] => some (zipL ds es)
  | _ => none
/-- a comprehension's turns -/
def lcM (f : D → Sto → R (Option D)) : List D → List D → Sto → R (List D)
  | [], acc, O => .ok acc O
  | d :: ds, acc, O => (f d O).bind fun r O1 => match r with
    | some x => if acc.length < sizeLine then lcM f ds (acc ++ [x]) O1 else .stk
    | none => lcM f ds acc O1
/-- a comprehension of two fors: g makes one outer turn -/
def lc2M (g : D → List D → Sto → R (List D)) : List D → List D → Sto → R (List D)
  | [], acc, O => .ok acc O
  | d :: ds, acc, O => (g d acc O).bind fun acc' O1 => lc2M g ds acc' O1

section
variable (call : Nat → List D → Sto → R XD)
mutual
noncomputable def ev : E → List Sl → Sto → R XD
  | .var i, env, O => .ofO (look env i) O
  | .con d, _, O => .ok (.fz d) O
  | .glb _ d, _, O => .ok (.fz d) O
  | .bin op a b, env, O => (ev a env O).bind fun x O1 => (ev b env O1).bind fun y O2 => .ofO (x.rdd.bind fun d => y.rdd.bind fun e => binD op d e) O2
  | .neg a, env, O => (ev a env O).bind fun x O1 => .ofO (negX x) O1
  | .cmp op a b, env, O => (ev a env O).bind fun x O1 => (ev b env O1).bind fun y O2 => .ofO (x.rdd.bind fun d => y.rdd.bind fun e => (cmpD op d e).map fun b => .fz (.bl b)) O2
  | .isn neg a, env, O => (ev a env O).bind fun x O1 => .ok (.fz (.bl (isnX neg x))) O1
  | .chn o p a b c, env, O => (ev a env O).bind fun x O1 => (ev b env O1).bind fun y O2 =>
      (R.ofO (x.rdd.bind fun d => y.rdd.bind fun e => cmpD o d e) O2).bind fun t O2 =>
        if t = true then (ev c env O2).bind fun z O3 => .ofO (y.rdd.bind fun d => z.rdd.bind fun e => (cmpD p d e).map fun b => .fz (.bl b)) O3 else .ok (.fz (.bl false)) O2
  | .and es, env, O => evA es env O
  | .or es, env, O => evO es env O
  | .not a, env, O => (ev a env O).bind fun x O1 => .ofO (x.bl.map fun b => .fz (.bl (!b))) O1
  | .ite c a b, env, O => ((ev c env O).bind fun x O1 => .ofO x.bl O1).bind fun t O1 => if t = true then ev a env O1 else ev b env O1
  | .tup es, env, O => (evs es env O).bind fun xs O1 => .ofO ((fzL xs).bind fun ds => if ds.length ≤ sizeLine then some (.fz (.tup ds)) else none) O1
  | .lst n es, env, O => (evs es env O).bind fun xs O1 => .ofO ((kidL n xs).bind fun ds => if ds.length ≤ sizeLine then some (.ow (n + 1) (.lst ds)) else none) O1
  | .cell es, env, O => (evs es env O).bind fun xs O1 => (R.ofO ((fzL xs).bind fun ds => if ds.length ≤ sizeLine then some ds else none) O1).bind fun ds O1 => .ok (.fz (.obj O1.length)) (O1 ++ [.cell ds])
  | .idx a i, env, O => (ev a env O).bind fun x O1 => (ev i env O1).bind fun y O2 => .ofO (x.rdd.bind fun d => y.rdd.bind fun e => (idxD d e O2).map .fz) O2
  | .slc a lo hi, env, O => (ev a env O).bind fun x O1 => (evB lo env O1).bind fun l O2 => (evB hi env O2).bind fun h O3 => .ofO (x.rdd.bind fun d => slcD d l h) O3
  | .rev a, env, O => (ev a env O).bind fun x O1 => .ofO (x.rdd.bind revD) O1
  | .call f es, env, O => (evs es env O).bind fun xs O1 => (R.ofO (fzL xs) O1).bind fun ds O1 => call f ds O1
  | .callD f es xs, env, O => (evs es env O).bind fun ys O1 => (R.ofO (fzL ys) O1).bind fun ds O1 => call f (ds ++ xs) O1
  | .bi b a, env, O => (ev a env O).bind fun x O1 => .ofO (x.rdd.bind fun d => bi1 b d) O1
  | .sset a, env, O => (ev a env O).bind fun x O1 => .ofO (x.rdd.bind ssetD) O1
  | .isi a ty, env, O => (ev a env O).bind fun x O1 => .ofO (x.rdd.bind fun d => (isiD d ty).map fun b => .fz (.bl b)) O1
  | .met m a b, env, O => ((ev a env O).bind fun x O1 => .ofO (strX x) O1).bind fun s O1 => (ev b env O1).bind fun y O2 => .ofO (y.rdd.bind fun e => metD m s e) O2
  | .lrg tu a b, env, O => (ev a env O).bind fun x O1 => (ev b env O1).bind fun y O2 => .ofO (x.rdd.bind fun d => y.rdd.bind fun e => lrgD tu d e) O2
  | .lc n t i c e, env, O => (evI i env O).bind fun ds O1 =>
      (lcM (fun d O2 => (R.ofO (asg t d (wipeE env t.own)) O2).bind fun env' O2 => (evC c env' O2).bind fun b O3 => if b = true then (ev e env' O3).bind fun x O4 => .ofO ((x.kid n).map some) O4 else .ok none O3) ds [] O1).nox.bind fun ds' O2 => .ok (.ow (n + 1) (.lst ds')) O2
  | .lrg1 tu a, env, O => (ev a env O).bind fun x O1 => .ofO (x.rdd.bind fun d => lrgD tu (.int 0) d) O1
  | .lc2 n t i c t1 i1 c1 e, env, O => (evI i env O).bind fun ds O1 =>
      (lc2M (fun d acc O2 => (R.ofO (asg t d (wipeE env (t.own ++ t1.own))) O2).bind fun env1 O2 => (evC c env1 O2).bind fun b O3 => if b = true then (evI i1 env1 O3).bind fun ds1 O4 =>
          lcM (fun d O5 => (R.ofO (asg t1 d (wipeE env1 t1.own)) O5).bind fun env2 O5 => (evC c1 env2 O5).bind fun b O6 => if b = true then (ev e env2 O6).bind fun x O7 => .ofO ((x.kid n).map some) O7 else .ok none O6) ds1 acc O4
        else .ok acc O3) ds [] O1).nox.bind fun ds' O2 => .ok (.ow (n + 1) (.lst ds')) O2
  | .ssc t i c t1 i1 c1 e, env, O => (evI i env O).bind fun ds O1 =>
      (lc2M (fun d acc O2 => (R.ofO (asg t d (wipeE env (t.own ++ t1.own))) O2).bind fun env1 O2 => (evC c env1 O2).bind fun b O3 => if b = true then (evI i1 env1 O3).bind fun ds1 O4 =>
          lcM (fun d O5 => (R.ofO (asg t1 d (wipeE env1 t1.own)) O5).bind fun env2 O5 => (evC c1 env2 O5).bind fun b O6 => if b = true then (ev e env2 O6).bind fun x O7 => .ofO ((x.kid 0).map some) O7 else .ok none O6) ds1 acc O4
        else .ok acc O3) ds [] O1).nox.bind fun ds' O2 => .ofO (ssetD (.lst ds')) O2
  | .tups xs, env, O => (evX xs env O).bind fun xs O1 => .ofO ((fzL xs).bind fun ds => if ds.length ≤ sizeLine then some (.fz (.tup ds)) else none) O1
  | .lsts xs, env, O => (evX xs env O).bind fun xs O1 => .ofO ((kidL 0 xs).bind fun ds => if ds.length ≤ sizeLine then some (.ow 1 (.lst ds)) else none) O1
/-- all but the last are truth values -/
noncomputable def evA : Es → List Sl → Sto → R XD
  | .nil, _, _ => .stk
  | .cons a .nil, env, O => ev a env O
  | .cons a (.cons b r), env, O => ((ev a env O).bind fun x O1 => .ofO x.bl O1).bind fun t O1 => if t = true then evA (.cons b r) env O1 else .ok (.fz (.bl false)) O1
noncomputable def evO : Es → List Sl → Sto → R XD
  | .nil, _, _ => .stk
  | .cons a .nil, env, O => ev a env O
  | .cons a (.cons b r), env, O => ((ev a env O).bind fun x O1 => .ofO x.bl O1).bind fun t O1 => if t = true then .ok (.fz (.bl true)) O1 else evO (.cons b r) env O1
noncomputable def evs : Es → List Sl → Sto → R (List XD)
  | .nil, _, O => .ok [] O
  | .cons a r, env, O => (ev a env O).bind fun x O1 => (evs r env O1).bind fun xs O2 => .ok (x :: xs) O2
noncomputable def evX : Xs → List Sl → Sto → R (List XD)
  | .nil, _, O => .ok [] O
  | .cons a r, env, O => (ev a env O).bind fun x O1 => (evX r env O1).bind fun xs O2 => .ok (x :: xs) O2
  | .star a r, env, O => ((ev a env O).bind fun x O1 => .ofO (x.rdd.bind itmD) O1).bind fun ds O1 => (evX r env O1).bind fun xs O2 => .ok (ds.map .fz ++ xs) O2
/-- a slice's end: none or one -/
noncomputable def evB : Es → List Sl → Sto → R (Option Int)
  | .nil, _, O => .ok none O
  | .cons a .nil, env, O => (ev a env O).bind fun x O1 => .ofO (intX x) O1
  | _, _, _ => .stk
/-- a comprehension's test: none or one -/
noncomputable def evC : Es → List Sl → Sto → R Bool
  | .nil, _, O => .ok true O
  | .cons a .nil, env, O => (ev a env O).bind fun x O1 => .ofO x.bl O1
  | _, _, _ => .stk
noncomputable def evI : I → List Sl → Sto → R (List D)
  | .e a, env, O => (ev a env O).bind fun x O1 => .ofO (x.fzd.bind itD) O1
  | .rng a b, env, O => (ev a env O).bind fun x O1 => (ev b env O1).bind fun y O2 => .ofO (x.rdd.bind fun d => y.rdd.bind fun e => rngX d e) O2
  | .rng1 a, env, O => (ev a env O).bind fun x O1 => .ofO (x.rdd.bind fun d => rngX (.int 0) d) O1
  | .enum a, env, O => (ev a env O).bind fun x O1 => .ofO (x.fzd.bind enumX) O1
  | .enumS a k, env, O => (ev a env O).bind fun x O1 => (ev k env O1).bind fun y O2 => .ofO (x.fzd.bind fun d => y.rdd.bind fun e => enumSX d e) O2
  | .zip es, env, O => (evs es env O).bind fun xs O1 => .ofO ((fzL xs).bind zipX) O1
end
end

/-! ### statements -/
inductive Fl where
  | nx (env : List Sl) (O : Sto)
  | rt (x : XD) (O : Sto)
  | bk (env : List Sl) (O : Sto)
  | ct (env : List Sl) (O : Sto)
  | exc (x : Ex) (env : List Sl) (O : Sto)
  | stk
def Fl.seq (f : Fl) (k : List Sl → Sto → Fl) : Fl := match f with
  | .nx env O => k env O
  | f => f
@[simp] theorem Fl.seq_nx (env : List Sl) (O : Sto) (k : List Sl → Sto → Fl) : (Fl.nx env O).seq k = k env O := rfl
@[simp] theorem Fl.seq_rt (x : XD) (O : Sto) (k : List Sl → Sto → Fl) : (Fl.rt x O).seq k = .rt x O := rfl
@[simp] theorem Fl.seq_bk (env : List Sl) (O : Sto) (k : List Sl → Sto → Fl) : (Fl.bk env O).seq k = .bk env O := rfl
@[simp] theorem Fl.seq_ct (env : List Sl) (O : Sto) (k : List Sl → Sto → Fl) : (Fl.ct env O).seq k = .ct env O := rfl
@[simp] theorem Fl.seq_exc (x : Ex) (env : List Sl) (O : Sto) (k : List Sl → Sto → Fl) : (Fl.exc x env O).seq k = .exc x env O := rfl
@[simp] theorem Fl.seq_stk (k : List Sl → Sto → Fl) : Fl.stk.seq k = .stk := rfl
/-- an expression's outcome, then a statement's -/
def R.fl {α : Type} (r : R α) (env : List Sl) (k : α → Sto → Fl) : Fl := match r with
  | .ok a O => k a O
  | .exc x O => .exc x env O
  | .stk => .stk
@[simp] theorem R.fl_ok {α : Type} (a : α) (O : Sto) (env : List Sl) (k : α → Sto → Fl) : (R.ok a O).fl env k = k a O := rfl
@[simp] theorem R.fl_exc {α : Type} (x : Ex) (O : Sto) (env : List Sl) (k : α → Sto → Fl) : (R.exc x O : R α).fl env k = .exc x env O := rfl
@[simp] theorem R.fl_stk {α : Type} (env : List Sl) (k : α → Sto → Fl) : (R.stk : R α).fl env k = .stk := rfl

def Fl.opt {α : Type} (o : Option α) (k : α → Fl) : Fl := match o with
  | some a => k a
  | none => .stk
@[simp] theorem Fl.opt_some {α : Type} (a : α) (k : α → Fl) : Fl.opt (some a) k = k a := rfl
@[simp] theorem Fl.opt_none {α : Type} (k : α → Fl) : Fl.opt none k = .stk := rfl
/-- a name takes what an expression gave -/
def XD.slot (own : Bool) (x : XD) : Option Sl := match own, x with
  | false, x => x.fzd.map .va
  | true, .ow n d => some (.ow n d)
  | true, .fz d => some (.va d)
  | true, .br _ _ => none
def setE (env : List Sl) (i : Nat) (s : Sl) : Option (List Sl) := if i < env.length then some (env.set i s) else none
def parE : List (Nat × Bool) → List XD → List Sl → Option (List Sl)
  | [], [], env => some env
  | (i, o) :: js, x :: xs, env => (x.slot o).bind fun s => (setE env i s).bind fun env' => parE js xs env'
  | _, _, _ => none
/-- for: the turns -/
def forM (f : D → List Sl → Sto → Fl) : List D → List Sl → Sto → Fl
  | [], env, O => .nx env O
  | d :: ds, env, O => match f d env O with
    | .nx env' O' => forM f ds env' O'
    | .ct env' O' => forM f ds env' O'
    | .bk env' O' => .nx env' O'
    | r => r
/-- while, to a number of turns -/
def whN (c : List Sl → Sto → R Bool) (b : List Sl → Sto → Fl) : Nat → List Sl → Sto → Fl
  | 0, _, _ => .stk
  | n + 1, env, O => (c env O).fl env fun t O1 => if t then (match b env O1 with
      | .nx env' O' => whN c b n env' O'
      | .ct env' O' => whN c b n env' O'
      | .bk env' O' => .nx env' O'
      | r => r) else .nx env O1
open Classical in
noncomputable def whF (c : List Sl → Sto → R Bool) (b : List Sl → Sto → Fl) (env : List Sl) (O : Sto) : Fl :=
  if h : ∃ n, whN c b n env O ≠ .stk then whN c b (choose h) env O else .stk
theorem whN_mono (c : List Sl → Sto → R Bool) (b : List Sl → Sto → Fl) : ∀ (n m : Nat) (env : List Sl) (O : Sto), n ≤ m → whN c b n env O ≠ .stk → whN c b m env O = whN c b n env O
  | 0, _, _, _, _, h => absurd rfl h
  | n + 1, 0, _, _, hm, _ => absurd hm (by omega)
  | n + 1, m + 1, env, O, hm, h => by
    unfold whN at h ⊢
    cases hc : c env O with
    | exc x O1 => rfl
    | stk => rfl
    | ok t O1 =>
      rw [hc] at h
      simp only [R.fl_ok] at h ⊢
      cases t with
      | false => rfl
      | true =>
        simp only [if_true] at h ⊢
        cases hb : b env O1 with
        | nx e' O' => rw [hb] at h; exact whN_mono c b n m e' O' (by omega) h
        | ct e' O' => rw [hb] at h; exact whN_mono c b n m e' O' (by omega) h
        | bk e' O' => rfl
        | rt x O' => rfl
        | exc x e' O' => rfl
        | stk => rfl
theorem whF_of {c : List Sl → Sto → R Bool} {b : List Sl → Sto → Fl} {n : Nat} {env : List Sl} {O : Sto} (h : whN c b n env O ≠ .stk) : whF c b env O = whN c b n env O := by
  have hx : ∃ n, whN c b n env O ≠ .stk := ⟨n, h⟩
  unfold whF
  rw [dif_pos hx]
  have h2 := Classical.choose_spec hx
  rcases Nat.le_total n (Classical.choose hx) with l | l
  · rw [whN_mono c b _ _ env O l h]
  · rw [← whN_mono c b _ _ env O l h2]
/-- one turn of a while -/
theorem whF_step (c : List Sl → Sto → R Bool) (b : List Sl → Sto → Fl) (env : List Sl) (O : Sto) : whF c b env O = (c env O).fl env fun t O1 => if t then (match b env O1 with
      | .nx env' O' => whF c b env' O'
      | .ct env' O' => whF c b env' O'
      | .bk env' O' => .nx env' O'
      | r => r) else .nx env O1 := by
  have none_of : ∀ env O, (¬ ∃ n, whN c b n env O ≠ .stk) → whF c b env O = .stk := fun env O h => by unfold whF; rw [dif_neg h]
  by_cases hx : ∃ n, whN c b n env O ≠ .stk
  · obtain ⟨n, h⟩ := hx
    rw [whF_of h]
    cases n with
    | zero => exact absurd rfl h
    | succ n =>
      unfold whN at h ⊢
      cases hc : c env O with
      | exc x O1 => rfl
      | stk => rfl
      | ok t O1 =>
        rw [hc] at h
        simp only [R.fl_ok] at h ⊢
        cases t with
        | false => rfl
        | true =>
          simp only [if_true] at h ⊢
          cases hb : b env O1 with
          | nx e' O' => rw [hb] at h; exact (whF_of h).symm
          | ct e' O' => rw [hb] at h; exact (whF_of h).symm
          | bk e' O' => rfl
          | rt x O' => rfl
          | exc x e' O' => rfl
          | stk => rfl
  · rw [none_of env O hx]
    have hn : ∀ n, whN c b n env O = .stk := fun n => Classical.byContradiction fun z => hx ⟨n, z⟩
    cases hc : c env O with
    | exc x O1 => have := hn 1; unfold whN at this; rw [hc] at this; exact this.symm
    | stk => rfl
    | ok t O1 =>
      simp only [R.fl_ok]
      cases t with
      | false => have := hn 1; unfold whN at this; rw [hc] at this; exact this.symm
      | true =>
        simp only [if_true]
        have hn' : ∀ n, (match b env O1 with
            | .nx env' O' => whN c b n env' O'
            | .ct env' O' => whN c b n env' O'
            | .bk env' O' => Fl.nx env' O'
            | r => r) = .stk := fun n => by
          have := hn (n + 1)
          unfold whN at this
          rw [hc] at this
          simpa only [R.fl_ok, if_true] using this
        cases hb : b env O1 with
        | nx e' O' =>
          refine (none_of e' O' fun ⟨n, z⟩ => z ?_).symm
          have := hn' n
          rw [hb] at this
          exact this
        | ct e' O' =>
          refine (none_of e' O' fun ⟨n, z⟩ => z ?_).symm
          have := hn' n
          rw [hb] at this
          exact this
        | bk e' O' => have := hn' 0; rw [hb] at this; exact this.symm
        | rt x O' => have := hn' 0; rw [hb] at this; exact this.symm
        | exc x e' O' => have := hn' 0; rw [hb] at this; exact this.symm
        | stk => rfl

/-- x[k] = d, by what the name holds -/
def setiD (s : Sl) (k d : D) (O : Sto) : Option (Sl × Sto) := match s, k with
  | .ow n (.lst ds), .int k => if n = 1 then (ixN ds.length k).map fun j => (.ow 1 (.lst (ds.set j d)), O) else none
  | .va (.obj j), .int k => match O[j]? with
    | some (.cell ds) => (ixN ds.length k).map fun l => (.va (.obj j), O.set j (.cell (ds.set l d)))
    | none => none
  | _, _ => none
def appD (s : Sl) (x : XD) : Option Sl := match s with
  | .ow (n + 1) (.lst ds) => (x.kid n).bind fun d => if ds.length < sizeLine then some (.ow (n + 1) (.lst (ds ++ [d]))) else none
  | _ => none
def extD (s : Sl) (x : XD) : Option Sl := match s with
  | .ow 1 (.lst ds) => x.fzd.bind fun d => match d with
    | .lst es => if ds.length + es.length ≤ sizeLine then some (.ow 1 (.lst (ds ++ es))) else none
    | _ => none
  | _ => none
def vaE (env : List Sl) (i : Nat) : Option D := match env[i]? with
  | some (.va d) => some d
  | _ => none
def fzX : XD → Option D
  | .fz z => some z
  | _ => none
def retX : XD → Option XD
  | .br _ _ => none
  | x => some x
def augD : Operator → D → D → Option D
  | .Add, .int i, .int j => some (.int (i + j))
  | .Sub, .int i, .int j => some (.int (i - j))
  | _, _, _ => none
def slV : Sl → Option Sl
  | .un => none
  | s => some s
def ownS : Sl → Option Sl
  | .ow (n + 1) (.lst ds) => some (.ow (n + 1) (.lst ds))
  | _ => none
def slX : Sl → Option XD
  | .un => none
  | .va d => some (.fz d)
  | .ow n d => some (.ow n d)
def frzD : Sl → Sl
  | .ow _ d => .va d
  | s => s
section
variable (call : Nat → List D → Sto → R XD)
/-- a test -/
noncomputable def evT (c : E) (env : List Sl) (O : Sto) : R Bool := (ev call c env O).bind fun x O1 => .ofO x.bl O1
mutual
noncomputable def ex : S → List Sl → Sto → Fl
  | .set i own e, env, O => (ev call e env O).fl env fun x O1 => Fl.opt ((x.slot own).bind fun s => setE env i s) fun env' => .nx env' O1
  | .par js es, env, O => (evs call es env O).fl env fun xs O1 => Fl.opt (parE js xs env) fun env' => .nx env' O1
  | .unp t e, env, O => (ev call e env O).fl env fun x O1 => Fl.opt (x.fzd.bind fun d => asg t d env) fun env' => .nx env' O1
  | .aug i op e, env, O => Fl.opt (vaE env i) fun d => (ev call e env O).fl env fun y O1 => Fl.opt (y.rdd.bind fun e => augD op d e) fun z => .nx (env.set i (.va z)) O1
  | .seti i k e, env, O => (ev call e env O).fl env fun x O1 => Fl.opt (env[i]?.bind slV) fun s => (ev call k env O1).fl env fun y O2 => Fl.opt (x.fzd.bind fun d => (fzX y).bind fun k => setiD s k d O2) fun r => .nx (env.set i r.1) r.2
  | .app i e, env, O => Fl.opt (env[i]?.bind ownS) fun s => (ev call e env O).fl env fun x O1 => Fl.opt (appD s x) fun s' => .nx (env.set i s') O1
  | .ext i e, env, O => Fl.opt (env[i]?.bind ownS) fun s => (ev call e env O).fl env fun x O1 => Fl.opt (extD s x) fun s' => .nx (env.set i s') O1
  | .drop e, env, O => (ev call e env O).fl env fun _ O1 => .nx env O1
  | .ret e, env, O => (ev call e env O).fl env fun x O1 => Fl.opt (retX x) fun y => .rt y O1
  | .retv i, env, O => Fl.opt (env[i]?.bind slX) fun y => .rt y O
  | .retN, _, O => .rt (.fz .non) O
  | .ife c a b, env, O => (evT call c env O).fl env fun t O1 => if t = true then exs a env O1 else exs b env O1
  | .for t i b, env, O => (evI call i env O).fl env fun ds O1 => forM (fun d env' O2 => Fl.opt (asg t d env') fun e2 => exs b e2 O2) ds env O1
  | .whl c b, env, O => whF (evT call c) (fun env' O' => exs b env' O') env O
  | .brk, env, O => .bk env O
  | .cnt, env, O => .ct env O
  | .pas, env, O => .nx env O
  | .nev, _, _ => .stk
  | .frz i, env, O => Fl.opt env[i]? fun s => .nx (env.set i (frzD s)) O
  | .mat e cs, env, O => (ev call e env O).fl env fun x O1 => Fl.opt (strX x) fun s => exC cs s env O1
noncomputable def exC : Cs → Tx → List Sl → Sto → Fl
  | .nil, _, env, O => .nx env O
  | .cons ws b r, s, env, O => if ws.contains s = true then exs b env O else exC r s env O
noncomputable def exs : Ss → List Sl → Sto → Fl
  | .nil, env, O => .nx env O
  | .cons s r, env, O => (ex s env O).seq fun env' O' => exs r env' O'
end
end

/-! ### defs -/
structure Code where
  np : Nat
  ns : Nat
  body : Ss
def Fl.out : Fl → R XD
  | .nx _ O => .ok (.fz .non) O
  | .rt x O => .ok x O
  | .exc x _ O => .exc x O
  | _ => .stk
noncomputable def run (C : List Code) : Nat → Nat → List D → Sto → R XD
  | 0, _, _, _ => .stk
  | n + 1, f, ds, O => match C[f]? with
    | some c => if ds.length = c.np then (exs (run C n) c.body (ds.map .va ++ List.replicate (c.ns - c.np) .un) O).out else .stk
    | none => .stk
end Ev

namespace Ev
open PySem PySem.Spec PyProof.Rows L2

section
variable {K : PySem.W.Frag} {G G' G1 G2 : Gh} {H H' H1 H2 : Hp} {O O' : Sto}
/-- the heap bears what is known -/
structure GOk (K : PySem.W.Frag) (G : Gh) (H : Hp) (O : Sto) : Prop where
  sub : Sub G.F H
  len : G.A.length = O.length
  obs : ∀ (i : Nat) (ds : List D), O[i]? = some (Ob.cell ds) → ∃ a vs, G.A[i]? = some a ∧ H a = some (.lst vs) ∧ DenL K G ds vs
  nd : G.A.Nodup
  nf : ∀ a ∈ G.A, G.F a = none
/-- from one heap to a later one: what was tracked is as it was, but for the store's things -/
structure Ext (G G' : Gh) (H H' : Hp) : Prop where
  fs : Sub G.F G'.F
  fn : ∀ a, H a ≠ none → G.F a = none → G'.F a = none
  ap : ∃ l, G'.A = G.A ++ l ∧ ∀ a ∈ l, H a = none
  kp : ∀ a o, H a = some o → a ∉ G.A → H' a = some o
  tr : ∀ a, H a ≠ none → H' a ≠ none
theorem Ext.refl (G : Gh) (H : Hp) : Ext G G H H := ⟨Sub.refl _, fun _ _ h => h, ⟨[], by simp, by simp⟩, fun _ _ h _ => h, fun _ h => h⟩
theorem Ext.le (x : Ext G G' H H') : Le G G' := ⟨x.fs, fun i a h => by
  obtain ⟨l, e, _⟩ := x.ap
  rw [e, List.getElem?_append_left (List.getElem?_eq_some_iff.mp h).1]
  exact h⟩
theorem Ext.memA (x : Ext G G' H H') {a : Addr} (h : a ∈ G.A) : a ∈ G'.A := by
  obtain ⟨l, e, _⟩ := x.ap
  rw [e]; exact List.mem_append_left _ h
theorem Ext.notA (x : Ext G G' H H') {a : Addr} (h : a ∉ G.A) (t : H a ≠ none) : a ∉ G'.A := by
  obtain ⟨l, e, f⟩ := x.ap
  rw [e]
  intro z
  rcases List.mem_append.mp z with z | z
  · exact h z
  · exact t (f a z)
theorem Ext.trans (x : Ext G G1 H H1) (y : Ext G1 G2 H1 H2) : Ext G G2 H H2 where
  fs := x.fs.trans y.fs
  fn := fun a t n => y.fn a (x.tr a t) (x.fn a t n)
  ap := by
    obtain ⟨l, e, f⟩ := x.ap
    obtain ⟨m, e', f'⟩ := y.ap
    refine ⟨l ++ m, by rw [e', e, List.append_assoc], fun a h => ?_⟩
    rcases List.mem_append.mp h with h | h
    · exact f a h
    · exact Classical.byContradiction fun z => x.tr a z (f' a h)
  kp := fun a o h n => y.kp a o (x.kp a o h n) (x.notA n (by rw [h]; simp))
  tr := fun a h => y.tr a (x.tr a h)

/-! ### things of one's own -/
theorem Own3.mono {P P' : D → V → List Addr → Prop} : ∀ {ds : List D} {vs : List V} {fs : List (List Addr)}, (∀ d v f, f ∈ fs → P d v f → P' d v f) → Own3 P ds vs fs → Own3 P' ds vs fs
  | [], _, _, _, x => x
  | d :: ds, _, _, h, x => by
    unfold Own3 at x ⊢
    obtain ⟨v, r, f, g, rfl, rfl, p, q⟩ := x
    exact ⟨v, r, f, g, rfl, rfl, h _ _ _ List.mem_cons_self p, Own3.mono (fun d v f' hf => h d v f' (List.mem_cons_of_mem _ hf)) q⟩
theorem Own3.of_den : ∀ {ds : List D} {vs : List V}, DenL K G ds vs → ∃ fs, Own3 (Own K G H 0) ds vs fs ∧ fs.flatten = []
  | [], _, x => by rw [x.inv0]; exact ⟨[], by unfold Own3; exact ⟨rfl, rfl⟩, rfl⟩
  | d :: ds, _, x => by
    obtain ⟨v, r, rfl, p, q⟩ := x.inv
    obtain ⟨fs, h, e⟩ := Own3.of_den q
    refine ⟨[] :: fs, ?_, by simpa using e⟩
    unfold Own3
    exact ⟨v, r, [], fs, rfl, rfl, ⟨rfl, p⟩, h⟩
theorem Own3.den : ∀ {ds : List D} {vs : List V} {fs : List (List Addr)}, Own3 (Own K G H 0) ds vs fs → DenL K G ds vs ∧ fs.flatten = []
  | [], _, _, x => by unfold Own3 at x; rw [x.1, x.2]; exact ⟨.nil, rfl⟩
  | d :: ds, _, _, x => by
    unfold Own3 at x
    obtain ⟨v, r, f, g, rfl, rfl, p, q⟩ := x
    obtain ⟨e, p⟩ := (show f = [] ∧ Den K G d v from p)
    obtain ⟨h, e'⟩ := Own3.den q
    exact ⟨.cons p h, by rw [List.flatten_cons, e, e']; rfl⟩
/-- a flat list of one's own -/
theorem Own.one {ds : List D} {a : Addr} {vs : List V} (h : H a = some (.lst vs)) (t : DenL K G ds vs) : Own K G H 1 (.lst ds) (.ref a) [a] := by
  obtain ⟨fs, o, e⟩ := Own3.of_den (H := H) t
  unfold Own
  exact ⟨a, vs, fs, rfl, h, by rw [e], o⟩
theorem Own.inv1 {ds : List D} {v : V} {fp : List Addr} (h : Own K G H 1 (.lst ds) v fp) : ∃ a vs, v = .ref a ∧ H a = some (.lst vs) ∧ fp = [a] ∧ DenL K G ds vs := by
  unfold Own at h
  obtain ⟨a, vs, fs, e, h, ef, o⟩ := h
  obtain ⟨t, e2⟩ := o.den
  exact ⟨a, vs, e, h, by rw [ef, e2], t⟩
theorem Own.keep (l : Le G G') : ∀ (n : Nat) (d : D) (v : V) (fp : List Addr), (∀ a ∈ fp, H' a = H a) → Own K G H n d v fp → Own K G' H' n d v fp
  | 0, d, v, fp, _, x => ⟨x.1, Den.mono l d v x.2⟩
  | n + 1, d, v, fp, hk, x => by
    cases d with
    | lst ds =>
      unfold Own at x ⊢
      obtain ⟨a, vs, fs, e, h, ef, o⟩ := x
      refine ⟨a, vs, fs, e, (hk a (by rw [ef]; exact List.mem_cons_self)).trans h, ef, o.mono fun d v f hf => Own.keep l n d v f fun b hb => hk b ?_⟩
      rw [ef]
      exact List.mem_cons_of_mem _ (List.mem_flatten.mpr ⟨f, hf, hb⟩)
    | _ => exact (show False from x).elim
theorem Own3.trk {P : D → V → List Addr → Prop} (hp : ∀ d v f a, P d v f → a ∈ f → H a ≠ none) : ∀ {ds : List D} {vs : List V} {fs : List (List Addr)}, Own3 P ds vs fs → ∀ a ∈ fs.flatten, H a ≠ none
  | [], _, _, x, a, h => by unfold Own3 at x; rw [x.2] at h; simp at h
  | d :: ds, _, _, x, a, h => by
    unfold Own3 at x
    obtain ⟨v, r, f, g, rfl, rfl, p, q⟩ := x
    rw [List.flatten_cons] at h
    rcases List.mem_append.mp h with h | h
    · exact hp d v f a p h
    · exact Own3.trk hp q a h
theorem Own.trk : ∀ (n : Nat) (d : D) (v : V) (fp : List Addr), Own K G H n d v fp → ∀ a ∈ fp, H a ≠ none
  | 0, d, v, fp, x, a, h => by rw [x.1] at h; cases h
  | n + 1, d, v, fp, x, a, h => by
    cases d with
    | lst ds =>
      unfold Own at x
      obtain ⟨b, vs, fs, e, hb, ef, o⟩ := x
      rw [ef] at h
      rcases List.mem_cons.mp h with h | h
      · rw [h, hb]; simp
      · exact Own3.trk (fun d v f a p => Own.trk n d v f p a) o a h
    | _ => exact (show False from x).elim

/-- kept for ever: what lies at fp joins what stays -/
def Gh.fr (G : Gh) (H : Hp) (fp : List Addr) : Gh := ⟨fun a => if a ∈ fp then H a else G.F a, G.A⟩
theorem Gh.fr_le (hs : Sub G.F H) (fp : List Addr) : Le G (G.fr H fp) := ⟨fun a o h => by
  show (if a ∈ fp then H a else G.F a) = some o
  split
  · exact hs a o h
  · exact h, fun _ _ h => h⟩
mutual
theorem Own.frz (hs : Sub G.F H) (fq : List Addr) : ∀ (n : Nat) (d : D) (v : V) (fp : List Addr), (∀ a ∈ fp, a ∈ fq) → Own K G H n d v fp → Den K (G.fr H fq) d v
  | 0, d, v, fp, _, x => Den.mono (Gh.fr_le hs fq) d v x.2
  | n + 1, d, v, fp, hk, x => by
    cases d with
    | lst ds =>
      unfold Own at x
      obtain ⟨a, vs, fs, e, h, ef, o⟩ := x
      unfold Den
      refine ⟨a, vs, e, ?_, Own3.frz hs fq n ds vs fs (fun b hb => hk b (by rw [ef]; exact List.mem_cons_of_mem _ hb)) o⟩
      show (if a ∈ fq then H a else G.F a) = _
      rw [if_pos (hk a (by rw [ef]; exact List.mem_cons_self))]
      exact h
    | _ => exact (show False from x).elim
  termination_by n d => (n, 0)
theorem Own3.frz (hs : Sub G.F H) (fq : List Addr) (n : Nat) : ∀ (ds : List D) (vs : List V) (fs : List (List Addr)), (∀ a ∈ fs.flatten, a ∈ fq) → Own3 (Own K G H n) ds vs fs → DenL K (G.fr H fq) ds vs
  | [], vs, fs, _, x => by unfold Own3 at x; rw [x.1]; exact .nil
  | d :: ds, vs, fs, hk, x => by
    unfold Own3 at x
    obtain ⟨v, r, f, g, rfl, rfl, p, q⟩ := x
    exact .cons (Own.frz hs fq n d v f (fun a h => hk a (by rw [List.flatten_cons]; exact List.mem_append_left _ h)) p)
      (Own3.frz hs fq n ds r g (fun a h => hk a (by rw [List.flatten_cons]; exact List.mem_append_right _ h)) q)
  termination_by ds => (n, ds.length + 1)
end

/-- what is new and nobody's: fp, for one who stood at H -/
structure Fresh (H : Hp) (G : Gh) (fp : List Addr) : Prop where
  nd : fp.Nodup
  new : ∀ a ∈ fp, H a = none ∧ G.F a = none ∧ a ∉ G.A
theorem Fresh.nil : Fresh H G [] := ⟨List.nodup_nil, fun _ h => by cases h⟩
theorem Fresh.pre (x : Ext G G1 H H1) (f : Fresh H1 G2 fp) : Fresh H G2 fp := ⟨f.nd, fun a h => ⟨Classical.byContradiction fun z => x.tr a z (f.new a h).1, (f.new a h).2⟩⟩
theorem Fresh.ext {fp : List Addr} (x : Ext G1 G2 H1 H2) (f : Fresh H G1 fp) (t : ∀ a ∈ fp, H1 a ≠ none) : Fresh H G2 fp :=
  ⟨f.nd, fun a h => ⟨(f.new a h).1, x.fn a (t a h) (f.new a h).2.1, x.notA (f.new a h).2.2 (t a h)⟩⟩

theorem GOk.ofFr {fp : List Addr} (g : GOk K G H O) (f : Fresh H1 G fp) : GOk K (G.fr H fp) H O where
  sub := fun a o h => by
    have h : (if a ∈ fp then H a else G.F a) = some o := h
    split at h
    · exact h
    · exact g.sub a o h
  len := g.len
  obs := fun i ds e => by
    obtain ⟨a, vs, h1, h2, h3⟩ := g.obs i ds e
    exact ⟨a, vs, h1, h2, DenL.mono (Gh.fr_le g.sub fp) ds vs h3⟩
  nd := g.nd
  nf := fun a h => by
    show (if a ∈ fp then H a else G.F a) = none
    rw [if_neg fun z => (f.new a z).2.2 h]
    exact g.nf a h
theorem Ext.ofFr {fp : List Addr} (x : Ext G G1 H H1) (s : Sub G1.F H1) (f : Fresh H G1 fp) : Ext G (G1.fr H1 fp) H H1 where
  fs := x.fs.trans (Gh.fr_le s fp).f
  fn := fun a t n => by
    show (if a ∈ fp then H1 a else G1.F a) = none
    rw [if_neg fun z => t (f.new a z).1]
    exact x.fn a t n
  ap := x.ap
  kp := x.kp
  tr := x.tr

/-! ### what expressions give -/
def KRep (K : PySem.W.Frag) (x : XD) (G : Gh) (H : Hp) (v : V) (fp : List Addr) : Prop := match x with
  | .fz d => fp = [] ∧ Den K G d v
  | .ow n d => Own K G H n d v fp
  | .br n d => fp = [] ∧ ∃ f, Own K G H n d v f ∧ ∀ a ∈ f, a ∉ G.A
theorem KRep.trk {x : XD} {v : V} {fp : List Addr} (h : KRep K x G H v fp) : ∀ a ∈ fp, H a ≠ none := fun a ha => by
  cases x with
  | fz d => rw [h.1] at ha; cases ha
  | ow n d => exact Own.trk n d v fp h a ha
  | br n d => rw [h.1] at ha; cases ha
theorem KRep.ext {x : XD} {v : V} {fp : List Addr} (e : Ext G G' H H') (nA : ∀ a ∈ fp, a ∉ G.A) (h : KRep K x G H v fp) : KRep K x G' H' v fp := by
  have same : ∀ (f : List Addr), (∀ a ∈ f, a ∉ G.A) → (∀ a ∈ f, H a ≠ none) → ∀ a ∈ f, H' a = H a := fun f n t a ha => by
    cases q : H a with
    | none => exact absurd q (t a ha)
    | some o => rw [e.kp a o q (n a ha)]
  cases x with
  | fz d => exact ⟨h.1, Den.mono e.le d v h.2⟩
  | ow n d => exact Own.keep e.le n d v fp (same fp nA (Own.trk n d v fp h)) h
  | br n d =>
    obtain ⟨e1, f, o, na⟩ := h
    have t := Own.trk n d v f o
    exact ⟨e1, f, Own.keep e.le n d v f (same f na t) o, fun a ha => e.notA (na a ha) (t a ha)⟩
/-- to be read: its items stay -/
def Rd1 (K : PySem.W.Frag) (G : Gh) (H : Hp) (d : D) (v : V) : Prop := Den K G d v ∨ ∃ a ds vs, d = .lst ds ∧ v = .ref a ∧ H a = some (.lst vs) ∧ DenL K G ds vs ∧ a ∉ G.A
theorem Rd1.ext {d : D} {v : V} (e : Ext G G' H H') (h : Rd1 K G H d v) : Rd1 K G' H' d v := by
  rcases h with h | ⟨a, ds, vs, rfl, rfl, h, t, n⟩
  · exact .inl (Den.mono e.le d v h)
  · exact .inr ⟨a, ds, vs, rfl, rfl, e.kp a _ h n, DenL.mono e.le ds vs t, e.notA n (by rw [h]; simp)⟩
theorem KRep.rd {x : XD} {d : D} {v : V} {fp : List Addr} (h : KRep K x G H v fp) (nA : ∀ a ∈ fp, a ∉ G.A) (e : x.rdd = some d) : Rd1 K G H d v := by
  have go : ∀ (n : Nat) (d : D) (f : List Addr), n ≤ 1 → Own K G H n d v f → (∀ a ∈ f, a ∉ G.A) → Rd1 K G H d v := fun n d f hn o na => by
    match n, hn with
    | 0, _ => exact .inl o.2
    | 1, _ =>
      cases d with
      | lst ds =>
        obtain ⟨a, vs, rfl, ha, rfl, t⟩ := o.inv1
        exact .inr ⟨a, ds, vs, rfl, rfl, ha, t, na a (by simp)⟩
      | _ => exact (show False from o).elim
  cases x with
  | fz d' => cases e; exact .inl h.2
  | ow n d' =>
    simp only [XD.rdd] at e
    split at e
    · rename_i hn
      cases e; exact go n _ fp hn h nA
    · cases e
  | br n d' =>
    simp only [XD.rdd] at e
    split at e
    · rename_i hn
      cases e
      obtain ⟨_, f, o, na⟩ := h
      exact go n _ f hn o na
    · cases e
end
end Ev

namespace Ev
open PySem PySem.Spec PyProof.Rows L2

abbrev St := L2.St
/-! ### the text's own things, by number -/
structure Gt where
  C : List Code
  fn : List (Str × Addr × FuncData × List Str)
  cl : List (Str × Addr × List Str)
/-- an exception as it lies -/
def ExR (gt : Gt) (K : PySem.W.Frag) (x : Ex) (G : Gh) (cls : Value) (dx : Option Addr) : Prop :=
  ∃ nm C fns d fs, gt.cl[x.c]? = some (nm, C, fns) ∧ cls = .ref C ∧ dx = some d ∧ G.F d = some (.xd fs) ∧ fs.map (·.1) = fns ∧ DenL K G x.ds (fs.map (·.2))

/-! ### a frame's names -/
def SlOk (K : PySem.W.Frag) (G : Gh) (H : Hp) (s : Sl) (o : Option (Option V)) (f : List Addr) : Prop := match s with
  | .un => f = []
  | .va d => f = [] ∧ ∃ v, o = some (some v) ∧ Den K G d v
  | .ow n d => ∃ v, o = some (some v) ∧ Own K G H n d v f
structure EnvW (K : PySem.W.Frag) (H0 : Hp) (G : Gh) (H : Hp) (σ : St) (env : List Sl) (φ : Nat → List Addr) : Prop where
  len : σ.length = env.length
  nd : ∀ i, (φ i).Nodup
  apart : ∀ i j a, a ∈ φ i → a ∈ φ j → i = j
  new : ∀ i a, a ∈ φ i → H0 a = none ∧ G.F a = none ∧ a ∉ G.A ∧ H a ≠ none
  at' : ∀ (i : Nat) (s : Sl), env[i]? = some s → SlOk K G H s (σ[i]?) (φ i)
def EnvOk (K : PySem.W.Frag) (H0 : Hp) (G : Gh) (H : Hp) (σ : St) (env : List Sl) : Prop := ∃ φ, EnvW K H0 G H σ env φ
section
variable {K : PySem.W.Frag} {G G' G1 G2 : Gh} {H H' H1 H2 H0 : Hp} {O O' : Sto} {σ : St} {env : List Sl}
theorem SlOk.ext {s : Sl} {o : Option (Option V)} {f : List Addr} (x : Ext G G' H H') (nA : ∀ a ∈ f, a ∉ G.A) (h : SlOk K G H s o f) : SlOk K G' H' s o f := by
  cases s with
  | un => exact h
  | va d => obtain ⟨e, v, e2, t⟩ := h; exact ⟨e, v, e2, Den.mono x.le d v t⟩
  | ow n d =>
    obtain ⟨v, e, o⟩ := h
    refine ⟨v, e, Own.keep x.le n d v f (fun a ha => ?_) o⟩
    cases q : H a with
    | none => exact absurd q (Own.trk n d v f o a ha)
    | some u => rw [x.kp a u q (nA a ha)]
theorem EnvW.ext {φ : Nat → List Addr} (x : Ext G G' H H') (w : EnvW K H0 G H σ env φ) : EnvW K H0 G' H' σ env φ where
  len := w.len
  nd := w.nd
  apart := w.apart
  new := fun i a h => by
    obtain ⟨h0, h1, h2, h3⟩ := w.new i a h
    exact ⟨h0, x.fn a h3 h1, x.notA h2 h3, x.tr a h3⟩
  at' := fun i s h => (w.at' i s h).ext x fun a ha => (w.new i a ha).2.2.1
theorem EnvOk.ext (x : Ext G G' H H') (w : EnvOk K H0 G H σ env) : EnvOk K H0 G' H' σ env := let ⟨φ, w⟩ := w; ⟨φ, w.ext x⟩
theorem EnvW.len' {φ : Nat → List Addr} (w : EnvW K H0 G H σ env φ) : env.length = σ.length := w.len.symm
end

/-! ### what is shown of a reading -/
section
variable {gt : Gt} {K : PySem.W.Frag} {G G' G1 G2 : Gh} {H H' H1 H2 H0 : Hp} {O O' : Sto} {σ : St} {env : List Sl}
abbrev Rel (α β : Type) := β → Gh → Hp → α → List Addr → Prop
def Goal {α β : Type} (gt : Gt) (K : PySem.W.Frag) (W : XK) (rel : Rel α β) (G : Gh) (H : Hp) (r : R β) (P : (α → Hp → Prop) → Prop) : Prop := match r with
  | .ok x O' => ∀ Q : α → Hp → Prop, (∀ v G' H' fp, Ext G G' H H' → GOk K G' H' O' → rel x G' H' v fp → Fresh H G' fp → Q v H') → P Q
  | .exc x O' => ∀ Q : α → Hp → Prop, (∀ cls dx G' H', Ext G G' H H' → GOk K G' H' O' → ExR gt K x G' cls dx → W cls dx H') → P Q
  | .stk => True
theorem Goal.pre {α β : Type} {W : XK} {rel : Rel α β} {r : R β} {P : (α → Hp → Prop) → Prop} (x : Ext G G1 H H1) (g : Goal gt K W rel G1 H1 r P) : Goal gt K W rel G H r P := by
  cases r with
  | ok b O' => exact fun Q h => g Q fun v G' H' fp e k q f => h v G' H' fp (x.trans e) k q (Fresh.pre x f)
  | exc b O' => exact fun Q h => g Q fun c d G' H' e k q => h c d G' H' (x.trans e) k q
  | stk => exact trivial
theorem Goal.bind {α α' β γ : Type} {W : XK} {rel : Rel α β} {rel' : Rel α' γ} {r : R β} {f : β → Sto → R γ} {P : (α → Hp → Prop) → Prop} {U : α → Hp → (α' → Hp → Prop) → Prop} (x : Ext G G' H H') (g : Goal gt K W rel G' H' r P)
    (k : ∀ b O1 v G1 H1 fp, Ext G' G1 H' H1 → GOk K G1 H1 O1 → rel b G1 H1 v fp → Fresh H' G1 fp → Goal gt K W rel' G H (f b O1) (U v H1)) :
    Goal gt K W rel' G H (r.bind f) (fun Q => P fun v H1 => U v H1 Q) := by
  cases r with
  | stk => exact trivial
  | exc y O1 => exact fun Q h => g _ fun c d G1 H1 e => h c d G1 H1 (x.trans e)
  | ok b O1 =>
    show Goal gt K W rel' G H (f b O1) _
    cases q : f b O1 with
    | stk => exact trivial
    | exc x O2 =>
      intro Q h
      refine g _ fun v G1 H1 fp e o rl fr => ?_
      have z := k b O1 v G1 H1 fp e o rl fr
      rw [q] at z
      exact z Q h
    | ok c O2 =>
      intro Q h
      refine g _ fun v G1 H1 fp e o rl fr => ?_
      have z := k b O1 v G1 H1 fp e o rl fr
      rw [q] at z
      exact z Q h
/-- a value that is there -/
theorem Goal.pure {α β : Type} {W : XK} {rel : Rel α β} {b : β} {v : α} {fp : List Addr} (o : GOk K G H O) (h : rel b G H v fp) (f : Fresh H G fp) : Goal gt K W rel G H (.ok b O) (fun Q => Q v H) := fun Q k => k v G H fp (Ext.refl G H) o h f
theorem Goal.ofO {α β : Type} {W : XK} {rel : Rel α β} {o : Option β} {P : (α → Hp → Prop) → Prop} (h : ∀ b, o = some b → Goal gt K W rel G H (.ok b O) P) : Goal gt K W rel G H (.ofO o O) P := by
  cases o with
  | none => exact trivial
  | some b => exact h b rfl

/-! ### the context of a body -/
/-- the names as they stand: where each one lies, what may be stored -/
structure Scp where
  N : List Str
  names : List (Str × NameKind)
  sto : Str → Bool
  calm : Bool

/-- what a def's promise is: what its code gives -/
def FSp (gt : Gt) (K : PySem.W.Frag) (n i : Nat) : Sp := fun vs H Q E => ∃ G O ds, GOk K G H O ∧ DenL K G ds vs ∧ match run gt.C n i ds O with
  | .ok x O' => ∀ v G' H' fp, Ext G G' H H' → GOk K G' H' O' → KRep K x G' H' v fp → Fresh H G' fp → Q v H'
  | .exc x O' => ∀ cls dx G' H', Ext G G' H H' → GOk K G' H' O' → ExR gt K x G' cls dx → E cls dx H'
  | .stk => False
structure FnGood (gt : Gt) (X : Cx) (n i : Nat) (r : Str × Addr × FuncData × List Str) : Prop where
  glob : X.mg r.1 = some (.ref r.2.1)
  keep : PySem.W.keepIn X.K (.ref r.2.1) = true
  binds : Binds X.K r.2.2.1 r.2.2.2 []
  ok : FnOk X.prog X.w X.K X.mg X.base (L2.CX X.prog X.w) n r.2.1 r.2.2.1 r.2.2.2 (FSp gt X.K n i)
/-- what stands in the module, by name -/
structure ModOk (gt : Gt) (X : Cx) (n : Nat) (fn : List Str) (blt : List Str) (glb : List (Str × D)) (dfl : List (Nat × List D)) : Prop where
  fnn : ∀ (i : Nat) (x : Str), fn[i]? = some x → ∃ r, gt.fn[i]? = some r ∧ r.1 = x
  fns : ∀ (i : Nat) (r : Str × Addr × FuncData × List Str), gt.fn[i]? = some r → FnGood gt X n i r
  blt : ∀ x ∈ blt, X.mg x = none
  glb : ∀ p ∈ glb, ∃ u v, X.mg p.1 = some u ∧ RelV v u ∧ Den X.K ⟨fun _ => none, []⟩ p.2 v
  dfl : ∀ p ∈ dfl, ∀ r : Str × Addr × FuncData × List Str, gt.fn[p.1]? = some r → ∃ us vs, Binds X.K r.2.2.1 r.2.2.2 us ∧ Vals vs us ∧ DenL X.K ⟨fun _ => none, []⟩ p.2 vs
structure XOk (gt : Gt) (n : Nat) (fn : List Str) (blt : List Str) (glb : List (Str × D)) (dfl : List (Nat × List D)) (sc : Scp) (X : Cx) (W : WX) : Prop where
  kind : X.env.scope.kind = .function
  N : X.N = sc.N
  nd : sc.N.Nodup
  names : X.env.scope.names = sc.names
  sto : ∀ x, sc.sto x = true → X.fn x = true ∨ X.env.scope.names.lookup x = some .local
  calm : sc.calm = true → X.calm = true ∧ Room n X.A
  un : X.A.units + 200 < cLine
  md : ModOk gt X n fn blt glb dfl
  tk : Takes X W
/-- an expression's reading tells what the code gives -/
def EG (gt : Gt) (X : Cx) (W : WX) {α β : Type} (rel : Rel α β) (t : St → Hp → (α → Hp → Prop) → Prop) (m : List Sl → Sto → R β) : Prop :=
  ∀ G H O σ env H0, GOk X.K G H O → EnvOk X.K H0 G H σ env → Goal gt X.K (fun c d H' => W c d σ H') rel G H (m env O) (t σ H)
theorem EG.bind {X : Cx} {W : WX} {α α' β γ : Type} {rel : Rel α β} {rel' : Rel α' γ} {t : St → Hp → (α → Hp → Prop) → Prop} {m : List Sl → Sto → R β} {f : List Sl → β → Sto → R γ} {U : St → α → Hp → (α' → Hp → Prop) → Prop} (h : EG gt X W rel t m)
    (k : ∀ σ env H0 b O1 v G H G1 H1 fp, EnvOk X.K H0 G1 H1 σ env → Ext G G1 H H1 → GOk X.K G1 H1 O1 → rel b G1 H1 v fp → Fresh H G1 fp → Goal gt X.K (fun c d H' => W c d σ H') rel' G H (f env b O1) (U σ v H1)) :
    EG gt X W rel' (fun σ H Q => t σ H fun v H1 => U σ v H1 Q) (fun env O => (m env O).bind (f env)) := fun G H O σ env H0 o w =>
  Goal.bind (Ext.refl G H) (h G H O σ env H0 o w) fun b O1 v G1 H1 fp e o1 rl fr => k σ env H0 b O1 v G H G1 H1 fp (w.ext e) e o1 rl fr
/-- two readings in a row, the first one's answer kept -/
theorem EG.bind2 {X : Cx} {W : WX} {α α' α'' β β' γ : Type} {rel : Rel α β} {rel' : Rel α' β'} {rel'' : Rel α'' γ} {t : St → Hp → (α → Hp → Prop) → Prop} {t' : St → Hp → (α' → Hp → Prop) → Prop} {m : List Sl → Sto → R β} {m' : List Sl → Sto → R β'}
    {f : List Sl → β → β' → Sto → R γ} {U : St → α → α' → Hp → (α'' → Hp → Prop) → Prop} (h : EG gt X W rel t m) (h' : EG gt X W rel' t' m')
    (k : ∀ σ env H0 b b' O2 v w G H G1 H1 G2 H2 fp fp', EnvOk X.K H0 G2 H2 σ env → Ext G G1 H H1 → Ext G1 G2 H1 H2 → GOk X.K G2 H2 O2 → rel b G1 H1 v fp → Fresh H G1 fp → rel' b' G2 H2 w fp' → Fresh H1 G2 fp' →
      Goal gt X.K (fun c d H' => W c d σ H') rel'' G H (f env b b' O2) (U σ v w H2)) :
    EG gt X W rel'' (fun σ H Q => t σ H fun v H1 => t' σ H1 fun w H2 => U σ v w H2 Q) (fun env O => (m env O).bind fun b O1 => (m' env O1).bind fun b' O2 => f env b b' O2) := by
  refine EG.bind (U := fun σ v H1 Q => t' σ H1 fun w H2 => U σ v w H2 Q) (f := fun env b O1 => (m' env O1).bind fun b' O2 => f env b b' O2) h ?_
  intro σ env H0 b O1 v G H G1 H1 fp w1 e1 o1 rl fr
  exact Goal.bind e1 (h' G1 H1 O1 σ env H0 o1 w1) fun b' O2 w G2 H2 fp' e2 o2 rl' fr' => k σ env H0 b b' O2 v w G H G1 H1 G2 H2 fp fp' (w1.ext e2) e1 e2 o2 rl fr rl' fr'
end
end Ev

namespace Ev
open PySem PySem.Spec PyProof.Rows L2
/-! ### operators by data -/
section
variable {gt : Gt} {K : PySem.W.Frag} {G G' : Gh} {H H' H0 : Hp} {O O' : Sto}
theorem Rd1.lst {ds : List D} {v : V} (s : Sub G.F H) (h : Rd1 K G H (.lst ds) v) : ∃ a vs, v = .ref a ∧ H a = some (.lst vs) ∧ DenL K G ds vs := by
  rcases h with h | ⟨a, es, vs, e, rfl, h, t, _⟩
  · unfold Den at h
    obtain ⟨a, vs, rfl, h, t⟩ := h
    exact ⟨a, vs, rfl, s a _ h, t⟩
  · cases e
    exact ⟨a, vs, rfl, h, t⟩
theorem Rd1.tup {ds : List D} {v : V} (s : Sub G.F H) (h : Rd1 K G H (.tup ds) v) : ∃ a vs, v = .ref a ∧ SqT K H a vs ∧ DenL K G ds vs := by
  rcases h with h | ⟨a, es, vs, e, _⟩
  · unfold Den at h
    obtain ⟨a, vs, rfl, h, t⟩ := h
    exact ⟨a, vs, rfl, s.sqT h, t⟩
  · cases e
theorem Rd1.den {d : D} {v : V} (h : Rd1 K G H d v) (n : ∀ ds, d ≠ .lst ds) : Den K G d v := by
  rcases h with h | ⟨a, es, vs, e, _⟩
  · exact h
  · exact absurd e (n es)
theorem Rd1.int {i : Int} {v : V} (h : Rd1 K G H (.int i) v) : v = .int i := by
  have q := h.den (fun _ e => by cases e)
  unfold Den at q; exact q
theorem Rd1.str {x : Tx} {v : V} (h : Rd1 K G H (.str x) v) : v = .str (sOf x) := by
  have q := h.den (fun _ e => by cases e)
  unfold Den at q; exact q
theorem Rd1.bl {b : Bool} {v : V} (h : Rd1 K G H (.bl b) v) : v = .bl b := by
  have q := h.den (fun _ e => by cases e)
  unfold Den at q; exact q
theorem Rd1.non {v : V} (h : Rd1 K G H .non v) : v = .non := by
  have q := h.den (fun _ e => by cases e)
  unfold Den at q; exact q
theorem Rd1.obj {i : Nat} {v : V} (h : Rd1 K G H (.obj i) v) : ∃ a, v = .ref a ∧ G.A[i]? = some a := by
  have q := h.den (fun _ e => by cases e)
  unfold Den at q; exact q

/-- a new thing that stays: tracked at p -/
def Gh.put (G : Gh) (p : Addr) (o : HO) : Gh := ⟨upd G.F p o, G.A⟩
theorem put_ext (g : GOk K G H O) {p : Addr} (hp : H p = none) (o : HO) : Ext G (G.put p o) H (upd H p o) ∧ GOk K (G.put p o) (upd H p o) O := by
  have fp : G.F p = none := by
    cases q : G.F p with
    | none => rfl
    | some u => rw [g.sub p u q] at hp; cases hp
  have le : Sub G.F (upd G.F p o) := fun a u h => by rw [upd_ne (ne_of_none h fp)]; exact h
  have nA : ∀ a ∈ G.A, a ≠ p := fun a ha z => by
    subst z
    obtain ⟨i, hi⟩ := List.getElem?_of_mem ha
    have hlt : i < O.length := by rw [← g.len]; exact (List.getElem?_eq_some_iff.mp hi).1
    cases q : O[i] with
    | cell ds =>
      obtain ⟨b, vs, h1, h2, _⟩ := g.obs i ds (by rw [List.getElem?_eq_getElem hlt, q])
      rw [hi] at h1; cases h1
      rw [hp] at h2; cases h2
  have L : Le G (G.put p o) := ⟨le, fun _ _ h => h⟩
  refine ⟨⟨le, fun a t n => ?_, ⟨[], by simp [Gh.put], by simp⟩, fun a u h _ => ?_, fun a h => ?_⟩, ⟨fun a u h => ?_, g.len, fun i ds e => ?_, g.nd, fun a ha => ?_⟩⟩
  · show upd G.F p o a = none
    rw [upd_ne (fun z => t (by rw [z]; exact hp))]; exact n
  · rw [upd_ne (ne_of_none h hp)]; exact h
  · by_cases z : a = p
    · rw [z, upd_same]; simp
    · rw [upd_ne z]; exact h
  · have h : upd G.F p o a = some u := h
    by_cases z : a = p
    · rw [z, upd_same] at h ⊢; exact h
    · rw [upd_ne z] at h ⊢; exact g.sub a u h
  · obtain ⟨a, vs, h1, h2, h3⟩ := g.obs i ds e
    exact ⟨a, vs, h1, by rw [upd_ne (ne_of_none h2 hp)]; exact h2, DenL.mono L ds vs h3⟩
  · show upd G.F p o a = none
    rw [upd_ne (nA a ha)]; exact g.nf a ha
/-- a new list of one's own at p -/
theorem own_ext (g : GOk K G H O) {p : Addr} (hp : H p = none) {ds : List D} {vs : List V} (t : DenL K G ds vs) :
    Ext G G H (upd H p (.lst vs)) ∧ GOk K G (upd H p (.lst vs)) O ∧ Own K G (upd H p (.lst vs)) 1 (.lst ds) (.ref p) [p] ∧ Fresh H G [p] := by
  have fp : G.F p = none := by
    cases q : G.F p with
    | none => rfl
    | some u => rw [g.sub p u q] at hp; cases hp
  have nA : p ∉ G.A := fun ha => by
    obtain ⟨i, hi⟩ := List.getElem?_of_mem ha
    have hlt : i < O.length := by rw [← g.len]; exact (List.getElem?_eq_some_iff.mp hi).1
    cases q : O[i] with
    | cell ds =>
      obtain ⟨b, vs, h1, h2, _⟩ := g.obs i ds (by rw [List.getElem?_eq_getElem hlt, q])
      rw [hi] at h1; cases h1
      rw [hp] at h2; cases h2
  refine ⟨⟨Sub.refl _, fun _ _ n => n, ⟨[], by simp, by simp⟩, fun a u h _ => ?_, fun a h => ?_⟩, ⟨fun a u h => ?_, g.len, fun i ds e => ?_, g.nd, g.nf⟩, Own.one upd_same t, ⟨by simp, fun a h => ?_⟩⟩
  · rw [upd_ne (ne_of_none h hp)]; exact h
  · by_cases z : a = p
    · rw [z, upd_same]; simp
    · rw [upd_ne z]; exact h
  · rw [upd_ne (ne_of_none (g.sub a u h) hp)]; exact g.sub a u h
  · obtain ⟨a, vs, h1, h2, h3⟩ := g.obs i ds e
    exact ⟨a, vs, h1, by rw [upd_ne (ne_of_none h2 hp)]; exact h2, h3⟩
  · rw [List.mem_singleton.mp h]
    exact ⟨hp, fp, nA⟩
/-- what is wanted of an answer -/
abbrev Wanted (K : PySem.W.Frag) (z : XD) (G : Gh) (H : Hp) (O : Sto) (Q : VK) : Prop := ∀ u G' H' fp, Ext G G' H H' → GOk K G' H' O → KRep K z G' H' u fp → Fresh H G' fp → Q u H'
theorem Wanted.flat {z : XD} {Q : VK} (w : Wanted K z G H O Q) (g : GOk K G H O) {d : D} {v : V} (e : z = .fz d) (t : Den K G d v) : Q v H := by
  subst e
  exact w v G H [] (Ext.refl G H) g ⟨rfl, t⟩ Fresh.nil
theorem Wanted.tup {z : XD} {Q : VK} (w : Wanted K z G H O Q) (g : GOk K G H O) {ds : List D} {vs : List V} (e : z = .fz (.tup ds)) (t : DenL K G ds vs) {p : Addr} (hp : H p = none) : Q (.ref p) (upd H p (.tup vs)) := by
  subst e
  obtain ⟨x, g'⟩ := put_ext g hp (.tup vs)
  refine w _ (G.put p (.tup vs)) _ [] x g' ⟨rfl, ?_⟩ Fresh.nil
  unfold Den
  exact ⟨p, vs, rfl, .inl (.inl upd_same), DenL.mono x.le ds vs t⟩
theorem Wanted.lst {z : XD} {Q : VK} (w : Wanted K z G H O Q) (g : GOk K G H O) {ds : List D} {vs : List V} (e : z = .ow 1 (.lst ds)) (t : DenL K G ds vs) {p : Addr} (hp : H p = none) : Q (.ref p) (upd H p (.lst vs)) := by
  subst e
  obtain ⟨x, g', o, f⟩ := own_ext g hp t
  exact w _ G _ [p] x g' o f
end

/-- an operation of two things, by data -/
def Op2 (X : Cx) (f : Value → Value → Sem Value) (g : D → D → Option XD) : Prop :=
  ∃ r : R2, OpR X f r ∧ ∀ (G : Gh) (H : Hp) (O : Sto) (d e : D) (v w : V) (z : XD), GOk X.K G H O → Rd1 X.K G H d v → Rd1 X.K G H e w → g d e = some z → ∀ Q, Wanted X.K z G H O Q → r v w H Q
section
variable {X : Cx}
theorem DenL.flatten {K : PySem.W.Frag} {G : Gh} {ds : List D} {vs : List V} (t : DenL K G ds vs) : ∀ k : Nat, DenL K G (List.replicate k ds).flatten (List.replicate k vs).flatten
  | 0 => by simpa using DenL.nil
  | k + 1 => by rw [List.replicate_succ, List.replicate_succ, List.flatten_cons, List.flatten_cons]; exact t.app (DenL.flatten t k)
theorem Rd1.scr {K : PySem.W.Frag} {G : Gh} {H : Hp} {ns : List Int} {v : V} (s : Sub G.F H) (h : Rd1 K G H (.scr ns) v) : ∃ a, v = .ref a ∧ SqL K H a (ns.map V.int) := by
  have q := h.den (fun _ e => by cases e)
  unfold Den at q
  obtain ⟨a, rfl, hq⟩ := q
  exact ⟨a, rfl, s.sqL hq⟩
theorem op2_add : Op2 X (binaryOp .Add) (binD .Add) := by
  refine ⟨_, (op_add.or op_add_str).or (op_cat.or op_catA), fun G H O d e v w z g hd he hz Q W => ?_⟩
  cases d with
  | int i =>
    cases e with
    | int j =>
      simp only [binD, Option.some.injEq] at hz
      exact .inl (.inl ⟨i, j, hd.int, he.int, W.flat g hz.symm (by unfold Den; rfl)⟩)
    | _ => simp [binD] at hz
  | str a =>
    cases e with
    | str b =>
      simp only [binD] at hz
      split at hz
      · rename_i hl
        simp only [Option.some.injEq] at hz
        exact .inl (.inr ⟨sOf a, sOf b, hd.str, he.str, by rw [sOf_len, sOf_len]; exact hl, W.flat g hz.symm (by unfold Den; rw [sOf_app])⟩)
      · cases hz
    | _ => simp [binD] at hz
  | lst a =>
    cases e with
    | lst b =>
      simp only [binD] at hz
      split at hz
      · rename_i hl
        simp only [Option.some.injEq] at hz
        obtain ⟨p, xs, rfl, hp, tp⟩ := hd.lst g.sub
        obtain ⟨q, ys, rfl, hq, tq⟩ := he.lst g.sub
        exact .inr (.inl ⟨p, q, xs, ys, rfl, rfl, hp, hq, by rw [tp.len, tq.len]; exact hl, fun n hn => W.lst g hz.symm (tp.app tq) hn⟩)
      · cases hz
    | _ => simp [binD] at hz
  | tup a =>
    cases e with
    | tup b =>
      simp only [binD] at hz
      split at hz
      · rename_i hl
        simp only [Option.some.injEq] at hz
        have hd' := hd.den (fun _ e => by cases e)
        have he' := he.den (fun _ e => by cases e)
        obtain ⟨p, xs, rfl, hp, tp⟩ := hd.tup g.sub
        obtain ⟨q, ys, rfl, hq, tq⟩ := he.tup g.sub
        refine .inr (.inr ⟨p, q, xs, ys, rfl, rfl, hp, hq, by rw [tp.len, tq.len]; exact hl, fun e => ?_, fun n1 e => ?_, fun n1 n2 n hn => W.tup g hz.symm (tp.app tq) hn⟩)
        · have : a = [] := List.eq_nil_of_length_eq_zero (by rw [← tp.len, e]; rfl)
          subst this
          exact W.flat g hz.symm he'
        · have : b = [] := List.eq_nil_of_length_eq_zero (by rw [← tq.len, e]; rfl)
          subst this
          rw [List.append_nil] at hz
          exact W.flat g hz.symm hd'
      · cases hz
    | _ => simp [binD] at hz
  | _ => cases e <;> simp [binD] at hz
theorem op2_sub : Op2 X (binaryOp .Sub) (binD .Sub) := by
  refine ⟨_, op_sub, fun G H O d e v w z g hd he hz Q W => ?_⟩
  cases d with
  | int i =>
    cases e with
    | int j =>
      simp only [binD, Option.some.injEq] at hz
      exact ⟨i, j, hd.int, he.int, W.flat g hz.symm (by unfold Den; rfl)⟩
    | _ => simp [binD] at hz
  | _ => cases e <;> simp [binD] at hz
theorem op2_mul : Op2 X (binaryOp .Mult) (binD .Mult) := by
  refine ⟨_, (op_mul.or op_mulW).or op_rep, fun G H O d e v w z g hd he hz Q W => ?_⟩
  cases d with
  | int i =>
    cases e with
    | int j =>
      simp only [binD] at hz
      split at hz
      · rename_i hc
        simp only [Option.some.injEq] at hz
        rcases hc with hc | hc
        · exact .inl (.inl ⟨i, j, hd.int, he.int, hc, W.flat g hz.symm (by unfold Den; rfl)⟩)
        · exact .inl (.inr ⟨i, j, hd.int, he.int, hc, W.flat g hz.symm (by unfold Den; rfl)⟩)
      · cases hz
    | _ => simp [binD] at hz
  | lst a =>
    cases e with
    | int k =>
      simp only [binD] at hz
      split at hz
      · rename_i hc
        simp only [Option.some.injEq] at hz
        obtain ⟨p, xs, rfl, hp, tp⟩ := hd.lst g.sub
        exact .inr ⟨p, k, xs, rfl, he.int, hp, hc.1, hc.2.1, by rw [tp.len]; exact hc.2.2, fun n hn => W.lst g hz.symm (tp.flatten k.toNat) hn⟩
      · cases hz
    | _ => simp [binD] at hz
  | _ => cases e <;> simp [binD] at hz
theorem op2_fdiv : Op2 X (binaryOp .FloorDiv) (binD .FloorDiv) := by
  refine ⟨_, op_fdiv.or op_fdivW, fun G H O d e v w z g hd he hz Q W => ?_⟩
  cases d with
  | int i =>
    cases e with
    | int j =>
      simp only [binD] at hz
      split at hz
      · rename_i hc
        simp only [Option.some.injEq] at hz
        rcases hc with hc | hc
        · exact .inl ⟨i, j, hd.int, he.int, hc, W.flat g hz.symm (by unfold Den; rfl)⟩
        · exact .inr ⟨i, j, hd.int, he.int, hc, W.flat g hz.symm (by unfold Den; rfl)⟩
      · cases hz
    | _ => simp [binD] at hz
  | _ => cases e <;> simp [binD] at hz
theorem op2_mod : Op2 X (binaryOp .Mod) (binD .Mod) := by
  refine ⟨_, op_mod, fun G H O d e v w z g hd he hz Q W => ?_⟩
  cases d with
  | int i =>
    cases e with
    | int j =>
      simp only [binD] at hz
      split at hz
      · rename_i hc
        simp only [Option.some.injEq] at hz
        exact ⟨i, j, hd.int, he.int, hc, W.flat g hz.symm (by unfold Den; rfl)⟩
      · cases hz
    | _ => simp [binD] at hz
  | _ => cases e <;> simp [binD] at hz
theorem op2_pow : Op2 X (binaryOp .Pow) (binD .Pow) := by
  refine ⟨_, op_pow, fun G H O d e v w z g hd he hz Q W => ?_⟩
  cases d with
  | int i =>
    cases e with
    | int j =>
      simp only [binD] at hz
      split at hz
      · rename_i hc
        simp only [Option.some.injEq] at hz
        exact ⟨i, j, hd.int, he.int, hc, W.flat g hz.symm (by unfold Den; rfl)⟩
      · cases hz
    | _ => simp [binD] at hz
  | _ => cases e <;> simp [binD] at hz
theorem op2_and : Op2 X (binaryOp .BitAnd) (binD .BitAnd) := by
  refine ⟨_, op_and, fun G H O d e v w z g hd he hz Q W => ?_⟩
  cases d with
  | int i =>
    cases e with
    | int j =>
      simp only [binD, Option.some.injEq] at hz
      exact ⟨i, j, hd.int, he.int, W.flat g hz.symm (by unfold Den; rfl)⟩
    | _ => simp [binD] at hz
  | _ => cases e <;> simp [binD] at hz
/-- the operators that are carried -/
def opOk : Operator → Bool
  | .Add => true | .Sub => true | .Mult => true | .FloorDiv => true | .Mod => true | .Pow => true | .BitAnd => true
  | _ => false
theorem op2_all {op : Operator} (h : opOk op = true) : Op2 X (binaryOp op) (binD op) := by
  cases op with
  | Add => exact op2_add
  | Sub => exact op2_sub
  | Mult => exact op2_mul
  | FloorDiv => exact op2_fdiv
  | Mod => exact op2_mod
  | Pow => exact op2_pow
  | BitAnd => exact op2_and
  | _ => exact absurd h Bool.false_ne_true
end
end Ev

namespace Ev
open PySem PySem.Spec PyProof.Rows L2
/-! ### comparisons by data -/
mutual
def py : D → PyData
  | .non => .none
  | .bl b => .bool b
  | .int i => .int i
  | .str x => .str (sOf x)
  | .tup ds => .tuple (pyL ds)
  | .lst ds => .list (pyL ds)
  | _ => .none
def pyL : List D → List PyData
  | [] => []
  | d :: ds => py d :: pyL ds
end
theorem mem_pyL : ∀ {ds : List D} {p : PyData}, p ∈ pyL ds → ∃ d ∈ ds, p = py d
  | [], _, h => by unfold pyL at h; cases h
  | d :: ds, p, h => by
    unfold pyL at h
    rcases List.mem_cons.mp h with h | h
    · exact ⟨d, List.mem_cons_self, h⟩
    · obtain ⟨e, he, q⟩ := mem_pyL h
      exact ⟨e, List.mem_cons_of_mem _ he, q⟩
theorem canLay_all : ∀ {xs : List PyData}, (∀ p ∈ xs, p.canLay0 = true) → PyData.canLayAll0 xs = true
  | [], _ => by unfold PyData.canLayAll0; rfl
  | x :: xs, h => by
    unfold PyData.canLayAll0
    rw [h x List.mem_cons_self, canLay_all fun p hp => h p (List.mem_cons_of_mem _ hp)]; rfl
theorem depth_all {n : Nat} : ∀ {xs : List PyData}, (∀ p ∈ xs, p.depth ≤ n) → PyData.depthAll xs ≤ n
  | [], _ => by unfold PyData.depthAll; exact Nat.zero_le _
  | x :: xs, h => by
    unfold PyData.depthAll
    exact Nat.max_le.mpr ⟨h x List.mem_cons_self, depth_all fun p hp => h p (List.mem_cons_of_mem _ hp)⟩
theorem okD_py : ∀ (n : Nat) (d : D), okD n d → (py d).canLay0 = true ∧ (py d).depth ≤ n
  | n, .non, _ => by unfold py PyData.canLay0 PyData.depth; exact ⟨rfl, Nat.zero_le _⟩
  | n, .bl _, _ => by unfold py PyData.canLay0 PyData.depth; exact ⟨rfl, Nat.zero_le _⟩
  | n, .int _, _ => by unfold py PyData.canLay0 PyData.depth; exact ⟨rfl, Nat.zero_le _⟩
  | n, .str x, h => by
    have h : ∀ c ∈ x, c < 0x110000 := by cases n <;> exact h
    unfold py PyData.canLay0 PyData.depth
    refine ⟨?_, Nat.zero_le _⟩
    unfold PyData.strOk sOf
    simpa using h
  | 0, .tup _, h => by unfold okD at h; exact h.elim
  | 0, .lst _, h => by unfold okD at h; exact h.elim
  | n + 1, .tup ds, h => by
    unfold okD at h
    unfold py PyData.canLay0 PyData.depth
    refine ⟨canLay_all fun p hp => ?_, Nat.succ_le_succ (depth_all fun p hp => ?_)⟩
    all_goals
      obtain ⟨d, hd, e⟩ := mem_pyL hp
      subst e
    · exact (okD_py n d (h d hd)).1
    · exact (okD_py n d (h d hd)).2
  | n + 1, .lst ds, h => by
    unfold okD at h
    unfold py PyData.canLay0 PyData.depth
    refine ⟨canLay_all fun p hp => ?_, Nat.succ_le_succ (depth_all fun p hp => ?_)⟩
    all_goals
      obtain ⟨d, hd, e⟩ := mem_pyL hp
      subst e
    · exact (okD_py n d (h d hd)).1
    · exact (okD_py n d (h d hd)).2
  | 0, .obj _, h => by unfold okD at h; exact h.elim
  | 0, .scr _, h => by unfold okD at h; exact h.elim
  | 0, .dic _ _, h => by unfold okD at h; exact h.elim
  | 0, .set _, h => by unfold okD at h; exact h.elim
  | 0, .ins _ _, h => by unfold okD at h; exact h.elim
  | 0, .deq _, h => by unfold okD at h; exact h.elim
  | n + 1, .obj _, h => by unfold okD at h; exact h.elim
  | n + 1, .scr _, h => by unfold okD at h; exact h.elim
  | n + 1, .dic _ _, h => by unfold okD at h; exact h.elim
  | n + 1, .set _, h => by unfold okD at h; exact h.elim
  | n + 1, .ins _ _, h => by unfold okD at h; exact h.elim
  | n + 1, .deq _, h => by unfold okD at h; exact h.elim
theorem shaped_of_ok {n : Nat} (hn : n ≤ 64) {d : D} (h : okD n d) : SeqAt.shaped (py d) = true := by
  obtain ⟨a, b⟩ := okD_py n d h
  unfold SeqAt.shaped
  rw [a, decide_eq_true (Nat.le_trans b hn)]; rfl
section
variable {K : PySem.W.Frag} {G : Gh} {H : Hp}
mutual
theorem Den.dp (s : Sub G.F H) : ∀ (n : Nat) (d : D) (v : V), okD n d → Den K G d v → Dp K H v (py d)
  | n, .non, v, _, x => by unfold Den at x; subst x; unfold py; exact .non
  | n, .bl b, v, _, x => by unfold Den at x; subst x; unfold py; exact .bl b
  | n, .int i, v, _, x => by unfold Den at x; subst x; unfold py; exact .int i
  | n, .str i, v, _, x => by unfold Den at x; subst x; unfold py; exact .str _
  | 0, .tup _, _, h, _ => by unfold okD at h; exact h.elim
  | 0, .lst _, _, h, _ => by unfold okD at h; exact h.elim
  | n + 1, .tup ds, v, h, x => by
    unfold okD at h
    unfold Den at x
    obtain ⟨a, vs, rfl, q, t⟩ := x
    unfold py
    exact .tup (s.sqT q) (DenL.dp s n ds vs h t)
  | n + 1, .lst ds, v, h, x => by
    unfold okD at h
    unfold Den at x
    obtain ⟨a, vs, rfl, q, t⟩ := x
    unfold py
    exact .lst (.inl (.inl (s a _ q))) (DenL.dp s n ds vs h t)
  | n, .obj _, _, h, _ => by cases n <;> (unfold okD at h; exact h.elim)
  | n, .scr _, _, h, _ => by cases n <;> (unfold okD at h; exact h.elim)
  | n, .dic _ _, _, h, _ => by cases n <;> (unfold okD at h; exact h.elim)
  | n, .set _, _, h, _ => by cases n <;> (unfold okD at h; exact h.elim)
  | n, .ins _ _, _, h, _ => by cases n <;> (unfold okD at h; exact h.elim)
  | n, .deq _, _, h, _ => by cases n <;> (unfold okD at h; exact h.elim)
  termination_by n => (n, 0)
theorem DenL.dp (s : Sub G.F H) (n : Nat) : ∀ (ds : List D) (vs : List V), (∀ d ∈ ds, okD n d) → DenL K G ds vs → DpAll K H vs (pyL ds)
  | [], vs, _, x => by rw [x.inv0]; unfold pyL; exact .nil
  | d :: ds, vs, h, x => by
    obtain ⟨v, r, rfl, p, q⟩ := x.inv
    unfold pyL
    exact .cons (Den.dp s n d v (h d List.mem_cons_self) p) (DenL.dp s n ds r (fun e he => h e (List.mem_cons_of_mem _ he)) q)
  termination_by ds => (n, ds.length + 1)
end
theorem Rd1.dp (s : Sub G.F H) {n : Nat} {d : D} {v : V} (h : okD n d) (x : Rd1 K G H d v) : Dp K H v (py d) := by
  rcases x with x | ⟨a, ds, vs, rfl, rfl, q, t, _⟩
  · exact Den.dp s n d v h x
  · cases n with
    | zero => unfold okD at h; exact h.elim
    | succ n =>
      unfold okD at h
      unfold py
      exact .lst (.inl (.inl q)) (DenL.dp s n ds vs h t)
end
theorem okD.of0 {n : Nat} {d : D} (h : okD 0 d) : okD n d := by
  cases d <;> cases n <;> first | exact h | (unfold okD at h; exact h.elim) | (unfold okD at h ⊢; exact h)
mutual
theorem eqv_py : ∀ (n m : Nat) (d e : D), okD n d → okD m e → PyData.eqv (py d) (py e) = eqv d e
  | n, m, d, e, hd, he => by
    cases d with
    | tup ds =>
      cases n with
      | zero => unfold okD at hd; exact hd.elim
      | succ n =>
        unfold okD at hd
        cases e with
        | tup es =>
          cases m with
          | zero => unfold okD at he; exact he.elim
          | succ m =>
            unfold okD at he
            unfold py eqv PyData.eqv
            exact eqv_pyL n m ds es hd he
        | non => unfold py PyData.eqv eqv; rfl
        | bl _ => unfold py PyData.eqv eqv; rfl
        | int _ => unfold py PyData.eqv eqv; rfl
        | str _ => unfold py PyData.eqv eqv; rfl
        | lst _ => unfold py PyData.eqv eqv; rfl
        | _ => cases m <;> (unfold okD at he; exact he.elim)
    | lst ds =>
      cases n with
      | zero => unfold okD at hd; exact hd.elim
      | succ n =>
        unfold okD at hd
        cases e with
        | lst es =>
          cases m with
          | zero => unfold okD at he; exact he.elim
          | succ m =>
            unfold okD at he
            unfold py eqv PyData.eqv
            exact eqv_pyL n m ds es hd he
        | non => unfold py PyData.eqv eqv; rfl
        | bl _ => unfold py PyData.eqv eqv; rfl
        | int _ => unfold py PyData.eqv eqv; rfl
        | str _ => unfold py PyData.eqv eqv; rfl
        | tup _ => unfold py PyData.eqv eqv; rfl
        | _ => cases m <;> (unfold okD at he; exact he.elim)
    | non => cases e <;> first | (unfold py PyData.eqv eqv; rfl) | (cases m <;> (unfold okD at he; exact he.elim))
    | bl _ => cases e <;> first | (unfold py PyData.eqv eqv; rfl) | (cases m <;> (unfold okD at he; exact he.elim))
    | int _ => cases e <;> first | (unfold py PyData.eqv eqv; rfl) | (cases m <;> (unfold okD at he; exact he.elim))
    | str x =>
      cases e with
      | str y =>
        unfold py PyData.eqv eqv
        rw [Bool.eq_iff_iff]
        simp only [beq_iff_eq]
        exact ⟨fun h => sOf_inj h, fun h => by rw [h]⟩
      | _ => first | (unfold py PyData.eqv eqv; rfl) | (cases m <;> (unfold okD at he; exact he.elim))
    | _ => cases n <;> (unfold okD at hd; exact hd.elim)
  termination_by n => (n, 0)
theorem eqv_pyL (n m : Nat) : ∀ (ds es : List D), (∀ d ∈ ds, okD n d) → (∀ d ∈ es, okD m d) → PyData.eqvAll (pyL ds) (pyL es) = eqvL ds es
  | [], [], _, _ => by unfold pyL PyData.eqvAll eqvL; rfl
  | [], e :: es, _, _ => by simp only [pyL, PyData.eqvAll, eqvL]
  | d :: ds, [], _, _ => by simp only [pyL, PyData.eqvAll, eqvL]
  | d :: ds, e :: es, hd, he => by
    simp only [pyL, PyData.eqvAll, eqvL]
    rw [eqv_py n m d e (hd d List.mem_cons_self) (he e List.mem_cons_self), eqv_pyL n m ds es (fun x h => hd x (List.mem_cons_of_mem _ h)) (fun x h => he x (List.mem_cons_of_mem _ h))]
  termination_by ds => (n, ds.length + 1)
end
/-- a comparison of two things, by data -/
def Cmp2 (X : Cx) (op : CmpOp) : Prop :=
  ∃ r : R2, OpR X (compareOp op) r ∧ ∀ (G : Gh) (H : Hp) (O : Sto) (d e : D) (v w : V) (b : Bool), GOk X.K G H O → Rd1 X.K G H d v → Rd1 X.K G H e w → cmpD op d e = some b → ∀ Q : VK, Q (.bl b) H → r v w H Q
section
variable {X : Cx} {K : PySem.W.Frag} {G : Gh} {H : Hp}
theorem flat_eq {d e : D} {v w : V} (f : flat2 d e = true) (hd : Rd1 K G H d v) (he : Rd1 K G H e w) : scal v w = true ∧ decide (v = w) = eqv d e := by
  have ns : ∀ (x y : Tx), decide (V.str (sOf x) = V.str (sOf y)) = (x == y) := fun x y => by
    rw [Bool.eq_iff_iff]
    simp only [decide_eq_true_eq, V.str.injEq, beq_iff_eq]
    exact ⟨fun h => sOf_inj h, fun h => by rw [h]⟩
  cases d <;> cases e <;> first
    | (cases f; done)
    | skip
  all_goals first
    | (rw [hd.non, he.non]; exact ⟨rfl, by unfold eqv; simp⟩)
    | (rw [hd.non, he.int]; exact ⟨rfl, by unfold eqv; simp⟩)
    | (rw [hd.int, he.non]; exact ⟨rfl, by unfold eqv; simp⟩)
    | (rw [hd.non, he.bl]; exact ⟨rfl, by unfold eqv; simp⟩)
    | (rw [hd.bl, he.non]; exact ⟨rfl, by unfold eqv; simp⟩)
    | (rw [hd.non, he.str]; exact ⟨rfl, by unfold eqv; simp⟩)
    | (rw [hd.str, he.non]; exact ⟨rfl, by unfold eqv; simp⟩)
    | (rw [hd.int, he.int]; exact ⟨rfl, by unfold eqv; exact dec_int⟩)
    | (rw [hd.bl, he.bl]; exact ⟨rfl, by unfold eqv; exact dec_bl⟩)
    | (rw [hd.str, he.str]; exact ⟨rfl, by unfold eqv; exact ns _ _⟩)
    | (rw [hd.int, he.str]; exact ⟨rfl, by unfold eqv; simp⟩)
    | (rw [hd.str, he.int]; exact ⟨rfl, by unfold eqv; simp⟩)
    | (rw [hd.bl, he.str]; exact ⟨rfl, by unfold eqv; simp⟩)
    | (rw [hd.str, he.bl]; exact ⟨rfl, by unfold eqv; simp⟩)
theorem cmpD_eq (x y : D) : cmpD .Eq x y = eqD x y := by simp only [cmpD]
theorem cmpD_ne (x y : D) : cmpD .NotEq x y = (eqD x y).map (!·) := by simp only [cmpD]
theorem cmpD_in (x y : D) : cmpD .In x y = inD x y := by simp only [cmpD]
theorem cmpD_nin (x y : D) : cmpD .NotIn x y = (inD x y).map (!·) := by simp only [cmpD]
theorem eqD_of {x y : D} {b : Bool} (h : eqD x y = some b) : (flat2 x y = true ∨ (okD 64 x ∧ okD 64 y)) ∧ eqv x y = b := by
  unfold eqD at h
  split at h
  · rename_i hc
    exact ⟨hc, Option.some.inj h⟩
  · cases h
theorem cmp2_eq (hu : X.A.units + 200 < cLine) : Cmp2 X .Eq := by
  refine ⟨_, op_eq.or (op_eqD (by omega)), fun G H O d e v w b g hd he hb Q q => ?_⟩
  rw [cmpD_eq] at hb
  obtain ⟨hc, rfl⟩ := eqD_of hb
  rcases hc with f | ⟨o1, o2⟩
  · obtain ⟨h1, h2⟩ := flat_eq f hd he
    exact .inl ⟨h1, by rw [h2]; exact q⟩
  · exact .inr ⟨py d, py e, hd.dp g.sub o1, he.dp g.sub o2, shaped_of_ok (Nat.le_refl _) o1, shaped_of_ok (Nat.le_refl _) o2, by rw [eqv_py 64 64 d e o1 o2]; exact q⟩
theorem cmp2_ne (hu : X.A.units + 200 < cLine) : Cmp2 X .NotEq := by
  refine ⟨_, op_ne.or (op_neD (by omega)), fun G H O d e v w b g hd he hb Q q => ?_⟩
  rw [cmpD_ne] at hb
  obtain ⟨c, hb2, rfl⟩ := Option.map_eq_some_iff.mp hb
  clear hb
  obtain ⟨hc, rfl⟩ := eqD_of hb2
  rcases hc with f | ⟨o1, o2⟩
  · obtain ⟨h1, h2⟩ := flat_eq f hd he
    exact .inl ⟨h1, by rw [h2]; exact q⟩
  · exact .inr ⟨py d, py e, hd.dp g.sub o1, he.dp g.sub o2, shaped_of_ok (Nat.le_refl _) o1, shaped_of_ok (Nat.le_refl _) o2, by rw [eqv_py 64 64 d e o1 o2]; exact q⟩
theorem cmp2_ord {op : CmpOp} {p : Int → Int → Bool} (ho : OpR X (compareOp op) (rI0 fun i j => .bl (p i j))) (he : ∀ x y b, cmpD op x y = some b → ∃ i j, x = .int i ∧ y = .int j ∧ b = p i j) : Cmp2 X op := by
  refine ⟨_, ho, fun G H O d e v w b g hd hw hb Q q => ?_⟩
  obtain ⟨i, j, rfl, rfl, rfl⟩ := he d e b hb
  exact ⟨i, j, hd.int, hw.int, q⟩
theorem cmp2_lt : Cmp2 X .Lt := cmp2_ord op_lt fun x y b h => by
  cases x <;> cases y <;> simp [cmpD] at h
  exact ⟨_, _, rfl, rfl, h.symm⟩
theorem cmp2_le : Cmp2 X .LtE := cmp2_ord op_le fun x y b h => by
  cases x <;> cases y <;> simp [cmpD] at h
  exact ⟨_, _, rfl, rfl, h.symm⟩
theorem cmp2_gt : Cmp2 X .Gt := cmp2_ord op_gt fun x y b h => by
  cases x <;> cases y <;> simp [cmpD] at h
  exact ⟨_, _, rfl, rfl, h.symm⟩
theorem cmp2_ge : Cmp2 X .GtE := cmp2_ord op_ge fun x y b h => by
  cases x <;> cases y <;> simp [cmpD] at h
  exact ⟨_, _, rfl, rfl, h.symm⟩
/-! in -/
theorem flat_V {d : D} {v : V} (f : flatD d = true) (h : Den K G d v) : flatV v = true := by
  cases d <;> first
    | (cases f; done)
    | (unfold Den at h; subst h; rfl)
theorem flat_eqV {d e : D} {v w : V} (f : flatD d = true) (f' : flatD e = true) (h : Den K G d v) (h' : Den K G e w) : eqV v w = eqv d e := by
  have ns : ∀ (x y : Tx), (sOf x == sOf y) = (x == y) := fun x y => by
    rw [Bool.eq_iff_iff]
    simp only [beq_iff_eq]
    exact ⟨fun h => sOf_inj h, fun h => by rw [h]⟩
  cases d <;> first
    | (cases f; done)
    | skip
  all_goals
    cases e <;> first
      | (cases f'; done)
      | (unfold Den at h h'; subst h h'; unfold eqv; first | rfl | exact ns _ _)
theorem inV_any {x : D} {v : V} (f : flatD x = true) (h : Den K G x v) : ∀ {ds : List D} {vs : List V}, (∀ d ∈ ds, flatD d = true) → DenL K G ds vs → vs.all flatV = true ∧ inV v vs = ds.any fun d => eqv d x
  | [], vs, _, t => by rw [t.inv0]; exact ⟨rfl, rfl⟩
  | d :: ds, vs, hf, t => by
    obtain ⟨w, r, rfl, p, q⟩ := t.inv
    obtain ⟨h1, h2⟩ := inV_any f h (fun e he => hf e (List.mem_cons_of_mem _ he)) q
    refine ⟨?_, ?_⟩
    · rw [List.all_cons, flat_V (hf d List.mem_cons_self) p, h1]; rfl
    · unfold inV at h2 ⊢
      rw [List.any_cons, List.any_cons, h2, flat_eqV (hf d List.mem_cons_self) f p h]
theorem any_py {n m : Nat} {x : D} (o : okD n x) : ∀ {ds : List D}, (∀ d ∈ ds, okD m d) → (pyL ds).any (fun z => PyData.eqv z (py x)) = ds.any fun d => eqv d x
  | [], _ => by unfold pyL; rfl
  | d :: ds, h => by
    unfold pyL
    rw [List.any_cons, List.any_cons, any_py o (fun e he => h e (List.mem_cons_of_mem _ he)), eqv_py m n d x (h d List.mem_cons_self) o]
theorem Rd1.flat {d : D} {v : V} (f : flatD d = true) (h : Rd1 K G H d v) : Den K G d v := h.den fun ds e => by subst e; cases f
theorem Den.up {d : D} {v : V} (h : Den K G d v) : Den K G d v := h
theorem in_go {neg : Bool} (hu : X.A.units + 200 < cLine) {O : Sto} {d e : D} {v w : V} {b : Bool} (g : GOk X.K G H O) (hd : Rd1 X.K G H d v) (he : Rd1 X.K G H e w) (hb : inD d e = some b) (Q : VK) (q : Q (.bl (if neg then !b else b)) H) :
    (∃ i j, v = .str i ∧ w = .str j ∧ (!(Builtin.Str.occurrences j i 0 j.length 1).isEmpty) = b) ∨ rIn X.K neg v w H Q ∨ (∃ d ds, Dp X.K H v d ∧ Dp X.K H w (.list ds) ∧ SeqAt.shaped d = true ∧ SeqAt.shaped (.list ds) = true ∧ (ds.any fun z => PyData.eqv z d) = b) := by
  cases e with
  | str y =>
    cases d with
    | str x =>
      simp only [inD, Option.some.injEq] at hb
      exact .inl ⟨_, _, hd.str, he.str, hb⟩
    | _ => simp [inD] at hb
  | lst ds =>
    simp only [inD] at hb
    split at hb
    · rename_i hc
      cases hb
      rcases hc with ⟨f, fs⟩ | ⟨o1, o2⟩
      · obtain ⟨p, vs, rfl, hp, t⟩ := he.lst g.sub
        obtain ⟨h1, h2⟩ := inV_any f (hd.flat f) fs t
        exact .inr (.inl ⟨p, vs, rfl, .inl (.of hp), flat_V f (hd.flat f), h1, by rw [h2]; exact q⟩)
      · have o3 : ∀ d ∈ ds, okD 63 d := by unfold okD at o2; exact o2
        refine .inr (.inr ⟨py d, pyL ds, hd.dp g.sub o1, ?_, shaped_of_ok (Nat.le_refl _) o1, ?_, any_py o1 o3⟩)
        · have := he.dp g.sub o2
          unfold py at this
          exact this
        · have := shaped_of_ok (Nat.le_refl _) o2
          unfold py at this
          exact this
    · cases hb
  | tup ds =>
    simp only [inD] at hb
    split at hb
    · rename_i hc
      cases hb
      obtain ⟨f, fs⟩ := hc
      obtain ⟨p, vs, rfl, hp, t⟩ := he.tup g.sub
      obtain ⟨h1, h2⟩ := inV_any f (hd.flat f) fs t
      exact .inr (.inl ⟨p, vs, rfl, .inr hp, flat_V f (hd.flat f), h1, by rw [h2]; exact q⟩)
    · cases hb
  | _ => cases d <;> simp [inD] at hb
theorem cmp2_in (hu : X.A.units + 200 < cLine) : Cmp2 X .In := by
  refine ⟨_, op_in_str.or (op_in_seq.or (op_inD (by omega))), fun G H O d e v w b g hd he hb Q q => ?_⟩
  rw [cmpD_in] at hb
  rcases in_go (neg := false) hu g hd he hb Q q with ⟨i, j, e1, e2, e3⟩ | h | ⟨x, ds, h1, h2, h3, h4, h5⟩
  · exact .inl ⟨i, j, e1, e2, by rw [e3]; exact q⟩
  · exact .inr (.inl h)
  · exact .inr (.inr ⟨x, ds, h1, h2, h3, h4, by rw [h5]; exact q⟩)
theorem cmp2_nin (hu : X.A.units + 200 < cLine) : Cmp2 X .NotIn := by
  refine ⟨_, op_notIn_str.or (op_notIn_seq.or (op_notInD (by omega))), fun G H O d e v w b g hd he hb Q q => ?_⟩
  rw [cmpD_nin] at hb
  obtain ⟨c, hb2, rfl⟩ := Option.map_eq_some_iff.mp hb
  clear hb
  rcases in_go (neg := true) hu g hd he hb2 Q (by simpa using q) with ⟨i, j, e1, e2, e3⟩ | h | ⟨x, ds, h1, h2, h3, h4, h5⟩
  · exact .inl ⟨i, j, e1, e2, by rw [e3]; exact q⟩
  · exact .inr (.inl h)
  · exact .inr (.inr ⟨x, ds, h1, h2, h3, h4, by rw [h5]; exact q⟩)
def cmpOk : CmpOp → Bool
  | .Eq => true | .NotEq => true | .Lt => true | .LtE => true | .Gt => true | .GtE => true | .In => true | .NotIn => true
  | _ => false
theorem cmp2_all (hu : X.A.units + 200 < cLine) {op : CmpOp} (h : cmpOk op = true) : Cmp2 X op := by
  cases op with
  | Eq => exact cmp2_eq hu
  | NotEq => exact cmp2_ne hu
  | Lt => exact cmp2_lt
  | LtE => exact cmp2_le
  | Gt => exact cmp2_gt
  | GtE => exact cmp2_ge
  | In => exact cmp2_in hu
  | NotIn => exact cmp2_nin hu
  | _ => exact absurd h Bool.false_ne_true
end
end Ev

/-! sorted of a list or a tuple: ints, pairs of ints -/
namespace Ev
open PySem PySem.Spec PySem.Calls PyProof.Rows L2
section
variable {prog : Program} {w : World} {A : Around} {E : Value → Shared → Prop} {s : Shared}
theorem sorted_seq {l : Addr} {T : String} {o : Obj} {n : Nat} {vs : List Value} {ltv : Value → Value → Bool} {Q : Value → Shared → Prop} (hT : T = "list" ∨ T = "tuple") (ho : s.heap.get? l = some o) (hc : o.cls = .type T) (hd : o.data = .seq vs.toArray n) (hz : vs.length ≤ sizeLine) (O : SrtO.Swo ltv)
    (hS : 2 ≤ vs.length → ∀ (h₁ : Heap) (a : Addr), h₁.get? a = some (seqObj "list" vs.toArray 0) → (∀ b o, s.heap.get? b = some o → h₁.get? b = some o) → SrtO.SortableO prog w A.in1.in1 { s with heap := h₁ } a vs ltv)
    (h : ∀ (h' h'' : Heap) (out : List Value), SrtO.Srtd ltv out → SrtO.Stb ltv out vs → (∀ b o, s.heap.get? b = some o → h'.get? b = some o) → (∀ b o, h'.get? b = some o → h''.get? b = some o) → (∃ n, h''.get? h'.objs.size = some (seqObj "list" out.toArray n)) → Q (.ref h'.objs.size) { s with heap := h'' }) :
    wpAny (model prog w) A (call (.builtin "sorted") [.ref l]) Q E s := by
  refine Calls.call_function_entry kind_sorted plain_sorted entry_sorted (args_sorted1 _) ?_
  unfold Builtin.«sorted»
  refine wpAny_bind (m := checkCount "sorted" 1 1 _) (wpAny_pure ?_)
  refine wpAny_bind (wpAny_collect_seq l hT ho hc hd (fun h' hk => ?_) (by rw [List.size_toArray]; exact hz))
  have e0 : vs.toArray.toList = vs := by simp
  rw [e0]
  refine wpAny_bind (wpAny_newList ?_ hz)
  have hoL : (h'.push (seqObj "list" vs.toArray 0)).get? h'.objs.size = some (seqObj "list" vs.toArray 0) := Heap.get?_push_size _ rfl
  have keep : ∀ b o, s.heap.get? b = some o → (h'.push (seqObj "list" vs.toArray 0)).get? b = some o := fun b o q => Heap.get?_push_of_some _ (hk b o q)
  refine wpAny_bind (wpAny_holding (wpAny_call_entry slot_list_sort ⟨_, hoL, rfl⟩ entry_list_sort (SrtO.list_sort_ord O hoL hz (fun h2 => hS h2 _ _ hoL keep) fun out hs hb => ⟨_, rfl, ?_⟩) (args_list_sort _)))
  refine wpAny_pure ⟨_, rfl, ?_⟩
  obtain ⟨e, he⟩ := sortedHeap_at (vs := vs) (out := out.toArray) hoL
  refine h h' _ out hs hb hk (fun b o q => ?_) ⟨e, he⟩
  have q1 := Heap.get?_push_of_some (seqObj "list" vs.toArray 0) q
  rw [sortedHeap_old (Nat.ne_of_lt (Heap.lt_size q)) (Heap.lt_size q1)]
  exact q1
end
section
variable {α β : Type} {lt : α → α → Bool}
theorem insK_mem {x z : α} : ∀ {l : List α}, z ∈ insK lt x l → z = x ∨ z ∈ l
  | [], h => .inl (List.mem_singleton.mp h)
  | y :: r, h => by
    unfold insK at h
    split at h
    · rcases List.mem_cons.mp h with h | h
      · exact .inr (h ▸ List.mem_cons_self)
      · rcases insK_mem h with h | h
        · exact .inl h
        · exact .inr (List.mem_cons_of_mem _ h)
    · rcases List.mem_cons.mp h with h | h
      · exact .inl h
      · exact .inr h
theorem insK_srtd (O : SrtO.Swo lt) {x : α} : ∀ {l : List α}, SrtO.Srtd lt l → SrtO.Srtd lt (insK lt x l)
  | [], _ => List.pairwise_singleton _ _
  | y :: r, h => by
    obtain ⟨h1, h2⟩ := List.pairwise_cons.mp h
    unfold insK
    cases q : lt y x with
    | true =>
      rw [if_pos rfl]
      refine List.pairwise_cons.mpr ⟨fun z hz => ?_, insK_srtd O h2⟩
      rcases insK_mem hz with e | hz
      · rw [e]; exact O.asym _ _ q
      · exact h1 z hz
    | false =>
      rw [if_neg Bool.false_ne_true]
      refine List.pairwise_cons.mpr ⟨fun z hz => ?_, h⟩
      rcases List.mem_cons.mp hz with e | hz
      · rw [e]; exact q
      · exact O.tr x y z q (h1 z hz)
theorem insK_stb (O : SrtO.Swo lt) {x : α} : ∀ l : List α, SrtO.Stb lt (insK lt x l) (x :: l)
  | [] => SrtO.Stb.refl _
  | y :: r => by
    unfold insK
    cases q : lt y x with
    | true =>
      rw [if_pos rfl]
      have s1 : SrtO.Stb lt (y :: insK lt x r) (y :: x :: r) := SrtO.Stb.app (a := [y]) (b := [y]) (SrtO.Stb.refl _) (insK_stb O r)
      have s2 : SrtO.Stb lt (y :: x :: r) (x :: y :: r) := SrtO.Stb.app (a := [y, x]) (b := [x, y]) (SrtO.Stb.swap O (A := [y]) (B := [x]) fun a ha b hb => by rw [List.mem_singleton.mp ha, List.mem_singleton.mp hb]; exact q) (SrtO.Stb.refl r)
      exact s1.trans s2
    | false => rw [if_neg Bool.false_ne_true]; exact SrtO.Stb.refl _
theorem srtK_srtd (O : SrtO.Swo lt) : ∀ l : List α, SrtO.Srtd lt (srtK lt l)
  | [] => List.Pairwise.nil
  | x :: r => insK_srtd O (srtK_srtd O r)
theorem srtK_stb (O : SrtO.Swo lt) : ∀ l : List α, SrtO.Stb lt (srtK lt l) l
  | [] => SrtO.Stb.refl _
  | x :: r => (insK_stb O (srtK lt r)).trans (SrtO.Stb.app (a := [x]) (b := [x]) (SrtO.Stb.refl _) (srtK_stb O r))
theorem insK_map (f : α → β) {lb : β → β → Bool} {x : α} : ∀ l : List α, (insK (fun x y => lb (f x) (f y)) x l).map f = insK lb (f x) (l.map f)
  | [] => rfl
  | y :: r => by
    cases q : lb (f y) (f x) with
    | true => simp only [insK, List.map_cons, q, if_true, insK_map f r]
    | false => simp only [insK, List.map_cons, q, Bool.false_eq_true, if_false]
theorem srtK_map (f : α → β) {lb : β → β → Bool} : ∀ l : List α, (srtK (fun x y => lb (f x) (f y)) l).map f = srtK lb (l.map f)
  | [] => rfl
  | x :: r => by
    show (insK _ x (srtK _ r)).map f = _
    rw [insK_map, srtK_map f r]
    rfl
theorem srtK_mem (O : SrtO.Swo lt) {l : List α} {x : α} : x ∈ srtK lt l ↔ x ∈ l := (srtK_stb O l).perm.mem_iff
end
theorem swoI : SrtO.Swo ltI := ⟨fun x y h => decide_eq_false (by have := of_decide_eq_true h; omega), fun x y z h1 h2 => decide_eq_false (by have := of_decide_eq_false h1; have := of_decide_eq_false h2; omega)⟩
theorem swoP : SrtO.Swo SrtO.lexB := by
  refine ⟨fun x y h => ?_, fun x y z h1 h2 => ?_⟩
  · have a := SrtO.lexB_iff.mp h
    refine SrtO.lexB_no.mpr ?_
    omega
  · have a := SrtO.lexB_no.mp h1
    have b := SrtO.lexB_no.mp h2
    refine SrtO.lexB_no.mpr ?_
    omega
/-- of a list or a tuple -/
def SqA (K : PySem.W.Frag) (H : Hp) (a : Addr) (xs : List V) : Prop := SqL K H a xs ∨ SqT K H a xs
theorem seqA {X : Cx} {pins : List (Addr × Obj)} {σ : St} {H : Hp} {s : Shared} {a : Addr} {xs : List V} (I : Inv X pins σ H s) (h : SqA X.K H a xs) :
    ∃ (its : List Value) (T : String) (o : Obj) (n : Nat), Vals xs its ∧ (T = "list" ∨ T = "tuple") ∧ s.heap.get? a = some o ∧ o.cls = .type T ∧ o.data = .seq its.toArray n ∧ xs.length ≤ sizeLine := by
  rcases h with h | h
  · obtain ⟨its, rv, pl, hz⟩ := I.list h
    obtain ⟨o, ho, hc, n, hd⟩ := pl.isList
    exact ⟨its, "list", o, n, rv, .inl rfl, ho, hc, hd, hz⟩
  · obtain ⟨its, rv, ⟨o, ho, hc, n, hd⟩, hz⟩ := I.tuple h
    exact ⟨its, "tuple", o, n, rv, .inr rfl, ho, hc, hd, hz⟩
section
variable {X : Cx}
theorem cr_sortI : CallR X (.builtin "sorted") (fun vs H Q => ∃ (a : Addr) (ns : List Int), vs = [V.ref a] ∧ SqA X.K H a (ns.map V.int) ∧ ∀ p, H p = none → Q (.ref p) (upd H p (.lst ((srtK ltI ns).map V.int)))) := by
  intro pins s σ H vs us Q I r h
  obtain ⟨a, ns, rfl, hs, q⟩ := h
  obtain ⟨its, T, o, n, rv, hT, ho, hc, hd, hz⟩ := seqA I hs
  rw [Vals.ref1 r]
  have hi := rv.ints
  refine sorted_seq hT ho hc hd (by rw [← rv.length]; exact hz) SrtO.swo_int (fun h2 h₁ a' _ _ => SrtO.ints_sortable hi h2) fun h' h'' out h1 h2 k1 k2 ⟨n', hn⟩ => ?_
  obtain ⟨i1, i2, i3⟩ := SrtO.ints_out hi h1 h2
  have e : out.map SrtO.iv = srtK ltI ns := by
    have m1 : SrtO.Srtd ltI (out.map SrtO.iv) := i3.imp fun h => decide_eq_false (by omega)
    have st : SrtO.Stb ltI (out.map SrtO.iv) ns := by
      have := SrtO.Stb.map swoI SrtO.iv h2
      rw [SrtO.iv_ints hi] at this
      exact this
    exact SrtO.stb_uniq swoI m1 (srtK_srtd swoI ns) (st.trans ⟨(srtK_stb swoI ns).perm.symm, fun x => ((srtK_stb swoI ns).cls x).symm⟩)
  have I1 : Inv X pins σ H { s with heap := h' } := I.kept (t' := s.toks) k1
  have hlen : ((srtK ltI ns).map V.int).length ≤ sizeLine := by
    rw [List.length_map, (srtK_stb swoI ns).len]
    rw [List.length_map] at hz
    exact hz
  have hv : Vals ((srtK ltI ns).map V.int) out := by rw [← e]; exact vals_of_ints i1
  exact ⟨.ref _, _, I1.laid (t' := s.toks) k2 (Nat.le_refl _) (show ObjOk X.prog X.w _ h'' _ (.lst ((srtK ltI ns).map V.int)) from ⟨hlen, out, n', hv, hn⟩), rfl, q _ (I1.hok.fresh (Nat.le_refl _))⟩
/-- the two ints of a tuple, as the heap has them -/
def pk (h : Heap) (u : Value) : Addr × Int × Int := match u with
  | .ref t => match h.get? t with
    | some o => match o.data with
      | .seq its _ => match its.toList with
        | [.int i _, .int j _] => (t, i, j)
        | _ => (t, 0, 0)
      | _ => (t, 0, 0)
    | none => (t, 0, 0)
  | _ => (0, 0, 0)
theorem refs_eq : ∀ {L : List (Addr × Int × Int)} {its : List Value}, Vals (L.map fun q => V.ref q.1) its → its = L.map fun q => Value.ref q.1
  | [], _, .nil => rfl
  | q :: L, _, .cons r t => by
    cases r
    rw [List.map_cons, refs_eq t]
theorem refs_vals : ∀ (L : List (Addr × Int × Int)), Vals (L.map fun q => V.ref q.1) (L.map fun q => Value.ref q.1)
  | [] => .nil
  | q :: L => .cons rfl (refs_vals L)
theorem cr_sortP : CallR X (.builtin "sorted") (fun vs H Q => ∃ (a : Addr) (L : List (Addr × Int × Int)), vs = [V.ref a] ∧ SqA X.K H a (L.map fun q => V.ref q.1) ∧ (∀ q ∈ L, SqT X.K H q.1 [.int q.2.1, .int q.2.2]) ∧
    ∀ p, H p = none → Q (.ref p) (upd H p (.lst ((srtK (fun x y => SrtO.lexB x.2 y.2) L).map fun q => V.ref q.1)))) := by
  intro pins s σ H vs us Q I r h
  obtain ⟨a, L, rfl, hs, hp, q⟩ := h
  obtain ⟨its, T, o, n, rv, hT, ho, hc, hd, hz⟩ := seqA I hs
  rw [Vals.ref1 r]
  have one : ∀ q ∈ L, pk s.heap (.ref q.1) = q ∧ Srt.IsPair s.heap (.ref q.1) (pk s.heap (.ref q.1)).2.1 (pk s.heap (.ref q.1)).2.2 := fun q hq => by
    obtain ⟨its2, r2, ⟨o2, h1, h2, n2, h3⟩, _⟩ := I.tuple (hp q hq)
    obtain ⟨u1, u2, rfl, ri, rj⟩ := vals2 r2
    obtain ⟨t1, rfl⟩ := ri
    obtain ⟨t2, rfl⟩ := rj
    have e : pk s.heap (.ref q.1) = q := by
      unfold pk
      simp only [h1, h3]
    rw [e]
    exact ⟨rfl, q.1, o2, t1, t2, n2, rfl, h1, h2, h3⟩
  have ei := refs_eq rv
  subst ei
  have O : SrtO.Swo fun v u => SrtO.lexB (pk s.heap v).2 (pk s.heap u).2 := SrtO.swo_lex fun v => (pk s.heap v).2
  have OL : SrtO.Swo fun (x y : Addr × Int × Int) => SrtO.lexB x.2 y.2 := ⟨fun x y h => swoP.asym _ _ h, fun x y z h1 h2 => swoP.tr _ _ _ h1 h2⟩
  refine sorted_seq hT ho hc hd (by rw [List.length_map] at hz ⊢; exact hz) O (fun h2 h₁ a' ha kk => ?_) fun h' h'' out h1 h2 k1 k2 ⟨n', hn⟩ => ?_
  · refine SrtO.pairs_sortableO (s := { s with heap := h₁ }) (by omega) (fun v hm => ?_) fun o e => ?_
    · obtain ⟨q, hq, rfl⟩ := List.mem_map.mp hm
      exact (one q hq).2.keeps fun b o e _ => kk b o e
    · have e' : some o = some (seqObj "list" (L.map fun q => Value.ref q.1).toArray 0) := e.symm.trans ha
      cases e'
      intro c
      exact absurd (Value.type.inj c) (by decide)
  · have fm : (L.map fun q => Value.ref q.1).map (pk s.heap) = L := by
      rw [List.map_map]
      exact (List.map_congr_left fun q hq => (one q hq).1).trans (List.map_id L)
    have eo : ∀ u ∈ out, u = Value.ref (pk s.heap u).1 := fun u hu => by
      obtain ⟨q, hq, rfl⟩ := List.mem_map.mp (h2.perm.mem_iff.mp hu)
      rw [(one q hq).1]
    have eL : out.map (pk s.heap) = srtK (fun x y => SrtO.lexB x.2 y.2) L := by
      have st : SrtO.Stb (fun x y => SrtO.lexB x.2 y.2) (out.map (pk s.heap)) L := by
        have := SrtO.Stb.map OL (pk s.heap) h2
        rw [fm] at this
        exact this
      exact SrtO.stb_uniq OL (SrtO.srtd_map h1) (srtK_srtd OL L) (st.trans ⟨(srtK_stb OL L).perm.symm, fun x => ((srtK_stb OL L).cls x).symm⟩)
    have I1 : Inv X pins σ H { s with heap := h' } := I.kept (t' := s.toks) k1
    have hlen : ((srtK (fun (x y : Addr × Int × Int) => SrtO.lexB x.2 y.2) L).map fun q => V.ref q.1).length ≤ sizeLine := by
      rw [List.length_map, (srtK_stb OL L).len]
      rw [List.length_map] at hz
      exact hz
    have hv : Vals ((srtK (fun (x y : Addr × Int × Int) => SrtO.lexB x.2 y.2) L).map fun q => V.ref q.1) out := by
      have e2 : (out.map (pk s.heap)).map (fun q => Value.ref q.1) = out := by
        rw [List.map_map]
        exact (List.map_congr_left fun u hu => (eo u hu).symm).trans (List.map_id out)
      rw [eL] at e2
      have := refs_vals (srtK (fun (x y : Addr × Int × Int) => SrtO.lexB x.2 y.2) L)
      rw [e2] at this
      exact this
    exact ⟨.ref _, _, I1.laid (t' := s.toks) k2 (Nat.le_refl _) (show ObjOk X.prog X.w _ h'' _ (.lst ((srtK (fun (x y : Addr × Int × Int) => SrtO.lexB x.2 y.2) L).map fun q => V.ref q.1)) from ⟨hlen, out, n', hv, hn⟩), rfl, q _ (I1.hok.fresh (Nat.le_refl _))⟩
end
end Ev

/-! sorted(set(xs)) of a list of ints -/
namespace Ev
open PySem PySem.Spec PySem.Calls PyProof.Rows L2
/-! ### ascending ints without repeats -/
theorem sIns_mem {x z : Int} : ∀ {l : List Int}, z ∈ sIns x l ↔ z = x ∨ z ∈ l
  | [] => by simp [sIns]
  | y :: r => by
    unfold sIns
    split
    · simp
    · split
      · rename_i h; subst h; simp
      · rw [List.mem_cons, sIns_mem (l := r), List.mem_cons]
        exact ⟨fun h => h.elim (fun h => .inr (.inl h)) fun h => h.imp id .inr, fun h => h.elim (fun h => .inr (.inl h)) fun h => h.imp id .inr⟩
theorem sIns_asc {x : Int} : ∀ {l : List Int}, l.Pairwise (· < ·) → (sIns x l).Pairwise (· < ·)
  | [], _ => List.pairwise_singleton _ _
  | y :: r, h => by
    obtain ⟨h1, h2⟩ := List.pairwise_cons.mp h
    unfold sIns
    split
    · rename_i c
      refine List.pairwise_cons.mpr ⟨fun z hz => ?_, h⟩
      rcases List.mem_cons.mp hz with rfl | hz
      · exact c
      · have := h1 z hz; omega
    · split
      · exact h
      · refine List.pairwise_cons.mpr ⟨fun z hz => ?_, sIns_asc h2⟩
        rcases sIns_mem.mp hz with rfl | hz
        · omega
        · exact h1 z hz
theorem sdI_mem {z : Int} : ∀ {l : List Int}, z ∈ sdI l ↔ z ∈ l
  | [] => Iff.rfl
  | x :: l => by
    show z ∈ sIns x (sdI l) ↔ _
    rw [sIns_mem, sdI_mem (l := l), List.mem_cons]
theorem sdI_asc : ∀ l : List Int, (sdI l).Pairwise (· < ·)
  | [] => .nil
  | x :: l => sIns_asc (sdI_asc l)
theorem asc_uniq : ∀ {r s : List Int}, r.Pairwise (· < ·) → s.Pairwise (· < ·) → (∀ x, x ∈ r ↔ x ∈ s) → r = s
  | [], [], _, _, _ => rfl
  | [], q :: s, _, _, h => by have := (h q).mpr List.mem_cons_self; cases this
  | p :: r, [], _, _, h => by have := (h p).mp List.mem_cons_self; cases this
  | p :: r, q :: s, hr, hs, h => by
    obtain ⟨r1, r2⟩ := List.pairwise_cons.mp hr
    obtain ⟨s1, s2⟩ := List.pairwise_cons.mp hs
    have e : p = q := by
      rcases List.mem_cons.mp ((h p).mp List.mem_cons_self) with e | e
      · exact e
      · rcases List.mem_cons.mp ((h q).mpr List.mem_cons_self) with e2 | e2
        · exact e2.symm
        · have := s1 p e; have := r1 q e2; omega
    subst e
    have t : r = s := asc_uniq r2 s2 fun x => ⟨fun m => by
      rcases List.mem_cons.mp ((h x).mp (List.mem_cons_of_mem _ m)) with e | e
      · have := r1 x m; omega
      · exact e, fun m => by
      rcases List.mem_cons.mp ((h x).mpr (List.mem_cons_of_mem _ m)) with e | e
      · have := s1 x m; omega
      · exact e⟩
    rw [t]
/-- the size of what holds just these -/
theorem sdI_size {ns ks : List Int} (d : ks.Nodup) (h : ∀ k, k ∈ ns ↔ k ∈ ks) : ks.length = (sdI ns).length := by
  have nd : (sdI ns).Nodup := (sdI_asc ns).imp fun h => by omega
  have le : ∀ {a b : List Int}, a.Nodup → (∀ k ∈ a, k ∈ b) → a.length ≤ b.length := fun {a b} na hs => by
    induction a generalizing b with
    | nil => exact Nat.zero_le _
    | cons x a ih =>
      obtain ⟨n1, n2⟩ := List.nodup_cons.mp na
      have hx := hs x List.mem_cons_self
      have := ih (b := b.erase x) n2 fun k hk => (List.mem_erase_of_ne fun e => n1 (by rw [← e]; exact hk)).mpr (hs k (List.mem_cons_of_mem _ hk))
      rw [List.length_erase_of_mem hx] at this
      have := List.length_pos_of_mem hx
      rw [List.length_cons]; omega
  exact Nat.le_antisymm (le d fun k hk => sdI_mem.mpr ((h k).mpr hk)) (le nd fun k hk => (h k).mp (sdI_mem.mp hk))
/-! ### set(xs) -/
abbrev newSet (led : Bool) : Obj := { cls := .type "set", dict := none, data := .set #[] 0 (.fresh 0 0 led) }
section
variable {P : Program} {w : World} {A : Around} {E : Value → Shared → Prop} {s : Shared}
set_option maxHeartbeats 3200000 in
theorem set_of_list {l : Addr} {xs : Array Value} (ns : List Int) {Q : Value → Shared → Prop} (cool : A.handled = none) (il : s.heap.IsList l xs) (ia : IntsAre xs.toList ns) (few : ns.length + 1 < scanBound)
    (k : ∀ (h' : Heap) (tk c : Nat), SetR w h' s.heap.objs.size (fun j => decide (j ∈ ns)) c → (∀ b o, s.heap.get? b = some o → h'.get? b = some o) → Q (.ref s.heap.objs.size) { s with heap := h', toks := tk }) :
    wpAny (model P w) A (call (.type "set") [.ref l]) Q E s := by
  obtain ⟨led, eL⟩ : ∃ led : Bool, led = !w.params.followText "set-order" := ⟨_, rfl⟩
  have ln : xs.size = ns.length := by have q := IntsAre.length ia; rwa [Array.length_toList] at q
  have F1 := F.called_set
  obtain ⟨cc, tl, e0⟩ := F1.mro
  have e1 := F1.made; have e2 := F1.sub
  refine wpAny_call (codeAny_of_tree ?_)
  show wpAny _ _ (callAny (.type "set") _) _ _ _
  refine wpAny_pure (show _ ∧ _ from ⟨Code.quiet_builtin _ (by decide +kernel), codeAny_builtin F.entry_type_call ?_⟩)
  rw [Around.under_plain (weight_type_call_type "set" (.ref l :: []) []) rfl]
  have e3 := F1.notType; have e4 := F1.canCreate
  have e5 := F.typeCall_set_1 (Value.ref l)
  repeat (any_goals first | assumption | wp_step)
  refine codeAny_mono (code_set_led1 (.ref l) (E := E) (Q₁ := fun ob s1 => ob = .ref s.heap.objs.size ∧ s1 = { s with heap := s.heap.push (newSet led) }) (by rw [eL]; exact ⟨rfl, rfl⟩)) fun r s1 hr => ?_
  cases r with
  | error _ => exact hr
  | ok fl =>
    cases fl with
    | ret ob =>
      obtain ⟨rfl, rfl⟩ := hr
      have a0 : (s.heap.push (newSet led)).get? s.heap.objs.size = some (newSet led) := Heap.get?_push_size _ rfl
      have tS : Shared.TypeIs { s with heap := s.heap.push (newSet led) } (.ref s.heap.objs.size) "set" := ⟨_, a0, rfl⟩
      have e6 := F1.init.lookup; have e7 := F1.init.bind (.ref s.heap.objs.size)
      repeat (any_goals first | assumption | wp_step)
      refine codeAny_mono (codeAny_call_builtin (R := wants (fun r s2 => r = .none ∧ ∃ h' tk c, s2 = { s with heap := h', toks := tk } ∧ SetR w h' s.heap.objs.size (fun j => decide (j ∈ ns)) c ∧
          (∀ b o, s.heap.get? b = some o → h'.get? b = some o)) E) F1.init.plain F.entry_set_init (check_set_init_1 tS ?_)) fun r2 s2 hr2 => ?_
      · obtain ⟨ol, hol, hcl, nl, hdl⟩ := il
        obtain ⟨c1, c2, c3, c4⟩ := ol
        simp only at hcl hdl
        subst hcl hdl
        have ol' : (s.heap.push (newSet led)).get? l = some { cls := .type "list", dict := c2, data := .seq xs nl, slots := c4 } := Heap.get?_push_of_some _ hol
        have f1 := F.sub_list_set; have f2 := F.sub_list_frozenset
        have f3 : (Value.type "list" == Value.type "dict") = false := by decide
        have il1 : (s.heap.push (newSet led)).IsList l xs := ⟨_, ol', rfl, nl, rfl⟩
        unfold Builtin.«set.__init__» noKeywords; unfold Builtin.Frozenset.updateFrom
        generalize gI : pyIter = PI
        wp_walk
        subst gI
        refine wpAny_pyIter_list il1 (wpAny_bind (wpAny_runValue ?_))
        have lS : l < s.heap.objs.size := Heap.lt_size hol
        have c3' : A.in1.in1.in1.handled = none := by simp [cool]
        have nI : l ≠ (s.heap.push (newSet led)).objs.size := by rw [Heap.size_push]; exact Nat.ne_of_lt (Nat.lt_succ_of_lt lS)
        have nS : s.heap.objs.size ∉ [(s.heap.push (newSet led)).objs.size, l] := by
          rw [Heap.size_push]; simp only [List.mem_cons, List.not_mem_nil, or_false, not_or]
          exact ⟨Nat.ne_of_lt (Nat.lt_succ_self _), Nat.ne_of_gt lS⟩
        have val : ∀ (i : Nat) (v : Value), xs[i]? = some v → ∃ k t, ns[i]? = some k ∧ v = .int k t := fun i v hv => by
          have hi : i < ns.length := by rw [← ln]; exact (Array.getElem?_eq_some_iff.mp hv).1
          obtain ⟨t, e⟩ := PyProof.Rows.IntsAre.int_at ia i v (by rw [Array.getElem?_toList]; exact hv)
          exact ⟨ns[i], t, List.getElem?_eq_getElem hi, by rw [e, List.getD_eq_getElem?_getD, List.getElem?_eq_getElem hi]; rfl⟩
        refine set_update_ints ((Walks.list c3' _ l nI xs).toS) s.heap.objs.size nS ns ln few val (xs.size - 0) 0 _ (by omega) (Nat.zero_le _) ⟨⟨_, Heap.get?_push_size _ rfl, rfl, rfl⟩, il1.push _⟩ ?z0 ?zR
        case z0 =>
          refine ⟨0, Nat.le_refl 0, setR_new_at ?_⟩
          rw [← eL]
          exact Heap.get?_push_of_some _ a0
        case zR =>
          intro s3 cn hm hc3 hS3
          obtain ⟨h3, g3, d3, t3, o3⟩ := s3
          have q1 : g3 = s.gens := hm.gens
          have q2 : d3 = s.drawn := hm.drawn
          have q3 : o3 = s.os := hm.os
          subst q1 q2 q3
          show wpAny _ _ _ _ _ _
          refine wpAny_pure ?_
          show wpAny _ _ (ret Value.none) _ _ _
          refine wpAny_pure ⟨rfl, h3, t3, cn, rfl, hS3, fun b o e => ?_⟩
          have b0 : b < s.heap.objs.size := Heap.lt_size e
          have b2 : b ≠ (s.heap.push (newSet led)).objs.size := by rw [Heap.size_push]; exact Nat.ne_of_lt (Nat.lt_succ_of_lt b0)
          exact hm.heap b o (by simp only [List.mem_cons, List.not_mem_nil, or_false, not_or]; exact ⟨Nat.ne_of_lt b0, b2⟩) (Heap.get?_push_of_some _ (Heap.get?_push_of_some _ e))
      · cases r2 with
        | error _ => exact hr2
        | ok fl2 =>
          cases fl2 with
          | ret r =>
            obtain ⟨rfl, h', tk, c, rfl, a, b⟩ := hr2
            repeat (any_goals first | assumption | wp_step)
            exact k _ _ _ a b
          | _ => exact hr2.elim
    | _ => exact hr.elim
end
section
variable {X : Cx} {G G' : Gh} {H H' H0 : Hp} {O O' : Sto} {K : PySem.W.Frag}
def rSetL (K : PySem.W.Frag) (w : World) : List V → Hp → VK → Prop := fun xs H Q => ∃ (l : Addr) (ns : List Int), xs = [V.ref l] ∧ SqL K H l (ns.map V.int) ∧ ns.length + 1 < scanBound ∧
  ∀ a, H a = none → Q (.ref a) (upd H a (SetO w a (fun j => decide (j ∈ ns)) (sdI ns).length))
theorem cr_setL (hc : X.calm = true) : CallR X (.type "set") (rSetL X.K X.w) := by
  intro pins s σ H xs us Q I r h
  obtain ⟨l, ns, rfl, hl, hf, q⟩ := h
  rw [Vals.ref1 r]
  obtain ⟨its, rv, pl, hz⟩ := I.list hl
  refine set_of_list ns (I.ok.hd hc) pl.isList (by simpa using rv.ints) hf fun h' tk c R keep => ?_
  have e : c = (sdI ns).length := by
    obtain ⟨_, es, _, _, _, _, _, _, nd, hm, _, _, hn, _⟩ := R
    rw [← hn, ← sdI_size nd fun k => ?_]
    · simp
    · rw [← hm]; simp
  subst e
  exact ⟨.ref s.heap.objs.size, _, I.laid (t' := tk) keep (Nat.le_refl _) (setO_new R), rfl, q _ (I.hok.fresh (Nat.le_refl _))⟩
/-- a thing at p that nobody knows -/
theorem junk_ext (g : GOk K G H O) {p : Addr} (hp : H p = none) (o : HO) : Ext G G H (upd H p o) ∧ GOk K G (upd H p o) O := by
  refine ⟨⟨Sub.refl _, fun _ _ n => n, ⟨[], by simp, by simp⟩, fun a u h _ => ?_, fun a h => ?_⟩, ⟨fun a u h => ?_, g.len, fun i ds e => ?_, g.nd, g.nf⟩⟩
  · rw [upd_ne (ne_of_none h hp)]; exact h
  · by_cases z : a = p
    · rw [z, upd_same]; simp
    · rw [upd_ne z]; exact h
  · rw [upd_ne (ne_of_none (g.sub a u h) hp)]; exact g.sub a u h
  · obtain ⟨a, vs, h1, h2, h3⟩ := g.obs i ds e
    exact ⟨a, vs, h1, by rw [upd_ne (ne_of_none h2 hp)]; exact h2, h3⟩
theorem intsD_map : ∀ {ds : List D} {ns : List Int}, intsD ds = some ns → ds = ns.map D.int
  | [], ns, h => by simp only [intsD, Option.some.injEq] at h; subst h; rfl
  | d :: ds, ns, h => by
    cases d with
    | int i =>
      simp only [intsD] at h
      obtain ⟨r, hr, rfl⟩ := Option.map_eq_some_iff.mp h
      rw [intsD_map hr]; rfl
    | _ => simp [intsD] at h
/-- sorted(set(v)) -/
def rSSet (K : PySem.W.Frag) (w : World) : V → Hp → VK → Prop := fun v H Q => rSetL K w [v] H fun u H1 => rSortedSet w [u] H1 Q
theorem sset_ok (g : GOk K G H O) {d : D} {v : V} {z : XD} {w : World} (h : Rd1 K G H d v) (hz : ssetD d = some z) (Q : VK) (W : Wanted K z G H O Q) : rSSet K w v H Q := by
  cases d with
  | lst ds =>
    simp only [ssetD] at hz
    obtain ⟨ns, hn, hz⟩ := Option.bind_eq_some_iff.mp hz
    split at hz
    · rename_i hb
      simp only [Option.some.injEq] at hz
      obtain ⟨a, us, rfl, ha, t⟩ := h.lst g.sub
      rw [intsD_map hn] at t
      have e := t.ints
      subst e
      refine ⟨a, ns, rfl, .of ha, hb.1, fun p hp => ⟨p, _, _, rfl, upd_same, hb.2, fun ms q h1 h2 h3 hq => ?_⟩⟩
      have e : ms = sdI ns := asc_uniq h1 (sdI_asc ns) fun x => by rw [h2, sdI_mem]; simp
      subst e
      obtain ⟨x, g'⟩ := junk_ext g hp (SetO w p (fun j => decide (j ∈ ns)) (sdI ns).length)
      have W' : Wanted K z G (upd H p (SetO w p (fun j => decide (j ∈ ns)) (sdI ns).length)) O Q := fun u G' H' fp y k rp f => W u G' H' fp (x.trans y) k rp (Fresh.pre x f)
      exact W'.lst g' hz.symm (DenL.of_ints (sdI ns)) hq
    · cases hz
  | _ => simp [ssetD] at hz
end
end Ev

namespace Ev
open PySem PySem.Spec PyProof.Rows L2
/-! ### subscripts, built-ins, methods by data -/
section
variable {K : PySem.W.Frag} {G : Gh} {H : Hp} {X : Cx}
theorem DenL.atI {ds : List D} {vs : List V} {k : Int} {z : D} (t : DenL K G ds vs) (h : atI ds k = some z) : ∃ u, L2.atI vs k = some u ∧ Den K G z u := by
  unfold L2.atI at h ⊢
  rw [t.len]
  cases q : ixN ds.length k with
  | none => rw [q] at h; cases h
  | some j =>
    rw [q] at h
    obtain ⟨u, hu, d⟩ := t.get h
    exact ⟨u, hu, d⟩
theorem atI_map {α β : Type} (f : α → β) (xs : List α) (k : Int) : L2.atI (xs.map f) k = (L2.atI xs k).map f := by
  unfold L2.atI
  rw [List.length_map]
  cases ixN xs.length k with
  | none => rfl
  | some j => simp
def Ix2 (X : Cx) : Prop :=
  ∃ r : R2, IxR X r ∧ ∀ (G : Gh) (H : Hp) (O : Sto) (d e : D) (v w : V) (z : D), GOk X.K G H O → Rd1 X.K G H d v → Rd1 X.K G H e w → idxD d e O = some z → ∀ Q : VK, (∀ u, Den X.K G z u → Q u H) → r v w H Q
theorem ix2 : Ix2 X := by
  refine ⟨_, ix_seq, fun G H O d e v w z g hd he hz Q q => ?_⟩
  cases e with
  | int k =>
    have ew := he.int
    subst ew
    cases d with
    | scr ns =>
      simp only [idxD] at hz
      obtain ⟨i, hi, rfl⟩ := Option.map_eq_some_iff.mp hz
      obtain ⟨a, rfl, ha⟩ := hd.scr g.sub
      exact .inl ⟨a, _, k, .int i, rfl, rfl, ha, by rw [atI_map, hi]; rfl, q _ (by unfold Den; rfl)⟩
    | lst ds =>
      simp only [idxD] at hz
      obtain ⟨a, vs, rfl, ha, t⟩ := hd.lst g.sub
      obtain ⟨u, hu, tu⟩ := t.atI hz
      exact .inl ⟨a, vs, k, u, rfl, rfl, .of ha, hu, q u tu⟩
    | tup ds =>
      simp only [idxD] at hz
      obtain ⟨a, vs, rfl, ha, t⟩ := hd.tup g.sub
      obtain ⟨u, hu, tu⟩ := t.atI hz
      exact .inr (.inl ⟨a, vs, k, u, rfl, rfl, ha, hu, q u tu⟩)
    | str x =>
      simp only [idxD] at hz
      split at hz
      · rename_i hl
        obtain ⟨c, hc, rfl⟩ := Option.map_eq_some_iff.mp hz
        exact .inr (.inr ⟨sOf x, k, c, hd.str, rfl, by rw [sOf_len]; exact hl, by simpa [sOf] using hc, q _ (by unfold Den; simp [sOf])⟩)
      · cases hz
    | obj j =>
      simp only [idxD] at hz
      obtain ⟨a, rfl, ha⟩ := hd.obj
      cases hO : O[j]? with
      | none => rw [hO] at hz; cases hz
      | some ob =>
        cases ob with
        | cell ds =>
          rw [hO] at hz
          obtain ⟨b, vs, h1, h2, t⟩ := g.obs j ds hO
          rw [ha] at h1; cases h1
          obtain ⟨u, hu, tu⟩ := t.atI hz
          exact .inl ⟨a, vs, k, u, rfl, rfl, .of h2, hu, q u tu⟩
    | _ => simp [idxD] at hz
  | _ => cases d <;> simp [idxD] at hz

theorem DenL.cut {ds : List D} {vs : List V} (lo hi : Option Int) (t : DenL K G ds vs) : DenL K G (cutL ds lo hi) (cutV vs lo hi) := by
  unfold cutL cutV
  rw [t.len]
  exact (t.drop _).take _
theorem cut_whole {α : Type} {xs : List α} {lo hi : Option Int} (h : HT.sIx xs.length 0 lo = 0 ∧ HT.sIx xs.length xs.length hi = xs.length) : cutL xs lo hi = xs := by
  unfold cutL
  rw [h.1, h.2]
  simp
def Sl2 (X : Cx) : Prop :=
  ∃ r : V → Option Int → Option Int → Hp → VK → Prop, SlR X r ∧ ∀ (G : Gh) (H : Hp) (O : Sto) (d : D) (lo hi : Option Int) (v : V) (z : XD), GOk X.K G H O → Rd1 X.K G H d v → slcD d lo hi = some z → ∀ Q, Wanted X.K z G H O Q → r v lo hi H Q
theorem sl2 : Sl2 X := by
  refine ⟨_, sl_list.or (sl_tupA.or sl_str), fun G H O d lo hi v z g hd hz Q W => ?_⟩
  cases d with
  | lst ds =>
    simp only [slcD, Option.some.injEq] at hz
    obtain ⟨a, vs, rfl, ha, t⟩ := hd.lst g.sub
    exact .inl ⟨a, vs, rfl, .of ha, fun p hp => W.lst g hz.symm (t.cut lo hi) hp⟩
  | scr ns =>
    simp only [slcD, Option.some.injEq] at hz
    obtain ⟨a, rfl, ha⟩ := hd.scr g.sub
    refine .inl ⟨a, _, rfl, ha, fun p hp => W.lst g hz.symm ?_ hp⟩
    have e : cutV (ns.map V.int) lo hi = (cutL ns lo hi).map V.int := by unfold cutV cutL; rw [List.length_map, List.map_take, List.map_drop]
    rw [e]
    exact DenL.of_ints _
  | tup ds =>
    simp only [slcD, Option.some.injEq] at hz
    have hd' := hd.den (fun _ e => by cases e)
    obtain ⟨a, vs, rfl, ha, t⟩ := hd.tup g.sub
    refine .inr (.inl ⟨a, vs, rfl, ha, fun hw => ?_, fun _ p hp => W.tup g hz.symm (t.cut lo hi) hp⟩)
    rw [t.len] at hw
    rw [cut_whole hw] at hz
    exact W.flat g hz.symm hd'
  | str x =>
    simp only [slcD] at hz
    split at hz
    · rename_i hl
      simp only [Option.some.injEq] at hz
      refine .inr (.inr ⟨sOf x, hd.str, by rw [sOf_len]; exact hl, W.flat g hz.symm ?_⟩)
      unfold Den cutS cutL
      rw [sOf_len]
      rfl
    · cases hz
  | _ => simp [slcD] at hz

/-- a list's things read -/
def RdL (K : PySem.W.Frag) (G : Gh) (H : Hp) : List D → List V → Prop
  | [], vs => vs = []
  | d :: ds, vs => ∃ v r, vs = v :: r ∧ Rd1 K G H d v ∧ RdL K G H ds r
theorem RdL.one {d : D} {vs : List V} (h : RdL K G H [d] vs) : ∃ v, vs = [v] ∧ Rd1 K G H d v := by
  obtain ⟨v, r, rfl, p, q⟩ := h
  have q : r = [] := q
  subst q
  exact ⟨v, rfl, p⟩
theorem ints_of {ds : List D} {ns : List Int} (h : intsD ds = some ns) : ds = ns.map D.int := by
  induction ds generalizing ns with
  | nil => simp [intsD] at h; subst h; rfl
  | cons d ds ih =>
    cases d with
    | int i =>
      simp only [intsD] at h
      obtain ⟨m, hm, rfl⟩ := Option.map_eq_some_iff.mp h
      rw [ih hm]; rfl
    | _ => simp [intsD] at h
theorem bls_of {ds : List D} {bs : List Bool} (h : blsD ds = some bs) : ds = bs.map D.bl := by
  induction ds generalizing bs with
  | nil => simp [blsD] at h; subst h; rfl
  | cons d ds ih =>
    cases d with
    | bl i =>
      simp only [blsD] at h
      obtain ⟨m, hm, rfl⟩ := Option.map_eq_some_iff.mp h
      rw [ih hm]; rfl
    | _ => simp [blsD] at h
theorem strs_of {ds : List D} {xs : List Tx} (h : strsD ds = some xs) : ds = xs.map D.str := by
  induction ds generalizing xs with
  | nil => simp [strsD] at h; subst h; rfl
  | cons d ds ih =>
    cases d with
    | str i =>
      simp only [strsD] at h
      obtain ⟨m, hm, rfl⟩ := Option.map_eq_some_iff.mp h
      rw [ih hm]; rfl
    | _ => simp [strsD] at h
theorem DenL.bls : ∀ {bs : List Bool} {vs : List V}, DenL K G (bs.map D.bl) vs → vs = bs.map V.bl
  | [], _, x => x.inv0
  | n :: ns, _, x => by
    obtain ⟨v, r, rfl, p, q⟩ := DenL.inv (ds := ns.map D.bl) x
    rw [DenL.bls q]
    unfold Den at p
    rw [p]; rfl
theorem DenL.strs : ∀ {xs : List Tx} {vs : List V}, DenL K G (xs.map D.str) vs → vs = (xs.map sOf).map V.str
  | [], _, x => x.inv0
  | n :: ns, _, x => by
    obtain ⟨v, r, rfl, p, q⟩ := DenL.inv (ds := ns.map D.str) x
    rw [DenL.strs q]
    unfold Den at p
    rw [p]; rfl
theorem foldl_max (r : List Int) : ∀ x : Int, (∀ y ∈ r, y ≤ r.foldl max x) ∧ x ≤ r.foldl max x ∧ (r.foldl max x = x ∨ r.foldl max x ∈ r) := by
  induction r with
  | nil => intro x; simp
  | cons y r ih =>
    intro x
    obtain ⟨h1, h2, h3⟩ := ih (max x y)
    rw [List.foldl_cons]
    refine ⟨fun z hz => ?_, by omega, ?_⟩
    · rcases List.mem_cons.mp hz with rfl | hz
      · omega
      · exact h1 z hz
    · rcases h3 with h3 | h3
      · rw [h3]
        rcases Int.le_total x y with l | l
        · exact .inr (by rw [Int.max_eq_right l]; exact List.mem_cons_self)
        · exact .inl (by rw [Int.max_eq_left l])
      · exact .inr (List.mem_cons_of_mem _ h3)
theorem foldl_min (r : List Int) : ∀ x : Int, (∀ y ∈ r, r.foldl min x ≤ y) ∧ r.foldl min x ≤ x ∧ (r.foldl min x = x ∨ r.foldl min x ∈ r) := by
  induction r with
  | nil => intro x; simp
  | cons y r ih =>
    intro x
    obtain ⟨h1, h2, h3⟩ := ih (min x y)
    rw [List.foldl_cons]
    refine ⟨fun z hz => ?_, by omega, ?_⟩
    · rcases List.mem_cons.mp hz with rfl | hz
      · omega
      · exact h1 z hz
    · rcases h3 with h3 | h3
      · rw [h3]
        rcases Int.le_total x y with l | l
        · exact .inl (by rw [Int.min_eq_left l])
        · exact .inr (by rw [Int.min_eq_right l]; exact List.mem_cons_self)
      · exact .inr (List.mem_cons_of_mem _ h3)
theorem maxL_spec {ns : List Int} {m : Int} (h : maxL ns = some m) : m ∈ ns ∧ ∀ y ∈ ns, y ≤ m := by
  cases ns with
  | nil => simp [maxL] at h
  | cons x r =>
    simp only [maxL, Option.some.injEq] at h
    subst h
    obtain ⟨h1, h2, h3⟩ := foldl_max r x
    refine ⟨?_, fun y hy => ?_⟩
    · rcases h3 with h3 | h3
      · rw [h3]; exact List.mem_cons_self
      · exact List.mem_cons_of_mem _ h3
    · rcases List.mem_cons.mp hy with rfl | hy
      · exact h2
      · exact h1 y hy
theorem minL_spec {ns : List Int} {m : Int} (h : minL ns = some m) : m ∈ ns ∧ ∀ y ∈ ns, m ≤ y := by
  cases ns with
  | nil => simp [minL] at h
  | cons x r =>
    simp only [minL, Option.some.injEq] at h
    subst h
    obtain ⟨h1, h2, h3⟩ := foldl_min r x
    refine ⟨?_, fun y hy => ?_⟩
    · rcases h3 with h3 | h3
      · rw [h3]; exact List.mem_cons_self
      · exact List.mem_cons_of_mem _ h3
    · rcases List.mem_cons.mp hy with rfl | hy
      · exact h2
      · exact h1 y hy
/-- a call of a built-in, by data -/
def biVal : Bi → Value
  | .len => .builtin "len" | .int => .type "int" | .ord => .builtin "ord" | .list => .type "list" | .tuple => .type "tuple" | .sorted => .builtin "sorted"
  | .max => .builtin "max" | .min => .builtin "min" | .sum => .builtin "sum" | .any => .builtin "any" | .all => .builtin "all" | .repr => .builtin "repr" | .str => .type "str"
def Bc (X : Cx) (f : Value) (b : D → Option XD) : Prop :=
  ∃ r : List V → Hp → VK → Prop, CallR X f r ∧ ∀ (G : Gh) (H : Hp) (O : Sto) (d : D) (v : V) (z : XD), GOk X.K G H O → Rd1 X.K G H d v → b d = some z → ∀ Q, Wanted X.K z G H O Q → r [v] H Q
theorem bc_len : Bc X (.builtin "len") lenD := by
  refine ⟨_, call_len_seq.or call_len_str, fun G H O d v z g h hz Q W => ?_⟩
  cases d with
  | lst ds =>
    simp only [lenD, Option.some.injEq] at hz
    obtain ⟨a, us, rfl, ha, t⟩ := h.lst g.sub
    exact .inl ⟨a, us, rfl, .inl (.of ha), W.flat g hz.symm (by unfold Den; rw [t.len])⟩
  | scr ns =>
    simp only [lenD, Option.some.injEq] at hz
    obtain ⟨a, rfl, ha⟩ := h.scr g.sub
    exact .inl ⟨a, _, rfl, .inl ha, W.flat g hz.symm (by unfold Den; rw [List.length_map])⟩
  | tup ds =>
    simp only [lenD, Option.some.injEq] at hz
    obtain ⟨a, us, rfl, ha, t⟩ := h.tup g.sub
    exact .inl ⟨a, us, rfl, .inr ha, W.flat g hz.symm (by unfold Den; rw [t.len])⟩
  | str x =>
    simp only [lenD] at hz
    split at hz
    · rename_i hl
      simp only [Option.some.injEq] at hz
      have e := h.str
      subst e
      exact .inr ⟨_, rfl, by rw [sOf_len]; exact hl, W.flat g hz.symm (by unfold Den; rw [sOf_len])⟩
    · cases hz
  | _ => simp [lenD] at hz
theorem bc_int : Bc X (.type "int") intD := by
  refine ⟨_, call_int1, fun G H O d v z g h hz Q W => ?_⟩
  cases d with
  | int i =>
    simp only [intD, Option.some.injEq] at hz
    have e := h.int
    subst e
    exact .inl ⟨i, rfl, W.flat g hz.symm (by unfold Den; rfl)⟩
  | bl b =>
    simp only [intD, Option.some.injEq] at hz
    have e := h.bl
    subst e
    exact .inr ⟨b, rfl, W.flat g hz.symm (by unfold Den; rfl)⟩
  | _ => simp [intD] at hz
theorem bc_ord : Bc X (.builtin "ord") ordD := by
  refine ⟨_, call_ord, fun G H O d v z g h hz Q W => ?_⟩
  cases d with
  | str x =>
    cases x with
    | nil => simp [ordD] at hz
    | cons c r =>
      cases r with
      | nil =>
        simp only [ordD, Option.some.injEq] at hz
        have e := h.str
        subst e
        exact ⟨_, rfl, by rw [sOf_len]; rfl, W.flat g hz.symm (by unfold Den; rfl)⟩
      | cons _ _ => simp [ordD] at hz
  | _ => simp [ordD] at hz
theorem bc_list : Bc X (.type "list") listD := by
  refine ⟨_, call_list_of, fun G H O d v z g h hz Q W => ?_⟩
  cases d with
  | lst ds =>
    simp only [listD, Option.some.injEq] at hz
    obtain ⟨a, us, rfl, ha, t⟩ := h.lst g.sub
    exact ⟨a, us, rfl, .inl (.of ha), fun l hl => W.lst g hz.symm t hl⟩
  | tup ds =>
    simp only [listD, Option.some.injEq] at hz
    obtain ⟨a, us, rfl, ha, t⟩ := h.tup g.sub
    exact ⟨a, us, rfl, .inr ha, fun l hl => W.lst g hz.symm t hl⟩
  | _ => simp [listD] at hz
theorem bc_tuple : Bc X (.type "tuple") tupleD := by
  refine ⟨_, call_tuple_of, fun G H O d v z g h hz Q W => ?_⟩
  cases d with
  | lst ds =>
    simp only [tupleD, Option.some.injEq] at hz
    obtain ⟨a, us, rfl, ha, t⟩ := h.lst g.sub
    exact ⟨a, us, rfl, .inl ⟨.of ha, fun l hl => W.tup g hz.symm t hl⟩⟩
  | tup ds =>
    simp only [tupleD, Option.some.injEq] at hz
    have hd := h.den (fun _ e => by cases e)
    obtain ⟨a, us, rfl, ha, t⟩ := h.tup g.sub
    exact ⟨a, us, rfl, .inr ⟨ha, W.flat g hz.symm hd⟩⟩
  | _ => simp [tupleD] at hz
theorem bc_max (hc : X.calm = true) : Bc X (.builtin "max") maxD := by
  refine ⟨_, cr_max hc, fun G H O d v z g h hz Q W => ?_⟩
  cases d with
  | lst ds =>
    simp only [maxD] at hz
    obtain ⟨ns, hn, hz⟩ := Option.bind_eq_some_iff.mp hz
    obtain ⟨m, hm, hz⟩ := Option.map_eq_some_iff.mp hz
    obtain ⟨a, us, rfl, ha, t⟩ := h.lst g.sub
    rw [ints_of hn] at t
    have e := t.ints
    subst e
    obtain ⟨h1, h2⟩ := maxL_spec hm
    refine ⟨a, ns, rfl, .of ha, List.length_pos_of_mem h1, fun m' q1 q2 => W.flat g hz.symm ?_⟩
    have : m' = m := Int.le_antisymm (h2 m' q1) (q2 m h1)
    unfold Den; rw [this]
  | _ => simp [maxD] at hz
theorem bc_min (hc : X.calm = true) : Bc X (.builtin "min") minD := by
  refine ⟨_, cr_min hc, fun G H O d v z g h hz Q W => ?_⟩
  cases d with
  | lst ds =>
    simp only [minD] at hz
    obtain ⟨ns, hn, hz⟩ := Option.bind_eq_some_iff.mp hz
    obtain ⟨m, hm, hz⟩ := Option.map_eq_some_iff.mp hz
    obtain ⟨a, us, rfl, ha, t⟩ := h.lst g.sub
    rw [ints_of hn] at t
    have e := t.ints
    subst e
    obtain ⟨h1, h2⟩ := minL_spec hm
    refine ⟨a, ns, rfl, .of ha, List.length_pos_of_mem h1, fun m' q1 q2 => W.flat g hz.symm ?_⟩
    have : m' = m := Int.le_antisymm (q2 m h1) (h2 m' q1)
    unfold Den; rw [this]
  | _ => simp [minD] at hz
theorem bc_sum (hc : X.calm = true) : Bc X (.builtin "sum") sumD := by
  refine ⟨_, cr_sum hc, fun G H O d v z g h hz Q W => ?_⟩
  cases d with
  | lst ds =>
    simp only [sumD] at hz
    obtain ⟨ns, hn, hz⟩ := Option.map_eq_some_iff.mp hz
    obtain ⟨a, us, rfl, ha, t⟩ := h.lst g.sub
    rw [ints_of hn] at t
    have e := t.ints
    subst e
    exact ⟨a, ns, rfl, .of ha, W.flat g hz.symm (by unfold Den; rfl)⟩
  | _ => simp [sumD] at hz
theorem bc_any (hc : X.calm = true) : Bc X (.builtin "any") anyD := by
  refine ⟨_, cr_any hc, fun G H O d v z g h hz Q W => ?_⟩
  cases d with
  | lst ds =>
    simp only [anyD] at hz
    obtain ⟨ns, hn, hz⟩ := Option.map_eq_some_iff.mp hz
    obtain ⟨a, us, rfl, ha, t⟩ := h.lst g.sub
    rw [bls_of hn] at t
    have e := t.bls
    subst e
    exact ⟨a, ns, rfl, .of ha, W.flat g hz.symm (by unfold Den; rfl)⟩
  | _ => simp [anyD] at hz
theorem bc_all (hc : X.calm = true) : Bc X (.builtin "all") allD := by
  refine ⟨_, cr_all hc, fun G H O d v z g h hz Q W => ?_⟩
  cases d with
  | lst ds =>
    simp only [allD] at hz
    obtain ⟨ns, hn, hz⟩ := Option.map_eq_some_iff.mp hz
    obtain ⟨a, us, rfl, ha, t⟩ := h.lst g.sub
    rw [bls_of hn] at t
    have e := t.bls
    subst e
    exact ⟨a, ns, rfl, .of ha, W.flat g hz.symm (by unfold Den; rfl)⟩
  | _ => simp [allD] at hz
theorem pairs_of : ∀ {ds : List D} {ps : List (Int × Int)}, pairsD ds = some ps → ds = ps.map pairT
  | [], ps, h => by
    simp only [pairsD, Option.some.injEq] at h
    subst h; rfl
  | d :: ds, ps, h => by
    simp only [pairsD] at h
    obtain ⟨p, hp, h⟩ := Option.bind_eq_some_iff.mp h
    obtain ⟨r, hr, rfl⟩ := Option.map_eq_some_iff.mp h
    have : d = pairT p := by
      unfold pairD at hp
      split at hp
      · cases hp; rfl
      · cases hp
    rw [this, pairs_of hr]; rfl
theorem den_pairs {K : PySem.W.Frag} {G : Gh} : ∀ {ps : List (Int × Int)} {vs : List V}, DenL K G (ps.map pairT) vs → ∃ L : List (Addr × Int × Int), L.map (·.2) = ps ∧ vs = L.map (fun q => V.ref q.1) ∧ ∀ q ∈ L, Den K G (pairT q.2) (.ref q.1) ∧ SqT K G.F q.1 [.int q.2.1, .int q.2.2]
  | [], vs, h => ⟨[], rfl, h.inv0, fun q hq => by cases hq⟩
  | p :: ps, vs, h => by
    obtain ⟨v, r, rfl, hd, hr⟩ := h.inv
    obtain ⟨L, e1, e2, hL⟩ := den_pairs hr
    have hd' := hd
    unfold pairT at hd
    unfold Den at hd
    obtain ⟨a, us, rfl, hs, hu⟩ := hd
    obtain ⟨u1, r1, rfl, d1, hu⟩ := hu.inv
    obtain ⟨u2, r2, rfl, d2, hu⟩ := hu.inv
    have e3 := hu.inv0
    unfold Den at d1 d2
    subst d1 d2 e3
    refine ⟨(a, p) :: L, by rw [List.map_cons, e1], by rw [List.map_cons, e2], fun q hq => ?_⟩
    rcases List.mem_cons.mp hq with e | hq
    · subst e; exact ⟨hd', hs⟩
    · exact hL q hq
theorem denL_map {K : PySem.W.Frag} {G : Gh} {α : Type} (f : α → D) (g : α → V) : ∀ {L : List α}, (∀ q ∈ L, Den K G (f q) (g q)) → DenL K G (L.map f) (L.map g)
  | [], _ => .nil
  | q :: L, h => .cons (h q List.mem_cons_self) (denL_map f g fun z hz => h z (List.mem_cons_of_mem _ hz))
theorem bc_sorted : Bc X (.builtin "sorted") sortedD := by
  refine ⟨_, cr_sortI.or cr_sortP, fun G H O d v z g h hz Q W => ?_⟩
  have go : ∀ (ds es : List D) (a : Addr) (us : List V), v = .ref a → SqA X.K H a us → DenL X.K G ds us → sortL ds = some es → z = .ow 1 (.lst es) →
      (∃ (b : Addr) (ns : List Int), [v] = [V.ref b] ∧ SqA X.K H b (ns.map V.int) ∧ ∀ p, H p = none → Q (.ref p) (upd H p (.lst ((srtK ltI ns).map V.int)))) ∨
      (∃ (b : Addr) (L : List (Addr × Int × Int)), [v] = [V.ref b] ∧ SqA X.K H b (L.map fun q => V.ref q.1) ∧ (∀ q ∈ L, SqT X.K H q.1 [.int q.2.1, .int q.2.2]) ∧ ∀ p, H p = none → Q (.ref p) (upd H p (.lst ((srtK (fun x y => SrtO.lexB x.2 y.2) L).map fun q => V.ref q.1)))) := fun ds es a us ev hs t hl ez => by
    subst ev
    unfold sortL at hl
    split at hl
    · rename_i ns hn
      cases hl
      rw [ints_of hn] at t
      have e := t.ints
      subst e
      exact .inl ⟨a, ns, rfl, hs, fun p hp => W.lst g ez (denL_map D.int V.int fun q _ => by unfold Den; rfl) hp⟩
    · obtain ⟨ps, hp, rfl⟩ := Option.map_eq_some_iff.mp hl
      rw [pairs_of hp] at t
      obtain ⟨L, e1, e2, hL⟩ := den_pairs t
      subst e2
      have OL : SrtO.Swo fun (x y : Addr × Int × Int) => SrtO.lexB x.2 y.2 := ⟨fun x y h => swoP.asym _ _ h, fun x y z h1 h2 => swoP.tr _ _ _ h1 h2⟩
      refine .inr ⟨a, L, rfl, hs, fun q hq => g.sub.sqT (hL q hq).2, fun p hp => W.lst g ez ?_ hp⟩
      have e3 : (srtK SrtO.lexB ps).map pairT = (srtK (fun (x y : Addr × Int × Int) => SrtO.lexB x.2 y.2) L).map fun q => pairT q.2 := by
        rw [← e1, ← srtK_map (fun (q : Addr × Int × Int) => q.2) (lb := SrtO.lexB) L, List.map_map]; rfl
      rw [e3]
      exact denL_map (fun q => pairT q.2) (fun q => V.ref q.1) fun q hq => (hL q ((srtK_mem OL).mp hq)).1
  cases d with
  | lst ds =>
    simp only [sortedD] at hz
    obtain ⟨es, he, hz⟩ := Option.map_eq_some_iff.mp hz
    obtain ⟨a, us, rfl, ha, t⟩ := h.lst g.sub
    exact go ds es a us rfl (.inl (.of ha)) t he hz.symm
  | tup ds =>
    simp only [sortedD] at hz
    obtain ⟨es, he, hz⟩ := Option.map_eq_some_iff.mp hz
    obtain ⟨a, us, rfl, ha, t⟩ := h.tup g.sub
    exact go ds es a us rfl (.inr ha) t he hz.symm
  | _ => simp [sortedD] at hz
def biOk : Bi → Bool
  | .len => true | .int => true | .ord => true | .list => true | .tuple => true | .max => true | .min => true | .sum => true | .any => true | .all => true | .sorted => true | _ => false
theorem bc_all' (hc : X.calm = true) {b : Bi} (h : biOk b = true) : Bc X (biVal b) (bi1 b) := by
  cases b with
  | len => exact bc_len
  | int => exact bc_int
  | ord => exact bc_ord
  | list => exact bc_list
  | tuple => exact bc_tuple
  | max => exact bc_max hc
  | min => exact bc_min hc
  | sum => exact bc_sum hc
  | any => exact bc_any hc
  | all => exact bc_all hc
  | sorted => exact bc_sorted
  | _ => exact absurd h Bool.false_ne_true
/-- isinstance of data and a built-in type -/
theorem kitB_ok : ∀ a ∈ ["NoneType", "bool", "int", "str", "tuple", "list"], ∀ b ∈ ["int", "bool", "str", "tuple", "list", "dict"],
    kitB a b = some (decide (a = b) || (a == "bool" && b == "int")) := by decide +kernel
def isiOk (ty : String) : Bool := ["int", "bool", "str", "tuple", "list", "dict"].contains ty
theorem isi_ok {ty : String} (ht : isiOk ty = true) {O : Sto} {d : D} {v : V} {b : Bool} (g : GOk K G H O) (h : Rd1 K G H d v) (hb : isiD d ty = some b) : ∃ t, TyX K H v t ∧ PySem.W.kitOne K t (.type ty) = some b := by
  have ht : ty ∈ ["int", "bool", "str", "tuple", "list", "dict"] := by unfold isiOk at ht; simpa using ht
  have go : ∀ a, a ∈ ["NoneType", "bool", "int", "str", "tuple", "list"] → ∀ r, (decide (a = ty) || (a == "bool" && ty == "int")) = r → PySem.W.kitOne K (.type a) (.type ty) = some r := fun a ha r hr => by
    have := kitB_ok a ha ty ht
    rw [hr] at this
    exact kit_ty this
  have fin : ∀ a, a ∈ ["NoneType", "bool", "int", "str", "tuple", "list"] → TyX K H v (.type a) → (decide (a = ty) || (a == "bool" && ty == "int")) = b → ∃ t, TyX K H v t ∧ PySem.W.kitOne K t (.type ty) = some b := fun a ha hx hr => ⟨_, hx, go a ha b hr⟩
  cases d with
  | non =>
    have e := h.non; subst e
    refine fin "NoneType" (by decide) (.base .non) ?_
    simp only [List.mem_cons, List.not_mem_nil, or_false] at ht
    rcases ht with rfl | rfl | rfl | rfl | rfl | rfl <;> (simp [isiD] at hb; subst hb; decide)
  | bl c =>
    have e := h.bl; subst e
    refine fin "bool" (by decide) (.base (.bl _)) ?_
    simp only [List.mem_cons, List.not_mem_nil, or_false] at ht
    rcases ht with rfl | rfl | rfl | rfl | rfl | rfl <;> (simp [isiD] at hb; subst hb; decide)
  | int c =>
    have e := h.int; subst e
    refine fin "int" (by decide) (.base (.int _)) ?_
    simp only [List.mem_cons, List.not_mem_nil, or_false] at ht
    rcases ht with rfl | rfl | rfl | rfl | rfl | rfl <;> (simp [isiD] at hb; subst hb; decide)
  | str c =>
    have e := h.str; subst e
    refine fin "str" (by decide) (.base (.str _)) ?_
    simp only [List.mem_cons, List.not_mem_nil, or_false] at ht
    rcases ht with rfl | rfl | rfl | rfl | rfl | rfl <;> (simp [isiD] at hb; subst hb; decide)
  | tup ds =>
    obtain ⟨a, us, rfl, ha, t⟩ := h.tup g.sub
    have tx : TyX K H (.ref a) (.type "tuple") := by
      rcases ha with (ha | ⟨o, ha⟩) | ⟨o, its, n, hk, hc, _⟩
      · exact .base (.tup ha)
      · exact .fTuple ha
      · exact .kTuple hk hc
    refine fin "tuple" (by decide) tx ?_
    simp only [List.mem_cons, List.not_mem_nil, or_false] at ht
    rcases ht with rfl | rfl | rfl | rfl | rfl | rfl <;> (simp [isiD] at hb; subst hb; decide)
  | lst ds =>
    obtain ⟨a, us, rfl, ha, t⟩ := h.lst g.sub
    refine fin "list" (by decide) (.base (.lst ha)) ?_
    simp only [List.mem_cons, List.not_mem_nil, or_false] at ht
    rcases ht with rfl | rfl | rfl | rfl | rfl | rfl <;> (simp [isiD] at hb; subst hb; decide)
  | _ => simp [isiD] at hb
/-! methods of texts -/
def mtId : Mt → String
  | .join => "str.join" | .index => "str.index" | .split => "str.split" | .starts => "str.startswith"
def mtName : Mt → Str
  | .join => "join" | .index => "index" | .split => "split" | .starts => "startswith"
theorem joinT_S (s : Tx) : ∀ xs : List Tx, Txt.join (sOf s) (xs.map sOf) = sOf (joinT s xs) := fun xs => by
  rw [TL.join_eq]
  induction xs with
  | nil => rfl
  | cons x r ih =>
    cases r with
    | nil => rfl
    | cons y r =>
      show sOf x ++ sOf s ++ Str.join (sOf s) ((y :: r).map sOf) = sOf (x ++ s ++ joinT s (y :: r))
      rw [ih, sOf_app, sOf_app]
def Mc (X : Cx) (m : Mt) : Prop :=
  ∃ r : V → List V → Hp → VK → Prop, MtR X (mtId m) r ∧ ∀ (G : Gh) (H : Hp) (O : Sto) (s : Tx) (e : D) (w : V) (z : XD), GOk X.K G H O → Rd1 X.K G H e w → metD m s e = some z → ∀ Q, Wanted X.K z G H O Q → r (.str (sOf s)) [w] H Q
theorem mc_join : Mc X .join := by
  refine ⟨_, mt_join, fun G H O s e w z g hw hz Q W => ?_⟩
  have key : ∀ (xs : List Tx) (p : Addr), w = .ref p → (SqL X.K H p ((xs.map sOf).map V.str) ∨ SqT X.K H p ((xs.map sOf).map V.str)) → (xs.map List.length).sum + xs.length * s.length ≤ 16777216 → z = .fz (.str (joinT s xs)) →
      ∃ a p, ∃ ys : List Str, V.str (sOf s) = .str a ∧ [w] = [.ref p] ∧ (SqL X.K H p (ys.map V.str) ∨ SqT X.K H p (ys.map V.str)) ∧ (ys.map (·.length)).sum + ys.length * a.length ≤ 16777216 ∧ Q (.str (Txt.join a ys)) H := by
    intro xs p e2 hp hl hz
    refine ⟨sOf s, p, xs.map sOf, rfl, by rw [e2], hp, ?_, ?_⟩
    · rw [List.map_map, List.length_map, sOf_len]
      have : (fun x => (sOf x).length) = List.length := by funext x; exact sOf_len x
      show (xs.map (fun x => (sOf x).length)).sum + _ ≤ _
      rw [this]; exact hl
    · rw [joinT_S]
      exact W.flat g hz (by unfold Den; rfl)
  cases e with
  | lst es =>
    simp only [metD] at hz
    obtain ⟨xs, hx, hz⟩ := Option.bind_eq_some_iff.mp hz
    split at hz
    · rename_i hl
      simp only [Option.some.injEq] at hz
      obtain ⟨p, us, rfl, hp, t⟩ := hw.lst g.sub
      rw [strs_of hx] at t
      rw [t.strs] at hp
      exact key xs p rfl (.inl (.of hp)) hl hz.symm
    · cases hz
  | tup es =>
    simp only [metD] at hz
    obtain ⟨xs, hx, hz⟩ := Option.bind_eq_some_iff.mp hz
    split at hz
    · rename_i hl
      simp only [Option.some.injEq] at hz
      obtain ⟨p, us, rfl, hp, t⟩ := hw.tup g.sub
      rw [strs_of hx] at t
      rw [t.strs] at hp
      exact key xs p rfl (.inr hp) hl hz.symm
    · cases hz
  | _ => simp [metD] at hz
theorem mc_index : Mc X .index := by
  refine ⟨_, mt_sindex, fun G H O s e w z g hw hz Q W => ?_⟩
  cases e with
  | str t =>
    simp only [metD] at hz
    split at hz
    · rename_i i rest ho
      simp only [Option.some.injEq] at hz
      exact ⟨sOf s, sOf t, i, rest, rfl, by rw [hw.str], ho, W.flat g hz.symm (by unfold Den; rfl)⟩
    · cases hz
  | _ => simp [metD] at hz
end
end Ev

namespace Ev
open PySem PySem.Spec PyProof.Rows L2
/-! ### the code is the text's: looked at by program -/
structure Glo where
  fn : List Str
  glb : List (Str × D)
  blt : List Str
  dfl : List (Nat × List D) := []
mutual
def dEq : D → D → Bool
  | .non, .non => true
  | .bl a, .bl b => a == b
  | .int a, .int b => a == b
  | .str a, .str b => a == b
  | .tup a, .tup b => dEqL a b
  | .lst a, .lst b => dEqL a b
  | _, _ => false
def dEqL : List D → List D → Bool
  | [], [] => true
  | a :: r, b :: s => dEq a b && dEqL r s
  | _, _ => false
end
mutual
theorem dEq_of : ∀ {a b : D}, dEq a b = true → a = b
  | .non, b, h => by cases b <;> first | rfl | (simp [dEq] at h)
  | .bl _, b, h => by cases b <;> first | (simp [dEq] at h; rw [h]) | (simp [dEq] at h)
  | .int _, b, h => by cases b <;> first | (simp [dEq] at h; rw [h]) | (simp [dEq] at h)
  | .str _, b, h => by cases b <;> first | (simp [dEq] at h; rw [h]) | (simp [dEq] at h)
  | .tup _, b, h => by cases b <;> first | (simp only [dEq] at h; rw [dEqL_of h]) | (simp [dEq] at h)
  | .lst _, b, h => by cases b <;> first | (simp only [dEq] at h; rw [dEqL_of h]) | (simp [dEq] at h)
  | .obj _, b, h => by cases b <;> simp [dEq] at h
  | .scr _, b, h => by cases b <;> simp [dEq] at h
  | .dic _ _, b, h => by cases b <;> simp [dEq] at h
  | .set _, b, h => by cases b <;> simp [dEq] at h
  | .ins _ _, b, h => by cases b <;> simp [dEq] at h
  | .deq _, b, h => by cases b <;> simp [dEq] at h
theorem dEqL_of : ∀ {a b : List D}, dEqL a b = true → a = b
  | [], [], _ => rfl
  | [], _ :: _, h => by simp [dEqL] at h
  | _ :: _, [], h => by simp [dEqL] at h
  | a :: r, b :: s, h => by
    simp only [dEqL, Bool.and_eq_true] at h
    rw [dEq_of h.1, dEqL_of h.2]
end
def visB (names : List (Str × NameKind)) (x : Str) : Bool := match names.lookup x with
  | some .local => true | some .cell => true | some .free => true | _ => false
def locB (names : List (Str × NameKind)) (x : Str) : Bool := match names.lookup x with
  | some .local => true | some .cell => true | _ => false
def glB (names : List (Str × NameKind)) (x : Str) : Bool := decide (names.lookup x = some .globalImplicit)
def plainN (x : Str) : Bool := !(x == ("__debug__" : Str)) && !(x == ("__classdict__" : Str)) && !(x == ("__name__" : Str))
def conB : D → Const → Bool
  | .non, .none => true
  | .bl b, .bool c => b == c
  | .int i, .int j => i == j
  | .str x, .str y => decide (sOf x = y)
  | _, _ => false
def plainIxB : Expr → Bool
  | .Slice .. => false
  | _ => true
def nost : Expr → Bool
  | .Starred .. => false
  | _ => true
def basOk : Expr → Bool
  | .Call _ [] _ _ => false
  | _ => true
def biName : Bi → Str
  | .len => "len" | .int => "int" | .ord => "ord" | .list => "list" | .tuple => "tuple" | .sorted => "sorted" | .max => "max" | .min => "min" | .sum => "sum" | .any => "any" | .all => "all" | .repr => "repr" | .str => "str"
def mtOk : Mt → Bool
  | .join => true | .index => true | _ => false
/-- a block's names, within a def's -/
def relN (names sc : List (Str × NameKind)) : List (Str × NameKind) := names.map fun (n, k) => if (k == .free && sc.lookup n == some .cell) then (n, .cell) else (n, k)
def inner (sc : Scp) (scope : Scope) : Scp := { N := sc.N, names := relN scope.names sc.names, sto := fun x => scope.names.lookup x == some .cell || decide ((relN scope.names sc.names).lookup x = some .local), calm := sc.calm }
def scOf (sc : Scp) : Scope := { kind := .function, names := sc.names, isGenerator := false, isCoroutine := false }
def ownOf (sc : Scp) (js : List Nat) : List (Str × Nat) := js.map fun j => (sc.N.getD j Str.empty, j)
mutual
def chkT (sc : Scp) : T → Expr → Bool
  | .nm i, .Name x _ => decide (sc.N[i]? = some x) && locB sc.names x && sc.sto x
  | .tp ts, .Tuple es _ _ => sc.calm && chkTs sc ts es
  | _, _ => false
def chkTs (sc : Scp) : Ts → List Expr → Bool
  | .nil, [] => true
  | .cons t ts, e :: es => chkT sc t e && chkTs sc ts es
  | _, _ => false
end
section
variable (g : Glo)
mutual
def chkE : E → Scp → Expr → Bool
  | .var i, sc, .Name x _ => decide (sc.N[i]? = some x) && visB sc.names x && plainN x
  | .con d, _, .Constant k _ _ => conB d k
  | .glb y d, sc, .Name x _ => decide (x = y) && glB sc.names x && plainN x && (g.glb.any fun p => decide (p.1 = x) && dEq p.2 d)
  | .bin op a b, sc, .BinOp l o r _ => decide (op = o) && opOk op && chkE a sc l && chkE b sc r
  | .neg a, sc, .UnaryOp .USub x _ => chkE a sc x
  | .cmp op a b, sc, .Compare l [o] [r] _ => decide (op = o) && cmpOk op && !behindInMarks o r && chkE a sc l && chkE b sc r
  | .isn n a, sc, .Compare l [o] [.Constant .none _ _] _ => decide (o = if n then .IsNot else .Is) && chkE a sc l
  | .chn o p a b c, sc, .Compare l [o', p'] [m, r] _ => decide (o = o') && decide (p = p') && cmpOk o && cmpOk p && !behindInMarks o' m && !behindInMarks p' r && chkE a sc l && chkE b sc m && chkE c sc r
  | .and es, sc, .BoolOp .And xs _ => chkEs es sc xs && !xs.isEmpty
  | .or es, sc, .BoolOp .Or xs _ => chkEs es sc xs && !xs.isEmpty
  | .not a, sc, .UnaryOp .Not x _ => chkE a sc x
  | .ite c a b, sc, .IfExp t x y _ => chkE c sc t && chkE a sc x && chkE b sc y
  | .tup es, sc, .Tuple xs _ _ => chkEs es sc xs
  | .lst _ es, sc, .List xs _ => chkEs es sc xs
  | .cell es, sc, .List xs _ => chkEs es sc xs
  | .idx a i, sc, .Subscript x y _ => plainIxB y && chkE a sc x && chkE i sc y
  | .slc a lo hi, sc, .Subscript x (.Slice l h none _) _ => chkE a sc x && chkO lo sc l && chkO hi sc h
  | .rev a, sc, .Subscript x (.Slice none none (some (.UnaryOp .USub (.Constant (.int 1) _ _) _)) _) _ => chkE a sc x
  | .call f es, sc, .Call (.Name x _) xs [] _ => sc.calm && decide (g.fn[f]? = some x) && glB sc.names x && plainN x && chkEs es sc xs
  | .callD f es ds, sc, .Call (.Name x _) (y :: xs) [] _ => sc.calm && decide (g.fn[f]? = some x) && glB sc.names x && plainN x && chkEs es sc (y :: xs) && (g.dfl.any fun p => p.1 == f && dEqL p.2 ds)
  | .bi b a, sc, .Call (.Name x _) [y] [] _ => sc.calm && decide (x = biName b) && biOk b && decide (x ∈ g.blt) && glB sc.names x && chkE a sc y
  | .sset a, sc, .Call (.Name x _) [.Call (.Name y _) [z] [] _] [] _ => sc.calm && decide (x = ("sorted" : Str)) && decide (y = ("set" : Str)) && decide (x ∈ g.blt) && decide (y ∈ g.blt) && glB sc.names x && glB sc.names y && chkE a sc z
  | .isi a ty, sc, .Call (.Name x _) [y, .Name t _] [] _ => decide (x = ("isinstance" : Str)) && decide (t = Str.ofString ty) && isiOk ty && decide (x ∈ g.blt) && decide (t ∈ g.blt) && glB sc.names x && glB sc.names t && chkE a sc y
  | .met m a b, sc, .Call (.Attribute o name apos) [y] [] cpos => decide (name = mtName m) && mtOk m && (apos.endLine == cpos.line) && basOk o && chkE a sc o && chkE b sc y
  | .lrg tu a b, sc, .Call (.Name x _) [.Call (.Name y _) [p, q] [] _] [] _ => sc.calm && decide (x = if tu then "tuple" else "list") && decide (y = ("range" : Str)) && decide (x ∈ g.blt) && decide (y ∈ g.blt) && glB sc.names x && glB sc.names y && chkE a sc p && chkE b sc q
  | .lc _ t i c e, sc, .ListComp elt [⟨tg, iter, ifs, 0⟩] scope _ => sc.calm && blkC sc.N (scOf sc) scope (ownOf sc t.own) && chkT (inner sc scope) t tg && chkI i sc tg iter && chkC c (inner sc scope) ifs && chkE e (inner sc scope) elt
  | .lrg1 tu a, sc, .Call (.Name x _) [.Call (.Name y _) [p] [] _] [] _ => sc.calm && decide (x = if tu then "tuple" else "list") && decide (y = ("range" : Str)) && decide (x ∈ g.blt) && decide (y ∈ g.blt) && glB sc.names x && glB sc.names y && chkE a sc p
  | .lc2 _ t i c t1 i1 c1 e, sc, .ListComp elt [⟨tg, iter, ifs, 0⟩, ⟨tg1, iter1, ifs1, 0⟩] scope _ => sc.calm && blkC sc.N (scOf sc) scope (ownOf sc (t.own ++ t1.own)) && chkT (inner sc scope) t tg && chkT (inner sc scope) t1 tg1 && chkI i sc tg iter && chkC c (inner sc scope) ifs && chkI i1 (inner sc scope) tg1 iter1 && chkC c1 (inner sc scope) ifs1 && chkE e (inner sc scope) elt
  | .ssc t i c t1 i1 c1 e, sc, .Call (.Name x _) [.SetComp elt [⟨tg, iter, ifs, 0⟩, ⟨tg1, iter1, ifs1, 0⟩] scope _] [] _ => sc.calm && decide (x = ("sorted" : Str)) && decide (x ∈ g.blt) && glB sc.names x && blkC sc.N (scOf sc) scope (ownOf sc (t.own ++ t1.own)) && chkT (inner sc scope) t tg && chkT (inner sc scope) t1 tg1 && chkI i sc tg iter && chkC c (inner sc scope) ifs && chkI i1 (inner sc scope) tg1 iter1 && chkC c1 (inner sc scope) ifs1 && chkE e (inner sc scope) elt
  | .tups xs, sc, .Tuple es _ _ => chkX xs sc es
  | .lsts xs, sc, .List es _ => chkX xs sc es
  | _, _, _ => false
def chkX : Xs → Scp → List Expr → Bool
  | .nil, _, [] => true
  | .cons a r, sc, x :: xs => chkE a sc x && chkX r sc xs
  | .star a r, sc, .Starred x _ :: xs => chkE a sc x && chkX r sc xs
  | _, _, _ => false
def chkEs : Es → Scp → List Expr → Bool
  | .nil, _, [] => true
  | .cons a r, sc, x :: xs => chkE a sc x && chkEs r sc xs
  | _, _, _ => false
def chkO : Es → Scp → Option Expr → Bool
  | .nil, _, none => true
  | .cons a .nil, sc, some x => chkE a sc x
  | _, _, _ => false
def chkC : Es → Scp → List Expr → Bool
  | .nil, _, [] => true
  | .cons a .nil, sc, [x] => chkE a sc x
  | _, _, _ => false
def chkI : I → Scp → Expr → Expr → Bool
  | .e a, sc, _, x => chkE a sc x && (match x with | .Set .. => false | _ => true)
  | .rng1 a, sc, _, .Call (.Name y _) [p] [] _ => decide (y = ("range" : Str)) && decide (y ∈ g.blt) && glB sc.names y && chkE a sc p
  | .rng a b, sc, _, .Call (.Name y _) [p, q] [] _ => decide (y = ("range" : Str)) && decide (y ∈ g.blt) && glB sc.names y && chkE a sc p && chkE b sc q
  | .enum a, sc, .Tuple _ _ _, .Call (.Name y _) [p] [] _ => decide (y = ("enumerate" : Str)) && decide (y ∈ g.blt) && glB sc.names y && chkE a sc p
  | .enumS a k, sc, .Tuple _ _ _, .Call (.Name y _) [p, q] [] _ => decide (y = ("enumerate" : Str)) && decide (y ∈ g.blt) && glB sc.names y && chkE a sc p && chkE k sc q
  | .zip es, sc, .Tuple _ _ _, .Call (.Name y _) [p, q] [] _ => decide (y = ("zip" : Str)) && decide (y ∈ g.blt) && glB sc.names y && chkEs es sc [p, q]
  | _, _, _, _ => false
end
end
/-- assignment: a comprehension whose value goes to a name of its own line is not carried by the plain rule -/
def notComp : Expr → Bool
  | .ListComp .. => false | .SetComp .. => false | .DictComp .. => false | _ => true
end Ev

namespace Ev
open PySem PySem.Spec PyProof.Rows L2
/-! ### targets -/
section
variable {K : PySem.W.Frag} {G G' : Gh} {H H' H0 : Hp} {O O' : Sto} {σ σ' : St} {env env' : List Sl}
/-- one name's slot takes a thing -/
theorem EnvW.put {φ : Nat → List Addr} (w : EnvW K H0 G H σ env φ) {i : Nat} (hi : i < env.length) {s : Sl} {v : V} {f : List Addr} (h : SlOk K G H s (some (some v)) f) (nd : f.Nodup)
    (ap : ∀ j, j ≠ i → ∀ a ∈ f, a ∉ φ j) (nw : ∀ a ∈ f, H0 a = none ∧ G.F a = none ∧ a ∉ G.A ∧ H a ≠ none) : EnvW K H0 G H (σ.set i (some v)) (env.set i s) (fun j => if j = i then f else φ j) where
  len := by rw [List.length_set, List.length_set]; exact w.len
  nd := fun j => by
    show (if j = i then f else φ j).Nodup
    split
    · exact nd
    · exact w.nd j
  apart := fun j k a h1 h2 => by
    have h1 : a ∈ (if j = i then f else φ j) := h1
    have h2 : a ∈ (if k = i then f else φ k) := h2
    split at h1 <;> split at h2
    · omega
    · rename_i e1 e2; exact absurd h2 (ap k e2 a h1)
    · rename_i e1 e2; exact absurd h1 (ap j e1 a h2)
    · exact w.apart j k a h1 h2
  new := fun j a h => by
    have h : a ∈ (if j = i then f else φ j) := h
    split at h
    · exact nw a h
    · exact w.new j a h
  at' := fun j s' h => by
    show SlOk K G H s' ((σ.set i (some v))[j]?) (if j = i then f else φ j)
    by_cases e : j = i
    · subst e
      rw [List.getElem?_set_self hi] at h
      cases h
      rw [if_pos rfl, List.getElem?_set_self (by rw [w.len]; exact hi)]
      exact SlOk.mk h
    · rw [List.getElem?_set_ne (Ne.symm e)] at h
      rw [if_neg e, List.getElem?_set_ne (Ne.symm e)]
      exact w.at' j s' h
where SlOk.mk {s : Sl} {o : Option (Option V)} {f : List Addr} (h : SlOk K G H s o f) : SlOk K G H s o f := h
theorem EnvOk.put (w : EnvOk K H0 G H σ env) {i : Nat} (hi : i < env.length) {d : D} {v : V} (h : Den K G d v) : EnvOk K H0 G H (σ.set i (some v)) (env.set i (.va d)) := by
  obtain ⟨φ, w⟩ := w
  exact ⟨_, w.put hi (s := .va d) (f := []) ⟨rfl, v, rfl, h⟩ List.nodup_nil (fun _ _ _ h => by cases h) (fun _ h => by cases h)⟩
/-- σ' is σ but for the names js -/
def But (js : List Nat) (σ σ' : St) : Prop := σ'.length = σ.length ∧ ∀ j, j ∉ js → σ'[j]? = σ[j]?
theorem But.refl (js : List Nat) (σ : St) : But js σ σ := ⟨rfl, fun _ _ => rfl⟩
theorem But.trans {js ks : List Nat} {σ1 σ2 σ3 : St} (a : But js σ1 σ2) (b : But ks σ2 σ3) : But (js ++ ks) σ1 σ3 := ⟨b.1.trans a.1, fun j h => by
  rw [b.2 j fun z => h (List.mem_append_right _ z), a.2 j fun z => h (List.mem_append_left _ z)]⟩
theorem But.set (i : Nat) (σ : St) (v : Option V) : But [i] σ (σ.set i v) := ⟨List.length_set, fun j h => List.getElem?_set_ne (fun e => h (by simp [e]))⟩
theorem wipe_get (σ : St) (j : Nat) : ∀ vs : List Nat, (wipe σ vs)[j]? = if j ∈ vs then (σ[j]?).map (fun _ => none) else σ[j]?
  | [] => by simp [wipe]
  | k :: vs => by
    unfold wipe
    by_cases e : k = j
    · subst e
      rw [if_pos List.mem_cons_self]
      by_cases hk : k < σ.length
      · rw [List.getElem?_set_self (by rw [wipe_length]; exact hk), List.getElem?_eq_getElem hk]; rfl
      · rw [List.getElem?_eq_none (by rw [List.length_set, wipe_length]; omega), List.getElem?_eq_none (by omega)]; rfl
    · rw [List.getElem?_set_ne e, wipe_get σ j vs]
      have : (j ∈ k :: vs) ↔ j ∈ vs := by simp [Ne.symm e]
      simp only [this]
theorem But.wipe {js : List Nat} {σ σ' : St} (b : But js σ σ') : L2.wipe σ' js = L2.wipe σ js := by
  apply List.ext_getElem?
  intro j
  rw [wipe_get, wipe_get]
  by_cases h : j ∈ js
  · rw [if_pos h, if_pos h]
    by_cases hl : j < σ.length
    · rw [List.getElem?_eq_getElem hl, List.getElem?_eq_getElem (by rw [b.1]; exact hl)]; rfl
    · rw [List.getElem?_eq_none (show σ'.length ≤ j by rw [b.1]; omega), List.getElem?_eq_none (show σ.length ≤ j by omega)]
  · rw [if_neg h, if_neg h, b.2 j h]
theorem wipeE_get (env : List Sl) (j : Nat) : ∀ vs : List Nat, (wipeE env vs)[j]? = if j ∈ vs then (env[j]?).map (fun _ => .un) else env[j]?
  | [] => by simp [wipeE]
  | k :: vs => by
    unfold wipeE
    have len : ∀ ws : List Nat, (wipeE env ws).length = env.length := fun ws => by
      induction ws with
      | nil => rfl
      | cons w ws ih => unfold wipeE; rw [List.length_set, ih]
    by_cases e : k = j
    · subst e
      rw [if_pos List.mem_cons_self]
      by_cases hk : k < env.length
      · rw [List.getElem?_set_self (by rw [len]; exact hk), List.getElem?_eq_getElem hk]; rfl
      · rw [List.getElem?_eq_none (by rw [List.length_set, len]; omega), List.getElem?_eq_none (by omega)]; rfl
    · rw [List.getElem?_set_ne e, wipeE_get env j vs]
      have : (j ∈ k :: vs) ↔ j ∈ vs := by simp [Ne.symm e]
      simp only [this]
theorem wipeE_length (env : List Sl) : ∀ ws : List Nat, (wipeE env ws).length = env.length
  | [] => rfl
  | w :: ws => by unfold wipeE; rw [List.length_set, wipeE_length env ws]
theorem EnvOk.wipe (w : EnvOk K H0 G H σ env) (js : List Nat) : EnvOk K H0 G H (L2.wipe σ js) (wipeE env js) := by
  obtain ⟨φ, w⟩ := w
  refine ⟨fun j => if j ∈ js then [] else φ j, ⟨by rw [wipe_length, wipeE_length]; exact w.len, fun j => ?_, fun j k a h1 h2 => ?_, fun j a h => ?_, fun j s h => ?_⟩⟩
  · show (if j ∈ js then [] else φ j).Nodup
    split
    · exact List.nodup_nil
    · exact w.nd j
  · have h1 : a ∈ (if j ∈ js then [] else φ j) := h1
    have h2 : a ∈ (if k ∈ js then [] else φ k) := h2
    split at h1
    · cases h1
    · split at h2
      · cases h2
      · exact w.apart j k a h1 h2
  · have h : a ∈ (if j ∈ js then [] else φ j) := h
    split at h
    · cases h
    · exact w.new j a h
  · show SlOk K G H s _ (if j ∈ js then [] else φ j)
    rw [wipeE_get] at h
    rw [wipe_get]
    by_cases e : j ∈ js
    · rw [if_pos e] at h ⊢
      rw [if_pos e]
      cases q : env[j]? with
      | none => rw [q] at h; cases h
      | some u => rw [q] at h; cases h; exact rfl
    · rw [if_neg e] at h ⊢
      rw [if_neg e]
      exact w.at' j s h
theorem asg_len : ∀ {t : T} {d : D} {env env' : List Sl}, asg t d env = some env' → env'.length = env.length := by
  intro t d env env' h
  exact (T.rec (motive_1 := fun t => ∀ d env env', asg t d env = some env' → env'.length = env.length) (motive_2 := fun ts => ∀ ds env env', asgs ts ds env = some env' → env'.length = env.length)
    (fun i d env env' h => by
      simp only [asg] at h
      split at h
      · cases h; exact List.length_set
      · cases h)
    (fun ts ih d env env' h => by
      cases d <;> simp only [asg] at h <;> first | (cases h; done) | exact ih _ _ _ h)
    (fun ds env env' h => by
      cases ds with
      | nil => simp only [asgs] at h; cases h; rfl
      | cons _ _ => simp [asgs] at h)
    (fun t ts ih1 ih2 ds env env' h => by
      cases ds with
      | nil => simp [asgs] at h
      | cons d ds =>
        simp only [asgs] at h
        obtain ⟨e1, h1, h2⟩ := Option.bind_eq_some_iff.mp h
        rw [ih2 ds e1 env' h2, ih1 d env e1 h1]) t) d env env' h
end
def GG (X : Cx) (t : T) (g : TG) : Prop := ∀ (G : Gh) (H : Hp) (H0 : Hp) (σ : St) (env env' : List Sl) (d : D) (v : V), Sub G.F H → EnvOk X.K H0 G H σ env → Den X.K G d v → asg t d env = some env' →
  ∀ Q : St → Hp → Prop, (∀ σ', EnvOk X.K H0 G H σ' env' → But t.own σ σ' → Q σ' H) → g v σ H Q
def GGs (X : Cx) (ts : Ts) (g : TGs) : Prop := ∀ (G : Gh) (H : Hp) (H0 : Hp) (σ : St) (env env' : List Sl) (ds : List D) (vs : List V), Sub G.F H → EnvOk X.K H0 G H σ env → DenL X.K G ds vs → asgs ts ds env = some env' →
  ∀ Q : St → Hp → Prop, (∀ σ', EnvOk X.K H0 G H σ' env' → But ts.own σ σ' → Q σ' H) → g vs σ H Q
/-- what a context must bear for a target to be stored -/
structure TOk (sc : Scp) (X : Cx) : Prop where
  N : X.N = sc.N
  nd : sc.N.Nodup
  names : X.env.scope.names = sc.names
  sto : ∀ x, sc.sto x = true → X.fn x = true ∨ X.env.scope.names.lookup x = some .local
  calm : sc.calm = true → X.calm = true
theorem locB_of {names : List (Str × NameKind)} {x : Str} (h : locB names x = true) : names.lookup x = some .local ∨ names.lookup x = some .cell := by
  unfold locB at h
  split at h <;> first | exact .inl (by assumption) | exact .inr (by assumption) | cases h
theorem nost_targets {sc : Scp} : ∀ (t : T) (e : Expr), chkT sc t e = true → nost e = true := by
  intro t e h
  cases t <;> cases e <;> first | rfl | (simp [chkT] at h)
theorem each_plain {sc : Scp} {env : PySem.Env} : ∀ (ts : Ts) (es : List Expr), chkTs sc ts es = true → (assignEach es env).findIdx? (·.1) = none ∧ (assignEach es env).length = es.length := by
  intro ts
  induction ts using Ts.rec (motive_1 := fun _ => True) with
  | nm i => trivial
  | tp ts _ => trivial
  | nil =>
    intro es h
    cases es with
    | nil => exact ⟨rfl, rfl⟩
    | cons _ _ => simp [chkTs] at h
  | cons t ts _ ih =>
    intro es h
    cases es with
    | nil => simp [chkTs] at h
    | cons e es =>
      simp only [chkTs, Bool.and_eq_true] at h
      obtain ⟨h1, h2⟩ := ih es h.2
      have ns := nost_targets t e h.1
      have q : assignEach (e :: es) env = (false, assign e env) :: assignEach es env := by
        cases e <;> first | rfl | (cases ns; done)
      rw [q]
      refine ⟨?_, by simp [h2]⟩
      rw [List.findIdx?_cons]
      simp [h1]
theorem each_cons {sc : Scp} {env : PySem.Env} {t : T} {e : Expr} {es : List Expr} (h : chkT sc t e = true) : (assignEach (e :: es) env).map (·.2) = assign e env :: (assignEach es env).map (·.2) := by
  have ns := nost_targets t e h
  cases e <;> first | rfl | (cases ns; done)
mutual
theorem sT {sc : Scp} {X : Cx} (ok : TOk sc X) : ∀ (t : T) (e : Expr), chkT sc t e = true → ∃ g, PG X e g ∧ GG X t g
  | .nm i, e, h => by
    cases e with
    | Name x pos =>
      simp only [chkT, Bool.and_eq_true, decide_eq_true_eq] at h
      obtain ⟨⟨h1, h2⟩, h3⟩ := h
      have hN : X.N[i]? = some x := by rw [ok.N]; exact h1
      have hl : L2.Loc X.env.scope x := by
        have := locB_of h2
        unfold L2.Loc
        rw [ok.names]; exact this
      refine ⟨gName i, pg_name (by rw [ok.N]; exact ok.nd) hN hl (ok.sto x h3), fun G H H0 σ env env' d v _ w dn ha Q q => ?_⟩
      simp only [asg] at ha
      split at ha
      · rename_i hi
        cases ha
        exact q _ (w.put hi dn) (But.set i σ _)
      · cases ha
    | _ => simp [chkT] at h
  | .tp ts, e, h => by
    cases e with
    | Tuple es k pos =>
      simp only [chkT, Bool.and_eq_true] at h
      obtain ⟨g, pg, gg⟩ := sTs ok ts es h.2
      obtain ⟨p1, p2⟩ := each_plain (env := X.env) ts es h.2
      refine ⟨_, pg_tup (n := es.length) (ok.calm h.1) pg p2 p1, fun G H H0 σ env env' d v s w dn ha Q q => ?_⟩
      cases d with
      | tup ds =>
        simp only [asg] at ha
        unfold Den at dn
        obtain ⟨a, vs, rfl, hq, t⟩ := dn
        refine ⟨a, vs, rfl, s.sqT hq, ?_, gg G H H0 σ env env' ds vs s w t ha Q q⟩
        rw [t.len]
        exact asgs_len ts es ds env env' h.2 ha
      | _ => simp [asg] at ha
    | _ => simp [chkT] at h
theorem sTs {sc : Scp} {X : Cx} (ok : TOk sc X) : ∀ (ts : Ts) (es : List Expr), chkTs sc ts es = true → ∃ g, PGs X es g ∧ GGs X ts g
  | .nil, es, h => by
    cases es with
    | nil =>
      refine ⟨gNil, pgs_nil, fun G H H0 σ env env' ds vs _ w dn ha Q q => ?_⟩
      cases ds with
      | nil =>
        simp only [asgs] at ha
        cases ha
        rw [dn.inv0]
        exact ⟨rfl, q σ w (But.refl _ σ)⟩
      | cons _ _ => simp [asgs] at ha
    | cons _ _ => simp [chkTs] at h
  | .cons t ts, es, h => by
    cases es with
    | nil => simp [chkTs] at h
    | cons e es =>
      simp only [chkTs, Bool.and_eq_true] at h
      obtain ⟨g, pg, gg⟩ := sT ok t e h.1
      obtain ⟨gs, pgs, ggs⟩ := sTs ok ts es h.2
      refine ⟨_, pgs_cons pg pgs (each_cons h.1), fun G H H0 σ env env' ds vs s w dn ha Q q => ?_⟩
      cases ds with
      | nil => simp [asgs] at ha
      | cons d ds =>
        simp only [asgs] at ha
        obtain ⟨e1, h1, h2⟩ := Option.bind_eq_some_iff.mp ha
        obtain ⟨v, r, rfl, p, t'⟩ := dn.inv
        refine ⟨v, r, rfl, gg G H H0 σ env e1 d v s w p h1 _ fun σ1 w1 b1 => ?_⟩
        exact ggs G H H0 σ1 e1 env' ds r s w1 t' h2 Q fun σ2 w2 b2 => q σ2 w2 (b1.trans b2)
theorem asgs_len {sc : Scp} : ∀ (ts : Ts) (es : List Expr) (ds : List D) (env env' : List Sl), chkTs sc ts es = true → asgs ts ds env = some env' → ds.length = es.length
  | .nil, es, ds, env, env', h, ha => by
    cases es with
    | nil => cases ds with
      | nil => rfl
      | cons _ _ => simp [asgs] at ha
    | cons _ _ => simp [chkTs] at h
  | .cons t ts, es, ds, env, env', h, ha => by
    cases es with
    | nil => simp [chkTs] at h
    | cons e es =>
      cases ds with
      | nil => simp [asgs] at ha
      | cons d ds =>
        simp only [chkTs, Bool.and_eq_true] at h
        simp only [asgs] at ha
        obtain ⟨e1, h1, h2⟩ := Option.bind_eq_some_iff.mp ha
        rw [List.length_cons, List.length_cons, asgs_len ts es ds e1 env' h.2 h2]
end
end Ev

namespace Ev
open PySem PySem.Spec PyProof.Rows L2
abbrev relB : Rel Bool Bool := fun b _ _ b' fp => b' = b ∧ fp = []
section
variable {gt : Gt} {X : Cx} {W : WX} {K : PySem.W.Frag} {G G' G1 G2 : Gh} {H H' H1 H2 H0 : Hp} {O O' O2 : Sto} {σ : St} {env : List Sl}
theorem Goal.want {Wk : XK} {z : XD} {P : VK → Prop} (e : Ext G G2 H H2) (h : ∀ Q, Wanted K z G2 H2 O2 Q → P Q) : Goal gt K Wk (KRep K) G H (.ok z O2) P := fun Q k => h Q fun u G' H' fp x o r f => k u G' H' fp (e.trans x) o r (Fresh.pre e f)
theorem Fresh.nA {fp : List Addr} (f : Fresh H G fp) : ∀ a ∈ fp, a ∉ G.A := fun a h => (f.new a h).2.2
/-- one thing, read -/
theorem EG.one {ta : TE} {ma : List Sl → Sto → R XD} (ha : EG gt X W (KRep X.K) ta ma) {f : D → Sto → Option XD} {r : V → Hp → VK → Prop}
    (hr : ∀ (G : Gh) (H : Hp) (O : Sto) (d : D) (v : V) (z : XD), GOk X.K G H O → Rd1 X.K G H d v → f d O = some z → ∀ Q, Wanted X.K z G H O Q → r v H Q) :
    EG gt X W (KRep X.K) (fun σ H Q => ta σ H fun x H1 => r x H1 Q) (fun env O => (ma env O).bind fun x O1 => .ofO (x.rdd.bind fun d => f d O1) O1) := by
  refine EG.bind (U := fun σ v H1 Q => r v H1 Q) (f := fun env x O1 => .ofO (x.rdd.bind fun d => f d O1) O1) ha ?_
  intro σ env H0 x O1 v G H G1 H1 fp w e o rl fr
  refine Goal.ofO fun z hz => ?_
  obtain ⟨d, hd, hz⟩ := Option.bind_eq_some_iff.mp hz
  exact Goal.want e fun Q Wq => hr G1 H1 O1 d v z o (rl.rd fr.nA hd) hz Q Wq
/-- two things, read -/
theorem EG.two {ta tb : TE} {ma mb : List Sl → Sto → R XD} (ha : EG gt X W (KRep X.K) ta ma) (hb : EG gt X W (KRep X.K) tb mb) {f : D → D → Sto → Option XD} {r : R2}
    (hr : ∀ (G : Gh) (H : Hp) (O : Sto) (d e : D) (v w : V) (z : XD), GOk X.K G H O → Rd1 X.K G H d v → Rd1 X.K G H e w → f d e O = some z → ∀ Q, Wanted X.K z G H O Q → r v w H Q) :
    EG gt X W (KRep X.K) (tOp r ta tb) (fun env O => (ma env O).bind fun x O1 => (mb env O1).bind fun y O2 => .ofO (x.rdd.bind fun d => y.rdd.bind fun e => f d e O2) O2) := by
  refine EG.bind2 (U := fun σ v w H2 Q => r v w H2 Q) (f := fun env x y O2 => .ofO (x.rdd.bind fun d => y.rdd.bind fun e => f d e O2) O2) ha hb ?_
  intro σ env H0 x y O2 v w G H G1 H1 G2 H2 fp fp' wo e1 e2 o rl fr rl' fr'
  refine Goal.ofO fun z hz => ?_
  obtain ⟨d, hd, hz⟩ := Option.bind_eq_some_iff.mp hz
  obtain ⟨e, he, hz⟩ := Option.bind_eq_some_iff.mp hz
  have fr2 : Fresh H G2 fp := fr.ext e2 (rl.trk)
  exact Goal.want (e1.trans e2) fun Q Wq => hr G2 H2 O2 d e v w z o ((rl.ext e2 fr.nA).rd fr2.nA hd) (rl'.rd fr'.nA he) hz Q Wq
/-- a truth value, for a test -/
theorem EG.test {t : TE} {m : List Sl → Sto → R XD} (h : EG gt X W (KRep X.K) t m) : EG gt X W relB (tB t) (fun env O => (m env O).bind fun x O1 => .ofO x.bl O1) := by
  refine EG.bind (U := fun σ v H1 Q => ∃ c, v = .bl c ∧ Q c H1) (f := fun env x O1 => .ofO x.bl O1) h ?_
  intro σ env H0 x O1 v G H G1 H1 fp w e o rl fr
  refine Goal.ofO fun b hb => ?_
  have hx : x = .fz (.bl b) := by
    unfold XD.bl at hb
    split at hb
    · cases hb; rfl
    · cases hb
  subst hx
  have hv : v = .bl b := by
    have := rl.2
    unfold Den at this; exact this
  subst hv
  exact fun Q k => ⟨b, rfl, k b G1 H1 [] e o ⟨rfl, rfl⟩ Fresh.nil⟩
/-- a test's answer as a value -/
theorem Wanted.bl {b : Bool} {Q : VK} (g : GOk K G H O) (w : Wanted K (.fz (.bl b)) G H O Q) : Q (.bl b) H := w.flat g rfl (by unfold Den; rfl)
end
/-- what is shown of an expression: as a value, as a test -/
structure SE (gt : Gt) (n : Nat) (X : Cx) (W : WX) (c : E) (e : Expr) : Prop where
  v : ∃ t, PE X e t ∧ EG gt X W (KRep X.K) t (ev (run gt.C n) c)
  t : ∃ t, PT X e t ∧ EG gt X W relB t (evT (run gt.C n) c)
section
variable {gt : Gt} {n : Nat} {g : Glo} {sc : Scp} {X : Cx} {W : WX}
theorem SE.of {c : E} {e : Expr} {t : TE} (h : PE X e t) (k : EG gt X W (KRep X.K) t (ev (run gt.C n) c)) (he : ∀ whole, isTrue e X.env whole = (do let v ← whole; standAt e.pos; holding [v] (truthy v))) : SE gt n X W c e :=
  ⟨⟨t, h, k⟩, ⟨_, pt_val h he, k.test⟩⟩
theorem visB_of {names : List (Str × NameKind)} {x : Str} (h : visB names x = true) : names.lookup x = some .local ∨ names.lookup x = some .cell ∨ names.lookup x = some .free := by
  unfold visB at h
  split at h <;> first | exact .inl (by assumption) | exact .inr (.inl (by assumption)) | exact .inr (.inr (by assumption)) | cases h
theorem plainN_of {x : Str} (h : plainN x = true) : (x == ("__debug__" : Str)) = false ∧ (x == ("__classdict__" : Str)) = false ∧ x ≠ "__name__" := by
  unfold plainN at h
  simp only [Bool.and_eq_true, Bool.not_eq_true'] at h
  exact ⟨h.1.1, h.1.2, fun z => by have := h.2; rw [z] at this; simp at this⟩
variable (ok : XOk gt n g.fn g.blt g.glb g.dfl sc X W)
include ok
theorem s_var {i : Nat} {x : Str} {pos : Pos} (h1 : sc.N[i]? = some x) (h2 : visB sc.names x = true) (h3 : plainN x = true) : SE gt n X W (.var i) (.Name x pos) := by
  have hv : Vis X.env.scope x := by
    have := visB_of h2
    unfold Vis
    rw [ok.names]; exact this
  obtain ⟨d1, d2, _⟩ := plainN_of h3
  refine SE.of (pe_var (by rw [ok.N]; exact h1) hv d1 d2) (fun G H O σ env H0 o w => ?_) (fun _ => rfl)
  show Goal gt X.K _ (KRep X.K) G H (.ofO (look env i) O) _
  refine Goal.ofO fun z hz => ?_
  obtain ⟨φ, w⟩ := w
  cases q : env[i]? with
  | none => unfold look at hz; rw [q] at hz; cases hz
  | some s =>
    have sl := w.at' i s q
    unfold look at hz
    rw [q] at hz
    cases s with
    | un => cases hz
    | va d =>
      cases hz
      obtain ⟨_, v, e, t⟩ := sl
      exact Goal.want (Ext.refl G H) fun Q Wq => ⟨v, e, Wq.flat o rfl t⟩
    | ow m d =>
      cases hz
      obtain ⟨v, e, t⟩ := sl
      exact Goal.want (Ext.refl G H) fun Q Wq => ⟨v, e, Wq v G H [] (Ext.refl G H) o ⟨rfl, φ i, t, fun a ha => (w.new i a ha).2.2.1⟩ Fresh.nil⟩
theorem s_con {d : D} {k : Const} {m : Nat} {pos : Pos} (h : conB d k = true) : SE gt n X W (.con d) (.Constant k m pos) := by
  have go : ∀ v : V, (∀ G, Den X.K G d v) → EG gt X W (KRep X.K) (tC v) (ev (run gt.C n) (.con d)) := fun v t G H O σ env H0 o w => Goal.want (Ext.refl G H) fun Q Wq => Wq.flat o rfl (t G)
  cases d <;> cases k <;> first
    | (cases h; done)
    | skip
  · exact SE.of pe_non (go .non fun G => by unfold Den; rfl) (fun _ => rfl)
  · rename_i b c
    have e : b = c := by simpa [conB] using h
    subst e
    exact SE.of pe_bl (go (.bl b) fun G => by unfold Den; rfl) (fun _ => rfl)
  · rename_i b c
    have e : b = c := by simpa [conB] using h
    subst e
    exact SE.of pe_int (go (.int b) fun G => by unfold Den; rfl) (fun _ => rfl)
  · rename_i b c
    have e : sOf b = c := by simpa [conB] using h
    subst e
    exact SE.of pe_str (go (.str (sOf b)) fun G => by unfold Den; rfl) (fun _ => rfl)
theorem glB_of {x : Str} (h : glB sc.names x = true) : Gl X x := by
  unfold glB at h
  have h := of_decide_eq_true h
  show X.env.scope.names.lookup x = _
  rw [ok.names]; exact h
theorem s_glb {y : Str} {d : D} {pos : Pos} (h1 : glB sc.names y = true) (h2 : plainN y = true) (h3 : (g.glb.any fun p => decide (p.1 = y) && dEq p.2 d) = true) : SE gt n X W (.glb y d) (.Name y pos) := by
  obtain ⟨p, hp, h⟩ := List.any_eq_true.mp h3
  simp only [Bool.and_eq_true, decide_eq_true_eq] at h
  obtain ⟨e1, e2⟩ := h
  have e2 := dEq_of e2
  obtain ⟨u, v, hm, r, t⟩ := ok.md.glb p hp
  rw [e1] at hm
  rw [e2] at t
  refine SE.of (pe_glob (glB_of ok h1) hm r (plainN_of h2).1) (fun G H O σ env H0 o w => ?_) (fun _ => rfl)
  exact Goal.want (Ext.refl G H) fun Q Wq => Wq.flat o rfl (Den.mono ⟨fun a o h => (by cases h), fun i a h => by simp at h⟩ d v t)
omit ok
theorem s_bin {op : Operator} {a b : E} {l r : Expr} {pos : Pos} (ho : opOk op = true) (ha : SE gt n X W a l) (hb : SE gt n X W b r) : SE gt n X W (.bin op a b) (.BinOp l op r pos) := by
  obtain ⟨ta, pa, ea⟩ := ha.v
  obtain ⟨tb, pb, eb⟩ := hb.v
  obtain ⟨rr, hr, k⟩ := op2_all (X := X) ho
  have := EG.two ea eb (f := fun d e _ => binD op d e) (r := rr) k
  refine SE.of (pe_op hr pa pb) ?_ (fun _ => rfl)
  simpa only [ev] using this
theorem s_neg {a : E} {x : Expr} {pos : Pos} (ha : SE gt n X W a x) : SE gt n X W (.neg a) (.UnaryOp .USub x pos) := by
  obtain ⟨ta, pa, ea⟩ := ha.v
  refine SE.of (pe_un un_neg pa) ?_ (fun _ => rfl)
  have := EG.bind (U := fun σ v H1 Q => rU (fun i => .int (-i)) v H1 Q) (f := fun env x O1 => R.ofO (negX x) O1) (rel' := KRep X.K) ea ?_
  · simp only [ev]; exact this
  · intro σ env H0 x O1 v G H G1 H1 fp w e o rl fr
    refine Goal.ofO fun z hz => ?_
    unfold negX at hz
    split at hz
    · rename_i i
      cases hz
      have hv : v = .int i := by have := rl.2; unfold Den at this; exact this
      exact Goal.want e fun Q Wq => ⟨i, hv, Wq.flat o rfl (by unfold Den; rfl)⟩
    · cases hz
include ok in
theorem s_cmp {op : CmpOp} {a b : E} {l r : Expr} {pos : Pos} (ho : cmpOk op = true) (hm : behindInMarks op r = false) (ha : SE gt n X W a l) (hb : SE gt n X W b r) : SE gt n X W (.cmp op a b) (.Compare l [op] [r] pos) := by
  obtain ⟨ta, pa, ea⟩ := ha.v
  obtain ⟨tb, pb, eb⟩ := hb.v
  obtain ⟨rr, hr, k⟩ := cmp2_all (X := X) ok.un ho
  have e : EG gt X W (KRep X.K) (tOp rr ta tb) (ev (run gt.C n) (.cmp op a b)) := by
    have := EG.two ea eb (f := fun d e _ => (cmpD op d e).map fun b => .fz (.bl b)) (r := rr) fun G H O d e v w z o hd he hz Q Wq => by
      obtain ⟨c, hc, rfl⟩ := Option.map_eq_some_iff.mp hz
      exact k G H O d e v w c o hd he hc Q (Wq.bl o)
    simpa only [ev] using this
  exact ⟨⟨_, pe_cmpR hr pa pb hm, e⟩, ⟨_, pt_cmpR hr pa pb hm, e.test⟩⟩
theorem s_isn {b : Bool} {a : E} {l : Expr} {m : Nat} {pos pos' : Pos} (ha : SE gt n X W a l) : SE gt n X W (.isn b a) (.Compare l [if b then .IsNot else .Is] [.Constant .none m pos'] pos) := by
  obtain ⟨ta, pa, ea⟩ := ha.v
  have rep : ∀ {x : XD} {G : Gh} {H : Hp} {v : V} {fp : List Addr}, KRep X.K x G H v fp → decide (v = .non) = (match x.any with | .non => true | _ => false) := fun {x G H v fp} h => by
    have go : ∀ (k : Nat) (d : D) (f : List Addr), Own X.K G H k d v f → decide (v = .non) = (match d with | .non => true | _ => false) := fun k d f o => by
      cases k with
      | zero =>
        have t := o.2
        cases d <;> (unfold Den at t) <;> first
          | (subst t; rfl)
          | (obtain ⟨_, _, rfl, _⟩ := t; rfl)
          | (obtain ⟨_, rfl, _⟩ := t; rfl)
          | exact t.elim
      | succ k =>
        cases d with
        | lst ds => obtain ⟨_, _, _, rfl, _⟩ := (show ∃ _ _ _, _ from by unfold Own at o; exact o); rfl
        | _ => exact (show False from o).elim
    cases x with
    | fz d => exact go 0 d fp h
    | ow k d => exact go k d fp h
    | br k d => obtain ⟨_, f, o, _⟩ := h; exact go k d f o
  have fin : ∀ (r : V → Hp → VK → Prop) (p : Bool → Bool), (∀ v H Q, r v H Q = Q (.bl (p (decide (v = .non)))) H) → (∀ d : D, p (match d with | .non => true | _ => false) = (match d with | .non => !b | _ => b)) →
      EG gt X W (KRep X.K) (fun σ H Q => ta σ H fun x H1 => r x H1 Q) (ev (run gt.C n) (.isn b a)) := fun r p hr hp => by
    have := EG.bind (U := fun σ v H1 Q => r v H1 Q) (f := fun env x O1 => R.ok (.fz (.bl (isnX b x))) O1) (rel' := KRep X.K) ea ?_
    · simpa only [ev] using this
    · intro σ env H0 x O1 v G H G1 H1 fp w e o rl fr
      refine Goal.want e fun Q Wq => ?_
      rw [hr, rep rl, hp]
      exact Wq.bl (b := isnX b x) o
  cases b with
  | false =>
    have e := fin (fun x H1 Q => Q (.bl (decide (x = .non))) H1) id (fun _ _ _ => rfl) (fun d => by cases d <;> rfl)
    exact ⟨⟨_, pe_cmp (pc_isN pa) rfl, e⟩, ⟨_, pt_cmp (pc_isN pa) rfl, e.test⟩⟩
  | true =>
    have e := fin (fun x H1 Q => Q (.bl (!decide (x = .non))) H1) (!·) (fun _ _ _ => rfl) (fun d => by cases d <;> rfl)
    exact ⟨⟨_, pe_cmp (pc_notN pa) rfl, e⟩, ⟨_, pt_cmp (pc_notN pa) rfl, e.test⟩⟩
end
end Ev

namespace Ev
open PySem PySem.Spec PyProof.Rows L2
/-! ### lists of things -/
def KReps (K : PySem.W.Frag) : List XD → Gh → Hp → List V → List Addr → Prop
  | [], _, _, vs, fp => vs = [] ∧ fp = []
  | x :: xs, G, H, vs, fp => ∃ v r f f', vs = v :: r ∧ fp = f ++ f' ∧ KRep K x G H v f ∧ KReps K xs G H r f'
section
variable {K : PySem.W.Frag} {G G' G1 G2 : Gh} {H H' H1 H2 H0 : Hp} {O O' : Sto}
theorem KReps.len : ∀ {xs : List XD} {vs : List V} {fp : List Addr}, KReps K xs G H vs fp → vs.length = xs.length
  | [], _, _, x => by rw [x.1]; rfl
  | x :: xs, _, _, h => by
    obtain ⟨v, r, f, f', rfl, rfl, _, q⟩ := h
    simp [KReps.len q]
theorem KReps.frz (s : Sub G.F H) (fq : List Addr) : ∀ {xs : List XD} {vs : List V} {fp : List Addr} {ds : List D}, KReps K xs G H vs fp → (∀ a ∈ fp, a ∈ fq) → fzL xs = some ds → DenL K (G.fr H fq) ds vs
  | [], _, _, ds, x, _, e => by
    simp only [fzL, Option.some.injEq] at e
    subst e
    rw [x.1]; exact .nil
  | x :: xs, _, _, ds, h, hq, e => by
    obtain ⟨v, r, f, f', rfl, rfl, p, q⟩ := h
    simp only [fzL] at e
    obtain ⟨d, hd, e⟩ := Option.bind_eq_some_iff.mp e
    obtain ⟨ds', he, rfl⟩ := Option.map_eq_some_iff.mp e
    refine .cons ?_ (KReps.frz s fq q (fun a h => hq a (List.mem_append_right _ h)) he)
    cases x with
    | fz d' => cases hd; exact Den.mono (Gh.fr_le s fq) d v p.2
    | ow n d' => cases hd; exact Own.frz s fq n d v f (fun a h => hq a (List.mem_append_left _ h)) p
    | br n d' => cases hd
theorem KReps.rd : ∀ {xs : List XD} {vs : List V} {fp : List Addr} {ds : List D}, KReps K xs G H vs fp → (∀ a ∈ fp, a ∉ G.A) → rdL xs = some ds → RdL K G H ds vs
  | [], _, _, ds, x, _, e => by
    simp only [rdL, Option.some.injEq] at e
    subst e
    rw [x.1]; exact rfl
  | x :: xs, _, _, ds, h, hq, e => by
    obtain ⟨v, r, f, f', rfl, rfl, p, q⟩ := h
    simp only [rdL] at e
    obtain ⟨d, hd, e⟩ := Option.bind_eq_some_iff.mp e
    obtain ⟨ds', he, rfl⟩ := Option.map_eq_some_iff.mp e
    exact ⟨v, r, rfl, p.rd (fun a h => hq a (List.mem_append_left _ h)) hd, KReps.rd q (fun a h => hq a (List.mem_append_right _ h)) he⟩
theorem KReps.kids {n : Nat} : ∀ {xs : List XD} {vs : List V} {fp : List Addr} {ds : List D}, KReps K xs G H vs fp → kidL (n + 1) xs = some ds → ∃ fs, fs.flatten = fp ∧ Own3 (Own K G H (n + 1)) ds vs fs
  | [], _, _, ds, x, e => by
    simp only [kidL, Option.some.injEq] at e
    subst e
    rw [x.1, x.2]; exact ⟨[], rfl, by unfold Own3; exact ⟨rfl, rfl⟩⟩
  | x :: xs, _, _, ds, h, e => by
    obtain ⟨v, r, f, f', rfl, rfl, p, q⟩ := h
    simp only [kidL] at e
    obtain ⟨d, hd, e⟩ := Option.bind_eq_some_iff.mp e
    obtain ⟨ds', he, rfl⟩ := Option.map_eq_some_iff.mp e
    obtain ⟨fs, e1, o⟩ := KReps.kids q he
    cases x with
    | ow m d' =>
      simp only [XD.kid] at hd
      split at hd
      · rename_i hm
        cases hd
        subst hm
        exact ⟨f :: fs, by rw [List.flatten_cons, e1], by unfold Own3; exact ⟨v, r, f, fs, rfl, rfl, p, o⟩⟩
      · cases hd
    | fz _ => simp [XD.kid] at hd
    | br _ _ => simp [XD.kid] at hd
theorem kidL_zero : ∀ xs : List XD, kidL 0 xs = fzL xs
  | [] => rfl
  | x :: xs => by simp only [kidL, fzL, XD.kid, kidL_zero xs]
/-- the children of a list of one's own, made ready -/
theorem KReps.made {n : Nat} {xs : List XD} {vs : List V} {fp : List Addr} {ds : List D} (e : Ext G G1 H H1) (o : GOk K G1 H1 O) (h : KReps K xs G1 H1 vs fp) (fr : Fresh H G1 fp) (k : kidL n xs = some ds) :
    ∃ G2 fs, Ext G G2 H H1 ∧ GOk K G2 H1 O ∧ Own3 (Own K G2 H1 n) ds vs fs ∧ Fresh H G2 fs.flatten := by
  cases n with
  | zero =>
    rw [kidL_zero] at k
    obtain ⟨fs, h3, e3⟩ := Own3.of_den (H := H1) (KReps.frz o.sub fp h (fun _ h => h) k)
    exact ⟨G1.fr H1 fp, fs, e.ofFr o.sub fr, o.ofFr fr, h3, by rw [e3]; exact Fresh.nil⟩
  | succ n =>
    obtain ⟨fs, e1, o3⟩ := h.kids k
    exact ⟨G1, fs, e, o, o3, by rw [e1]; exact fr⟩
theorem Own3.keep {n : Nat} (l : Le G G') : ∀ {ds : List D} {vs : List V} {fs : List (List Addr)}, (∀ a ∈ fs.flatten, H' a = H a) → Own3 (Own K G H n) ds vs fs → Own3 (Own K G' H' n) ds vs fs := fun {ds vs fs} hk o =>
  o.mono fun d v f hf => Own.keep l n d v f fun a ha => hk a (List.mem_flatten.mpr ⟨f, hf, ha⟩)
/-- a new list of one's own, to a depth -/
theorem Wanted.own {n : Nat} {z : XD} {Q : VK} (e : Ext G G2 H H1) (w : ∀ u G' H' fp, Ext G G' H H' → GOk K G' H' O → KRep K z G' H' u fp → Fresh H G' fp → Q u H') (o : GOk K G2 H1 O) {ds : List D} {vs : List V} {fs : List (List Addr)} (hz : z = .ow (n + 1) (.lst ds))
    (h : Own3 (Own K G2 H1 n) ds vs fs) (fr : Fresh H G2 fs.flatten) {p : Addr} (hp : H1 p = none) : Q (.ref p) (upd H1 p (.lst vs)) := by
  subst hz
  have trk : ∀ a ∈ fs.flatten, H1 a ≠ none := Own3.trk (P := Own K G2 H1 n) (fun d v f a o ha => Own.trk n d v f o a ha) h
  have np : p ∉ fs.flatten := fun z => trk p z hp
  have fp : G2.F p = none := by
    cases q : G2.F p with
    | none => rfl
    | some u => rw [o.sub p u q] at hp; cases hp
  have nA : p ∉ G2.A := fun ha => by
    obtain ⟨i, hi⟩ := List.getElem?_of_mem ha
    have hlt : i < O.length := by rw [← o.len]; exact (List.getElem?_eq_some_iff.mp hi).1
    cases q : O[i] with
    | cell ds =>
      obtain ⟨b, vs, h1, h2, _⟩ := o.obs i ds (by rw [List.getElem?_eq_getElem hlt, q])
      rw [hi] at h1; cases h1
      rw [hp] at h2; cases h2
  have x : Ext G2 G2 H1 (upd H1 p (.lst vs)) := ⟨Sub.refl _, fun _ _ n => n, ⟨[], by simp, by simp⟩, fun a u h _ => by rw [upd_ne (ne_of_none h hp)]; exact h, fun a h => by
    by_cases z : a = p
    · rw [z, upd_same]; simp
    · rw [upd_ne z]; exact h⟩
  have Hp' : H p = none := Classical.byContradiction fun z => e.tr p z hp
  refine w _ G2 _ (p :: fs.flatten) (e.trans x) ⟨fun a u h => ?_, o.len, fun i ds e => ?_, o.nd, o.nf⟩ ?_ ⟨List.nodup_cons.mpr ⟨np, fr.nd⟩, fun a h => ?_⟩
  · rw [upd_ne (ne_of_none (o.sub a u h) hp)]; exact o.sub a u h
  · obtain ⟨a, vs, h1, h2, h3⟩ := o.obs i ds e
    exact ⟨a, vs, h1, by rw [upd_ne (ne_of_none h2 hp)]; exact h2, h3⟩
  · show Own K G2 _ (n + 1) (.lst ds) (.ref p) _
    unfold Own
    exact ⟨p, vs, fs, rfl, upd_same, rfl, h.keep (Le.refl _) fun a ha => upd_ne (fun z => np (z ▸ ha))⟩
  · rcases List.mem_cons.mp h with h | h
    · rw [h]; exact ⟨Hp', fp, nA⟩
    · exact fr.new a h
theorem Own3.len {P : D → V → List Addr → Prop} : ∀ {ds : List D} {vs : List V} {fs : List (List Addr)}, Own3 P ds vs fs → vs.length = ds.length
  | [], _, _, x => by unfold Own3 at x; rw [x.1]; rfl
  | d :: ds, _, _, x => by
    unfold Own3 at x
    obtain ⟨v, r, f, g, rfl, rfl, _, q⟩ := x
    simp [Own3.len q]
end
/-- what is shown of a row of expressions -/
def SA (gt : Gt) (n : Nat) (X : Cx) (W : WX) (es : Es) (xs : List Expr) : Prop := (∃ t, PA X xs t ∧ EG gt X W (KReps X.K) t (evs (run gt.C n) es)) ∧ ∀ e ∈ xs, nost e = true
section
variable {gt : Gt} {n : Nat} {g : Glo} {sc : Scp} {X : Cx} {W : WX}
theorem star_cons {e : Expr} {es : List Expr} {env : PySem.Env} (h : nost e = true) : starEach (e :: es) env = (false, eval e env) :: starEach es env := by
  cases e <;> first | rfl | (cases h; done)
theorem star_none {env : PySem.Env} : ∀ {es : List Expr}, (∀ e ∈ es, nost e = true) → ∀ x ∈ starEach es env, x.1 = false
  | [], _, x, h => by
    have h : x ∈ ([] : List (Bool × Sem Value)) := h
    cases h
  | e :: es, hn, x, h => by
    rw [star_cons (hn e List.mem_cons_self)] at h
    rcases List.mem_cons.mp h with h | h
    · rw [h]
    · exact star_none (fun e' h' => hn e' (List.mem_cons_of_mem _ h')) x h
theorem back_none {env : PySem.Env} {es : List Expr} {pos : Pos} (h : ∀ e ∈ es, nost e = true) : (backTo pos (starEach es env)).any (·.1) = false := by
  unfold backTo
  rw [List.any_map, List.any_eq_false]
  intro x hx
  have := star_none (env := env) h x hx
  show ¬ (x.1 = true)
  rw [this]; simp
theorem SA.nil : SA gt n X W .nil [] := ⟨⟨_, pa_nil, fun G H O σ env H0 o w => by
  show Goal gt X.K _ (KReps X.K) G H (.ok [] O) _
  exact fun Q k => k [] G H [] (Ext.refl G H) o ⟨rfl, rfl⟩ Fresh.nil⟩, fun e h => by cases h⟩
theorem SA.cons {c : E} {cs : Es} {e : Expr} {es : List Expr} (hn : nost e = true) (h : SE gt n X W c e) (k : SA gt n X W cs es) : SA gt n X W (.cons c cs) (e :: es) := by
  obtain ⟨ta, pa, ea⟩ := h.v
  obtain ⟨⟨tb, pb, eb⟩, hs⟩ := k
  refine ⟨⟨_, pa_cons pa pb (star_cons hn), ?_⟩, fun x hx => ?_⟩
  · have := EG.bind2 (U := fun σ v w H2 (Q : List V → Hp → Prop) => Q (v :: w) H2) (f := fun env x xs O2 => R.ok (x :: xs) O2) (rel'' := KReps X.K) ea eb ?_
    · (simp only [evs]; exact this)
    · intro σ env H0 x xs O2 v w G H G1 H1 G2 H2 fp fp' wo e1 e2 o rl fr rl' fr'
      have fr2 : Fresh H G2 fp := fr.ext e2 rl.trk
      refine fun Q q => q (v :: w) G2 H2 (fp ++ fp') (e1.trans e2) o ⟨v, w, fp, fp', rfl, rfl, rl.ext e2 fr.nA, rl'⟩ ⟨List.nodup_append.mpr ⟨fr.nd, fr'.nd, fun a ha b hb => ?_⟩, fun a ha => ?_⟩
      · intro z
        subst z
        exact rl.trk a ha (fr'.new a hb).1
      · rcases List.mem_append.mp ha with ha | ha
        · exact fr2.new a ha
        · exact (Fresh.pre e1 fr').new a ha
  · rcases List.mem_cons.mp hx with rfl | hx
    · exact hn
    · exact hs x hx
theorem s_tup {es : Es} {xs : List Expr} {k : Nat} {pos : Pos} (h : SA gt n X W es xs) : SE gt n X W (.tup es) (.Tuple xs k pos) := by
  obtain ⟨⟨t, pa, ea⟩, _⟩ := h
  refine SE.of (pe_tup pa) ?_ (fun _ => rfl)
  have := EG.bind (U := fun σ vs H1 (Q : VK) => vs.length ≤ sizeLine ∧ ∀ p, H1 p = none → Q (.ref p) (upd H1 p (.tup vs))) (f := fun env xs O1 => R.ofO ((fzL xs).bind fun ds => if ds.length ≤ sizeLine then some (XD.fz (.tup ds)) else none) O1) (rel' := KRep X.K) ea ?_
  · (simp only [ev]; exact this)
  · intro σ env H0 xs O1 vs G H G1 H1 fp w e o rl fr
    refine Goal.ofO fun z hz => ?_
    obtain ⟨ds, hd, hz⟩ := Option.bind_eq_some_iff.mp hz
    split at hz
    · rename_i hl
      simp only [Option.some.injEq] at hz
      have t := KReps.frz o.sub fp rl (fun _ h => h) hd
      exact Goal.want (e.ofFr o.sub fr) fun Q Wq => ⟨by rw [t.len]; exact hl, fun p hp => Wq.tup (o.ofFr fr) hz.symm t hp⟩
    · cases hz
theorem s_lst {m : Nat} {es : Es} {xs : List Expr} {pos : Pos} (h : SA gt n X W es xs) : SE gt n X W (.lst m es) (.List xs pos) := by
  obtain ⟨⟨t, pa, ea⟩, _⟩ := h
  refine SE.of (pe_lst pa) ?_ (fun _ => rfl)
  have := EG.bind (U := fun σ vs H1 (Q : VK) => vs.length ≤ sizeLine ∧ ∀ p, H1 p = none → Q (.ref p) (upd H1 p (.lst vs))) (f := fun env xs O1 => R.ofO ((kidL m xs).bind fun ds => if ds.length ≤ sizeLine then some (XD.ow (m + 1) (.lst ds)) else none) O1) (rel' := KRep X.K) ea ?_
  · (simp only [ev]; exact this)
  · intro σ env H0 xs O1 vs G H G1 H1 fp w e o rl fr
    refine Goal.ofO fun z hz => ?_
    obtain ⟨ds, hd, hz⟩ := Option.bind_eq_some_iff.mp hz
    split at hz
    · rename_i hl
      simp only [Option.some.injEq] at hz
      obtain ⟨G2, fs, e2, o2, o3, fr2⟩ := rl.made e o fr hd
      exact fun Q q => ⟨by rw [o3.len]; exact hl, fun p hp => Wanted.own e2 q o2 hz.symm o3 fr2 hp⟩
    · cases hz
/-- a thing of the store is made -/
theorem s_cell {es : Es} {xs : List Expr} {pos : Pos} (h : SA gt n X W es xs) : SE gt n X W (.cell es) (.List xs pos) := by
  obtain ⟨⟨t, pa, ea⟩, _⟩ := h
  refine SE.of (pe_lst pa) ?_ (fun _ => rfl)
  have := EG.bind (U := fun σ vs H1 (Q : VK) => vs.length ≤ sizeLine ∧ ∀ p, H1 p = none → Q (.ref p) (upd H1 p (.lst vs))) (f := fun env xs O1 => (R.ofO ((fzL xs).bind fun ds => if ds.length ≤ sizeLine then some ds else none) O1).bind fun ds O1 => R.ok (XD.fz (.obj O1.length)) (O1 ++ [.cell ds])) (rel' := KRep X.K) ea ?_
  · (simp only [ev]; exact this)
  · intro σ env H0 xs O1 vs G H G1 H1 fp w e o rl fr
    cases hq : ((fzL xs).bind fun ds => if ds.length ≤ sizeLine then some ds else none) with
    | none => exact trivial
    | some ds =>
      obtain ⟨ds', hd, hz⟩ := Option.bind_eq_some_iff.mp hq
      split at hz
      · rename_i hl
        simp only [Option.some.injEq] at hz
        subst hz
        have t := KReps.frz o.sub fp rl (fun _ h => h) hd
        have e' := e.ofFr o.sub fr
        have o' := o.ofFr fr
        refine fun Q q => ⟨by rw [t.len]; exact hl, fun p hp => ?_⟩
        have hF : (G1.fr H1 fp).F p = none := by
          cases q : (G1.fr H1 fp).F p with
          | none => rfl
          | some u => rw [o'.sub p u q] at hp; cases hp
        have nA : p ∉ (G1.fr H1 fp).A := fun ha => by
          obtain ⟨i, hi⟩ := List.getElem?_of_mem ha
          have hlt : i < O1.length := by rw [← o'.len]; exact (List.getElem?_eq_some_iff.mp hi).1
          cases q : O1[i] with
          | cell ds =>
            obtain ⟨b, vs, h1, h2, _⟩ := o'.obs i ds (by rw [List.getElem?_eq_getElem hlt, q])
            rw [hi] at h1; cases h1
            rw [hp] at h2; cases h2
        have L : Le (G1.fr H1 fp) ⟨(G1.fr H1 fp).F, (G1.fr H1 fp).A ++ [p]⟩ := ⟨Sub.refl _, fun i a h => by rw [List.getElem?_append_left (List.getElem?_eq_some_iff.mp h).1]; exact h⟩
        have Hp' : H p = none := Classical.byContradiction fun z => e.tr p z hp
        refine q (.ref p) ⟨(G1.fr H1 fp).F, (G1.fr H1 fp).A ++ [p]⟩ _ [] (e'.trans ⟨Sub.refl _, fun _ _ n => n, ⟨[p], rfl, fun a h => by rw [List.mem_singleton.mp h]; exact hp⟩, fun a u h _ => by rw [upd_ne (ne_of_none h hp)]; exact h, fun a h => ?_⟩)
          ⟨fun a u h => ?_, ?_, fun i es he => ?_, ?_, fun a h => ?_⟩ ⟨rfl, ?_⟩ Fresh.nil
        · by_cases z : a = p
          · rw [z, upd_same]; simp
          · rw [upd_ne z]; exact h
        · rw [upd_ne (ne_of_none (o'.sub a u h) hp)]; exact o'.sub a u h
        · show ((G1.fr H1 fp).A ++ [p]).length = (O1 ++ [Ob.cell ds']).length
          rw [List.length_append, List.length_append, o'.len]; rfl
        · by_cases hi : i < O1.length
          · have he : (O1 ++ [Ob.cell ds'])[i]? = some (Ob.cell es) := he
            rw [List.getElem?_append_left hi] at he
            obtain ⟨a, vs', h1, h2, h3⟩ := o'.obs i es he
            exact ⟨a, vs', L.a i a h1, by rw [upd_ne (ne_of_none h2 hp)]; exact h2, DenL.mono L es vs' h3⟩
          · have he : (O1 ++ [Ob.cell ds'])[i]? = some (Ob.cell es) := he
            rw [List.getElem?_append_right (by omega)] at he
            have hi0 : i - O1.length = 0 := by
              cases hk : i - O1.length with
              | zero => rfl
              | succ m => rw [hk] at he; simp at he
            rw [hi0] at he
            simp only [List.getElem?_cons_zero, Option.some.injEq, Ob.cell.injEq] at he
            subst he
            refine ⟨p, vs, ?_, upd_same, DenL.mono L _ vs t⟩
            show ((G1.fr H1 fp).A ++ [p])[i]? = some p
            rw [List.getElem?_append_right (by rw [o'.len]; omega), o'.len, hi0]; rfl
        · show ((G1.fr H1 fp).A ++ [p]).Nodup
          exact List.nodup_append.mpr ⟨o'.nd, by simp, fun a ha b hb z => nA (by rw [← List.mem_singleton.mp hb, ← z]; exact ha)⟩
        · rcases List.mem_append.mp h with h | h
          · exact o'.nf a h
          · rw [List.mem_singleton.mp h]; exact hF
        · unfold Den
          refine ⟨p, rfl, ?_⟩
          show ((G1.fr H1 fp).A ++ [p])[O1.length]? = some p
          rw [List.getElem?_append_right (by rw [o'.len]; exact Nat.le_refl _), o'.len]; simp
      · cases hz
theorem s_idx {a i : E} {x y : Expr} {pos : Pos} (hp : plainIxB y = true) (ha : SE gt n X W a x) (hb : SE gt n X W i y) : SE gt n X W (.idx a i) (.Subscript x y pos) := by
  obtain ⟨ta, pa, ea⟩ := ha.v
  obtain ⟨tb, pb, eb⟩ := hb.v
  obtain ⟨rr, hr, k⟩ := ix2 (X := X)
  have pl : PlainIx y := fun _ _ => by cases y <;> first | rfl | (cases hp; done)
  refine SE.of (pe_ix hr pa pb pl) ?_ (fun _ => rfl)
  have := EG.two ea eb (f := fun d e O => (idxD d e O).map .fz) (r := rr) fun G H O d e v w z o hd he hz Q Wq => by
    obtain ⟨c, hc, rfl⟩ := Option.map_eq_some_iff.mp hz
    exact k G H O d e v w c o hd he hc Q fun u tu => Wq.flat o rfl tu
  (simp only [ev]; exact this)
/-! displays with stars -/
def SX (gt : Gt) (n : Nat) (X : Cx) (W : WX) (cs : Xs) (es : List Expr) : Prop := ∃ t, PA X es t ∧ EG gt X W (KReps X.K) t (evX (run gt.C n) cs)
theorem SX.nil : SX gt n X W .nil [] := ⟨_, pa_nil, fun G H O σ env H0 o w => by
  show Goal gt X.K _ (KReps X.K) G H (.ok [] O) _
  exact fun Q k => k [] G H [] (Ext.refl G H) o ⟨rfl, rfl⟩ Fresh.nil⟩
theorem SX.cons {c : E} {cs : Xs} {e : Expr} {es : List Expr} (hn : nost e = true) (h : SE gt n X W c e) (k : SX gt n X W cs es) : SX gt n X W (.cons c cs) (e :: es) := by
  obtain ⟨ta, pa, ea⟩ := h.v
  obtain ⟨tb, pb, eb⟩ := k
  refine ⟨_, pa_cons pa pb (star_cons hn), ?_⟩
  have := EG.bind2 (U := fun σ v w H2 (Q : List V → Hp → Prop) => Q (v :: w) H2) (f := fun env x xs O2 => R.ok (x :: xs) O2) (rel'' := KReps X.K) ea eb ?_
  · (simp only [evX]; exact this)
  · intro σ env H0 x xs O2 v w G H G1 H1 G2 H2 fp fp' wo e1 e2 o rl fr rl' fr'
    have fr2 : Fresh H G2 fp := fr.ext e2 rl.trk
    refine fun Q q => q (v :: w) G2 H2 (fp ++ fp') (e1.trans e2) o ⟨v, w, fp, fp', rfl, rfl, rl.ext e2 fr.nA, rl'⟩ ⟨List.nodup_append.mpr ⟨fr.nd, fr'.nd, fun a ha b hb => ?_⟩, fun a ha => ?_⟩
    · intro z
      subst z
      exact rl.trk a ha (fr'.new a hb).1
    · rcases List.mem_append.mp ha with ha | ha
      · exact fr2.new a ha
      · exact (Fresh.pre e1 fr').new a ha
theorem KReps.fzs {K : PySem.W.Frag} {G : Gh} {H : Hp} {xs : List XD} {vs : List V} {fp : List Addr} (k : KReps K xs G H vs fp) : ∀ {ds : List D} {us : List V}, DenL K G ds us → KReps K (ds.map .fz ++ xs) G H (us ++ vs) fp
  | [], us, h => by rw [h.inv0]; exact k
  | d :: ds, us, h => by
    obtain ⟨v, r, rfl, p, q⟩ := h.inv
    exact ⟨v, r ++ vs, [], fp, rfl, rfl, ⟨rfl, p⟩, KReps.fzs k q⟩
theorem SX.star {c : E} {cs : Xs} {e : Expr} {es : List Expr} {p : Pos} (h : SE gt n X W c e) (k : SX gt n X W cs es) : SX gt n X W (.star c cs) (.Starred e p :: es) := by
  obtain ⟨ta, pa, ea⟩ := h.v
  obtain ⟨tb, pb, eb⟩ := k
  refine ⟨_, StX.pa_star pa pb, ?_⟩
  have e1 : EG gt X W (fun (ds : List D) (G : Gh) (_ : Hp) (us : List V) (fp : List Addr) => DenL X.K G ds us ∧ fp = []) (fun σ H (Q : List V → Hp → Prop) => ta σ H fun x H1 => ∃ p xs, x = V.ref p ∧ (SqT X.K H1 p xs ∨ SqL X.K H1 p xs) ∧ Q xs H1) (fun env O => (ev (run gt.C n) c env O).bind fun x O1 => R.ofO (x.rdd.bind itmD) O1) := by
    refine EG.bind (U := fun σ x H1 (Q : List V → Hp → Prop) => ∃ p xs, x = V.ref p ∧ (SqT X.K H1 p xs ∨ SqL X.K H1 p xs) ∧ Q xs H1) (f := fun env x O1 => R.ofO (x.rdd.bind itmD) O1) ea ?_
    intro σ env H0 x O1 v G H G1 H1 fp w e o rl fr
    refine Goal.ofO fun ds hz => ?_
    obtain ⟨d, hd, hz⟩ := Option.bind_eq_some_iff.mp hz
    have r1 := rl.rd fr.nA hd
    cases d with
    | lst es =>
      simp only [itmD, Option.some.injEq] at hz
      subst hz
      obtain ⟨a, us, rfl, ha, t⟩ := r1.lst o.sub
      exact fun Q q => ⟨a, us, rfl, .inr (.inl (.inl ha)), q us G1 H1 [] e o ⟨t, rfl⟩ Fresh.nil⟩
    | tup es =>
      simp only [itmD, Option.some.injEq] at hz
      subst hz
      obtain ⟨a, us, rfl, ha, t⟩ := r1.tup o.sub
      exact fun Q q => ⟨a, us, rfl, .inl ha, q us G1 H1 [] e o ⟨t, rfl⟩ Fresh.nil⟩
    | _ => cases hz
  have := EG.bind2 (U := fun σ v w H2 (Q : List V → Hp → Prop) => Q (v ++ w) H2) (f := fun env (ds : List D) xs O2 => R.ok (ds.map .fz ++ xs) O2) (rel'' := KReps X.K) e1 eb ?_
  · simp only [evX]
    exact this
  · intro σ env H0 ds xs O2 v w G H G1 H1 G2 H2 fp fp' wo e1 e2 o rl fr rl' fr'
    obtain ⟨t, rfl⟩ := rl
    exact fun Q q => q (v ++ w) G2 H2 fp' (e1.trans e2) o (rl'.fzs (DenL.mono e2.le ds v t)) (Fresh.pre e1 fr')
theorem s_tups {xs : Xs} {es : List Expr} {k : Nat} {pos : Pos} (h : SX gt n X W xs es) : SE gt n X W (.tups xs) (.Tuple es k pos) := by
  obtain ⟨t, pa, ea⟩ := h
  refine SE.of (pe_tup pa) ?_ (fun _ => rfl)
  have := EG.bind (U := fun σ vs H1 (Q : VK) => vs.length ≤ sizeLine ∧ ∀ p, H1 p = none → Q (.ref p) (upd H1 p (.tup vs))) (f := fun env xs O1 => R.ofO ((fzL xs).bind fun ds => if ds.length ≤ sizeLine then some (XD.fz (.tup ds)) else none) O1) (rel' := KRep X.K) ea ?_
  · (simp only [ev]; exact this)
  · intro σ env H0 xs O1 vs G H G1 H1 fp w e o rl fr
    refine Goal.ofO fun z hz => ?_
    obtain ⟨ds, hd, hz⟩ := Option.bind_eq_some_iff.mp hz
    split at hz
    · rename_i hl
      simp only [Option.some.injEq] at hz
      have t := KReps.frz o.sub fp rl (fun _ h => h) hd
      exact Goal.want (e.ofFr o.sub fr) fun Q Wq => ⟨by rw [t.len]; exact hl, fun p hp => Wq.tup (o.ofFr fr) hz.symm t hp⟩
    · cases hz
theorem s_lsts {xs : Xs} {es : List Expr} {pos : Pos} (h : SX gt n X W xs es) : SE gt n X W (.lsts xs) (.List es pos) := by
  obtain ⟨t, pa, ea⟩ := h
  refine SE.of (pe_lst pa) ?_ (fun _ => rfl)
  have := EG.bind (U := fun σ vs H1 (Q : VK) => vs.length ≤ sizeLine ∧ ∀ p, H1 p = none → Q (.ref p) (upd H1 p (.lst vs))) (f := fun env xs O1 => R.ofO ((kidL 0 xs).bind fun ds => if ds.length ≤ sizeLine then some (XD.ow (0 + 1) (.lst ds)) else none) O1) (rel' := KRep X.K) ea ?_
  · (simp only [ev]; exact this)
  · intro σ env H0 xs O1 vs G H G1 H1 fp w e o rl fr
    refine Goal.ofO fun z hz => ?_
    obtain ⟨ds, hd, hz⟩ := Option.bind_eq_some_iff.mp hz
    split at hz
    · rename_i hl
      simp only [Option.some.injEq] at hz
      obtain ⟨G2, fs, e2, o2, o3, fr2⟩ := rl.made e o fr hd
      exact fun Q q => ⟨by rw [o3.len]; exact hl, fun p hp => Wanted.own e2 q o2 hz.symm o3 fr2 hp⟩
    · cases hz
end
end Ev

namespace Ev
open PySem PySem.Spec PyProof.Rows L2
section
variable {X : Cx}
theorem pt_ifExp {c a b : Expr} {pos : Pos} {tc ta tb : TT} (hc : PT X c tc) (ha : PT X a ta) (hb : PT X b tb) : PT X (.IfExp c a b pos) (fun σ H Q => tc σ H fun k H1 => if k = true then ta σ H1 Q else tb σ H1 Q) := by
  refine ⟨fun pins s σ H Q I h => ?_⟩
  have e : ∀ w, PySem.isTrue (.IfExp c a b pos) X.env w = (do if ← PySem.isTrue c X.env (eval c X.env) then PySem.isTrue a X.env (eval a X.env) else PySem.isTrue b X.env (eval b X.env)) := fun w => by simp only [PySem.isTrue]
  rw [e]
  refine wpAny_bind (thn (hc.run pins s σ H _ I h) fun k s1 ⟨H1, I1, q1⟩ => ?_)
  cases k with
  | true => exact ha.run pins s1 σ H1 Q I1 q1
  | false => exact hb.run pins s1 σ H1 Q I1 q1
end
section
variable {gt : Gt} {n : Nat} {g : Glo} {sc : Scp} {X : Cx} {W : WX}
theorem R.bind_assoc {α β γ : Type} (r : R α) (f : α → Sto → R β) (k : β → Sto → R γ) : (r.bind f).bind k = r.bind fun a O => (f a O).bind k := by cases r <;> rfl
theorem R.ofO_bind {α β : Type} (o : Option α) (O : Sto) (k : α → Sto → R β) : (R.ofO o O).bind k = match o with | some a => k a O | none => .stk := by cases o <;> rfl
/-- a test, then one of two -/
theorem EG.ite {α β : Type} {rel : Rel α β} {tc : TT} {mc : List Sl → Sto → R Bool} {ta tb : St → Hp → (α → Hp → Prop) → Prop} {ma mb : List Sl → Sto → R β} (hc : EG gt X W relB tc mc) (ha : EG gt X W rel ta ma) (hb : EG gt X W rel tb mb) :
    EG gt X W rel (fun σ H Q => tc σ H fun k H1 => if k = true then ta σ H1 Q else tb σ H1 Q) (fun env O => (mc env O).bind fun t O1 => if t = true then ma env O1 else mb env O1) := by
  refine EG.bind (U := fun σ k H1 Q => if k = true then ta σ H1 Q else tb σ H1 Q) (f := fun env t O1 => if t = true then ma env O1 else mb env O1) hc ?_
  intro σ env H0 t O1 k G H G1 H1 fp w e o rl fr
  obtain ⟨rfl, rfl⟩ := rl
  cases k with
  | true => exact Goal.pre e (ha G1 H1 O1 σ env H0 o w)
  | false => exact Goal.pre e (hb G1 H1 O1 σ env H0 o w)
theorem s_ite {c a b : E} {ec ea eb : Expr} {pos : Pos} (hc : SE gt n X W c ec) (ha : SE gt n X W a ea) (hb : SE gt n X W b eb) : SE gt n X W (.ite c a b) (.IfExp ec ea eb pos) := by
  obtain ⟨tc, pc, kc⟩ := hc.t
  obtain ⟨ta, pa, ka⟩ := ha.v
  obtain ⟨tb, pb, kb⟩ := hb.v
  obtain ⟨ta', pa', ka'⟩ := ha.t
  obtain ⟨tb', pb', kb'⟩ := hb.t
  refine ⟨⟨_, pe_ifExp pc pa pb, ?_⟩, ⟨_, pt_ifExp pc pa' pb', ?_⟩⟩
  · have := EG.ite kc ka kb
    simp only [ev]
    exact this
  · have := EG.ite kc ka' kb'
    have e : evT (run gt.C n) (.ite c a b) = fun env O => (evT (run gt.C n) c env O).bind fun t O1 => if t = true then evT (run gt.C n) a env O1 else evT (run gt.C n) b env O1 := by
      funext env O
      unfold evT
      simp only [ev]
      rw [R.bind_assoc]
      congr 1
      funext t O1
      cases t <;> rfl
    rw [e]
    exact this
theorem s_not {a : E} {x : Expr} {pos : Pos} (ha : SE gt n X W a x) : SE gt n X W (.not a) (.UnaryOp .Not x pos) := by
  obtain ⟨ta, pa, ka⟩ := ha.v
  obtain ⟨tt, pt, kt⟩ := ha.t
  refine ⟨⟨_, pe_not pa, ?_⟩, ⟨_, pt_not pt, ?_⟩⟩
  · have := EG.bind (U := fun σ v H1 (Q : VK) => ∃ c, v = .bl c ∧ Q (.bl (!c)) H1) (f := fun env x O1 => R.ofO (x.bl.map fun b => XD.fz (.bl (!b))) O1) (rel' := KRep X.K) ka ?_
    · simp only [ev]; exact this
    · intro σ env H0 x O1 v G H G1 H1 fp w e o rl fr
      refine Goal.ofO fun z hz => ?_
      obtain ⟨b, hb, rfl⟩ := Option.map_eq_some_iff.mp hz
      have hx : x = .fz (.bl b) := by
        unfold XD.bl at hb
        split at hb
        · cases hb; rfl
        · cases hb
      subst hx
      have hv : v = .bl b := by have := rl.2; unfold Den at this; exact this
      exact Goal.want e fun Q Wq => ⟨b, hv, Wq.bl o⟩
  · have := EG.bind (U := fun σ v H1 (Q : Bool → Hp → Prop) => Q (!v) H1) (f := fun env b O1 => R.ok (!b) O1) (rel' := relB) kt ?_
    · have e : evT (run gt.C n) (.not a) = fun env O => (evT (run gt.C n) a env O).bind fun b O1 => R.ok (!b) O1 := by
        funext env O
        unfold evT
        simp only [ev]
        rw [R.bind_assoc, R.bind_assoc]
        congr 1
        funext x O1
        cases x.bl <;> rfl
      rw [e]
      exact this
    · intro σ env H0 b O1 v G H G1 H1 fp w e o rl fr
      obtain ⟨rfl, rfl⟩ := rl
      exact fun Q q => q (!v) G1 H1 [] e o ⟨rfl, rfl⟩ Fresh.nil
/-- a row of and, or -/
structure SB (gt : Gt) (n : Nat) (X : Cx) (W : WX) (op : BoolOp) (m : List Sl → Sto → R XD) (xs : List Expr) (pos : Pos) : Prop where
  v : ∃ t, PE X (.BoolOp op xs pos) t ∧ EG gt X W (KRep X.K) t m
  t : ∃ t, PW X (.BoolOp op xs pos) t ∧ EG gt X W relB t (fun env O => (m env O).bind fun x O1 => .ofO x.bl O1)
theorem sb_one {op : BoolOp} {a : E} {x : Expr} {pos : Pos} (h : SE gt n X W a x) : SB gt n X W op (ev (run gt.C n) a) [x] pos := by
  obtain ⟨ta, pa, ka⟩ := h.v
  obtain ⟨tt, pt, kt⟩ := h.t
  refine ⟨⟨ta, pe_one pa, ka⟩, ⟨tt, ?_, kt⟩⟩
  cases op with
  | And => exact pw_and1 pt
  | Or => exact pw_or1 pt
theorem sb_and {a b : E} {r : Es} {x y : Expr} {ys : List Expr} {pos : Pos} (h : SE gt n X W a x) (k : SB gt n X W .And (evA (run gt.C n) (.cons b r)) (y :: ys) pos) : SB gt n X W .And (evA (run gt.C n) (.cons a (.cons b r))) (x :: y :: ys) pos := by
  obtain ⟨ta, pa, ka⟩ := h.v
  obtain ⟨tt, pt, kt⟩ := h.t
  obtain ⟨tb, pb, kb⟩ := k.v
  obtain ⟨tu, pu, ku⟩ := k.t
  have no : EG gt X W (KRep X.K) (fun (_ : St) H (Q : VK) => Q (.bl false) H) (fun _ O => R.ok (XD.fz (.bl false)) O) := fun G H O σ env H0 o w => Goal.want (Ext.refl G H) fun Q Wq => Wq.bl o
  have noB : EG gt X W relB (fun (_ : St) H (Q : Bool → Hp → Prop) => Q false H) (fun _ O => R.ok false O) := fun G H O σ env H0 o w Q q => q false G H [] (Ext.refl G H) o ⟨rfl, rfl⟩ Fresh.nil
  refine ⟨⟨_, pe_and pa pb, ?_⟩, ⟨_, pw_and pt pu, ?_⟩⟩
  · have := EG.ite ka.test kb no
    simp only [evA]
    exact this
  · have := EG.ite kt ku noB
    have e : (fun env O => (evA (run gt.C n) (.cons a (.cons b r)) env O).bind fun x O1 => R.ofO x.bl O1) = fun env O => (evT (run gt.C n) a env O).bind fun t O1 => if t = true then (evA (run gt.C n) (.cons b r) env O1).bind fun x O1 => R.ofO x.bl O1 else R.ok false O1 := by
      funext env O
      unfold evT
      simp only [evA]
      rw [R.bind_assoc]
      congr 1
      funext t O1
      cases t <;> rfl
    rw [e]
    exact this
theorem sb_or {a b : E} {r : Es} {x y : Expr} {ys : List Expr} {pos : Pos} (h : SE gt n X W a x) (k : SB gt n X W .Or (evO (run gt.C n) (.cons b r)) (y :: ys) pos) : SB gt n X W .Or (evO (run gt.C n) (.cons a (.cons b r))) (x :: y :: ys) pos := by
  obtain ⟨ta, pa, ka⟩ := h.v
  obtain ⟨tt, pt, kt⟩ := h.t
  obtain ⟨tb, pb, kb⟩ := k.v
  obtain ⟨tu, pu, ku⟩ := k.t
  have yes : EG gt X W (KRep X.K) (fun (_ : St) H (Q : VK) => Q (.bl true) H) (fun _ O => R.ok (XD.fz (.bl true)) O) := fun G H O σ env H0 o w => Goal.want (Ext.refl G H) fun Q Wq => Wq.bl o
  have yesB : EG gt X W relB (fun (_ : St) H (Q : Bool → Hp → Prop) => Q true H) (fun _ O => R.ok true O) := fun G H O σ env H0 o w Q q => q true G H [] (Ext.refl G H) o ⟨rfl, rfl⟩ Fresh.nil
  refine ⟨⟨_, pe_or pa pb, ?_⟩, ⟨_, pw_or pt pu, ?_⟩⟩
  · have := EG.ite ka.test yes kb
    simp only [evO]
    exact this
  · have := EG.ite kt yesB ku
    have e : (fun env O => (evO (run gt.C n) (.cons a (.cons b r)) env O).bind fun x O1 => R.ofO x.bl O1) = fun env O => (evT (run gt.C n) a env O).bind fun t O1 => if t = true then R.ok true O1 else (evO (run gt.C n) (.cons b r) env O1).bind fun x O1 => R.ofO x.bl O1 := by
      funext env O
      unfold evT
      simp only [evO]
      rw [R.bind_assoc]
      congr 1
      funext t O1
      cases t <;> rfl
    rw [e]
    exact this
theorem s_chn {o p : CmpOp} {a b c : E} {l m r : Expr} {pos : Pos} (un : X.A.units + 200 < cLine) (ho : cmpOk o = true) (hp : cmpOk p = true) (hm : behindInMarks o m = false) (hr : behindInMarks p r = false)
    (ha : SE gt n X W a l) (hb : SE gt n X W b m) (hc : SE gt n X W c r) : SE gt n X W (.chn o p a b c) (.Compare l [o, p] [m, r] pos) := by
  obtain ⟨ta, pa, ka⟩ := ha.v
  obtain ⟨tb, pb, kb⟩ := hb.v
  obtain ⟨tc, pc, kc⟩ := hc.v
  obtain ⟨r1, h1, k1⟩ := cmp2_all (X := X) un ho
  obtain ⟨r2, h2, k2⟩ := cmp2_all (X := X) un hp
  have e : EG gt X W (KRep X.K) (tChain r1 r2 ta tb tc) (ev (run gt.C n) (.chn o p a b c)) := by
    have := EG.bind2 (U := fun σ x y H2 (Q : VK) => r1 x y H2 fun z H3 => ∃ k, z = .bl k ∧ (if k = true then tc σ H3 fun w' H4 => r2 y w' H4 Q else Q (.bl false) H3))
      (f := fun env x y O2 => (R.ofO (x.rdd.bind fun d => y.rdd.bind fun e => cmpD o d e) O2).bind fun t O2 =>
        if t = true then (ev (run gt.C n) c env O2).bind fun z O3 => R.ofO (y.rdd.bind fun d => z.rdd.bind fun e => (cmpD p d e).map fun b => XD.fz (.bl b)) O3 else R.ok (XD.fz (.bl false)) O2) (rel'' := KRep X.K) ka kb ?_
    · simp only [ev]; exact this
    · intro σ env H0 x y O2 v w G H G1 H1 G2 H2 fp fp' wo e1 e2 g2 rl fr rl' fr'
      have fr2 : Fresh H G2 fp := fr.ext e2 rl.trk
      have frY : Fresh H G2 fp' := Fresh.pre e1 fr'
      cases hq : (x.rdd.bind fun d => y.rdd.bind fun e => cmpD o d e) with
      | none => exact trivial
      | some t =>
        obtain ⟨d, hd, hq⟩ := Option.bind_eq_some_iff.mp hq
        obtain ⟨e, he, hq⟩ := Option.bind_eq_some_iff.mp hq
        have rx := (rl.ext e2 fr.nA).rd fr2.nA hd
        have ry := rl'.rd frY.nA he
        cases t with
        | false =>
          show Goal gt X.K _ (KRep X.K) G H (R.ok (XD.fz (.bl false)) O2) _
          exact Goal.want (e1.trans e2) fun Q Wq => k1 G2 H2 O2 d e v w false g2 rx ry hq _ ⟨false, rfl, by simpa using Wq.bl g2⟩
        | true =>
          show Goal gt X.K _ (KRep X.K) G H ((ev (run gt.C n) c env O2).bind fun z O3 => R.ofO (y.rdd.bind fun d => z.rdd.bind fun e => (cmpD p d e).map fun b => XD.fz (.bl b)) O3) _
          have go := Goal.bind (U := fun w' H4 (Q : VK) => r2 w w' H4 Q) (rel' := KRep X.K) (f := fun z O3 => R.ofO (y.rdd.bind fun d => z.rdd.bind fun e => (cmpD p d e).map fun b => XD.fz (.bl b)) O3) (e1.trans e2) (kc G2 H2 O2 σ env H0 g2 wo) ?_
          · cases hr : ((ev (run gt.C n) c env O2).bind fun z O3 => R.ofO (y.rdd.bind fun d => z.rdd.bind fun e => (cmpD p d e).map fun b => XD.fz (.bl b)) O3) with
            | stk => exact trivial
            | ok z O3 =>
              rw [hr] at go
              exact fun Q q => k1 G2 H2 O2 d e v w true g2 rx ry hq _ ⟨true, rfl, by simpa using go Q q⟩
            | exc z O3 =>
              rw [hr] at go
              exact fun Q q => k1 G2 H2 O2 d e v w true g2 rx ry hq _ ⟨true, rfl, by simpa using go Q q⟩
          · intro z O3 w' G3 H3 fp3 e3 g3 rl3 fr3
            refine Goal.ofO fun zz hz => ?_
            obtain ⟨d', hd', hz⟩ := Option.bind_eq_some_iff.mp hz
            obtain ⟨e', he', hz⟩ := Option.bind_eq_some_iff.mp hz
            obtain ⟨b', hb', rfl⟩ := Option.map_eq_some_iff.mp hz
            have frY3 : Fresh H G3 fp' := frY.ext e3 rl'.trk
            exact Goal.want ((e1.trans e2).trans e3) fun Q Wq => k2 G3 H3 O3 d' e' w w' b' g3 ((rl'.ext e3 frY.nA).rd frY3.nA hd') (rl3.rd fr3.nA he') hb' _ (Wq.bl g3)
  have lm : lastMarks [o, p] [m, r] = false := by
    show behindInMarks p r = false
    exact hr
  exact ⟨⟨_, pe_chain h1 h2 pa pb pc lm, e⟩, ⟨_, pt_chain h1 h2 pa pb pc lm, e.test⟩⟩
end
end Ev

/-! x[::-1] of a list or of a tuple -/
namespace Ev
open PySem PySem.Spec PyProof.Rows L2 HT
section
variable {prog : Program} {w : World} {A : Around} {E : Value → Shared → Prop} {s : Shared}
theorem sliceApplied_rev {sl : Addr} {vs : Value} {n : Nat} {Q : Int × Int × Nat → Shared → Prop} (hs : s.heap.IsSliceOf sl .none .none vs) (ps : IsPart vs (some (-1)))
    (h : Q ((n : Int) - 1, -1, n) s) : wpAny (model prog w) A (Builtin.Slice.sliceApplied (.ref sl) (pure (n : Int))) Q E s := by
  obtain ⟨os, hos, hcs, hds⟩ := id hs
  unfold Builtin.Slice.sliceApplied Builtin.Slice.sliceFields
  refine wpAny_bind (wpAny_bind (wpAny_field hos hds (x := .none) rfl (wpAny_bind (wpAny_field hos hds (x := .none) rfl (wpAny_bind (wpAny_field hos hds (x := vs) rfl (wpAny_pure ?_)))))))
  refine wpAny_bind (slicePart_ ps ?_)
  show wpAny _ _ (if ((-1 : Int) == 0) = true then _ else _) _ _ s
  rw [if_neg (by decide)]
  refine wpAny_bind (slicePart_ .none (wpAny_bind (slicePart_ .none (wpAny_bind (wpAny_pure ?_)))))
  show wpAny _ _ (match Builtin.Slice.sliceAdjust none none (-1) (n : Int) with | (lo, hi) => pure (lo, (-1 : Int), Builtin.Slice.slicePlaces lo hi (-1))) _ _ s
  have e1 : Builtin.Slice.sliceAdjust none none (-1) (n : Int) = ((n : Int) - 1, -1) := by
    simp [Builtin.Slice.sliceAdjust]
  have e2 : Builtin.Slice.slicePlaces ((n : Int) - 1) (-1) (-1) = n := by
    unfold Builtin.Slice.slicePlaces
    have h1 : ¬ ((-1 : Int) > 0) := by decide
    simp only [h1, if_false]
    split
    · have : ((n : Int) - 1 - -1 - -1 - 1) = (n : Int) := by omega
      simp <;> omega
    · omega
  rw [e1]
  show wpAny _ _ (pure ((n : Int) - 1, (-1 : Int), Builtin.Slice.slicePlaces ((n : Int) - 1) (-1) (-1))) _ _ s
  rw [e2]
  exact wpAny_pure h
theorem fm_congr {α β : Type} {f g : α → Option β} : ∀ {l : List α}, (∀ a ∈ l, f a = g a) → l.filterMap f = l.filterMap g
  | [], _ => rfl
  | a :: l, h => by rw [List.filterMap_cons, List.filterMap_cons, h a List.mem_cons_self, fm_congr fun b hb => h b (List.mem_cons_of_mem _ hb)]
theorem pick_rev (xs : Array Value) : ((List.range xs.size).filterMap fun (m : Nat) => xs[(((xs.size : Int) - 1) + (m : Int) * -1).toNat]?).toArray = xs.toList.reverse.toArray := by
  have e : (List.range xs.size).filterMap (fun (m : Nat) => xs[(((xs.size : Int) - 1) + (m : Int) * -1).toNat]?) = ((List.range xs.size).map fun k => xs.size - 1 - k).filterMap (xs[·]?) := by
    rw [List.filterMap_map]
    refine fm_congr fun m hm => ?_
    have := List.mem_range.mp hm
    have : (((xs.size : Int) - 1) + (m : Int) * -1).toNat = xs.size - 1 - m := by omega
    show xs[_]? = xs[_]?
    rw [this]
  rw [e, PySem.W.krv_range, List.filterMap_reverse, PySem.W.krv_all]
theorem getItem_tuple_rev {t sl : Addr} {items : Array Value} {vs : Value} {Q : Value → Shared → Prop} (ht : IsTup s.heap t items) (hs : s.heap.IsSliceOf sl .none .none vs) (ps : IsPart vs (some (-1)))
    (h : Q (.ref s.heap.objs.size) { s with heap := s.heap.push { cls := .type "tuple", data := .seq items.toList.reverse.toArray } }) (hsz : items.size ≤ sizeLine) : wpAny (model prog w) A (getItem (.ref t) (.ref sl)) Q E s := by
  have htake : sizeOk (.seq items.toList.reverse.toArray) := by
    show items.toList.reverse.toArray.size ≤ sizeLine
    rw [List.size_toArray, List.length_reverse, Array.length_toList]
    exact hsz
  obtain ⟨os, hos, hcs, hds⟩ := id hs
  have hTs : s.TypeIs (.ref sl) "slice" := ⟨os, hos, hcs⟩
  unfold getItem
  try with_reducible refine wpAny_holding ?_
  first | refine wpAny_bind (wpAny_pure ?_) | skip
  refine wpAny_bind (wpAny_sequenceKey ht.typeIs (by decide) ?_)
  refine wpAny_bind (wpAny_callSpecial?_slot (name := Str.ofString "__getitem__") ht.typeIs PyProof.Rows.slot_tuple_getitem
    (wpAny_call_entry PyProof.Rows.slot_tuple_getitem ht.typeIs entry_tuple_getitem ?_ (args_tuple_getitem _ _)))
  show wpAny _ _ (Builtin.Tuple.tupleItemsOf (.ref t) >>= _) _ _ s
  refine wpAny_bind (tupleItemsOf_ ht ?_)
  refine wpAny_bind (wpAny_typeOf hTs ?_)
  rw [if_pos (by decide)]
  refine wpAny_bind (sliceApplied_rev hs ps ?_)
  have hno : ¬ ((((items.size : Int) - 1 == 0) && (-1 : Int) == 1 && (items.size == items.size)) = true) := by
    intro q
    rw [Bool.and_eq_true, Bool.and_eq_true] at q
    exact absurd q.1.2 (by decide)
  show wpAny _ _ (if ((((items.size : Int) - 1 == 0) && (-1 : Int) == 1 && (items.size == items.size)) = true) then _ else _) _ _ s
  rw [if_neg hno, pick_rev]
  first
    | exact wpAny_bind (m := Builtin.Tuple.tupleExact _) (wpAny_newObj_type (wpAny_pure ⟨_, rfl, wpAny_pure h⟩) htake)
    | exact wpAny_bind (m := Builtin.Tuple.tupleExact _) (wpAny_newObj_type (wpAny_bind (wpAny_pure (wpAny_pure ⟨_, rfl, wpAny_pure h⟩))) htake)
    | exact wpAny_bind (wpAny_bind (m := Builtin.Tuple.tupleExact _) (wpAny_newObj_type (wpAny_pure (wpAny_pure ⟨_, rfl, wpAny_pure h⟩)) htake))
    | exact wpAny_bind (wpAny_bind (m := Builtin.Tuple.tupleExact _) (wpAny_newObj_type (wpAny_pure ⟨_, rfl, wpAny_pure h⟩) htake))
end
section
variable {X : Cx}
def rRevA (K : PySem.W.Frag) : V → Hp → VK → Prop := fun x H Q => (∃ a xs, x = .ref a ∧ SqL K H a xs ∧ ∀ p, H p = none → Q (.ref p) (upd H p (.lst xs.reverse))) ∨ (∃ a xs, x = .ref a ∧ SqT K H a xs ∧ ∀ p, H p = none → Q (.ref p) (upd H p (.tup xs.reverse)))
theorem pe_revA {e : Expr} {te : TE} {k : Nat} {p1 p2 p3 pos : Pos} (he : PE X e te) : PE X (.Subscript e (.Slice none none (some (.UnaryOp .USub (.Constant (.int 1) k p1) p2)) p3) pos) (fun σ H Q => te σ H fun x H1 => rRevA X.K x H1 Q) := by
  refine ⟨fun pins s σ H Q I h => ?_⟩
  refine Subscript_ (thn (he.run pins s σ H _ I h) fun v s1 ⟨x, H1, I1, r1, q1⟩ => ?_)
  have hst : PO X (some (.UnaryOp .USub (.Constant (.int 1) k p1) p2)) (tPart (tUn (rU fun i => .int (-i)) (tC (.int 1)))) := po_some (pe_un un_neg pe_int)
  refine wpAny_Slice (thn (po_none.run pins s1 σ H1 (fun o H2 => o = none ∧ H2 = H1) I1 ⟨rfl, rfl⟩) fun vl s2 ⟨l, H2, I2, pl, el, e2⟩ => ?_)
  subst el e2
  refine thn (po_none.run pins s2 σ H2 (fun o H3 => o = none ∧ H3 = H2) I2 ⟨rfl, rfl⟩) fun vu s3 ⟨u, H3, I3, pu, eu, e3⟩ => ?_
  subst eu e3
  refine thn (hst.run pins s3 σ H3 (fun o H4 => o = some (-1) ∧ H4 = H3) I3 ⟨1, rfl, -1, rfl, rfl, rfl⟩) fun vs s4 ⟨o, H4, I4, ps, eo, e4⟩ => ?_
  subst eo e4
  have I5 : Inv X pins σ H4 { s4 with heap := s4.heap.push { cls := .type "slice", data := .fields #[vl, vu, vs] } } := I4.kept (t' := s4.toks) fun b ob q => Heap.get?_push_of_some _ q
  rcases q1 with ⟨a, xs, ex, hx, q⟩ | ⟨a, xs, ex, hx, q⟩
  · subst ex
    cases r1
    obtain ⟨its, r, ht, hz⟩ := I5.list hx
    have hlen := r.length
    show wpAny (model X.prog X.w) X.A (subscriptTail e (.Slice none none (some (.UnaryOp .USub (.Constant (.int 1) k p1) p2)) p3) (.ref a) (.ref s4.heap.objs.size)) (EP X pins σ Q) X.xe { s4 with heap := s4.heap.push { cls := .type "slice", data := .fields #[vl, vu, vs] } }
    refine tail_any (ops := [.ref a, .ref s4.heap.objs.size]) ht.isList.typeIs (PySem.slot_list_getitem.lookup) ?_ (by with_unfolding_all rfl)
    refine wpAny_getItem_list_slice ht.isList (Heap.IsSliceOf.new _ vl vu vs) pl pu ps (by decide) ?_ (by rw [List.size_toArray]; omega)
    rw [PySem.W.krv_pick]
    refine ⟨.ref _, _, I5.laid (t' := s4.toks) (o := .lst xs.reverse) (fun b ob q => Heap.get?_push_of_some _ q) (Nat.le_refl _) ?_, rfl, q _ (I5.hok.fresh (Nat.le_refl _))⟩
    exact ⟨by rw [List.length_reverse]; exact hz, _, 0, r.reverse, Heap.get?_push_size _ rfl⟩
  · subst ex
    cases r1
    cases pl
    cases pu
    obtain ⟨its, r, ht, hz⟩ := I5.tuple hx
    have hlen := r.length
    show wpAny (model X.prog X.w) X.A (subscriptTail e (.Slice none none (some (.UnaryOp .USub (.Constant (.int 1) k p1) p2)) p3) (.ref a) (.ref s4.heap.objs.size)) (EP X pins σ Q) X.xe { s4 with heap := s4.heap.push { cls := .type "slice", data := .fields #[.none, .none, vs] } }
    refine tail_any (ops := [.ref a, .ref s4.heap.objs.size]) ht.typeIs (PyProof.Rows.slot_tuple_getitem.lookup) ?_ (by with_unfolding_all rfl)
    refine getItem_tuple_rev ht (Heap.IsSliceOf.new _ .none .none vs) ps ?_ (by rw [List.size_toArray]; omega)
    refine ⟨.ref _, _, I5.laid (t' := s4.toks) (o := .tup xs.reverse) (fun b ob q => Heap.get?_push_of_some _ q) (Nat.le_refl _) ?_, rfl, q _ (I5.hok.fresh (Nat.le_refl _))⟩
    exact ⟨by rw [List.length_reverse]; exact hz, _, r.reverse, IsTup.new _ _⟩
end
end Ev

namespace Ev
open PySem PySem.Spec PyProof.Rows L2
abbrev relO : Rel (Option Int) (Option Int) := fun o _ _ o' fp => o' = o ∧ fp = []
def SO (gt : Gt) (n : Nat) (X : Cx) (W : WX) (es : Es) (x : Option Expr) : Prop := ∃ t, PO X x t ∧ EG gt X W relO t (evB (run gt.C n) es)
section
variable {X : Cx} {CX : CXT} {k : Nat} {f : Addr} {fd : FuncData} {ps : List Str} {sp : Sp} {E : St → XK} {x : Str} {p pos : Pos}
/-- f() -/
theorem pe_callSD0 (F : FnOk X.prog X.w X.K X.mg X.base CX k f fd ps sp) (hr : Room k X.A) (hg : Gl X x) (hm : X.mg x = some (.ref f)) (hk : PySem.W.keepIn X.K (.ref f) = true) (hb : Binds X.K fd ps []) (hx : ∀ σ, PassesAt CX X σ (E σ))
    (hdb : (x == ("__debug__" : Str)) = false := by decide) : PE X (.Call (.Name x p) [] [] pos) (tCallSD sp [] E tNil) := by
  refine ⟨fun pins s σ H Q I h => ?_⟩
  refine wpAny_Call_Name_kw (ld_glob I hg hm ?_ hdb)
  exact PySem.W.callWith_K0 I.kIn hk (run_fnSD (us := []) F hr hb .nil (hx σ) I .nil h)
end
section
variable {gt : Gt} {n : Nat} {g : Glo} {sc : Scp} {X : Cx} {W : WX}
theorem SO.none : SO gt n X W .nil none := ⟨_, po_none, fun G H O σ env H0 o w => by
  show Goal gt X.K _ relO G H (.ok Option.none O) _
  exact fun Q k => k Option.none G H [] (Ext.refl G H) o ⟨rfl, rfl⟩ Fresh.nil⟩
theorem SO.some {a : E} {x : Expr} (h : SE gt n X W a x) : SO gt n X W (.cons a .nil) (some x) := by
  obtain ⟨ta, pa, ka⟩ := h.v
  refine ⟨_, po_some pa, ?_⟩
  have := EG.bind (U := fun σ v H1 (Q : Option Int → Hp → Prop) => ∃ i, v = .int i ∧ Q (.some i) H1) (f := fun env x O1 => R.ofO (intX x) O1) (rel' := relO) ka ?_
  · simp only [evB]; exact this
  · intro σ env H0 x O1 v G H G1 H1 fp w e o rl fr
    refine Goal.ofO fun z hz => ?_
    unfold intX at hz
    split at hz
    · rename_i i
      cases hz
      have hv : v = .int i := by have := rl.2; unfold Den at this; exact this
      exact fun Q q => ⟨i, hv, q (.some i) G1 H1 [] e o ⟨rfl, rfl⟩ Fresh.nil⟩
    · cases hz
theorem s_slc {a : E} {lo hi : Es} {x : Expr} {l h : Option Expr} {pos p2 : Pos} (ha : SE gt n X W a x) (hl : SO gt n X W lo l) (hh : SO gt n X W hi h) : SE gt n X W (.slc a lo hi) (.Subscript x (.Slice l h none p2) pos) := by
  obtain ⟨ta, pa, ka⟩ := ha.v
  obtain ⟨tl, pl, kl⟩ := hl
  obtain ⟨th, ph, kh⟩ := hh
  obtain ⟨r, hr, k⟩ := sl2 (X := X)
  refine SE.of (pe_slice hr pa pl ph) ?_ (fun _ => rfl)
  have := EG.bind2 (U := fun σ v l H2 (Q : VK) => th σ H2 fun u H3 => r v l u H3 Q) (f := fun env x l O2 => (evB (run gt.C n) hi env O2).bind fun h O3 => R.ofO (x.rdd.bind fun d => slcD d l h) O3) (rel'' := KRep X.K) ka kl ?_
  · simp only [ev]; exact this
  · intro σ env H0 x l O2 v w G H G1 H1 G2 H2 fp fp' wo e1 e2 o rl fr rl' fr'
    obtain ⟨rfl, rfl⟩ := rl'
    have fr2 : Fresh H G2 fp := fr.ext e2 rl.trk
    refine Goal.bind (U := fun u H3 (Q : VK) => r v w u H3 Q) (f := fun h O3 => R.ofO (x.rdd.bind fun d => slcD d w h) O3) (e1.trans e2) (kh G2 H2 O2 σ env H0 o wo) ?_
    intro h O3 u G3 H3 fp3 e3 o3 rl3 fr3
    obtain ⟨rfl, rfl⟩ := rl3
    refine Goal.ofO fun z hz => ?_
    obtain ⟨d, hd, hz⟩ := Option.bind_eq_some_iff.mp hz
    have fr3' : Fresh H G3 fp := fr2.ext e3 (rl.ext e2 fr.nA).trk
    exact Goal.want ((e1.trans e2).trans e3) fun Q Wq => k G3 H3 O3 d w u v z o3 (((rl.ext e2 fr.nA).ext e3 fr2.nA).rd fr3'.nA hd) hz Q Wq
theorem s_rev {a : E} {x : Expr} {m : Nat} {p1 p2 p3 pos : Pos} (ha : SE gt n X W a x) : SE gt n X W (.rev a) (.Subscript x (.Slice none none (some (.UnaryOp .USub (.Constant (.int 1) m p1) p2)) p3) pos) := by
  obtain ⟨ta, pa, ka⟩ := ha.v
  refine SE.of (pe_revA pa) ?_ (fun _ => rfl)
  have := EG.one ka (f := fun d _ => revD d) (r := rRevA X.K) fun G H O d v z o hd hz Q Wq => by
    cases d with
    | lst ds =>
      simp only [revD, Option.some.injEq] at hz
      obtain ⟨a, vs, rfl, hv, t⟩ := hd.lst o.sub
      exact .inl ⟨a, vs, rfl, .of hv, fun p hp => Wq.lst o hz.symm t.rev hp⟩
    | tup ds =>
      simp only [revD, Option.some.injEq] at hz
      obtain ⟨a, vs, rfl, hv, t⟩ := hd.tup o.sub
      exact .inr ⟨a, vs, rfl, hv, fun p hp => Wq.tup o hz.symm t.rev hp⟩
    | _ => simp [revD] at hz
  simp only [ev]; exact this
theorem denL_app {K : PySem.W.Frag} {G : Gh} : ∀ {ds es : List D} {vs us : List V}, DenL K G ds vs → DenL K G es us → DenL K G (ds ++ es) (vs ++ us)
  | [], es, vs, us, h, k => by rw [h.inv0]; exact k
  | d :: ds, es, vs, us, h, k => by
    obtain ⟨v, r, rfl, p, q⟩ := h.inv
    exact .cons p (denL_app q k)
theorem call_key {f : Nat} {es : Es} {t : TA} (ka : EG gt X W (KReps X.K) t (evs (run gt.C n) es)) : EG gt X W (KRep X.K) (tCallSD (FSp gt X.K n f) [] (WE W) t) (ev (run gt.C n) (.call f es)) := by
  have := EG.bind (U := fun σ vs H1 (Q : VK) => FSp gt X.K n f (vs ++ []) H1 Q (WE W σ)) (f := fun env xs O1 => (R.ofO (fzL xs) O1).bind fun ds O1 => run gt.C n f ds O1) (rel' := KRep X.K) ka ?_
  · simp only [ev]; exact this
  · intro σ env H0 ys O1 vs G H G1 H1 fp w e o rl fr
    cases hq : fzL ys with
    | none => exact trivial
    | some ds =>
      show Goal gt X.K _ (KRep X.K) G H (run gt.C n f ds O1) _
      have t := KReps.frz o.sub fp rl (fun _ h => h) hq
      have e' := e.ofFr o.sub fr
      have o' := o.ofFr fr
      rw [List.append_nil]
      cases hr : run gt.C n f ds O1 with
      | stk => exact trivial
      | ok z O' => exact fun Q q => ⟨_, O1, ds, o', t, by rw [hr]; exact fun v G' H' fp' x k rp f' => q v G' H' fp' (e'.trans x) k rp (Fresh.pre e' f')⟩
      | exc z O' => exact fun Q q => ⟨_, O1, ds, o', t, by rw [hr]; exact fun cls dx G' H' x k er => q cls dx G' H' (e'.trans x) k er⟩
theorem s_call0 {f : Nat} {x : Str} {p pos : Pos} (ok : XOk gt n g.fn g.blt g.glb g.dfl sc X W) (hc : sc.calm = true) (hf : g.fn[f]? = some x) (hg : glB sc.names x = true) (hp : plainN x = true) : SE gt n X W (.call f .nil) (.Call (.Name x p) [] [] pos) := by
  obtain ⟨r, hr, hx⟩ := ok.md.fnn f x hf
  have F := ok.md.fns f r hr
  have hm := F.glob
  rw [hx] at hm
  exact SE.of (pe_callSD0 F.ok (ok.calm hc).2 (glB_of ok hg) hm F.keep F.binds (fun σ => passAt ok.tk σ) (plainN_of hp).1) (call_key fun G H O σ env H0 o w => by
    show Goal gt X.K _ (KReps X.K) G H (.ok [] O) _
    exact fun Q k => k [] G H [] (Ext.refl G H) o ⟨rfl, rfl⟩ Fresh.nil) (fun _ => rfl)
theorem s_call {f : Nat} {es : Es} {x : Str} {e : Expr} {xs : List Expr} {p pos : Pos} (ok : XOk gt n g.fn g.blt g.glb g.dfl sc X W) (hc : sc.calm = true) (hf : g.fn[f]? = some x) (hg : glB sc.names x = true) (hp : plainN x = true) (h : SA gt n X W es (e :: xs)) : SE gt n X W (.call f es) (.Call (.Name x p) (e :: xs) [] pos) := by
  obtain ⟨r, hr, hx⟩ := ok.md.fnn f x hf
  have F := ok.md.fns f r hr
  have hm := F.glob
  rw [hx] at hm
  obtain ⟨⟨t, pa, ka⟩, hs⟩ := h
  exact SE.of (pe_callSD F.ok (ok.calm hc).2 (glB_of ok hg) hm F.keep F.binds .nil (fun σ => passAt ok.tk σ) pa (plainN_of hp).1 (star_cons (hs e List.mem_cons_self)) (back_none fun y hy => hs y (List.mem_cons_of_mem _ hy))) (call_key ka) (fun _ => rfl)
theorem call_keyD {f : Nat} {es : Es} {t : TA} {xs : List D} {dvs : List V} (ka : EG gt X W (KReps X.K) t (evs (run gt.C n) es)) (hd : DenL X.K ⟨fun _ => none, []⟩ xs dvs) : EG gt X W (KRep X.K) (tCallSD (FSp gt X.K n f) dvs (WE W) t) (ev (run gt.C n) (.callD f es xs)) := by
  have := EG.bind (U := fun σ vs H1 (Q : VK) => FSp gt X.K n f (vs ++ dvs) H1 Q (WE W σ)) (f := fun env ys O1 => (R.ofO (fzL ys) O1).bind fun ds O1 => run gt.C n f (ds ++ xs) O1) (rel' := KRep X.K) ka ?_
  · simp only [ev]; exact this
  · intro σ env H0 ys O1 vs G H G1 H1 fp w e o rl fr
    cases hq : fzL ys with
    | none => exact trivial
    | some ds =>
      show Goal gt X.K _ (KRep X.K) G H (run gt.C n f (ds ++ xs) O1) _
      have t := KReps.frz o.sub fp rl (fun _ h => h) hq
      have t2 : DenL X.K (G1.fr H1 fp) xs dvs := DenL.mono (G := ⟨fun _ => none, []⟩) ⟨fun _ _ h => (by cases h), fun i a h => (by simp at h)⟩ xs dvs hd
      have e' := e.ofFr o.sub fr
      have o' := o.ofFr fr
      cases hr : run gt.C n f (ds ++ xs) O1 with
      | stk => exact trivial
      | ok z O' => exact fun Q q => ⟨_, O1, ds ++ xs, o', denL_app t t2, by rw [hr]; exact fun v G' H' fp' x k rp f' => q v G' H' fp' (e'.trans x) k rp (Fresh.pre e' f')⟩
      | exc z O' => exact fun Q q => ⟨_, O1, ds ++ xs, o', denL_app t t2, by rw [hr]; exact fun cls dx G' H' x k er => q cls dx G' H' (e'.trans x) k er⟩
theorem s_callD {f : Nat} {es : Es} {ds : List D} {x : Str} {e : Expr} {xs : List Expr} {p pos : Pos} (ok : XOk gt n g.fn g.blt g.glb g.dfl sc X W) (hc : sc.calm = true) (hf : g.fn[f]? = some x) (hg : glB sc.names x = true) (hp : plainN x = true) (hd : (g.dfl.any fun p => p.1 == f && dEqL p.2 ds) = true) (h : SA gt n X W es (e :: xs)) : SE gt n X W (.callD f es ds) (.Call (.Name x p) (e :: xs) [] pos) := by
  obtain ⟨r, hr, hx⟩ := ok.md.fnn f x hf
  have F := ok.md.fns f r hr
  have hm := F.glob
  rw [hx] at hm
  obtain ⟨⟨t, pa, ka⟩, hs⟩ := h
  obtain ⟨q, hq, hd⟩ := List.any_eq_true.mp hd
  rw [Bool.and_eq_true, beq_iff_eq] at hd
  obtain ⟨us, vs, b, r2, dn⟩ := ok.md.dfl q hq r (by rw [hd.1]; exact hr)
  rw [dEqL_of hd.2] at dn
  exact SE.of (pe_callSD F.ok (ok.calm hc).2 (glB_of ok hg) hm F.keep b r2 (fun σ => passAt ok.tk σ) pa (plainN_of hp).1 (star_cons (hs e List.mem_cons_self)) (back_none fun y hy => hs y (List.mem_cons_of_mem _ hy))) (call_keyD ka dn) (fun _ => rfl)
/-! built-ins -/
theorem bi_boot (b : Bi) (h : biOk b = true) : bootBuiltins (biName b) = some (biVal b) ∧ biName b ≠ "__name__" ∧ (biName b == ("__debug__" : Str)) = false := by
  cases b <;> first | (cases h; done) | exact ⟨by decide +kernel, by decide +kernel, by decide +kernel⟩
theorem one_plain {y : Expr} {env : PySem.Env} {pos : Pos} : (backTo pos (starEach [] env)).any (·.1) = false := rfl
theorem pe_callV {f : Value} {r : List V → Hp → VK → Prop} {x : Str} {y : Expr} {ta : TE} {p pos : Pos} (hc : CallR X f r) (hf : (∃ id, f = .builtin id) ∨ ∃ T, f = .type T) (hg : Gl X x) (hm : X.mg x = none) (hv : bootBuiltins x = some f) (ha : PE X y ta) (hn : x ≠ "__name__")
    (hdb : (x == ("__debug__" : Str)) = false) (hs : nost y = true) : PE X (.Call (.Name x p) [y] [] pos) (fun σ H Q => ta σ H fun v H1 => r [v] H1 Q) := by
  rcases hf with ⟨id, rfl⟩ | ⟨T, rfl⟩
  · exact pe_callB hc hg hm hv (pa_cons ha pa_nil (star_cons hs)) hn hdb (star_cons hs) rfl
  · exact pe_callTy hc hg hm hv (pa_cons ha pa_nil (star_cons hs)) hn hdb (star_cons hs) rfl
theorem biVal_kind (b : Bi) : (∃ id, biVal b = .builtin id) ∨ ∃ T, biVal b = .type T := by
  cases b <;> first | exact .inl ⟨_, rfl⟩ | exact .inr ⟨_, rfl⟩
theorem s_bi {b : Bi} {a : E} {x : Str} {y : Expr} {p pos : Pos} (ok : XOk gt n g.fn g.blt g.glb g.dfl sc X W) (hc : sc.calm = true) (hx : x = biName b) (hb : biOk b = true) (hm : x ∈ g.blt) (hg : glB sc.names x = true) (hs : nost y = true) (ha : SE gt n X W a y) : SE gt n X W (.bi b a) (.Call (.Name x p) [y] [] pos) := by
  obtain ⟨ta, pa, ka⟩ := ha.v
  obtain ⟨r, hr, k⟩ := bc_all' (X := X) (ok.calm hc).1 hb
  obtain ⟨h1, h2, h3⟩ := bi_boot b hb
  subst hx
  refine SE.of (pe_callV hr (biVal_kind b) (glB_of ok hg) (ok.md.blt _ hm) h1 pa h2 h3 hs) ?_ (fun _ => rfl)
  have := EG.one ka (f := fun d _ => bi1 b d) (r := fun v H Q => r [v] H Q) k
  simp only [ev]; exact this
/-- sorted(set(xs)) -/
theorem s_sset {a : E} {x y : Str} {z : Expr} {p1 p2 q pos : Pos} (ok : XOk gt n g.fn g.blt g.glb g.dfl sc X W) (hc : sc.calm = true) (hx : x = ("sorted" : Str)) (hy : y = ("set" : Str)) (m1 : x ∈ g.blt) (m2 : y ∈ g.blt) (g1 : glB sc.names x = true) (g2 : glB sc.names y = true) (hs : nost z = true)
    (ha : SE gt n X W a z) : SE gt n X W (.sset a) (.Call (.Name x p1) [.Call (.Name y p2) [z] [] q] [] pos) := by
  obtain ⟨ta, pa, ka⟩ := ha.v
  subst hx hy
  have c := (ok.calm hc).1
  have pin : PE X (.Call (.Name "set" p2) [z] [] q) (fun σ H Q => ta σ H fun v H1 => rSetL X.K X.w [v] H1 Q) := pe_callV (cr_setL c) (.inr ⟨"set", rfl⟩) (glB_of ok g2) (ok.md.blt _ m2) (by decide +kernel) pa (by decide +kernel) (by decide +kernel) hs
  refine SE.of (pe_callV (cr_sortedSet c) (.inl ⟨"sorted", rfl⟩) (glB_of ok g1) (ok.md.blt _ m1) (by decide +kernel) pin (by decide +kernel) (by decide +kernel) rfl) ?_ (fun _ => rfl)
  have := EG.one ka (f := fun d _ => ssetD d) (r := fun v H Q => rSSet X.K X.w v H Q) fun G H O d v z o hd hz Q Wq => sset_ok o hd hz Q Wq
  simp only [ev]; exact this
theorem isi_boot : ∀ ty, isiOk ty = true → bootBuiltins (Str.ofString ty) = some (.type ty) ∧ Str.ofString ty ≠ "__name__" ∧ (Str.ofString ty == ("__debug__" : Str)) = false := by
  have : ∀ ty ∈ ["int", "bool", "str", "tuple", "list", "dict"], bootBuiltins (Str.ofString ty) = some (.type ty) ∧ Str.ofString ty ≠ "__name__" ∧ (Str.ofString ty == ("__debug__" : Str)) = false := by decide +kernel
  intro ty h
  exact this ty (by unfold isiOk at h; simpa using h)
theorem s_isi {a : E} {ty : String} {x t : Str} {y : Expr} {p q pos : Pos} (ok : XOk gt n g.fn g.blt g.glb g.dfl sc X W) (hx : x = ("isinstance" : Str)) (ht : t = Str.ofString ty) (hty : isiOk ty = true) (m1 : x ∈ g.blt) (m2 : t ∈ g.blt) (g1 : glB sc.names x = true) (g2 : glB sc.names t = true)
    (hs : nost y = true) (ha : SE gt n X W a y) : SE gt n X W (.isi a ty) (.Call (.Name x p) [y, .Name t q] [] pos) := by
  obtain ⟨ta, pa, ka⟩ := ha.v
  obtain ⟨b1, b2, b3⟩ := isi_boot ty hty
  subst hx ht
  have pt : PE X (.Name (Str.ofString ty) q) (tC (.ty ty)) := pe_bltn (glB_of ok g2) (ok.md.blt _ m2) b1 rfl b2 b3
  have pas : PA X [y, .Name (Str.ofString ty) q] _ := pa_cons pa (pa_cons pt pa_nil) (star_cons hs)
  refine SE.of (pe_callB call_isi (glB_of ok g1) (ok.md.blt _ m1) boot_isinstance pas (by decide) (by decide) (star_cons hs) rfl) ?_ (fun _ => rfl)
  have := EG.one ka (f := fun d _ => (isiD d ty).map fun b => .fz (.bl b)) (r := fun v H (Q : VK) => rIsi X.K [v, .ty ty] H Q) fun G H O d v z o hd hz Q Wq => by
    obtain ⟨b, hb, rfl⟩ := Option.map_eq_some_iff.mp hz
    obtain ⟨tv, h1, h2⟩ := isi_ok hty o hd hb
    exact ⟨v, .ty ty, tv, .type ty, b, rfl, .ty ty, h1, h2, Wq.bl o⟩
  simp only [ev]; exact this
/-! methods of texts -/
theorem base_ok {o : Expr} {name : Str} {env : PySem.Env} (h : basOk o = true) : attributeBase o name env (eval o env) = eval o env := by
  cases o with
  | Call f args kws pos =>
    cases args with
    | nil => cases h
    | cons _ _ => cases f <;> rfl
  | _ => rfl
theorem few_ok {y : Expr} {env : PySem.Env} {cpos : Pos} (h : nost y = true) : ((backTo cpos (starEach [y] env)).all (fun x => !x.1) && (backToKw cpos (keywordEach [] env)).all (fun x => x.1.isSome)
      && decide (([y] : List Expr).length + ([] : List Keyword).length + (if ([] : List Keyword).isEmpty then 0 else 1) < 30)) = true := by
  rw [star_cons h]; rfl
theorem s_met {m : Mt} {a b : E} {o y : Expr} {name : Str} {apos cpos : Pos} (hn : name = mtName m) (hm : mtOk m = true) (hl : (apos.endLine == cpos.line) = true) (ho : basOk o = true) (hs : nost y = true) (ha : SE gt n X W a o) (hb : SE gt n X W b y) :
    SE gt n X W (.met m a b) (.Call (.Attribute o name apos) [y] [] cpos) := by
  obtain ⟨ta, pa, ka⟩ := ha.v
  obtain ⟨tb, pb, kb⟩ := hb.v
  have go : ∀ (r : V → List V → Hp → VK → Prop), PE X (.Call (.Attribute o name apos) [y] [] cpos) (tBM X.K "str" r ta (tCons tb tNil)) →
      (∀ (G : Gh) (H : Hp) (O : Sto) (s : Tx) (e : D) (w : V) (z : XD), GOk X.K G H O → Rd1 X.K G H e w → metD m s e = some z → ∀ Q, Wanted X.K z G H O Q → r (.str (sOf s)) [w] H Q) → SE gt n X W (.met m a b) (.Call (.Attribute o name apos) [y] [] cpos) := fun r pe k => by
    refine SE.of pe ?_ (fun _ => rfl)
    have e1 : EG gt X W (fun (s : Tx) (_ : Gh) (_ : Hp) (v : V) (fp : List Addr) => v = .str (sOf s) ∧ fp = []) (fun σ H (Q : VK) => ta σ H fun v H1 => tyV X.K "str" v H1 ∧ Q v H1) (fun env O => (ev (run gt.C n) a env O).bind fun x O1 => R.ofO (strX x) O1) := by
      refine EG.bind (U := fun σ v H1 (Q : VK) => tyV X.K "str" v H1 ∧ Q v H1) (f := fun env x O1 => R.ofO (strX x) O1) ka ?_
      intro σ env H0 x O1 v G H G1 H1 fp w e o rl fr
      refine Goal.ofO fun z hz => ?_
      unfold strX at hz
      split at hz
      · cases hz
        have hv : v = .str (sOf z) := by have := rl.2; unfold Den at this; exact this
        subst hv
        exact fun Q q => ⟨rfl, q _ G1 H1 [] e o ⟨rfl, rfl⟩ Fresh.nil⟩
      · cases hz
    have := EG.bind2 (U := fun σ v w H2 (Q : VK) => r v [w] H2 Q) (f := fun env s y O2 => R.ofO (y.rdd.bind fun e => metD m s e) O2) (rel'' := KRep X.K) e1 kb ?_
    · simp only [ev]; exact this
    · intro σ env H0 s y O2 v w G H G1 H1 G2 H2 fp fp' wo e1 e2 o rl fr rl' fr'
      obtain ⟨rfl, rfl⟩ := rl
      refine Goal.ofO fun z hz => ?_
      obtain ⟨e, he, hz⟩ := Option.bind_eq_some_iff.mp hz
      exact Goal.want (e1.trans e2) fun Q Wq => k G2 H2 O2 s e w z o (rl'.rd fr'.nA he) hz Q Wq
  subst hn
  have pas : PA X [y] (tCons tb tNil) := pa_cons pb pa_nil (star_cons hs)
  cases m with
  | join =>
    obtain ⟨r, hr, k⟩ := mc_join (X := X)
    exact go r (pe_bm PySem.F.plainAttrs_str PySem.F.slot_str_join PySem.F.type_str_join hr pa pas (base_ok ho) (few_ok hs) hl (star_cons hs) rfl) k
  | index =>
    obtain ⟨r, hr, k⟩ := mc_index (X := X)
    exact go r (pe_bm PySem.F.plainAttrs_str PySem.F.slot_str_index PySem.F.type_str_index hr pa pas (base_ok ho) (few_ok hs) hl (star_cons hs) rfl) k
  | _ => exact absurd hm Bool.false_ne_true
/-! list(range(a, b)), tuple(range(a, b)) -/
theorem rgV_den {K : PySem.W.Frag} {G : Gh} (i j : Int) : DenL K G (rgL i j) (rgV i j) := by
  unfold rgL rgV
  generalize List.range (j - i).toNat = l
  induction l with
  | nil => exact .nil
  | cons k r ih => exact .cons (by unfold Den; rfl) ih
theorem s_lrg1 {tu : Bool} {a : E} {x y : Str} {p : Expr} {p1 p2 p3 pos : Pos} (ok : XOk gt n g.fn g.blt g.glb g.dfl sc X W) (hc : sc.calm = true) (hx : x = if tu then "tuple" else "list") (hy : y = ("range" : Str)) (m1 : x ∈ g.blt) (m2 : y ∈ g.blt) (g1 : glB sc.names x = true) (g2 : glB sc.names y = true)
    (hs : nost p = true) (ha : SE gt n X W a p) : SE gt n X W (.lrg1 tu a) (.Call (.Name x p1) [.Call (.Name y p2) [p] [] p3] [] pos) := by
  obtain ⟨ta, pa, ka⟩ := ha.v
  subst hy
  have rg : PRg X (.Call (.Name "range" p2) [p] [] p3) (tRg1 ta) := prg_1 (glB_of ok g2) (ok.md.blt _ m2) pa (star_cons hs)
  have key : ∀ (mk : List V → HO), (∀ (G : Gh) (H : Hp) (O : Sto) (i j : Int) (z : XD), GOk X.K G H O → lrgD tu (.int i) (.int j) = some z → RgOk i j → ∀ Q, Wanted X.K z G H O Q → ∀ q, H q = none → Q (.ref q) (upd H q (mk (rgV i j)))) →
      EG gt X W (KRep X.K) (fun σ H (Q : VK) => tRg1 ta σ H fun a b H1 => RgOk a b ∧ ∀ q, H1 q = none → Q (.ref q) (upd H1 q (mk (rgV a b)))) (ev (run gt.C n) (.lrg1 tu a)) := fun mk hmk => by
    have := EG.one ka (f := fun e _ => lrgD tu (.int 0) e) (r := fun w H2 (Q : VK) => ∃ j, w = .int j ∧ (RgOk 0 j ∧ ∀ q, H2 q = none → Q (.ref q) (upd H2 q (mk (rgV 0 j))))) fun G H O e w z o he hz Q Wq => by
      cases e with
      | int j =>
        have hz' := hz
        simp only [lrgD] at hz
        split at hz
        · rename_i hr
          exact ⟨j, he.int, hr, hmk G H O 0 j z o hz' hr Q Wq⟩
        · cases hz
      | _ => simp [lrgD] at hz
    simp only [ev]; exact this
  cases tu with
  | false =>
    have hx : x = ("list" : Str) := hx
    subst hx
    refine SE.of (pe_listRg (ok.calm hc).1 (glB_of ok g1) (ok.md.blt _ m1) rg rfl) (key HO.lst fun G H O i j z o hz hr Q Wq q hq => ?_) (fun _ => rfl)
    simp only [lrgD, if_pos hr, Option.some.injEq] at hz
    exact Wq.lst o hz.symm (rgV_den i j) hq
  | true =>
    have hx : x = ("tuple" : Str) := hx
    subst hx
    refine SE.of (pe_tupRg (ok.calm hc).1 (glB_of ok g1) (ok.md.blt _ m1) rg rfl) (key HO.tup fun G H O i j z o hz hr Q Wq q hq => ?_) (fun _ => rfl)
    simp only [lrgD, if_pos hr, Option.some.injEq] at hz
    exact Wq.tup o hz.symm (rgV_den i j) hq
theorem s_lrg {tu : Bool} {a b : E} {x y : Str} {p q : Expr} {p1 p2 p3 pos : Pos} (ok : XOk gt n g.fn g.blt g.glb g.dfl sc X W) (hc : sc.calm = true) (hx : x = if tu then "tuple" else "list") (hy : y = ("range" : Str)) (m1 : x ∈ g.blt) (m2 : y ∈ g.blt) (g1 : glB sc.names x = true) (g2 : glB sc.names y = true)
    (hs : nost p = true) (hs2 : nost q = true) (ha : SE gt n X W a p) (hb : SE gt n X W b q) : SE gt n X W (.lrg tu a b) (.Call (.Name x p1) [.Call (.Name y p2) [p, q] [] p3] [] pos) := by
  obtain ⟨ta, pa, ka⟩ := ha.v
  obtain ⟨tb, pb, kb⟩ := hb.v
  subst hy
  have rg : PRg X (.Call (.Name "range" p2) [p, q] [] p3) (tRg2 ta tb) := prg_2 (glB_of ok g2) (ok.md.blt _ m2) pa pb (star_cons hs) (star_cons hs2) (back_none fun e he => by rw [List.mem_singleton.mp he]; exact hs2)
  have key : ∀ (mk : List V → HO), (∀ (G : Gh) (H : Hp) (O : Sto) (i j : Int) (z : XD), GOk X.K G H O → lrgD tu (.int i) (.int j) = some z → RgOk i j → ∀ Q, Wanted X.K z G H O Q → ∀ q, H q = none → Q (.ref q) (upd H q (mk (rgV i j)))) →
      EG gt X W (KRep X.K) (fun σ H (Q : VK) => tRg2 ta tb σ H fun a b H1 => RgOk a b ∧ ∀ q, H1 q = none → Q (.ref q) (upd H1 q (mk (rgV a b)))) (ev (run gt.C n) (.lrg tu a b)) := fun mk hmk => by
    have := EG.two ka kb (f := fun d e _ => lrgD tu d e) (r := fun v w H2 (Q : VK) => ∃ i j, v = .int i ∧ w = .int j ∧ (RgOk i j ∧ ∀ q, H2 q = none → Q (.ref q) (upd H2 q (mk (rgV i j))))) fun G H O d e v w z o hd he hz Q Wq => by
      cases d with
      | int i =>
        cases e with
        | int j =>
          have hz' := hz
          simp only [lrgD] at hz
          split at hz
          · rename_i hr
            exact ⟨i, j, hd.int, he.int, hr, hmk G H O i j z o hz' hr Q Wq⟩
          · cases hz
        | _ => simp [lrgD] at hz
      | _ => cases e <;> simp [lrgD] at hz
    simp only [ev]; exact this
  cases tu with
  | false =>
    have hx : x = ("list" : Str) := hx
    subst hx
    refine SE.of (pe_listRg (ok.calm hc).1 (glB_of ok g1) (ok.md.blt _ m1) rg rfl) (key HO.lst fun G H O i j z o hz hr Q Wq q hq => ?_) (fun _ => rfl)
    simp only [lrgD, if_pos hr, Option.some.injEq] at hz
    exact Wq.lst o hz.symm (rgV_den i j) hq
  | true =>
    have hx : x = ("tuple" : Str) := hx
    subst hx
    refine SE.of (pe_tupRg (ok.calm hc).1 (glB_of ok g1) (ok.md.blt _ m1) rg rfl) (key HO.tup fun G H O i j z o hz hr Q Wq q hq => ?_) (fun _ => rfl)
    simp only [lrgD, if_pos hr, Option.some.injEq] at hz
    exact Wq.tup o hz.symm (rgV_den i j) hq
end
end Ev

/-! enumerate of a list or a tuple, from any number -/
namespace Ev
open PySem PySem.Spec PySem.Calls PyProof.Rows L2
/-- a list: each item with its number, from k on -/
def ItL (K : PySem.W.Frag) (a : Addr) (k : Int) : It :=
  ⟨fun i H => ∃ (xs : List V) (x : V), SqL K H a xs ∧ xs[i]? = some x, fun i H v H' => ∃ T x, v = .ref T ∧ H T = none ∧ H' = upd H T (.tup [.int (k + (i : Nat)), x]) ∧ ∀ xs, SqL K H a xs → xs[i]? = some x, fun i H => ∃ xs : List V, SqL K H a xs ∧ xs.length ≤ i⟩
theorem turn_enL {P : Program} {w : World} {K : PySem.W.Frag} {elts : List Expr} {kk : Nat} {tpos : Pos} (a e it : Addr) (k : Int) :
    Turn P w K (.Tuple elts kk tpos) (ItL K a k) [e, it] e (fun i h => (∃ old, IsEnum h e it (k + ((i : Nat) : Int)) old) ∧ h.IsListIter it a i ∧ e ≠ it) where
  mem := by simp
  obj := fun i h st b hb => by
    obtain ⟨⟨old, he⟩, ⟨o, ho, hc, hd⟩, _⟩ := st
    have e' : b = e ∨ b = it := by simpa using hb
    rcases e' with z | z
    · rw [z]; exact ⟨_, he, fun v q => nomatch q⟩
    · rw [z]; exact ⟨o, ho, fun v q => by rw [hd] at q; cases q⟩
  keep := fun i h h' st k => let ⟨⟨old, he⟩, hi, hne⟩ := st; ⟨⟨old, k e (by simp) _ he⟩, hi.at fun o q => k it (by simp) o q, hne⟩
  item := by
    intro X hP hw hK hc i pins s σ H E I hf st hg
    subst hP hw hK
    obtain ⟨⟨old, he⟩, hit, hne⟩ := st
    obtain ⟨xs, x, hq, hx⟩ := hg
    obtain ⟨its, rv, p, hz⟩ := I.list hq
    obtain ⟨u, hu, ru⟩ := rv.get hx
    have hlen := rv.length
    have hxi : i < xs.length := (List.getElem?_eq_some_iff.mp hx).1
    have hel : e < s.heap.objs.size := Heap.lt_size he
    have hil : it < s.heap.objs.size := by obtain ⟨_, q, _⟩ := hit; exact Heap.lt_size q
    have pl : s.heap.IsList a its.toArray := p.isList
    have nit : a ≠ it := fun z => by
      obtain ⟨o, ho, hc, _⟩ := hit
      obtain ⟨o2, ho2, hc2, _⟩ := pl
      rw [← z, ho2] at ho
      cases ho
      rw [hc2] at hc
      exact absurd hc (by decide)
    have nea : e ≠ a := fun z => by
      obtain ⟨o2, ho2, hc2, _⟩ := pl
      rw [← z, he] at ho2
      cases ho2
      exact absurd (show Value.type "enumerate" = Value.type "list" from hc2) (by decide)
    have hh : X.A.in1.handled = none := by simp [I.ok.hd hc]
    refine wpAny_pyNext_enum_itemC (Draws.list hh it a nit its.toArray) he ⟨hit, pl⟩ (by simp; omega) hne (by simp [hne, nea]) fun x' h' tk hP ho st' hT hsz hk => ?_
    have ex' : x' = u := by
      have hP : its.toArray[i]? = some x' := hP
      rw [List.getElem?_toArray, hu] at hP
      exact (Option.some.inj hP).symm
    subst ex'
    refine ⟨_, rfl, wpAny_letOwnedTupleGo_enum (s := { s with heap := h', toks := tk + 1 }) ho fun h'' he' sb => ?_⟩
    have hT2 : h''.get? s.heap.objs.size = some { cls := .type "tuple", data := .seq #[.int (k + (i : Nat)) tk, x'] } := (sb.2 _ (Nat.ne_of_gt hel)).trans hT
    have new : ObjOk X.prog X.w (upd H s.heap.objs.size (.tup [.int (k + (i : Nat)), x])) h'' s.heap.objs.size (.tup [.int (k + (i : Nat)), x]) :=
      ⟨by show 2 ≤ sizeLine; decide, [.int (k + (i : Nat)) tk, x'], .cons ⟨_, rfl⟩ (.cons ru .nil), ⟨_, hT2, rfl, _, rfl⟩⟩
    have I1 : Inv X pins σ (upd H s.heap.objs.size (.tup [.int (k + (i : Nat)), x])) { s with heap := h'', toks := tk + 1 } :=
      I.turnedNew (ch := [e, it]) (fun b ob hb q => (sb.2 b (fun z => hb (by simp [z]))).trans (hk b ob (fun z => hb (by simp [z])) (fun z => hb (by simp [z])) q)) hf (Nat.le_refl _) new
    refine ⟨.ref s.heap.objs.size, _, I1, rfl, ⟨_, x, rfl, I.hok.fresh (Nat.le_refl _), rfl, fun ys hy => by rw [I.list_inj hy hq]; exact hx⟩, ⟨⟨x', ?_⟩, st'.1.at fun o q => (sb.2 it (Ne.symm hne)).trans q, hne⟩, fun b hb => ?_⟩
    · have e1 : k + ((i + 1 : Nat) : Int) = k + (i : Int) + 1 := by omega
      rw [e1]; exact he'
    · have hb' : b < s.heap.objs.size := by
        have e' : b = e ∨ b = it := by simpa using hb
        rcases e' with z | z
        · rw [z]; exact hel
        · rw [z]; exact hil
      rw [upd_ne (Nat.ne_of_lt hb')]
      exact (hf b hb).1
  done := by
    intro X hP hw hK hc i pins s σ H E I hf st hg
    subst hP hw hK
    obtain ⟨⟨old, he⟩, hit, hne⟩ := st
    obtain ⟨xs, hq, hx⟩ := hg
    obtain ⟨its, rv, p, hz⟩ := I.list hq
    obtain ⟨f0, f1, f2, f3, f4, f5⟩ := hf it (by simp)
    have hl := rv.length
    have pl : s.heap.IsList a its.toArray := p.isList
    have hT : s.TypeIs (.ref e) "enumerate" := ⟨_, he, rfl⟩
    unfold pyNext
    refine wpAny_bind (wpAny_attempt (wpAny_callSpecial?_slot (name := Str.ofString "__next__") hT F.slot_enumerate_next
      (wpAny_call_entry F.slot_enumerate_next hT F.entry_enumerate_next ?_ (F.args_enumerate_next_1 _))))
    show wpAny _ _ (field (.ref e) 2 >>= _) _ _ _
    refine wpAny_bind (wpAny_field he rfl (x := .ref it) rfl ?_)
    have hh : X.A.in1.handled = none := by simp [I.ok.hd hc]
    refine wpAny_bind (wpAny_nextOf_list_end (by simpa using hh) hit pl (by simp; omega) fun h' x he' hx' => ?_)
    obtain ⟨o, ho, hc⟩ := hx'
    refine wpAny_bind (wpAny_isInstance (T := "StopIteration") (b := true) ⟨o, ho, hc⟩ isSubtype_stop ?_)
    exact wpAny_pure ⟨rfl, I.turned (t' := s.toks) (fun b o hb q => he' b o hb q) f0 f1 f3 f4 f5⟩
  self := fun A i s Q E st h => let ⟨⟨_, he⟩, _⟩ := st; wpAny_pyIter_enum he h
/-- a tuple: each item with its number, from k on -/
def ItT (K : PySem.W.Frag) (a : Addr) (k : Int) : It :=
  ⟨fun i H => ∃ (xs : List V) (x : V), SqT K H a xs ∧ xs[i]? = some x, fun i H v H' => ∃ T x, v = .ref T ∧ H T = none ∧ H' = upd H T (.tup [.int (k + (i : Nat)), x]) ∧ ∀ xs, SqT K H a xs → xs[i]? = some x, fun i H => ∃ xs : List V, SqT K H a xs ∧ xs.length ≤ i⟩
theorem turn_enT {P : Program} {w : World} {K : PySem.W.Frag} {elts : List Expr} {kk : Nat} {tpos : Pos} (a e it : Addr) (k : Int) :
    Turn P w K (.Tuple elts kk tpos) (ItT K a k) [e, it] e (fun i h => (∃ old, IsEnum h e it (k + ((i : Nat) : Int)) old) ∧ h.IsTupleIter it a i ∧ e ≠ it) where
  mem := by simp
  obj := fun i h st b hb => by
    obtain ⟨⟨old, he⟩, ⟨o, ho, hc, hd⟩, _⟩ := st
    have e' : b = e ∨ b = it := by simpa using hb
    rcases e' with z | z
    · rw [z]; exact ⟨_, he, fun v q => nomatch q⟩
    · rw [z]; exact ⟨o, ho, fun v q => by rw [hd] at q; cases q⟩
  keep := fun i h h' st k => let ⟨⟨old, he⟩, hi, hne⟩ := st; ⟨⟨old, k e (by simp) _ he⟩, hi.at fun o q => k it (by simp) o q, hne⟩
  item := by
    intro X hP hw hK hc i pins s σ H E I hf st hg
    subst hP hw hK
    obtain ⟨⟨old, he⟩, hit, hne⟩ := st
    obtain ⟨xs, x, hq, hx⟩ := hg
    obtain ⟨its, rv, p, hz⟩ := I.tuple hq
    obtain ⟨u, hu, ru⟩ := rv.get hx
    have hlen := rv.length
    have hxi : i < xs.length := (List.getElem?_eq_some_iff.mp hx).1
    have hel : e < s.heap.objs.size := Heap.lt_size he
    have hil : it < s.heap.objs.size := by obtain ⟨_, q, _⟩ := hit; exact Heap.lt_size q
    have pl : s.heap.IsTuple a its.toArray := p
    have nit : a ≠ it := fun z => by
      obtain ⟨o, ho, hc, _⟩ := hit
      obtain ⟨o2, ho2, hc2, _⟩ := pl
      rw [← z, ho2] at ho
      cases ho
      rw [hc2] at hc
      exact absurd hc (by decide)
    have nea : e ≠ a := fun z => by
      obtain ⟨o2, ho2, hc2, _⟩ := pl
      rw [← z, he] at ho2
      cases ho2
      exact absurd (show Value.type "enumerate" = Value.type "tuple" from hc2) (by decide)
    have hh : X.A.in1.handled = none := by simp [I.ok.hd hc]
    refine wpAny_pyNext_enum_itemC (Draws.tuple hh it a nit its.toArray) he ⟨hit, pl⟩ (by simp; omega) hne (by simp [hne, nea]) fun x' h' tk hP ho st' hT hsz hk => ?_
    have ex' : x' = u := by
      have hP : its.toArray[i]? = some x' := hP
      rw [List.getElem?_toArray, hu] at hP
      exact (Option.some.inj hP).symm
    subst ex'
    refine ⟨_, rfl, wpAny_letOwnedTupleGo_enum (s := { s with heap := h', toks := tk + 1 }) ho fun h'' he' sb => ?_⟩
    have hT2 : h''.get? s.heap.objs.size = some { cls := .type "tuple", data := .seq #[.int (k + (i : Nat)) tk, x'] } := (sb.2 _ (Nat.ne_of_gt hel)).trans hT
    have new : ObjOk X.prog X.w (upd H s.heap.objs.size (.tup [.int (k + (i : Nat)), x])) h'' s.heap.objs.size (.tup [.int (k + (i : Nat)), x]) :=
      ⟨by show 2 ≤ sizeLine; decide, [.int (k + (i : Nat)) tk, x'], .cons ⟨_, rfl⟩ (.cons ru .nil), ⟨_, hT2, rfl, _, rfl⟩⟩
    have I1 : Inv X pins σ (upd H s.heap.objs.size (.tup [.int (k + (i : Nat)), x])) { s with heap := h'', toks := tk + 1 } :=
      I.turnedNew (ch := [e, it]) (fun b ob hb q => (sb.2 b (fun z => hb (by simp [z]))).trans (hk b ob (fun z => hb (by simp [z])) (fun z => hb (by simp [z])) q)) hf (Nat.le_refl _) new
    refine ⟨.ref s.heap.objs.size, _, I1, rfl, ⟨_, x, rfl, I.hok.fresh (Nat.le_refl _), rfl, fun ys hy => by rw [I.tuple_inj hy hq]; exact hx⟩, ⟨⟨x', ?_⟩, st'.1.at fun o q => (sb.2 it (Ne.symm hne)).trans q, hne⟩, fun b hb => ?_⟩
    · have e1 : k + ((i + 1 : Nat) : Int) = k + (i : Int) + 1 := by omega
      rw [e1]; exact he'
    · have hb' : b < s.heap.objs.size := by
        have e' : b = e ∨ b = it := by simpa using hb
        rcases e' with z | z
        · rw [z]; exact hel
        · rw [z]; exact hil
      rw [upd_ne (Nat.ne_of_lt hb')]
      exact (hf b hb).1
  done := by
    intro X hP hw hK hc i pins s σ H E I hf st hg
    subst hP hw hK
    obtain ⟨⟨old, he⟩, hit, hne⟩ := st
    obtain ⟨xs, hq, hx⟩ := hg
    obtain ⟨its, rv, p, hz⟩ := I.tuple hq
    obtain ⟨f0, f1, f2, f3, f4, f5⟩ := hf it (by simp)
    have hl := rv.length
    have pl : s.heap.IsTuple a its.toArray := p
    have hT : s.TypeIs (.ref e) "enumerate" := ⟨_, he, rfl⟩
    unfold pyNext
    refine wpAny_bind (wpAny_attempt (wpAny_callSpecial?_slot (name := Str.ofString "__next__") hT F.slot_enumerate_next
      (wpAny_call_entry F.slot_enumerate_next hT F.entry_enumerate_next ?_ (F.args_enumerate_next_1 _))))
    show wpAny _ _ (field (.ref e) 2 >>= _) _ _ _
    refine wpAny_bind (wpAny_field he rfl (x := .ref it) rfl ?_)
    have hh : X.A.in1.handled = none := by simp [I.ok.hd hc]
    refine wpAny_bind (wpAny_nextOf_tuple_end (by simpa using hh) hit pl (by simp; omega) fun h' x he' hx' => ?_)
    obtain ⟨o, ho, hc⟩ := hx'
    refine wpAny_bind (wpAny_isInstance (T := "StopIteration") (b := true) ⟨o, ho, hc⟩ isSubtype_stop ?_)
    exact wpAny_pure ⟨rfl, I.turned (t' := s.toks) (fun b o hb q => he' b o hb q) f0 f1 f3 f4 f5⟩
  self := fun A i s Q E st h => let ⟨⟨_, he⟩, _⟩ := st; wpAny_pyIter_enum he h

set_option maxHeartbeats 1000000 in
theorem meets_enumerate_new1 {v : Value} {o : Obj} {H : Heap → Prop} (B : Begins v o H) :
    Meets (Builtin.«enumerate.__new__» ⟨[.type "enumerate", v], []⟩) (fun _ R s => H s.heap ∧
      R (.ok (.ret (.ref (s.heap.push o).objs.size))) { s with heap := (s.heap.push o).push { cls := .type "enumerate", data := .fields #[.none, .bool false, .ref s.heap.objs.size, rawInt 0, .none, .none] } }) :=
  .of_wp fun prog w A R s h => by
    obtain ⟨hp, g, d, tk, os⟩ := s; obtain ⟨h1, h⟩ := h
    have hsub := sub_enumerate
    have q1 : ∀ {A' : Around} {E : Value → Shared → Prop} {Q : Value → Shared → Prop}, Q (.ref hp.objs.size) ⟨hp.push o, g, d, tk, os⟩ → wpAny (model prog w) A' (pyIter v) Q E ⟨hp, g, d, tk, os⟩ :=
      fun q => B.iter prog w _ _ ⟨hp, g, d, tk, os⟩ _ h1 q
    wp_walk using q1
    refine wpAny_stack_any fun st => wpAny_pure ?_
    split
    · rename_i c _ _ _ _ _
      cases (c == Value.type "enumerate")
      · wp_walk using q1
        exact ⟨_, rfl, h⟩
      · wp_walk using q1
        exact ⟨_, rfl, h⟩
    · wp_walk using q1
      exact ⟨_, rfl, h⟩
section
variable {prog : Program} {w : World} {A : Around} {E : Value → Shared → Prop} {s : Shared}
theorem enum_begins1 {v : Value} {o : Obj} {H : Heap → Prop} {Q : Value → Shared → Prop} (B : Begins v o H) (h1 : H s.heap)
    (h : ∀ h', IsEnum h' (s.heap.objs.size + 1) s.heap.objs.size 0 .none → h'.get? s.heap.objs.size = some o → h'.objs.size = s.heap.objs.size + 2 →
      (∀ b o, s.heap.get? b = some o → h'.get? b = some o) → Q (.ref (s.heap.objs.size + 1)) { s with heap := h' }) :
    wpAny (model prog w) A (call (.type "enumerate") [v]) Q E s := by
  refine callType_new F.called_enumerate (by decide) (F.typeCall_enumerate_1 _) (F.newCall_enumerate_1 _) (fun obj => F.args_object_init_2 obj _) F.entry_enumerate_new
    (meets_enumerate_new1 B) ⟨h1, ?_⟩
  have hz : (s.heap.push o).objs.size = s.heap.objs.size + 1 := Heap.size_push ..
  show _ ∧ _
  rw [hz]
  have he : IsEnum ((s.heap.push o).push { cls := .type "enumerate", data := .fields #[.none, .bool false, .ref s.heap.objs.size, rawInt 0, .none, .none] }) (s.heap.objs.size + 1) s.heap.objs.size 0 .none := by
    have := Heap.get?_push_size (s.heap.push o) (o := { cls := .type "enumerate", data := .fields #[.none, .bool false, .ref s.heap.objs.size, rawInt 0, .none, .none] }) rfl
    rw [hz] at this; exact this
  refine ⟨⟨_, he, rfl⟩, h _ he (Heap.get?_push_of_some _ (Heap.get?_push_size _ B.free)) (by rw [Heap.size_push, hz]) fun b o x => Heap.get?_push_of_some _ (Heap.get?_push_of_some _ x)⟩
end
section
variable {X : Cx}
/-- where the loop begins: k the first number -/
def iEnA (K : PySem.W.Frag) (a : Addr) (k : Int) : Hp → (It → Hp → Prop) → Prop := fun H1 R => ((∃ xs, SqL K H1 a xs) ∧ R (ItL K a k) H1) ∨ ((∃ xs, SqT K H1 a xs) ∧ R (ItT K a k) H1)
theorem en_begin {pins : List (Addr × Obj)} {σ : L2.St} {H : Hp} {s : Shared} {tg : Expr} {elts : List Expr} {kk : Nat} {tpos : Pos} {a : Addr} {k : Int} {R : It → Hp → Prop} {f : Sem Value} (I : Inv X pins σ H s) (q : iEnA X.K a k H R)
    (h : ∀ (o : Obj) (Hh : Heap → Prop) (Q : Value → Shared → Prop), Begins (.ref a) o Hh → Hh s.heap → (∀ h', IsEnum h' (s.heap.objs.size + 1) s.heap.objs.size k .none → h'.get? s.heap.objs.size = some o → h'.objs.size = s.heap.objs.size + 2 →
      (∀ b o, s.heap.get? b = some o → h'.get? b = some o) → Q (.ref (s.heap.objs.size + 1)) { s with heap := h' }) → wpAny (model X.prog X.w) X.A f Q X.xe s) :
    wpAny (model X.prog X.w) X.A f (fun v s1 => wpAny (model X.prog X.w) X.A (pyIter v) (PIE X pins σ (.Tuple elts kk tpos) R) X.xe s1) X.xe s := by
  have fp2 : ∀ b, b ∈ [s.heap.objs.size + 1, s.heap.objs.size] → FpOk X pins H b := fun b hb => by
    have e' : b = s.heap.objs.size + 1 ∨ b = s.heap.objs.size := by simpa using hb
    have hle : s.heap.objs.size ≤ b := by
      rcases e' with z | z
      · rw [z]; exact Nat.le_add_right _ _
      · rw [z]; exact Nat.le_refl _
    exact I.fpOk hle (I.hok.fresh hle)
  have k0 : k + ((0 : Nat) : Int) = k := by omega
  rcases q with ⟨⟨xs, hq⟩, q⟩ | ⟨⟨xs, hq⟩, q⟩
  · obtain ⟨its, rv, p, hz⟩ := I.list hq
    refine h _ _ _ (begins_list a its.toArray) p.isList fun h' he hi hs hk => wpAny_pyIter_enum he ?_
    exact ⟨s.heap.objs.size + 1, [s.heap.objs.size + 1, s.heap.objs.size], _, _, H, rfl, I.kept (t' := s.toks) hk, turn_enL a (s.heap.objs.size + 1) s.heap.objs.size k, ⟨⟨.none, by rw [k0]; exact he⟩, ⟨_, hi, rfl, rfl⟩, Nat.succ_ne_self _⟩, fp2, q⟩
  · obtain ⟨its, rv, p, hz⟩ := I.tuple hq
    refine h _ _ _ (begins_tuple a its.toArray) p fun h' he hi hs hk => wpAny_pyIter_enum he ?_
    exact ⟨s.heap.objs.size + 1, [s.heap.objs.size + 1, s.heap.objs.size], _, _, H, rfl, I.kept (t' := s.toks) hk, turn_enT a (s.heap.objs.size + 1) s.heap.objs.size k, ⟨⟨.none, by rw [k0]; exact he⟩, ⟨_, hi, rfl, rfl⟩, Nat.succ_ne_self _⟩, fp2, q⟩
theorem pi_en1 {e : Expr} {ta : TA} {p pos tpos : Pos} {elts : List Expr} {kk : Nat} (hg : Gl X "enumerate") (hm : X.mg "enumerate" = none) (ha : PA X [e] ta) (hs : starEach [e] X.env = [(false, eval e X.env)] := by rfl) :
    PI X (.Tuple elts kk tpos) (.Call (.Name "enumerate" p) [e] [] pos) (fun σ H R => ta σ H fun vs H1 => ∃ a, vs = [.ref a] ∧ iEnA X.K a 0 H1 R) := by
  refine ⟨fun pins s σ H R I h => ?_⟩
  refine Call_ (ld_blt I hg hm boot_enumerate (PyProof.Rows.callWith_type1 (thn (ha.run pos pins s σ H _ I h) fun us s1 ⟨vs, H1, I1, r1, q1⟩ => ?_) hs rfl))
  obtain ⟨a, ex, q⟩ := q1
  subst ex
  cases r1 with
  | cons r rr =>
    cases rr
    cases r
    exact en_begin (tg := .Tuple elts kk tpos) I1 q fun o Hh Q B hb k => enum_begins1 B hb k
theorem pi_en2 {e e2 : Expr} {ta : TA} {p pos tpos : Pos} {elts : List Expr} {kk : Nat} (hg : Gl X "enumerate") (hm : X.mg "enumerate" = none) (ha : PA X [e, e2] ta) (hs : starEach [e, e2] X.env = (false, eval e X.env) :: starEach [e2] X.env) (hpl : (backTo pos (starEach [e2] X.env)).any (·.1) = false) :
    PI X (.Tuple elts kk tpos) (.Call (.Name "enumerate" p) [e, e2] [] pos) (fun σ H R => ta σ H fun vs H1 => ∃ a k, vs = [.ref a, .int k] ∧ -(2 ^ 63) ≤ k ∧ k < 2 ^ 63 ∧ iEnA X.K a k H1 R) := by
  refine ⟨fun pins s σ H R I h => ?_⟩
  refine Call_ (ld_blt I hg hm boot_enumerate (PyProof.Rows.callWith_type1 (thn (ha.run pos pins s σ H _ I h) fun us s1 ⟨vs, H1, I1, r1, q1⟩ => ?_) hs hpl))
  obtain ⟨a, k, ex, k0, k1, q⟩ := q1
  subst ex
  cases r1 with
  | cons r rr =>
    cases rr with
    | cons r' rr =>
      cases rr
      cases r
      obtain ⟨t, rfl⟩ := r'
      exact en_begin (tg := .Tuple elts kk tpos) I1 q fun o Hh Q B hb k => enum_begins B hb k0 k1 k
end
end Ev

namespace Ev
open PySem PySem.Spec PyProof.Rows L2
/-! ### what is walked -/
structure JOk (K : PySem.W.Frag) (G : Gh) (J : It) (ds : List D) : Prop where
  go : ∀ G' H' O', Le G G' → GOk K G' H' O' → ∀ (i : Nat) (d : D), ds[i]? = some d → J.go i H' ∧ ∀ x H'', J.yld i H' x H'' → ∃ G'', Ext G' G'' H' H'' ∧ GOk K G'' H'' O' ∧ Den K G'' d x
  stop : ∀ G' H' O', Le G G' → GOk K G' H' O' → ∀ i, ds.length ≤ i → J.stop i H'
abbrev relI (K : PySem.W.Frag) : Rel It (List D) := fun ds G _ J fp => fp = [] ∧ JOk K G J ds
def SI (gt : Gt) (n : Nat) (X : Cx) (W : WX) (i : I) (tg iter : Expr) : Prop := ∃ w, PI X tg iter w ∧ EG gt X W (relI X.K) w (evI (run gt.C n) i)
section
variable {gt : Gt} {n : Nat} {g : Glo} {sc : Scp} {X : Cx} {W : WX}
/-- a list, a tuple, a text -/
theorem pi_any {tg l : Expr} {tl : TE} (hl : PE X l tl) : PI X tg l (fun σ H R => tl σ H fun x H1 => (∃ a, x = .ref a ∧ (∃ xs, SqL X.K H1 a xs) ∧ R (Itl X.K a) H1) ∨ (∃ a, x = .ref a ∧ (∃ xs, SqT X.K H1 a xs) ∧ R (Itt X.K a) H1) ∨ ∃ z, x = .str z ∧ R (Its z) H1) := by
  refine ⟨fun pins s σ H R I h => ?_⟩
  refine thn (hl.run pins s σ H _ I h) fun v s1 ⟨x, H1, I1, r1, q1⟩ => ?_
  rcases q1 with ⟨a, e, ⟨xs, hq⟩, q⟩ | ⟨a, e, ⟨xs, hq⟩, q⟩ | ⟨z, e, q⟩
  · subst e
    cases r1
    obtain ⟨its, rv, p, hz⟩ := I1.list hq
    refine wpAny_pyIter_list p.isList ?_
    refine ⟨s1.heap.objs.size, [s1.heap.objs.size], _, _, H1, rfl, I1.kept (t' := s1.toks) fun b o e => Heap.get?_push_of_some _ e, turn_list a _, ⟨_, Heap.get?_push_size _ rfl, rfl, rfl⟩, fun b hb => ?_, q⟩
    have e : b = s1.heap.objs.size := by simpa using hb
    subst e
    exact I1.fpOk (Nat.le_refl _) (I1.hok.fresh (Nat.le_refl _))
  · subst e
    cases r1
    obtain ⟨its, rv, p, hz⟩ := I1.tuple hq
    refine wpAny_pyIter_tuple (show s1.heap.IsTuple a its.toArray from p) ?_
    refine ⟨s1.heap.objs.size, [s1.heap.objs.size], _, _, H1, rfl, I1.kept (t' := s1.toks) fun b o e => Heap.get?_push_of_some _ e, turn_tuple a _, ⟨_, Heap.get?_push_size _ rfl, rfl, rfl⟩, fun b hb => ?_, q⟩
    have e : b = s1.heap.objs.size := by simpa using hb
    subst e
    exact I1.fpOk (Nat.le_refl _) (I1.hok.fresh (Nat.le_refl _))
  · subst e
    obtain ⟨t, rfl⟩ := r1
    cases ha : z.cps.all (· < 128)
    · exact wpAny_pyIter_wide ha (pi_one (tk := s1.toks) I1 _ (turn_str _ z t "str_iterator" (.inr rfl)) ⟨_, Heap.get?_push_size _ rfl, rfl, rfl⟩ q)
    · exact wpAny_pyIter_ascii ha (pi_one (tk := s1.toks) I1 _ (turn_str _ z t "str_ascii_iterator" (.inl rfl)) ⟨_, Heap.get?_push_size _ rfl, rfl, rfl⟩ q)
theorem jok_list {K : PySem.W.Frag} {G : Gh} {a : Addr} {vs : List V} {ds : List D} (h : G.F a = some (.lst vs)) (t : DenL K G ds vs) : JOk K G (Itl K a) ds where
  go := fun G' H' O' l o i d hd => by
    have hH : H' a = some (.lst vs) := o.sub a _ (l.f a _ h)
    obtain ⟨v, hv, dn⟩ := t.get hd
    refine ⟨⟨vs, v, .of hH, hv⟩, fun x H'' y => ?_⟩
    obtain ⟨rfl, y⟩ := y
    have := y vs (.of hH)
    rw [hv] at this; cases this
    exact ⟨G', Ext.refl _ _, o, Den.mono l d v dn⟩
  stop := fun G' H' O' l o i hi => ⟨vs, .of (o.sub a _ (l.f a _ h)), by rw [t.len]; exact hi⟩
theorem jok_tup {K : PySem.W.Frag} {G : Gh} {a : Addr} {vs : List V} {ds : List D} (h : SqT K G.F a vs) (t : DenL K G ds vs) : JOk K G (Itt K a) ds where
  go := fun G' H' O' l o i d hd => by
    have hH : SqT K H' a vs := o.sub.sqT (l.f.sqT h)
    obtain ⟨v, hv, dn⟩ := t.get hd
    refine ⟨⟨vs, v, hH, hv⟩, fun x H'' y => ?_⟩
    obtain ⟨rfl, y⟩ := y
    have := y vs hH
    rw [hv] at this; cases this
    exact ⟨G', Ext.refl _ _, o, Den.mono l d v dn⟩
  stop := fun G' H' O' l o i hi => ⟨vs, o.sub.sqT (l.f.sqT h), by rw [t.len]; exact hi⟩
theorem jok_str {K : PySem.W.Frag} {G : Gh} (z : Tx) : JOk K G (Its (sOf z)) (z.map fun c => D.str [c]) where
  go := fun G' H' O' l o i d hd => by
    rw [List.getElem?_map] at hd
    obtain ⟨c, hc, rfl⟩ := Option.map_eq_some_iff.mp hd
    have hi : i < z.length := (List.getElem?_eq_some_iff.mp hc).1
    refine ⟨by show i < (sOf z).cps.size; simpa [sOf] using hi, fun x H'' y => ?_⟩
    obtain ⟨rfl, c', hc', rfl⟩ := y
    have : c' = c := by
      have h2 : (sOf z).cps[i]? = some c := by simpa [sOf] using hc
      rw [hc'] at h2; exact Option.some.inj h2
    subst this
    exact ⟨G', Ext.refl _ _, o, by unfold Den; rfl⟩
  stop := fun G' H' O' l o i hi => by
    show (sOf z).cps.size ≤ i
    simpa [sOf] using hi
theorem rgL_get {i j : Int} {k : Nat} {d : D} (h : (rgL i j)[k]? = some d) : k < (j - i).toNat ∧ d = .int (i + k) := by
  unfold rgL at h
  rw [List.getElem?_map] at h
  obtain ⟨m, hm, rfl⟩ := Option.map_eq_some_iff.mp h
  obtain ⟨hlt, e⟩ := List.getElem?_eq_some_iff.mp hm
  rw [List.length_range] at hlt
  rw [List.getElem_range] at e
  subst e
  exact ⟨hlt, rfl⟩
theorem jok_rng {K : PySem.W.Frag} {G : Gh} (i j : Int) : JOk K G (Itr i (j - i).toNat) (rgL i j) where
  go := fun G' H' O' l o k d hd => by
    obtain ⟨hk, rfl⟩ := rgL_get hd
    refine ⟨hk, fun x H'' y => ?_⟩
    obtain ⟨rfl, rfl⟩ := y
    exact ⟨G', Ext.refl _ _, o, by unfold Den; rfl⟩
  stop := fun G' H' O' l o k hk => by
    show (j - i).toNat ≤ k
    unfold rgL at hk
    rw [List.length_map, List.length_range] at hk
    exact hk
/-- a new pair at each turn -/
theorem pair_put {K : PySem.W.Frag} {G' : Gh} {H' : Hp} {O' : Sto} (o : GOk K G' H' O') {T : Addr} (hT : H' T = none) {d e : D} {v w : V} (h1 : Den K G' d v) (h2 : Den K G' e w) :
    ∃ G'', Ext G' G'' H' (upd H' T (.tup [v, w])) ∧ GOk K G'' (upd H' T (.tup [v, w])) O' ∧ Den K G'' (.tup [d, e]) (.ref T) := by
  obtain ⟨x, k⟩ := put_ext o hT (.tup [v, w])
  refine ⟨_, x, k, ?_⟩
  unfold Den
  exact ⟨T, [v, w], rfl, .inl (.inl upd_same), .cons (Den.mono x.le d v h1) (.cons (Den.mono x.le e w h2) .nil)⟩
theorem jok_enum {K : PySem.W.Frag} {G : Gh} {a : Addr} {vs : List V} {ds : List D} (h : G.F a = some (.lst vs)) (t : DenL K G ds vs) : JOk K G (Ite K a) (enumL ds) where
  go := fun G' H' O' l o i d hd => by
    have hH : H' a = some (.lst vs) := o.sub a _ (l.f a _ h)
    unfold enumL at hd
    rw [List.getElem?_mapIdx] at hd
    obtain ⟨e, he, rfl⟩ := Option.map_eq_some_iff.mp hd
    obtain ⟨v, hv, dn⟩ := t.get he
    refine ⟨⟨vs, v, .of hH, hv⟩, fun x H'' y => ?_⟩
    obtain ⟨T, x', rfl, hT, rfl, y⟩ := y
    have := y vs (.of hH)
    rw [hv] at this; cases this
    exact pair_put o hT (by unfold Den; rfl) (Den.mono l e v dn)
  stop := fun G' H' O' l o i hi => ⟨vs, .of (o.sub a _ (l.f a _ h)), by rw [t.len]; unfold enumL at hi; rw [List.length_mapIdx] at hi; exact hi⟩
theorem zipL_get {ds es : List D} {i : Nat} {d : D} (h : (zipL ds es)[i]? = some d) : ∃ x y, ds[i]? = some x ∧ es[i]? = some y ∧ d = .tup [x, y] := by
  unfold zipL at h
  rw [List.getElem?_zipWith] at h
  cases hx : ds[i]? with
  | none => rw [hx] at h; cases h
  | some x =>
    cases hy : es[i]? with
    | none => rw [hx, hy] at h; cases h
    | some y => rw [hx, hy] at h; cases h; exact ⟨x, y, rfl, rfl, rfl⟩
theorem jok_zip {K : PySem.W.Frag} {G : Gh} {a b : Addr} {vs us : List V} {ds es : List D} (h : G.F a = some (.lst vs)) (t : DenL K G ds vs) (h2 : G.F b = some (.lst us)) (t2 : DenL K G es us) : JOk K G (Itz K a b) (zipL ds es) where
  go := fun G' H' O' l o i d hd => by
    have hH : H' a = some (.lst vs) := o.sub a _ (l.f a _ h)
    have hH2 : H' b = some (.lst us) := o.sub b _ (l.f b _ h2)
    obtain ⟨x, y, hx, hy, rfl⟩ := zipL_get hd
    obtain ⟨v, hv, dn⟩ := t.get hx
    obtain ⟨u, hu, dn2⟩ := t2.get hy
    refine ⟨⟨vs, us, v, u, .of hH, .of hH2, hv, hu⟩, fun z H'' y => ?_⟩
    obtain ⟨T, x', y', rfl, hT, rfl, q1, q2⟩ := y
    have e1 := q1 vs (.of hH)
    have e2 := q2 us (.of hH2)
    rw [hv] at e1; cases e1
    rw [hu] at e2; cases e2
    exact pair_put o hT (Den.mono l x v dn) (Den.mono l _ u dn2)
  stop := fun G' H' O' l o i hi => by
    refine ⟨vs, us, .of (o.sub a _ (l.f a _ h)), .of (o.sub b _ (l.f b _ h2)), ?_⟩
    unfold zipL at hi
    rw [List.length_zipWith] at hi
    rw [t.len, t2.len]
    omega
theorem jok_zipT {K : PySem.W.Frag} {G : Gh} {a b : Addr} {vs us : List V} {ds es : List D} (h : SqT K G.F a vs) (t : DenL K G ds vs) (h2 : SqT K G.F b us) (t2 : DenL K G es us) : JOk K G (RZ.ItzT K a b) (zipL ds es) where
  go := fun G' H' O' l o i d hd => by
    have hH : SqT K H' a vs := o.sub.sqT (l.f.sqT h)
    have hH2 : SqT K H' b us := o.sub.sqT (l.f.sqT h2)
    obtain ⟨x, y, hx, hy, rfl⟩ := zipL_get hd
    obtain ⟨v, hv, dn⟩ := t.get hx
    obtain ⟨u, hu, dn2⟩ := t2.get hy
    refine ⟨⟨vs, us, v, u, hH, hH2, hv, hu⟩, fun z H'' y => ?_⟩
    obtain ⟨T, x', y', rfl, hT, rfl, q1, q2⟩ := y
    have e1 := q1 vs hH
    have e2 := q2 us hH2
    rw [hv] at e1; cases e1
    rw [hu] at e2; cases e2
    exact pair_put o hT (Den.mono l x v dn) (Den.mono l _ u dn2)
  stop := fun G' H' O' l o i hi => by
    refine ⟨vs, us, o.sub.sqT (l.f.sqT h), o.sub.sqT (l.f.sqT h2), ?_⟩
    unfold zipL at hi
    rw [List.length_zipWith] at hi
    rw [t.len, t2.len]
    omega
/-- an iterator that is there -/
theorem Goal.iter {Wk : XK} {G G2 : Gh} {H H2 : Hp} {O2 : Sto} {ds : List D} {J : It} {P : (It → Hp → Prop) → Prop} (e : Ext G G2 H H2) (o : GOk X.K G2 H2 O2) (j : JOk X.K G2 J ds) (h : ∀ R : It → Hp → Prop, R J H2 → P R) : Goal gt X.K Wk (relI X.K) G H (.ok ds O2) P := fun Q k => h Q (k J G2 H2 [] e o ⟨rfl, j⟩ Fresh.nil)
/-- kept for ever, one thing -/
theorem KRep.frz1 {K : PySem.W.Frag} {G : Gh} {H : Hp} {x : XD} {d : D} {v : V} {fp : List Addr} (s : Sub G.F H) (h : KRep K x G H v fp) (e : x.fzd = some d) : Den K (G.fr H fp) d v := by
  cases x with
  | fz d' => cases e; exact Den.mono (Gh.fr_le s fp) d v h.2
  | ow n d' => cases e; exact Own.frz s fp n d v fp (fun _ h => h) h
  | br n d' => cases e
theorem si_e {a : E} {tg x : Expr} (ha : SE gt n X W a x) : SI gt n X W (.e a) tg x := by
  obtain ⟨ta, pa, ka⟩ := ha.v
  refine ⟨_, pi_any pa, ?_⟩
  have := EG.bind (U := fun σ v H1 (R : It → Hp → Prop) => (∃ a, v = .ref a ∧ (∃ xs, SqL X.K H1 a xs) ∧ R (Itl X.K a) H1) ∨ (∃ a, v = .ref a ∧ (∃ xs, SqT X.K H1 a xs) ∧ R (Itt X.K a) H1) ∨ ∃ z, v = .str z ∧ R (Its z) H1)
    (f := fun env x O1 => R.ofO (x.fzd.bind itD) O1) (rel' := relI X.K) ka ?_
  · simp only [evI]; exact this
  · intro σ env H0 x O1 v G H G1 H1 fp w e o rl fr
    refine Goal.ofO fun ds hz => ?_
    obtain ⟨d, hd, hz⟩ := Option.bind_eq_some_iff.mp hz
    have dn := rl.frz1 o.sub hd
    have e' := e.ofFr o.sub fr
    have o' := o.ofFr fr
    cases d with
    | lst es =>
      simp only [itD, Option.some.injEq] at hz
      subst hz
      unfold Den at dn
      obtain ⟨a, vs, rfl, h, t⟩ := dn
      exact Goal.iter e' o' (jok_list h t) fun R r => .inl ⟨a, rfl, ⟨vs, .of (o'.sub a _ h)⟩, r⟩
    | tup es =>
      simp only [itD, Option.some.injEq] at hz
      subst hz
      unfold Den at dn
      obtain ⟨a, vs, rfl, h, t⟩ := dn
      exact Goal.iter e' o' (jok_tup h t) fun R r => .inr (.inl ⟨a, rfl, ⟨vs, o'.sub.sqT h⟩, r⟩)
    | str z =>
      simp only [itD, Option.some.injEq] at hz
      subst hz
      unfold Den at dn
      exact Goal.iter e' o' (jok_str z) fun R r => .inr (.inr ⟨sOf z, dn, r⟩)
    | _ => simp [itD] at hz
theorem si_rng {a b : E} {tg p q : Expr} {y : Str} {p1 pos : Pos} (ok : XOk gt n g.fn g.blt g.glb g.dfl sc X W) (hy : y = ("range" : Str)) (m2 : y ∈ g.blt) (g2 : glB sc.names y = true) (hs : nost p = true) (hs2 : nost q = true) (ha : SE gt n X W a p) (hb : SE gt n X W b q) : SI gt n X W (.rng a b) tg (.Call (.Name y p1) [p, q] [] pos) := by
  obtain ⟨ta, pa, ka⟩ := ha.v
  obtain ⟨tb, pb, kb⟩ := hb.v
  subst hy
  have pas : PA X [p, q] (tCons ta (tCons tb tNil)) := pa_cons pa (pa_cons pb pa_nil (star_cons hs2)) (star_cons hs)
  refine ⟨_, pi_range2 (glB_of ok g2) (ok.md.blt _ m2) pas (by rw [star_cons hs, star_cons hs2]; rfl) (by rw [star_cons hs2]; rfl), ?_⟩
  have := EG.bind2 (U := fun σ v w H2 (R : It → Hp → Prop) => ∃ i j : Int, [v, w] = [.int i, .int j] ∧ (-(2 ^ 62) ≤ i ∧ i < 2 ^ 62 ∧ -(2 ^ 62) ≤ j ∧ j < 2 ^ 62) ∧ R (Itr i (j - i).toNat) H2)
    (f := fun env x y O2 => R.ofO (x.rdd.bind fun d => y.rdd.bind fun e => rngX d e) O2) (rel'' := relI X.K) ka kb ?_
  · simp only [evI]; exact this
  · intro σ env H0 x y O2 v w G H G1 H1 G2 H2 fp fp' wo e1 e2 o rl fr rl' fr'
    have fr2 : Fresh H G2 fp := fr.ext e2 rl.trk
    refine Goal.ofO fun ds hz => ?_
    obtain ⟨d, hd, hz⟩ := Option.bind_eq_some_iff.mp hz
    obtain ⟨e, he, hz⟩ := Option.bind_eq_some_iff.mp hz
    have rx := (rl.ext e2 fr.nA).rd fr2.nA hd
    have ry := rl'.rd fr'.nA he
    cases d with
    | int i =>
      cases e with
      | int j =>
        simp only [rngX] at hz
        split at hz
        · rename_i hr
          cases hz
          exact Goal.iter (e1.trans e2) o (jok_rng i j) fun R r => ⟨i, j, by rw [rx.int, ry.int], hr, r⟩
        · cases hz
      | _ => simp [rngX] at hz
    | _ => cases e <;> simp [rngX] at hz
theorem si_rng1 {a : E} {tg p : Expr} {y : Str} {p1 pos : Pos} (ok : XOk gt n g.fn g.blt g.glb g.dfl sc X W) (hy : y = ("range" : Str)) (m2 : y ∈ g.blt) (g2 : glB sc.names y = true) (hs : nost p = true) (ha : SE gt n X W a p) : SI gt n X W (.rng1 a) tg (.Call (.Name y p1) [p] [] pos) := by
  obtain ⟨ta, pa, ka⟩ := ha.v
  subst hy
  have pas : PA X [p] (tCons ta tNil) := pa_cons pa pa_nil (star_cons hs)
  refine ⟨_, pi_range1 (glB_of ok g2) (ok.md.blt _ m2) pas (by rw [star_cons hs]; rfl), ?_⟩
  have := EG.bind (U := fun σ v H2 (R : It → Hp → Prop) => ∃ j : Int, [v] = [.int j] ∧ -(2 ^ 62) ≤ j ∧ j < 2 ^ 62 ∧ R (Itr 0 j.toNat) H2)
    (f := fun env x O1 => R.ofO (x.rdd.bind fun d => rngX (.int 0) d) O1) (rel' := relI X.K) ka ?_
  · simp only [evI]; exact this
  · intro σ env H0 x O1 v G H G1 H1 fp w e o rl fr
    refine Goal.ofO fun ds hz => ?_
    obtain ⟨d, hd, hz⟩ := Option.bind_eq_some_iff.mp hz
    have rx := rl.rd fr.nA hd
    cases d with
    | int j =>
      simp only [rngX] at hz
      split at hz
      · rename_i hr
        cases hz
        have jk := jok_rng (K := X.K) (G := G1) 0 j
        rw [Int.sub_zero] at jk
        exact Goal.iter e o jk fun R r => ⟨j, by rw [rx.int], hr.2.2.1, hr.2.2.2, r⟩
      · cases hz
    | _ => simp [rngX] at hz
theorem jok_enL {K : PySem.W.Frag} {G : Gh} {a : Addr} {vs : List V} {ds : List D} (k : Int) (h : G.F a = some (.lst vs)) (t : DenL K G ds vs) : JOk K G (ItL K a k) (enumLK k ds) where
  go := fun G' H' O' l o i d hd => by
    have hH : H' a = some (.lst vs) := o.sub a _ (l.f a _ h)
    unfold enumLK at hd
    rw [List.getElem?_mapIdx] at hd
    obtain ⟨e, he, rfl⟩ := Option.map_eq_some_iff.mp hd
    obtain ⟨v, hv, dn⟩ := t.get he
    refine ⟨⟨vs, v, .of hH, hv⟩, fun x H'' y => ?_⟩
    obtain ⟨T, x', rfl, hT, rfl, y⟩ := y
    have := y vs (.of hH)
    rw [hv] at this; cases this
    exact pair_put o hT (by unfold Den; rfl) (Den.mono l e v dn)
  stop := fun G' H' O' l o i hi => ⟨vs, .of (o.sub a _ (l.f a _ h)), by rw [t.len]; unfold enumLK at hi; rw [List.length_mapIdx] at hi; exact hi⟩
theorem jok_enT {K : PySem.W.Frag} {G : Gh} {a : Addr} {vs : List V} {ds : List D} (k : Int) (h : SqT K G.F a vs) (t : DenL K G ds vs) : JOk K G (ItT K a k) (enumLK k ds) where
  go := fun G' H' O' l o i d hd => by
    have hH : SqT K H' a vs := o.sub.sqT (l.f.sqT h)
    unfold enumLK at hd
    rw [List.getElem?_mapIdx] at hd
    obtain ⟨e, he, rfl⟩ := Option.map_eq_some_iff.mp hd
    obtain ⟨v, hv, dn⟩ := t.get he
    refine ⟨⟨vs, v, hH, hv⟩, fun x H'' y => ?_⟩
    obtain ⟨T, x', rfl, hT, rfl, y⟩ := y
    have := y vs hH
    rw [hv] at this; cases this
    exact pair_put o hT (by unfold Den; rfl) (Den.mono l e v dn)
  stop := fun G' H' O' l o i hi => ⟨vs, o.sub.sqT (l.f.sqT h), by rw [t.len]; unfold enumLK at hi; rw [List.length_mapIdx] at hi; exact hi⟩
theorem enumLK_0 (ds : List D) : enumLK 0 ds = enumL ds := by
  unfold enumLK enumL
  congr 1
  funext i d
  rw [Int.zero_add]
/-- a frozen thing that is walked with its numbers -/
theorem en_goal {Wk : XK} {G G2 : Gh} {H H2 : Hp} {O2 : Sto} {ds : List D} {d : D} {v : V} {k : Int} (e : Ext G G2 H H2) (o : GOk X.K G2 H2 O2) (dn : Den X.K G2 d v) (hd : (d = .lst ds ∨ d = .tup ds)) {P : (It → Hp → Prop) → Prop}
    (h : ∀ R : It → Hp → Prop, ∀ a, v = .ref a → iEnA X.K a k H2 R → P R) : Goal gt X.K Wk (relI X.K) G H (.ok (enumLK k ds) O2) P := by
  rcases hd with rfl | rfl
  · unfold Den at dn
    obtain ⟨a, vs, rfl, hv, t⟩ := dn
    exact Goal.iter e o (jok_enL k hv t) fun R r => h R a rfl (.inl ⟨⟨vs, .of (o.sub a _ hv)⟩, r⟩)
  · unfold Den at dn
    obtain ⟨a, vs, rfl, hv, t⟩ := dn
    exact Goal.iter e o (jok_enT k hv t) fun R r => h R a rfl (.inr ⟨⟨vs, o.sub.sqT hv⟩, r⟩)
theorem si_enum {a : E} {elts : List Expr} {kk : Nat} {tpos : Pos} {p : Expr} {y : Str} {p1 pos : Pos} (ok : XOk gt n g.fn g.blt g.glb g.dfl sc X W) (hy : y = ("enumerate" : Str)) (m2 : y ∈ g.blt) (g2 : glB sc.names y = true) (hs : nost p = true) (ha : SE gt n X W a p) : SI gt n X W (.enum a) (.Tuple elts kk tpos) (.Call (.Name y p1) [p] [] pos) := by
  obtain ⟨ta, pa, ka⟩ := ha.v
  subst hy
  have pas : PA X [p] (tCons ta tNil) := pa_cons pa pa_nil (star_cons hs)
  refine ⟨_, pi_en1 (glB_of ok g2) (ok.md.blt _ m2) pas (by rw [star_cons hs]; rfl), ?_⟩
  have := EG.bind (U := fun σ v H2 (R : It → Hp → Prop) => ∃ a, [v] = [.ref a] ∧ iEnA X.K a 0 H2 R)
    (f := fun env x O1 => R.ofO (x.fzd.bind enumX) O1) (rel' := relI X.K) ka ?_
  · simp only [evI]; exact this
  · intro σ env H0 x O1 v G H G1 H1 fp w e o rl fr
    refine Goal.ofO fun ds hz => ?_
    obtain ⟨d, hd, hz⟩ := Option.bind_eq_some_iff.mp hz
    have dn := rl.frz1 o.sub hd
    have e' := e.ofFr o.sub fr
    have o' := o.ofFr fr
    have : ∃ es, ds = enumLK 0 es ∧ (d = .lst es ∨ d = .tup es) := by
      cases d with
      | lst es => simp only [enumX, Option.some.injEq] at hz; exact ⟨es, by rw [enumLK_0, hz], .inl rfl⟩
      | tup es => simp only [enumX, Option.some.injEq] at hz; exact ⟨es, by rw [enumLK_0, hz], .inr rfl⟩
      | _ => simp [enumX] at hz
    obtain ⟨es, rfl, hd'⟩ := this
    exact en_goal e' o' dn hd' fun R a ev q => ⟨a, by rw [ev], q⟩
theorem si_enumS {a k : E} {elts : List Expr} {kk : Nat} {tpos : Pos} {p p2 : Expr} {y : Str} {p1 pos : Pos} (ok : XOk gt n g.fn g.blt g.glb g.dfl sc X W) (hy : y = ("enumerate" : Str)) (m2 : y ∈ g.blt) (g2 : glB sc.names y = true) (hs : nost p = true) (hs2 : nost p2 = true) (ha : SE gt n X W a p) (hk : SE gt n X W k p2) :
    SI gt n X W (.enumS a k) (.Tuple elts kk tpos) (.Call (.Name y p1) [p, p2] [] pos) := by
  obtain ⟨ta, pa, ka⟩ := ha.v
  obtain ⟨tk, pk, kk'⟩ := hk.v
  subst hy
  have pas : PA X [p, p2] (tCons ta (tCons tk tNil)) := pa_cons pa (pa_cons pk pa_nil (star_cons hs2)) (star_cons hs)
  refine ⟨_, pi_en2 (glB_of ok g2) (ok.md.blt _ m2) pas (star_cons hs) (back_none fun e he => by rw [List.mem_singleton.mp he]; exact hs2), ?_⟩
  have := EG.bind2 (U := fun σ v u H2 (R : It → Hp → Prop) => ∃ a k, [v, u] = [.ref a, .int k] ∧ -(2 ^ 63) ≤ k ∧ k < 2 ^ 63 ∧ iEnA X.K a k H2 R)
    (f := fun env x y O2 => R.ofO (x.fzd.bind fun d => y.rdd.bind fun e => enumSX d e) O2) (rel'' := relI X.K) ka kk' ?_
  · simp only [evI]; exact this
  · intro σ env H0 x y O2 v u G H G1 H1 G2 H2 fp fp' wo e1 e2 o rl fr rl' fr'
    refine Goal.ofO fun ds hz => ?_
    obtain ⟨d, hd, hz⟩ := Option.bind_eq_some_iff.mp hz
    obtain ⟨e, he, hz⟩ := Option.bind_eq_some_iff.mp hz
    have fr2 : Fresh H G2 fp := fr.ext e2 rl.trk
    have rl2 := rl.ext e2 fr.nA
    have ei := rl'.rd fr'.nA he
    have : ∃ es k, e = .int k ∧ RgF k k ∧ ds = enumLK k es ∧ (d = .lst es ∨ d = .tup es) := by
      cases d with
      | lst es =>
        cases e with
        | int k =>
          simp only [enumSX] at hz
          split at hz
          · rename_i hr
            simp only [Option.some.injEq] at hz
            exact ⟨es, k, rfl, hr, hz.symm, .inl rfl⟩
          · cases hz
        | _ => simp [enumSX] at hz
      | tup es =>
        cases e with
        | int k =>
          simp only [enumSX] at hz
          split at hz
          · rename_i hr
            simp only [Option.some.injEq] at hz
            exact ⟨es, k, rfl, hr, hz.symm, .inr rfl⟩
          · cases hz
        | _ => simp [enumSX] at hz
      | _ => cases e <;> simp [enumSX] at hz
    obtain ⟨es, k, rfl, hr, rfl, hd'⟩ := this
    have dn := rl2.frz1 o.sub hd
    have e' := (e1.trans e2).ofFr o.sub fr2
    have o' := o.ofFr fr2
    have eu : u = .int k := ei.int
    obtain ⟨r1, r2, _, _⟩ := hr
    exact en_goal e' o' dn hd' fun R a ev q => ⟨a, k, by rw [ev, eu], by omega, by omega, q⟩
theorem zipX_inv {ws ds : List D} (h : zipX ws = some ds) : (∃ d1 d2, ws = [.lst d1, .lst d2] ∧ ds = zipL d1 d2) ∨ (∃ d1 d2, ws = [.tup d1, .tup d2] ∧ ds = zipL d1 d2) := by
  unfold zipX at h
  split at h
  · cases h; exact .inl ⟨_, _, rfl, rfl⟩
  · cases h; exact .inr ⟨_, _, rfl, rfl⟩
  · cases h
theorem si_zip {es : Es} {elts : List Expr} {kk : Nat} {tpos : Pos} {p q : Expr} {y : Str} {p1 pos : Pos} (ok : XOk gt n g.fn g.blt g.glb g.dfl sc X W) (hy : y = ("zip" : Str)) (m2 : y ∈ g.blt) (g2 : glB sc.names y = true) (h : SA gt n X W es [p, q]) : SI gt n X W (.zip es) (.Tuple elts kk tpos) (.Call (.Name y p1) [p, q] [] pos) := by
  obtain ⟨⟨t, pa, ka⟩, hs⟩ := h
  subst hy
  refine ⟨_, RZ.pi_zipA (glB_of ok g2) (ok.md.blt _ m2) pa (star_cons (hs p (by simp))) (back_none fun e he => hs e (by simp at he ⊢; exact .inr he)), ?_⟩
  have := EG.bind (U := fun σ vs H2 (R : It → Hp → Prop) => ∃ a b xs ys, vs = [.ref a, .ref b] ∧ ((SqL X.K H2 a xs ∧ SqL X.K H2 b ys ∧ R (Itz X.K a b) H2) ∨ (SqT X.K H2 a xs ∧ SqT X.K H2 b ys ∧ R (RZ.ItzT X.K a b) H2)))
    (f := fun env xs O1 => R.ofO ((fzL xs).bind zipX) O1) (rel' := relI X.K) ka ?_
  · simp only [evI]; exact this
  · intro σ env H0 xs O1 vs G H G1 H1 fp w e o rl fr
    refine Goal.ofO fun ds hz => ?_
    obtain ⟨ws, hd, hz⟩ := Option.bind_eq_some_iff.mp hz
    have dn := KReps.frz o.sub fp rl (fun _ h => h) hd
    have e' := e.ofFr o.sub fr
    have o' := o.ofFr fr
    rcases zipX_inv hz with ⟨d1, d2, rfl, rfl⟩ | ⟨d1, d2, rfl, rfl⟩
    · clear hz
      obtain ⟨v1, r1, rfl, q1, dn⟩ := dn.inv
      obtain ⟨v2, r2, rfl, q2, dn⟩ := dn.inv
      rw [dn.inv0]
      unfold Den at q1 q2
      obtain ⟨a, us, rfl, h1, t1⟩ := q1
      obtain ⟨b, ws, rfl, h2, t2⟩ := q2
      exact Goal.iter e' o' (jok_zip h1 t1 h2 t2) fun R r => ⟨a, b, us, ws, rfl, .inl ⟨.of (o'.sub a _ h1), .of (o'.sub b _ h2), r⟩⟩
    · clear hz
      obtain ⟨v1, r1, rfl, q1, dn⟩ := dn.inv
      obtain ⟨v2, r2, rfl, q2, dn⟩ := dn.inv
      rw [dn.inv0]
      unfold Den at q1 q2
      obtain ⟨a, us, rfl, h1, t1⟩ := q1
      obtain ⟨b, ws, rfl, h2, t2⟩ := q2
      exact Goal.iter e' o' (jok_zipT h1 t1 h2 t2) fun R r => ⟨a, b, us, ws, rfl, .inr ⟨o'.sub.sqT h1, o'.sub.sqT h2, r⟩⟩
end
end Ev

namespace Ev
open PySem PySem.Spec PyProof.Rows L2
/-! ### one reading for all contexts -/
def Post {α β : Type} (gt : Gt) (K : PySem.W.Frag) (W : XK) (rel : Rel α β) (G : Gh) (H : Hp) (r : R β) (Q : α → Hp → Prop) : Prop := match r with
  | .ok x O' => ∀ v G' H' fp, Ext G G' H H' → GOk K G' H' O' → rel x G' H' v fp → Fresh H G' fp → Q v H'
  | .exc x O' => ∀ cls dx G' H', Ext G G' H H' → GOk K G' H' O' → ExR gt K x G' cls dx → W cls dx H'
  | .stk => False
theorem Goal.post {α β : Type} {gt : Gt} {K : PySem.W.Frag} {W : XK} {rel : Rel α β} {G : Gh} {H : Hp} {r : R β} {P : (α → Hp → Prop) → Prop} {Q : α → Hp → Prop} (g : Goal gt K W rel G H r P) (p : Post gt K W rel G H r Q) : P Q := by
  cases r with
  | ok x O' => exact g Q p
  | exc x O' => exact g Q p
  | stk => exact p.elim
def can {α β : Type} (gt : Gt) (K : PySem.W.Frag) (W : WX) (rel : Rel α β) (m : List Sl → Sto → R β) : St → Hp → (α → Hp → Prop) → Prop := fun σ H Q => ∃ G O env H0, GOk K G H O ∧ EnvOk K H0 G H σ env ∧ Post gt K (fun c d H' => W c d σ H') rel G H (m env O) Q
abbrev WF : WX := fun _ _ _ _ => False
section
variable {gt : Gt} {n : Nat} {g : Glo} {sc : Scp} {X : Cx} {W : WX}
theorem PE.can {e : Expr} {t : TE} {m : List Sl → Sto → R XD} (h : PE X e t) (k : EG gt X W (KRep X.K) t m) : PE X e (can gt X.K W (KRep X.K) m) :=
  ⟨fun pins s σ H Q I ⟨G, O, env, H0, o, w, p⟩ => h.run pins s σ H Q I ((k G H O σ env H0 o w).post p)⟩
theorem PTs.can {es : List Expr} {t : TT} {m : List Sl → Sto → R Bool} (h : PTs X es t) (k : EG gt X W relB t m) : PTs X es (can gt X.K W relB m) :=
  ⟨fun pins s σ H Q I ⟨G, O, env, H0, o, w, p⟩ => h.run pins s σ H Q I ((k G H O σ env H0 o w).post p)⟩
def gCan (K : PySem.W.Frag) (t : T) : TG := fun v σ H Q => ∃ G H0 env env' d, Sub G.F H ∧ EnvOk K H0 G H σ env ∧ Den K G d v ∧ asg t d env = some env' ∧ ∀ σ', EnvOk K H0 G H σ' env' → But t.own σ σ' → Q σ' H
theorem PG.can {e : Expr} {t : T} {g : TG} (h : PG X e g) (k : GG X t g) : PG X e (gCan X.K t) :=
  ⟨fun pins s σ H v u Q I r ⟨G, H0, env, env', d, s', w, dn, ha, q⟩ => h.run pins s σ H v u Q I r (k G H H0 σ env env' d v s' w dn ha Q q)⟩
theorem R.bind_eq_ok {α β : Type} {r : R α} {f : α → Sto → R β} {b : β} {O : Sto} (h : r.bind f = .ok b O) : ∃ a O1, r = .ok a O1 ∧ f a O1 = .ok b O := by
  cases r with
  | ok a O1 => exact ⟨a, O1, rfl, h⟩
  | exc x O1 => cases h
  | stk => cases h
theorem R.ofO_eq_ok {α : Type} {o : Option α} {O O' : Sto} {a : α} (h : R.ofO o O = .ok a O') : o = some a ∧ O' = O := by
  cases o with
  | none => cases h
  | some b => cases h; exact ⟨rfl, rfl⟩
theorem folded_ok {e : Expr} {env : PySem.Env} (h : (match e with | .Set .. => false | _ => true) = true) : ∀ x, foldedSetIterable e env x = pure x := fun x => by
  cases e <;> first | rfl | (cases h; done)
/-- a block's context -/
theorem blk_ok {scope : Scope} {own : List (Str × Nat)} (ok : XOk gt n g.fn g.blt g.glb g.dfl sc X W) (b : BlkOk sc.N (scOf sc) scope own) (s : Shared) (H : Hp) (C : Addr) (cl : List (Str × Addr)) (fp : List Addr) :
    XOk gt n g.fn g.blt g.glb g.dfl (inner sc scope) (X.blk s H scope (compEnvC scope cl C X.env) fp) WF where
  kind := b.kind
  N := ok.N
  nd := ok.nd
  names := by
    show (relS scope X.env.scope).names = relN scope.names sc.names
    unfold relS relN
    rw [ok.kind, ok.names]
    simp
  sto := fun x h => by
    have h : (scope.names.lookup x == some .cell || decide ((relN scope.names sc.names).lookup x = some .local)) = true := h
    rw [Bool.or_eq_true] at h
    rcases h with h | h
    · exact .inl h
    · refine .inr ?_
      show (relS scope X.env.scope).names.lookup x = some .local
      have e : (relS scope X.env.scope).names = relN scope.names sc.names := by
        unfold relS relN
        rw [ok.kind, ok.names]
        simp
      rw [e]
      exact of_decide_eq_true h
  calm := ok.calm
  un := ok.un
  md := ⟨ok.md.fnn, fun i r h => ⟨(ok.md.fns i r h).glob, (ok.md.fns i r h).keep, (ok.md.fns i r h).binds, (ok.md.fns i r h).ok⟩, ok.md.blt, ok.md.glb, ok.md.dfl⟩
  tk := takes0
theorem XOk.t (ok : XOk gt n g.fn g.blt g.glb g.dfl sc X W) : TOk sc X := ⟨ok.N, ok.nd, ok.names, ok.sto, fun h => (ok.calm h).1⟩
theorem BlkOk.to {scope : Scope} {own : List (Str × Nat)} (ok : XOk gt n g.fn g.blt g.glb g.dfl sc X W) (b : BlkOk sc.N (scOf sc) scope own) : BlkOk X.N X.env.scope scope own :=
  ⟨b.kind, b.uniq, by rw [ok.N]; exact b.ix, by rw [ok.names]; exact b.free, by rw [ok.N]; exact b.own⟩
/-- what a comprehension has made so far -/
def Acc (K : PySem.W.Frag) (H1 : Hp) (D : Addr) (m : Nat) (G : Gh) (H : Hp) (acc : List Ev.D) : Prop := ∃ vs fs, H D = some (.lst vs) ∧ Own3 (Own K G H m) acc vs fs ∧ Fresh H1 G (D :: fs.flatten)
theorem Acc.ext {K : PySem.W.Frag} {H1 : Hp} {D : Addr} {m : Nat} {G G' : Gh} {H H' : Hp} {acc : List Ev.D} (x : Ext G G' H H') (a : Acc K H1 D m G H acc) : Acc K H1 D m G' H' acc := by
  obtain ⟨vs, fs, h, o, f⟩ := a
  have trk : ∀ b ∈ D :: fs.flatten, H b ≠ none := fun b hb => by
    rcases List.mem_cons.mp hb with hb | hb
    · rw [hb, h]; simp
    · exact Own3.trk (P := Own K G H m) (fun d v f a o ha => Own.trk m d v f o a ha) o b hb
  have same : ∀ b ∈ D :: fs.flatten, H' b = H b := fun b hb => by
    cases q : H b with
    | none => exact absurd q (trk b hb)
    | some u => rw [x.kp b u q (f.nA b hb)]
  exact ⟨vs, fs, (same D List.mem_cons_self).trans h, o.keep x.le fun b hb => same b (List.mem_cons_of_mem _ hb), f.ext x trk⟩
theorem Own3.snoc {P : Ev.D → V → List Addr → Prop} : ∀ {ds : List Ev.D} {vs : List V} {fs : List (List Addr)} {d : Ev.D} {v : V} {f : List Addr}, Own3 P ds vs fs → P d v f → Own3 P (ds ++ [d]) (vs ++ [v]) (fs ++ [f])
  | [], _, _, d, v, f, x, p => by
    unfold Own3 at x
    rw [x.1, x.2]
    show Own3 P [d] [v] [f]
    unfold Own3
    exact ⟨v, [], f, [], rfl, rfl, p, by unfold Own3; exact ⟨rfl, rfl⟩⟩
  | e :: ds, _, _, d, v, f, x, p => by
    unfold Own3 at x
    obtain ⟨w, r, f', g, rfl, rfl, q, t⟩ := x
    show Own3 P (e :: (ds ++ [d])) _ _
    unfold Own3
    exact ⟨w, r ++ [v], f', g ++ [f], rfl, rfl, q, Own3.snoc t p⟩
/-- one more item -/
theorem Acc.push {K : PySem.W.Frag} {H1 H3 : Hp} {D : Addr} {m : Nat} {G1 G3 G4 : Gh} {H4 : Hp} {O : Sto} {acc : List Ev.D} {x : XD} {d : Ev.D} {y : V} {fp : List Addr} (e1 : Ext G1 G4 H1 H4) (o : GOk K G4 H4 O) (a3 : Acc K H1 D m G3 H3 acc)
    (rl : KRep K x G4 H4 y fp) (fr : Fresh H3 G4 fp) (e13 : Ext G1 G3 H1 H3) (e34 : Ext G3 G4 H3 H4) (hk : x.kid m = some d) : ∃ vs, H4 D = some (.lst vs) ∧ vs.length = acc.length ∧ ∃ G5, Le G4 G5 ∧ Ext G1 G5 H1 (upd H4 D (.lst (vs ++ [y]))) ∧ GOk K G5 (upd H4 D (.lst (vs ++ [y]))) O ∧ Acc K H1 D m G5 (upd H4 D (.lst (vs ++ [y]))) (acc ++ [d]) := by
  obtain ⟨vs, fs, h', o3', f'⟩ := a3
  have trk3 : ∀ b ∈ D :: fs.flatten, H3 b ≠ none := fun b hb => by
    rcases List.mem_cons.mp hb with hb | hb
    · rw [hb, h']; simp
    · exact Own3.trk (P := Own K G3 H3 m) (fun d v f a o ha => Own.trk m d v f o a ha) o3' b hb
  have same : ∀ b ∈ D :: fs.flatten, H4 b = H3 b := fun b hb => by
    cases q : H3 b with
    | none => exact absurd q (trk3 b hb)
    | some u => rw [e34.kp b u q (f'.nA b hb)]
  have h : H4 D = some (.lst vs) := (same D List.mem_cons_self).trans h'
  have o3 : Own3 (Own K G4 H4 m) acc vs fs := o3'.keep e34.le fun b hb => same b (List.mem_cons_of_mem _ hb)
  have f : Fresh H1 G4 (D :: fs.flatten) := f'.ext e34 trk3
  have trk : ∀ b ∈ fs.flatten, H4 b ≠ none := Own3.trk (P := Own K G4 H4 m) (fun d v f a o ha => Own.trk m d v f o a ha) o3
  have DH1 : H1 D = none := (f.new D List.mem_cons_self).1
  have DF : G4.F D = none := (f.new D List.mem_cons_self).2.1
  have DA : D ∉ G4.A := f.nA D List.mem_cons_self
  have Dfs : D ∉ fs.flatten := (List.nodup_cons.mp f.nd).1
  have Dfp : D ∉ fp := fun z => trk3 D List.mem_cons_self (fr.new D z).1
  have fr1 : Fresh H1 G4 fp := Fresh.pre e13 fr
  refine ⟨vs, h, o3.len, ?_⟩
  -- a heap where D alone is another list
  have updx : ∀ {G5 : Gh}, Ext G1 G5 H1 H4 → G5.F D = none → D ∉ G5.A → GOk K G5 H4 O → Ext G1 G5 H1 (upd H4 D (.lst (vs ++ [y]))) ∧ GOk K G5 (upd H4 D (.lst (vs ++ [y]))) O := fun {G5} x nF nA k => by
    refine ⟨⟨x.fs, x.fn, x.ap, fun b u q n => ?_, fun b q => ?_⟩, ⟨fun b u q => ?_, k.len, fun i ds q => ?_, k.nd, k.nf⟩⟩
    · rw [upd_ne (fun z => by rw [z, DH1] at q; cases q)]
      exact x.kp b u q n
    · by_cases z : b = D
      · rw [z, upd_same]; simp
      · rw [upd_ne z]; exact x.tr b q
    · rw [upd_ne (fun z => by rw [z, nF] at q; cases q)]
      exact k.sub b u q
    · obtain ⟨b, us, h1, h2, h3⟩ := k.obs i ds q
      exact ⟨b, us, h1, by rw [upd_ne (fun z => nA (by rw [← z]; exact List.mem_of_getElem? h1))]; exact h2, h3⟩
  have fin : ∀ {G5 : Gh} {f0 : List Addr}, Ext G1 G5 H1 H4 → Le G4 G5 → G5.F D = none → D ∉ G5.A → GOk K G5 H4 O → Own K G5 H4 m d y f0 → D ∉ f0 → Fresh H1 G5 f0 → (∀ b ∈ f0, b ∉ fs.flatten) → (∀ b ∈ fs.flatten, G5.F b = none ∧ b ∉ G5.A) →
      ∃ G5, Le G4 G5 ∧ Ext G1 G5 H1 (upd H4 D (.lst (vs ++ [y]))) ∧ GOk K G5 (upd H4 D (.lst (vs ++ [y]))) O ∧ Acc K H1 D m G5 (upd H4 D (.lst (vs ++ [y]))) (acc ++ [d]) := fun {G5 f0} x l nF nA k ow nD fr0 ap nfs => by
    obtain ⟨x', k'⟩ := updx x nF nA k
    refine ⟨G5, l, x', k', vs ++ [y], fs ++ [f0], upd_same, ?_, ?_⟩
    · refine Own3.snoc (o3.keep l fun b hb => upd_ne (fun z => Dfs (z ▸ hb))) (Own.keep (Le.refl _) m d y f0 (fun b hb => upd_ne (fun z => nD (z ▸ hb))) ow)
    · rw [List.flatten_append]
      have ff : [f0].flatten = f0 := by simp
      rw [ff]
      refine ⟨List.nodup_cons.mpr ⟨fun z => (List.mem_append.mp z).elim Dfs nD, List.nodup_append.mpr ⟨(List.nodup_cons.mp f.nd).2, fr0.nd, fun b hb c hc z => ap c hc (z ▸ hb)⟩⟩, fun b hb => ?_⟩
      rcases List.mem_cons.mp hb with hb | hb
      · rw [hb]; exact ⟨DH1, nF, nA⟩
      · rcases List.mem_append.mp hb with hb | hb
        · exact ⟨(f.new b (List.mem_cons_of_mem _ hb)).1, nfs b hb⟩
        · exact fr0.new b hb
  have fpfs : ∀ b ∈ fp, b ∉ fs.flatten := fun b hb z => trk3 b (List.mem_cons_of_mem _ z) (fr.new b hb).1
  cases m with
  | zero =>
    have dn : Den K (G4.fr H4 fp) d y := rl.frz1 o.sub (by simpa [XD.kid] using hk)
    have fs0 : fs.flatten = [] := (Own3.den o3).2
    refine fin (f0 := []) (e1.ofFr o.sub fr1) (Gh.fr_le o.sub fp) ?_ DA (o.ofFr fr1) ⟨rfl, dn⟩ (by simp) Fresh.nil (fun b hb => by cases hb) (fun b hb => by rw [fs0] at hb; cases hb)
    show (if D ∈ fp then H4 D else G4.F D) = none
    rw [if_neg Dfp]; exact DF
  | succ m =>
    cases x with
    | ow k d' =>
      simp only [XD.kid] at hk
      split at hk
      · rename_i hm
        cases hk
        subst hm
        exact fin e1 (Le.refl _) DF DA o rl Dfp fr1 fpfs fun b hb => (f.new b (List.mem_cons_of_mem _ hb)).2
      · cases hk
    | fz _ => simp [XD.kid] at hk
    | br _ _ => simp [XD.kid] at hk
end
end Ev

namespace Ev
open PySem PySem.Spec PyProof.Rows L2
section
variable {gt : Gt} {n : Nat} {g : Glo} {sc : Scp} {X : Cx} {W : WX}
/-- one turn of a comprehension -/
noncomputable def lcF (call : Nat → List D → Sto → R XD) (m : Nat) (t : T) (c : Es) (e : E) (env : List Sl) (d : D) (O2 : Sto) : R (Option D) :=
  (R.ofO (asg t d (wipeE env t.own)) O2).bind fun env' O2 => (evC call c env' O2).bind fun b O3 => if b = true then (ev call e env' O3).bind fun x O4 => .ofO ((x.kid m).map some) O4 else .ok none O3
theorem ev_lc (call : Nat → List D → Sto → R XD) (m : Nat) (t : T) (i : I) (c : Es) (e : E) : ev call (.lc m t i c e) = fun env O => (evI call i env O).bind fun ds O1 => (lcM (lcF call m t c e env) ds [] O1).nox.bind fun ds' O2 => .ok (.ow (m + 1) (.lst ds')) O2 := by
  funext env O
  simp only [ev]
  rfl
theorem wipe_idem (σ : St) (vs : List Nat) : L2.wipe (L2.wipe σ vs) vs = L2.wipe σ vs := by
  apply List.ext_getElem?
  intro j
  rw [wipe_get, wipe_get]
  by_cases h : j ∈ vs
  · rw [if_pos h, if_pos h]
    cases σ[j]? <;> rfl
  · rw [if_neg h, if_neg h]
theorem lc_eg {m : Nat} {t : T} {i : I} {c : Es} {e : E} {tg iter : Expr} {wi : TI} (pi : PI X tg iter wi) (ki : EG gt X W (relI X.K) wi (evI (run gt.C n) i)) (own : (ownOf sc t.own).map (·.2) = t.own) :
    EG gt X W (KRep X.K) (tLc wi (gCan X.K t) (can gt X.K WF relB (evC (run gt.C n) c)) (can gt X.K WF (KRep X.K) (ev (run gt.C n) e)) ((ownOf sc t.own).map (·.2))) (ev (run gt.C n) (.lc m t i c e)) := by
  rw [own, ev_lc]
  refine EG.bind (rel' := KRep X.K) (U := fun σ J H1 (Q : VK) => ∀ Dd, H1 Dd = none → ∃ W : Nat → Nat → Hp → Prop, (∃ m, W 0 m (upd H1 Dd (.lst []))) ∧ ∀ i m H, W i m H →
      (J.stop i H ∧ Q (.ref Dd) H) ∨ (J.go i H ∧ ∃ Nx : Hp → Prop, (∀ H', Nx H' → ∃ m', m' < m ∧ W (i + 1) m' H') ∧ ∀ x H', J.yld i H x H' → gCan X.K t x (wipe σ t.own) H' fun σ2 H2 => wipe σ2 t.own = wipe σ t.own ∧ can gt X.K WF relB (evC (run gt.C n) c) σ2 H2 fun b H3 =>
        if b = true then can gt X.K WF (KRep X.K) (ev (run gt.C n) e) σ2 H3 fun y H4 => ∃ acc, H4 Dd = some (.lst acc) ∧ acc.length < sizeLine ∧ Nx (upd H4 Dd (.lst (acc ++ [y]))) else Nx H3))
    (f := fun env ds O1 => (lcM (lcF (run gt.C n) m t c e env) ds [] O1).nox.bind fun ds' O2 => R.ok (.ow (m + 1) (.lst ds')) O2) ki ?_
  intro σ env H0 ds O1 J G H G1 H1 fp w e1 o1 rl fr
  obtain ⟨rfl, jk⟩ := rl
  cases hL : lcM (lcF (run gt.C n) m t c e env) ds [] O1 with
  | stk => exact trivial
  | exc x O2 => exact trivial
  | ok ds' O2 =>
    intro Q q Dd hD
    have DF : G1.F Dd = none := by
      cases z : G1.F Dd with
      | none => rfl
      | some u => rw [o1.sub Dd u z] at hD; cases hD
    have DA : Dd ∉ G1.A := fun ha => by
      obtain ⟨i, hi⟩ := List.getElem?_of_mem ha
      have hlt : i < O1.length := by rw [← o1.len]; exact (List.getElem?_eq_some_iff.mp hi).1
      cases q : O1[i] with
      | cell ds =>
        obtain ⟨b, vs, h1, h2, _⟩ := o1.obs i ds (by rw [List.getElem?_eq_getElem hlt, q])
        rw [hi] at h1; cases h1
        rw [hD] at h2; cases h2
    obtain ⟨x0, k0, ow0, f0⟩ := own_ext (K := X.K) (ds := []) (vs := []) o1 hD .nil
    refine ⟨fun i k Hc => i ≤ ds.length ∧ k = ds.length - i ∧ ∃ Gc Oc acc, Ext G1 Gc H1 Hc ∧ GOk X.K Gc Hc Oc ∧ Acc X.K H1 Dd m Gc Hc acc ∧ lcM (lcF (run gt.C n) m t c e env) (ds.drop i) acc Oc = .ok ds' O2,
      ⟨ds.length, Nat.zero_le _, by simp, G1, O1, [], x0, k0, ⟨[], [], upd_same, by unfold Own3; exact ⟨rfl, rfl⟩, f0⟩, hL⟩, ?_⟩
    rintro i k Hc ⟨hi, rfl, Gc, Oc, acc, ec, oc, ac, hc⟩
    by_cases hlt : i < ds.length
    · right
      have hd : ds[i]? = some ds[i] := List.getElem?_eq_getElem hlt
      obtain ⟨go, yl⟩ := jk.go Gc Hc Oc ec.le oc i _ hd
      rw [List.drop_eq_getElem_cons hlt] at hc
      unfold lcM at hc
      obtain ⟨r, O3, hf0, hc1⟩ := R.bind_eq_ok hc
      refine ⟨go, fun H' => ∃ Gn On acc', Ext G1 Gn H1 H' ∧ GOk X.K Gn H' On ∧ Acc X.K H1 Dd m Gn H' acc' ∧ lcM (lcF (run gt.C n) m t c e env) (ds.drop (i + 1)) acc' On = .ok ds' O2, fun H' hN => ⟨ds.length - (i + 1), by omega, hlt, rfl, hN⟩, fun x H'' y => ?_⟩
      obtain ⟨Gx, ex, ox, dn⟩ := yl x H'' y
      unfold lcF at hf0
      obtain ⟨env', O3', ha, hf1⟩ := R.bind_eq_ok hf0
      obtain ⟨ha2, hO3⟩ := R.ofO_eq_ok ha
      subst hO3
      obtain ⟨b, O4, hbb, hf2⟩ := R.bind_eq_ok hf1
      have wx := (w.ext (ec.trans ex)).wipe t.own
      refine ⟨Gx, H0, wipeE env t.own, env', _, ox.sub, wx, dn, ha2, fun σ2 w2 but => ⟨but.wipe.trans ?_, ?_⟩⟩
      · exact wipe_idem σ t.own
      · refine ⟨Gx, O3', env', H0, ox, w2, ?_⟩
        rw [hbb]
        rintro v G3 H3 fp3 e3 o3 ⟨rfl, rfl⟩ fr3
        cases v with
        | false =>
          rw [if_neg Bool.false_ne_true] at hf2
          cases hf2
          rw [if_neg Bool.false_ne_true]
          exact ⟨G3, O3, acc, (ec.trans ex).trans e3, o3, (ac.ext ex).ext e3, hc1⟩
        | true =>
          rw [if_pos rfl] at hf2
          rw [if_pos rfl]
          obtain ⟨xe, O5, hee, hf3⟩ := R.bind_eq_ok hf2
          obtain ⟨hk0, hO5⟩ := R.ofO_eq_ok hf3
          subst hO5
          obtain ⟨dk, hk, hr⟩ := Option.map_eq_some_iff.mp hk0
          subst hr
          refine ⟨G3, O4, env', H0, o3, w2.ext e3, ?_⟩
          rw [hee]
          intro y G4 H4 fp4 e4 o4 rl4 fr4
          have hc : (if acc.length < sizeLine then lcM (lcF (run gt.C n) m t c e env) (ds.drop (i + 1)) (acc ++ [dk]) O3 else .stk) = .ok ds' O2 := hc1
          split at hc
          · rename_i hlen
            obtain ⟨vs, h4, hl, G5, _, x5, o5, a5⟩ := Acc.push (((ec.trans ex).trans e3).trans e4) o4 ((ac.ext ex).ext e3) rl4 fr4 ((ec.trans ex).trans e3) e4 hk
            exact ⟨vs, h4, by rw [hl]; exact hlen, G5, O3, acc ++ [dk], x5, o5, a5, hc⟩
          · cases hc
    · left
      have hi' : i = ds.length := by omega
      subst hi'
      refine ⟨jk.stop Gc Hc Oc ec.le oc _ (Nat.le_refl _), ?_⟩
      rw [List.drop_length] at hc
      unfold lcM at hc
      cases hc
      obtain ⟨vs, fs, hv, o3, f⟩ := ac
      refine q (.ref Dd) Gc Hc (Dd :: fs.flatten) (e1.trans ec) oc ?_ (Fresh.pre e1 f)
      show Own X.K Gc Hc (m + 1) (.lst ds') (.ref Dd) _
      unfold Own
      exact ⟨Dd, vs, fs, rfl, hv, rfl, o3⟩
theorem s_lc {m : Nat} {t : T} {i : I} {c : Es} {e : E} {elt tg iter : Expr} {ifs : List Expr} {scope : Scope} {pos : Pos} (ok : XOk gt n g.fn g.blt g.glb g.dfl sc X W) (hc : sc.calm = true) (hb : blkC sc.N (scOf sc) scope (ownOf sc t.own) = true)
    (hT : chkT (inner sc scope) t tg = true) (hi : SI gt n X W i tg iter) (hs : ∀ x, foldedSetIterable iter X.env x = pure x)
    (hC : ∀ X' : Cx, XOk gt n g.fn g.blt g.glb g.dfl (inner sc scope) X' WF → ∃ tt, PTs X' ifs tt ∧ EG gt X' WF relB tt (evC (run gt.C n) c))
    (hE : ∀ X' : Cx, XOk gt n g.fn g.blt g.glb g.dfl (inner sc scope) X' WF → SE gt n X' WF e elt) : SE gt n X W (.lc m t i c e) (.ListComp elt [⟨tg, iter, ifs, 0⟩] scope pos) := by
  have blk := blkOk_by hb
  obtain ⟨wi, pi, ki⟩ := hi
  have own : (ownOf sc t.own).map (·.2) = t.own := by unfold ownOf; rw [List.map_map]; simp [Function.comp_def]
  have PX := pe_lc (own := ownOf sc t.own) (g := gCan X.K t) (tt := can gt X.K WF relB (evC (run gt.C n) c)) (te := can gt X.K WF (KRep X.K) (ev (run gt.C n) e)) (pos := pos) (elt := elt) (tg := tg) (iter := iter) (ifs := ifs) (scope := scope)
    (ok.calm hc).1 (by rw [ok.N]; exact ok.nd) pi (BlkOk.to ok blk)
    (fun s H C cl fp => by
      obtain ⟨g', pg, gg⟩ := sT (blk_ok ok blk s H C cl fp).t t tg hT
      exact Ev.PG.can pg gg)
    (fun s H C cl fp => by
      obtain ⟨tt, pt, kt⟩ := hC _ (blk_ok ok blk s H C cl fp)
      exact Ev.PTs.can pt kt)
    (fun s H C cl fp => by
      obtain ⟨te, pe, ke⟩ := (hE _ (blk_ok ok blk s H C cl fp)).v
      exact Ev.PE.can pe ke) hs
  exact SE.of PX (lc_eg pi ki own) (fun _ => rfl)
theorem ps_lc {m : Nat} {t : T} {i : I} {c : Es} {e : E} {elt tg iter : Expr} {ifs : List Expr} {scope : Scope} {pos : Pos} {j : Nat} {y : Str} {py spos : Pos} (hy : sc.N[j]? = some y) (hyl : sc.names.lookup y = some .local) (hsw : swapsWith (.ListComp elt [⟨tg, iter, ifs, 0⟩] scope pos) (some (.Name y py)) spos.line X.env = pure true) (ok : XOk gt n g.fn g.blt g.glb g.dfl sc X W) (hc : sc.calm = true) (hb : blkC sc.N (scOf sc) scope (ownOf sc t.own) = true)
    (hT : chkT (inner sc scope) t tg = true) (hi : SI gt n X W i tg iter) (hs : ∀ x, foldedSetIterable iter X.env x = pure x)
    (hC : ∀ X' : Cx, XOk gt n g.fn g.blt g.glb g.dfl (inner sc scope) X' WF → ∃ tt, PTs X' ifs tt ∧ EG gt X' WF relB tt (evC (run gt.C n) c))
    (hE : ∀ X' : Cx, XOk gt n g.fn g.blt g.glb g.dfl (inner sc scope) X' WF → SE gt n X' WF e elt) : ∃ t', PS X (.Assign [.Name y py] (.ListComp elt [⟨tg, iter, ifs, 0⟩] scope pos) spos) (tAsg t' (gName j)) ∧ EG gt X W (KRep X.K) t' (ev (run gt.C n) (.lc m t i c e)) := by
  have blk := blkOk_by hb
  obtain ⟨wi, pi, ki⟩ := hi
  have own : (ownOf sc t.own).map (·.2) = t.own := by unfold ownOf; rw [List.map_map]; simp [Function.comp_def]
  have PX := ps_setLc (i := j) (y := y) (py := py) (spos := spos) (own := ownOf sc t.own) (g := gCan X.K t) (tt := can gt X.K WF relB (evC (run gt.C n) c)) (te := can gt X.K WF (KRep X.K) (ev (run gt.C n) e)) (pos := pos) (elt := elt) (tg := tg) (iter := iter) (ifs := ifs) (scope := scope)
    (ok.calm hc).1 (by rw [ok.N]; exact ok.nd) (by rw [ok.N]; exact hy) (by rw [ok.names]; exact hyl) hsw pi (BlkOk.to ok blk)
    (fun s H C cl fp => by
      obtain ⟨g', pg, gg⟩ := sT (blk_ok ok blk s H C cl fp).t t tg hT
      exact Ev.PG.can pg gg)
    (fun s H C cl fp => by
      obtain ⟨tt, pt, kt⟩ := hC _ (blk_ok ok blk s H C cl fp)
      exact Ev.PTs.can pt kt)
    (fun s H C cl fp => by
      obtain ⟨te, pe, ke⟩ := (hE _ (blk_ok ok blk s H C cl fp)).v
      exact Ev.PE.can pe ke) hs
  exact ⟨_, PX, lc_eg pi ki own⟩
end
end Ev

/-! {elt for t0 in i0 if .. for t1 in i1 if ..}: a set of ints, made clause by clause -/
namespace Ev
open PySem PySem.Spec PyProof.Rows L2
abbrev sc2 (elt t0 i0 t1 i1 : Expr) (f0 f1 : List Expr) (scope : Scope) (pos : Pos) : Expr := .SetComp elt [⟨t0, i0, f0, 0⟩, ⟨t1, i1, f1, 0⟩] scope pos
abbrev tstS (fs : List Expr) (env : PySem.Env) : Sem Bool := forIn fs true fun c r => if r = true then do let ok ← isTrue c env (eval c env); pure (ForInStep.yield ok) else pure (ForInStep.yield r)
section
variable {P : Program} {w : World} {A : Around} {R : Result → Shared → Prop} {s : Shared} {it acc : Value} {env : PySem.Env}
abbrev NB (P : Program) (w : World) (A : Around) (env : PySem.Env) (R : Result → Shared → Prop) : Value → Shared → Prop := notedBy (model P w) A env fun e s' => R (.error e) s'
variable {elt t0 i0 t1 i1 : Expr} {f0 f1 : List Expr} {scope : Scope} {pos : Pos}
/-- what the last clause's turn does -/
def addS (elt : Expr) (acc : Value) (env : PySem.Env) : Sem Unit := do
  let v ← eval elt env
  standAt elt.pos
  let _ ← call (.builtin "set.add") [acc, v]
theorem sc2_out : compTurn (sc2 elt t0 i0 t1 i1 f0 f1 scope pos) 0 it acc env = (do
      standAt i0.pos
      match ← pyNext it with
      | none => pure (.done .next)
      | some v =>
        letOwnedTupleGo t0 it v
        assign t0 env v
        let ok ← tstS f0 env
        if ok = true then
          let x ← eval i1 env
          standAt i1.pos
          let x ← foldedSetIterable i1 env x
          let _ ← runOwn (.compStart (sc2 elt t0 i0 t1 i1 f0 f1 scope pos) 1 (← holding [x] (pyIter x)) acc env) env
        again (.compLoop (sc2 elt t0 i0 t1 i1 f0 f1 scope pos) 0 it acc env)) := by rfl
theorem sc2_in : compTurn (sc2 elt t0 i0 t1 i1 f0 f1 scope pos) 1 it acc env = (do
      standAt i1.pos
      match ← pyNext it with
      | none => pure (.done .next)
      | some v =>
        letOwnedTupleGo t1 it v
        assign t1 env v
        let ok ← tstS f1 env
        if ok = true then addS elt acc env
        again (.compLoop (sc2 elt t0 i0 t1 i1 f0 f1 scope pos) 1 it acc env)) := by rfl
theorem addS_ok {elt : Expr} {Q : Unit → Shared → Prop} {E : Value → Shared → Prop} (h : wpAny (model P w) A (eval elt env) (fun x s1 => wpAny (model P w) A (call (.builtin "set.add") [acc, x]) (fun _ s2 => Q () s2) E s1) E s) : wpAny (model P w) A (addS elt acc env) Q E s :=
  wpAny_bind (wpAny_mono h (fun x s1 h1 => wpAny_bind (wpAny_standAt (wpAny_bind (wpAny_mono h1 (fun _ s2 h2 => wpAny_pure h2) fun _ _ z => z)))) fun _ _ z => z)
/-- the first clause's loop -/
theorem loop_out (hs : ∀ x, foldedSetIterable i1 env x = pure x) (J : Nat → Shared → Prop)
    (turn : ∀ n s, J n s → wpAny (model P w) A (pyNext it) (fun r s1 => match r with
      | none => R (.ok .next) s1
      | some v => wpAny (model P w) A (letOwnedTupleGo t0 it v) (fun _ s2 => wpAny (model P w) A (assign t0 env v) (fun _ s3 => wpAny (model P w) A (tstS f0 env) (fun ok s4 =>
          if ok = true then wpAny (model P w) A (eval i1 env) (fun x s5 => wpAny (model P w) A (pyIter x) (fun it1 s6 =>
            codeAny (model P w) A (.compStart (sc2 elt t0 i0 t1 i1 f0 f1 scope pos) 1 it1 acc env) (fun r s' => match r with
              | .ok _ => ∃ m, m < n ∧ J m s'
              | .error _ => False) s6) (NB P w A env R) s5) (NB P w A env R) s4 else ∃ m, m < n ∧ J m s4) (NB P w A env R) s3) (NB P w A env R) s2) (NB P w A env R) s1) (NB P w A env R) s)
    (n : Nat) (h : J n s) : codeAny (model P w) A (.compLoop (sc2 elt t0 i0 t1 i1 f0 f1 scope pos) 0 it acc env) R s := by
  refine codeAny_loop rfl J (fun k s1 hJ => ?_) n h
  show wpAny _ A ((compTurn (sc2 elt t0 i0 t1 i1 f0 f1 scope pos) 0 it acc env).onRaise fun x => do noteFrame x env; theTreesLotGoes x) _ _ s1
  refine wpAny_noted ?_
  rw [sc2_out]
  refine wpAny_bind (wpAny_standAt (wpAny_bind (wpAny_mono (turn k s1 hJ) (fun r s2 h2 => ?_) fun _ _ z => z)))
  cases r with
  | none => exact wpAny_pure h2
  | some v =>
    refine wpAny_bind (wpAny_mono h2 (fun _ s3 h3 => wpAny_bind (wpAny_mono h3 (fun _ s4 h4 => wpAny_bind (wpAny_mono h4 (fun ok s5 h5 => ?_) fun _ _ z => z)) fun _ _ z => z)) fun _ _ z => z)
    cases ok with
    | false => exact wpAny_pure ⟨rfl, h5⟩
    | true =>
      refine wpAny_bind (wpAny_mono h5 (fun x s6 h6 => ?_) fun _ _ z => z)
      refine wpAny_bind (wpAny_standAt (wpAny_bind (wpAny_of_eq (hs x) (wpAny_bind (wpAny_holding (wpAny_mono h6 (fun it1 s7 h7 => ?_) fun _ _ z => z))))))
      refine wpAny_bind (wpAny_runOwn ?_)
      rw [Around.mark_none]
      refine codeAny_mono h7 fun r s' hr => ?_
      cases r with
      | ok f =>
        first
          | exact wpAny_pure ⟨rfl, hr⟩
          | exact wpAny_bind (wpAny_pure (wpAny_pure ⟨rfl, hr⟩))
      | error e => exact hr.elim
/-- the last clause's loop -/
theorem loop_in (J : Nat → Shared → Prop)
    (turn : ∀ n s, J n s → wpAny (model P w) A (pyNext it) (fun r s1 => match r with
      | none => R (.ok .next) s1
      | some v => wpAny (model P w) A (letOwnedTupleGo t1 it v) (fun _ s2 => wpAny (model P w) A (assign t1 env v) (fun _ s3 => wpAny (model P w) A (tstS f1 env) (fun ok s4 =>
          if ok = true then wpAny (model P w) A (addS elt acc env) (fun _ s5 => ∃ m, m < n ∧ J m s5) (NB P w A env R) s4 else ∃ m, m < n ∧ J m s4) (NB P w A env R) s3) (NB P w A env R) s2) (NB P w A env R) s1) (NB P w A env R) s)
    (n : Nat) (h : J n s) : codeAny (model P w) A (.compLoop (sc2 elt t0 i0 t1 i1 f0 f1 scope pos) 1 it acc env) R s := by
  refine codeAny_loop rfl J (fun k s1 hJ => ?_) n h
  show wpAny _ A ((compTurn (sc2 elt t0 i0 t1 i1 f0 f1 scope pos) 1 it acc env).onRaise fun x => do noteFrame x env; theTreesLotGoes x) _ _ s1
  refine wpAny_noted ?_
  rw [sc2_in]
  refine wpAny_bind (wpAny_standAt (wpAny_bind (wpAny_mono (turn k s1 hJ) (fun r s2 h2 => ?_) fun _ _ z => z)))
  cases r with
  | none => exact wpAny_pure h2
  | some v =>
    refine wpAny_bind (wpAny_mono h2 (fun _ s3 h3 => wpAny_bind (wpAny_mono h3 (fun _ s4 h4 => wpAny_bind (wpAny_mono h4 (fun ok s5 h5 => ?_) fun _ _ z => z)) fun _ _ z => z)) fun _ _ z => z)
    cases ok with
    | false => exact wpAny_pure ⟨rfl, h5⟩
    | true => exact wpAny_bind (wpAny_mono h5 (fun _ s6 h6 => wpAny_pure ⟨rfl, h6⟩) fun _ _ z => z)
theorem start1 (a : codeAny (model P w) A (.compLoop (sc2 elt t0 i0 t1 i1 f0 f1 scope pos) 1 it acc env) R s)
    (b : wpAny (model P w) A (pyIter it) (fun it2 s2 => codeAny (model P w) A (.compLoop (sc2 elt t0 i0 t1 i1 f0 f1 scope pos) 1 it2 acc env) R s2) (NB P w A env R) s) :
    codeAny (model P w) A (.compStart (sc2 elt t0 i0 t1 i1 f0 f1 scope pos) 1 it acc env) R s := by
  refine codeAny_of_tree ?_
  show wpAny _ _ ((compStart (sc2 elt t0 i0 t1 i1 f0 f1 scope pos) 1 it acc env).onRaise fun x => do noteFrame x env; standAt theWindowsPlace) _ _ s
  refine wpAny_notedAt ?_
  unfold compStart
  show wpAny _ _ (ask >>= _) _ _ s
  refine wpAny_bind (wpAny_askSetting (wpAny_ite ?_))
  split
  · first
      | exact wpAny_bind (wpAny_pure (wpAny_pure ⟨rfl, a⟩))
      | exact wpAny_pure ⟨rfl, a⟩
  · first
      | exact wpAny_bind (wpAny_rule (wpAny_bind (wpAny_standAt (wpAny_bind (wpAny_mono b (fun it2 s2 k => wpAny_pure ⟨rfl, k⟩) fun _ _ z => z)))))
      | (refine wpAny_bind (wpAny_rule ?_); show wpAny _ _ (standAt i1.pos >>= _) _ _ s; exact wpAny_bind (wpAny_standAt (wpAny_bind (wpAny_mono b (fun it2 s2 k => wpAny_pure ⟨rfl, k⟩) fun _ _ z => z))))
end
section
variable {X : Cx}
/-- the reading: D the new set; behind the first clause's tests the second source's own loop, from which Nx is come to -/
def tSc2 (w : World) (wi : TI) (g : TG) (tt : TT) (wi1 : TI) (g1 : TG) (tt1 : TT) (te : TE) (vs vs1 : List Nat) : TE := fun σ H Q => wi σ H fun J H1 => ∀ a, H1 a = none → ∃ W : Nat → Nat → Hp → Prop, (∃ m, W 0 m (upd H1 a (SetO w a (fun _ => false) 0))) ∧ ∀ i m H, W i m H →
  (J.stop i H ∧ Q (.ref a) H) ∨ (J.go i H ∧ ∃ Nx : Hp → Prop, (∀ H', Nx H' → ∃ m', m' < m ∧ W (i + 1) m' H') ∧ ∀ x H', J.yld i H x H' → g x (wipe σ vs) H' fun σ2 H2 => wipe σ2 vs = wipe σ vs ∧ tt σ2 H2 fun b H3 =>
    if b = true then wi1 σ2 H3 fun J1 H4 => ∃ W1 : Nat → Nat → Hp → Prop, (∃ m, W1 0 m H4) ∧ ∀ j k H, W1 j k H →
      (J1.stop j H ∧ Nx H) ∨ (J1.go j H ∧ ∃ Nx1 : Hp → Prop, (∀ H', Nx1 H' → ∃ k', k' < k ∧ W1 (j + 1) k' H') ∧ ∀ x H', J1.yld j H x H' → g1 x (wipe σ2 vs1) H' fun σ3 H5 => wipe σ3 vs1 = wipe σ2 vs1 ∧ tt1 σ3 H5 fun b H6 =>
        if b = true then te σ3 H6 fun y H7 => ∃ (z : Int) (S : Int → Bool) (c : Nat), y = .int z ∧ H7 a = some (SetO w a S c) ∧ c + 1 < scanBound ∧ Nx1 (upd H7 a (SetO w a (fun j => S j || decide (j = z)) (if S z = true then c else c + 1))) else Nx1 H6)
    else Nx H3)
theorem pe_sc2 {elt tg iter tg1 iter1 : Expr} {ifs ifs1 : List Expr} {scope : Scope} {own : List (Str × Nat)} {vs1 : List Nat} {pos : Pos} {wi wi1 : TI} {g g1 : TG} {tt tt1 : TT} {te : TE} (hc : X.calm = true) (hN : X.N.Nodup) (hi : PI X tg iter wi) (bk : BlkOk X.N X.env.scope scope own) (hv : ∀ i ∈ vs1, i ∈ own.map (·.2))
    (hg : ∀ s H C cl fp, PG (X.blk s H scope (compEnvC scope cl C X.env) fp) tg g) (ht : ∀ s H C cl fp, PTs (X.blk s H scope (compEnvC scope cl C X.env) fp) ifs tt)
    (hi1 : ∀ s H C cl fp, PI (X.blk s H scope (compEnvC scope cl C X.env) fp) tg1 iter1 wi1)
    (hg1 : ∀ s H C cl fp, PG (X.blk s H scope (compEnvC scope cl C X.env) fp) tg1 g1) (ht1 : ∀ s H C cl fp, PTs (X.blk s H scope (compEnvC scope cl C X.env) fp) ifs1 tt1)
    (he : ∀ s H C cl fp, PE (X.blk s H scope (compEnvC scope cl C X.env) fp) elt te) (hs : ∀ x, foldedSetIterable iter X.env x = pure x) (hs1 : ∀ env x, foldedSetIterable iter1 env x = pure x) :
    PE X (sc2 elt tg iter tg1 iter1 ifs ifs1 scope pos) (tSc2 X.w wi g tt wi1 g1 tt1 te (own.map (·.2)) vs1) := by
  refine ⟨fun pins s σ H Q I h => ?_⟩
  rw [arm_eval_SetComp]
  have hfree : ∀ y ∈ scope.names, y.2 = .free → ∃ c, X.env.cells.lookup y.1 = some c := fun y hy e => (bk.free y hy e).elim (fun k => I.ok.has _ (.inl k)) fun k => I.ok.has _ (.inr k)
  refine wpAny_comprehension_free (use := none) rfl hs (closure_ok hfree) bk.kind (fun y hy e => by rw [bk.uniq y hy, e]) (thn (hi.run pins s σ H _ I h) fun xv s1 hx => thn hx fun itv s2 ⟨it, fp, tn, J, H2, e2, I2, T, st2, f2, q⟩ => ?_)
  subst e2
  refine wpAny_newSet_raw fun led eled => newEnv_comp ?_
  obtain ⟨a, ea⟩ : ∃ a, s2.heap.objs.size = a := ⟨_, rfl⟩
  rw [ea]
  have na : H2 a = none := I2.hok.fresh (Nat.le_of_eq ea)
  obtain ⟨W, ⟨m0, w0⟩, turn⟩ := q a na
  obtain ⟨s3, e3⟩ : ∃ s3 : Shared, ({ s2 with heap := s2.heap.push { cls := .type "set", dict := none, data := .set #[] 0 (.fresh 0 0 led) } } : Shared) = s3 := ⟨_, rfl⟩
  rw [e3]
  have hp3 : s3.heap = s2.heap.push { cls := .type "set", dict := none, data := .set #[] 0 (.fresh 0 0 led) } := by rw [← e3]
  have I3 : Inv X pins σ (upd H2 a (SetO X.w a (fun _ => false) 0)) s3 := by
    rw [← e3, ← ea]
    refine I2.laid (t' := s2.toks) (fun b o z => Heap.get?_push_of_some _ z) (Nat.le_refl _) (setO_new ?_)
    subst eled
    exact setR_fresh X.w
  have below : ∀ b ∈ fp, b < s2.heap.objs.size := fun b hb => by
    obtain ⟨o, z, _⟩ := T.obj _ _ st2 b hb
    exact Heap.lt_size z
  have f3 : ∀ b ∈ fp, FpOk X pins (upd H2 a (SetO X.w a (fun _ => false) 0)) b ∧ b < s3.heap.objs.size := fun b hb => by
    have l := below b hb
    refine ⟨⟨?_, (f2 b hb).2⟩, by rw [hp3, Heap.size_push]; exact Nat.lt_succ_of_lt l⟩
    rw [upd_ne (by rw [← ea]; exact Nat.ne_of_lt l)]
    exact (f2 b hb).1
  have st3 : tn 0 s3.heap := T.keep _ _ _ st2 fun b _ o z => by rw [hp3]; exact Heap.get?_push_of_some _ z
  have I4 := block_start I3 bk hN f3
  obtain ⟨cs, ecs⟩ : ∃ cs, cellsFrom (s3.heap.objs.size + 1) scope.names (cloFrom X.env.cells scope.names []) = cs := ⟨_, rfl⟩
  have pg := hg s3 (upd H2 a (SetO X.w a (fun _ => false) 0)) s3.heap.objs.size cs fp
  have pt := ht s3 (upd H2 a (SetO X.w a (fun _ => false) 0)) s3.heap.objs.size cs fp
  have pe := he s3 (upd H2 a (SetO X.w a (fun _ => false) 0)) s3.heap.objs.size cs fp
  have pi1 := hi1 s3 (upd H2 a (SetO X.w a (fun _ => false) 0)) s3.heap.objs.size cs fp
  have pg1 := hg1 s3 (upd H2 a (SetO X.w a (fun _ => false) 0)) s3.heap.objs.size cs fp
  have pt1 := ht1 s3 (upd H2 a (SetO X.w a (fun _ => false) 0)) s3.heap.objs.size cs fp
  rw [← ecs] at pg pt pe pi1 pg1 pt1
  have n3 : ∀ b ∈ fp, (upd H2 a (SetO X.w a (fun _ => false) 0)) b = none := fun b hb => (f3 b hb).1.1
  show codeAny _ _ (.compStart (sc2 elt tg iter tg1 iter1 ifs ifs1 scope pos) 0 (.ref it) (.ref a) (compEnvC scope (cellsFrom (s3.heap.objs.size + 1) scope.names (cloFrom X.env.cells scope.names [])) s3.heap.objs.size X.env)) (compPost (model X.prog X.w) X.A X.xe none _ (.ref a) s3.heap.objs.size)
    { s3 with heap := pushCells (s3.heap.push { cls := .type "dict", data := .dict #[] }) scope.names }
  generalize ece : compEnvC scope (cellsFrom (s3.heap.objs.size + 1) scope.names (cloFrom X.env.cells scope.names [])) s3.heap.objs.size X.env = ce at I4 pg pt pe pi1 pg1 pt1 ⊢
  have cl : ce.locals = s3.heap.objs.size := by subst ece; rfl
  generalize eH3 : upd H2 a (SetO X.w a (fun _ => false) 0) = H3 at I3 I4 pg pt pe pi1 pg1 pt1 w0 n3 f3
  generalize es4 : ({ s3 with heap := pushCells (s3.heap.push { cls := .type "dict", data := .dict #[] }) scope.names } : Shared) = s4 at I4 ⊢
  have st4 : tn 0 s4.heap := T.keep _ _ _ st3 fun b _ o z => by rw [← es4]; exact pushCells_keeps _ _ _ _ (Heap.get?_push_of_some _ z)
  have fpo : ∀ {σ' : L2.St} {H' : Hp} {s' : Shared}, Inv (X.blk s3 H3 scope ce fp) [] σ' H' s' → (∀ b ∈ fp, H' b = none) → ∀ b ∈ fp, FpOk (X.blk s3 H3 scope ce fp) [] H' b := fun {σ' H' s'} I' hn b hb =>
    ⟨hn b hb, (I'.ok.exf b hb).1, I'.ok.exfs b hb, .inl hb, fun x c z => (I'.ok.exf b hb).2 x c z, fun p hp => (List.not_mem_nil (show p ∈ ([] : List (Addr × Obj)) from hp)).elim⟩
  obtain ⟨ws, ews⟩ : ∃ ws : L2.St, wipe σ (own.map (·.2)) = ws := ⟨_, rfl⟩
  rw [ews] at turn I4
  have loop : codeAny (model X.prog X.w) X.A (.compLoop (sc2 elt tg iter tg1 iter1 ifs ifs1 scope pos) 0 (.ref it) (.ref a) ce) (compPost (model X.prog X.w) X.A X.xe none (fun u s' => ∃ v H', Inv X pins σ H' s' ∧ RelV v u ∧ Q v H') (.ref a) s3.heap.objs.size) s4 := by
    refine loop_out (hs1 ce) (fun n s' => ∃ i H', Inv (X.blk s3 H3 scope ce fp) [] ws H' s' ∧ tn i s'.heap ∧ (∀ b ∈ fp, H' b = none) ∧ W i n H') ?_ m0 ⟨0, H3, I4, st4, n3, w0⟩
    rintro n s5 ⟨i, H5, I5, st5, n5, w5⟩
    rcases turn i n H5 w5 with ⟨stop, qq⟩ | ⟨go, Nx, hNx, step⟩
    · refine thnF (T.done (X.blk s3 H3 scope ce fp) rfl rfl rfl hc i [] s5 _ H5 (fun _ _ => False) I5 (fpo I5 n5) st5 stop) fun r s6 ⟨hr, I6⟩ => ?_
      subst hr
      have I7 : Inv X pins σ H5 s6 := I3.call' (ch := fp) I6.os I6.base I6.hok I6.bare fun b hb => ⟨(f3 b hb).1.2.2.2.1, (f3 b hb).1.2.1, (f3 b hb).1.2.2.2.2.1, (f3 b hb).1.2.2.2.2.2⟩
      have nC : H5 s3.heap.objs.size = none := by
        have z : H5 ce.locals = none := I6.free
        rwa [cl] at z
      obtain ⟨m, hn, _⟩ := I6.loc
      have hn : s6.heap.Ns ce.locals m := hn
      rw [cl] at hn
      obtain ⟨f0, f1, f2', f3', f4, f5⟩ := I3.fpOk (Nat.le_refl _) nC
      exact ⟨m, hn, fun h'' sb => ⟨.ref a, H5, I7.turned (t' := s6.toks) (fun b o hb z => (sb.2 b hb).trans z) f0 f1 f3' f4 f5, rfl, qq⟩⟩
    · refine thnF (T.item (X.blk s3 H3 scope ce fp) rfl rfl rfl hc i [] s5 _ H5 (fun _ _ => False) I5 (fpo I5 n5) st5 go) fun r s6 ⟨u, hr, h6⟩ => ?_
      subst hr
      refine thnF h6 fun _ s7 ⟨x, H7, I7, r7, y7, st7, n7⟩ => ?_
      have I7' := I7.pinned (fpo I7 n7) (T.obj _ _ st7)
      refine thnF (pg.run _ s7 _ H7 x u _ I7' r7 (step x H7 y7)) fun _ s8 ⟨σ8, H8, I8, hw8, q8⟩ => ?_
      refine thnF (pt.run _ s8 σ8 H8 _ I8 q8) fun b s9 ⟨H9, I9, q9⟩ => ?_
      have len8 : ws.length = σ8.length := by rw [← hw8, wipe_length]
      have sub8 : ∀ (j : Nat) v, ws[j]? = some (some v) → σ8[j]? = some (some v) := fun j v z => by
        rw [← hw8] at z
        exact (wipe_some z).1
      have sub9 : ∀ (j : Nat) v, ws[j]? = some (some v) → (wipe σ8 vs1)[j]? = some (some v) := fun j v z => by
        rw [← hw8] at z
        obtain ⟨z1, z2⟩ := wipe_some z
        rw [wipe_out fun y => z2 (hv j y)]
        exact z1
      -- a turn's end
      have fin : ∀ {σ9 : L2.St} {s' : Shared} {H' : Hp}, Inv (X.blk s3 H3 scope ce fp) ([] ++ pinsAt fp s7.heap) σ9 H' s' → ws.length = σ9.length → (∀ (j : Nat) v, ws[j]? = some (some v) → σ9[j]? = some (some v)) → Nx H' →
          ∃ m, m < n ∧ ∃ i H', Inv (X.blk s3 H3 scope ce fp) [] ws H' s' ∧ tn i s'.heap ∧ (∀ b ∈ fp, H' b = none) ∧ W i m H' := fun {σ9 s' H'} I' hl hk nx => by
        obtain ⟨m', hm, w'⟩ := hNx H' nx
        have pin : ∀ b ∈ fp, ∀ o, s7.heap.get? b = some o → s'.heap.get? b = some o ∧ H' b = none := fun b hb o z =>
          have y := I'.pin (b, o) (List.mem_append_right _ (List.mem_append_right _ (mem_pinsAt hb z)))
          ⟨y.1, y.2.1⟩
        exact ⟨m', hm, i + 1, H', (I'.unpinned (pins := [])).weak hl hk, T.keep _ _ _ st7 fun b hb o z => (pin b hb o z).1, fun b hb => (by
          obtain ⟨o, z, _⟩ := T.obj _ _ st7 b hb
          exact (pin b hb o z).2), w'⟩
      cases b with
      | false =>
        simp only [Bool.false_eq_true, if_false] at q9 ⊢
        exact fin I9 len8 sub8 q9
      | true =>
        simp only [if_true] at q9 ⊢
        refine thnF (pi1.run _ s9 σ8 H9 _ I9 q9) fun xv s10 hx => thnF hx fun itv s11 h11 => ?_
        obtain ⟨it1, fp1, tn1, J1, H11, e11, I11, T1, st11, f11, W1, ⟨m1, w1⟩, turn1⟩ := h11
        subst e11
        have fpo1 : ∀ {H' : Hp}, (∀ b ∈ fp1, H' b = none) → ∀ b ∈ fp1, FpOk (X.blk s3 H3 scope ce fp) ([] ++ pinsAt fp s7.heap) H' b := fun hn b hb => ⟨hn b hb, (f11 b hb).2⟩
        have loop1 : codeAny (model X.prog X.w) X.A (.compLoop (sc2 elt tg iter tg1 iter1 ifs ifs1 scope pos) 1 (.ref it1) (.ref a) ce)
            (fun r s' => match r with
              | .ok _ => ∃ m, m < n ∧ ∃ i H', Inv (X.blk s3 H3 scope ce fp) [] ws H' s' ∧ tn i s'.heap ∧ (∀ b ∈ fp, H' b = none) ∧ W i m H'
              | .error _ => False) s11 := by
          refine loop_in (fun k s' => ∃ j H', Inv (X.blk s3 H3 scope ce fp) ([] ++ pinsAt fp s7.heap) (wipe σ8 vs1) H' s' ∧ tn1 j s'.heap ∧ (∀ b ∈ fp1, H' b = none) ∧ W1 j k H') ?_ m1 ⟨0, H11, I11.weak (wipe_length _ _) (fun j v z => (wipe_some z).1), st11, fun b hb => (f11 b hb).1, w1⟩
          rintro k s12 ⟨j, H12, I12, st12, n12, w12⟩
          rcases turn1 j k H12 w12 with ⟨stop1, nx1⟩ | ⟨go1, Nx1, hNx1, step1⟩
          · refine thnF (T1.done (X.blk s3 H3 scope ce fp) rfl rfl rfl hc j _ s12 (wipe σ8 vs1) H12 (fun _ _ => False) I12 (fpo1 n12) st12 stop1) fun r s13 ⟨hr, I13⟩ => ?_
            subst hr
            exact fin I13 (len8.trans (wipe_length σ8 vs1).symm) sub9 nx1
          · refine thnF (T1.item (X.blk s3 H3 scope ce fp) rfl rfl rfl hc j _ s12 (wipe σ8 vs1) H12 (fun _ _ => False) I12 (fpo1 n12) st12 go1) fun r s13 ⟨u1, hr, h13⟩ => ?_
            subst hr
            refine thnF h13 fun _ s14 ⟨x1, H14, I14, r14, y14, st14, n14⟩ => ?_
            have I14' := I14.pinned (fpo1 n14) (T1.obj _ _ st14)
            refine thnF (pg1.run _ s14 (wipe σ8 vs1) H14 x1 u1 _ I14' r14 (step1 x1 H14 y14)) fun _ s15 ⟨σ15, H15, I15, hw15, q15⟩ => ?_
            refine thnF (pt1.run _ s15 σ15 H15 _ I15 q15) fun b1 s16 ⟨H16, I16, q16⟩ => ?_
            have fin1 : ∀ {s' : Shared} {H' : Hp}, Inv (X.blk s3 H3 scope ce fp) (([] ++ pinsAt fp s7.heap) ++ pinsAt fp1 s14.heap) σ15 H' s' → Nx1 H' → ∃ m, m < k ∧ ∃ j H', Inv (X.blk s3 H3 scope ce fp) ([] ++ pinsAt fp s7.heap) (wipe σ8 vs1) H' s' ∧ tn1 j s'.heap ∧ (∀ b ∈ fp1, H' b = none) ∧ W1 j m H' := fun {s' H'} I' nx => by
              obtain ⟨m', hm, w'⟩ := hNx1 H' nx
              have pin : ∀ b ∈ fp1, ∀ o, s14.heap.get? b = some o → s'.heap.get? b = some o ∧ H' b = none := fun b hb o z =>
                have y := I'.pin (b, o) (List.mem_append_right _ (List.mem_append_right _ (mem_pinsAt hb z)))
                ⟨y.1, y.2.1⟩
              exact ⟨m', hm, j + 1, H', I'.unpinned.weak (by rw [← hw15, wipe_length]) (fun j v z => by rw [← hw15] at z; exact (wipe_some z).1), T1.keep _ _ _ st14 fun b hb o z => (pin b hb o z).1, fun b hb => (by
                obtain ⟨o, z, _⟩ := T1.obj _ _ st14 b hb
                exact (pin b hb o z).2), w'⟩
            cases b1 with
            | false =>
              simp only [Bool.false_eq_true, if_false] at q16 ⊢
              exact fin1 I16 q16
            | true =>
              simp only [if_true] at q16 ⊢
              refine addS_ok (thnF (pe.run _ s16 σ15 H16 _ I16 q16) fun zu s17 ⟨yv, H17, I17, r17, z, S, c, ey, hD, few, nx⟩ => ?_)
              subst ey
              have ad := mt_sadd (X := X.blk s3 H3 scope ce fp) _ s17 σ15 H17 (.ref a) [.int z] (.ref a) [zu] (fun _ H' => Nx1 H') I17 rfl (.cons r17 .nil) ⟨a, z, S, c, rfl, rfl, hD, few, nx⟩
              exact thnF ad fun _ s18 ⟨v, H18, I18, _, nx18⟩ => fin1 I18 nx18
        exact start1 loop1 (T1.self X.A 0 _ _ _ st11 loop1)
  exact codeAny_compStart_set loop (T.self X.A 0 _ _ _ st4 loop)
end
end Ev

/-! comprehensions of two fors -/
namespace Ev
open PySem PySem.Spec PyProof.Rows L2
theorem lcM_pre {f : D → Sto → R (Option D)} : ∀ {ds acc : List D} {O O' : Sto} {xs : List D}, lcM f ds acc O = .ok xs O' → ∃ t, xs = acc ++ t
  | [], acc, O, O', xs, h => by unfold lcM at h; cases h; exact ⟨[], by simp⟩
  | d :: ds, acc, O, O', xs, h => by
    unfold lcM at h
    obtain ⟨r, O1, h0, h1⟩ := R.bind_eq_ok h
    cases r with
    | none => exact lcM_pre h1
    | some x =>
      simp only at h1
      split at h1
      · obtain ⟨t, ht⟩ := lcM_pre h1
        exact ⟨x :: t, by rw [ht]; simp⟩
      · cases h1
theorem lc2M_pre {g : D → List D → Sto → R (List D)} (hg : ∀ d acc O xs O', g d acc O = .ok xs O' → ∃ t, xs = acc ++ t) : ∀ {ds acc : List D} {O O' : Sto} {xs : List D}, lc2M g ds acc O = .ok xs O' → ∃ t, xs = acc ++ t
  | [], acc, O, O', xs, h => by unfold lc2M at h; cases h; exact ⟨[], by simp⟩
  | d :: ds, acc, O, O', xs, h => by
    unfold lc2M at h
    obtain ⟨r, O1, h0, h1⟩ := R.bind_eq_ok h
    obtain ⟨t, ht⟩ := hg _ _ _ _ _ h0
    obtain ⟨u, hu⟩ := lc2M_pre hg h1
    exact ⟨t ++ u, by rw [hu, ht]; simp⟩
section
variable {gt : Gt} {n : Nat} {g : Glo} {sc : Scp} {X : Cx} {W : WX}
theorem PI.can {tg iter : Expr} {wi : TI} {m : List Sl → Sto → R (List D)} (h : PI X tg iter wi) (k : EG gt X W (relI X.K) wi m) : PI X tg iter (can gt X.K W (relI X.K) m) :=
  ⟨fun pins s σ H Q I ⟨G, O, env, H0, o, w, p⟩ => h.run pins s σ H Q I ((k G H O σ env H0 o w).post p)⟩
/-- one outer turn -/
noncomputable def lc2F (call : Nat → List D → Sto → R XD) (m : Nat) (t : T) (c : Es) (t1 : T) (i1 : I) (c1 : Es) (e : E) (env : List Sl) (d : D) (acc : List D) (O2 : Sto) : R (List D) :=
  (R.ofO (asg t d (wipeE env (t.own ++ t1.own))) O2).bind fun env1 O2 => (evC call c env1 O2).bind fun b O3 => if b = true then (evI call i1 env1 O3).bind fun ds1 O4 => lcM (lcF call m t1 c1 e env1) ds1 acc O4 else .ok acc O3
theorem ev_lc2 (call : Nat → List D → Sto → R XD) (m : Nat) (t : T) (i : I) (c : Es) (t1 : T) (i1 : I) (c1 : Es) (e : E) : ev call (.lc2 m t i c t1 i1 c1 e) = fun env O => (evI call i env O).bind fun ds O1 => (lc2M (lc2F call m t c t1 i1 c1 e env) ds [] O1).nox.bind fun ds' O2 => .ok (.ow (m + 1) (.lst ds')) O2 := by
  funext env O
  simp only [ev]
  rfl
theorem ev_ssc (call : Nat → List D → Sto → R XD) (t : T) (i : I) (c : Es) (t1 : T) (i1 : I) (c1 : Es) (e : E) : ev call (.ssc t i c t1 i1 c1 e) = fun env O => (evI call i env O).bind fun ds O1 => (lc2M (lc2F call 0 t c t1 i1 c1 e env) ds [] O1).nox.bind fun ds' O2 => .ofO (ssetD (.lst ds')) O2 := by
  funext env O
  simp only [ev]
  rfl
theorem lc2F_pre {call : Nat → List D → Sto → R XD} {m : Nat} {t : T} {c : Es} {t1 : T} {i1 : I} {c1 : Es} {e : E} {env : List Sl} (d : D) (acc : List D) (O : Sto) (xs : List D) (O' : Sto) (h : lc2F call m t c t1 i1 c1 e env d acc O = .ok xs O') : ∃ t, xs = acc ++ t := by
  unfold lc2F at h
  obtain ⟨env1, O1, h0, h1⟩ := R.bind_eq_ok h
  obtain ⟨b, O2, h2, h3⟩ := R.bind_eq_ok h1
  split at h3
  · obtain ⟨ds1, O3, h4, h5⟩ := R.bind_eq_ok h3
    exact lcM_pre h5
  · cases h3; exact ⟨[], by simp⟩
theorem But.mono {js ks : List Nat} {σ σ' : St} (b : But js σ σ') (h : ∀ j ∈ js, j ∈ ks) : But ks σ σ' := ⟨b.1, fun j hj => b.2 j fun z => hj (h j z)⟩
mutual
theorem asg_only : ∀ {t : T} {d : D} {env env' : List Sl}, asg t d env = some env' → env'.length = env.length ∧ (∀ j, j ∉ t.own → env'[j]? = env[j]?) ∧ ∀ j, j ∈ t.own → ∃ d', env'[j]? = some (.va d')
  | .nm i, d, env, env', h => by
    unfold asg at h
    split at h
    · rename_i hl
      cases h
      refine ⟨List.length_set, fun j hj => List.getElem?_set_ne fun e => hj (by simp [T.own, e]), fun j hj => ⟨d, ?_⟩⟩
      have e : j = i := by simpa [T.own] using hj
      subst e
      simp [List.getElem?_set, hl]
    · cases h
  | .tp ts, d, env, env', h => by
    cases d with
    | tup ds =>
      have h : asgs ts ds env = some env' := by
        have q := h
        unfold asg at q
        exact q
      have := asgs_only h
      simpa [T.own] using this
    | _ => (unfold asg at h; cases h)
theorem asgs_only : ∀ {ts : Ts} {ds : List D} {env env' : List Sl}, asgs ts ds env = some env' → env'.length = env.length ∧ (∀ j, j ∉ ts.own → env'[j]? = env[j]?) ∧ ∀ j, j ∈ ts.own → ∃ d', env'[j]? = some (.va d')
  | .nil, [], env, env', h => by unfold asgs at h; cases h; exact ⟨rfl, fun _ _ => rfl, fun j hj => by simp [Ts.own] at hj⟩
  | .nil, _ :: _, env, env', h => by unfold asgs at h; cases h
  | .cons t ts, [], env, env', h => by unfold asgs at h; cases h
  | .cons t ts, d :: ds, env, env', h => by
    unfold asgs at h
    obtain ⟨e1, h1, h2⟩ := Option.bind_eq_some_iff.mp h
    obtain ⟨a1, a2, a3⟩ := asg_only h1
    obtain ⟨b1, b2, b3⟩ := asgs_only h2
    refine ⟨b1.trans a1, fun j hj => ?_, fun j hj => ?_⟩
    · simp only [Ts.own, List.mem_append, not_or] at hj
      rw [b2 j hj.2, a2 j hj.1]
    · by_cases hs : j ∈ ts.own
      · exact b3 j hs
      · have hj : j ∈ t.own := by
          simp only [Ts.own, List.mem_append] at hj
          exact hj.resolve_right hs
        obtain ⟨d', h'⟩ := a3 j hj
        exact ⟨d', (b2 j hs).trans h'⟩
end
/-- slots that a target has written are data; the others are as in the base -/
theorem EnvOk.mix {K : PySem.W.Frag} {H0 H H' : Hp} {G G' : Gh} {σb σ2 : St} {envb env' : List Sl} {js : List Nat} (b : EnvOk K H0 G' H' σb envb) (w : EnvOk K H0 G H σ2 env') (l : Le G G') (but : But js σb σ2) (hl : env'.length = envb.length) (hb : ∀ j, j ∉ js → env'[j]? = envb[j]?)
    (hv : ∀ j, j ∈ js → ∃ d', env'[j]? = some (.va d')) : EnvOk K H0 G' H' σ2 env' := by
  obtain ⟨φ, b⟩ := b
  obtain ⟨ψ, w⟩ := w
  refine ⟨fun j => if j ∈ js then [] else φ j, w.len, fun i => ?_, fun i j a ha hb' => ?_, fun i a ha => ?_, fun i s hs => ?_⟩
  · show (if i ∈ js then [] else φ i).Nodup
    split
    · exact List.nodup_nil
    · exact b.nd i
  · have ha : a ∈ (if i ∈ js then [] else φ i) := ha
    have hb' : a ∈ (if j ∈ js then [] else φ j) := hb'
    split at ha
    · cases ha
    · split at hb'
      · cases hb'
      · exact b.apart i j a ha hb'
  · have ha : a ∈ (if i ∈ js then [] else φ i) := ha
    split at ha
    · cases ha
    · exact b.new i a ha
  · show SlOk K G' H' s (σ2[i]?) (if i ∈ js then [] else φ i)
    by_cases h : i ∈ js
    · rw [if_pos h]
      obtain ⟨d', h'⟩ := hv i h
      rw [h'] at hs; cases hs
      obtain ⟨_, v, e, t⟩ := w.at' i _ h'
      exact ⟨rfl, v, e, Den.mono l d' v t⟩
    · rw [if_neg h, but.2 i h]
      exact b.at' i s (by rw [← hb i h]; exact hs)
/-- the walk of two fors: put lays an item, AC is what has been made -/
theorem two_core {m : Nat} {t t1 : T} {i1 : I} {c c1 : Es} {e : E} {K : PySem.W.Frag} {G1 : Gh} {H0 H1 : Hp} {σ : St} {env : List Sl} {J : It} {ds ds' : List D} {O1 O2 : Sto} {Hs : Hp} {Fin : Hp → Prop} {AC : Gh → Hp → List D → Prop} {put : V → Hp → (Hp → Prop) → Prop}
    (jk : JOk K G1 J ds) (w : EnvOk K H0 G1 H1 σ env) (hL : lc2M (lc2F (run gt.C n) m t c t1 i1 c1 e env) ds [] O1 = .ok ds' O2) (x0 : Ext G1 G1 H1 Hs) (k0 : GOk K G1 Hs O1) (a0 : AC G1 Hs [])
    (hext : ∀ {G G' : Gh} {H H' : Hp} {acc : List D}, Ext G G' H H' → AC G H acc → AC G' H' acc)
    (hput : ∀ {G3 G4 : Gh} {H3 H4 : Hp} {O : Sto} {acc : List D} {x : XD} {d : D} {y : V} {fp : List Addr} {Nx : Hp → Prop}, Ext G1 G3 H1 H3 → Ext G3 G4 H3 H4 → GOk K G4 H4 O → AC G3 H3 acc → KRep K x G4 H4 y fp → Fresh H3 G4 fp → x.kid m = some d → acc.length < sizeLine → (∃ t, ds' = (acc ++ [d]) ++ t) →
      (∀ G5 H5, Le G4 G5 → Ext G1 G5 H1 H5 → GOk K G5 H5 O → AC G5 H5 (acc ++ [d]) → Nx H5) → put y H4 Nx)
    (stop : ∀ Gc Hc, Ext G1 Gc H1 Hc → GOk K Gc Hc O2 → AC Gc Hc ds' → Fin Hc) :
    ∃ W : Nat → Nat → Hp → Prop, (∃ m, W 0 m Hs) ∧ ∀ i k H, W i k H →
      (J.stop i H ∧ Fin H) ∨ (J.go i H ∧ ∃ Nx : Hp → Prop, (∀ H', Nx H' → ∃ m', m' < k ∧ W (i + 1) m' H') ∧ ∀ x H', J.yld i H x H' → gCan K t x (wipe σ (t.own ++ t1.own)) H' fun σ2 H2 => wipe σ2 (t.own ++ t1.own) = wipe σ (t.own ++ t1.own) ∧ can gt K WF relB (evC (run gt.C n) c) σ2 H2 fun b H3 =>
        if b = true then can gt K WF (relI K) (evI (run gt.C n) i1) σ2 H3 fun J1 H4 => ∃ W1 : Nat → Nat → Hp → Prop, (∃ m, W1 0 m H4) ∧ ∀ j k H, W1 j k H →
          (J1.stop j H ∧ Nx H) ∨ (J1.go j H ∧ ∃ Nx1 : Hp → Prop, (∀ H', Nx1 H' → ∃ k', k' < k ∧ W1 (j + 1) k' H') ∧ ∀ x H', J1.yld j H x H' → gCan K t1 x (wipe σ2 t1.own) H' fun σ3 H5 => wipe σ3 t1.own = wipe σ2 t1.own ∧ can gt K WF relB (evC (run gt.C n) c1) σ3 H5 fun b H6 =>
            if b = true then can gt K WF (KRep K) (ev (run gt.C n) e) σ3 H6 fun y H7 => put y H7 Nx1 else Nx1 H6)
        else Nx H3) := by
  refine ⟨fun i k Hc => i ≤ ds.length ∧ k = ds.length - i ∧ ∃ Gc Oc acc, Ext G1 Gc H1 Hc ∧ GOk K Gc Hc Oc ∧ AC Gc Hc acc ∧ lc2M (lc2F (run gt.C n) m t c t1 i1 c1 e env) (ds.drop i) acc Oc = .ok ds' O2,
    ⟨ds.length, Nat.zero_le _, by simp, G1, O1, [], x0, k0, a0, hL⟩, ?_⟩
  rintro i k Hc ⟨hi, rfl, Gc, Oc, acc, ec, oc, ac, hc⟩
  by_cases hlt : i < ds.length
  · right
    have hd : ds[i]? = some ds[i] := List.getElem?_eq_getElem hlt
    obtain ⟨go, yl⟩ := jk.go Gc Hc Oc ec.le oc i _ hd
    rw [List.drop_eq_getElem_cons hlt] at hc
    unfold lc2M at hc
    obtain ⟨r, O3, hf0, hc1⟩ := R.bind_eq_ok hc
    refine ⟨go, fun H' => ∃ Gn On acc', Ext G1 Gn H1 H' ∧ GOk K Gn H' On ∧ AC Gn H' acc' ∧ lc2M (lc2F (run gt.C n) m t c t1 i1 c1 e env) (ds.drop (i + 1)) acc' On = .ok ds' O2, fun H' hN => ⟨ds.length - (i + 1), by omega, hlt, rfl, hN⟩, fun x H'' y => ?_⟩
    obtain ⟨Gx, ex, ox, dn⟩ := yl x H'' y
    unfold lc2F at hf0
    obtain ⟨env', O3', ha, hf1⟩ := R.bind_eq_ok hf0
    obtain ⟨ha2, hO3⟩ := R.ofO_eq_ok ha
    subst hO3
    obtain ⟨b, O4, hbb, hf2⟩ := R.bind_eq_ok hf1
    have wx := (w.ext (ec.trans ex)).wipe (t.own ++ t1.own)
    refine ⟨Gx, H0, wipeE env (t.own ++ t1.own), env', _, ox.sub, wx, dn, ha2, fun σ2 w2 but => ⟨(But.mono but fun j hj => List.mem_append_left _ hj).wipe.trans ?_, ?_⟩⟩
    · exact wipe_idem σ _
    · refine ⟨Gx, O3', env', H0, ox, w2, ?_⟩
      rw [hbb]
      rintro v G3 H3 fp3 e3 o3 ⟨rfl, rfl⟩ fr3
      cases v with
      | false =>
        rw [if_neg Bool.false_ne_true] at hf2
        cases hf2
        rw [if_neg Bool.false_ne_true]
        exact ⟨G3, O3, acc, (ec.trans ex).trans e3, o3, hext e3 (hext ex ac), hc1⟩
      | true =>
        rw [if_pos rfl] at hf2
        rw [if_pos rfl]
        obtain ⟨ds1, O5, hi1, hf3⟩ := R.bind_eq_ok hf2
        refine ⟨G3, O4, env', H0, o3, w2.ext e3, ?_⟩
        rw [hi1]
        rintro J1 G4 H4 fp4 e4 o4 ⟨rfl, jk1⟩ fr4
        have e14 : Ext G1 G4 H1 H4 := ((ec.trans ex).trans e3).trans e4
        have w4 : EnvOk K H0 G4 H4 σ2 env' := (w2.ext e3).ext e4
        obtain ⟨tl, htl⟩ := lc2M_pre lc2F_pre hc1
        refine ⟨fun j k Hj => j ≤ ds1.length ∧ k = ds1.length - j ∧ ∃ Gj Oj acc1, Ext G1 Gj H1 Hj ∧ Le G4 Gj ∧ GOk K Gj Hj Oj ∧ AC Gj Hj acc1 ∧ lcM (lcF (run gt.C n) m t1 c1 e env') (ds1.drop j) acc1 Oj = .ok r O3,
          ⟨ds1.length, Nat.zero_le _, by simp, G4, O5, acc, e14, Le.refl _, o4, hext e4 (hext e3 (hext ex ac)), hf3⟩, ?_⟩
        rintro j k Hj ⟨hj, rfl, Gj, Oj, acc1, ej, lj, oj, aj, hcj⟩
        have wj : EnvOk K H0 Gj Hj σ2 env' := by
          obtain ⟨q1, q2, q3⟩ := asg_only ha2
          exact ((w.ext ej).wipe (t.own ++ t1.own)).mix w4 lj but q1 q2 q3
        by_cases hlj : j < ds1.length
        · right
          have hdj : ds1[j]? = some ds1[j] := List.getElem?_eq_getElem hlj
          obtain ⟨goj, ylj⟩ := jk1.go Gj Hj Oj lj oj j _ hdj
          rw [List.drop_eq_getElem_cons hlj] at hcj
          unfold lcM at hcj
          obtain ⟨rj, O6, hg0, hcj1⟩ := R.bind_eq_ok hcj
          refine ⟨goj, fun H' => ∃ Gn On acc', Ext G1 Gn H1 H' ∧ Le G4 Gn ∧ GOk K Gn H' On ∧ AC Gn H' acc' ∧ lcM (lcF (run gt.C n) m t1 c1 e env') (ds1.drop (j + 1)) acc' On = .ok r O3, fun H' hN => ⟨ds1.length - (j + 1), by omega, hlj, rfl, hN⟩, fun xj H5 yj => ?_⟩
          obtain ⟨Gy, ey, oy, dny⟩ := ylj xj H5 yj
          unfold lcF at hg0
          obtain ⟨env2, O6', hb0, hg1⟩ := R.bind_eq_ok hg0
          obtain ⟨hb2, hO6⟩ := R.ofO_eq_ok hb0
          subst hO6
          obtain ⟨b1, O7, hbb1, hg2⟩ := R.bind_eq_ok hg1
          have wy := (wj.ext ey).wipe t1.own
          refine ⟨Gy, H0, wipeE env' t1.own, env2, _, oy.sub, wy, dny, hb2, fun σ3 w3 but3 => ⟨but3.wipe.trans (wipe_idem σ2 _), ?_⟩⟩
          refine ⟨Gy, O6', env2, H0, oy, w3, ?_⟩
          rw [hbb1]
          rintro v1 G6 H6 fp6 e6 o6 ⟨rfl, rfl⟩ fr6
          cases v1 with
          | false =>
            rw [if_neg Bool.false_ne_true] at hg2
            cases hg2
            rw [if_neg Bool.false_ne_true]
            exact ⟨G6, O6, acc1, (ej.trans ey).trans e6, lj.trans (ey.le.trans e6.le), o6, hext e6 (hext ey aj), hcj1⟩
          | true =>
            rw [if_pos rfl] at hg2
            rw [if_pos rfl]
            obtain ⟨xe, O8, hee, hg3⟩ := R.bind_eq_ok hg2
            obtain ⟨hk0, hO8⟩ := R.ofO_eq_ok hg3
            subst hO8
            obtain ⟨dk, hk, hr⟩ := Option.map_eq_some_iff.mp hk0
            subst hr
            refine ⟨G6, O7, env2, H0, o6, w3.ext e6, ?_⟩
            rw [hee]
            intro y7 G7 H7 fp7 e7 o7 rl7 fr7
            have hq : (if acc1.length < sizeLine then lcM (lcF (run gt.C n) m t1 c1 e env') (ds1.drop (j + 1)) (acc1 ++ [dk]) O6 else .stk) = .ok r O3 := hcj1
            split at hq
            · rename_i hlen
              obtain ⟨tr, htr⟩ := lcM_pre hq
              refine hput ((ej.trans ey).trans e6) e7 o7 (hext e6 (hext ey aj)) rl7 fr7 hk hlen ⟨tr ++ tl, by rw [htl, htr]; simp⟩ fun G8 H8 l8 e8 o8 a8 => ?_
              exact ⟨G8, O6, acc1 ++ [dk], e8, (((lj.trans ey.le).trans e6.le).trans e7.le).trans l8, o8, a8, hq⟩
            · cases hq
        · left
          have hj' : j = ds1.length := by omega
          subst hj'
          refine ⟨jk1.stop Gj Hj Oj lj oj _ (Nat.le_refl _), ?_⟩
          rw [List.drop_length] at hcj
          unfold lcM at hcj
          cases hcj
          exact ⟨Gj, _, _, ej, oj, aj, hc1⟩
  · left
    have hi' : i = ds.length := by omega
    subst hi'
    refine ⟨jk.stop Gc Hc Oc ec.le oc _ (Nat.le_refl _), ?_⟩
    rw [List.drop_length] at hc
    unfold lc2M at hc
    cases hc
    exact stop Gc Hc ec oc ac
theorem lc2_eg {m : Nat} {t t1 : T} {i i1 : I} {c c1 : Es} {e : E} {tg iter : Expr} {wi : TI} (pi : PI X tg iter wi) (ki : EG gt X W (relI X.K) wi (evI (run gt.C n) i)) :
    EG gt X W (KRep X.K) (tLc2 wi (gCan X.K t) (can gt X.K WF relB (evC (run gt.C n) c)) (can gt X.K WF (relI X.K) (evI (run gt.C n) i1)) (gCan X.K t1) (can gt X.K WF relB (evC (run gt.C n) c1)) (can gt X.K WF (KRep X.K) (ev (run gt.C n) e)) (t.own ++ t1.own) t1.own) (ev (run gt.C n) (.lc2 m t i c t1 i1 c1 e)) := by
  rw [ev_lc2]
  refine EG.bind (t := wi) (U := fun σ J H1 (Q : VK) => tLc2 (fun _ _ k => k J H1) (gCan X.K t) (can gt X.K WF relB (evC (run gt.C n) c)) (can gt X.K WF (relI X.K) (evI (run gt.C n) i1)) (gCan X.K t1) (can gt X.K WF relB (evC (run gt.C n) c1)) (can gt X.K WF (KRep X.K) (ev (run gt.C n) e)) (t.own ++ t1.own) t1.own σ H1 Q) (rel' := KRep X.K) (f := fun env ds O1 => (lc2M (lc2F (run gt.C n) m t c t1 i1 c1 e env) ds [] O1).nox.bind fun ds' O2 => R.ok (.ow (m + 1) (.lst ds')) O2) ki ?_
  intro σ env H0 ds O1 J G H G1 H1 fp w e1 o1 rl fr
  obtain ⟨rfl, jk⟩ := rl
  cases hL : lc2M (lc2F (run gt.C n) m t c t1 i1 c1 e env) ds [] O1 with
  | stk => exact trivial
  | exc x O2 => exact trivial
  | ok ds' O2 =>
    intro Q q
    unfold tLc2
    intro Dd hD
    obtain ⟨x0, k0, ow0, f0⟩ := own_ext (K := X.K) (ds := []) (vs := []) o1 hD .nil
    refine two_core (AC := Acc X.K H1 Dd m) (put := fun y H7 Nx1 => ∃ acc, H7 Dd = some (.lst acc) ∧ acc.length < sizeLine ∧ Nx1 (upd H7 Dd (.lst (acc ++ [y])))) (Fin := fun H => Q (.ref Dd) H) jk w hL x0 k0 ⟨[], [], upd_same, by unfold Own3; exact ⟨rfl, rfl⟩, f0⟩ (fun x a => a.ext x) ?_ ?_
    · intro G3 G4 H3 H4 O acc x d y fp Nx e13 e34 o4 a3 rl4 fr4 hk hlen _ k
      obtain ⟨vs, h4, hl, G5, l5, x5, o5, a5⟩ := Acc.push (e13.trans e34) o4 a3 rl4 fr4 e13 e34 hk
      exact ⟨vs, h4, by rw [hl]; exact hlen, k _ _ l5 x5 o5 a5⟩
    · intro Gc Hc ec oc ac
      obtain ⟨vs, fs, hv, o3, f⟩ := ac
      refine q (.ref Dd) Gc Hc (Dd :: fs.flatten) (e1.trans ec) oc ?_ (Fresh.pre e1 f)
      show Own X.K Gc Hc (m + 1) (.lst ds') (.ref Dd) _
      unfold Own
      exact ⟨Dd, vs, fs, rfl, hv, rfl, o3⟩
/-! ### the set that is sorted -/
theorem sIns_len {x : Int} : ∀ {l : List Int}, l.Pairwise (· < ·) → (sIns x l).length = if x ∈ l then l.length else l.length + 1
  | [], _ => by simp [sIns]
  | y :: r, h => by
    obtain ⟨h1, h2⟩ := List.pairwise_cons.mp h
    unfold sIns
    by_cases a : x < y
    · rw [if_pos a, if_neg]
      · rfl
      · intro z
        rcases List.mem_cons.mp z with rfl | z
        · omega
        · have := h1 x z; omega
    · rw [if_neg a]
      by_cases b : x = y
      · rw [if_pos b, if_pos (by simp [b])]
      · rw [if_neg b, List.length_cons, sIns_len h2]
        by_cases c : x ∈ r
        · rw [if_pos c, if_pos (List.mem_cons_of_mem _ c)]; rfl
        · rw [if_neg c, if_neg (fun z => (List.mem_cons.mp z).elim b c)]; rfl
theorem sdI_snoc (ns : List Int) (z : Int) : (sdI (ns ++ [z])).length = if z ∈ ns then (sdI ns).length else (sdI ns).length + 1 := by
  have e : sdI (ns ++ [z]) = sIns z (sdI ns) := asc_uniq (sdI_asc _) (sIns_asc (sdI_asc _)) fun x => by
    rw [sdI_mem, sIns_mem, sdI_mem]; simp [or_comm]
  rw [e, sIns_len (sdI_asc ns)]
  by_cases h : z ∈ ns
  · rw [if_pos h, if_pos (sdI_mem.mpr h)]
  · rw [if_neg h, if_neg (fun k => h (sdI_mem.mp k))]
theorem sdI_le (ns : List Int) : (sdI ns).length ≤ ns.length := by
  induction ns with
  | nil => exact Nat.le_refl _
  | cons x r ih =>
    show (sIns x (sdI r)).length ≤ _
    rw [sIns_len (sdI_asc r), List.length_cons]
    split <;> omega
theorem intsD_app : ∀ {ds es : List D} {ns : List Int}, intsD (ds ++ es) = some ns → ∃ a b, intsD ds = some a ∧ intsD es = some b ∧ ns = a ++ b
  | [], es, ns, h => ⟨[], ns, rfl, h, rfl⟩
  | d :: ds, es, ns, h => by
    cases d with
    | int i =>
      have h : (intsD (ds ++ es)).map (i :: ·) = some ns := h
      obtain ⟨r, hr, rfl⟩ := Option.map_eq_some_iff.mp h
      obtain ⟨a, b, ha, hb, rfl⟩ := intsD_app hr
      exact ⟨i :: a, b, by show (intsD ds).map (i :: ·) = _; rw [ha]; rfl, hb, rfl⟩
    | _ => simp [intsD] at h
/-- what a set of ints holds so far -/
def AccS (w : World) (H1 : Hp) (D : Addr) (G : Gh) (H : Hp) (acc : List Ev.D) : Prop := Fresh H1 G [D] ∧ ∃ ns, intsD acc = some ns ∧ H D = some (SetO w D (fun j => decide (j ∈ ns)) (sdI ns).length)
theorem ssc_eg {t t1 : T} {i i1 : I} {c c1 : Es} {e : E} {tg iter : Expr} {wi : TI} (pi : PI X tg iter wi) (ki : EG gt X W (relI X.K) wi (evI (run gt.C n) i)) :
    EG gt X W (KRep X.K) (fun σ H Q => tSc2 X.w wi (gCan X.K t) (can gt X.K WF relB (evC (run gt.C n) c)) (can gt X.K WF (relI X.K) (evI (run gt.C n) i1)) (gCan X.K t1) (can gt X.K WF relB (evC (run gt.C n) c1)) (can gt X.K WF (KRep X.K) (ev (run gt.C n) e)) (t.own ++ t1.own) t1.own σ H fun v H1 => rSortedSet X.w [v] H1 Q) (ev (run gt.C n) (.ssc t i c t1 i1 c1 e)) := by
  rw [ev_ssc]
  refine EG.bind (t := wi) (U := fun σ J H1 (Q : VK) => tSc2 X.w (fun _ _ k => k J H1) (gCan X.K t) (can gt X.K WF relB (evC (run gt.C n) c)) (can gt X.K WF (relI X.K) (evI (run gt.C n) i1)) (gCan X.K t1) (can gt X.K WF relB (evC (run gt.C n) c1)) (can gt X.K WF (KRep X.K) (ev (run gt.C n) e)) (t.own ++ t1.own) t1.own σ H1 fun v H1 => rSortedSet X.w [v] H1 Q) (rel' := KRep X.K) (f := fun env ds O1 => (lc2M (lc2F (run gt.C n) 0 t c t1 i1 c1 e env) ds [] O1).nox.bind fun ds' O2 => R.ofO (ssetD (.lst ds')) O2) ki ?_
  intro σ env H0 ds O1 J G H G1 H1 fp w e1 o1 rl fr
  obtain ⟨rfl, jk⟩ := rl
  cases hL : lc2M (lc2F (run gt.C n) 0 t c t1 i1 c1 e env) ds [] O1 with
  | stk => exact trivial
  | exc x O2 => exact trivial
  | ok ds' O2 =>
    show Goal gt X.K _ (KRep X.K) G H (R.ofO (ssetD (.lst ds')) O2) _
    refine Goal.ofO fun z hz => ?_
    have hz0 := hz
    simp only [ssetD] at hz
    obtain ⟨ns, hn, hz⟩ := Option.bind_eq_some_iff.mp hz
    split at hz
    · rename_i hb
      simp only [Option.some.injEq] at hz
      intro Q q
      unfold tSc2
      intro Dd hD
      obtain ⟨x0, k0, _, f0⟩ := own_ext (K := X.K) (ds := []) (vs := []) o1 hD .nil
      obtain ⟨x1, k1⟩ := junk_ext o1 hD (SetO X.w Dd (fun _ => false) 0)
      refine two_core (AC := AccS X.w H1 Dd) (put := fun y H7 Nx1 => ∃ (z : Int) (S : Int → Bool) (c : Nat), y = .int z ∧ H7 Dd = some (SetO X.w Dd S c) ∧ c + 1 < scanBound ∧ Nx1 (upd H7 Dd (SetO X.w Dd (fun j => S j || decide (j = z)) (if S z = true then c else c + 1)))) (Fin := fun H => rSortedSet X.w [.ref Dd] H Q) jk w hL x1 k1
        ⟨f0, [], rfl, by rw [upd_same]; have e : (fun _ : Int => false) = fun j => decide (j ∈ ([] : List Int)) := (by funext j; simp); rw [e]; rfl⟩ (fun {G G' H H' acc} x a => ?_) ?_ ?_
      · obtain ⟨f, ms, h1, h2⟩ := a
        exact ⟨f.ext x fun b hb => by rw [List.mem_singleton.mp hb, h2]; simp, ms, h1, x.kp _ _ h2 (f.nA Dd List.mem_cons_self)⟩
      · intro G3 G4 H3 H4 O acc x d y fp Nx e13 e34 o4 a3 rl4 fr4 hk hlen ⟨tl, htl⟩ k
        obtain ⟨f3, ms, h1, h2⟩ := a3
        have f4 : Fresh H1 G4 [Dd] := f3.ext e34 fun b hb => by rw [List.mem_singleton.mp hb, h2]; simp
        have h4 : H4 Dd = some (SetO X.w Dd (fun j => decide (j ∈ ms)) (sdI ms).length) := e34.kp _ _ h2 (f3.nA Dd List.mem_cons_self)
        rw [htl] at hn
        obtain ⟨a, b, ha, hb2, rfl⟩ := intsD_app hn
        obtain ⟨a1, a2, ha1, ha2, rfl⟩ := intsD_app ha
        rw [h1] at ha1; cases ha1
        have hd : ∃ k, d = .int k ∧ a2 = [k] := by
          cases d with
          | int kk =>
            have q : some [kk] = some a2 := ha2
            cases q
            exact ⟨kk, rfl, rfl⟩
          | _ => simp [intsD] at ha2
        obtain ⟨kz, rfl, rfl⟩ := hd
        have dn : Den X.K (G4.fr H4 fp) (.int kz) y := rl4.frz1 o4.sub (by simpa [XD.kid] using hk)
        have ey : y = .int kz := by unfold Den at dn; exact dn
        have hlen2 : (sdI ms).length + 1 < scanBound := by
          have := sdI_le ms
          have := hb.1
          simp only [List.length_append, List.length_cons, List.length_nil] at this
          omega
        have DH1 : H1 Dd = none := hD
        refine ⟨kz, _, _, ey, h4, hlen2, k G4 _ (Le.refl _) ?_ ?_ ⟨f4, ms ++ [kz], ?_, ?_⟩⟩
        · have x := e13.trans e34
          refine ⟨x.fs, x.fn, x.ap, fun b u q n => ?_, fun b q => ?_⟩
          · rw [upd_ne (fun z => by rw [z, DH1] at q; cases q)]
            exact x.kp b u q n
          · by_cases z : b = Dd
            · rw [z, upd_same]; simp
            · rw [upd_ne z]; exact x.tr b q
        · refine ⟨fun b u q => ?_, o4.len, fun i ds q => ?_, o4.nd, o4.nf⟩
          · rw [upd_ne (fun z => by rw [z, (f4.new Dd List.mem_cons_self).2.1] at q; cases q)]
            exact o4.sub b u q
          · obtain ⟨b, us, h1, h2, h3⟩ := o4.obs i ds q
            exact ⟨b, us, h1, by rw [upd_ne (fun z => f4.nA Dd List.mem_cons_self (by rw [← z]; exact List.mem_of_getElem? h1))]; exact h2, h3⟩
        · have : ∀ {as : List D} {ns : List Int}, intsD as = some ns → intsD (as ++ [.int kz]) = some (ns ++ [kz]) := by
            intro as
            induction as with
            | nil => intro ns h; cases h; rfl
            | cons d as ih =>
              intro ns h
              cases d with
              | int i =>
                have h : (intsD as).map (i :: ·) = some ns := h
                obtain ⟨r, hr, rfl⟩ := Option.map_eq_some_iff.mp h
                show (intsD (as ++ [.int kz])).map (i :: ·) = _
                rw [ih hr]; rfl
              | _ => simp [intsD] at h
          exact this h1
        · rw [upd_same, sdI_snoc]
          congr 1
          have e1 : (fun j => decide (j ∈ ms) || decide (j = kz)) = fun j => decide (j ∈ ms ++ [kz]) := by
            funext j; simp
          rw [e1]
          simp only [decide_eq_true_eq]
      · intro Gc Hc ec oc ac
        obtain ⟨f, ms, h1, h2⟩ := ac
        rw [hn] at h1; cases h1
        refine ⟨Dd, _, _, rfl, h2, hb.2, fun ms p h1 h2 h3 hp => ?_⟩
        have e : ms = sdI ns := asc_uniq h1 (sdI_asc ns) fun x => by rw [h2, sdI_mem]; simp
        subst e
        have W' : Wanted X.K z Gc Hc O2 Q := fun u G' H' fp y k rp f => q u G' H' fp ((e1.trans ec).trans y) k rp (Fresh.pre (e1.trans ec) f)
        exact W'.lst oc hz.symm (DenL.of_ints (sdI ns)) hp
    · cases hz
theorem s_two {t t1 : T} {i1 : I} {c c1 : Es} {e : E} {elt tg tg1 iter1 : Expr} {ifs ifs1 : List Expr} {scope : Scope} (ok : XOk gt n g.fn g.blt g.glb g.dfl sc X W) (hb : blkC sc.N (scOf sc) scope (ownOf sc (t.own ++ t1.own)) = true)
    (hT : chkT (inner sc scope) t tg = true) (hT1 : chkT (inner sc scope) t1 tg1 = true) 
    (hC : ∀ X' : Cx, XOk gt n g.fn g.blt g.glb g.dfl (inner sc scope) X' WF → ∃ tt, PTs X' ifs tt ∧ EG gt X' WF relB tt (evC (run gt.C n) c))
    (hi1 : ∀ X' : Cx, XOk gt n g.fn g.blt g.glb g.dfl (inner sc scope) X' WF → SI gt n X' WF i1 tg1 iter1)
    (hC1 : ∀ X' : Cx, XOk gt n g.fn g.blt g.glb g.dfl (inner sc scope) X' WF → ∃ tt, PTs X' ifs1 tt ∧ EG gt X' WF relB tt (evC (run gt.C n) c1))
    (hE : ∀ X' : Cx, XOk gt n g.fn g.blt g.glb g.dfl (inner sc scope) X' WF → SE gt n X' WF e elt) :
    BlkOk X.N X.env.scope scope (ownOf sc (t.own ++ t1.own)) ∧ (ownOf sc (t.own ++ t1.own)).map (·.2) = t.own ++ t1.own ∧
    (∀ s H C cl fp, PG (X.blk s H scope (compEnvC scope cl C X.env) fp) tg (gCan X.K t)) ∧ (∀ s H C cl fp, PTs (X.blk s H scope (compEnvC scope cl C X.env) fp) ifs (can gt X.K WF relB (evC (run gt.C n) c))) ∧
    (∀ s H C cl fp, PI (X.blk s H scope (compEnvC scope cl C X.env) fp) tg1 iter1 (can gt X.K WF (relI X.K) (evI (run gt.C n) i1))) ∧
    (∀ s H C cl fp, PG (X.blk s H scope (compEnvC scope cl C X.env) fp) tg1 (gCan X.K t1)) ∧ (∀ s H C cl fp, PTs (X.blk s H scope (compEnvC scope cl C X.env) fp) ifs1 (can gt X.K WF relB (evC (run gt.C n) c1))) ∧
    (∀ s H C cl fp, PE (X.blk s H scope (compEnvC scope cl C X.env) fp) elt (can gt X.K WF (KRep X.K) (ev (run gt.C n) e))) := by
  have blk := blkOk_by hb
  refine ⟨BlkOk.to ok blk, by unfold ownOf; rw [List.map_map]; simp [Function.comp_def], fun s H C cl fp => ?_, fun s H C cl fp => ?_, fun s H C cl fp => ?_, fun s H C cl fp => ?_, fun s H C cl fp => ?_, fun s H C cl fp => ?_⟩
  · obtain ⟨g', pg, gg⟩ := sT (blk_ok ok blk s H C cl fp).t t tg hT
    exact Ev.PG.can pg gg
  · obtain ⟨tt, pt, kt⟩ := hC _ (blk_ok ok blk s H C cl fp)
    exact Ev.PTs.can pt kt
  · obtain ⟨wi, pi, ki⟩ := hi1 _ (blk_ok ok blk s H C cl fp)
    exact Ev.PI.can pi ki
  · obtain ⟨g', pg, gg⟩ := sT (blk_ok ok blk s H C cl fp).t t1 tg1 hT1
    exact Ev.PG.can pg gg
  · obtain ⟨tt, pt, kt⟩ := hC1 _ (blk_ok ok blk s H C cl fp)
    exact Ev.PTs.can pt kt
  · obtain ⟨te, pe, ke⟩ := (hE _ (blk_ok ok blk s H C cl fp)).v
    exact Ev.PE.can pe ke
/-- the second source is no display of a set: looked at in the check -/
theorem s_lc2 {m : Nat} {t t1 : T} {i i1 : I} {c c1 : Es} {e : E} {elt tg iter tg1 iter1 : Expr} {ifs ifs1 : List Expr} {scope : Scope} {pos : Pos} (ok : XOk gt n g.fn g.blt g.glb g.dfl sc X W) (hc : sc.calm = true) (hb : blkC sc.N (scOf sc) scope (ownOf sc (t.own ++ t1.own)) = true)
    (hT : chkT (inner sc scope) t tg = true) (hT1 : chkT (inner sc scope) t1 tg1 = true) (hi : SI gt n X W i tg iter) (hs : ∀ x, foldedSetIterable iter X.env x = pure x)
    (hC : ∀ X' : Cx, XOk gt n g.fn g.blt g.glb g.dfl (inner sc scope) X' WF → ∃ tt, PTs X' ifs tt ∧ EG gt X' WF relB tt (evC (run gt.C n) c))
    (hi1 : ∀ X' : Cx, XOk gt n g.fn g.blt g.glb g.dfl (inner sc scope) X' WF → SI gt n X' WF i1 tg1 iter1) (hs1 : ∀ env x, foldedSetIterable iter1 env x = pure x)
    (hC1 : ∀ X' : Cx, XOk gt n g.fn g.blt g.glb g.dfl (inner sc scope) X' WF → ∃ tt, PTs X' ifs1 tt ∧ EG gt X' WF relB tt (evC (run gt.C n) c1))
    (hE : ∀ X' : Cx, XOk gt n g.fn g.blt g.glb g.dfl (inner sc scope) X' WF → SE gt n X' WF e elt) : SE gt n X W (.lc2 m t i c t1 i1 c1 e) (.ListComp elt [⟨tg, iter, ifs, 0⟩, ⟨tg1, iter1, ifs1, 0⟩] scope pos) := by
  obtain ⟨bk, own, q1, q2, q3, q4, q5, q6⟩ := s_two ok hb hT hT1 hC hi1 hC1 hE
  obtain ⟨wi, pi, ki⟩ := hi
  have PX := pe_lc2 (pos := pos) (vs1 := t1.own) (ok.calm hc).1 (by rw [ok.N]; exact ok.nd) pi bk (fun j hj => by rw [own]; exact List.mem_append_right _ hj) q1 q2 q3 q4 q5 q6 hs hs1
  rw [own] at PX
  exact SE.of PX (lc2_eg pi ki) (fun _ => rfl)
theorem ps_lc2 {j : Nat} {y : Str} {py spos : Pos} {m : Nat} {t t1 : T} {i i1 : I} {c c1 : Es} {e : E} {elt tg iter tg1 iter1 : Expr} {ifs ifs1 : List Expr} {scope : Scope} {pos : Pos} (hy : sc.N[j]? = some y) (hyl : sc.names.lookup y = some .local) (hsw : swapsWith (.ListComp elt [⟨tg, iter, ifs, 0⟩, ⟨tg1, iter1, ifs1, 0⟩] scope pos) (some (.Name y py)) spos.line X.env = pure true) (ok : XOk gt n g.fn g.blt g.glb g.dfl sc X W) (hc : sc.calm = true) (hb : blkC sc.N (scOf sc) scope (ownOf sc (t.own ++ t1.own)) = true)
    (hT : chkT (inner sc scope) t tg = true) (hT1 : chkT (inner sc scope) t1 tg1 = true) (hi : SI gt n X W i tg iter) (hs : ∀ x, foldedSetIterable iter X.env x = pure x)
    (hC : ∀ X' : Cx, XOk gt n g.fn g.blt g.glb g.dfl (inner sc scope) X' WF → ∃ tt, PTs X' ifs tt ∧ EG gt X' WF relB tt (evC (run gt.C n) c))
    (hi1 : ∀ X' : Cx, XOk gt n g.fn g.blt g.glb g.dfl (inner sc scope) X' WF → SI gt n X' WF i1 tg1 iter1) (hs1 : ∀ env x, foldedSetIterable iter1 env x = pure x)
    (hC1 : ∀ X' : Cx, XOk gt n g.fn g.blt g.glb g.dfl (inner sc scope) X' WF → ∃ tt, PTs X' ifs1 tt ∧ EG gt X' WF relB tt (evC (run gt.C n) c1))
    (hE : ∀ X' : Cx, XOk gt n g.fn g.blt g.glb g.dfl (inner sc scope) X' WF → SE gt n X' WF e elt) : ∃ t', PS X (.Assign [.Name y py] (.ListComp elt [⟨tg, iter, ifs, 0⟩, ⟨tg1, iter1, ifs1, 0⟩] scope pos) spos) (tAsg t' (gName j)) ∧ EG gt X W (KRep X.K) t' (ev (run gt.C n) (.lc2 m t i c t1 i1 c1 e)) := by
  obtain ⟨bk, own, q1, q2, q3, q4, q5, q6⟩ := s_two ok hb hT hT1 hC hi1 hC1 hE
  obtain ⟨wi, pi, ki⟩ := hi
  have PX := ps_setLc2 (i := j) (y := y) (py := py) (spos := spos) (pos := pos) (vs1 := t1.own) (ok.calm hc).1 (by rw [ok.N]; exact ok.nd) (by rw [ok.N]; exact hy) (by rw [ok.names]; exact hyl) hsw pi bk (fun j hj => by rw [own]; exact List.mem_append_right _ hj) q1 q2 q3 q4 q5 q6 hs hs1
  rw [own] at PX
  exact ⟨_, PX, lc2_eg pi ki⟩
theorem s_ssc {t t1 : T} {i i1 : I} {c c1 : Es} {e : E} {x : Str} {elt tg iter tg1 iter1 : Expr} {ifs ifs1 : List Expr} {scope : Scope} {p1 pos cpos : Pos} (ok : XOk gt n g.fn g.blt g.glb g.dfl sc X W) (hc : sc.calm = true) (hx : x = ("sorted" : Str)) (m1 : x ∈ g.blt) (g1 : glB sc.names x = true) (hb : blkC sc.N (scOf sc) scope (ownOf sc (t.own ++ t1.own)) = true)
    (hT : chkT (inner sc scope) t tg = true) (hT1 : chkT (inner sc scope) t1 tg1 = true) (hi : SI gt n X W i tg iter) (hs : ∀ x, foldedSetIterable iter X.env x = pure x)
    (hC : ∀ X' : Cx, XOk gt n g.fn g.blt g.glb g.dfl (inner sc scope) X' WF → ∃ tt, PTs X' ifs tt ∧ EG gt X' WF relB tt (evC (run gt.C n) c))
    (hi1 : ∀ X' : Cx, XOk gt n g.fn g.blt g.glb g.dfl (inner sc scope) X' WF → SI gt n X' WF i1 tg1 iter1) (hs1 : ∀ env x, foldedSetIterable iter1 env x = pure x)
    (hC1 : ∀ X' : Cx, XOk gt n g.fn g.blt g.glb g.dfl (inner sc scope) X' WF → ∃ tt, PTs X' ifs1 tt ∧ EG gt X' WF relB tt (evC (run gt.C n) c1))
    (hE : ∀ X' : Cx, XOk gt n g.fn g.blt g.glb g.dfl (inner sc scope) X' WF → SE gt n X' WF e elt) : SE gt n X W (.ssc t i c t1 i1 c1 e) (.Call (.Name x p1) [.SetComp elt [⟨tg, iter, ifs, 0⟩, ⟨tg1, iter1, ifs1, 0⟩] scope pos] [] cpos) := by
  obtain ⟨bk, own, q1, q2, q3, q4, q5, q6⟩ := s_two ok hb hT hT1 hC hi1 hC1 hE
  obtain ⟨wi, pi, ki⟩ := hi
  subst hx
  have PX := pe_sc2 (pos := pos) (vs1 := t1.own) (ok.calm hc).1 (by rw [ok.N]; exact ok.nd) pi bk (fun j hj => by rw [own]; exact List.mem_append_right _ hj) q1 q2 q3 q4 q5 q6 hs hs1
  rw [own] at PX
  exact SE.of (pe_callV (cr_sortedSet (ok.calm hc).1) (.inl ⟨"sorted", rfl⟩) (glB_of ok g1) (ok.md.blt _ m1) (by decide +kernel) PX (by decide +kernel) (by decide +kernel) rfl) (ssc_eg pi ki) (fun _ => rfl)
end
end Ev

namespace Ev
open PySem PySem.Spec PyProof.Rows L2
section
variable {gt : Gt} {n : Nat} {g : Glo}
/-- an expression's code is sound wherever it stands -/
def Snd (gt : Gt) (n : Nat) (g : Glo) (c : E) (sc : Scp) (e : Expr) : Prop := nost e = true ∧ ∀ (X : Cx) (W : WX), XOk gt n g.fn g.blt g.glb g.dfl sc X W → SE gt n X W c e
def SndA (gt : Gt) (n : Nat) (g : Glo) (cs : Es) (sc : Scp) (es : List Expr) : Prop := (∀ e ∈ es, nost e = true) ∧ ∀ (X : Cx) (W : WX), XOk gt n g.fn g.blt g.glb g.dfl sc X W → SA gt n X W cs es
def SndB (gt : Gt) (n : Nat) (g : Glo) (cs : Es) (sc : Scp) (es : List Expr) : Prop := ∀ (X : Cx) (W : WX) (pos : Pos), XOk gt n g.fn g.blt g.glb g.dfl sc X W → es ≠ [] → SB gt n X W .And (evA (run gt.C n) cs) es pos ∧ SB gt n X W .Or (evO (run gt.C n) cs) es pos
def SndO (gt : Gt) (n : Nat) (g : Glo) (cs : Es) (sc : Scp) (e : Option Expr) : Prop := ∀ (X : Cx) (W : WX), XOk gt n g.fn g.blt g.glb g.dfl sc X W → SO gt n X W cs e
def SndC (gt : Gt) (n : Nat) (g : Glo) (cs : Es) (sc : Scp) (es : List Expr) : Prop := ∀ (X : Cx), XOk gt n g.fn g.blt g.glb g.dfl sc X WF → ∃ tt, PTs X es tt ∧ EG gt X WF relB tt (evC (run gt.C n) cs)
def SndI (gt : Gt) (n : Nat) (g : Glo) (i : I) (sc : Scp) (tg iter : Expr) : Prop := (∀ env x, foldedSetIterable iter env x = pure x) ∧ ∀ (X : Cx) (W : WX), XOk gt n g.fn g.blt g.glb g.dfl sc X W → SI gt n X W i tg iter
end
theorem b2 {a b : Bool} (h : (a && b) = true) : a = true ∧ b = true := by simpa using h
section
variable {gt : Gt} {n : Nat} {g : Glo}
theorem sb_and_ev {es : Es} {X : Cx} {W : WX} {xs : List Expr} {pos : Pos} (h : SB gt n X W .And (evA (run gt.C n) es) xs pos) : SE gt n X W (.and es) (.BoolOp .And xs pos) := by
  obtain ⟨t, pv, kv⟩ := h.v
  obtain ⟨t2, pw, kw⟩ := h.t
  refine ⟨⟨t, pv, ?_⟩, ⟨t2, pw.pt, ?_⟩⟩
  · simpa only [ev] using kv
  · have e : evT (run gt.C n) (.and es) = fun env O => (evA (run gt.C n) es env O).bind fun x O1 => .ofO x.bl O1 := by
      funext env O
      simp only [evT, ev]
    rw [e]; exact kw
theorem sb_or_ev {es : Es} {X : Cx} {W : WX} {xs : List Expr} {pos : Pos} (h : SB gt n X W .Or (evO (run gt.C n) es) xs pos) : SE gt n X W (.or es) (.BoolOp .Or xs pos) := by
  obtain ⟨t, pv, kv⟩ := h.v
  obtain ⟨t2, pw, kw⟩ := h.t
  refine ⟨⟨t, pv, ?_⟩, ⟨t2, pw.pt, ?_⟩⟩
  · simpa only [ev] using kv
  · have e : evT (run gt.C n) (.or es) = fun env O => (evO (run gt.C n) es env O).bind fun x O1 => .ofO x.bl O1 := by
      funext env O
      simp only [evT, ev]
    rw [e]; exact kw
theorem sc_nil {sc : Scp} : SndC gt n g .nil sc [] := fun X ok => ⟨_, pts_nil, fun G H O σ env H0 o w => by
  show Goal gt X.K _ relB G H (.ok true O) _
  exact fun Q q => q true G H [] (Ext.refl G H) o ⟨rfl, rfl⟩ Fresh.nil⟩
theorem sc_one {a : E} {x : Expr} {sc : Scp} (h : Snd gt n g a sc x) : SndC gt n g (.cons a .nil) sc [x] := fun X ok => by
  obtain ⟨t, pt, kt⟩ := (h.2 X WF ok).t
  refine ⟨t, pts_one pt, ?_⟩
  have e : evC (run gt.C n) (.cons a .nil) = evT (run gt.C n) a := by
    funext env O
    simp only [evC, evT]
  rw [e]; exact kt
theorem sndB_one {a : E} {x : Expr} {sc : Scp} (h : Snd gt n g a sc x) : SndB gt n g (.cons a .nil) sc [x] := fun X W pos ok _ => by
  have e1 : evA (run gt.C n) (.cons a .nil) = ev (run gt.C n) a := by funext env O; simp only [evA]
  have e2 : evO (run gt.C n) (.cons a .nil) = ev (run gt.C n) a := by funext env O; simp only [evO]
  rw [e1, e2]
  exact ⟨sb_one (h.2 X W ok), sb_one (h.2 X W ok)⟩
theorem sndB_two {a b : E} {r : Es} {x y : Expr} {ys : List Expr} {sc : Scp} (h : Snd gt n g a sc x) (k : SndB gt n g (.cons b r) sc (y :: ys)) : SndB gt n g (.cons a (.cons b r)) sc (x :: y :: ys) := fun X W pos ok _ =>
  ⟨sb_and (h.2 X W ok) (k X W pos ok (by simp)).1, sb_or (h.2 X W ok) (k X W pos ok (by simp)).2⟩

mutual
theorem soE : ∀ (c : E) (sc : Scp) (e : Expr), chkE g c sc e = true → Snd gt n g c sc e
  | .var i, sc, e, h => by
    unfold chkE at h; split at h
    all_goals first | (cases h; done) | (rename_i q; cases q; done) | skip
    rename_i q
    cases q
    simp only [Bool.and_eq_true, decide_eq_true_eq, Bool.not_eq_true'] at h
    obtain ⟨⟨h1, h2⟩, h3⟩ := h
    exact ⟨rfl, fun X W ok => s_var ok h1 h2 h3⟩
  | .con d, sc, e, h => by
    unfold chkE at h; split at h
    all_goals first | (cases h; done) | (rename_i q; cases q; done) | skip
    rename_i q
    cases q
    have h1 := h
    exact ⟨rfl, fun X W ok => s_con ok h1⟩
  | .glb y d, sc, e, h => by
    unfold chkE at h; split at h
    all_goals first | (cases h; done) | (rename_i q; cases q; done) | skip
    rename_i q
    cases q
    simp only [Bool.and_eq_true, decide_eq_true_eq] at h
    obtain ⟨⟨⟨h1, h2⟩, h3⟩, h4⟩ := h
    subst h1
    exact ⟨rfl, fun X W ok => s_glb ok h2 h3 (by simpa only [Bool.and_eq_true, decide_eq_true_eq, List.any_eq_true] using h4)⟩
  | .bin op a b, sc, e, h => by
    unfold chkE at h; split at h
    all_goals first | (cases h; done) | (rename_i q; cases q; done) | skip
    rename_i q
    cases q
    simp only [Bool.and_eq_true, decide_eq_true_eq, Bool.not_eq_true'] at h
    obtain ⟨⟨⟨h1, h2⟩, h3⟩, h4⟩ := h
    subst h1
    exact ⟨rfl, fun X W ok => s_bin h2 ((soE a _ _ h3).2 X W ok) ((soE b _ _ h4).2 X W ok)⟩
  | .neg a, sc, e, h => by
    unfold chkE at h; split at h
    all_goals first | (cases h; done) | (rename_i q; cases q; done) | skip
    rename_i q
    cases q
    have h1 := h
    exact ⟨rfl, fun X W ok => s_neg ((soE a _ _ h1).2 X W ok)⟩
  | .cmp op a b, sc, e, h => by
    unfold chkE at h; split at h
    all_goals first | (cases h; done) | (rename_i q; cases q; done) | skip
    rename_i q
    cases q
    simp only [Bool.and_eq_true, decide_eq_true_eq, Bool.not_eq_true'] at h
    obtain ⟨⟨⟨⟨h1, h2⟩, h3⟩, h4⟩, h5⟩ := h
    subst h1
    exact ⟨rfl, fun X W ok => s_cmp ok h2 h3 ((soE a _ _ h4).2 X W ok) ((soE b _ _ h5).2 X W ok)⟩
  | .isn neg a, sc, e, h => by
    unfold chkE at h; split at h
    all_goals first | (cases h; done) | (rename_i q; cases q; done) | skip
    rename_i q
    cases q
    simp only [Bool.and_eq_true, decide_eq_true_eq, Bool.not_eq_true'] at h
    obtain ⟨h1, h2⟩ := h
    subst h1
    exact ⟨rfl, fun X W ok => s_isn ((soE a _ _ h2).2 X W ok)⟩
  | .chn o p a b c, sc, e, h => by
    unfold chkE at h; split at h
    all_goals first | (cases h; done) | (rename_i q; cases q; done) | skip
    rename_i q
    cases q
    simp only [Bool.and_eq_true, decide_eq_true_eq, Bool.not_eq_true'] at h
    obtain ⟨⟨⟨⟨⟨⟨⟨⟨h1, h2⟩, h3⟩, h4⟩, h5⟩, h6⟩, h7⟩, h8⟩, h9⟩ := h
    subst h1
    subst h2
    exact ⟨rfl, fun X W ok => s_chn ok.un h3 h4 h5 h6 ((soE a _ _ h7).2 X W ok) ((soE b _ _ h8).2 X W ok) ((soE c _ _ h9).2 X W ok)⟩
  | .and es, sc, e, h => by
    unfold chkE at h; split at h
    all_goals first | (cases h; done) | (rename_i q; cases q; done) | skip
    rename_i q
    cases q
    simp only [Bool.and_eq_true, decide_eq_true_eq, Bool.not_eq_true'] at h
    obtain ⟨h1, h2⟩ := h
    exact ⟨rfl, fun X W ok => sb_and_ev ((soB es _ _ h1 X W _ ok) (by intro z; rw [z] at h2; cases h2)).1⟩
  | .or es, sc, e, h => by
    unfold chkE at h; split at h
    all_goals first | (cases h; done) | (rename_i q; cases q; done) | skip
    rename_i q
    cases q
    simp only [Bool.and_eq_true, decide_eq_true_eq, Bool.not_eq_true'] at h
    obtain ⟨h1, h2⟩ := h
    exact ⟨rfl, fun X W ok => sb_or_ev ((soB es _ _ h1 X W _ ok) (by intro z; rw [z] at h2; cases h2)).2⟩
  | .not a, sc, e, h => by
    unfold chkE at h; split at h
    all_goals first | (cases h; done) | (rename_i q; cases q; done) | skip
    rename_i q
    cases q
    have h1 := h
    exact ⟨rfl, fun X W ok => s_not ((soE a _ _ h1).2 X W ok)⟩
  | .ite c a b, sc, e, h => by
    unfold chkE at h; split at h
    all_goals first | (cases h; done) | (rename_i q; cases q; done) | skip
    rename_i q
    cases q
    simp only [Bool.and_eq_true, decide_eq_true_eq, Bool.not_eq_true'] at h
    obtain ⟨⟨h1, h2⟩, h3⟩ := h
    exact ⟨rfl, fun X W ok => s_ite ((soE c _ _ h1).2 X W ok) ((soE a _ _ h2).2 X W ok) ((soE b _ _ h3).2 X W ok)⟩
  | .tup es, sc, e, h => by
    unfold chkE at h; split at h
    all_goals first | (cases h; done) | (rename_i q; cases q; done) | skip
    rename_i q
    cases q
    have h1 := h
    exact ⟨rfl, fun X W ok => s_tup ((soEs es _ _ h1).2 X W ok)⟩
  | .lst m es, sc, e, h => by
    unfold chkE at h; split at h
    all_goals first | (cases h; done) | (rename_i q; cases q; done) | skip
    rename_i q
    cases q
    have h1 := h
    exact ⟨rfl, fun X W ok => s_lst ((soEs es _ _ h1).2 X W ok)⟩
  | .cell es, sc, e, h => by
    unfold chkE at h; split at h
    all_goals first | (cases h; done) | (rename_i q; cases q; done) | skip
    rename_i q
    cases q
    have h1 := h
    exact ⟨rfl, fun X W ok => s_cell ((soEs es _ _ h1).2 X W ok)⟩
  | .idx a i, sc, e, h => by
    unfold chkE at h; split at h
    all_goals first | (cases h; done) | (rename_i q; cases q; done) | skip
    rename_i q
    cases q
    simp only [Bool.and_eq_true, decide_eq_true_eq, Bool.not_eq_true'] at h
    obtain ⟨⟨h1, h2⟩, h3⟩ := h
    exact ⟨rfl, fun X W ok => s_idx h1 ((soE a _ _ h2).2 X W ok) ((soE i _ _ h3).2 X W ok)⟩
  | .slc a lo hi, sc, e, h => by
    unfold chkE at h; split at h
    all_goals first | (cases h; done) | (rename_i q; cases q; done) | skip
    rename_i q
    cases q
    simp only [Bool.and_eq_true, decide_eq_true_eq, Bool.not_eq_true'] at h
    obtain ⟨⟨h1, h2⟩, h3⟩ := h
    exact ⟨rfl, fun X W ok => s_slc ((soE a _ _ h1).2 X W ok) (soO lo _ _ h2 X W ok) (soO hi _ _ h3 X W ok)⟩
  | .rev a, sc, e, h => by
    unfold chkE at h; split at h
    all_goals first | (cases h; done) | (rename_i q; cases q; done) | skip
    rename_i q
    cases q
    have h1 := h
    exact ⟨rfl, fun X W ok => s_rev ((soE a _ _ h1).2 X W ok)⟩
  | .call f es, sc, e, h => by
    unfold chkE at h; split at h
    all_goals first | (cases h; done) | (rename_i q; cases q; done) | skip
    rename_i q
    cases q
    simp only [Bool.and_eq_true, decide_eq_true_eq, Bool.not_eq_true'] at h
    obtain ⟨⟨⟨⟨h1, h2⟩, h3⟩, h4⟩, h5⟩ := h
    have hA := soEs es _ _ h5
    refine ⟨rfl, fun X W ok => ?_⟩
    have hS := hA.2 X W ok
    rename_i xs _
    cases xs with
    | nil =>
      cases es with
      | nil => exact s_call0 ok h1 h2 h3 h4
      | cons _ _ => unfold chkEs at h5; cases h5
    | cons y ys => exact s_call ok h1 h2 h3 h4 hS
  | .callD f es ds, sc, e, h => by
    unfold chkE at h; split at h
    all_goals first | (cases h; done) | (rename_i q; cases q; done) | skip
    rename_i q
    cases q
    simp only [Bool.and_eq_true, decide_eq_true_eq, Bool.not_eq_true'] at h
    obtain ⟨⟨⟨⟨⟨h1, h2⟩, h3⟩, h4⟩, h5⟩, h6⟩ := h
    exact ⟨rfl, fun X W ok => s_callD ok h1 h2 h3 h4 h6 ((soEs es _ _ h5).2 X W ok)⟩
  | .bi b a, sc, e, h => by
    unfold chkE at h; split at h
    all_goals first | (cases h; done) | (rename_i q; cases q; done) | skip
    rename_i q
    cases q
    simp only [Bool.and_eq_true, decide_eq_true_eq, Bool.not_eq_true'] at h
    obtain ⟨⟨⟨⟨⟨h1, h2⟩, h3⟩, h4⟩, h5⟩, h6⟩ := h
    exact ⟨rfl, fun X W ok => s_bi ok h1 h2 h3 h4 h5 (soE a _ _ h6).1 ((soE a _ _ h6).2 X W ok)⟩
  | .sset a, sc, e, h => by
    unfold chkE at h; split at h
    all_goals first | (cases h; done) | (rename_i q; cases q; done) | skip
    rename_i q
    cases q
    simp only [Bool.and_eq_true, decide_eq_true_eq, Bool.not_eq_true'] at h
    obtain ⟨⟨⟨⟨⟨⟨⟨h1, h2⟩, h3⟩, h4⟩, h5⟩, h6⟩, h7⟩, h8⟩ := h
    exact ⟨rfl, fun X W ok => s_sset ok h1 h2 h3 h4 h5 h6 h7 (soE a _ _ h8).1 ((soE a _ _ h8).2 X W ok)⟩
  | .isi a ty, sc, e, h => by
    unfold chkE at h; split at h
    all_goals first | (cases h; done) | (rename_i q; cases q; done) | skip
    rename_i q
    cases q
    simp only [Bool.and_eq_true, decide_eq_true_eq, Bool.not_eq_true'] at h
    obtain ⟨⟨⟨⟨⟨⟨⟨h1, h2⟩, h3⟩, h4⟩, h5⟩, h6⟩, h7⟩, h8⟩ := h
    exact ⟨rfl, fun X W ok => s_isi ok h1 h2 h3 h4 h5 h6 h7 (soE a _ _ h8).1 ((soE a _ _ h8).2 X W ok)⟩
  | .met m a b, sc, e, h => by
    unfold chkE at h; split at h
    all_goals first | (cases h; done) | (rename_i q; cases q; done) | skip
    rename_i q
    cases q
    simp only [Bool.and_eq_true, decide_eq_true_eq] at h
    obtain ⟨⟨⟨⟨⟨h1, h2⟩, h3⟩, h4⟩, h5⟩, h6⟩ := h
    exact ⟨rfl, fun X W ok => s_met h1 h2 h3 h4 (soE b _ _ h6).1 ((soE a _ _ h5).2 X W ok) ((soE b _ _ h6).2 X W ok)⟩
  | .lrg tu a b, sc, e, h => by
    unfold chkE at h; split at h
    all_goals first | (cases h; done) | (rename_i q; cases q; done) | skip
    rename_i q
    cases q
    simp only [Bool.and_eq_true, decide_eq_true_eq, Bool.not_eq_true'] at h
    obtain ⟨⟨⟨⟨⟨⟨⟨⟨h1, h2⟩, h3⟩, h4⟩, h5⟩, h6⟩, h7⟩, h8⟩, h9⟩ := h
    exact ⟨rfl, fun X W ok => s_lrg ok h1 h2 h3 h4 h5 h6 h7 (soE a _ _ h8).1 (soE b _ _ h9).1 ((soE a _ _ h8).2 X W ok) ((soE b _ _ h9).2 X W ok)⟩
  | .lc m t i c e', sc, e, h => by
    unfold chkE at h; split at h
    all_goals first | (cases h; done) | (rename_i q; cases q; done) | skip
    rename_i q
    cases q
    simp only [Bool.and_eq_true, decide_eq_true_eq, Bool.not_eq_true'] at h
    obtain ⟨⟨⟨⟨⟨h1, h2⟩, h3⟩, h4⟩, h5⟩, h6⟩ := h
    exact ⟨rfl, fun X W ok => s_lc ok h1 h2 h3 ((soI i _ _ _ h4).2 X W ok) ((soI i _ _ _ h4).1 X.env) (soC c _ _ h5) (fun X' ok' => (soE e' _ _ h6).2 X' WF ok')⟩
  | .lrg1 tu a, sc, e, h => by
    unfold chkE at h; split at h
    all_goals first | (cases h; done) | (rename_i q; cases q; done) | skip
    rename_i q
    cases q
    simp only [Bool.and_eq_true, decide_eq_true_eq, Bool.not_eq_true'] at h
    obtain ⟨⟨⟨⟨⟨⟨⟨h1, h2⟩, h3⟩, h4⟩, h5⟩, h6⟩, h7⟩, h8⟩ := h
    exact ⟨rfl, fun X W ok => s_lrg1 ok h1 h2 h3 h4 h5 h6 h7 (soE a _ _ h8).1 ((soE a _ _ h8).2 X W ok)⟩
  | .lc2 m t i c t1 i1 c1 e', sc, e, h => by
    unfold chkE at h; split at h
    all_goals first | (cases h; done) | (rename_i q; cases q; done) | skip
    rename_i q
    cases q
    simp only [Bool.and_eq_true, decide_eq_true_eq, Bool.not_eq_true'] at h
    obtain ⟨⟨⟨⟨⟨⟨⟨⟨h1, h2⟩, h3⟩, h4⟩, h5⟩, h6⟩, h7⟩, h8⟩, h9⟩ := h
    exact ⟨rfl, fun X W ok => s_lc2 ok h1 h2 h3 h4 ((soI i _ _ _ h5).2 X W ok) ((soI i _ _ _ h5).1 X.env) (soC c _ _ h6) (fun X' ok' => (soI i1 _ _ _ h7).2 X' WF ok') (soI i1 _ _ _ h7).1 (soC c1 _ _ h8) (fun X' ok' => (soE e' _ _ h9).2 X' WF ok')⟩
  | .ssc t i c t1 i1 c1 e', sc, e, h => by
    unfold chkE at h; split at h
    all_goals first | (cases h; done) | (rename_i q; cases q; done) | skip
    rename_i q
    cases q
    simp only [Bool.and_eq_true, decide_eq_true_eq, Bool.not_eq_true'] at h
    obtain ⟨⟨⟨⟨⟨⟨⟨⟨⟨⟨⟨h1, h2⟩, h3⟩, h4⟩, h5⟩, h6⟩, h7⟩, h8⟩, h9⟩, h10⟩, h11⟩, h12⟩ := h
    exact ⟨rfl, fun X W ok => s_ssc ok h1 h2 h3 h4 h5 h6 h7 ((soI i _ _ _ h8).2 X W ok) ((soI i _ _ _ h8).1 X.env) (soC c _ _ h9) (fun X' ok' => (soI i1 _ _ _ h10).2 X' WF ok') (soI i1 _ _ _ h10).1 (soC c1 _ _ h11) (fun X' ok' => (soE e' _ _ h12).2 X' WF ok')⟩
  | .tups xs, sc, e, h => by
    unfold chkE at h; split at h
    all_goals first | (cases h; done) | (rename_i q; cases q; done) | skip
    rename_i q
    cases q
    have h1 := h
    exact ⟨rfl, fun X W ok => s_tups (soX xs _ _ h1 X W ok)⟩
  | .lsts xs, sc, e, h => by
    unfold chkE at h; split at h
    all_goals first | (cases h; done) | (rename_i q; cases q; done) | skip
    rename_i q
    cases q
    have h1 := h
    exact ⟨rfl, fun X W ok => s_lsts (soX xs _ _ h1 X W ok)⟩
theorem soX : ∀ (cs : Xs) (sc : Scp) (es : List Expr), chkX g cs sc es = true → ∀ (X : Cx) (W : WX), XOk gt n g.fn g.blt g.glb g.dfl sc X W → SX gt n X W cs es
  | .nil, sc, [], h => fun X W ok => SX.nil
  | .nil, sc, _ :: _, h => by unfold chkX at h; cases h
  | .cons a r, sc, [], h => by unfold chkX at h; cases h
  | .cons a r, sc, x :: xs, h => by
    unfold chkX at h
    obtain ⟨h1, h2⟩ := b2 h
    have ha := soE a sc x h1
    have hr := soX r sc xs h2
    exact fun X W ok => SX.cons ha.1 (ha.2 X W ok) (hr X W ok)
  | .star a r, sc, [], h => by unfold chkX at h; cases h
  | .star a r, sc, x :: xs, h => by
    unfold chkX at h; split at h
    all_goals first | (cases h; done) | (rename_i q _; cases q; done) | skip
    rename_i q y
    cases q
    cases y
    obtain ⟨h1, h2⟩ := b2 h
    have ha := soE a _ _ h1
    have hr := soX r _ _ h2
    exact fun X W ok => SX.star (ha.2 X W ok) (hr X W ok)
theorem soEs : ∀ (cs : Es) (sc : Scp) (es : List Expr), chkEs g cs sc es = true → SndA gt n g cs sc es
  | .nil, sc, [], h => ⟨fun _ z => (List.not_mem_nil z).elim, fun X W ok => SA.nil⟩
  | .nil, sc, _ :: _, h => by unfold chkEs at h; cases h
  | .cons a r, sc, [], h => by unfold chkEs at h; cases h
  | .cons a r, sc, x :: xs, h => by
    unfold chkEs at h
    obtain ⟨h1, h2⟩ := b2 h
    have ha := soE a sc x h1
    have hr := soEs r sc xs h2
    refine ⟨fun e he => ?_, fun X W ok => SA.cons ha.1 (ha.2 X W ok) (hr.2 X W ok)⟩
    rcases List.mem_cons.mp he with he | he
    · rw [he]; exact ha.1
    · exact hr.1 e he
theorem soB : ∀ (cs : Es) (sc : Scp) (es : List Expr), chkEs g cs sc es = true → SndB gt n g cs sc es
  | .nil, sc, [], h => fun X W pos ok z => absurd rfl z
  | .nil, sc, _ :: _, h => by unfold chkEs at h; cases h
  | .cons a r, sc, [], h => by unfold chkEs at h; cases h
  | .cons a .nil, sc, [x], h => by
    unfold chkEs at h
    exact sndB_one (soE a sc x (b2 h).1)
  | .cons a .nil, sc, x :: y :: ys, h => by
    unfold chkEs at h
    have h2 := (b2 h).2
    unfold chkEs at h2
    cases h2
  | .cons a (.cons b r), sc, [x], h => by
    unfold chkEs at h
    have h2 := (b2 h).2
    unfold chkEs at h2
    cases h2
  | .cons a (.cons b r), sc, x :: y :: ys, h => by
    unfold chkEs at h
    exact sndB_two (soE a sc x (b2 h).1) (soB (.cons b r) sc (y :: ys) (b2 h).2)
theorem soO : ∀ (cs : Es) (sc : Scp) (e : Option Expr), chkO g cs sc e = true → SndO gt n g cs sc e
  | .nil, sc, none, h => fun X W ok => SO.none
  | .nil, sc, some _, h => by unfold chkO at h; cases h
  | .cons a .nil, sc, some x, h => fun X W ok => SO.some ((soE a sc x (by unfold chkO at h; exact h)).2 X W ok)
  | .cons a .nil, sc, none, h => by unfold chkO at h; cases h
  | .cons a (.cons _ _), sc, none, h => by unfold chkO at h; cases h
  | .cons a (.cons _ _), sc, some _, h => by unfold chkO at h; cases h
theorem soC : ∀ (cs : Es) (sc : Scp) (es : List Expr), chkC g cs sc es = true → SndC gt n g cs sc es
  | .nil, sc, [], h => sc_nil
  | .nil, sc, _ :: _, h => by unfold chkC at h; cases h
  | .cons a .nil, sc, [x], h => sc_one (soE a sc x (by unfold chkC at h; exact h))
  | .cons a .nil, sc, [], h => by unfold chkC at h; cases h
  | .cons a .nil, sc, _ :: _ :: _, h => by unfold chkC at h; cases h
  | .cons a (.cons _ _), sc, [], h => by unfold chkC at h; cases h
  | .cons a (.cons _ _), sc, _ :: _, h => by unfold chkC at h; cases h
theorem soI : ∀ (i : I) (sc : Scp) (tg iter : Expr), chkI g i sc tg iter = true → SndI gt n g i sc tg iter
  | .e a, sc, tg, iter, h => by
    unfold chkI at h
    obtain ⟨h1, h2⟩ := b2 h
    exact ⟨fun _ => folded_ok h2, fun X W ok => si_e ((soE a _ _ h1).2 X W ok)⟩
  | .rng1 a, sc, tg, iter, h => by
    unfold chkI at h; split at h
    all_goals first | (cases h; done) | (rename_i q; cases q; done) | skip
    rename_i q
    cases q
    simp only [Bool.and_eq_true, decide_eq_true_eq, Bool.not_eq_true'] at h
    obtain ⟨⟨⟨h1, h2⟩, h3⟩, h4⟩ := h
    exact ⟨fun _ _ => rfl, fun X W ok => si_rng1 ok h1 h2 h3 (soE a _ _ h4).1 ((soE a _ _ h4).2 X W ok)⟩
  | .rng a b, sc, tg, iter, h => by
    unfold chkI at h; split at h
    all_goals first | (cases h; done) | (rename_i q; cases q; done) | skip
    rename_i q
    cases q
    simp only [Bool.and_eq_true, decide_eq_true_eq, Bool.not_eq_true'] at h
    obtain ⟨⟨⟨⟨h1, h2⟩, h3⟩, h4⟩, h5⟩ := h
    exact ⟨fun _ _ => rfl, fun X W ok => si_rng ok h1 h2 h3 (soE a _ _ h4).1 (soE b _ _ h5).1 ((soE a _ _ h4).2 X W ok) ((soE b _ _ h5).2 X W ok)⟩
  | .enum a, sc, tg, iter, h => by
    unfold chkI at h; split at h
    all_goals first | (cases h; done) | (rename_i q; cases q; done) | skip
    rename_i q
    cases q
    simp only [Bool.and_eq_true, decide_eq_true_eq, Bool.not_eq_true'] at h
    obtain ⟨⟨⟨h1, h2⟩, h3⟩, h4⟩ := h
    exact ⟨fun _ _ => rfl, fun X W ok => si_enum ok h1 h2 h3 (soE a _ _ h4).1 ((soE a _ _ h4).2 X W ok)⟩
  | .enumS a k, sc, tg, iter, h => by
    unfold chkI at h; split at h
    all_goals first | (cases h; done) | (rename_i q; cases q; done) | skip
    rename_i q
    cases q
    simp only [Bool.and_eq_true, decide_eq_true_eq, Bool.not_eq_true'] at h
    obtain ⟨⟨⟨⟨h1, h2⟩, h3⟩, h4⟩, h5⟩ := h
    exact ⟨fun _ _ => rfl, fun X W ok => si_enumS ok h1 h2 h3 (soE a _ _ h4).1 (soE k _ _ h5).1 ((soE a _ _ h4).2 X W ok) ((soE k _ _ h5).2 X W ok)⟩
  | .zip es, sc, tg, iter, h => by
    unfold chkI at h; split at h
    all_goals first | (cases h; done) | (rename_i q; cases q; done) | skip
    rename_i q
    cases q
    simp only [Bool.and_eq_true, decide_eq_true_eq, Bool.not_eq_true'] at h
    obtain ⟨⟨⟨h1, h2⟩, h3⟩, h4⟩ := h
    exact ⟨fun _ _ => rfl, fun X W ok => si_zip ok h1 h2 h3 ((soEs es _ _ h4).2 X W ok)⟩
end
end
end Ev

namespace Ev
open PySem PySem.Spec PyProof.Rows L2
/-! ### what is shown of a statement -/
def FPost (gt : Gt) (K : PySem.W.Frag) (W : WX) (G0 : Gh) (H0 : Hp) (r : Fl) (D : Ends) : Prop := match r with
  | .nx env O => ∀ σ G H, Ext G0 G H0 H → GOk K G H O → EnvOk K H0 G H σ env → D.nx σ H
  | .bk env O => ∀ σ G H, Ext G0 G H0 H → GOk K G H O → EnvOk K H0 G H σ env → D.bk σ H
  | .ct env O => ∀ σ G H, Ext G0 G H0 H → GOk K G H O → EnvOk K H0 G H σ env → D.ct σ H
  | .rt x O => ∀ v G H fp, Ext G0 G H0 H → GOk K G H O → KRep K x G H v fp → Fresh H0 G fp → D.rt v H
  | .exc x env O => ∀ cls dx σ G H, Ext G0 G H0 H → GOk K G H O → EnvOk K H0 G H σ env → ExR gt K x G cls dx → W cls dx σ H
  | .stk => False
def SG (gt : Gt) (X : Cx) (W : WX) (t : TS) (m : List Sl → Sto → Fl) : Prop := ∀ G0 H0 G H O σ env, Ext G0 G H0 H → GOk X.K G H O → EnvOk X.K H0 G H σ env → ∀ D, FPost gt X.K W G0 H0 (m env O) D → t D σ H
section
variable {gt : Gt} {n : Nat} {g : Glo} {sc : Scp} {X : Cx} {W : WX} {G0 G G1 G2 : Gh} {H0 H H1 H2 : Hp} {O O1 : Sto} {σ : St} {env env' : List Sl} {D : Ends} {K : PySem.W.Frag}
theorem EG.fl {α β : Type} {rel : Rel α β} {t : St → Hp → (α → Hp → Prop) → Prop} {m : List Sl → Sto → R β} {f : β → Sto → Fl} (h : EG gt X W rel t m) (e0 : Ext G0 G H0 H) (o : GOk X.K G H O) (w : EnvOk X.K H0 G H σ env)
    (p : FPost gt X.K W G0 H0 ((m env O).fl env f) D) {Q : α → Hp → Prop} (k : ∀ x O1 v G1 H1 fp, Ext G G1 H H1 → GOk X.K G1 H1 O1 → rel x G1 H1 v fp → Fresh H G1 fp → FPost gt X.K W G0 H0 (f x O1) D → Q v H1) : t σ H Q := by
  have z := h G H O σ env H0 o w
  cases q : m env O with
  | ok x O1 =>
    rw [q] at z p
    exact z Q fun v G1 H1 fp e o r f => k x O1 v G1 H1 fp e o r f p
  | exc x O1 =>
    rw [q] at z p
    exact z Q fun cls dx G1 H1 e o r => p cls dx σ G1 H1 (e0.trans e) o (w.ext e) r
  | stk => rw [q] at p; exact p.elim
theorem FPost.opt {α : Type} {o : Option α} {k : α → Fl} (p : FPost gt K W G0 H0 (Fl.opt o k) D) : ∃ a, o = some a ∧ FPost gt K W G0 H0 (k a) D := by
  cases o with
  | none => exact p.elim
  | some a => exact ⟨a, rfl, p⟩
/-- things kept for ever beside one's own -/
theorem EnvW.fr {φ : Nat → List Addr} {fp : List Addr} (w : EnvW K H0 G H σ env φ) (s : Sub G.F H) (ap : ∀ a ∈ fp, ∀ j, a ∉ φ j) : EnvW K H0 (G.fr H fp) H σ env φ where
  len := w.len
  nd := w.nd
  apart := w.apart
  new := fun i a h => by
    obtain ⟨h0, h1, h2, h3⟩ := w.new i a h
    refine ⟨h0, ?_, h2, h3⟩
    show (if a ∈ fp then H a else G.F a) = none
    rw [if_neg fun z => ap a z i h]
    exact h1
  at' := fun i s' h => by
    have := w.at' i s' h
    cases s' with
    | un => exact this
    | va d => obtain ⟨e, v, e2, t⟩ := this; exact ⟨e, v, e2, Den.mono (Gh.fr_le s fp) d v t⟩
    | ow n d => obtain ⟨v, e, o⟩ := this; exact ⟨v, e, Own.keep (Gh.fr_le s fp) n d v _ (fun _ _ => rfl) o⟩
/-- a name takes what was made -/
theorem slotW {φ : Nat → List Addr} {x : XD} {v : V} {f : List Addr} {own : Bool} {i : Nat} {s : Sl} (w : EnvW K H0 G H σ env φ) (e0 : Ext G0 G H0 H) (o : GOk K G H O) (rl : KRep K x G H v f) (fr : Fresh H0 G f) (ap : ∀ a ∈ f, ∀ j, a ∉ φ j)
    (hs : x.slot own = some s) (hE : setE env i s = some env') : ∃ G2 φ', Ext G0 G2 H0 H ∧ GOk K G2 H O ∧ EnvW K H0 G2 H (σ.set i (some v)) env' φ' ∧ Le G G2 ∧ (∀ a, a ∉ f → (∀ j, a ∉ φ j) → ∀ j, a ∉ φ' j) ∧ (∀ a, a ∉ f → G2.F a = G.F a) ∧ G2.A = G.A := by
  unfold setE at hE
  split at hE
  case isFalse => cases hE
  rename_i hi
  cases hE
  have frz : ∀ d, x.fzd = some d → s = .va d → ∃ G2 φ', Ext G0 G2 H0 H ∧ GOk K G2 H O ∧ EnvW K H0 G2 H (σ.set i (some v)) (env.set i s) φ' ∧ Le G G2 ∧ (∀ a, a ∉ f → (∀ j, a ∉ φ j) → ∀ j, a ∉ φ' j) ∧ (∀ a, a ∉ f → G2.F a = G.F a) ∧ G2.A = G.A := fun d hd hsv => by
    subst hsv
    have dn : Den K (G.fr H f) d v := rl.frz1 o.sub hd
    refine ⟨G.fr H f, _, e0.ofFr o.sub fr, o.ofFr fr, (w.fr o.sub ap).put hi (s := .va d) (f := []) ⟨rfl, v, rfl, dn⟩ List.nodup_nil (fun _ _ _ h => by cases h) (fun _ h => by cases h), Gh.fr_le o.sub f, fun a _ h j => ?_, fun a h => if_neg h, rfl⟩
    show a ∉ (if j = i then [] else φ j)
    split
    · exact List.not_mem_nil
    · exact h j
  unfold XD.slot at hs
  split at hs
  · obtain ⟨d, hd, e⟩ := Option.map_eq_some_iff.mp hs
    exact frz d hd e.symm
  · rename_i m d
    cases hs
    refine ⟨G, _, e0, o, w.put hi (s := .ow m d) (f := f) ⟨v, rfl, rl⟩ fr.nd (fun j _ a ha => ap a ha j) (fun a ha => ⟨(fr.new a ha).1, (fr.new a ha).2.1, (fr.new a ha).2.2, KRep.trk (x := .ow m d) rl a ha⟩), Le.refl G, fun a h1 h2 j => ?_, fun _ _ => rfl, rfl⟩
    show a ∉ (if j = i then f else φ j)
    split
    · exact h1
    · exact h2 j
  · cases hs
    exact frz _ rfl rfl
  · cases hs
theorem apart {φ : Nat → List Addr} {fp : List Addr} (w : EnvW K H0 G H σ env φ) (fr : Fresh H G1 fp) : ∀ a ∈ fp, ∀ j, a ∉ φ j := fun a ha j z => (w.new j a z).2.2.2 (fr.new a ha).1
theorem slot1 {x : XD} {v : V} {f : List Addr} {own : Bool} {i : Nat} (w : EnvOk K H0 G H σ env) (e0 : Ext G0 G H0 H) (e : Ext G G1 H H1) (o : GOk K G1 H1 O) (rl : KRep K x G1 H1 v f) (fr : Fresh H G1 f)
    (hs : (x.slot own).bind (fun s => setE env i s) = some env') : ∃ G2, Ext G0 G2 H0 H1 ∧ GOk K G2 H1 O ∧ EnvOk K H0 G2 H1 (σ.set i (some v)) env' := by
  obtain ⟨φ, w⟩ := w
  obtain ⟨s, h1, h2⟩ := Option.bind_eq_some_iff.mp hs
  obtain ⟨G2, φ', a, b, c, _⟩ := slotW (w.ext e) (e0.trans e) o rl (Fresh.pre e0 fr) (apart w fr) h1 h2
  exact ⟨G2, a, b, φ', c⟩
theorem KRep.mv {x : XD} {v : V} {f : List Addr} (l : Le G G2) (hA : G2.A = G.A) (h : KRep K x G H v f) : KRep K x G2 H v f := by
  cases x with
  | fz d => exact ⟨h.1, Den.mono l d v h.2⟩
  | ow n d => exact Own.keep l n d v f (fun _ _ => rfl) h
  | br n d =>
    obtain ⟨e, q, o, k⟩ := h
    exact ⟨e, q, Own.keep l n d v q (fun _ _ => rfl) o, by rw [hA]; exact k⟩
theorem KReps.mv (l : Le G G2) (hA : G2.A = G.A) : ∀ {xs : List XD} {vs : List V} {f : List Addr}, KReps K xs G H vs f → KReps K xs G2 H vs f
  | [], _, _, h => h
  | x :: xs, _, _, h => by
    obtain ⟨v, r, f, f', e1, e2, p, q⟩ := h
    exact ⟨v, r, f, f', e1, e2, p.mv l hA, KReps.mv l hA q⟩
/-- the names of js, one after another -/
def putAll : List (Nat × Bool) → List V → St → St
  | (i, _) :: js, v :: vs, σ => putAll js vs (σ.set i (some v))
  | _, _, σ => σ
theorem slots : ∀ {js : List (Nat × Bool)} {xs : List XD} {vs : List V} {fp : List Addr} {env env' : List Sl} {σ : St} {G : Gh} {φ : Nat → List Addr}, EnvW K H0 G H σ env φ → Ext G0 G H0 H → GOk K G H O → KReps K xs G H vs fp → Fresh H0 G fp → (∀ a ∈ fp, ∀ j, a ∉ φ j) → parE js xs env = some env' →
    ∃ G2, Ext G0 G2 H0 H ∧ GOk K G2 H O ∧ EnvOk K H0 G2 H (putAll js vs σ) env'
  | [], [], vs, fp, env, env', σ, G, φ, w, e0, o, rl, fr, ap, h => by
    simp only [parE, Option.some.injEq] at h
    subst h
    exact ⟨G, e0, o, φ, w⟩
  | [], _ :: _, vs, fp, env, env', σ, G, φ, w, e0, o, rl, fr, ap, h => by simp [parE] at h
  | (i, b) :: js, [], vs, fp, env, env', σ, G, φ, w, e0, o, rl, fr, ap, h => by simp [parE] at h
  | (i, b) :: js, x :: xs, vs, fp, env, env', σ, G, φ, w, e0, o, rl, fr, ap, h => by
    simp only [parE] at h
    obtain ⟨s, h1, h⟩ := Option.bind_eq_some_iff.mp h
    obtain ⟨e1, h2, h3⟩ := Option.bind_eq_some_iff.mp h
    obtain ⟨v, r, f, f', rfl, rfl, p, q⟩ := rl
    have nd := List.nodup_append.mp fr.nd
    have dj : ∀ a ∈ f', a ∉ f := fun a ha hf => nd.2.2 a hf a ha rfl
    obtain ⟨G2, φ', a1, a2, a3, l, a4, a5, a6⟩ := slotW w e0 o p ⟨nd.1, fun a ha => fr.new a (List.mem_append_left _ ha)⟩ (fun a ha => ap a (List.mem_append_left _ ha)) h1 h2
    refine slots (js := js) a3 a1 a2 (q.mv l a6) ⟨nd.2.1, fun a ha => ?_⟩ (fun a ha => a4 a (dj a ha) (ap a (List.mem_append_right _ ha))) h3
    obtain ⟨z1, z2, z3⟩ := fr.new a (List.mem_append_right _ ha)
    exact ⟨z1, by rw [a5 a (dj a ha)]; exact z2, by rw [a6]; exact z3⟩
end
end Ev

namespace Ev
open PySem PySem.Spec PyProof.Rows L2
structure YOk (gt : Gt) (n : Nat) (g : Glo) (sc : Scp) (X : Cx) (W : WX) : Prop where
  ok : XOk gt n g.fn g.blt g.glb g.dfl sc X W
  po : PassesOwn (model X.prog X.w) X.A X.env X.xe
section
variable {gt : Gt} {n : Nat} {g : Glo} {sc : Scp} {X : Cx} {W : WX} {G0 G G1 G2 : Gh} {H0 H H1 H2 : Hp} {O O1 : Sto} {σ : St} {env env' : List Sl} {D : Ends} {K : PySem.W.Frag}
/-- a list of one's own is written -/
theorem updOk {p : Addr} {u : HO} (e0 : Ext G0 G H0 H) (o : GOk K G H O) (h0 : H0 p = none) (nF : G.F p = none) (nA : p ∉ G.A) : Ext G0 G H0 (upd H p u) ∧ GOk K G (upd H p u) O := by
  refine ⟨⟨e0.fs, e0.fn, e0.ap, fun b o' q na => ?_, fun b q => ?_⟩, ⟨fun b o' q => ?_, o.len, fun i ds q => ?_, o.nd, o.nf⟩⟩
  · rw [upd_ne (fun z => by rw [z, h0] at q; cases q)]
    exact e0.kp b o' q na
  · by_cases z : b = p
    · rw [z, upd_same]; simp
    · rw [upd_ne z]; exact e0.tr b q
  · rw [upd_ne (fun z => by rw [z, nF] at q; cases q)]
    exact o.sub b o' q
  · obtain ⟨b, us, h1, h2, h3⟩ := o.obs i ds q
    exact ⟨b, us, h1, by rw [upd_ne (fun z => nA (by rw [← z]; exact List.mem_of_getElem? h1))]; exact h2, h3⟩
theorem EnvW.mut {φ : Nat → List Addr} (w : EnvW K H0 G H σ env φ) {i : Nat} {p : Addr} {u : HO} (hp : p ∈ φ i) (hi : i < env.length) {s : Sl} {f : List Addr} (h : SlOk K G (upd H p u) s (σ[i]?) f) (nd : f.Nodup)
    (ap : ∀ j, j ≠ i → ∀ a ∈ f, a ∉ φ j) (nw : ∀ a ∈ f, H0 a = none ∧ G.F a = none ∧ a ∉ G.A ∧ upd H p u a ≠ none) : EnvW K H0 G (upd H p u) σ (env.set i s) (fun j => if j = i then f else φ j) where
  len := by rw [List.length_set]; exact w.len
  nd := fun j => by
    show (if j = i then f else φ j).Nodup
    split
    · exact nd
    · exact w.nd j
  apart := fun j k a h1 h2 => by
    have h1 : a ∈ (if j = i then f else φ j) := h1
    have h2 : a ∈ (if k = i then f else φ k) := h2
    split at h1 <;> split at h2
    · omega
    · rename_i e1 e2; exact absurd h2 (ap k e2 a h1)
    · rename_i e1 e2; exact absurd h1 (ap j e1 a h2)
    · exact w.apart j k a h1 h2
  new := fun j a h => by
    have h : a ∈ (if j = i then f else φ j) := h
    split at h
    · exact nw a h
    · obtain ⟨z1, z2, z3, z4⟩ := w.new j a h
      refine ⟨z1, z2, z3, ?_⟩
      by_cases e : a = p
      · rw [e, upd_same]; simp
      · rw [upd_ne e]; exact z4
  at' := fun j s' hj => by
    show SlOk K G (upd H p u) s' (σ[j]?) (if j = i then f else φ j)
    by_cases e : j = i
    · subst e
      rw [List.getElem?_set_self hi] at hj
      cases hj
      rw [if_pos rfl]
      exact h
    · rw [List.getElem?_set_ne (Ne.symm e)] at hj
      rw [if_neg e]
      have z := w.at' j s' hj
      cases s' with
      | un => exact z
      | va d => exact z
      | ow n d =>
        obtain ⟨v, e1, o⟩ := z
        exact ⟨v, e1, Own.keep (Le.refl G) n d v _ (fun a ha => upd_ne fun q => e (w.apart j i a ha (q ▸ hp))) o⟩
/-- what is put into a list of one's own -/
theorem kidW {φ : Nat → List Addr} {x : XD} {v : V} {f : List Addr} {m : Nat} {d : Ev.D} (w : EnvW K H0 G H σ env φ) (e0 : Ext G0 G H0 H) (o : GOk K G H O) (rl : KRep K x G H v f) (fr : Fresh H0 G f) (ap : ∀ a ∈ f, ∀ j, a ∉ φ j)
    (hk : x.kid m = some d) : ∃ G2 f0, Ext G0 G2 H0 H ∧ GOk K G2 H O ∧ EnvW K H0 G2 H σ env φ ∧ Own K G2 H m d v f0 ∧ Fresh H0 G2 f0 ∧ ∀ a ∈ f0, ∀ j, a ∉ φ j := by
  cases m with
  | zero =>
    have dn : Den K (G.fr H f) d v := rl.frz1 o.sub (by simpa [XD.kid] using hk)
    exact ⟨G.fr H f, [], e0.ofFr o.sub fr, o.ofFr fr, w.fr o.sub ap, ⟨rfl, dn⟩, Fresh.nil, fun _ h => by cases h⟩
  | succ m =>
    cases x with
    | ow k d' =>
      simp only [XD.kid] at hk
      split at hk
      · rename_i hm
        cases hk
        subst hm
        exact ⟨G, f, e0, o, w, rl, fr, ap⟩
      · cases hk
    | fz _ => cases hk
    | br _ _ => cases hk
/-- a name's own list gets one more -/
theorem t_app {i : Nat} {x : XD} {v : V} {f : List Addr} (w : EnvOk K H0 G H σ env) (e0 : Ext G0 G H0 H) (e : Ext G G1 H H1) (o : GOk K G1 H1 O) (rl : KRep K x G1 H1 v f) (fr : Fresh H G1 f) {s' : Sl} (h : (env[i]?.bind fun s => appD s x) = some s') :
    ∃ l xs, σ[i]? = some (some (.ref l)) ∧ H1 l = some (.lst xs) ∧ xs.length < sizeLine ∧ ∃ G2, Ext G0 G2 H0 (upd H1 l (.lst (xs ++ [v]))) ∧ GOk K G2 (upd H1 l (.lst (xs ++ [v]))) O ∧ EnvOk K H0 G2 (upd H1 l (.lst (xs ++ [v]))) σ (env.set i s') := by
  obtain ⟨φ, w⟩ := w
  obtain ⟨s, hs, ha⟩ := Option.bind_eq_some_iff.mp h
  unfold appD at ha
  split at ha
  case h_2 => cases ha
  rename_i m ds
  obtain ⟨d, hk, ha⟩ := Option.bind_eq_some_iff.mp ha
  split at ha
  case isFalse => cases ha
  rename_i hlen
  cases ha
  have hi : i < env.length := (List.getElem?_eq_some_iff.mp hs).1
  obtain ⟨G2, f0, x2, o2, w2, ow, fr2, ap2⟩ := kidW (w.ext e) (e0.trans e) o rl (Fresh.pre e0 fr) (apart w fr) hk
  obtain ⟨u, hu, own⟩ := w2.at' i _ hs
  unfold Own at own
  obtain ⟨l, xs, fs, rfl, hl, ef, o3⟩ := own
  have hlm : l ∈ φ i := by rw [ef]; exact List.mem_cons_self
  obtain ⟨n1, n2, n3, n4⟩ := w2.new i l hlm
  obtain ⟨x3, o3'⟩ := updOk (u := .lst (xs ++ [v])) x2 o2 n1 n2 n3
  have nd := w2.nd i
  rw [ef] at nd
  have nd' := List.nodup_cons.mp nd
  have ap0 : ∀ a ∈ f0, a ∉ l :: fs.flatten := fun a ha z => ap2 a ha i (by rw [ef]; exact z)
  refine ⟨l, xs, hu, hl, by rw [Own3.len o3]; exact hlen, G2, x3, o3', _, w2.mut hlm hi (s := .ow (m + 1) (.lst (ds ++ [d]))) (f := l :: (fs ++ [f0]).flatten) ⟨_, hu, ?_⟩ ?_ (fun j hj a ha => ?_) (fun a ha => ?_)⟩
  · unfold Own
    refine ⟨l, xs ++ [v], fs ++ [f0], rfl, upd_same, rfl, Own3.snoc (o3.keep (Le.refl G2) fun b hb => upd_ne (fun z => nd'.1 (z ▸ hb))) ?_⟩
    exact Own.keep (Le.refl G2) m d v f0 (fun b hb => upd_ne (fun z => ap0 b hb (by rw [z]; exact List.mem_cons_self))) ow
  · have ff : (fs ++ [f0]).flatten = fs.flatten ++ f0 := by simp
    rw [ff]
    exact List.nodup_cons.mpr ⟨fun z => (List.mem_append.mp z).elim nd'.1 fun q => ap0 l q List.mem_cons_self, List.nodup_append.mpr ⟨nd'.2, fr2.nd, fun b hb c hc z => ap0 c hc (by rw [← z]; exact List.mem_cons_of_mem _ hb)⟩⟩
  · have ff : (fs ++ [f0]).flatten = fs.flatten ++ f0 := by simp
    rw [ff] at ha
    rcases List.mem_cons.mp ha with ha | ha
    · rw [ha]; exact fun z => hj (w2.apart j i l z hlm)
    · rcases List.mem_append.mp ha with ha | ha
      · exact fun z => hj (w2.apart j i a z (by rw [ef]; exact List.mem_cons_of_mem _ ha))
      · exact ap2 a ha j
  · have ff : (fs ++ [f0]).flatten = fs.flatten ++ f0 := by simp
    rw [ff] at ha
    have ne : ∀ a, a ∈ φ i ∨ a ∈ f0 → upd H1 l (.lst (xs ++ [v])) a ≠ none := fun a h => by
      by_cases z : a = l
      · rw [z, upd_same]; simp
      · rw [upd_ne z]
        rcases h with h | h
        · exact (w2.new i a h).2.2.2
        · exact Own.trk m d v f0 ow a h
    have pf : ∀ a, a ∈ φ i → H0 a = none ∧ G2.F a = none ∧ a ∉ G2.A ∧ upd H1 l (.lst (xs ++ [v])) a ≠ none := fun a h => ⟨(w2.new i a h).1, (w2.new i a h).2.1, (w2.new i a h).2.2.1, ne a (.inl h)⟩
    rcases List.mem_cons.mp ha with ha | ha
    · rw [ha]; exact pf l hlm
    · rcases List.mem_append.mp ha with ha | ha
      · exact pf a (by rw [ef]; exact List.mem_cons_of_mem _ ha)
      · exact ⟨(fr2.new a ha).1, (fr2.new a ha).2.1, (fr2.new a ha).2.2, ne a (.inr ha)⟩
theorem DenL.append {ds es : List Ev.D} {vs us : List V} (h : DenL K G ds vs) (k : DenL K G es us) : DenL K G (ds ++ es) (vs ++ us) := by
  induction ds generalizing vs with
  | nil => rw [h.inv0]; exact k
  | cons d ds ih =>
    obtain ⟨v, r, rfl, p, q⟩ := h.inv
    exact .cons p (ih q)
theorem DenL.setI {d : Ev.D} {v : V} (p : Den K G d v) : ∀ {ds : List Ev.D} {vs : List V} (j : Nat), DenL K G ds vs → DenL K G (ds.set j d) (vs.set j v)
  | [], vs, j, h => by rw [h.inv0]; simpa using DenL.nil
  | e :: ds, vs, j, h => by
    obtain ⟨u, r, rfl, p', q⟩ := h.inv
    cases j with
    | zero => exact .cons p q
    | succ j => exact .cons p' (DenL.setI p j q)
/-- a flat list of one's own, all of it new -/
theorem mut1 {vs' : List V → List V} {φ : Nat → List Addr} (w : EnvW K H0 G H σ env φ) (e0 : Ext G0 G H0 H) (o : GOk K G H O) {i : Nat} {ds ds' : List Ev.D} (hs : env[i]? = some (.ow 1 (.lst ds))) (hd : ∀ vs, DenL K G ds vs → DenL K G ds' (vs' vs)) :
    ∃ l xs, σ[i]? = some (some (.ref l)) ∧ H l = some (.lst xs) ∧ DenL K G ds xs ∧ Ext G0 G H0 (upd H l (.lst (vs' xs))) ∧ GOk K G (upd H l (.lst (vs' xs))) O ∧ EnvOk K H0 G (upd H l (.lst (vs' xs))) σ (env.set i (.ow 1 (.lst ds'))) := by
  have hi : i < env.length := (List.getElem?_eq_some_iff.mp hs).1
  obtain ⟨u, hu, own⟩ := w.at' i _ hs
  obtain ⟨l, xs, rfl, hl, ef, dn⟩ := own.inv1
  have hlm : l ∈ φ i := by rw [ef]; exact List.mem_cons_self
  obtain ⟨n1, n2, n3, n4⟩ := w.new i l hlm
  obtain ⟨x3, o3⟩ := updOk (u := .lst (vs' xs)) e0 o n1 n2 n3
  refine ⟨l, xs, hu, hl, dn, x3, o3, _, w.mut hlm hi (s := .ow 1 (.lst ds')) (f := [l]) ⟨_, hu, Own.one upd_same (hd xs dn)⟩ (by simp) (fun j hj a ha => ?_) (fun a ha => ?_)⟩
  · rw [List.mem_singleton.mp ha]; exact fun z => hj (w.apart j i l z hlm)
  · rw [List.mem_singleton.mp ha]; exact ⟨n1, n2, n3, by rw [upd_same]; simp⟩
end
end Ev

namespace Ev
open PySem PySem.Spec PyProof.Rows L2
section
variable {gt : Gt} {n : Nat} {g : Glo} {sc : Scp} {X : Cx} {W : WX} {G0 G G1 G2 : Gh} {H0 H H1 H2 : Hp} {O O1 : Sto} {σ : St} {env env' : List Sl} {D : Ends} {K : PySem.W.Frag}
/-- a name's own list gets the items of another one -/
theorem t_ext {i : Nat} {x : XD} {v : V} {f : List Addr} (w : EnvOk K H0 G H σ env) (e0 : Ext G0 G H0 H) (e : Ext G G1 H H1) (o : GOk K G1 H1 O) (rl : KRep K x G1 H1 v f) (fr : Fresh H G1 f) {s' : Sl} (h : (env[i]?.bind fun s => extD s x) = some s') :
    ∃ l b xs ys, v = .ref b ∧ σ[i]? = some (some (.ref l)) ∧ H1 l = some (.lst xs) ∧ H1 b = some (.lst ys) ∧ xs.length + ys.length ≤ sizeLine ∧ ∃ G2, Ext G0 G2 H0 (upd H1 l (.lst (xs ++ ys))) ∧ GOk K G2 (upd H1 l (.lst (xs ++ ys))) O ∧ EnvOk K H0 G2 (upd H1 l (.lst (xs ++ ys))) σ (env.set i s') := by
  obtain ⟨φ, w⟩ := w
  obtain ⟨s, hs, ha⟩ := Option.bind_eq_some_iff.mp h
  unfold extD at ha
  split at ha
  case h_2 => cases ha
  rename_i ds
  obtain ⟨d, hk, ha⟩ := Option.bind_eq_some_iff.mp ha
  split at ha
  case h_2 => cases ha
  rename_i es
  split at ha
  case isFalse => cases ha
  rename_i hlen
  cases ha
  have fr0 := Fresh.pre e0 fr
  have dn : Den K (G1.fr H1 f) (.lst es) v := rl.frz1 o.sub hk
  have w2 := (w.ext e).fr o.sub (apart w fr)
  have x2 := (e0.trans e).ofFr o.sub fr0
  have o2 := o.ofFr fr0
  unfold Den at dn
  obtain ⟨b, ys, rfl, hb, dl⟩ := dn
  obtain ⟨l, xs, h1, h2, h3, h4, h5, h6⟩ := mut1 (vs' := fun xs => xs ++ ys) (ds' := ds ++ es) w2 x2 o2 hs (fun vs hv => DenL.append hv dl)
  exact ⟨l, b, xs, ys, rfl, h1, h2, o2.sub b _ hb, by rw [h3.len, dl.len]; exact hlen, _, h4, h5, h6⟩
theorem own1 {φ : Nat → List Addr} (w : EnvW K H0 G H σ env φ) : EnvOk K H0 G H σ env := ⟨φ, w⟩
/-- a store's thing is written -/
theorem cellW {φ : Nat → List Addr} {j l : Nat} {ds : List Ev.D} {d : Ev.D} {v : V} (w : EnvW K H0 G H σ env φ) (e0 : Ext G0 G H0 H) (o : GOk K G H O) (hj : O[j]? = some (.cell ds)) (dn : Den K G d v) :
    ∃ a vs, G.A[j]? = some a ∧ H a = some (.lst vs) ∧ vs.length = ds.length ∧ Ext G0 G H0 (upd H a (.lst (vs.set l v))) ∧ GOk K G (upd H a (.lst (vs.set l v))) (O.set j (.cell (ds.set l d))) ∧ EnvOk K H0 G (upd H a (.lst (vs.set l v))) σ env := by
  obtain ⟨a, vs, ha, h, dl⟩ := o.obs j ds hj
  have am : a ∈ G.A := List.mem_of_getElem? ha
  have nF := o.nf a am
  refine ⟨a, vs, ha, h, dl.len, ⟨e0.fs, e0.fn, e0.ap, fun b u q na => ?_, fun b q => ?_⟩, ⟨fun b u q => ?_, by rw [List.length_set]; exact o.len, fun i es q => ?_, o.nd, o.nf⟩, φ, ?_⟩
  · rw [upd_ne (fun z => e0.notA na (by rw [q]; simp) (by rw [z]; exact am))]
    exact e0.kp b u q na
  · by_cases z : b = a
    · rw [z, upd_same]; simp
    · rw [upd_ne z]; exact e0.tr b q
  · rw [upd_ne (fun z => by rw [z, nF] at q; cases q)]
    exact o.sub b u q
  · by_cases z : i = j
    · subst z
      rw [List.getElem?_set_self (List.getElem?_eq_some_iff.mp hj).1] at q
      cases q
      exact ⟨a, _, ha, upd_same, DenL.setI dn l dl⟩
    · rw [List.getElem?_set_ne (Ne.symm z)] at q
      obtain ⟨b, us, h1, h2, h3⟩ := o.obs i es q
      refine ⟨b, us, h1, ?_, h3⟩
      rw [upd_ne fun e => ?_]
      · exact h2
      · subst e
        exact z ((List.getElem?_inj (List.getElem?_eq_some_iff.mp h1).1 o.nd).mp (h1.trans ha.symm))
  · refine ⟨w.len, w.nd, w.apart, fun i b hb => ?_, fun i s hs => ?_⟩
    · obtain ⟨n1, n2, n3, n4⟩ := w.new i b hb
      exact ⟨n1, n2, n3, by rw [upd_ne (fun z => n3 (by rw [z]; exact am))]; exact n4⟩
    · have z := w.at' i s hs
      cases s with
      | un => exact z
      | va d => exact z
      | ow m d =>
        obtain ⟨u, e1, t⟩ := z
        exact ⟨u, e1, Own.keep (Le.refl G) m d u _ (fun b hb => upd_ne (fun q => (w.new i b hb).2.2.1 (by rw [q]; exact am))) t⟩
/-- x[k] = d -/
theorem t_seti {i : Nat} {x y : XD} {v u : V} {f f' : List Addr} {d k : Ev.D} {r : Sl × Sto} (w : EnvOk K H0 G H σ env) (e0 : Ext G0 G H0 H) (e : Ext G G1 H H1) (rl : KRep K x G1 H1 v f) (fr : Fresh H G1 f) (e' : Ext G1 G2 H1 H2) (o : GOk K G2 H2 O) (rl' : KRep K y G2 H2 u f')
    (hd : x.fzd = some d) (hk : fzX y = some k) (h : (env[i]?.bind fun s => setiD s k d O) = some r) :
    ∃ p xs z j, σ[i]? = some (some (.ref p)) ∧ u = .int z ∧ H2 p = some (.lst xs) ∧ ixN xs.length z = some j ∧ ∃ G3, Ext G0 G3 H0 (upd H2 p (.lst (xs.set j v))) ∧ GOk K G3 (upd H2 p (.lst (xs.set j v))) r.2 ∧ EnvOk K H0 G3 (upd H2 p (.lst (xs.set j v))) σ (env.set i r.1) := by
  obtain ⟨φ, w⟩ := w
  obtain ⟨s, hs, ha⟩ := Option.bind_eq_some_iff.mp h
  have fr0 := Fresh.pre e0 (fr.ext e' fun a ha => KRep.trk rl a ha)
  have rl2 : KRep K x G2 H2 v f := rl.ext e' fr.nA
  have dn : Den K (G2.fr H2 f) d v := rl2.frz1 o.sub hd
  have ap : ∀ a ∈ f, ∀ j, a ∉ φ j := apart w fr
  have w2 := (w.ext (e.trans e')).fr o.sub ap
  have x2 := (e0.trans (e.trans e')).ofFr o.sub fr0
  have o2 := o.ofFr fr0
  have hi : i < env.length := (List.getElem?_eq_some_iff.mp hs).1
  have hu : ∀ z, k = .int z → u = .int z := fun z hz => by
    cases y with
    | fz k' =>
      simp only [fzX, Option.some.injEq] at hk
      subst hk hz
      have := rl'.2
      unfold Den at this
      exact this
    | _ => cases hk
  unfold setiD at ha
  split at ha
  · rename_i m ds z
    split at ha
    case isFalse => cases ha
    rename_i hm
    subst hm
    obtain ⟨j, hj, rfl⟩ := Option.map_eq_some_iff.mp ha
    obtain ⟨l, xs, h1, h2, h3, h4, h5, h6⟩ := mut1 (vs' := fun xs => xs.set j v) (ds' := ds.set j d) w2 x2 o2 hs (fun vs hv => DenL.setI dn j hv)
    exact ⟨l, xs, z, j, h1, hu z rfl, h2, by rw [h3.len]; exact hj, _, h4, h5, h6⟩
  · rename_i q z
    split at ha
    case h_2 => cases ha
    rename_i ds hq
    obtain ⟨j, hj, rfl⟩ := Option.map_eq_some_iff.mp ha
    obtain ⟨_, vv, hv, dv⟩ := w2.at' i _ hs
    obtain ⟨a, vs, h1, h2, h3, h4, h5, h6⟩ := cellW (l := j) w2 x2 o2 hq dn
    unfold Den at dv
    obtain ⟨a', e1, e2⟩ := dv
    have : a' = a := by
      have e2 : G2.A[q]? = some a' := e2
      have h1 : G2.A[q]? = some a := h1
      rw [h1] at e2
      exact (Option.some.inj e2).symm
    subst this
    subst e1
    refine ⟨a', vs, z, j, hv, hu z rfl, h2, by rw [h3]; exact hj, _, h4, h5, ?_⟩
    have : env.set i (.va (.obj q)) = env := by
      apply List.ext_getElem?
      intro l
      by_cases e : l = i
      · subst e; rw [List.getElem?_set_self hi, hs]
      · rw [List.getElem?_set_ne (Ne.symm e)]
    show EnvOk K H0 _ _ σ (env.set i (.va (.obj q)))
    rw [this]
    exact h6
  · cases ha
/-- one's own is kept for ever -/
theorem t_frz {i : Nat} {s : Sl} (w : EnvOk K H0 G H σ env) (e0 : Ext G0 G H0 H) (o : GOk K G H O) (hs : env[i]? = some s) : ∃ G2, Ext G0 G2 H0 H ∧ GOk K G2 H O ∧ EnvOk K H0 G2 H σ (env.set i (frzD s)) := by
  obtain ⟨φ, w⟩ := w
  have hi : i < env.length := (List.getElem?_eq_some_iff.mp hs).1
  have same : frzD s = s → ∃ G2, Ext G0 G2 H0 H ∧ GOk K G2 H O ∧ EnvOk K H0 G2 H σ (env.set i (frzD s)) := fun q => by
    have : env.set i s = env := by
      apply List.ext_getElem?
      intro l
      by_cases e : l = i
      · subst e; rw [List.getElem?_set_self hi, hs]
      · rw [List.getElem?_set_ne (Ne.symm e)]
    exact ⟨G, e0, o, φ, by rw [q, this]; exact w⟩
  cases s with
  | un => exact same rfl
  | va d => exact same rfl
  | ow m d =>
    obtain ⟨v, hv, ow⟩ := w.at' i _ hs
    have fr : Fresh H0 G (φ i) := ⟨w.nd i, fun a ha => ⟨(w.new i a ha).1, (w.new i a ha).2.1, (w.new i a ha).2.2.1⟩⟩
    have dn : Den K (G.fr H (φ i)) d v := Own.frz o.sub (φ i) m d v (φ i) (fun _ h => h) ow
    refine ⟨G.fr H (φ i), e0.ofFr o.sub fr, o.ofFr fr, fun j => if j = i then [] else φ j, ⟨by rw [List.length_set]; exact w.len, fun j => ?_, fun j k a h1 h2 => ?_, fun j a ha => ?_, fun j s' hj => ?_⟩⟩
    · show (if j = i then [] else φ j).Nodup
      split
      · exact List.nodup_nil
      · exact w.nd j
    · have h1 : a ∈ (if j = i then [] else φ j) := h1
      have h2 : a ∈ (if k = i then [] else φ k) := h2
      split at h1
      · cases h1
      · split at h2
        · cases h2
        · exact w.apart j k a h1 h2
    · have ha : a ∈ (if j = i then [] else φ j) := ha
      split at ha
      · cases ha
      · rename_i ne
        obtain ⟨n1, n2, n3, n4⟩ := w.new j a ha
        refine ⟨n1, ?_, n3, n4⟩
        show (if a ∈ φ i then H a else G.F a) = none
        rw [if_neg fun z => ne (w.apart j i a ha z)]
        exact n2
    · show SlOk K _ H s' (σ[j]?) (if j = i then [] else φ j)
      by_cases e : j = i
      · subst e
        rw [List.getElem?_set_self hi] at hj
        cases hj
        rw [if_pos rfl]
        exact ⟨rfl, v, hv, dn⟩
      · rw [List.getElem?_set_ne (Ne.symm e)] at hj
        rw [if_neg e]
        have z := w.at' j s' hj
        cases s' with
        | un => exact z
        | va d => obtain ⟨e, v, e2, t⟩ := z; exact ⟨e, v, e2, Den.mono (Gh.fr_le o.sub (φ i)) d v t⟩
        | ow n d => obtain ⟨v, e, t⟩ := z; exact ⟨v, e, Own.keep (Gh.fr_le o.sub (φ i)) n d v _ (fun _ _ => rfl) t⟩
end
end Ev

namespace Ev
open PySem PySem.Spec PyProof.Rows L2
/-! ### a statement's form -/
def swB (names : List (Str × NameKind)) (x : Str) (px : Pos) : Expr → Bool
  | .ListComp _ _ s vp => decide (names.lookup x = some .local) && px.line == vp.line && !(s.names.any fun (n, k) => n == x && (k == .local || k == .cell))
  | .SetComp .. => true
  | .DictComp .. => true
  | _ => false
def notSD : Expr → Bool
  | .SetComp .. => false | .DictComp .. => false | _ => true
theorem loc_beq (o : Option NameKind) : (o == some .local) = decide (o = some .local) := by
  cases o with
  | none => rfl
  | some k => cases k <;> rfl
theorem sw_of {env : PySem.Env} {names : List (Str × NameKind)} {x : Str} {px : Pos} {l : Nat} (hk : env.scope.kind = .function) (hn : env.scope.names = names) : ∀ {v : Expr}, notSD v = true → swapsWith v (some (.Name x px)) l env = pure (swB names x px v) := by
  intro v hv
  have hb : env.blockKind = .function := by unfold Env.blockKind; rw [hk]; rfl
  cases v with
  | ListComp elt gs s vp =>
    have ky : env.kindOf x = names.lookup x := by rw [← hn]; rfl
    unfold swapsWith swB
    simp only [hb, ky, Expr.pos, loc_beq]
    rfl
  | SetComp => cases hv
  | DictComp => cases hv
  | _ => rfl
def parB (sc : Scp) : List (Nat × Bool) → List Expr → List Expr → Bool
  | [(i, _), (j, _)], [.Name x px, .Name y py], [a, b] => decide (sc.N[i]? = some x) && decide (sc.N[j]? = some y) && decide (sc.names.lookup x = some .local) && decide (sc.names.lookup y = some .local) && px.line == py.line && !(i == j) && !(y == x)
      && nost a && nost b && !([a, b].all (foldedForSure 8)) && !([a, b].all (constantsAlone 8))
  | [(i, _), (j, _), (l, _)], [.Name x px, .Name y py, .Name z pz], [a, b, c] => decide (sc.N[i]? = some x) && decide (sc.N[j]? = some y) && decide (sc.N[l]? = some z) && decide (sc.names.lookup x = some .local) && decide (sc.names.lookup y = some .local) && decide (sc.names.lookup z = some .local)
      && px.line == py.line && px.line == pz.line && !(i == j) && !(i == l) && !(j == l) && !(y == x) && !(z == x) && !(z == y)
      && nost a && nost b && nost c && !([a, b, c].all (foldedForSure 8)) && !([a, b, c].all (constantsAlone 8))
  | _, _, _ => false
theorem nost_any {f : Expr → Bool} (hf : ∀ e, nost e = true → f e = false) : ∀ {es : List Expr}, (∀ e ∈ es, nost e = true) → ¬ (es.any f = true)
  | [], _, h => by cases h
  | e :: es, hs, h => by
    rw [List.any_cons, hf e (hs e List.mem_cons_self), Bool.false_or] at h
    exact nost_any hf (fun e h => hs e (List.mem_cons_of_mem _ h)) h
theorem sws2 {env : PySem.Env} {x y : Str} {px py p p2 : Pos} {k k2 : _} {a b : Expr} (hk : env.scope.kind = .function) (hx : env.scope.names.lookup x = some .local) (hy : env.scope.names.lookup y = some .local) (hl : (px.line == py.line) = true) (hne : (y == x) = false)
    (na : nost a = true) (nb : nost b = true) (hf : [a, b].all (foldedForSure 8) = false) (hc : [a, b].all (constantsAlone 8) = false) : swappedStores [.Tuple [.Name x px, .Name y py] k p] (.Tuple [a, b] k2 p2) env = pure (some [x, y]) := by
  have hb : env.blockKind = .function := by unfold Env.blockKind; rw [hk]; rfl
  have ky : env.kindOf y = some .local := hy
  have kx : env.kindOf x = some .local := hx
  have hl' : (py.line == px.line) = true := by rw [beq_iff_eq] at hl ⊢; exact hl.symm
  have st : ∀ e ∈ [a, b], nost e = true := fun e he => by
    simp only [List.mem_cons, List.not_mem_nil, or_false] at he
    rcases he with rfl | rfl <;> assumption
  unfold swappedStores
  simp only [List.filterMap_cons, List.filterMap_nil, kx, ky, loc_beq, Expr.pos, List.head?_cons, Option.map_some, Option.getD_some, beq_self_eq_true, hl', decide_true, Bool.and_true, if_true, hf, hc, hb]
  refine (if_neg (show ¬ ((false : Bool) = true) from Bool.false_ne_true)).trans ((if_neg (nost_any (fun e he => by cases e <;> first | rfl | (cases he; done)) st)).trans ((if_neg ?_).trans rfl))
  simp [List.eraseDups_cons, hne]
theorem sws3 {env : PySem.Env} {x y z : Str} {px py pz p p2 : Pos} {k k2 : _} {a b c : Expr} (hk : env.scope.kind = .function) (hx : env.scope.names.lookup x = some .local) (hy : env.scope.names.lookup y = some .local) (hz : env.scope.names.lookup z = some .local) (hl : (px.line == py.line) = true) (hm : (px.line == pz.line) = true) (hne : (y == x) = false) (hne2 : (z == x) = false) (hne3 : (z == y) = false)
    (na : nost a = true) (nb : nost b = true) (nc : nost c = true) (hf : [a, b, c].all (foldedForSure 8) = false) (hc : [a, b, c].all (constantsAlone 8) = false) : swappedStores [.Tuple [.Name x px, .Name y py, .Name z pz] k p] (.Tuple [a, b, c] k2 p2) env = pure (some [x, y, z]) := by
  have hb : env.blockKind = .function := by unfold Env.blockKind; rw [hk]; rfl
  have ky : env.kindOf y = some .local := hy
  have kx : env.kindOf x = some .local := hx
  have kz : env.kindOf z = some .local := hz
  have hl' : (py.line == px.line) = true := by rw [beq_iff_eq] at hl ⊢; exact hl.symm
  have hm' : (pz.line == px.line) = true := by rw [beq_iff_eq] at hm ⊢; exact hm.symm
  have st : ∀ e ∈ [a, b, c], nost e = true := fun e he => by
    simp only [List.mem_cons, List.not_mem_nil, or_false] at he
    rcases he with rfl | rfl | rfl <;> assumption
  unfold swappedStores
  simp only [List.filterMap_cons, List.filterMap_nil, kx, ky, kz, loc_beq, Expr.pos, List.head?_cons, Option.map_some, Option.getD_some, beq_self_eq_true, hl', hm', decide_true, Bool.and_true, if_true, hf, hc, hb]
  refine (if_neg (show ¬ ((false : Bool) = true) from Bool.false_ne_true)).trans ((if_neg (nost_any (fun e he => by cases e <;> first | rfl | (cases he; done)) st)).trans ((if_neg ?_).trans rfl))
  simp [List.eraseDups_cons, hne, hne2, hne3]
/-- a tuple's names take a value that is made whole first -/
def notLoc (names : List (Str × NameKind)) : Expr → Bool
  | .Name x _ => !decide (names.lookup x = some .local)
  | _ => true
def swN (names : List (Str × NameKind)) : Expr → Expr → Bool
  | .Tuple ts _ _, .Tuple vs _ _ => !(ts.length == 2 || ts.length == 3) || vs.length != ts.length || ts.any (notLoc names) || vs.all (foldedForSure 8)
  | .Tuple .., _ => true
  | _, _ => false
theorem short_map {α β : Type} {f : α → Option β} : ∀ {l : List α}, (∃ a ∈ l, f a = none) → (l.filterMap f).length ≠ l.length
  | [], h => by obtain ⟨a, h, _⟩ := h; cases h
  | b :: l, h => by
    have le := List.length_filterMap_le f l
    rw [List.filterMap_cons]
    cases q : f b with
    | none => show (l.filterMap f).length ≠ l.length + 1; omega
    | some c =>
      show (l.filterMap f).length + 1 ≠ l.length + 1
      obtain ⟨a, h1, h2⟩ := h
      rcases List.mem_cons.mp h1 with e | h1
      · rw [e, q] at h2; cases h2
      · have := short_map ⟨a, h1, h2⟩; omega
theorem swN_of {env : PySem.Env} {names : List (Str × NameKind)} {tg v : Expr} (hn : env.scope.names = names) (h : swN names tg v = true) : swappedStores [tg] v env = pure none := by
  cases tg with
  | Tuple ts k p =>
    cases v with
    | Tuple vs k2 p2 =>
      unfold swN at h
      unfold swappedStores
      simp only []
      split
      · rfl
      · rename_i c1
        split
        · rfl
        · split
          · rfl
          · rename_i c3
            split
            · rfl
            · rename_i c4
              exfalso
              rw [Bool.or_eq_true, Bool.or_eq_true, Bool.or_eq_true] at h
              rcases h with ((h | h) | h) | h
              · exact c1 (by rw [h]; rfl)
              · exact c1 (by rw [h, Bool.or_true]; rfl)
              · refine c3 ?_
                rw [Bool.or_eq_true]
                refine .inl ?_
                obtain ⟨e, he, hl⟩ := List.any_eq_true.mp h
                have := short_map (f := fun (e : Expr) => match e with
                  | .Name id pos => if env.kindOf id == some .local && pos.line == (ts.head?.map (·.pos.line)).getD 0 then some id else none
                  | _ => none) (l := ts) ⟨e, he, by
                    cases e with
                    | Name x px =>
                      have hl : (!decide (names.lookup x = some .local)) = true := hl
                      have ky : env.kindOf x = names.lookup x := by rw [← hn]; rfl
                      show (if (env.kindOf x == some .local && _) = true then some x else none) = none
                      rw [loc_beq, ky]
                      rw [Bool.not_eq_true'] at hl
                      rw [hl, Bool.false_and]
                      rfl
                    | _ => rfl⟩
                exact bne_iff_ne.mpr this
              · exact c4 h
    | _ => rfl
  | _ => cases h
end Ev

namespace Ev
open PySem PySem.Spec PyProof.Rows L2
def isFrz : S → Option Nat
  | .frz i => some i
  | _ => none
def isTup : Expr → Bool
  | .Tuple .. => true
  | _ => false
/-- a case's pattern: these texts -/
def patB : Tx → Pattern → Bool
  | w, .MatchValue (.Constant (.str x) _ _) _ => decide (sOf w = x)
  | _, _ => false
def patsB : List Tx → List Pattern → Bool
  | [], [] => true
  | w :: ws, p :: ps => patB w p && patsB ws ps
  | _, _ => false
def altB : List Tx → Pattern → Bool
  | ws, .MatchOr ps _ => patsB ws ps
  | [w], p => patB w p
  | _, _ => false
section
variable (g : Glo)
mutual
def chkS : S → Scp → Stmt → Bool
  | .set i own e, sc, .Assign [.Name x px] v pos => decide (sc.N[i]? = some x) && locB sc.names x && sc.sto x && notSD v && chkE g e sc v
  | .par js es, sc, .Assign [.Tuple ts k tp] (.Tuple vs k2 tp2) pos => sc.calm && parB sc js ts vs && chkEs g es sc vs
  | .unp t e, sc, .Assign [tg] v pos => chkT sc t tg && swN sc.names tg v && chkE g e sc v
  | .aug i op e, sc, .AugAssign (.Name x p) op' v pos => decide (op = op') && (decide (op = .Add) || decide (op = .Sub)) && decide (sc.N[i]? = some x) && locB sc.names x && sc.sto x && chkE g e sc v
  | .seti i k e, sc, .Assign [.Subscript (.Name x p1) kx p2] v pos => decide (sc.N[i]? = some x) && visB sc.names x && plainN x && plainIxB kx && chkE g k sc kx && chkE g e sc v
  | .app i e, sc, .Expr (.Call (.Attribute (.Name x p1) a apos) [y] [] cpos) pos => decide (sc.N[i]? = some x) && visB sc.names x && plainN x && decide (a = ("append" : Str)) && (apos.endLine == cpos.line) && chkE g e sc y
  | .ext i e, sc, .Expr (.Call (.Attribute (.Name x p1) a apos) [y] [] cpos) pos => decide (sc.N[i]? = some x) && visB sc.names x && plainN x && decide (a = ("extend" : Str)) && (apos.endLine == cpos.line) && chkE g e sc y
  | .drop e, sc, .Expr v pos => notComp v && chkE g e sc v
  | .ret e, sc, .Return (some v) pos => chkE g e sc v
  | .retv i, sc, .Return (some (.Name x p)) pos => decide (sc.N[i]? = some x) && visB sc.names x && plainN x
  | .retN, _, .Return none _ => true
  | .ife c a b, sc, .If t x y pos => chkE g c sc t && chkSs a sc x && chkSs b sc y
  | .for t i b, sc, .For tg iter body [] pos => sc.calm && chkT sc t tg && chkI g i sc tg iter && chkSs b sc body
  | .whl c b, sc, .While t body [] pos => chkE g c sc t && chkSs b sc body
  | .brk, _, .Break _ => true
  | .cnt, _, .Continue _ => true
  | .pas, _, .Pass _ => true
  | .nev, _, _ => true
  | .mat e cs, sc, .Match v cases pos => chkE g e sc v && chkCs cs sc cases
  | _, _, _ => false
def chkCs : Cs → Scp → List MatchCase → Bool
  | .nil, _, [] => true
  | .nil, _, _ :: _ => false
  | .cons _ _ _, _, [] => false
  | .cons ws b r, sc, c :: cs => altB ws c.pattern && c.guard.isNone && chkSs b sc c.body && chkCs r sc cs
def chkSs : Ss → Scp → List Stmt → Bool
  | .nil, _, [] => true
  | .nil, _, _ :: _ => false
  | .cons s r, sc, sts => match isFrz s with
    | some _ => chkSs r sc sts
    | none => match sts with
      | st :: sts => chkS s sc st && chkSs r sc sts
      | [] => false
end
end
section
variable {gt : Gt} {n : Nat} {g : Glo} {sc : Scp} {X : Cx} {W : WX} {G0 G G1 G2 : Gh} {H0 H H1 H2 : Hp} {O O1 : Sto} {σ : St} {env env' : List Sl} {D : Ends} {K : PySem.W.Frag}
theorem XOk.ni (ok : XOk gt n g.fn g.blt g.glb g.dfl sc X W) {i : Nat} {x : Str} (h : sc.N[i]? = some x) : X.N[i]? = some x := by rw [ok.N]; exact h
theorem XOk.nn (ok : XOk gt n g.fn g.blt g.glb g.dfl sc X W) : X.N.Nodup := by rw [ok.N]; exact ok.nd
theorem XOk.loc (ok : XOk gt n g.fn g.blt g.glb g.dfl sc X W) {x : Str} (h : locB sc.names x = true) : L2.Loc X.env.scope x := by
  have := locB_of h
  unfold L2.Loc
  rw [ok.names]; exact this
theorem XOk.vis (ok : XOk gt n g.fn g.blt g.glb g.dfl sc X W) {x : Str} (h : visB sc.names x = true) : Vis X.env.scope x := by
  have := visB_of h
  unfold Vis
  rw [ok.names]; exact this
theorem XOk.pn (ok : XOk gt n g.fn g.blt g.glb g.dfl sc X W) {i : Nat} {x : Str} {p : Pos} (h1 : sc.N[i]? = some x) (h2 : visB sc.names x = true) (h3 : plainN x = true) : PE X (.Name x p) (tVar i) := pe_var (ok.ni h1) (ok.vis h2) (plainN_of h3).1 (plainN_of h3).2.1
/-- name = value -/
theorem sg_set {i : Nat} {own : Bool} {e : E} {te : TE} (ke : EG gt X W (KRep X.K) te (ev (run gt.C n) e)) : SG gt X W (tAsg te (gName i)) (ex (run gt.C n) (.set i own e)) := by
  intro G0 H0 G H O σ env e0 o w D p
  simp only [ex] at p
  refine EG.fl ke e0 o w p fun x O1 v G1 H1 fp e o1 rl fr p => ?_
  obtain ⟨env', h, p⟩ := p.opt
  obtain ⟨G2, a, b, c⟩ := slot1 w e0 e o1 rl fr h
  exact p _ G2 H1 a b c
theorem t_set {i : Nat} {own : Bool} {e : E} {x : Str} {px pos : Pos} {v : Expr} (ok : XOk gt n g.fn g.blt g.glb g.dfl sc X W) (h1 : sc.N[i]? = some x) (h2 : locB sc.names x = true) (h3 : sc.sto x = true) (h4 : notSD v = true) (h5 : chkE g e sc v = true) :
    ∃ t, PS X (.Assign [.Name x px] v pos) t ∧ SG gt X W t (ex (run gt.C n) (.set i own e)) := by
  have sw := sw_of (x := x) (px := px) (l := pos.line) ok.kind ok.names h4
  cases q : swB sc.names x px v with
  | false =>
    rw [q] at sw
    obtain ⟨te, pe, ke⟩ := ((soE e sc v h5).2 X W ok).v
    exact ⟨_, ps_set ok.nn (ok.ni h1) (ok.loc h2) pe sw (ok.sto x h3), sg_set ke⟩
  | true =>
    rw [q] at sw
    unfold swB at q
    split at q
    · rename_i elt gs scope vp
      simp only [Bool.and_eq_true, decide_eq_true_eq] at q
      cases e with
      | lc m t i' c e' =>
        unfold chkE at h5
        split at h5
        all_goals first | (cases h5; done) | (rename_i z; cases z; done) | (rename_i z y; cases z; done) | skip
        rename_i z y
        cases z
        cases y
        simp only [Bool.and_eq_true, decide_eq_true_eq] at h5
        obtain ⟨⟨⟨⟨⟨c1, c2⟩, c3⟩, c4⟩, c5⟩, c6⟩ := h5
        obtain ⟨t', ps, ke⟩ := ps_lc (j := i) (y := x) (py := px) (spos := pos) h1 q.1.1 sw ok c1 c2 c3 ((soI _ _ _ _ c4).2 X W ok) ((soI (gt := gt) (n := n) _ _ _ _ c4).1 X.env) (soC _ _ _ c5) (fun X' ok' => (soE _ _ _ c6).2 X' WF ok')
        exact ⟨_, ps, sg_set ke⟩
      | lc2 m t i' c t1 i1 c1' e' =>
        unfold chkE at h5
        split at h5
        all_goals first | (cases h5; done) | (rename_i z; cases z; done) | (rename_i z y; cases z; done) | skip
        rename_i z y
        cases z
        cases y
        simp only [Bool.and_eq_true, decide_eq_true_eq] at h5
        obtain ⟨⟨⟨⟨⟨⟨⟨⟨c1, c2⟩, c3⟩, c4⟩, c5⟩, c6⟩, c7⟩, c8⟩, c9⟩ := h5
        obtain ⟨t', ps, ke⟩ := ps_lc2 (j := i) (y := x) (py := px) (spos := pos) h1 q.1.1 sw ok c1 c2 c3 c4 ((soI _ _ _ _ c5).2 X W ok) ((soI (gt := gt) (n := n) _ _ _ _ c5).1 X.env) (soC _ _ _ c6) (fun X' ok' => (soI _ _ _ _ c7).2 X' WF ok') (soI (gt := gt) (n := n) _ _ _ _ c7).1 (soC _ _ _ c8) (fun X' ok' => (soE _ _ _ c9).2 X' WF ok')
        exact ⟨_, ps, sg_set ke⟩
      | _ =>
        unfold chkE at h5
        first
          | (cases h5; done)
          | (split at h5 <;> first | (cases h5; done) | (rename_i z; cases z; done))
    · cases h4
    · cases h4
    · cases q
theorem parE_len : ∀ {js : List (Nat × Bool)} {xs : List XD} {env env' : List Sl}, parE js xs env = some env' → xs.length = js.length := by
  intro js
  induction js with
  | nil =>
    intro xs env env' h
    cases xs with
    | nil => rfl
    | cons _ _ => simp [parE] at h
  | cons j js ih =>
    intro xs env env' h
    cases xs with
    | nil => simp [parE] at h
    | cons x xs =>
      simp only [parE] at h
      obtain ⟨_, _, h⟩ := Option.bind_eq_some_iff.mp h
      obtain ⟨_, _, h⟩ := Option.bind_eq_some_iff.mp h
      simp [ih h]
theorem t_par {js : List (Nat × Bool)} {es : Es} {ts vs : List Expr} {k k2 : Nat} {tp tp2 pos : Pos} (ok : XOk gt n g.fn g.blt g.glb g.dfl sc X W) (hc : sc.calm = true) (hp : parB sc js ts vs = true) (h : chkEs g es sc vs = true) :
    ∃ t, PS X (.Assign [.Tuple ts k tp] (.Tuple vs k2 tp2) pos) t ∧ SG gt X W t (ex (run gt.C n) (.par js es)) := by
  obtain ⟨⟨ta, pa, ka⟩, _⟩ := (soEs es sc vs h).2 X W ok
  have fin : ∀ (t : TS), (∀ D σ H, t D σ H ↔ ta σ H fun ws H1 => ws.length = js.length ∧ D.nx (putAll js ws σ) H1) → SG gt X W t (ex (run gt.C n) (.par js es)) := fun t ht G0 H0 G H O σ env e0 o w D p => by
    rw [ht]
    simp only [ex] at p
    refine EG.fl ka e0 o w p fun xs O1 ws G1 H1 fp e o1 rl fr p => ?_
    obtain ⟨env', h, p⟩ := p.opt
    obtain ⟨φ, w⟩ := w
    obtain ⟨G2, a, b, c⟩ := slots (w.ext e) (e0.trans e) o1 rl (Fresh.pre e0 fr) (apart w fr) h
    refine ⟨?_, p _ G2 H1 a b c⟩
    rw [rl.len]
    exact parE_len h
  unfold parB at hp
  split at hp
  · rename_i i oi j oj x px y py a b _
    simp only [Bool.and_eq_true, decide_eq_true_eq, Bool.not_eq_true'] at hp
    obtain ⟨⟨⟨⟨⟨⟨⟨⟨⟨⟨h1, h2⟩, h3⟩, h4⟩, h5⟩, h6⟩, h7⟩, h8⟩, h9⟩, h10⟩, h11⟩ := hp
    refine ⟨_, ps_par (ok.calm hc).1 ok.nn (ok.ni h1) (ok.ni h2) (fun z => by rw [z] at h6; simp at h6) (by rw [ok.names]; exact h3) (by rw [ok.names]; exact h4) pa (sws2 ok.kind (by rw [ok.names]; exact h3) (by rw [ok.names]; exact h4) h5 h7 h8 h9 h10 h11), fin _ fun D σ H => ?_⟩
    unfold tPar
    have : (fun (vs : List V) H1 => ∃ v w, vs = [v, w] ∧ D.nx ((σ.set i (some v)).set j (some w)) H1) = fun ws H1 => ws.length = [(i, oi), (j, oj)].length ∧ D.nx (putAll [(i, oi), (j, oj)] ws σ) H1 := by
      funext ws H1
      apply propext
      constructor
      · rintro ⟨v, w, rfl, q⟩; exact ⟨rfl, q⟩
      · rintro ⟨hl, q⟩
        match ws, hl with
        | [v, w], _ => exact ⟨v, w, rfl, q⟩
    rw [this]
  · rename_i i oi j oj l ol x px y py z pz a b c _
    simp only [Bool.and_eq_true, decide_eq_true_eq, Bool.not_eq_true'] at hp
    obtain ⟨⟨⟨⟨⟨⟨⟨⟨⟨⟨⟨⟨⟨⟨⟨⟨⟨⟨h1, h2⟩, h3⟩, h4⟩, h5⟩, h6⟩, h7⟩, h8⟩, h9⟩, h10⟩, h11⟩, h12⟩, h13⟩, h14⟩, h15⟩, h16⟩, h17⟩, h18⟩, h19⟩ := hp
    refine ⟨_, ps_par3 (ok.calm hc).1 ok.nn (ok.ni h1) (ok.ni h2) (ok.ni h3) (fun z => by rw [z] at h9; simp at h9) (fun z => by rw [z] at h10; simp at h10) (fun z => by rw [z] at h11; simp at h11) (by rw [ok.names]; exact h4) (by rw [ok.names]; exact h5) (by rw [ok.names]; exact h6) pa
      (sws3 ok.kind (by rw [ok.names]; exact h4) (by rw [ok.names]; exact h5) (by rw [ok.names]; exact h6) h7 h8 h12 h13 h14 h15 h16 h17 h18 h19), fin _ fun D σ H => ?_⟩
    unfold tPar3
    have : (fun (vs : List V) H1 => ∃ u v w, vs = [u, v, w] ∧ D.nx (((σ.set i (some u)).set j (some v)).set l (some w)) H1) = fun ws H1 => ws.length = [(i, oi), (j, oj), (l, ol)].length ∧ D.nx (putAll [(i, oi), (j, oj), (l, ol)] ws σ) H1 := by
      funext ws H1
      apply propext
      constructor
      · rintro ⟨u, v, w, rfl, q⟩; exact ⟨rfl, q⟩
      · rintro ⟨hl, q⟩
        match ws, hl with
        | [u, v, w], _ => exact ⟨u, v, w, rfl, q⟩
    rw [this]
  · cases hp
theorem t_unp {t : T} {e : E} {tg v : Expr} {pos : Pos} (ok : XOk gt n g.fn g.blt g.glb g.dfl sc X W) (h1 : chkT sc t tg = true) (h2 : swN sc.names tg v = true) (h3 : chkE g e sc v = true) : ∃ t', PS X (.Assign [tg] v pos) t' ∧ SG gt X W t' (ex (run gt.C n) (.unp t e)) := by
  obtain ⟨gg, pg, kg⟩ := sT ok.t t tg h1
  obtain ⟨te, pe, ke⟩ := ((soE e sc v h3).2 X W ok).v
  have ht : ∃ ts k p, tg = .Tuple ts k p := by
    cases tg <;> first | exact ⟨_, _, _, rfl⟩ | (cases h2; done)
  obtain ⟨ts, k, p, rfl⟩ := ht
  refine ⟨_, ps_asg pe pg (by cases v <;> rfl) (swN_of ok.names h2) rfl, fun G0 H0 G H O σ env e0 o w D p => ?_⟩
  simp only [ex] at p
  refine EG.fl ke e0 o w p fun x O1 v G1 H1 fp e o1 rl fr p => ?_
  obtain ⟨env', h, p⟩ := p.opt
  obtain ⟨d, hd, ha⟩ := Option.bind_eq_some_iff.mp h
  obtain ⟨φ, w⟩ := w
  have fr0 := Fresh.pre e0 fr
  have dn : Den X.K (G1.fr H1 fp) d v := rl.frz1 o1.sub hd
  exact kg (G1.fr H1 fp) H1 H0 σ env env' d v (o1.ofFr fr0).sub ⟨φ, (w.ext e).fr o1.sub (apart w fr)⟩ dn ha D.nx fun σ' w' _ => p σ' _ H1 ((e0.trans e).ofFr o1.sub fr0) (o1.ofFr fr0) w'
theorem augD_add : ∀ d e z, augD .Add d e = some z → ∃ a b, d = .int a ∧ e = .int b ∧ z = .int (a + b) := by
  intro d e z h
  cases d <;> first | (cases h; done) | skip
  cases e <;> first | (cases h; done) | skip
  cases h
  exact ⟨_, _, rfl, rfl, rfl⟩
theorem augD_sub : ∀ d e z, augD .Sub d e = some z → ∃ a b, d = .int a ∧ e = .int b ∧ z = .int (a - b) := by
  intro d e z h
  cases d <;> first | (cases h; done) | skip
  cases e <;> first | (cases h; done) | skip
  cases h
  exact ⟨_, _, rfl, rfl, rfl⟩
theorem t_aug {i : Nat} {op : Operator} {e : E} {x : Str} {p pos : Pos} {v : Expr} (ok : XOk gt n g.fn g.blt g.glb g.dfl sc X W) (ho : op = .Add ∨ op = .Sub) (h1 : sc.N[i]? = some x) (h2 : locB sc.names x = true) (h3 : sc.sto x = true) (h4 : chkE g e sc v = true) :
    ∃ t', PS X (.AugAssign (.Name x p) op v pos) t' ∧ SG gt X W t' (ex (run gt.C n) (.aug i op e)) := by
  obtain ⟨te, pe, ke⟩ := ((soE e sc v h4).2 X W ok).v
  have go : ∀ (f : Int → Int → Int), (∀ d e z, augD op d e = some z → ∃ a b, d = .int a ∧ e = .int b ∧ z = .int (f a b)) → PIp X op (ipI f) → ∃ t', PS X (.AugAssign (.Name x p) op v pos) t' ∧ SG gt X W t' (ex (run gt.C n) (.aug i op e)) := fun f hf pi => by
    refine ⟨_, ps_aug ok.nn (ok.ni h1) (ok.loc h2) pe pi (ok.sto x h3), fun G0 H0 G H O σ env e0 o w D p => ?_⟩
    simp only [ex] at p
    obtain ⟨d, hd, p⟩ := p.opt
    unfold vaE at hd
    split at hd
    case h_2 => cases hd
    rename_i d' hs
    cases hd
    obtain ⟨φ, w'⟩ := w
    obtain ⟨_, u, hu, dn⟩ := w'.at' i _ hs
    refine ⟨u, hu, ?_⟩
    refine EG.fl ke e0 o ⟨φ, w'⟩ p fun y O1 v G1 H1 fp e o1 rl fr p => ?_
    obtain ⟨z, hz, p⟩ := p.opt
    obtain ⟨e', hy, hz⟩ := Option.bind_eq_some_iff.mp hz
    obtain ⟨a, b, rfl, rfl, rfl⟩ := hf _ _ _ hz
    have rd := rl.rd fr.nA hy
    have hv : v = .int b := by
      rcases rd with h | ⟨_, _, _, h, _⟩
      · unfold Den at h; exact h
      · cases h
    have hu2 : u = .int a := by unfold Den at dn; exact dn
    refine ⟨a, b, hu2, hv, ?_⟩
    exact p _ G1 H1 (e0.trans e) o1 ((own1 (w'.ext e)).put (List.getElem?_eq_some_iff.mp hs).1 (by unfold Den; rfl))
  rcases ho with rfl | rfl
  · exact go (fun i j => i + j) augD_add ip_add
  · exact go (fun i j => i - j) augD_sub ip_sub
end
end Ev

namespace Ev
open PySem PySem.Spec PyProof.Rows L2
section
variable {gt : Gt} {n : Nat} {g : Glo} {sc : Scp} {X : Cx} {W : WX} {G0 G G1 G2 : Gh} {H0 H H1 H2 : Hp} {O O1 : Sto} {σ : St} {env env' : List Sl} {D : Ends} {K : PySem.W.Frag}
/-- a statement's code is sound in a context -/
def ST (gt : Gt) (n : Nat) (X : Cx) (W : WX) (s : S) (st : Stmt) : Prop := ∃ t, PS X st t ∧ SG gt X W t (ex (run gt.C n) s)
def STs (gt : Gt) (n : Nat) (X : Cx) (W : WX) (s : Ss) (st : List Stmt) : Prop := ∃ t, PSs X st t ∧ SG gt X W t (exs (run gt.C n) s)
theorem slV_some {s s' : Sl} (h : slV s = some s') : s' = s ∧ s ≠ .un := by
  cases s with
  | un => cases h
  | va d => cases h; exact ⟨rfl, fun z => by cases z⟩
  | ow n d => cases h; exact ⟨rfl, fun z => by cases z⟩
theorem ownS_some {s s' : Sl} (h : ownS s = some s') : s' = s ∧ ∃ m ds, s = .ow (m + 1) (.lst ds) := by
  unfold ownS at h
  split at h
  · cases h; exact ⟨rfl, _, _, rfl⟩
  · cases h
theorem EnvOk.there {i : Nat} {s : Sl} (w : EnvOk K H0 G H σ env) (h : env[i]? = some s) (hn : s ≠ .un) : ∃ v, σ[i]? = some (some v) := by
  obtain ⟨φ, w⟩ := w
  have z := w.at' i s h
  cases s with
  | un => exact absurd rfl hn
  | va d => exact ⟨_, z.2.choose_spec.1⟩
  | ow m d => exact ⟨_, z.choose_spec.1⟩
theorem t_set_at {i : Nat} {k e : E} {x : Str} {kx v : Expr} {p1 p2 pos : Pos} (ok : XOk gt n g.fn g.blt g.glb g.dfl sc X W) (h1 : sc.N[i]? = some x) (h2 : visB sc.names x = true) (h3 : plainN x = true) (h4 : plainIxB kx = true) (h5 : chkE g k sc kx = true) (h6 : chkE g e sc v = true) :
    ST gt n X W (.seti i k e) (.Assign [.Subscript (.Name x p1) kx p2] v pos) := by
  obtain ⟨te, pe, ke⟩ := ((soE e sc v h6).2 X W ok).v
  obtain ⟨tk, pk, kk⟩ := ((soE k sc kx h5).2 X W ok).v
  refine ⟨_, ps_asg pe (pg_sub (ok.pn h1 h2 h3) pk set_list (fun w => by cases kx <;> first | rfl | (cases h4; done))) (by cases v <;> rfl) rfl rfl, fun G0 H0 G H O σ env e0 o w D p => ?_⟩
  simp only [ex] at p
  refine EG.fl ke e0 o w p fun x O1 v G1 H1 fp e o1 rl fr p => ?_
  obtain ⟨s, hs, p⟩ := p.opt
  obtain ⟨s', hs', hv⟩ := Option.bind_eq_some_iff.mp hs
  obtain ⟨rfl, hn⟩ := slV_some hv
  obtain ⟨u, hu⟩ := w.there hs' hn
  refine ⟨u, hu, ?_⟩
  refine EG.fl kk (e0.trans e) o1 (w.ext e) p fun y O2 u' G2 H2 fp' e' o2 rl' fr' p => ?_
  obtain ⟨r, hr, p⟩ := p.opt
  obtain ⟨d, hd, hr⟩ := Option.bind_eq_some_iff.mp hr
  obtain ⟨k', hk, hr⟩ := Option.bind_eq_some_iff.mp hr
  obtain ⟨q, xs, z, j, a1, a2, a3, a4, G3, a5, a6, a7⟩ := t_seti w e0 e rl fr e' o2 rl' hd hk (r := r) (by rw [hs']; exact hr)
  rw [hu] at a1
  cases a1
  exact ⟨q, xs, z, j, rfl, a2, a3, a4, p _ G3 _ a5 a6 a7⟩
theorem own_list {i m : Nat} {ds : List Ev.D} (w : EnvOk K H0 G H σ env) (h : env[i]? = some (.ow (m + 1) (.lst ds))) : ∃ l xs, σ[i]? = some (some (.ref l)) ∧ H l = some (.lst xs) := by
  obtain ⟨φ, w⟩ := w
  obtain ⟨v, hv, o⟩ := w.at' i _ h
  unfold Own at o
  obtain ⟨l, xs, fs, rfl, hl, _, _⟩ := o
  exact ⟨l, xs, hv, hl⟩
theorem t_append {i : Nat} {e : E} {x : Str} {y : Expr} {p1 apos cpos pos : Pos} (ok : XOk gt n g.fn g.blt g.glb g.dfl sc X W) (h1 : sc.N[i]? = some x) (h2 : visB sc.names x = true) (h3 : plainN x = true) (hl : (apos.endLine == cpos.line) = true) (h6 : chkE g e sc y = true) :
    ST gt n X W (.app i e) (.Expr (.Call (.Attribute (.Name x p1) "append" apos) [y] [] cpos) pos) := by
  have hs := (soE (gt := gt) (n := n) e sc y h6).1
  obtain ⟨te, pe, ke⟩ := ((soE e sc y h6).2 X W ok).v
  have pas : PA X [y] (tCons te tNil) := pa_cons pe pa_nil (star_cons hs)
  refine ⟨_, ps_expr (pe_bm PySem.F.plainAttrs_list PySem.F.slot_list_append PySem.F.type_list_append mt_append (ok.pn h1 h2 h3) pas rfl (few_ok hs) hl (star_cons hs) rfl) rfl, fun G0 H0 G H O σ env e0 o w D p => ?_⟩
  simp only [ex] at p
  obtain ⟨s, hs, p⟩ := p.opt
  obtain ⟨s', hs', hv⟩ := Option.bind_eq_some_iff.mp hs
  obtain ⟨rfl, m, ds, rfl⟩ := ownS_some hv
  obtain ⟨l, xs, hu, hl⟩ := own_list w hs'
  refine ⟨.ref l, hu, .inl ⟨rfl, xs, .inl (.inl hl)⟩, ?_⟩
  refine EG.fl ke e0 o w p fun x O1 v G1 H1 fp e o1 rl fr p => ?_
  obtain ⟨s', ha, p⟩ := p.opt
  obtain ⟨l', ys, b1, b2, b3, G2, b4, b5, b6⟩ := t_app w e0 e o1 rl fr (s' := s') (by rw [hs']; exact ha)
  rw [hu] at b1
  cases b1
  exact ⟨l, ys, v, rfl, rfl, b2, b3, p _ G2 _ b4 b5 b6⟩
theorem t_extend {i : Nat} {e : E} {x : Str} {y : Expr} {p1 apos cpos pos : Pos} (ok : XOk gt n g.fn g.blt g.glb g.dfl sc X W) (h1 : sc.N[i]? = some x) (h2 : visB sc.names x = true) (h3 : plainN x = true) (hl : (apos.endLine == cpos.line) = true) (h6 : chkE g e sc y = true) :
    ST gt n X W (.ext i e) (.Expr (.Call (.Attribute (.Name x p1) "extend" apos) [y] [] cpos) pos) := by
  have hs := (soE (gt := gt) (n := n) e sc y h6).1
  obtain ⟨te, pe, ke⟩ := ((soE e sc y h6).2 X W ok).v
  have pas : PA X [y] (tCons te tNil) := pa_cons pe pa_nil (star_cons hs)
  refine ⟨_, ps_expr (pe_bm PySem.F.plainAttrs_list PySem.F.slot_list_extend PySem.F.type_list_extend mt_extend (ok.pn h1 h2 h3) pas rfl (few_ok hs) hl (star_cons hs) rfl) rfl, fun G0 H0 G H O σ env e0 o w D p => ?_⟩
  simp only [ex] at p
  obtain ⟨s, hs, p⟩ := p.opt
  obtain ⟨s', hs', hv⟩ := Option.bind_eq_some_iff.mp hs
  obtain ⟨rfl, m, ds, rfl⟩ := ownS_some hv
  obtain ⟨l, xs, hu, hl⟩ := own_list w hs'
  refine ⟨.ref l, hu, .inl ⟨rfl, xs, .inl (.inl hl)⟩, ?_⟩
  refine EG.fl ke e0 o w p fun x O1 v G1 H1 fp e o1 rl fr p => ?_
  obtain ⟨s', ha, p⟩ := p.opt
  obtain ⟨l', b, ys, zs, rfl, b1, b2, b2', b3, G2, b4, b5, b6⟩ := t_ext w e0 e o1 rl fr (s' := s') (by rw [hs']; exact ha)
  rw [hu] at b1
  cases b1
  exact ⟨l, b, ys, zs, rfl, rfl, b2, b2', b3, p _ G2 _ b4 b5 b6⟩
theorem t_drop {e : E} {v : Expr} {pos : Pos} (ok : XOk gt n g.fn g.blt g.glb g.dfl sc X W) (hn : notComp v = true) (h : chkE g e sc v = true) : ST gt n X W (.drop e) (.Expr v pos) := by
  obtain ⟨te, pe, ke⟩ := ((soE e sc v h).2 X W ok).v
  refine ⟨_, ps_expr pe (by cases v <;> first | rfl | (cases hn; done)), fun G0 H0 G H O σ env e0 o w D p => ?_⟩
  simp only [ex] at p
  exact EG.fl ke e0 o w p fun x O1 v G1 H1 fp e o1 rl fr p => p σ G1 H1 (e0.trans e) o1 (w.ext e)
theorem t_ret {e : E} {v : Expr} {pos : Pos} (ok : XOk gt n g.fn g.blt g.glb g.dfl sc X W) (h : chkE g e sc v = true) : ST gt n X W (.ret e) (.Return (some v) pos) := by
  obtain ⟨te, pe, ke⟩ := ((soE e sc v h).2 X W ok).v
  refine ⟨_, ps_ret pe, fun G0 H0 G H O σ env e0 o w D p => ?_⟩
  simp only [ex] at p
  refine EG.fl ke e0 o w p fun x O1 v G1 H1 fp e o1 rl fr p => ?_
  obtain ⟨y, hy, p⟩ := p.opt
  have e1 : y = x := by cases x <;> first | (cases hy; done) | (cases hy; rfl)
  rw [e1] at p
  exact p v G1 H1 fp (e0.trans e) o1 rl (Fresh.pre e0 fr)
theorem t_retv {i : Nat} {x : Str} {p pos : Pos} (ok : XOk gt n g.fn g.blt g.glb g.dfl sc X W) (h1 : sc.N[i]? = some x) (h2 : visB sc.names x = true) (h3 : plainN x = true) : ST gt n X W (.retv i) (.Return (some (.Name x p)) pos) := by
  refine ⟨_, ps_ret (ok.pn h1 h2 h3), fun G0 H0 G H O σ env e0 o w D p => ?_⟩
  simp only [ex] at p
  obtain ⟨y, hy, p⟩ := p.opt
  obtain ⟨s, hs, hx⟩ := Option.bind_eq_some_iff.mp hy
  obtain ⟨φ, w⟩ := w
  have z := w.at' i s hs
  cases s with
  | un => cases hx
  | va d =>
    cases hx
    obtain ⟨_, v, hv, dn⟩ := z
    exact ⟨v, hv, p v G H [] e0 o ⟨rfl, dn⟩ Fresh.nil⟩
  | ow m d =>
    cases hx
    obtain ⟨v, hv, ow⟩ := z
    exact ⟨v, hv, p v G H (φ i) e0 o ow ⟨w.nd i, fun a ha => ⟨(w.new i a ha).1, (w.new i a ha).2.1, (w.new i a ha).2.2.1⟩⟩⟩
theorem t_retN {pos : Pos} : ST gt n X W .retN (.Return none pos) := ⟨_, ps_retN, fun G0 H0 G H O σ env e0 o w D p => by
  simp only [ex] at p
  exact p .non G H [] e0 o ⟨rfl, by unfold Den; rfl⟩ Fresh.nil⟩
theorem t_if {c : E} {a b : Ss} {t : Expr} {x y : List Stmt} {pos : Pos} (ok : XOk gt n g.fn g.blt g.glb g.dfl sc X W) (hc : chkE g c sc t = true) (ha : STs gt n X W a x) (hb : STs gt n X W b y) : ST gt n X W (.ife c a b) (.If t x y pos) := by
  obtain ⟨tc, pc, kc⟩ := ((soE c sc t hc).2 X W ok).t
  obtain ⟨ta, pa, ka⟩ := ha
  obtain ⟨tb, pb, kb⟩ := hb
  refine ⟨_, ps_if pc pa pb, fun G0 H0 G H O σ env e0 o w D p => ?_⟩
  simp only [ex] at p
  refine EG.fl kc e0 o w p fun b O1 v G1 H1 fp e o1 rl fr p => ?_
  obtain ⟨rfl, rfl⟩ := rl
  cases v with
  | true => exact ka G0 H0 G1 H1 O1 σ env (e0.trans e) o1 (w.ext e) D (by simpa using p)
  | false => exact kb G0 H0 G1 H1 O1 σ env (e0.trans e) o1 (w.ext e) D (by simpa using p)
theorem FPost.ends {r : Fl} {D' : Ends} (p : FPost gt K W G0 H0 r D) (h1 : ∀ σ H, D.nx σ H → D'.nx σ H) (h2 : ∀ v H, D.rt v H → D'.rt v H) (h3 : ∀ σ H, D.bk σ H → D'.bk σ H) (h4 : ∀ σ H, D.ct σ H → D'.ct σ H) : FPost gt K W G0 H0 r D' := by
  cases r with
  | nx env O => exact fun σ G H a b c => h1 σ H (p σ G H a b c)
  | bk env O => exact fun σ G H a b c => h3 σ H (p σ G H a b c)
  | ct env O => exact fun σ G H a b c => h4 σ H (p σ G H a b c)
  | rt x O => exact fun v G H fp a b c d => h2 v H (p v G H fp a b c d)
  | exc x env O => exact p
  | stk => exact p
theorem Ext.re (x : Ext G0 G1 H0 H1) (y : Ext G1 G2 H0 H2) : Ext G0 G2 H0 H2 where
  fs := x.fs.trans y.fs
  fn := fun a t n => y.fn a t (x.fn a t n)
  ap := by
    obtain ⟨l, e, f⟩ := x.ap
    obtain ⟨m, e', f'⟩ := y.ap
    refine ⟨l ++ m, by rw [e', e, List.append_assoc], fun a h => ?_⟩
    rcases List.mem_append.mp h with h | h
    · exact f a h
    · exact f' a h
  kp := fun a o h n => y.kp a o h (x.notA n (by rw [h]; simp))
  tr := y.tr
theorem Ext.self (x : Ext G0 G1 H0 H1) : Ext G1 G1 H0 H1 := ⟨Sub.refl _, fun _ _ h => h, ⟨[], by simp, by simp⟩, fun a o h n => x.kp a o h fun z => n (x.memA z), x.tr⟩
theorem FPost.an {r : Fl} (x : Ext G0 G1 H0 H1) (p : FPost gt K W G0 H0 r D) : FPost gt K W G1 H0 r D := by
  cases r with
  | nx env O => exact fun σ G H a b c => p σ G H (x.re a) b c
  | bk env O => exact fun σ G H a b c => p σ G H (x.re a) b c
  | ct env O => exact fun σ G H a b c => p σ G H (x.re a) b c
  | rt x' O => exact fun v G H fp a b c d => p v G H fp (x.re a) b c d
  | exc x' env O => exact fun c d σ G H a b w r => p c d σ G H (x.re a) b w r
  | stk => exact p
theorem t_for {t : T} {i : I} {b : Ss} {tg iter : Expr} {body : List Stmt} {pos : Pos} (yk : YOk gt n g sc X W) (hc : sc.calm = true) (ht : chkT sc t tg = true) (hi : chkI g i sc tg iter = true) (hb : STs gt n X W b body) :
    ST gt n X W (.for t i b) (.For tg iter body [] pos) := by
  have ok := yk.ok
  obtain ⟨hs, wi, pi, ki⟩ : (∀ x, foldedSetIterable iter X.env x = pure x) ∧ SI gt n X W i tg iter := ⟨(soI (gt := gt) (n := n) i sc tg iter hi).1 X.env, (soI i sc tg iter hi).2 X W ok⟩
  obtain ⟨gg, pg, kg⟩ := sT ok.t t tg ht
  obtain ⟨tb, pb, kb⟩ := hb
  refine ⟨_, ps_for yk.po (ok.calm hc).1 pi pg pb hs, fun G0 H0 G H O σ env e0 o w D p => ?_⟩
  simp only [ex] at p
  refine EG.fl ki e0 o w p fun ds O1 J G1 H1 fp e o1 rl fr p => ?_
  obtain ⟨rfl, jk⟩ := rl
  have x1 := (e0.trans e)
  refine ⟨fun i m σ H => m = ds.length - i ∧ i ≤ ds.length ∧ ∃ G O env, Ext G1 G H0 H ∧ GOk X.K G H O ∧ EnvOk X.K H0 G H σ env ∧ FPost gt X.K W G1 H0 (forM (fun d env' O2 => Fl.opt (asg t d env') fun e2 => exs (run gt.C n) b e2 O2) (ds.drop i) env O) D,
    ⟨ds.length, by simp, Nat.zero_le _, G1, O1, env, x1.self, o1, w.ext e, p.an x1⟩, ?_⟩
  rintro i m σ H ⟨rfl, hi, G, O, env, e0, o, w, p⟩
  by_cases hlt : i < ds.length
  · right
    have hd : ds[i]? = some ds[i] := List.getElem?_eq_getElem hlt
    obtain ⟨go, yl⟩ := jk.go G H O e0.le o i _ hd
    rw [List.drop_eq_getElem_cons hlt] at p
    unfold forM at p
    refine ⟨go, fun σ H => ∃ G O env, Ext G1 G H0 H ∧ GOk X.K G H O ∧ EnvOk X.K H0 G H σ env ∧ FPost gt X.K W G1 H0 (forM (fun d env' O2 => Fl.opt (asg t d env') fun e2 => exs (run gt.C n) b e2 O2) (ds.drop (i + 1)) env O) D, fun σ' H' q => ⟨_, by omega, rfl, hlt, q⟩, fun x H' y => ?_⟩
    obtain ⟨Gx, ex, ox, dn⟩ := yl x H' y
    cases ha : asg t ds[i] env with
    | none => rw [ha] at p; exact p.elim
    | some env2 =>
      rw [ha, Fl.opt_some] at p
      refine kg Gx H' H0 σ env env2 _ x ox.sub (w.ext ex) dn ha _ fun σ2 w2 _ => ?_
      refine kb G1 H0 Gx H' O σ2 env2 (e0.trans ex) ox w2 _ ?_
      cases q : exs (run gt.C n) b env2 O with
      | nx env3 O3 => rw [q] at p; exact fun σ G H a b c => ⟨G, O3, env3, a, b, c, p⟩
      | ct env3 O3 => rw [q] at p; exact fun σ G H a b c => ⟨G, O3, env3, a, b, c, p⟩
      | bk env3 O3 => rw [q] at p; exact p
      | rt x O3 => rw [q] at p; exact p
      | exc x env3 O3 => rw [q] at p; exact p
      | stk => rw [q] at p; exact p
  · left
    have hi' : i = ds.length := by omega
    subst hi'
    rw [List.drop_length] at p
    exact ⟨jk.stop G H O e0.le o _ (Nat.le_refl _), p σ G H e0 o w⟩
theorem t_whl {c : E} {b : Ss} {t : Expr} {body : List Stmt} {pos : Pos} (yk : YOk gt n g sc X W) (hc : chkE g c sc t = true) (hb : STs gt n X W b body) : ST gt n X W (.whl c b) (.While t body [] pos) := by
  have ok := yk.ok
  obtain ⟨tc, pc, kc⟩ := ((soE c sc t hc).2 X W ok).t
  obtain ⟨tb, pb, kb⟩ := hb
  refine ⟨_, ps_while yk.po pc pb, fun G0 H0 G H O σ env e0 o w D p => ?_⟩
  simp only [ex] at p
  have hx : ∃ k, whN (evT (run gt.C n) c) (fun env' O' => exs (run gt.C n) b env' O') k env O ≠ .stk := by
    apply Classical.byContradiction
    intro hx
    unfold whF at p
    rw [dif_neg hx] at p
    exact p
  obtain ⟨k, hk⟩ := hx
  rw [whF_of hk] at p
  refine ⟨fun m σ H => ∃ G O env, Ext G0 G H0 H ∧ GOk X.K G H O ∧ EnvOk X.K H0 G H σ env ∧ FPost gt X.K W G0 H0 (whN (evT (run gt.C n) c) (fun env' O' => exs (run gt.C n) b env' O') m env O) D, ⟨k, G, O, env, e0, o, w, p⟩, ?_⟩
  rintro m σ H ⟨G, O, env, e0, o, w, p⟩
  cases m with
  | zero => exact p.elim
  | succ m =>
    unfold whN at p
    refine EG.fl kc e0 o w p fun t O1 v G1 H1 fp e o1 rl fr p => ?_
    obtain ⟨rfl, rfl⟩ := rl
    cases v with
    | false => exact p σ G1 H1 (e0.trans e) o1 (w.ext e)
    | true =>
      rw [if_pos rfl] at p ⊢
      refine ⟨fun σ H => ∃ G O env, Ext G0 G H0 H ∧ GOk X.K G H O ∧ EnvOk X.K H0 G H σ env ∧ FPost gt X.K W G0 H0 (whN (evT (run gt.C n) c) (fun env' O' => exs (run gt.C n) b env' O') m env O) D, fun σ' H' q => ⟨m, by omega, q⟩, ?_⟩
      refine kb G0 H0 G1 H1 O1 σ env (e0.trans e) o1 (w.ext e) _ ?_
      cases q : exs (run gt.C n) b env O1 with
      | nx env3 O3 => rw [q] at p; exact fun σ G H a b c => ⟨G, O3, env3, a, b, c, p⟩
      | ct env3 O3 => rw [q] at p; exact fun σ G H a b c => ⟨G, O3, env3, a, b, c, p⟩
      | bk env3 O3 => rw [q] at p; exact p
      | rt x O3 => rw [q] at p; exact p
      | exc x env3 O3 => rw [q] at p; exact p
      | stk => rw [q] at p; exact p
theorem t_brk {pos : Pos} : ST gt n X W .brk (.Break pos) := ⟨_, ps_break, fun G0 H0 G H O σ env e0 o w D p => by simp only [ex] at p; exact p σ G H e0 o w⟩
theorem t_cnt {pos : Pos} : ST gt n X W .cnt (.Continue pos) := ⟨_, ps_continue, fun G0 H0 G H O σ env e0 o w D p => by simp only [ex] at p; exact p σ G H e0 o w⟩
theorem t_pas {pos : Pos} : ST gt n X W .pas (.Pass pos) := ⟨_, ps_pass, fun G0 H0 G H O σ env e0 o w D p => by simp only [ex] at p; exact p σ G H e0 o w⟩
theorem t_nev {st : Stmt} : ST gt n X W .nev st := ⟨_, ps_never, fun G0 H0 G H O σ env e0 o w D p => by simp only [ex] at p; exact p⟩
theorem ts_nil : STs gt n X W .nil [] := ⟨_, pss_nil, fun G0 H0 G H O σ env e0 o w D p => by simp only [exs] at p; exact p σ G H e0 o w⟩
theorem ts_cons {s : S} {r : Ss} {st : Stmt} {rest : List Stmt} (h : ST gt n X W s st) (k : STs gt n X W r rest) : STs gt n X W (.cons s r) (st :: rest) := by
  obtain ⟨t, ps, ks⟩ := h
  obtain ⟨u, pr, kr⟩ := k
  refine ⟨_, pss_cons ps pr, fun G0 H0 G H O σ env e0 o w D p => ?_⟩
  simp only [exs] at p
  refine ks G0 H0 G H O σ env e0 o w { D with nx := u D } ?_
  cases q : ex (run gt.C n) s env O with
  | nx env2 O2 => rw [q] at p; exact fun σ G H a b c => kr G0 H0 G H O2 σ env2 a b c D p
  | bk env2 O2 => rw [q] at p; exact p
  | ct env2 O2 => rw [q] at p; exact p
  | rt x O2 => rw [q] at p; exact p
  | exc x env2 O2 => rw [q] at p; exact p
  | stk => rw [q] at p; exact p
theorem ts_frz {i : Nat} {r : Ss} {rest : List Stmt} (k : STs gt n X W r rest) : STs gt n X W (.cons (.frz i) r) rest := by
  obtain ⟨u, pr, kr⟩ := k
  refine ⟨u, pr, fun G0 H0 G H O σ env e0 o w D p => ?_⟩
  simp only [exs, ex] at p
  cases q : env[i]? with
  | none => rw [q] at p; exact p.elim
  | some s =>
    rw [q] at p
    obtain ⟨G2, a, b, c⟩ := t_frz w e0 o q
    exact kr G0 H0 G2 H O σ _ a b c D p
/-! match over a text -/
theorem w_pat {z : Str} {w : Tx} {p : Pattern} {tk : Tok} {pins : List (Addr × Obj)} {σ : St} {H : Hp} {s : Shared} {Q : Option (List (Str × Value)) → Shared → Prop} (h : patB w p = true) (I : Inv X pins σ H s)
    (hq : ∀ s', Inv X pins σ H s' → Q (if z = sOf w then some [] else none) s') : wpAny (model X.prog X.w) X.A (matchPattern p X.env (.str z tk)) Q X.xe s := by
  unfold patB at h
  split at h
  case h_2 => cases h
  rename_i x k p1 p2
  have hx := of_decide_eq_true h
  subst hx
  refine wpAny_matchPattern_Value (Calls.Constant_str ?_)
  have I1 : Inv X pins σ H { s with toks := s.toks + 1 } := I.tok _
  refine thn (op_eq (X := X) pins _ σ H (.str z) (.str (sOf w)) (.str z tk) (.str (sOf w) s.toks) (fun v H1 => v = .bl (decide (V.str z = V.str (sOf w))) ∧ H1 = H) I1 ⟨_, rfl⟩ ⟨_, rfl⟩ ⟨rfl, rfl, rfl⟩) fun u s1 ⟨v, H1, I2, r, e, eH⟩ => ?_
  subst e eH
  cases (show u = Value.bool _ from r)
  refine wpAny_truthy_bool ?_
  have z1 := hq s1 I2
  by_cases e : z = sOf w
  · rw [if_pos e] at z1
    have : decide (V.str z = V.str (sOf w)) = true := decide_eq_true (by rw [e])
    rw [this]; exact z1
  · rw [if_neg e] at z1
    have : decide (V.str z = V.str (sOf w)) = false := decide_eq_false fun q => e (V.str.inj q)
    rw [this]; exact z1
theorem w_first {z : Str} {tk : Tok} {pins : List (Addr × Obj)} {σ : St} {H : Hp} {Q : Option (List (Str × Value)) → Shared → Prop} : ∀ {ws : List Tx} {ps : List Pattern} {s : Shared}, patsB ws ps = true → Inv X pins σ H s →
    (∀ s', Inv X pins σ H s' → Q (if ws.any (fun w => decide (z = sOf w)) = true then some [] else none) s') → wpAny (model X.prog X.w) X.A (matchFirst ps X.env (.str z tk)) Q X.xe s
  | [], [], s, _, I, hq => wpAny_matchFirst_nil (hq s I)
  | [], _ :: _, _, h, _, _ => by cases h
  | _ :: _, [], _, h, _, _ => by cases h
  | w :: ws, p :: ps, s, h, I, hq => by
    unfold patsB at h
    obtain ⟨h1, h2⟩ := b2 h
    refine wpAny_matchFirst_cons (w_pat h1 I fun s1 I1 => ?_)
    by_cases e : z = sOf w
    · rw [if_pos e]
      have := hq s1 I1
      rw [List.any_cons, decide_eq_true e, Bool.true_or, if_pos rfl] at this
      exact this
    · rw [if_neg e]
      refine w_first h2 I1 fun s2 I2 => ?_
      have := hq s2 I2
      rw [List.any_cons, decide_eq_false e, Bool.false_or] at this
      exact this
theorem w_alt {z : Str} {tk : Tok} {pins : List (Addr × Obj)} {σ : St} {H : Hp} {Q : Option (List (Str × Value)) → Shared → Prop} {ws : List Tx} {p : Pattern} {s : Shared} (h : altB ws p = true) (I : Inv X pins σ H s)
    (hq : ∀ s', Inv X pins σ H s' → Q (if ws.any (fun w => decide (z = sOf w)) = true then some [] else none) s') : wpAny (model X.prog X.w) X.A (matchPattern p X.env (.str z tk)) Q X.xe s := by
  unfold altB at h
  split at h
  · rename_i ps p1
    refine wpAny_matchPattern_Or (w_first h I fun s1 I1 => ?_)
    have z1 := hq s1 I1
    split
    · rename_i e
      split at e
      · cases e
      · rename_i q
        rw [if_neg q] at z1
        exact z1
    · rename_i bs e
      split at e
      · rename_i q
        cases e
        rw [if_pos q] at z1
        have : ((namesOfAll (ps.take 1)).filterMap fun n => (([] : List (Str × Value)).lookup n).map (n, ·)) = [] := by simp
        rw [this]
        exact z1
      · cases e
  · rename_i w _
    refine w_pat h I fun s1 I1 => ?_
    have z1 := hq s1 I1
    rw [List.any_cons, List.any_nil, Bool.or_false] at z1
    by_cases e : z = sOf w
    · rw [if_pos (decide_eq_true e)] at z1
      rw [if_pos e]; exact z1
    · rw [if_neg (by rw [decide_eq_false e]; exact Bool.false_ne_true)] at z1
      rw [if_neg e]; exact z1
  · cases h
/-- the cases of a match, the text known -/
structure PC (X : Cx) (cs : List MatchCase) (t : Tx → TS) : Prop where
  run : ∀ (pins : List (Addr × Obj)) (s : Shared) (σ : St) (H : Hp) (D : Ends) (z : Tx) (tk : Tok) (b : Bool), Inv X pins σ H s → t z D σ H → wpAny (model X.prog X.w) X.A (matchCases cs X.env (.str (sOf z) tk) b) (SP X pins D) X.xe s
def SCs (gt : Gt) (n : Nat) (X : Cx) (W : WX) (cs : Cs) (cases : List MatchCase) : Prop := ∃ t, PC X cases t ∧ ∀ z, SG gt X W (t z) (exC (run gt.C n) cs z)
theorem sc_end : SCs gt n X W .nil [] := ⟨fun _ => tNext, ⟨fun pins s σ H D z tk b I h => wpAny_matchCases_nil ⟨σ, H, I, h⟩⟩, fun z G0 H0 G H O σ env e0 o w D p => by simp only [exC] at p; exact p σ G H e0 o w⟩
theorem any_code {ws : List Tx} {z : Tx} : (ws.any fun w => decide (sOf z = sOf w)) = ws.contains z := by
  rw [Bool.eq_iff_iff, List.any_eq_true, List.contains_iff_mem]
  constructor
  · rintro ⟨w, hw, e⟩
    rw [sOf_inj (of_decide_eq_true e)]; exact hw
  · exact fun h => ⟨z, h, decide_eq_true rfl⟩
theorem sc_case {ws : List Tx} {b : Ss} {r : Cs} {c : MatchCase} {rest : List MatchCase} (ha : altB ws c.pattern = true) (hg : c.guard.isNone = true) (hb : STs gt n X W b c.body) (hr : SCs gt n X W r rest) : SCs gt n X W (.cons ws b r) (c :: rest) := by
  obtain ⟨tb, pb, kb⟩ := hb
  obtain ⟨tr, pr, kr⟩ := hr
  obtain ⟨pat, guard, body⟩ := c
  cases guard with
  | some _ => cases hg
  | none =>
    refine ⟨fun z => if ws.contains z = true then tb else tr z, ⟨fun pins s σ H D z tk bb I h => ?_⟩, fun z G0 H0 G H O σ env e0 o w D p => ?_⟩
    · refine wpAny_matchCases_cons (w_alt ha I fun s1 I1 => ?_)
      rw [any_code]
      by_cases e : ws.contains z = true
      · rw [if_pos e] at h ⊢
        exact wpAny_assignInOrder_none (pb.run pins s1 σ H D I1 h)
      · rw [if_neg e] at h ⊢
        exact pr.run pins s1 σ H D z tk false I1 h
    · simp only [exC] at p
      by_cases e : ws.contains z = true
      · simp only [if_pos e] at p ⊢
        exact kb G0 H0 G H O σ env e0 o w D p
      · simp only [if_neg e] at p ⊢
        exact kr z G0 H0 G H O σ env e0 o w D p
theorem t_mat {e : E} {cs : Cs} {v : Expr} {cases : List MatchCase} {pos : Pos} (ok : XOk gt n g.fn g.blt g.glb g.dfl sc X W) (h : chkE g e sc v = true) (hc : SCs gt n X W cs cases) : ST gt n X W (.mat e cs) (.Match v cases pos) := by
  obtain ⟨te, pe, ke⟩ := ((soE e sc v h).2 X W ok).v
  obtain ⟨tc, pc, kc⟩ := hc
  refine ⟨fun D σ H => te σ H fun u H1 => ∃ z, u = .str (sOf z) ∧ tc z D σ H1, ⟨fun pins s σ H D I hw => wpAny_Match (thn (pe.run pins s σ H _ I hw) fun u s1 ⟨x, H1, I1, r, z, ez, q⟩ => ?_)⟩, fun G0 H0 G H O σ env e0 o w D p => ?_⟩
  · subst ez
    obtain ⟨tk, rfl⟩ := r
    exact pc.run pins s1 σ H1 D z tk true I1 q
  · simp only [ex] at p
    refine EG.fl ke e0 o w p fun x O1 u G1 H1 fp e o1 rl fr p => ?_
    obtain ⟨z, hz, p⟩ := p.opt
    unfold strX at hz
    split at hz
    case h_2 => cases hz
    cases hz
    have hu := rl.2
    unfold Den at hu
    exact ⟨z, hu, kc z G0 H0 G1 H1 O1 σ env (e0.trans e) o1 (w.ext e) D p⟩
mutual
theorem soS : ∀ (s : S) (sc : Scp) (st : Stmt), chkS g s sc st = true → ∀ (X : Cx) (W : WX), YOk gt n g sc X W → ST gt n X W s st
  | .set i own e, sc, st, h => by
    unfold chkS at h; split at h
    all_goals first | (cases h; done) | (rename_i q; cases q; done) | skip
    rename_i q
    cases q
    simp only [Bool.and_eq_true, decide_eq_true_eq] at h
    obtain ⟨⟨⟨⟨h1, h2⟩, h3⟩, h4⟩, h5⟩ := h
    exact fun X W yk => t_set yk.ok h1 h2 h3 h4 h5
  | .par js es, sc, st, h => by
    unfold chkS at h; split at h
    all_goals first | (cases h; done) | (rename_i q; cases q; done) | skip
    rename_i q
    cases q
    simp only [Bool.and_eq_true, decide_eq_true_eq] at h
    obtain ⟨⟨h1, h2⟩, h3⟩ := h
    exact fun X W yk => t_par yk.ok h1 h2 h3
  | .unp t e, sc, st, h => by
    unfold chkS at h; split at h
    all_goals first | (cases h; done) | (rename_i q; cases q; done) | skip
    rename_i q
    cases q
    simp only [Bool.and_eq_true, decide_eq_true_eq] at h
    obtain ⟨⟨h1, h2⟩, h3⟩ := h
    exact fun X W yk => t_unp yk.ok h1 h2 h3
  | .aug i op e, sc, st, h => by
    unfold chkS at h; split at h
    all_goals first | (cases h; done) | (rename_i q; cases q; done) | skip
    rename_i q
    cases q
    simp only [Bool.and_eq_true, Bool.or_eq_true, decide_eq_true_eq] at h
    obtain ⟨⟨⟨⟨⟨h1, h2⟩, h3⟩, h4⟩, h5⟩, h6⟩ := h
    subst h1
    exact fun X W yk => t_aug yk.ok h2 h3 h4 h5 h6
  | .seti i k e, sc, st, h => by
    unfold chkS at h; split at h
    all_goals first | (cases h; done) | (rename_i q; cases q; done) | skip
    rename_i q
    cases q
    simp only [Bool.and_eq_true, decide_eq_true_eq] at h
    obtain ⟨⟨⟨⟨⟨h1, h2⟩, h3⟩, h4⟩, h5⟩, h6⟩ := h
    exact fun X W yk => t_set_at yk.ok h1 h2 h3 h4 h5 h6
  | .app i e, sc, st, h => by
    unfold chkS at h; split at h
    all_goals first | (cases h; done) | (rename_i q; cases q; done) | skip
    rename_i q
    cases q
    simp only [Bool.and_eq_true, decide_eq_true_eq] at h
    obtain ⟨⟨⟨⟨⟨h1, h2⟩, h3⟩, h4⟩, h5⟩, h6⟩ := h
    subst h4
    exact fun X W yk => t_append yk.ok h1 h2 h3 h5 h6
  | .ext i e, sc, st, h => by
    unfold chkS at h; split at h
    all_goals first | (cases h; done) | (rename_i q; cases q; done) | skip
    rename_i q
    cases q
    simp only [Bool.and_eq_true, decide_eq_true_eq] at h
    obtain ⟨⟨⟨⟨⟨h1, h2⟩, h3⟩, h4⟩, h5⟩, h6⟩ := h
    subst h4
    exact fun X W yk => t_extend yk.ok h1 h2 h3 h5 h6
  | .drop e, sc, st, h => by
    unfold chkS at h; split at h
    all_goals first | (cases h; done) | (rename_i q; cases q; done) | skip
    rename_i q
    cases q
    simp only [Bool.and_eq_true, decide_eq_true_eq] at h
    obtain ⟨h1, h2⟩ := h
    exact fun X W yk => t_drop yk.ok h1 h2
  | .ret e, sc, st, h => by
    unfold chkS at h; split at h
    all_goals first | (cases h; done) | (rename_i q; cases q; done) | skip
    rename_i q
    cases q
    have h1 := h
    exact fun X W yk => t_ret yk.ok h1
  | .retv i, sc, st, h => by
    unfold chkS at h; split at h
    all_goals first | (cases h; done) | (rename_i q; cases q; done) | skip
    rename_i q
    cases q
    simp only [Bool.and_eq_true, decide_eq_true_eq] at h
    obtain ⟨⟨h1, h2⟩, h3⟩ := h
    exact fun X W yk => t_retv yk.ok h1 h2 h3
  | .retN, sc, st, h => by
    unfold chkS at h; split at h
    all_goals first | (cases h; done) | (rename_i q; cases q; done) | skip
    rename_i q
    cases q
    exact fun X W yk => t_retN
  | .ife c a b, sc, st, h => by
    unfold chkS at h; split at h
    all_goals first | (cases h; done) | (rename_i q; cases q; done) | skip
    rename_i q
    cases q
    simp only [Bool.and_eq_true, decide_eq_true_eq] at h
    obtain ⟨⟨h1, h2⟩, h3⟩ := h
    exact fun X W yk => t_if yk.ok h1 (soSs a _ _ h2 X W yk) (soSs b _ _ h3 X W yk)
  | .for t i b, sc, st, h => by
    unfold chkS at h; split at h
    all_goals first | (cases h; done) | (rename_i q; cases q; done) | skip
    rename_i q
    cases q
    simp only [Bool.and_eq_true, decide_eq_true_eq] at h
    obtain ⟨⟨⟨h1, h2⟩, h3⟩, h4⟩ := h
    exact fun X W yk => t_for yk h1 h2 h3 (soSs b _ _ h4 X W yk)
  | .whl c b, sc, st, h => by
    unfold chkS at h; split at h
    all_goals first | (cases h; done) | (rename_i q; cases q; done) | skip
    rename_i q
    cases q
    simp only [Bool.and_eq_true, decide_eq_true_eq] at h
    obtain ⟨h1, h2⟩ := h
    exact fun X W yk => t_whl yk h1 (soSs b _ _ h2 X W yk)
  | .brk, sc, st, h => by
    unfold chkS at h; split at h
    all_goals first | (cases h; done) | (rename_i q; cases q; done) | skip
    rename_i q
    cases q
    exact fun X W yk => t_brk
  | .cnt, sc, st, h => by
    unfold chkS at h; split at h
    all_goals first | (cases h; done) | (rename_i q; cases q; done) | skip
    rename_i q
    cases q
    exact fun X W yk => t_cnt
  | .pas, sc, st, h => by
    unfold chkS at h; split at h
    all_goals first | (cases h; done) | (rename_i q; cases q; done) | skip
    rename_i q
    cases q
    exact fun X W yk => t_pas
  | .nev, sc, st, h => fun X W yk => t_nev
  | .mat e cs, sc, st, h => by
    unfold chkS at h; split at h
    all_goals first | (cases h; done) | (rename_i q; cases q; done) | skip
    rename_i q
    cases q
    obtain ⟨h1, h2⟩ := b2 h
    exact fun X W yk => t_mat yk.ok h1 (soCs cs _ _ h2 X W yk)
  | .frz i, sc, st, h => by
    unfold chkS at h; cases h
theorem soCs : ∀ (cs : Cs) (sc : Scp) (cases : List MatchCase), chkCs g cs sc cases = true → ∀ (X : Cx) (W : WX), YOk gt n g sc X W → SCs gt n X W cs cases
  | .nil, sc, [], h => fun X W yk => sc_end
  | .nil, sc, _ :: _, h => by unfold chkCs at h; cases h
  | .cons _ _ _, sc, [], h => by unfold chkCs at h; cases h
  | .cons ws b r, sc, c :: cs, h => by
    unfold chkCs at h
    simp only [Bool.and_eq_true] at h
    obtain ⟨⟨⟨h1, h2⟩, h3⟩, h4⟩ := h
    exact fun X W yk => sc_case h1 h2 (soSs b sc c.body h3 X W yk) (soCs r sc cs h4 X W yk)
theorem soSs : ∀ (ss : Ss) (sc : Scp) (sts : List Stmt), chkSs g ss sc sts = true → ∀ (X : Cx) (W : WX), YOk gt n g sc X W → STs gt n X W ss sts
  | .nil, sc, [], h => fun X W yk => ts_nil
  | .nil, sc, _ :: _, h => by unfold chkSs at h; cases h
  | .cons s r, sc, sts, h => by
    unfold chkSs at h
    cases q : isFrz s with
    | some i =>
      rw [q] at h
      have : s = .frz i := by cases s <;> first | (cases q; done) | (cases q; rfl)
      subst this
      exact fun X W yk => ts_frz (soSs r sc sts h X W yk)
    | none =>
      rw [q] at h
      cases sts with
      | nil => cases h
      | cons st sts =>
        obtain ⟨h1, h2⟩ := b2 h
        exact fun X W yk => ts_cons (soS s sc st h1 X W yk) (soSs r sc sts h2 X W yk)
end
end
end Ev

namespace Ev
open PySem PySem.Spec PyProof.Rows L2
/-! ### the text's defs -/
structure Def where
  x : Str
  st : Stmt
  ps : List Str
  N : List Str
  code : Code
def Def.sc (d : Def) : Scp := ⟨d.N, (defScope d.st).names, fun _ => true, true⟩
def chkD (g : Glo) (d : Def) : Bool := C8.scC d.N d.ps (defScope d.st) && d.code.np == d.ps.length && d.code.ns == d.N.length && chkSs g d.code.body d.sc (defBody d.st)
/-- a def as it lies, with its defaults -/
def FD (K : PySem.W.Frag) (d : Def) (f : Addr) (fd : FuncData) : Prop := ∃ dvs kws, FunD K d.x d.x (defArgs d.st) (defBody d.st) (defScope d.st) dvs kws f fd
structure Mod0 (gt : Gt) (g : Glo) (T : List Def) (K : PySem.W.Frag) (mg : Str → Option Value) : Prop where
  C : gt.C = T.map Def.code
  fn : g.fn = T.map Def.x
  len : gt.fn.length = T.length
  at' : ∀ (i : Nat) (d : Def) (r : Str × Addr × FuncData × List Str), T[i]? = some d → gt.fn[i]? = some r → r.1 = d.x ∧ r.2.2.2 = d.ps ∧ FD K d r.2.1 r.2.2.1 ∧ Binds K r.2.2.1 d.ps [] ∧ mg d.x = some (.ref r.2.1)
  blt : ∀ x ∈ g.blt, mg x = none
  glb : ∀ p ∈ g.glb, ∃ u v, mg p.1 = some u ∧ RelV v u ∧ Den K ⟨fun _ => none, []⟩ p.2 v
  chk : T.all (chkD g) = true
  dfl : ∀ p ∈ g.dfl, ∀ r : Str × Addr × FuncData × List Str, gt.fn[p.1]? = some r → ∃ us vs, Binds K r.2.2.1 r.2.2.2 us ∧ Vals vs us ∧ DenL K ⟨fun _ => none, []⟩ p.2 vs
section
variable {gt : Gt} {g : Glo} {T : List Def} {P : Program} {w : World} {K : PySem.W.Frag} {mg : Str → Option Value} {base : Heap}
theorem Mod0.mod (M : Mod0 gt g T K mg) {n : Nat} (ih : ∀ (i : Nat) (r : Str × Addr × FuncData × List Str), gt.fn[i]? = some r → FnOk P w K mg base (L2.CX P w) n r.2.1 r.2.2.1 r.2.2.2 (FSp gt K n i))
    {X : Cx} (h1 : X.prog = P) (h2 : X.w = w) (h3 : X.K = K) (h4 : X.mg = mg) (h5 : X.base = base) : ModOk gt X n g.fn g.blt g.glb g.dfl := by
  subst h1 h2 h3 h4 h5
  refine ⟨fun i x hx => ?_, fun i r hr => ?_, M.blt, M.glb, M.dfl⟩
  · rw [M.fn, List.getElem?_map] at hx
    obtain ⟨d, hd, rfl⟩ := Option.map_eq_some_iff.mp hx
    have hi : i < gt.fn.length := by rw [M.len]; exact (List.getElem?_eq_some_iff.mp hd).1
    exact ⟨gt.fn[i], List.getElem?_eq_getElem hi, (M.at' i d _ hd (List.getElem?_eq_getElem hi)).1⟩
  · have hi : i < T.length := by rw [← M.len]; exact (List.getElem?_eq_some_iff.mp hr).1
    obtain ⟨e1, e2, F, b, m⟩ := M.at' i T[i] r (List.getElem?_eq_getElem hi) hr
    refine ⟨by rw [e1]; exact m, (let ⟨_, _, F⟩ := F; F.kp), by rw [e2]; exact b, ih i r hr⟩
theorem den_at {G : Gh} : ∀ {ds : List D} {vs : List V} {i : Nat} {d : D}, DenL K G ds vs → ds[i]? = some d → ∃ v, vs[i]? = some v ∧ Den K G d v
  | [], _, _, _, _, h => by cases h
  | e :: ds, vs, i, d, t, h => by
    obtain ⟨v, r, rfl, p, q⟩ := t.inv
    cases i with
    | zero => cases h; exact ⟨v, rfl, p⟩
    | succ i => exact den_at (ds := ds) (vs := r) (i := i) q h
theorem env_start {G : Gh} {H : Hp} {ds : List D} {vs : List V} {N : List Str} {ns : Nat} (hn : ns = N.length) (t : DenL K G ds vs) : EnvOk K H G H (L2.start N vs) (ds.map .va ++ List.replicate (ns - ds.length) .un) := by
  have hl := t.len
  refine ⟨fun _ => [], ⟨?_, fun _ => List.nodup_nil, fun i j a h => (List.not_mem_nil h).elim, fun i a h => (List.not_mem_nil h).elim, fun i s hs => ?_⟩⟩
  · unfold L2.start
    simp only [List.length_append, List.length_map, List.length_replicate]
    omega
  · by_cases hi : i < ds.length
    · rw [List.getElem?_append_left (by rw [List.length_map]; exact hi), List.getElem?_map, List.getElem?_eq_getElem hi] at hs
      cases hs
      obtain ⟨v, hv, dn⟩ := den_at t (List.getElem?_eq_getElem hi)
      refine ⟨rfl, v, ?_, dn⟩
      unfold L2.start
      rw [List.getElem?_append_left (by rw [List.length_map]; omega), List.getElem?_map, hv]
      rfl
    · rw [List.getElem?_append_right (by rw [List.length_map]; omega)] at hs
      obtain ⟨_, rfl⟩ := List.mem_replicate.mp (List.mem_of_getElem? hs)
      exact rfl
/-- all defs, to any depth -/
theorem fns_ok (M : Mod0 gt g T K mg) : ∀ (n i : Nat) (r : Str × Addr × FuncData × List Str), gt.fn[i]? = some r → FnOk P w K mg base (L2.CX P w) n r.2.1 r.2.2.1 r.2.2.2 (FSp gt K n i)
  | 0, i, r, hr => ⟨fun vs H Q E ⟨G, O, ds, _, _, z⟩ => z.elim, fun A outer s H args us vs Q E _ _ _ _ ⟨G, O, ds, _, _, z⟩ => z.elim⟩
  | n + 1, i, r, hr => by
    have hi : i < T.length := by rw [← M.len]; exact (List.getElem?_eq_some_iff.mp hr).1
    have hd : T[i]? = some T[i] := List.getElem?_eq_getElem hi
    obtain ⟨e1, e2, F, b, m⟩ := M.at' i T[i] r hd hr
    have ck := List.all_eq_true.mp M.chk T[i] (List.getElem_mem hi)
    generalize T[i] = d at hd e1 e2 F b m ck
    unfold chkD at ck
    simp only [Bool.and_eq_true, beq_iff_eq] at ck
    obtain ⟨⟨⟨c1, c2⟩, c3⟩, c4⟩ := ck
    have S := C8.fnScope_by c1
    have hc : gt.C[i]? = some d.code := by rw [M.C, List.getElem?_map, hd]; rfl
    rw [e2]
    obtain ⟨dvs, kws, F⟩ := F
    refine F.ok S (fun vs H Q E h => ?_) fun cdv A outer s H vs Q E hr h => ?_
    · obtain ⟨G, O, ds, _, t, z⟩ := h
      have : ds.length = d.code.np := by
        unfold run at z
        rw [hc] at z
        by_cases q : ds.length = d.code.np
        · exact q
        · simp only [if_neg q] at z
      rw [t.len, this, c2]
    · obtain ⟨G, O, ds, o, t, z⟩ := h
      unfold run at z
      rw [hc] at z
      have q : ds.length = d.code.np := by
        by_cases q : ds.length = d.code.np
        · exact q
        · simp only [if_neg q] at z
      simp only [if_pos q] at z
      have yk : YOk gt n g d.sc (cxOf (L2.CX P w) P w K mg base d.N d.x (defScope d.st) r.2.1 cdv A outer s H E) (fun cls dx _ H => E cls dx H) := by
        refine ⟨⟨S.kind, rfl, S.nd, rfl, fun x _ => .inl rfl, fun _ => ⟨rfl, hr⟩, ?_, M.mod (fns_ok M n) rfl rfl rfl rfl rfl, takes_of rfl rfl rfl rfl⟩, passes_of rfl⟩
        have := hr.un
        show (A.deeper (envOfC d.x (defScope d.st) s.heap.objs.size r.2.1 cdv)).units + 200 < cLine
        omega
      obtain ⟨tt, ps, ks⟩ := soSs d.code.body d.sc (defBody d.st) c4 _ _ yk
      refine ⟨tt, ps, ?_⟩
      have w0 : EnvOk K H G H (L2.start d.N vs) (ds.map .va ++ List.replicate (d.code.ns - d.code.np) .un) := by
        have := env_start (N := d.N) (H := H) c3 t
        rw [q] at this
        exact this
      refine ks G H G H O _ _ (Ext.refl G H) o w0 _ ?_
      cases q2 : exs (run gt.C n) d.code.body (ds.map .va ++ List.replicate (d.code.ns - d.code.np) .un) O with
      | nx env O' => rw [q2] at z; exact fun σ G' H' x o' _ => z .non G' H' [] x o' ⟨rfl, by unfold Den; rfl⟩ Fresh.nil
      | rt x O' => rw [q2] at z; exact fun v G' H' fp x o' rl fr => z v G' H' fp x o' rl fr
      | exc x env O' => rw [q2] at z; exact fun cls dx σ G' H' e o' _ xr => z cls dx G' H' e o' xr
      | bk env O' => rw [q2] at z; exact z.elim
      | ct env O' => rw [q2] at z; exact z.elim
      | stk => rw [q2] at z; exact z.elim
end
end Ev

namespace Ev
open PySem PySem.Spec PyProof.Rows L2
/-- what a law's def promises -/
def spL (K : PySem.W.Frag) : Sp := fun vs H Q _ => ∃ (a : Addr) (ns : List Int), vs = [.ref a] ∧ SqL K H a (ns.map V.int) ∧ ns.length ≤ 63 ∧ (∀ z ∈ ns, Builtin.Int.intBits z ≤ 1048576) ∧ ∀ H', Q (.bl true) H'
/-- the law in plain Lean -/
def Law (C : List Code) (n L : Nat) : Prop := ∀ ns : List Int, ns.length ≤ 63 → (∀ z ∈ ns, Builtin.Int.intBits z ≤ 1048576) → ∃ O', run C n L [.scr ns] [] = .ok (.fz (.bl true)) O'
section
variable {gt : Gt} {g : Glo} {T : List Def} {P : Program} {w : World} {K : PySem.W.Frag} {mg : Str → Option Value} {base : Heap}
theorem law_fn (M : Mod0 gt g T K mg) {n L : Nat} {r : Str × Addr × FuncData × List Str} (hr : gt.fn[L]? = some r) (law : Law (T.map Def.code) n L) : FnOk P w K mg base (L2.CX P w) n r.2.1 r.2.2.1 r.2.2.2 (spL K) :=
  (fns_ok M n L r hr).imp fun vs H Q E ⟨a, ns, e, hS, hl, hb, q⟩ => by
    subst e
    obtain ⟨O', h⟩ := law ns hl hb
    refine ⟨⟨H, []⟩, [], [.scr ns], ⟨Sub.refl _, rfl, fun i ds h => (by cases h), List.nodup_nil, fun a h => (List.not_mem_nil h).elim⟩, .cons (by unfold Den; exact ⟨a, rfl, hS⟩) .nil, ?_⟩
    rw [M.C, h]
    intro v G' H' fp _ _ rl _
    have : v = .bl true := by have := rl.2; unfold Den at this; exact this
    rw [this]
    exact q H'
/-- a def as it lies -/
abbrev Row := Str × Addr × FuncData × List Str
def RowOk (K : PySem.W.Frag) (mg : Str → Option Value) (d : Def) (r : Row) : Prop := r.1 = d.x ∧ r.2.2.2 = d.ps ∧ FD K d r.2.1 r.2.2.1 ∧ Binds K r.2.2.1 d.ps [] ∧ mg d.x = some (.ref r.2.1)
def RowsOk (K : PySem.W.Frag) (mg : Str → Option Value) : List Def → List Row → Prop
  | [], [] => True
  | d :: ds, r :: rs => RowOk K mg d r ∧ RowsOk K mg ds rs
  | _, _ => False
/-! the names of the top that hold a plain thing -/
mutual
def VD (K : PySem.W.Frag) : D → Value → Prop
  | .int i, u => ∃ t, u = .int i t
  | .str s, u => ∃ t, u = .str (sOf s) t
  | .bl b, u => u = .bool b
  | .non, u => u = .none
  | .tup ds, u => ∃ (a : Addr) (o : Obj) (its : List Value) (n : Nat), u = .ref a ∧ K.lookup a = some o ∧ o.cls = .type "tuple" ∧ o.data = .seq its.toArray n ∧ its.length ≤ sizeLine ∧ VDL K ds its
  | _, _ => False
def VDL (K : PySem.W.Frag) : List D → List Value → Prop
  | [], us => us = []
  | d :: ds, us => ∃ u r, us = u :: r ∧ VD K d u ∧ VDL K ds r
end
mutual
theorem VD.den {K : PySem.W.Frag} : ∀ (d : D) (u : Value), VD K d u → ∃ v, RelV v u ∧ Den K ⟨fun _ => none, []⟩ d v
  | .int i, u, h => by unfold VD at h; obtain ⟨t, rfl⟩ := h; exact ⟨.int i, ⟨t, rfl⟩, by unfold Den; rfl⟩
  | .str s, u, h => by unfold VD at h; obtain ⟨t, rfl⟩ := h; exact ⟨.str (sOf s), ⟨t, rfl⟩, by unfold Den; rfl⟩
  | .bl b, u, h => by unfold VD at h; subst h; exact ⟨.bl b, rfl, by unfold Den; rfl⟩
  | .non, u, h => by unfold VD at h; subst h; exact ⟨.non, rfl, by unfold Den; rfl⟩
  | .tup ds, u, h => by
    unfold VD at h
    obtain ⟨a, o, its, n, rfl, hk, hc, hd, hz, hl⟩ := h
    obtain ⟨vs, r, t⟩ := VDL.den ds its hl
    exact ⟨.ref a, rfl, by unfold Den; exact ⟨a, vs, rfl, .inr ⟨o, its.toArray, n, hk, hc, hd, by rw [List.size_toArray]; exact hz, by simpa using r⟩, t⟩⟩
  | .lst _, u, h => by unfold VD at h; exact h.elim
  | .obj _, u, h => by unfold VD at h; exact h.elim
  | .scr _, u, h => by unfold VD at h; exact h.elim
  | .dic _ _, u, h => by unfold VD at h; exact h.elim
  | .set _, u, h => by unfold VD at h; exact h.elim
  | .ins _ _, u, h => by unfold VD at h; exact h.elim
  | .deq _, u, h => by unfold VD at h; exact h.elim
theorem VDL.den {K : PySem.W.Frag} : ∀ (ds : List D) (us : List Value), VDL K ds us → ∃ vs, Vals vs us ∧ DenL K ⟨fun _ => none, []⟩ ds vs
  | [], us, h => by unfold VDL at h; subst h; exact ⟨[], .nil, .nil⟩
  | d :: ds, us, h => by
    unfold VDL at h
    obtain ⟨u, r, rfl, h1, h2⟩ := h
    obtain ⟨v, r1, d1⟩ := VD.den d u h1
    obtain ⟨vs, r2, d2⟩ := VDL.den ds r h2
    exact ⟨v :: vs, .cons r1 r2, .cons d1 d2⟩
end
theorem le_line {n : Nat} (h : n ≤ 1000) : n ≤ sizeLine := Nat.le_trans h (by decide)
def GlbOk (K : PySem.W.Frag) (mg : Str → Option Value) : List (Str × D) → Prop
  | [] => True
  | (x, d) :: r => (∃ u, mg x = some u ∧ VD K d u) ∧ GlbOk K mg r
theorem vd_int {K : PySem.W.Frag} {i : Int} {t : Tok} : VD K (.int i) (.int i t) := by unfold VD; exact ⟨t, rfl⟩
theorem vd_str {K : PySem.W.Frag} {s : Tx} {t : Tok} : VD K (.str s) (.str (sOf s) t) := by unfold VD; exact ⟨t, rfl⟩
theorem vd_bl {K : PySem.W.Frag} {b : Bool} : VD K (.bl b) (.bool b) := by unfold VD; rfl
theorem vd_non {K : PySem.W.Frag} : VD K .non .none := by unfold VD; rfl
theorem vd_tup {K : PySem.W.Frag} {ds : List D} {a : Addr} {od : Option Addr} {its : List Value} {n : Nat} {sl : Array (Option Value)} (h : K.lookup a = some ⟨.type "tuple", od, .seq its.toArray n, sl⟩) (hz : its.length ≤ sizeLine) (k : VDL K ds its) : VD K (.tup ds) (.ref a) := by
  unfold VD; exact ⟨a, _, its, n, rfl, h, rfl, rfl, hz, k⟩
theorem vdl_nil {K : PySem.W.Frag} : VDL K [] [] := by unfold VDL; rfl
theorem vdl_cons {K : PySem.W.Frag} {d : D} {ds : List D} {u : Value} {us : List Value} (h : VD K d u) (k : VDL K ds us) : VDL K (d :: ds) (u :: us) := by unfold VDL; exact ⟨u, us, rfl, h, k⟩
theorem rows_nil : RowsOk K mg [] [] := trivial
theorem rows_cons {d : Def} {r : Row} {ds : List Def} {rs : List Row} (h : RowOk K mg d r) (k : RowsOk K mg ds rs) : RowsOk K mg (d :: ds) (r :: rs) := ⟨h, k⟩
theorem glb_nil : GlbOk K mg [] := trivial
theorem glb_cons {x : Str} {d : D} {u : Value} {l : List (Str × D)} (h : mg x = some u) (hv : VD K d u) (k : GlbOk K mg l) : GlbOk K mg ((x, d) :: l) := ⟨⟨u, h, hv⟩, k⟩
theorem RowsOk.at : ∀ {ds : List Def} {rs : List Row}, RowsOk K mg ds rs → rs.length = ds.length ∧ ∀ (i : Nat) (d : Def) (r : Row), ds[i]? = some d → rs[i]? = some r → RowOk K mg d r
  | [], [], _ => ⟨rfl, fun i d r h => (by cases h)⟩
  | [], _ :: _, h => h.elim
  | _ :: _, [], h => h.elim
  | d :: ds, r :: rs, h => by
    obtain ⟨e, k⟩ := RowsOk.at h.2
    refine ⟨by rw [List.length_cons, List.length_cons, e], fun i d' r' h1 h2 => ?_⟩
    cases i with
    | zero => cases h1; cases h2; exact h.1
    | succ i => exact k i d' r' h1 h2
theorem GlbOk.at {mg : Str → Option Value} : ∀ {l : List (Str × D)}, GlbOk K mg l → ∀ p ∈ l, ∃ u v, mg p.1 = some u ∧ RelV v u ∧ Den K ⟨fun _ => none, []⟩ p.2 v
  | [], _, p, h => by cases h
  | (x, d) :: r, h, p, hp => by
    rcases List.mem_cons.mp hp with e | hp
    · subst e
      obtain ⟨⟨u, h1, h2⟩, _⟩ := h
      obtain ⟨v, r1, d1⟩ := VD.den d u h2
      exact ⟨u, v, h1, r1, d1⟩
    · exact GlbOk.at h.2 p hp
/-- the defaults of the text's defs -/
def DflOk (K : PySem.W.Frag) (rs : List Row) : List (Nat × List D) → Prop
  | [] => True
  | p :: r => (∀ r : Row, rs[p.1]? = some r → ∃ us vs, Binds K r.2.2.1 r.2.2.2 us ∧ Vals vs us ∧ DenL K ⟨fun _ => none, []⟩ p.2 vs) ∧ DflOk K rs r
theorem dfl_nil {rs : List Row} : DflOk K rs [] := trivial
theorem dfl_cons {rs : List Row} {i : Nat} {xs : List D} {r : Row} {l : List (Nat × List D)} {us : List Value} {vs : List V} (hr : rs[i]? = some r) (b : Binds K r.2.2.1 r.2.2.2 us) (v : Vals vs us) (d : DenL K ⟨fun _ => none, []⟩ xs vs) (k : DflOk K rs l) : DflOk K rs ((i, xs) :: l) :=
  ⟨fun r' hr' => by rw [hr] at hr'; cases hr'; exact ⟨us, vs, b, v, d⟩, k⟩
theorem DflOk.at {rs : List Row} : ∀ {l : List (Nat × List D)}, DflOk K rs l → ∀ p ∈ l, ∀ r : Row, rs[p.1]? = some r → ∃ us vs, Binds K r.2.2.1 r.2.2.2 us ∧ Vals vs us ∧ DenL K ⟨fun _ => none, []⟩ p.2 vs
  | [], _, p, h => by cases h
  | q :: l, h, p, hp => by
    rcases List.mem_cons.mp hp with e | hp
    · subst e; exact h.1
    · exact DflOk.at h.2 p hp
theorem mod_mk {T : List Def} {rs : List Row} (hr : RowsOk K mg T rs) (hb : ∀ x ∈ g.blt, mg x = none) (hg : GlbOk K mg g.glb) (hn : g.fn = T.map Def.x) (hc : T.all (chkD g) = true) (hd : DflOk K rs g.dfl) : Mod0 ⟨T.map Def.code, rs, []⟩ g T K mg :=
  ⟨rfl, hn, hr.at.1, hr.at.2, hb, hg.at, hc, hd.at⟩
theorem row_mk {d : Def} {f : Addr} {oc : Value} {od an : Option Addr} {osl : Array (Option Value)} {kV doc pm cdv ct : Value} (hm : mg d.x = some (.ref f)) (l : K.lookup f = some ⟨oc, od, .func (PySem.W.fnOf d.x d.x (defArgs d.st) (defBody d.st) (defScope d.st) .none kV doc pm an cdv ct), osl⟩)
    (c : PySem.W.codeIn K cdv d.x = true) (k : PySem.W.keepIn K (.ref f) = true)
    (hb : ∀ (kV doc pm : Value) (an : Option Addr) (cdv ct : Value) (us : List Value), us.length = d.ps.length → bindArgs (PySem.W.fnOf d.x d.x (defArgs d.st) (defBody d.st) (defScope d.st) .none kV doc pm an cdv ct) ⟨us, []⟩ = pure (d.ps.zip us)) :
    RowOk K mg d (d.x, f, PySem.W.fnOf d.x d.x (defArgs d.st) (defBody d.st) (defScope d.st) .none kV doc pm an cdv ct, d.ps) :=
  ⟨rfl, rfl, ⟨[], [], ⟨⟨oc, od, .none, kV, doc, pm, an, cdv, ct, osl, rfl, l, c, .inl ⟨rfl, rfl⟩, .inl rfl⟩, k⟩⟩, .all (hb kV doc pm an cdv ct), hm⟩
/-- a def with defaults -/
theorem funD_mk {d : Def} {f T : Addr} {oc : Value} {od an td : Option Addr} {osl tsl : Array (Option Value)} {kV doc pm cdv ct : Value} {its : List Value} {n : Nat} {tc : Value} {dvs : List V} (l : K.lookup f = some ⟨oc, od, .func (PySem.W.fnOf d.x d.x (defArgs d.st) (defBody d.st) (defScope d.st) (.ref T) kV doc pm an cdv ct), osl⟩)
    (c : PySem.W.codeIn K cdv d.x = true) (k : PySem.W.keepIn K (.ref f) = true) (lT : K.lookup T = some ⟨tc, td, .seq its.toArray n, tsl⟩) (hv : Vals dvs its) (hn : dvs ≠ []) :
    FunD K d.x d.x (defArgs d.st) (defBody d.st) (defScope d.st) dvs [] f (PySem.W.fnOf d.x d.x (defArgs d.st) (defBody d.st) (defScope d.st) (.ref T) kV doc pm an cdv ct) :=
  ⟨⟨oc, od, .ref T, kV, doc, pm, an, cdv, ct, osl, rfl, l, c, .inr ⟨hn, T, _, its, n, rfl, lT, rfl, hv⟩, .inl rfl⟩, k⟩
theorem row_mkD {d : Def} {f : Addr} {fd : FuncData} {dvs : List V} (hm : mg d.x = some (.ref f)) (F : FunD K d.x d.x (defArgs d.st) (defBody d.st) (defScope d.st) dvs [] f fd) (hn : dvs ≠ [])
    (hb : ∀ (T : Addr) (kV doc pm : Value) (an : Option Addr) (cdv ct : Value) (us its : List Value), us.length = d.ps.length → its.length = dvs.length →
      ∃ k, bindArgs (PySem.W.fnOf d.x d.x (defArgs d.st) (defBody d.st) (defScope d.st) (.ref T) kV doc pm an cdv ct) ⟨us, []⟩ = seqItems? (.ref T) >>= k ∧ k (some its.toArray) = pure (d.ps.zip (us ++ its.drop dvs.length))) : RowOk K mg d (d.x, f, fd, d.ps) := by
  obtain ⟨ds, hv, b⟩ := F.binds1 d.ps.length dvs.length hn (by omega) hb
  rw [List.drop_length] at hv
  cases hv
  exact ⟨rfl, rfl, ⟨dvs, [], F⟩, b, hm⟩
theorem nox {P : Program} {w : World} (H : Hp) (s : Shared) (e : Value) (s' : Shared) (h : L2.CX P w [] H s (fun _ _ _ => False) e s') : False := by
  obtain ⟨_, _, _, _, _, _, _, _, _, _, _, _, z⟩ := h
  exact z
end
end Ev

namespace Ev
open PySem L2
/-! ### a law's own drawing: the codes, by the numbers of the defs they call -/
def cCell : Code := ⟨2, 2, (.cons (.ife (.cmp .Lt (.var 1) (.bi .len (.var 0))) (.cons (.ret (.idx (.var 0) (.var 1))) .nil) .nil) (.cons (.ret (.con (.int 0))) .nil))⟩
def cDraw : Code := ⟨3, 4, (.cons (.set 3 false (.tup (.cons (.con (.int 1000003)) (.cons (.con (.int 1000033)) (.cons (.con (.int 1000037)) (.cons (.con (.int 1000039)) (.cons (.con (.int 1000081)) (.cons (.con (.int 1000099)) (.cons (.con (.int 1000117)) (.cons (.con (.int 1000121)) (.cons (.con (.int 1000133)) (.cons (.con (.int 1000151)) (.cons (.con (.int 1000159)) (.cons (.con (.int 1000171)) (.cons (.con (.int 1000183)) (.cons (.con (.int 1000187)) (.cons (.con (.int 1000193)) (.cons (.con (.int 1000199)) .nil)))))))))))))))))) (.cons (.ret (.bin .Mod (.bin .Mod (.bi .int (.bin .Add (.bin .Mult (.var 0) (.con (.int 48271))) (.bin .Mult (.var 1) (.con (.int 69621))))) (.idx (.var 3) (.bin .Mod (.bi .int (.var 1)) (.con (.int 16))))) (.var 2))) .nil))⟩
def cNumber (iDraw : Nat) : Code := ⟨3, 7, (.cons (.set 3 false (.con (.int 1))) (.cons (.for (.nm 4) (.rng1 (.bin .Mod (.bi .int (.var 1)) (.con (.int 24)))) (.cons (.set 3 false (.bin .Mult (.var 3) (.con (.int 1009)))) .nil)) (.cons (.set 5 false (.bin .FloorDiv (.bin .Sub (.var 0) (.bin .Pow (.con (.int 10)) (.con (.int 18)))) (.var 3))) (.cons (.ife (.cmp .Gt (.var 5) (.con (.int 0))) (.cons (.ret (.bin .Mod (.bin .Mod (.bi .int (.var 5)) (.con (.int 1009))) (.var 2))) .nil) .nil) (.cons (.set 6 false (.bin .Mod (.bi .int (.var 0)) (.con (.int 1000003)))) (.cons (.ret (.bin .Mod (.call iDraw (.cons (.bin .Mult (.bin .Add (.var 6) (.bin .Mult (.con (.int 977)) (.var 1))) (.bin .Add (.bin .Add (.var 6) (.bin .Mult (.con (.int 31)) (.var 1))) (.con (.int 5)))) (.cons (.bin .Add (.bin .Mod (.bi .int (.var 1)) (.con (.int 9))) (.con (.int 1))) (.cons (.con (.int 999983)) .nil)))) (.var 2))) .nil))))))⟩
def cNext (iCell iNumber : Nat) : Code := ⟨2, 4, (.cons (.seti 0 (.con (.int 2)) (.bin .Add (.idx (.var 0) (.con (.int 2))) (.con (.int 1)))) (.cons (.set 2 false (.bin .FloorDiv (.idx (.var 0) (.con (.int 2))) (.con (.int 12)))) (.cons (.set 3 false (.bin .Add (.call iCell (.cons (.idx (.var 0) (.con (.int 0))) (.cons (.bin .Add (.idx (.var 0) (.con (.int 1))) (.var 2)) .nil))) (.bin .Mult (.con (.int 31)) (.var 2)))) (.cons (.ret (.call iNumber (.cons (.var 3) (.cons (.bin .Add (.bin .Mod (.bi .int (.idx (.var 0) (.con (.int 2)))) (.con (.int 12))) (.con (.int 1))) (.cons (.var 1) .nil))))) .nil))))⟩
def cPick (iNext : Nat) : Code := ⟨2, 2, (.cons (.ret (.idx (.var 1) (.call iNext (.cons (.var 0) (.cons (.bi .len (.var 1)) .nil))))) .nil)⟩
/-! ### the code's equations -/
section
variable (call : Nat → List D → Sto → R XD) (env : List Sl) (O : Sto)
noncomputable def lcS (m : Nat) (t : T) (c : Es) (e : E) (env : List Sl) (ds : List D) (O : Sto) : R (List D) := lcM (fun d O2 => (R.ofO (asg t d (wipeE env t.own)) O2).bind fun env' O2 => (evC call c env' O2).bind fun b O3 => if b = true then (ev call e env' O3).bind fun x O4 => .ofO ((x.kid m).map some) O4 else .ok none O3) ds [] O
noncomputable def forS (t : T) (b : Ss) (ds : List D) (env : List Sl) (O : Sto) : Fl := forM (fun d env' O2 => Fl.opt (asg t d env') fun e2 => exs call b e2 O2) ds env O
noncomputable def whlS (c : E) (b : Ss) (env : List Sl) (O : Sto) : Fl := whF (evT call c) (fun env' O' => exs call b env' O') env O
theorem evq_var (i : Nat) : ev call (.var i) env O = .ofO (look env i) O := by simp only [ev]
theorem evq_con (d : D) : ev call (.con d) env O = .ok (.fz d) O := by simp only [ev]
theorem evq_glb (y : Str) (d : D) : ev call (.glb y d) env O = .ok (.fz d) O := by simp only [ev]
theorem evq_bin (op : Operator) (a : E) (b : E) : ev call (.bin op a b) env O = (ev call a env O).bind fun x O1 => (ev call b env O1).bind fun y O2 => .ofO (x.rdd.bind fun d => y.rdd.bind fun e => binD op d e) O2 := by simp only [ev]
theorem evq_neg (a : E) : ev call (.neg a) env O = (ev call a env O).bind fun x O1 => .ofO (negX x) O1 := by simp only [ev]
theorem evq_cmp (op : CmpOp) (a : E) (b : E) : ev call (.cmp op a b) env O = (ev call a env O).bind fun x O1 => (ev call b env O1).bind fun y O2 => .ofO (x.rdd.bind fun d => y.rdd.bind fun e => (cmpD op d e).map fun b => .fz (.bl b)) O2 := by simp only [ev]
theorem evq_isn (neg : Bool) (a : E) : ev call (.isn neg a) env O = (ev call a env O).bind fun x O1 => .ok (.fz (.bl (isnX neg x))) O1 := by simp only [ev]
theorem evq_chn (o : CmpOp) (p : CmpOp) (a : E) (b : E) (c : E) : ev call (.chn o p a b c) env O = (ev call a env O).bind fun x O1 => (ev call b env O1).bind fun y O2 =>
      (R.ofO (x.rdd.bind fun d => y.rdd.bind fun e => cmpD o d e) O2).bind fun t O2 =>
        if t = true then (ev call c env O2).bind fun z O3 => .ofO (y.rdd.bind fun d => z.rdd.bind fun e => (cmpD p d e).map fun b => .fz (.bl b)) O3 else .ok (.fz (.bl false)) O2 := by simp only [ev]
theorem evq_and (es : Es) : ev call (.and es) env O = evA call es env O := by simp only [ev]
theorem evq_or (es : Es) : ev call (.or es) env O = evO call es env O := by simp only [ev]
theorem evq_not (a : E) : ev call (.not a) env O = (ev call a env O).bind fun x O1 => .ofO (x.bl.map fun b => .fz (.bl (!b))) O1 := by simp only [ev]
theorem evq_ite (c : E) (a : E) (b : E) : ev call (.ite c a b) env O = ((ev call c env O).bind fun x O1 => .ofO x.bl O1).bind fun t O1 => if t = true then ev call a env O1 else ev call b env O1 := by simp only [ev]
theorem evq_tup (es : Es) : ev call (.tup es) env O = (evs call es env O).bind fun xs O1 => .ofO ((fzL xs).bind fun ds => if ds.length ≤ sizeLine then some (.fz (.tup ds)) else none) O1 := by simp only [ev]
theorem evq_lst (n : Nat) (es : Es) : ev call (.lst n es) env O = (evs call es env O).bind fun xs O1 => .ofO ((kidL n xs).bind fun ds => if ds.length ≤ sizeLine then some (.ow (n + 1) (.lst ds)) else none) O1 := by simp only [ev]
theorem evq_cell (es : Es) : ev call (.cell es) env O = (evs call es env O).bind fun xs O1 => (R.ofO ((fzL xs).bind fun ds => if ds.length ≤ sizeLine then some ds else none) O1).bind fun ds O1 => .ok (.fz (.obj O1.length)) (O1 ++ [.cell ds]) := by simp only [ev]
theorem evq_idx (a : E) (i : E) : ev call (.idx a i) env O = (ev call a env O).bind fun x O1 => (ev call i env O1).bind fun y O2 => .ofO (x.rdd.bind fun d => y.rdd.bind fun e => (idxD d e O2).map .fz) O2 := by simp only [ev]
theorem evq_slc (a : E) (lo : Es) (hi : Es) : ev call (.slc a lo hi) env O = (ev call a env O).bind fun x O1 => (evB call lo env O1).bind fun l O2 => (evB call hi env O2).bind fun h O3 => .ofO (x.rdd.bind fun d => slcD d l h) O3 := by simp only [ev]
theorem evq_rev (a : E) : ev call (.rev a) env O = (ev call a env O).bind fun x O1 => .ofO (x.rdd.bind revD) O1 := by simp only [ev]
theorem evq_call (f : Nat) (es : Es) : ev call (.call f es) env O = (evs call es env O).bind fun xs O1 => (R.ofO (fzL xs) O1).bind fun ds O1 => call f ds O1 := by simp only [ev]
theorem evq_callD (f : Nat) (es : Es) (ds : List D) : ev call (.callD f es ds) env O = (evs call es env O).bind fun ys O1 => (R.ofO (fzL ys) O1).bind fun xs O1 => call f (xs ++ ds) O1 := by simp only [ev]
theorem evq_tups (xs : Xs) : ev call (.tups xs) env O = (evX call xs env O).bind fun xs O1 => .ofO ((fzL xs).bind fun ds => if ds.length ≤ sizeLine then some (.fz (.tup ds)) else none) O1 := by simp only [ev]
theorem evq_lsts (xs : Xs) : ev call (.lsts xs) env O = (evX call xs env O).bind fun xs O1 => .ofO ((kidL 0 xs).bind fun ds => if ds.length ≤ sizeLine then some (.ow 1 (.lst ds)) else none) O1 := by simp only [ev]
theorem exq_mat (e : E) (cs : Cs) : ex call (.mat e cs) env O = (ev call e env O).fl env fun x O1 => Fl.opt (strX x) fun s => exC call cs s env O1 := by simp only [ex]
theorem evq_bi (b : Bi) (a : E) : ev call (.bi b a) env O = (ev call a env O).bind fun x O1 => .ofO (x.rdd.bind fun d => bi1 b d) O1 := by simp only [ev]
theorem evq_sset (a : E) : ev call (.sset a) env O = (ev call a env O).bind fun x O1 => .ofO (x.rdd.bind ssetD) O1 := by simp only [ev]
theorem evq_isi (a : E) (ty : String) : ev call (.isi a ty) env O = (ev call a env O).bind fun x O1 => .ofO (x.rdd.bind fun d => (isiD d ty).map fun b => .fz (.bl b)) O1 := by simp only [ev]
theorem evq_met (m : Mt) (a : E) (b : E) : ev call (.met m a b) env O = ((ev call a env O).bind fun x O1 => .ofO (strX x) O1).bind fun s O1 => (ev call b env O1).bind fun y O2 => .ofO (y.rdd.bind fun e => metD m s e) O2 := by simp only [ev]
theorem evq_lrg (tu : Bool) (a : E) (b : E) : ev call (.lrg tu a b) env O = (ev call a env O).bind fun x O1 => (ev call b env O1).bind fun y O2 => .ofO (x.rdd.bind fun d => y.rdd.bind fun e => lrgD tu d e) O2 := by simp only [ev]
noncomputable def lc2S (m : Nat) (t : T) (c : Es) (t1 : T) (i1 : I) (c1 : Es) (e : E) (env : List Sl) (ds : List D) (O : Sto) : R (List D) := lc2M (fun d acc O2 => (R.ofO (asg t d (wipeE env (t.own ++ t1.own))) O2).bind fun env1 O2 => (evC call c env1 O2).bind fun b O3 => if b = true then (evI call i1 env1 O3).bind fun ds1 O4 => lcM (fun d O2 => (R.ofO (asg t1 d (wipeE env1 t1.own)) O2).bind fun env' O2 => (evC call c1 env' O2).bind fun b O3 => if b = true then (ev call e env' O3).bind fun x O4 => .ofO ((x.kid m).map some) O4 else .ok none O3) ds1 acc O4 else .ok acc O3) ds [] O
theorem evq_lrg1 (tu : Bool) (a : E) : ev call (.lrg1 tu a) env O = (ev call a env O).bind fun x O1 => .ofO (x.rdd.bind fun d => lrgD tu (.int 0) d) O1 := by simp only [ev]
theorem evq_lc2 (n : Nat) (t : T) (i : I) (c : Es) (t1 : T) (i1 : I) (c1 : Es) (e : E) : ev call (.lc2 n t i c t1 i1 c1 e) env O = (evI call i env O).bind fun ds O1 => (lc2S call n t c t1 i1 c1 e env ds O1).nox.bind fun ds' O2 => .ok (.ow (n + 1) (.lst ds')) O2 := by simp only [ev, lc2S]
theorem evq_ssc (t : T) (i : I) (c : Es) (t1 : T) (i1 : I) (c1 : Es) (e : E) : ev call (.ssc t i c t1 i1 c1 e) env O = (evI call i env O).bind fun ds O1 => (lc2S call 0 t c t1 i1 c1 e env ds O1).nox.bind fun ds' O2 => .ofO (ssetD (.lst ds')) O2 := by simp only [ev, lc2S]
theorem evq_lc (n : Nat) (t : T) (i : I) (c : Es) (e : E) : ev call (.lc n t i c e) env O = (evI call i env O).bind fun ds O1 => (lcS call n t c e env ds O1).nox.bind fun ds' O2 => .ok (.ow (n + 1) (.lst ds')) O2 := by simp only [ev, lcS]
theorem exq_set (i : Nat) (own : Bool) (e : E) : ex call (.set i own e) env O = (ev call e env O).fl env fun x O1 => Fl.opt ((x.slot own).bind fun s => setE env i s) fun env' => .nx env' O1 := by simp only [ex]
theorem exq_par (js : List (Nat × Bool)) (es : Es) : ex call (.par js es) env O = (evs call es env O).fl env fun xs O1 => Fl.opt (parE js xs env) fun env' => .nx env' O1 := by simp only [ex]
theorem exq_unp (t : T) (e : E) : ex call (.unp t e) env O = (ev call e env O).fl env fun x O1 => Fl.opt (x.fzd.bind fun d => asg t d env) fun env' => .nx env' O1 := by simp only [ex]
theorem exq_aug (i : Nat) (op : Operator) (e : E) : ex call (.aug i op e) env O = Fl.opt (vaE env i) fun d => (ev call e env O).fl env fun y O1 => Fl.opt (y.rdd.bind fun e => augD op d e) fun z => .nx (env.set i (.va z)) O1 := by simp only [ex]
theorem exq_seti (i : Nat) (k : E) (e : E) : ex call (.seti i k e) env O = (ev call e env O).fl env fun x O1 => Fl.opt (env[i]?.bind slV) fun s => (ev call k env O1).fl env fun y O2 => Fl.opt (x.fzd.bind fun d => (fzX y).bind fun k => setiD s k d O2) fun r => .nx (env.set i r.1) r.2 := by simp only [ex]
theorem exq_app (i : Nat) (e : E) : ex call (.app i e) env O = Fl.opt (env[i]?.bind ownS) fun s => (ev call e env O).fl env fun x O1 => Fl.opt (appD s x) fun s' => .nx (env.set i s') O1 := by simp only [ex]
theorem exq_ext (i : Nat) (e : E) : ex call (.ext i e) env O = Fl.opt (env[i]?.bind ownS) fun s => (ev call e env O).fl env fun x O1 => Fl.opt (extD s x) fun s' => .nx (env.set i s') O1 := by simp only [ex]
theorem exq_drop (e : E) : ex call (.drop e) env O = (ev call e env O).fl env fun _ O1 => .nx env O1 := by simp only [ex]
theorem exq_ret (e : E) : ex call (.ret e) env O = (ev call e env O).fl env fun x O1 => Fl.opt (retX x) fun y => .rt y O1 := by simp only [ex]
theorem exq_retv (i : Nat) : ex call (.retv i) env O = Fl.opt (env[i]?.bind slX) fun y => .rt y O := by simp only [ex]
theorem exq_retN  : ex call (.retN ) env O = .rt (.fz .non) O := by simp only [ex]
theorem exq_ife (c : E) (a : Ss) (b : Ss) : ex call (.ife c a b) env O = (evT call c env O).fl env fun t O1 => if t = true then exs call a env O1 else exs call b env O1 := by simp only [ex]
theorem exq_for (t : T) (i : I) (b : Ss) : ex call (.for t i b) env O = (evI call i env O).fl env fun ds O1 => forS call t b ds env O1 := by simp only [ex, forS]
theorem exq_whl (c : E) (b : Ss) : ex call (.whl c b) env O = whlS call c b env O := by simp only [ex, whlS]
theorem exq_brk  : ex call (.brk ) env O = .bk env O := by simp only [ex]
theorem exq_cnt  : ex call (.cnt ) env O = .ct env O := by simp only [ex]
theorem exq_pas  : ex call (.pas ) env O = .nx env O := by simp only [ex]
theorem exq_nev  : ex call (.nev ) env O = .stk := by simp only [ex]
theorem exq_frz (i : Nat) : ex call (.frz i) env O = Fl.opt env[i]? fun s => .nx (env.set i (frzD s)) O := by simp only [ex]
end
theorem asg_nm (i : Nat) (d : D) (env : List Sl) : asg (.nm i) d env = if i < env.length then some (env.set i (.va d)) else none := by unfold asg; rfl
theorem asg_tp (ts : Ts) (ds : List D) (env : List Sl) : asg (.tp ts) (.tup ds) env = asgs ts ds env := by conv => lhs; unfold asg
theorem asgs_nil (env : List Sl) : asgs .nil [] env = some env := by unfold asgs; rfl
theorem asgs_cons (t : T) (ts : Ts) (d : D) (ds : List D) (env : List Sl) : asgs (.cons t ts) (d :: ds) env = (asg t d env).bind fun env' => asgs ts ds env' := by conv => lhs; unfold asgs
/-! ### the evaluator's equations -/
section
variable {n : Nat} {d e : D} {i j : Int} {b : Bool} {x : XD} {O : Sto} {env : List Sl}
@[simp] theorem rdd_fz : XD.rdd (.fz d) = some d := rfl
@[simp] theorem rdd_ow1 : XD.rdd (.ow 1 d) = some d := rfl
@[simp] theorem rdd_br1 : XD.rdd (.br 1 d) = some d := rfl
@[simp] theorem fzd_fz : XD.fzd (.fz d) = some d := rfl
@[simp] theorem fzd_ow : XD.fzd (.ow n d) = some d := rfl
@[simp] theorem fzd_br : XD.fzd (.br n d) = none := rfl
@[simp] theorem any_fz : XD.any (.fz d) = d := rfl
@[simp] theorem any_ow : XD.any (.ow n d) = d := rfl
@[simp] theorem any_br : XD.any (.br n d) = d := rfl
@[simp] theorem bl_fz : XD.bl (.fz (.bl b)) = some b := rfl
@[simp] theorem kid_0 : XD.kid 0 x = x.fzd := rfl
@[simp] theorem kid_ow {m : Nat} : XD.kid (m + 1) (.ow (m + 1) d) = some d := by simp [XD.kid]
@[simp] theorem kidL_0 : ∀ xs : List XD, kidL 0 xs = fzL xs
  | [] => rfl
  | x :: xs => by unfold kidL fzL; rw [kidL_0 xs]; rfl
@[simp] theorem slot_fz : XD.slot false (.fz d) = some (.va d) := rfl
@[simp] theorem slot_ow : XD.slot false (.ow n d) = some (.va d) := rfl
@[simp] theorem slot_tow : XD.slot true (.ow n d) = some (.ow n d) := rfl
@[simp] theorem slot_tfz : XD.slot true (.fz d) = some (.va d) := rfl
@[simp] theorem retX_fz : retX (.fz d) = some (.fz d) := rfl
@[simp] theorem retX_ow : retX (.ow n d) = some (.ow n d) := rfl
@[simp] theorem out_nx : Fl.out (.nx env O) = .ok (.fz .non) O := rfl
@[simp] theorem out_rt : Fl.out (.rt x O) = .ok x O := rfl
@[simp] theorem intX_int : intX (.fz (.int i)) = some (some i) := rfl
@[simp] theorem strX_str {s : Tx} : strX (.fz (.str s)) = some s := rfl
@[simp] theorem negX_int : negX (.fz (.int i)) = some (.fz (.int (-i))) := rfl
@[simp] theorem slV_va : slV (.va d) = some (.va d) := rfl
@[simp] theorem slV_ow : slV (.ow n d) = some (.ow n d) := rfl
@[simp] theorem ownS_ow {ds : List D} : ownS (.ow (n + 1) (.lst ds)) = some (.ow (n + 1) (.lst ds)) := rfl
@[simp] theorem ownS_ow1 {ds : List D} : ownS (.ow 1 (.lst ds)) = some (.ow 1 (.lst ds)) := rfl
@[simp] theorem slX_va : slX (.va d) = some (.fz d) := rfl
@[simp] theorem slX_ow : slX (.ow n d) = some (.ow n d) := rfl
@[simp] theorem frzD_va : frzD (.va d) = .va d := rfl
@[simp] theorem frzD_ow : frzD (.ow n d) = .va d := rfl
@[simp] theorem fzX_fz : fzX (.fz d) = some d := rfl
@[simp] theorem bin_add : binD .Add (.int i) (.int j) = some (.fz (.int (i + j))) := rfl
@[simp] theorem bin_sub : binD .Sub (.int i) (.int j) = some (.fz (.int (i - j))) := rfl
@[simp] theorem bin_and : binD .BitAnd (.int i) (.int j) = some (.fz (.int (Builtin.bitAnd i j))) := rfl
theorem bin_mulR (h1 : -18446744073709551616 < j) (h2 : j < 18446744073709551616) : binD .Mult (.int i) (.int j) = some (.fz (.int (i * j))) := by
  simp only [binD]
  rw [if_pos (.inl (.inr ⟨h1, h2⟩))]
theorem bin_mulL (h1 : -18446744073709551616 < i) (h2 : i < 18446744073709551616) : binD .Mult (.int i) (.int j) = some (.fz (.int (i * j))) := by
  simp only [binD]
  rw [if_pos (.inl (.inl ⟨h1, h2⟩))]
theorem bin_div (h1 : 0 < j) (h2 : j < 1073741824) : binD .FloorDiv (.int i) (.int j) = some (.fz (.int (i / j))) := by
  simp only [binD]
  rw [if_pos (.inl ⟨h1, h2⟩)]
theorem bin_mod (h : 0 < j) : binD .Mod (.int i) (.int j) = some (.fz (.int (i % j))) := by
  show (if 0 < j then some (XD.fz (.int (i % j))) else none) = _
  rw [if_pos h]
theorem bin_str {s t : Tx} (h : s.length + t.length ≤ sizeLine) : binD .Add (.str s) (.str t) = some (.fz (.str (s ++ t))) := by
  show (if s.length + t.length ≤ sizeLine then some (XD.fz (.str (s ++ t))) else none) = _
  rw [if_pos h]
theorem bin_lst {s t : List D} (h : s.length + t.length ≤ sizeLine) : binD .Add (.lst s) (.lst t) = some (.ow 1 (.lst (s ++ t))) := by
  show (if s.length + t.length ≤ sizeLine then some (XD.ow 1 (.lst (s ++ t))) else none) = _
  rw [if_pos h]
theorem bin_tup {s t : List D} (h : s.length + t.length ≤ sizeLine) : binD .Add (.tup s) (.tup t) = some (.fz (.tup (s ++ t))) := by
  show (if s.length + t.length ≤ sizeLine then some (XD.fz (.tup (s ++ t))) else none) = _
  rw [if_pos h]
@[simp] theorem cmp_lt : cmpD .Lt (.int i) (.int j) = some (decide (i < j)) := rfl
@[simp] theorem cmp_le : cmpD .LtE (.int i) (.int j) = some (decide (i ≤ j)) := rfl
@[simp] theorem cmp_gt : cmpD .Gt (.int i) (.int j) = some (decide (j < i)) := rfl
@[simp] theorem cmp_ge : cmpD .GtE (.int i) (.int j) = some (decide (j ≤ i)) := rfl
@[simp] theorem cmp_eq : cmpD .Eq d e = eqD d e := rfl
@[simp] theorem cmp_ne : cmpD .NotEq d e = (eqD d e).map (!·) := rfl
@[simp] theorem cmp_in : cmpD .In d e = inD d e := rfl
@[simp] theorem cmp_notin : cmpD .NotIn d e = (inD d e).map (!·) := rfl
theorem eqD_flat (h : flat2 d e = true) : eqD d e = some (eqv d e) := by unfold eqD; rw [if_pos (.inl h)]
theorem eqD_ok (h1 : okD 64 d) (h2 : okD 64 e) : eqD d e = some (eqv d e) := by unfold eqD; rw [if_pos (.inr ⟨h1, h2⟩)]
@[simp] theorem eq_ii : eqD (.int i) (.int j) = some (i == j) := by rw [eqD_flat rfl]; simp [eqv]
@[simp] theorem eq_bb {c : Bool} : eqD (.bl b) (.bl c) = some (b == c) := by rw [eqD_flat rfl]; simp [eqv]
@[simp] theorem eq_ss {s t : Tx} : eqD (.str s) (.str t) = some (s == t) := by rw [eqD_flat rfl]; simp [eqv]
@[simp] theorem eq_nn : eqD .non .non = some true := by rw [eqD_flat rfl]; simp [eqv]
@[simp] theorem eq_ni : eqD .non (.int i) = some false := by rw [eqD_flat rfl]; simp [eqv]
@[simp] theorem eq_in : eqD (.int i) .non = some false := by rw [eqD_flat rfl]; simp [eqv]
@[simp] theorem eq_sn {s : Tx} : eqD (.str s) .non = some false := by rw [eqD_flat rfl]; simp [eqv]
@[simp] theorem eq_is {s : Tx} : eqD (.int i) (.str s) = some false := by rw [eqD_flat rfl]; simp [eqv]
@[simp] theorem eq_si {s : Tx} : eqD (.str s) (.int i) = some false := by rw [eqD_flat rfl]; simp [eqv]
@[simp] theorem idx_lst {ds : List D} : idxD (.lst ds) (.int i) O = atI ds i := rfl
@[simp] theorem idx_tup {ds : List D} : idxD (.tup ds) (.int i) O = atI ds i := rfl
theorem idx_str {s : Tx} (h : s.length ≤ sizeLine) : idxD (.str s) (.int i) O = (atI s i).map fun c => .str [c] := by
  show (if s.length ≤ sizeLine then (atI s i).map fun c => D.str [c] else none) = _
  rw [if_pos h]
theorem idx_obj {k : Nat} {ds : List D} (h : O[k]? = some (.cell ds)) : idxD (.obj k) (.int i) O = atI ds i := by
  show (match O[k]? with
    | some (.cell ds) => atI ds i
    | none => none) = _
  rw [h]
theorem at_pos {α : Type} {xs : List α} {k : Int} (h : 0 ≤ k) : atI xs k = xs[k.toNat]? := by
  unfold atI ixN
  rw [if_pos h]
  by_cases hl : k < xs.length
  · rw [if_pos hl]; rfl
  · rw [if_neg hl]
    show none = _
    rw [List.getElem?_eq_none (by omega)]
@[simp] theorem at_nat {α : Type} {xs : List α} {k : Nat} : atI xs (k : Int) = xs[k]? := by rw [at_pos (by omega)]; rfl
@[simp] theorem at_0 {α : Type} {xs : List α} : atI xs 0 = xs[0]? := at_pos (by decide)
@[simp] theorem at_1 {α : Type} {xs : List α} : atI xs 1 = xs[1]? := at_pos (by decide)
@[simp] theorem at_2 {α : Type} {xs : List α} : atI xs 2 = xs[2]? := at_pos (by decide)
@[simp] theorem at_3 {α : Type} {xs : List α} : atI xs 3 = xs[3]? := at_pos (by decide)
@[simp] theorem at_m1 {α : Type} {xs : List α} : atI xs (-1) = xs.getLast? := by
  unfold atI ixN
  rw [if_neg (by decide)]
  by_cases hl : -(xs.length : Int) ≤ -1
  · rw [if_pos hl]
    show xs[(-1 + (xs.length : Int)).toNat]? = _
    rw [List.getLast?_eq_getElem?]
    congr 1
    omega
  · rw [if_neg hl]
    have : xs = [] := List.length_eq_zero_iff.mp (by omega)
    subst this
    rfl
@[simp] theorem bi_int : bi1 .int (.int i) = some (.fz (.int i)) := rfl
@[simp] theorem bi_intb : bi1 .int (.bl b) = some (.fz (.int (if b then 1 else 0))) := rfl
@[simp] theorem bi_lenl {ds : List D} : bi1 .len (.lst ds) = some (.fz (.int ds.length)) := rfl
@[simp] theorem bi_lent {ds : List D} : bi1 .len (.tup ds) = some (.fz (.int ds.length)) := rfl
@[simp] theorem bi_lenr {ns : List Int} : bi1 .len (.scr ns) = some (.fz (.int ns.length)) := rfl
theorem bi_lens {s : Tx} (h : s.length ≤ sizeLine) : bi1 .len (.str s) = some (.fz (.int s.length)) := by
  show (if s.length ≤ sizeLine then some (XD.fz (.int s.length)) else none) = _
  rw [if_pos h]
@[simp] theorem bi_ordc {c : Nat} : bi1 .ord (.str [c]) = some (.fz (.int c)) := rfl
@[simp] theorem isn_non : isnX b (.fz .non) = !b := rfl
@[simp] theorem isn_int : isnX b (.fz (.int i)) = b := rfl
@[simp] theorem isn_bl {c : Bool} : isnX b (.fz (.bl c)) = b := rfl
@[simp] theorem isn_str {s : Tx} : isnX b (.fz (.str s)) = b := rfl
@[simp] theorem isn_tup {ds : List D} : isnX b (.fz (.tup ds)) = b := rfl
@[simp] theorem isn_lst {ds : List D} : isnX b (.fz (.lst ds)) = b := rfl
theorem seti_obj {k : Nat} {ds : List D} {l : Int} (h : O[k]? = some (.cell ds)) (h0 : 0 ≤ l) (h1 : l < ds.length) : setiD (.va (.obj k)) (.int l) d O = some (.va (.obj k), O.set k (.cell (ds.set l.toNat d))) := by
  show (match O[k]? with
    | some (.cell ds) => (ixN ds.length l).map fun m => (Sl.va (.obj k), O.set k (.cell (ds.set m d)))
    | none => none) = _
  rw [h]
  have : ixN ds.length l = some l.toNat := by unfold ixN; rw [if_pos h0, if_pos h1]
  simp only [this, Option.map_some]
@[simp] theorem itD_lst {ds : List D} : itD (.lst ds) = some ds := rfl
@[simp] theorem itD_tup {ds : List D} : itD (.tup ds) = some ds := rfl
@[simp] theorem itD_str {s : Tx} : itD (.str s) = some (s.map fun c => .str [c]) := rfl
theorem rng_ok {i j : Int} (h : -4611686018427387904 ≤ i ∧ i < 4611686018427387904 ∧ -4611686018427387904 ≤ j ∧ j < 4611686018427387904) : rngX (.int i) (.int j) = some (rgL i j) := by
  simp only [rngX]
  rw [if_pos (by unfold RgF; simpa using h)]
end
theorem run_at {C : List Code} {c : Code} {n f : Nat} {ds : List D} {O : Sto} (h : C[f]? = some c) (hl : ds.length = c.np) : run C (n + 1) f ds O = (exs (run C n) c.body (ds.map Sl.va ++ List.replicate (c.ns - c.np) Sl.un) O).out := by
  show (match C[f]? with
    | some c => if ds.length = c.np then (exs (run C n) c.body (ds.map Sl.va ++ List.replicate (c.ns - c.np) Sl.un) O).out else .stk
    | none => .stk) = _
  rw [h]
  simp only [hl, if_true]
def intsL (ns : List Int) : List D := ns.map .int
@[simp] theorem intsL_length (ns : List Int) : (intsL ns).length = ns.length := List.length_map ..
theorem run_cell {C : List Code} {n f : Nat} {ns : List Int} {k : Int} {O : Sto} (h : C[f]? = some cCell) (hk : 0 ≤ k) : ∃ z : Int, run C (n + 1) f [.lst (intsL ns), .int k] O = .ok (.fz (.int z)) O := by
  rw [run_at h rfl]
  by_cases hl : k < ns.length
  · have hi : k.toNat < ns.length := by omega
    refine ⟨ns[k.toNat], ?_⟩
    simp [evq_var, evq_con, evq_glb, evq_bin, evq_neg, evq_cmp, evq_isn, evq_chn, evq_and, evq_or, evq_not, evq_ite, evq_tup, evq_lst, evq_cell, evq_idx, evq_slc, evq_rev, evq_call, evq_callD, evq_tups, evq_lsts, exq_mat, exC, evX, evq_bi, evq_sset, evq_isi, evq_met, evq_lrg, evq_lrg1, evq_lc, evq_lc2, evq_ssc, exq_set, exq_par, exq_unp, exq_aug, exq_seti, exq_app, exq_ext, exq_drop, exq_ret, exq_retv, exq_retN, exq_ife, exq_for, exq_whl, exq_brk, exq_cnt, exq_pas, exq_nev, exq_frz, evA, evO, evs, evB, evC, evI, evT, exs, look, setE, asg_nm, asg_tp, asgs_nil, asgs_cons, T.own, Ts.own, wipeE, fzL, rdL, kidL, parE, vaE, cCell, hl, at_pos hk, intsL, hi]
  · refine ⟨0, ?_⟩
    simp [evq_var, evq_con, evq_glb, evq_bin, evq_neg, evq_cmp, evq_isn, evq_chn, evq_and, evq_or, evq_not, evq_ite, evq_tup, evq_lst, evq_cell, evq_idx, evq_slc, evq_rev, evq_call, evq_callD, evq_tups, evq_lsts, exq_mat, exC, evX, evq_bi, evq_sset, evq_isi, evq_met, evq_lrg, evq_lrg1, evq_lc, evq_lc2, evq_ssc, exq_set, exq_par, exq_unp, exq_aug, exq_seti, exq_app, exq_ext, exq_drop, exq_ret, exq_retv, exq_retN, exq_ife, exq_for, exq_whl, exq_brk, exq_cnt, exq_pas, exq_nev, exq_frz, evA, evO, evs, evB, evC, evI, evT, exs, look, setE, asg_nm, asg_tp, asgs_nil, asgs_cons, T.own, Ts.own, wipeE, fzL, rdL, kidL, parE, vaE, cCell, hl]
def primes : List Int := [1000003, 1000033, 1000037, 1000039, 1000081, 1000099, 1000117, 1000121, 1000133, 1000151, 1000159, 1000171, 1000183, 1000187, 1000193, 1000199]
theorem primes_at {m : Nat} (h : m < 16) : ∃ p : Int, 0 < p ∧ (intsL primes)[m]? = some (.int p) := by
  have : primes[m]? = some (primes[m]'h) := List.getElem?_eq_getElem h
  refine ⟨primes[m]'h, ?_, ?_⟩
  · have : ∀ p ∈ primes, 0 < p := by decide
    exact this _ (List.getElem_mem h)
  · unfold intsL; rw [List.getElem?_map, this]; rfl
theorem run_draw {C : List Code} {n f : Nat} {c k b : Int} {O : Sto} (h : C[f]? = some cDraw) (hb : 0 < b) : ∃ z : Int, 0 ≤ z ∧ z < b ∧ run C (n + 1) f [.int c, .int k, .int b] O = .ok (.fz (.int z)) O := by
  rw [run_at h rfl]
  have h1 : 0 ≤ k % 16 := Int.emod_nonneg _ (by decide)
  have h2 : k % 16 < 16 := Int.emod_lt_of_pos _ (by decide)
  obtain ⟨p, hp, hg⟩ := primes_at (m := (k % 16).toNat) (by omega)
  simp only [intsL, primes, List.map_cons, List.map_nil] at hg
  refine ⟨(c * 48271 + k * 69621) % p % b, Int.emod_nonneg _ (by omega), Int.emod_lt_of_pos _ hb, ?_⟩
  have sz : 16 ≤ sizeLine := by decide
  simp [evq_var, evq_con, evq_glb, evq_bin, evq_neg, evq_cmp, evq_isn, evq_chn, evq_and, evq_or, evq_not, evq_ite, evq_tup, evq_lst, evq_cell, evq_idx, evq_slc, evq_rev, evq_call, evq_callD, evq_tups, evq_lsts, exq_mat, exC, evX, evq_bi, evq_sset, evq_isi, evq_met, evq_lrg, evq_lrg1, evq_lc, evq_lc2, evq_ssc, exq_set, exq_par, exq_unp, exq_aug, exq_seti, exq_app, exq_ext, exq_drop, exq_ret, exq_retv, exq_retN, exq_ife, exq_for, exq_whl, exq_brk, exq_cnt, exq_pas, exq_nev, exq_frz, evA, evO, evs, evB, evC, evI, evT, exs, look, setE, asg_nm, asg_tp, asgs_nil, asgs_cons, T.own, Ts.own, wipeE, fzL, rdL, kidL, parE, vaE, cDraw, bin_mulR, bin_mod, sz, at_pos h1, hg, hp, hb]
theorem forM_inv {f : D → List Sl → Sto → Fl} : ∀ (ds : List D) (P : Nat → List Sl → Sto → Prop) (env : List Sl) (O : Sto), P 0 env O → (∀ i d env O, ds[i]? = some d → P i env O → ∃ env' O', (f d env O = .nx env' O' ∨ f d env O = .ct env' O') ∧ P (i + 1) env' O') →
    ∃ env' O', forM f ds env O = .nx env' O' ∧ P ds.length env' O'
  | [], P, env, O, h, _ => ⟨env, O, rfl, h⟩
  | d :: ds, P, env, O, h, k => by
    obtain ⟨e1, O1, h1, p1⟩ := k 0 d env O rfl h
    obtain ⟨e2, O2, h2, p2⟩ := forM_inv ds (fun i => P (i + 1)) e1 O1 p1 fun i d env O hd hp => k (i + 1) d env O hd hp
    refine ⟨e2, O2, ?_, p2⟩
    unfold forM
    rcases h1 with h1 | h1 <;> rw [h1] <;> exact h2
theorem forS_inv {call : Nat → List D → Sto → R XD} {t : T} {b : Ss} (ds : List D) (P : Nat → List Sl → Sto → Prop) (env : List Sl) (O : Sto) (h : P 0 env O)
    (k : ∀ i d env O, ds[i]? = some d → P i env O → ∃ env' O', ((Fl.opt (asg t d env) fun e2 => exs call b e2 O) = .nx env' O' ∨ (Fl.opt (asg t d env) fun e2 => exs call b e2 O) = .ct env' O') ∧ P (i + 1) env' O') :
    ∃ env' O', forS call t b ds env O = .nx env' O' ∧ P ds.length env' O' := forM_inv ds P env O h k
theorem rgL_length (i j : Int) : (rgL i j).length = (j - i).toNat := by unfold rgL; simp
theorem rgL_at {i j : Int} {k : Nat} (h : k < (j - i).toNat) : (rgL i j)[k]? = some (.int (i + k)) := by
  unfold rgL
  rw [List.getElem?_map, List.getElem?_range h]
  rfl
theorem rg_get {i j : Int} {k : Nat} {d : D} (h : (rgL i j)[k]? = some d) : k < (j - i).toNat ∧ d = .int (i + k) := by
  have hk : k < (rgL i j).length := (List.getElem?_eq_some_iff.mp h).1
  rw [rgL_length] at hk
  rw [rgL_at hk] at h
  exact ⟨hk, (Option.some.inj h).symm⟩
theorem bin_divW {i j : Int} (h1 : 0 < j) (h2 : j.natAbs.log2 < 9000) : binD .FloorDiv (.int i) (.int j) = some (.fz (.int (i / j))) := by
  simp only [binD]
  rw [if_pos (.inr ⟨h1, h2⟩)]
theorem bin_pow {i j : Int} (h : CPow i j) : binD .Pow (.int i) (.int j) = some (.fz (.int (i ^ j.toNat))) := by
  simp only [binD]
  rw [if_pos h]
theorem bin_pow10 : binD .Pow (.int 10) (.int 18) = some (.fz (.int 1000000000000000000)) := bin_pow ⟨by decide, by decide, by decide⟩
theorem run_number {C : List Code} {n f g : Nat} {c k b : Int} {O : Sto} (h : C[f]? = some (cNumber g)) (hg : C[g]? = some cDraw) (h0 : 0 ≤ k) (hk : k < 1000) (hb : 0 < b) : ∃ z : Int, 0 ≤ z ∧ z < b ∧ run C (n + 2) f [.int c, .int k, .int b] O = .ok (.fz (.int z)) O := by
  rw [run_at h rfl]
  have m1 : 0 ≤ k % 24 := Int.emod_nonneg _ (by decide)
  have m2 : k % 24 < 24 := Int.emod_lt_of_pos _ (by decide)
  obtain ⟨env', O', hf, l, rfl, rfl⟩ := forS_inv (call := run C (n + 1)) (t := .nm 4) (b := .cons (.set 3 false (.bin .Mult (.var 3) (.con (.int 1009)))) .nil) (rgL 0 (k % 24))
    (fun i env O' => ∃ l, env = [.va (.int c), .va (.int k), .va (.int b), .va (.int (1009 ^ i)), l, .un, .un] ∧ O' = O) [.va (.int c), .va (.int k), .va (.int b), .va (.int 1), .un, .un, .un] O ⟨.un, rfl, rfl⟩
    (fun i d env O' hd ⟨l, e1, e2⟩ => by
      subst e1 e2
      obtain ⟨hi, rfl⟩ := rg_get hd
      refine ⟨_, _, .inl ?_, .va (.int (0 + i)), rfl, rfl⟩
      simp [evq_var, evq_con, evq_glb, evq_bin, evq_neg, evq_cmp, evq_isn, evq_chn, evq_and, evq_or, evq_not, evq_ite, evq_tup, evq_lst, evq_cell, evq_idx, evq_slc, evq_rev, evq_call, evq_callD, evq_tups, evq_lsts, exq_mat, exC, evX, evq_bi, evq_sset, evq_isi, evq_met, evq_lrg, evq_lrg1, evq_lc, evq_lc2, evq_ssc, exq_set, exq_par, exq_unp, exq_aug, exq_seti, exq_app, exq_ext, exq_drop, exq_ret, exq_retv, exq_retN, exq_ife, exq_for, exq_whl, exq_brk, exq_cnt, exq_pas, exq_nev, exq_frz, evA, evO, evs, evB, evC, evI, evT, exs, look, setE, asg_nm, asg_tp, asgs_nil, asgs_cons, T.own, Ts.own, wipeE, fzL, rdL, kidL, parE, vaE, bin_mulR]
      rfl)
  have pp : (0 : Int) < 1009 ^ (rgL 0 (k % 24)).length := Int.pow_pos (by decide)
  have pl : ((1009 : Int) ^ (rgL 0 (k % 24)).length).natAbs.log2 < 9000 := by
    have e : ((1009 : Int) ^ (rgL 0 (k % 24)).length).natAbs = 1009 ^ (rgL 0 (k % 24)).length := by rw [Int.natAbs_pow]; rfl
    have l24 : (rgL 0 (k % 24)).length ≤ 24 := by rw [rgL_length]; omega
    have : (1009 : Nat) ^ (rgL 0 (k % 24)).length ≤ 1009 ^ 24 := Nat.pow_le_pow_right (by decide) l24
    rw [e]
    by_cases z : (1009 : Nat) ^ (rgL 0 (k % 24)).length = 0
    · rw [z]; decide
    · rw [Nat.log2_lt z]
      exact Nat.lt_of_le_of_lt this (by decide)
  generalize hp : (1009 : Int) ^ (rgL 0 (k % 24)).length = p at hf pp pl
  have rg : rngX (.int 0) (.int (k % 24)) = some (rgL 0 (k % 24)) := rng_ok (by omega)
  by_cases hr : 0 < (c - 1000000000000000000) / p
  · refine ⟨(c - 1000000000000000000) / p % 1009 % b, Int.emod_nonneg _ (by omega), Int.emod_lt_of_pos _ hb, ?_⟩
    simp [evq_var, evq_con, evq_glb, evq_bin, evq_neg, evq_cmp, evq_isn, evq_chn, evq_and, evq_or, evq_not, evq_ite, evq_tup, evq_lst, evq_cell, evq_idx, evq_slc, evq_rev, evq_call, evq_callD, evq_tups, evq_lsts, exq_mat, exC, evX, evq_bi, evq_sset, evq_isi, evq_met, evq_lrg, evq_lrg1, evq_lc, evq_lc2, evq_ssc, exq_set, exq_par, exq_unp, exq_aug, exq_seti, exq_app, exq_ext, exq_drop, exq_ret, exq_retv, exq_retN, exq_ife, exq_for, exq_whl, exq_brk, exq_cnt, exq_pas, exq_nev, exq_frz, evA, evO, evs, evB, evC, evI, evT, exs, look, setE, asg_nm, asg_tp, asgs_nil, asgs_cons, T.own, Ts.own, wipeE, fzL, rdL, kidL, parE, vaE, cNumber, bin_mod, bin_pow10, bin_divW pp pl, rg, hf, hr, hb]
  · have s1 : 0 ≤ c % 1000003 := Int.emod_nonneg _ (by decide)
    have s2 : c % 1000003 < 1000003 := Int.emod_lt_of_pos _ (by decide)
    obtain ⟨z, z1, z2, hz⟩ := run_draw (n := n) (c := (c % 1000003 + 977 * k) * (c % 1000003 + 31 * k + 5)) (k := k % 9 + 1) (b := 999983) (O := O') hg (by decide)
    refine ⟨z % b, Int.emod_nonneg _ (by omega), Int.emod_lt_of_pos _ hb, ?_⟩
    have mm : binD .Mult (.int (c % 1000003 + 977 * k)) (.int (c % 1000003 + 31 * k + 5)) = some (.fz (.int ((c % 1000003 + 977 * k) * (c % 1000003 + 31 * k + 5)))) := bin_mulL (by omega) (by omega)
    simp [evq_var, evq_con, evq_glb, evq_bin, evq_neg, evq_cmp, evq_isn, evq_chn, evq_and, evq_or, evq_not, evq_ite, evq_tup, evq_lst, evq_cell, evq_idx, evq_slc, evq_rev, evq_call, evq_callD, evq_tups, evq_lsts, exq_mat, exC, evX, evq_bi, evq_sset, evq_isi, evq_met, evq_lrg, evq_lrg1, evq_lc, evq_lc2, evq_ssc, exq_set, exq_par, exq_unp, exq_aug, exq_seti, exq_app, exq_ext, exq_drop, exq_ret, exq_retv, exq_retN, exq_ife, exq_for, exq_whl, exq_brk, exq_cnt, exq_pas, exq_nev, exq_frz, evA, evO, evs, evB, evC, evI, evT, exs, look, setE, asg_nm, asg_tp, asgs_nil, asgs_cons, T.own, Ts.own, wipeE, fzL, rdL, kidL, parE, vaE, cNumber, bin_mod, bin_mulL, mm, bin_pow10, bin_divW pp pl, rg, hf, hr, hb, hz]
theorem run_next {C : List Code} {n f a g d : Nat} {ns : List Int} {b0 c b : Int} {O : Sto} {j : Nat} (h : C[f]? = some (cNext a g)) (ha : C[a]? = some cCell) (hg : C[g]? = some (cNumber d)) (hd : C[d]? = some cDraw) (hO : O[j]? = some (.cell [.lst (intsL ns), .int b0, .int c])) (h0 : 0 ≤ b0) (hc : 0 ≤ c) (hb : 0 < b) :
    ∃ z : Int, 0 ≤ z ∧ z < b ∧ run C (n + 3) f [.obj j, .int b] O = .ok (.fz (.int z)) (O.set j (.cell [.lst (intsL ns), .int b0, .int (c + 1)])) := by
  rw [run_at h rfl]
  have hj : j < O.length := (List.getElem?_eq_some_iff.mp hO).1
  obtain ⟨O1, e1⟩ : ∃ O1, O1 = O.set j (.cell [.lst (intsL ns), .int b0, .int (c + 1)]) := ⟨_, rfl⟩
  have hO1 : O1[j]? = some (.cell [.lst (intsL ns), .int b0, .int (c + 1)]) := by rw [e1, List.getElem?_set_self hj]
  obtain ⟨z, hz⟩ := run_cell (n := n + 1) (ns := ns) (k := b0 + (c + 1) / 12) (O := O1) ha (by omega)
  obtain ⟨w, w1, w2, hw⟩ := run_number (n := n) (c := z + 31 * ((c + 1) / 12)) (k := (c + 1) % 12 + 1) (b := b) (O := O1) hg hd (by omega) (by omega) hb
  refine ⟨w, w1, w2, ?_⟩
  have st : setiD (.va (.obj j)) (.int 2) (.int (c + 1)) O = some (.va (.obj j), O1) := by
    rw [seti_obj hO (by decide) (show (2 : Int) < ((3 : Nat) : Int) from by decide), e1]; rfl
  simp [evq_var, evq_con, evq_glb, evq_bin, evq_neg, evq_cmp, evq_isn, evq_chn, evq_and, evq_or, evq_not, evq_ite, evq_tup, evq_lst, evq_cell, evq_idx, evq_slc, evq_rev, evq_call, evq_callD, evq_tups, evq_lsts, exq_mat, exC, evX, evq_bi, evq_sset, evq_isi, evq_met, evq_lrg, evq_lrg1, evq_lc, evq_lc2, evq_ssc, exq_set, exq_par, exq_unp, exq_aug, exq_seti, exq_app, exq_ext, exq_drop, exq_ret, exq_retv, exq_retN, exq_ife, exq_for, exq_whl, exq_brk, exq_cnt, exq_pas, exq_nev, exq_frz, evA, evO, evs, evB, evC, evI, evT, exs, look, setE, asg_nm, asg_tp, asgs_nil, asgs_cons, T.own, Ts.own, wipeE, fzL, rdL, kidL, parE, vaE, cNext, idx_obj hO, idx_obj hO1, st, bin_div, bin_mod, bin_mulL, hz, hw]
  rw [e1]
theorem run_pick {C : List Code} {n f p a g d : Nat} {ns : List Int} {b0 c : Int} {O : Sto} {j : Nat} {ds : List D} (hp : C[p]? = some (cPick f)) (h : C[f]? = some (cNext a g)) (ha : C[a]? = some cCell) (hg : C[g]? = some (cNumber d)) (hd : C[d]? = some cDraw) (hO : O[j]? = some (.cell [.lst (intsL ns), .int b0, .int c])) (h0 : 0 ≤ b0) (hc : 0 ≤ c) (hl : ds ≠ []) :
    ∃ x ∈ ds, run C (n + 4) p [.obj j, .lst ds] O = .ok (.fz x) (O.set j (.cell [.lst (intsL ns), .int b0, .int (c + 1)])) := by
  rw [run_at hp rfl]
  have hl' : 0 < ds.length := List.length_pos_iff.mpr hl
  obtain ⟨w, w1, w2, hw⟩ := run_next (n := n) (b := ds.length) h ha hg hd hO h0 hc (by omega)
  have hi : w.toNat < ds.length := by omega
  refine ⟨ds[w.toNat], List.getElem_mem hi, ?_⟩
  simp [evq_var, evq_con, evq_glb, evq_bin, evq_neg, evq_cmp, evq_isn, evq_chn, evq_and, evq_or, evq_not, evq_ite, evq_tup, evq_lst, evq_cell, evq_idx, evq_slc, evq_rev, evq_call, evq_callD, evq_tups, evq_lsts, exq_mat, exC, evX, evq_bi, evq_sset, evq_isi, evq_met, evq_lrg, evq_lrg1, evq_lc, evq_lc2, evq_ssc, exq_set, exq_par, exq_unp, exq_aug, exq_seti, exq_app, exq_ext, exq_drop, exq_ret, exq_retv, exq_retN, exq_ife, exq_for, exq_whl, exq_brk, exq_cnt, exq_pas, exq_nev, exq_frz, evA, evO, evs, evB, evC, evI, evT, exs, look, setE, asg_nm, asg_tp, asgs_nil, asgs_cons, T.own, Ts.own, wipeE, fzL, rdL, kidL, parE, vaE, cPick, hw, at_pos w1, hi]
theorem run_pickT {C : List Code} {n f p a g d : Nat} {ns : List Int} {b0 c : Int} {O : Sto} {j : Nat} {ds : List D} (hp : C[p]? = some (cPick f)) (h : C[f]? = some (cNext a g)) (ha : C[a]? = some cCell) (hg : C[g]? = some (cNumber d)) (hd : C[d]? = some cDraw) (hO : O[j]? = some (.cell [.lst (intsL ns), .int b0, .int c])) (h0 : 0 ≤ b0) (hc : 0 ≤ c) (hl : ds ≠ []) :
    ∃ x ∈ ds, run C (n + 4) p [.obj j, .tup ds] O = .ok (.fz x) (O.set j (.cell [.lst (intsL ns), .int b0, .int (c + 1)])) := by
  rw [run_at hp rfl]
  have hl' : 0 < ds.length := List.length_pos_iff.mpr hl
  obtain ⟨w, w1, w2, hw⟩ := run_next (n := n) (b := ds.length) h ha hg hd hO h0 hc (by omega)
  have hi : w.toNat < ds.length := by omega
  refine ⟨ds[w.toNat], List.getElem_mem hi, ?_⟩
  simp [evq_var, evq_con, evq_glb, evq_bin, evq_neg, evq_cmp, evq_isn, evq_chn, evq_and, evq_or, evq_not, evq_ite, evq_tup, evq_lst, evq_cell, evq_idx, evq_slc, evq_rev, evq_call, evq_callD, evq_tups, evq_lsts, exq_mat, exC, evX, evq_bi, evq_sset, evq_isi, evq_met, evq_lrg, evq_lrg1, evq_lc, evq_lc2, evq_ssc, exq_set, exq_par, exq_unp, exq_aug, exq_seti, exq_app, exq_ext, exq_drop, exq_ret, exq_retv, exq_retN, exq_ife, exq_for, exq_whl, exq_brk, exq_cnt, exq_pas, exq_nev, exq_frz, evA, evO, evs, evB, evC, evI, evT, exs, look, setE, asg_nm, asg_tp, asgs_nil, asgs_cons, T.own, Ts.own, wipeE, fzL, rdL, kidL, parE, vaE, cPick, hw, at_pos w1, hi]
end Ev

namespace Ev
open PySem L2
/-! ### tools for plain proofs -/
theorem sz {k : Nat} (h : k ≤ 100000) : k ≤ sizeLine := Nat.le_trans h (by decide)
theorem szl {k : Nat} (h : k < 100000) : k < sizeLine := Nat.lt_of_lt_of_le h (sz (Nat.le_refl _))
theorem whlS_end {call : Nat → List D → Sto → R XD} {c : E} {b : Ss} {env : List Sl} {O O1 : Sto} (h : evT call c env O = .ok false O1) : whlS call c b env O = .nx env O1 := by
  unfold whlS
  rw [whF_step, h]
  rfl
theorem whlS_go {call : Nat → List D → Sto → R XD} {c : E} {b : Ss} {env env' : List Sl} {O O1 O2 : Sto} (h : evT call c env O = .ok true O1) (k : exs call b env O1 = .nx env' O2) : whlS call c b env O = whlS call c b env' O2 := by
  unfold whlS
  rw [whF_step, h]
  simp only [R.fl_ok, if_true, k]
/-- a while loop by an invariant and a measure -/
theorem whl_inv {S : Type} {call : Nat → List D → Sto → R XD} {c : E} {b : Ss} {O : Sto} (E : S → List Sl) (I : S → Prop) (more : S → Bool) (μ : S → Nat) (ht : ∀ s, I s → evT call c (E s) O = .ok (more s) O)
    (hb : ∀ s, I s → more s = true → ∃ s', exs call b (E s) O = .nx (E s') O ∧ I s' ∧ μ s' < μ s) : ∀ s, I s → ∃ s', whlS call c b (E s) O = .nx (E s') O ∧ I s' ∧ more s' = false := by
  suffices h : ∀ (n : Nat) (s : S), μ s ≤ n → I s → ∃ s', whlS call c b (E s) O = .nx (E s') O ∧ I s' ∧ more s' = false from fun s => h (μ s) s (Nat.le_refl _)
  intro n
  induction n with
  | zero =>
    intro s hn hi
    cases q : more s with
    | false => exact ⟨s, whlS_end (by rw [ht s hi, q]), hi, q⟩
    | true => obtain ⟨_, _, _, m⟩ := hb s hi q; omega
  | succ n ih =>
    intro s hn hi
    cases q : more s with
    | false => exact ⟨s, whlS_end (by rw [ht s hi, q]), hi, q⟩
    | true =>
      obtain ⟨s', e, i', m⟩ := hb s hi q
      obtain ⟨s2, e2, i2, m2⟩ := ih s' (by omega) i'
      exact ⟨s2, by rw [whlS_go (by rw [ht s hi, q]) e, e2], i2, m2⟩
/-- a comprehension that only reads -/
theorem lcM_fm {α : Type} {f : D → Sto → R (Option D)} {g : α → Option D} {enc : α → D} : ∀ (xs : List α) (acc : List D) (O : Sto), (∀ a ∈ xs, f (enc a) O = .ok (g a) O) → acc.length + xs.length ≤ sizeLine → lcM f (xs.map enc) acc O = .ok (acc ++ xs.filterMap g) O
  | [], acc, O, _, _ => by unfold lcM; simp
  | a :: xs, acc, O, h, hl => by
    rw [List.map_cons]
    unfold lcM
    rw [h a List.mem_cons_self]
    rw [List.length_cons] at hl
    have hr := fun e he => h e (List.mem_cons_of_mem _ he)
    cases q : g a with
    | none =>
      show lcM f (xs.map enc) acc O = _
      rw [lcM_fm xs acc O hr (by omega), List.filterMap_cons, q]
    | some z =>
      show (if acc.length < sizeLine then lcM f (xs.map enc) (acc ++ [z]) O else .stk) = _
      rw [if_pos (by omega), lcM_fm xs (acc ++ [z]) O hr (by rw [List.length_append, List.length_singleton]; omega), List.filterMap_cons, q, List.append_assoc]; rfl
theorem lcS_fm {α : Type} {call : Nat → List D → Sto → R XD} {m : Nat} {t : T} {c : Es} {e : E} {env : List Sl} {O : Sto} (xs : List α) (enc : α → D) (g : α → Option D)
    (h : ∀ a ∈ xs, ((R.ofO (asg t (enc a) (wipeE env t.own)) O).bind fun env' O2 => (evC call c env' O2).bind fun b O3 => if b = true then (ev call e env' O3).bind fun x O4 => .ofO ((x.kid m).map some) O4 else .ok none O3) = .ok (g a) O) (hl : xs.length ≤ sizeLine) :
    lcS call m t c e env (xs.map enc) O = .ok (xs.filterMap g) O := by
  unfold lcS
  have := lcM_fm (f := fun d O2 => (R.ofO (asg t d (wipeE env t.own)) O2).bind fun env' O2 => (evC call c env' O2).bind fun b O3 => if b = true then (ev call e env' O3).bind fun x O4 => .ofO ((x.kid m).map some) O4 else .ok none O3) (g := g) (enc := enc) xs [] O h (by simpa using hl)
  simpa using this
/-- no test -/
theorem lcS_map {α : Type} {call : Nat → List D → Sto → R XD} {m : Nat} {t : T} {e : E} {env : List Sl} {O : Sto} (xs : List α) (enc : α → D) (g : α → D)
    (h : ∀ a ∈ xs, ((R.ofO (asg t (enc a) (wipeE env t.own)) O).bind fun env' O2 => (ev call e env' O2).bind fun x O4 => .ofO (x.kid m) O4) = .ok (g a) O) (hl : xs.length ≤ sizeLine) :
    lcS call m t .nil e env (xs.map enc) O = .ok (xs.map g) O := by
  have := lcS_fm (call := call) (m := m) (t := t) (c := .nil) (e := e) (env := env) (O := O) xs enc (fun a => some (g a)) (fun a ha => by
    have k := h a ha
    cases q : R.ofO (asg t (enc a) (wipeE env t.own)) O with
    | exc x O1 => rw [q] at k; cases k
    | stk => rw [q] at k; cases k
    | ok env' O1 =>
      rw [q] at k
      simp only [R.bind_ok, evC] at k ⊢
      simp only [if_true]
      cases q2 : ev call e env' O1 with
      | exc x O2 => rw [q2] at k; cases k
      | stk => rw [q2] at k; cases k
      | ok x O2 =>
        rw [q2] at k
        simp only [R.bind_ok] at k ⊢
        cases q3 : x.kid m with
        | none => rw [q3] at k; cases k
        | some z => rw [q3] at k; cases k; rfl) hl
  rw [this, List.filterMap_eq_map']
/-- a test, the item itself or something of it -/
theorem lcS_filt {α : Type} {call : Nat → List D → Sto → R XD} {m : Nat} {t : T} {c : Es} {e : E} {env : List Sl} {O : Sto} (xs : List α) (enc : α → D) (p : α → Bool) (g : α → D)
    (h : ∀ a ∈ xs, ((R.ofO (asg t (enc a) (wipeE env t.own)) O).bind fun env' O2 => (evC call c env' O2).bind fun b O3 => if b = true then (ev call e env' O3).bind fun x O4 => .ofO ((x.kid m).map some) O4 else .ok none O3) = .ok (if p a = true then some (g a) else none) O) (hl : xs.length ≤ sizeLine) :
    lcS call m t c e env (xs.map enc) O = .ok ((xs.filter p).map g) O := by
  rw [lcS_fm xs enc (fun a => if p a = true then some (g a) else none) h hl]
  congr 1
  clear h hl
  induction xs with
  | nil => rfl
  | cons a xs ih =>
    rw [List.filterMap_cons, List.filter_cons]
    cases q : p a with
    | true => simp only [if_true, List.map_cons, ih]
    | false => simp only [Bool.false_eq_true, if_false, ih]
/-- a comprehension that draws: by what is so behind each turn -/
theorem lcM_inv {f : D → Sto → R (Option D)} {P : Nat → List D → Sto → Prop} : ∀ (ds acc : List D) (O : Sto) (i : Nat), P i acc O → (∀ j d acc O, ds[j]? = some d → P (i + j) acc O → ∃ x O', f d O = .ok x O' ∧ P (i + j + 1) (acc ++ x.toList) O') → acc.length + ds.length ≤ sizeLine →
    ∃ acc' O', lcM f ds acc O = .ok acc' O' ∧ P (i + ds.length) acc' O'
  | [], acc, O, i, h, _, _ => ⟨acc, O, by unfold lcM; rfl, h⟩
  | d :: ds, acc, O, i, h, k, hl => by
    obtain ⟨x, O1, e, p⟩ := k 0 d acc O rfl h
    rw [List.length_cons] at hl
    have k' : ∀ j d acc O, ds[j]? = some d → P (i + 1 + j) acc O → ∃ x O', f d O = .ok x O' ∧ P (i + 1 + j + 1) (acc ++ x.toList) O' := fun j d acc O hd hp => by
      have a : i + 1 + j = i + (j + 1) := by omega
      rw [a] at hp ⊢
      exact k (j + 1) d acc O hd hp
    cases x with
    | none =>
      obtain ⟨acc', O', e', p'⟩ := lcM_inv ds acc O1 (i + 1) (by simpa using p) k' (by omega)
      refine ⟨acc', O', ?_, (show i + (d :: ds).length = i + 1 + ds.length by rw [List.length_cons]; omega) ▸ p'⟩
      unfold lcM
      rw [e]; exact e'
    | some z =>
      obtain ⟨acc', O', e', p'⟩ := lcM_inv ds (acc ++ [z]) O1 (i + 1) p k' (by rw [List.length_append, List.length_singleton]; omega)
      refine ⟨acc', O', ?_, (show i + (d :: ds).length = i + 1 + ds.length by rw [List.length_cons]; omega) ▸ p'⟩
      unfold lcM
      rw [e]
      show (if acc.length < sizeLine then lcM f ds (acc ++ [z]) O1 else .stk) = _
      rw [if_pos (by omega)]; exact e'
theorem lcS_inv {call : Nat → List D → Sto → R XD} {m : Nat} {t : T} {c : Es} {e : E} {env : List Sl} (ds : List D) (P : Nat → List D → Sto → Prop) (O : Sto) (h0 : P 0 [] O)
    (h : ∀ j d acc O, ds[j]? = some d → P j acc O → ∃ x O', ((R.ofO (asg t d (wipeE env t.own)) O).bind fun env' O2 => (evC call c env' O2).bind fun b O3 => if b = true then (ev call e env' O3).bind fun x O4 => .ofO ((x.kid m).map some) O4 else .ok none O3) = .ok x O' ∧ P (j + 1) (acc ++ x.toList) O') (hl : ds.length ≤ sizeLine) :
    ∃ acc' O', lcS call m t c e env ds O = .ok acc' O' ∧ P ds.length acc' O' := by
  have := lcM_inv (f := fun d O2 => (R.ofO (asg t d (wipeE env t.own)) O2).bind fun env' O2 => (evC call c env' O2).bind fun b O3 => if b = true then (ev call e env' O3).bind fun x O4 => .ofO ((x.kid m).map some) O4 else .ok none O3) (P := P) ds [] O 0 h0 (fun j d acc O hd hp => by
    rw [Nat.zero_add] at hp ⊢; exact h j d acc O hd hp) (by simpa using hl)
  rw [Nat.zero_add] at this
  exact this
/-- a for loop over things told by xs, the names as E says of a state -/
theorem forS_fold {α S : Type} {call : Nat → List D → Sto → R XD} {t : T} {b : Ss} {O : Sto} (enc : α → D) (E : S → List Sl) (step : S → α → S) : ∀ (xs : List α) (s : S),
    (∀ s, ∀ a ∈ xs, (Fl.opt (asg t (enc a) (E s)) fun e2 => exs call b e2 O) = .nx (E (step s a)) O) → forS call t b (xs.map enc) (E s) O = .nx (E (xs.foldl step s)) O
  | [], s, _ => rfl
  | a :: xs, s, h => by
    have h1 := h s a List.mem_cons_self
    have h2 := forS_fold enc E step xs (step s a) fun s a ha => h s a (List.mem_cons_of_mem _ ha)
    unfold forS at h2 ⊢
    rw [List.map_cons]
    unfold forM
    rw [h1]
    exact h2
/-- the same, where something holds of the states -/
theorem forS_foldI {α S : Type} {call : Nat → List D → Sto → R XD} {t : T} {b : Ss} {O : Sto} (enc : α → D) (E : S → List Sl) (step : S → α → S) (I : S → List α → Prop) : ∀ (xs : List α) (s : S), I s xs →
    (∀ s a r, I s (a :: r) → (Fl.opt (asg t (enc a) (E s)) fun e2 => exs call b e2 O) = .nx (E (step s a)) O ∧ I (step s a) r) → forS call t b (xs.map enc) (E s) O = .nx (E (xs.foldl step s)) O
  | [], s, _, _ => rfl
  | a :: xs, s, hi, h => by
    obtain ⟨h1, h3⟩ := h s a xs hi
    have h2 := forS_foldI enc E step I xs (step s a) h3 h
    unfold forS at h2 ⊢
    rw [List.map_cons]
    unfold forM
    rw [h1]
    exact h2
/-- a for loop by what holds with the items that are left -/
theorem forS_rel {α S : Type} {call : Nat → List D → Sto → R XD} {t : T} {b : Ss} (enc : α → D) (E : S → List Sl) (OO : S → Sto) (I : S → List α → Prop)
    (h : ∀ s a r, I s (a :: r) → ∃ s', (Fl.opt (asg t (enc a) (E s)) fun e2 => exs call b e2 (OO s)) = .nx (E s') (OO s') ∧ I s' r) : ∀ (xs : List α) (s : S), I s xs → ∃ s', forS call t b (xs.map enc) (E s) (OO s) = .nx (E s') (OO s') ∧ I s' []
  | [], s, hi => ⟨s, rfl, hi⟩
  | a :: xs, s, hi => by
    obtain ⟨s1, e1, i1⟩ := h s a xs hi
    obtain ⟨s2, e2, i2⟩ := forS_rel enc E OO I h xs s1 i1
    refine ⟨s2, ?_, i2⟩
    unfold forS at e2 ⊢
    rw [List.map_cons]
    unfold forM
    rw [e1]
    exact e2
theorem foldl_fst {α S β : Type} (st : S → α → S) (g : α → β) : ∀ (xs : List α) (s : S × β), (xs.foldl (fun s a => (st s.1 a, g a)) s).1 = xs.foldl st s.1
  | [], _ => rfl
  | a :: xs, s => by rw [List.foldl_cons, List.foldl_cons, foldl_fst st g xs]
theorem asg_pair (i j : Nat) (p : Int × Int) (env : List Sl) : asg (.tp (.cons (.nm i) (.cons (.nm j) .nil))) (pairT p) env = (setE env i (.va (.int p.1))).bind fun e => setE e j (.va (.int p.2)) := by
  unfold pairT
  simp only [asg_tp, asgs_cons, asgs_nil, asg_nm, setE]
  by_cases h : i < env.length
  · simp [h]
  · simp [h]
/-- parts of a def's text -/
def Ss.nth : Ss → Nat → S
  | .cons s _, 0 => s
  | .cons _ r, k + 1 => r.nth k
  | .nil, _ => .pas
def Ss.drop : Ss → Nat → Ss
  | r, 0 => r
  | .cons _ r, k + 1 => r.drop k
  | .nil, _ => .nil
def S.bd : S → Ss
  | .for _ _ b => b
  | .whl _ b => b
  | .ife _ a _ => a
  | _ => .nil
def S.el : S → Ss
  | .ife _ _ b => b
  | _ => .nil
def S.cd : S → E
  | .whl c _ => c
  | .ife c _ _ => c
  | .set _ _ e => e
  | .ret e => e
  | _ => .con .non
theorem get_of {α : Type} {xs : List α} {z : Int} (h0 : 0 ≤ z) (h1 : z < xs.length) : ∃ x ∈ xs, atI xs z = some x := by
  have hi : z.toNat < xs.length := by omega
  exact ⟨xs[z.toNat], List.getElem_mem hi, by rw [at_pos h0, List.getElem?_eq_getElem hi]⟩
theorem slc_scr {ns : List Int} {lo hi : Option Int} : slcD (.scr ns) lo hi = some (.ow 1 (.lst ((cutL ns lo hi).map D.int))) := rfl
theorem slc_tup {ds : List D} {lo hi : Option Int} : slcD (.tup ds) lo hi = some (.fz (.tup (cutL ds lo hi))) := rfl
theorem slc_lst {ds : List D} {lo hi : Option Int} : slcD (.lst ds) lo hi = some (.ow 1 (.lst (cutL ds lo hi))) := rfl
theorem cut_pre {α : Type} (xs : List α) (k : Nat) : cutL xs none (some (k : Int)) = xs.take k := by
  unfold cutL
  have e1 : HT.sIx xs.length 0 none = 0 := rfl
  rw [e1, HT.sIx_nat, List.drop_zero, Nat.sub_zero, List.take_eq_take_iff]
  omega
theorem cut_suf {α : Type} (xs : List α) (k : Nat) : cutL xs (some (k : Int)) none = xs.drop k := by
  unfold cutL
  have e1 : HT.sIx xs.length xs.length none = xs.length := rfl
  rw [e1, HT.sIx_nat]
  rw [List.take_of_length_le (by rw [List.length_drop]; omega)]
  by_cases h : k ≤ xs.length
  · rw [Nat.min_eq_left h]
  · rw [Nat.min_eq_right (by omega), List.drop_eq_nil_of_le (by omega), List.drop_eq_nil_of_le (by omega)]
theorem cut_mid {α : Type} (xs : List α) (i j : Nat) : cutL xs (some (i : Int)) (some (j : Int)) = (xs.drop i).take (j - i) := by
  unfold cutL
  rw [HT.sIx_nat, HT.sIx_nat]
  by_cases h : i ≤ xs.length
  · rw [Nat.min_eq_left h, List.take_eq_take_iff, List.length_drop]
    omega
  · have e : min i xs.length = xs.length := by omega
    rw [e, List.drop_eq_nil_of_le (Nat.le_refl _), List.drop_eq_nil_of_le (by omega)]; simp
theorem cut_63 (ns : List Int) (h : ns.length ≤ 63) : cutL ns none (some 63) = ns := by
  have : cutL ns none (some ((63 : Nat) : Int)) = ns.take 63 := cut_pre ns 63
  exact this.trans (List.take_of_length_le h)
theorem blsD_bl : ∀ l : List Bool, blsD (l.map D.bl) = some l
  | [] => rfl
  | a :: l => by
    show (blsD (l.map D.bl)).map (a :: ·) = _
    rw [blsD_bl l]; rfl
theorem bi_all {l : List Bool} : bi1 .all (.lst (l.map D.bl)) = some (.fz (.bl (l.all id))) := by
  show (blsD (l.map D.bl)).map (fun bs => XD.fz (.bl (bs.all id))) = _
  rw [blsD_bl]; rfl
theorem bi_any {l : List Bool} : bi1 .any (.lst (l.map D.bl)) = some (.fz (.bl (l.any id))) := by
  show (blsD (l.map D.bl)).map (fun bs => XD.fz (.bl (bs.any id))) = _
  rw [blsD_bl]; rfl
theorem intsD_int : ∀ l : List Int, intsD (l.map D.int) = some l
  | [] => rfl
  | a :: l => by
    show (intsD (l.map D.int)).map (a :: ·) = _
    rw [intsD_int l]; rfl
theorem bi_sum {l : List Int} : bi1 .sum (.lst (l.map D.int)) = some (.fz (.int l.sum)) := by
  show (intsD (l.map D.int)).map (fun ns => XD.fz (.int ns.sum)) = _
  rw [intsD_int]; rfl
@[simp] theorem bi_max2 {i j : Int} : bi1 .max (.lst [.int i, .int j]) = some (.fz (.int (max i j))) := rfl
@[simp] theorem bi_min2 {i j : Int} : bi1 .min (.lst [.int i, .int j]) = some (.fz (.int (min i j))) := rfl
@[simp] theorem bi_tupl {ds : List D} : bi1 .tuple (.lst ds) = some (.fz (.tup ds)) := rfl
@[simp] theorem bi_tupt {ds : List D} : bi1 .tuple (.tup ds) = some (.fz (.tup ds)) := rfl
@[simp] theorem bi_lstl {ds : List D} : bi1 .list (.lst ds) = some (.ow 1 (.lst ds)) := rfl
@[simp] theorem bi_lstt {ds : List D} : bi1 .list (.tup ds) = some (.ow 1 (.lst ds)) := rfl
theorem rg0 {k : Nat} (h : k ≤ 1000000) : rngX (.int 0) (.int (k : Int)) = some ((List.range k).map fun i => .int (i : Int)) := by
  rw [rng_ok (by omega)]
  unfold rgL
  simp
/-- == of things that it may be asked of -/
theorem okD_up : ∀ {n m : Nat} {d : D}, n ≤ m → okD n d → okD m d
  | n, m, .non, _, _ => by unfold okD; trivial
  | n, m, .bl _, _, _ => by unfold okD; trivial
  | n, m, .int _, _, _ => by unfold okD; trivial
  | n, m, .str x, _, h => by unfold okD at h ⊢; exact h
  | n + 1, m + 1, .tup ds, hm, h => by unfold okD at h ⊢; exact fun d hd => okD_up (Nat.le_of_succ_le_succ hm) (h d hd)
  | n + 1, m + 1, .lst ds, hm, h => by unfold okD at h ⊢; exact fun d hd => okD_up (Nat.le_of_succ_le_succ hm) (h d hd)
  | 0, m, .tup ds, _, h => by unfold okD at h; exact h.elim
  | 0, m, .lst ds, _, h => by unfold okD at h; exact h.elim
  | _, _, .obj _, _, h => by unfold okD at h; exact h.elim
  | _, _, .scr _, _, h => by unfold okD at h; exact h.elim
  | _, _, .dic _ _, _, h => by unfold okD at h; exact h.elim
  | _, _, .set _, _, h => by unfold okD at h; exact h.elim
  | _, _, .ins _ _, _, h => by unfold okD at h; exact h.elim
  | _, _, .deq _, _, h => by unfold okD at h; exact h.elim
end Ev

/-! Patterns: plain laws -/
namespace Pt
inductive P (α : Type) where
  | at (a : α)
  | row (ps : List (P α))
  | eit (ps : List (P α))
  | star (p : P α)
  | plus (p : P α)
  | may (p : P α)
inductive Rt (R : Int → Int → Prop) : Int → Int → Prop where
  | refl (i : Int) : Rt R i i
  | step {i j k : Int} (h : R i j) (t : Rt R j k) : Rt R i k
section
variable {α β : Type}
mutual
def ht : P α → Nat
  | .at _ => 0
  | .row ps => htL ps + 1
  | .eit ps => htL ps + 1
  | .star p => ht p + 1
  | .plus p => ht p + 1
  | .may p => ht p + 1
def htL : List (P α) → Nat
  | [] => 0
  | p :: ps => max (ht p) (htL ps)
end
theorem htL_le {p : P α} : ∀ {ps : List (P α)}, p ∈ ps → ht p ≤ htL ps
  | [], h => (List.not_mem_nil h).elim
  | q :: ps, h => by
    unfold htL
    rcases List.mem_cons.mp h with rfl | h
    · omega
    · have := htL_le h; omega
theorem htL_of {k : Nat} : ∀ {ps : List (P α)}, (∀ p ∈ ps, ht p ≤ k) → htL ps ≤ k
  | [], _ => Nat.zero_le _
  | q :: ps, h => by
    unfold htL
    have := h q List.mem_cons_self
    have := htL_of fun p hp => h p (List.mem_cons_of_mem _ hp)
    omega
mutual
/-- from i to j -/
def M (h : α → Int → Prop) : P α → Int → Int → Prop
  | .at a, i, j => h a i ∧ j = i + 1
  | .row ps, i, j => Mr h ps i j
  | .eit ps, i, j => Me h ps i j
  | .star p, i, j => Rt (M h p) i j
  | .plus p, i, j => ∃ k, M h p i k ∧ Rt (M h p) k j
  | .may p, i, j => i = j ∨ M h p i j
def Mr (h : α → Int → Prop) : List (P α) → Int → Int → Prop
  | [], i, j => i = j
  | p :: ps, i, j => ∃ k, M h p i k ∧ Mr h ps k j
def Me (h : α → Int → Prop) : List (P α) → Int → Int → Prop
  | [], _, _ => False
  | p :: ps, i, j => M h p i j ∨ Me h ps i j
end
theorem Me_iff {h : α → Int → Prop} {i j : Int} : ∀ {ps : List (P α)}, Me h ps i j ↔ ∃ p ∈ ps, M h p i j
  | [] => by unfold Me; simp
  | p :: ps => by unfold Me; rw [Me_iff]; simp
theorem M_at {h : α → Int → Prop} {a : α} {i j : Int} : M h (.at a) i j ↔ h a i ∧ j = i + 1 := by unfold M; exact Iff.rfl
theorem M_row {h : α → Int → Prop} {ps : List (P α)} {i j : Int} : M h (.row ps) i j ↔ Mr h ps i j := by unfold M; exact Iff.rfl
theorem M_eit {h : α → Int → Prop} {ps : List (P α)} {i j : Int} : M h (.eit ps) i j ↔ ∃ p ∈ ps, M h p i j := by
  conv => lhs; unfold M
  exact Me_iff
theorem M_star {h : α → Int → Prop} {p : P α} {i j : Int} : M h (.star p) i j ↔ Rt (M h p) i j := by unfold M; exact Iff.rfl
theorem M_plus {h : α → Int → Prop} {p : P α} {i j : Int} : M h (.plus p) i j ↔ ∃ k, M h p i k ∧ Rt (M h p) k j := by conv => lhs; unfold M
theorem M_may {h : α → Int → Prop} {p : P α} {i j : Int} : M h (.may p) i j ↔ i = j ∨ M h p i j := by conv => lhs; unfold M
theorem Mr_nil {h : α → Int → Prop} {i j : Int} : Mr h [] i j ↔ i = j := by unfold Mr; exact Iff.rfl
theorem Mr_cons {h : α → Int → Prop} {p : P α} {ps : List (P α)} {i j : Int} : Mr h (p :: ps) i j ↔ ∃ k, M h p i k ∧ Mr h ps k j := by conv => lhs; unfold Mr
theorem Mr_app {h : α → Int → Prop} {i j : Int} : ∀ {ps qs : List (P α)}, Mr h (ps ++ qs) i j ↔ ∃ k, Mr h ps i k ∧ Mr h qs k j := by
  intro ps
  induction ps generalizing i with
  | nil => intro qs; simp [Mr_nil]
  | cons p ps ih =>
    intro qs
    rw [List.cons_append, Mr_cons]
    constructor
    · rintro ⟨k, h1, h2⟩
      obtain ⟨l, h3, h4⟩ := ih.mp h2
      exact ⟨l, Mr_cons.mpr ⟨k, h1, h3⟩, h4⟩
    · rintro ⟨l, h1, h4⟩
      obtain ⟨k, h1, h3⟩ := Mr_cons.mp h1
      exact ⟨k, h1, ih.mpr ⟨l, h3, h4⟩⟩
theorem Rt.trans {R : Int → Int → Prop} {i j k : Int} (a : Rt R i j) (b : Rt R j k) : Rt R i k := by
  induction a with
  | refl => exact b
  | step h _ ih => exact .step h (ih b)
theorem Rt.one {R : Int → Int → Prop} {i j : Int} (a : R i j) : Rt R i j := .step a (.refl _)
theorem Rt.iff {R S : Int → Int → Prop} (h : ∀ i j, R i j ↔ S i j) {i j : Int} : Rt R i j ↔ Rt S i j := by
  have e : R = S := by funext i j; exact propext (h i j)
  rw [e]
/-- within the row -/
theorem M_in {h : α → Int → Prop} {L : Int} (hh : ∀ a i, h a i → 0 ≤ i ∧ i < L) : ∀ (n : Nat) (p : P α), ht p ≤ n → ∀ i j, 0 ≤ i → i ≤ L → M h p i j → i ≤ j ∧ j ≤ L := by
  have rt : ∀ {R : Int → Int → Prop}, (∀ i j, 0 ≤ i → i ≤ L → R i j → i ≤ j ∧ j ≤ L) → ∀ i j, 0 ≤ i → i ≤ L → Rt R i j → i ≤ j ∧ j ≤ L := by
    intro R hR i j h0 h1 t
    induction t with
    | refl => exact ⟨Int.le_refl _, h1⟩
    | step a _ ih =>
      have := hR _ _ h0 h1 a
      have := ih (by omega) this.2
      omega
  intro n
  induction n with
  | zero =>
    intro p hp i j h0 h1 m
    cases p with
    | «at» a =>
      obtain ⟨ma, rfl⟩ := M_at.mp m
      have := hh a i ma
      omega
    | _ => unfold ht at hp; omega
  | succ n ih =>
    intro p hp i j h0 h1 m
    cases p with
    | «at» a =>
      obtain ⟨ma, rfl⟩ := M_at.mp m
      have := hh a i ma
      omega
    | row ps =>
      unfold ht at hp
      have go : ∀ (ps : List (P α)), (∀ p ∈ ps, ht p ≤ n) → ∀ i, 0 ≤ i → i ≤ L → Mr h ps i j → i ≤ j ∧ j ≤ L := by
        intro ps
        induction ps with
        | nil => intro _ i h0 h1 m; have := Mr_nil.mp m; omega
        | cons p ps ih2 =>
          intro hq i h0 h1 m
          obtain ⟨k, m1, m2⟩ := Mr_cons.mp m
          have a := ih p (hq p List.mem_cons_self) i k h0 h1 m1
          have b := ih2 (fun p q => hq p (List.mem_cons_of_mem _ q)) k (by omega) a.2 m2
          omega
      exact go ps (fun p q => by have := htL_le q; omega) i h0 h1 (M_row.mp m)
    | eit ps =>
      unfold ht at hp
      obtain ⟨p, hq, m⟩ := M_eit.mp m
      have := htL_le hq
      exact ih p (by omega) i j h0 h1 m
    | star p =>
      unfold ht at hp
      exact rt (ih p (by omega)) i j h0 h1 (M_star.mp m)
    | plus p =>
      unfold ht at hp
      obtain ⟨k, m1, m2⟩ := M_plus.mp m
      have a := ih p (by omega) i k h0 h1 m1
      have b := rt (ih p (by omega)) k j (by omega) a.2 m2
      omega
    | may p =>
      unfold ht at hp
      rcases M_may.mp m with rfl | m
      · omega
      · exact ih p (by omega) i j h0 h1 m
/-! ### resolved -/
mutual
def res (f : α → β) : P α → P β
  | .at a => .at (f a)
  | .row ps => .row (resL f ps)
  | .eit ps => .eit (resL f ps)
  | .star p => .star (res f p)
  | .plus p => .plus (res f p)
  | .may p => .eit [res f p, .row []]
def resL (f : α → β) : List (P α) → List (P β)
  | [] => []
  | p :: ps => res f p :: resL f ps
end
theorem resL_map {f : α → β} : ∀ {ps : List (P α)}, resL f ps = ps.map (res f)
  | [] => by unfold resL; rfl
  | p :: ps => by unfold resL; rw [resL_map]; rfl
theorem ht_res {f : α → β} : ∀ (n : Nat) (p : P α), ht p ≤ n → ht (res f p) ≤ ht p + 1 + n := by
  intro n
  induction n with
  | zero =>
    intro p hp
    cases p with
    | «at» a => unfold res ht; omega
    | _ => unfold ht at hp; omega
  | succ n ih =>
    intro p hp
    have hL : ∀ ps : List (P α), htL ps ≤ n → htL (ps.map (res f)) ≤ htL ps + 1 + n := fun ps hps => htL_of fun q hq => by
      obtain ⟨p, hp, rfl⟩ := List.mem_map.mp hq
      have := htL_le hp
      have := ih p (by omega)
      omega
    cases p with
    | «at» a => unfold res ht; omega
    | row ps => unfold ht at hp; unfold res ht; rw [resL_map]; have := hL ps (by omega); omega
    | eit ps => unfold ht at hp; unfold res ht; rw [resL_map]; have := hL ps (by omega); omega
    | star p => unfold ht at hp; unfold res ht; have := ih p (by omega); omega
    | plus p => unfold ht at hp; unfold res ht; have := ih p (by omega); omega
    | may p =>
      unfold ht at hp; unfold res ht htL htL htL; have := ih p (by omega)
      have e : ht (.row [] : P β) = 1 := by unfold ht htL; rfl
      omega
theorem M_res {f : α → β} {h : α → Int → Prop} {g : β → Int → Prop} (hg : ∀ a i, g (f a) i ↔ h a i) : ∀ (n : Nat) (p : P α), ht p ≤ n → ∀ i j, M g (res f p) i j ↔ M h p i j := by
  intro n
  induction n with
  | zero =>
    intro p hp i j
    cases p with
    | «at» a => unfold res; rw [M_at, M_at, hg]
    | _ => unfold ht at hp; omega
  | succ n ih =>
    intro p hp i j
    cases p with
    | «at» a => unfold res; rw [M_at, M_at, hg]
    | row ps =>
      unfold ht at hp
      unfold res
      rw [M_row, M_row, resL_map]
      have hq : ∀ p ∈ ps, ht p ≤ n := fun p q => by have := htL_le q; omega
      clear hp
      induction ps generalizing i with
      | nil => rw [List.map_nil, Mr_nil, Mr_nil]
      | cons p ps ih2 =>
        rw [List.map_cons, Mr_cons, Mr_cons]
        exact exists_congr fun k => and_congr (ih p (hq p List.mem_cons_self) i k) (ih2 k fun p q => hq p (List.mem_cons_of_mem _ q))
    | eit ps =>
      unfold ht at hp
      unfold res
      rw [M_eit, M_eit, resL_map]
      have hq : ∀ p ∈ ps, ht p ≤ n := fun p q => by have := htL_le q; omega
      constructor
      · rintro ⟨q, hq1, m⟩
        obtain ⟨p, hp, rfl⟩ := List.mem_map.mp hq1
        exact ⟨p, hp, (ih p (hq p hp) i j).mp m⟩
      · rintro ⟨p, hp, m⟩
        exact ⟨_, List.mem_map_of_mem hp, (ih p (hq p hp) i j).mpr m⟩
    | star p =>
      unfold ht at hp
      unfold res
      rw [M_star, M_star]
      exact Rt.iff (ih p (by omega))
    | plus p =>
      unfold ht at hp
      unfold res
      rw [M_plus, M_plus]
      exact exists_congr fun k => and_congr (ih p (by omega) i k) (Rt.iff (ih p (by omega)))
    | may p =>
      unfold ht at hp
      unfold res
      rw [M_eit, M_may]
      constructor
      · rintro ⟨q, hq, m⟩
        simp only [List.mem_cons, List.not_mem_nil, or_false] at hq
        rcases hq with rfl | rfl
        · exact .inr ((ih p (by omega) i j).mp m)
        · exact .inl (Mr_nil.mp (M_row.mp m))
      · rintro (rfl | m)
        · exact ⟨.row [], by simp, M_row.mpr (Mr_nil.mpr rfl)⟩
        · exact ⟨res f p, by simp, (ih p (by omega) i j).mpr m⟩
/-! ### back to front -/
mutual
def rev : P α → P α
  | .at a => .at a
  | .row ps => .row (revL ps).reverse
  | .eit ps => .eit (revL ps)
  | .star p => .star (rev p)
  | .plus p => .plus (rev p)
  | .may p => .may (rev p)
def revL : List (P α) → List (P α)
  | [] => []
  | p :: ps => rev p :: revL ps
end
theorem revL_map : ∀ {ps : List (P α)}, revL ps = ps.map rev
  | [] => by unfold revL; rfl
  | p :: ps => by unfold revL; rw [revL_map]; rfl
theorem ht_rev : ∀ (n : Nat) (p : P α), ht p ≤ n → ht (rev p) ≤ ht p := by
  intro n
  induction n with
  | zero =>
    intro p hp
    cases p with
    | «at» a => unfold rev; exact Nat.le_refl _
    | _ => unfold ht at hp; omega
  | succ n ih =>
    intro p hp
    cases p with
    | «at» a => unfold rev; exact Nat.le_refl _
    | row ps =>
      unfold ht at hp; unfold rev ht; rw [revL_map]
      have : htL (ps.map rev).reverse ≤ htL ps := htL_of fun q hq => by
        obtain ⟨p, hp, rfl⟩ := List.mem_map.mp (List.mem_reverse.mp hq)
        have := htL_le hp
        have := ih p (by omega)
        omega
      omega
    | eit ps =>
      unfold ht at hp; unfold rev ht; rw [revL_map]
      have : htL (ps.map rev) ≤ htL ps := htL_of fun q hq => by
        obtain ⟨p, hp, rfl⟩ := List.mem_map.mp hq
        have := htL_le hp
        have := ih p (by omega)
        omega
      omega
    | star p => unfold ht at hp; unfold rev ht; have := ih p (by omega); omega
    | plus p => unfold ht at hp; unfold rev ht; have := ih p (by omega); omega
    | may p => unfold ht at hp; unfold rev ht; have := ih p (by omega); omega
theorem Rt.snoc {R : Int → Int → Prop} {i j k : Int} (a : Rt R i j) (b : R j k) : Rt R i k := a.trans (.one b)
theorem Rt.rev {R S : Int → Int → Prop} {L : Int} (h : ∀ i j, S (L - j) (L - i) ↔ R i j) {i j : Int} : Rt S (L - j) (L - i) ↔ Rt R i j := by
  constructor
  · have go : ∀ a b, Rt S a b → Rt R (L - b) (L - a) := by
      intro a b t
      induction t with
      | refl => exact .refl _
      | @step a b c x _ ih => exact ih.snoc ((h (L - b) (L - a)).mp (by rw [show L - (L - a) = a by omega, show L - (L - b) = b by omega]; exact x))
    intro t
    have := go _ _ t
    rw [show L - (L - i) = i by omega, show L - (L - j) = j by omega] at this
    exact this
  · intro t
    induction t with
    | refl => exact .refl _
    | step x _ ih => exact ih.snoc ((h _ _).mpr x)
theorem M_rev {h g : α → Int → Prop} {L : Int} (hg : ∀ a i, g a (L - 1 - i) ↔ h a i) : ∀ (n : Nat) (p : P α), ht p ≤ n → ∀ i j, M g (rev p) (L - j) (L - i) ↔ M h p i j := by
  intro n
  induction n with
  | zero =>
    intro p hp i j
    cases p with
    | «at» a =>
      unfold rev
      rw [M_at, M_at, ← hg]
      constructor
      · rintro ⟨x, y⟩
        have e : j = i + 1 := by omega
        subst e
        exact ⟨by rw [show L - 1 - i = L - (i + 1) by omega]; exact x, rfl⟩
      · rintro ⟨x, rfl⟩
        exact ⟨by rw [show L - (i + 1) = L - 1 - i by omega]; exact x, by omega⟩
    | _ => unfold ht at hp; omega
  | succ n ih =>
    intro p hp i j
    cases p with
    | «at» a =>
      unfold rev
      rw [M_at, M_at, ← hg]
      constructor
      · rintro ⟨x, y⟩
        have e : j = i + 1 := by omega
        subst e
        exact ⟨by rw [show L - 1 - i = L - (i + 1) by omega]; exact x, rfl⟩
      · rintro ⟨x, rfl⟩
        exact ⟨by rw [show L - (i + 1) = L - 1 - i by omega]; exact x, by omega⟩
    | row ps =>
      unfold ht at hp
      unfold rev
      rw [M_row, M_row, revL_map]
      have hq : ∀ p ∈ ps, ht p ≤ n := fun p q => by have := htL_le q; omega
      clear hp
      induction ps generalizing i with
      | nil => rw [List.map_nil, List.reverse_nil, Mr_nil, Mr_nil]; omega
      | cons p ps ih2 =>
        rw [List.map_cons, List.reverse_cons, Mr_app, Mr_cons]
        constructor
        · rintro ⟨k, a, b⟩
          obtain ⟨l, b, c⟩ := Mr_cons.mp b
          have c := Mr_nil.mp c
          subst c
          refine ⟨L - k, (ih p (hq p List.mem_cons_self) i (L - k)).mp (by rw [show L - (L - k) = k by omega]; exact b), (ih2 (L - k) fun p q => hq p (List.mem_cons_of_mem _ q)).mp ?_⟩
          rw [show L - (L - k) = k by omega]; exact a
        · rintro ⟨k, a, b⟩
          exact ⟨L - k, (ih2 k fun p q => hq p (List.mem_cons_of_mem _ q)).mpr b, Mr_cons.mpr ⟨L - i, (ih p (hq p List.mem_cons_self) i k).mpr a, Mr_nil.mpr rfl⟩⟩
    | eit ps =>
      unfold ht at hp
      unfold rev
      rw [M_eit, M_eit, revL_map]
      have hq : ∀ p ∈ ps, ht p ≤ n := fun p q => by have := htL_le q; omega
      constructor
      · rintro ⟨q, hq1, m⟩
        obtain ⟨p, hp, rfl⟩ := List.mem_map.mp hq1
        exact ⟨p, hp, (ih p (hq p hp) i j).mp m⟩
      · rintro ⟨p, hp, m⟩
        exact ⟨_, List.mem_map_of_mem hp, (ih p (hq p hp) i j).mpr m⟩
    | star p =>
      unfold ht at hp
      unfold rev
      rw [M_star, M_star]
      exact Rt.rev (ih p (by omega))
    | plus p =>
      unfold ht at hp
      unfold rev
      rw [M_plus, M_plus]
      have r : ∀ i j, Rt (M g (rev p)) (L - j) (L - i) ↔ Rt (M h p) i j := fun i j => Rt.rev (ih p (by omega))
      have turn : ∀ {R : Int → Int → Prop} {i j k : Int}, R i j → Rt R j k → ∃ l, Rt R i l ∧ R l k := by
        intro R i j k x t
        induction t generalizing i with
        | refl => exact ⟨_, .refl _, x⟩
        | step y _ ih => obtain ⟨l, a, b⟩ := ih y; exact ⟨l, .step x a, b⟩
      have turn2 : ∀ {R : Int → Int → Prop} {i j k : Int}, Rt R i j → R j k → ∃ l, R i l ∧ Rt R l k := by
        intro R i j k t x
        cases t with
        | refl => exact ⟨_, x, .refl _⟩
        | step y t => exact ⟨_, y, t.snoc x⟩
      constructor
      · rintro ⟨k, a, b⟩
        obtain ⟨l, a, b⟩ := turn a b
        have a' := (r (L - l) j).mp (by rw [show L - (L - l) = l by omega]; exact a)
        have b' := (ih p (by omega) i (L - l)).mp (by rw [show L - (L - l) = l by omega]; exact b)
        exact ⟨L - l, b', a'⟩
      · rintro ⟨k, a, b⟩
        exact turn2 ((r k j).mpr b) ((ih p (by omega) i k).mpr a)
    | may p =>
      unfold ht at hp
      unfold rev
      rw [M_may, M_may, ih p (by omega)]
      exact or_congr (by omega) Iff.rfl
end
/-! ### ascending lists -/
/-- the ascending list of what R leads to -/
def Im (R : Int → Int → Prop) (B : List Int) (l : List Int) : Prop := l.Pairwise (· < ·) ∧ ∀ x, x ∈ l ↔ ∃ b ∈ B, R b x
theorem Im.uniq {R : Int → Int → Prop} {B l m : List Int} (a : Im R B l) (b : Im R B m) : l = m := Ev.asc_uniq a.1 b.1 fun x => (a.2 x).trans (b.2 x).symm
theorem Im.fn {R S : Int → Int → Prop} {B l : List Int} (a : Im R B l) (h : ∀ b ∈ B, ∀ x, R b x ↔ S b x) : Im S B l :=
  ⟨a.1, fun x => (a.2 x).trans (exists_congr fun b => and_congr_right fun hb => h b hb x)⟩
theorem sub_len {a b : List Int} (na : a.Nodup) (hs : ∀ k ∈ a, k ∈ b) : a.length ≤ b.length := by
  induction a generalizing b with
  | nil => exact Nat.zero_le _
  | cons x a ih =>
    obtain ⟨n1, n2⟩ := List.nodup_cons.mp na
    have hx := hs x List.mem_cons_self
    have := ih (b := b.erase x) n2 fun k hk => (List.mem_erase_of_ne fun e => n1 (by rw [← e]; exact hk)).mpr (hs k (List.mem_cons_of_mem _ hk))
    rw [List.length_erase_of_mem hx] at this
    have := List.length_pos_of_mem hx
    rw [List.length_cons]; omega
theorem asc_nodup {l : List Int} (h : l.Pairwise (· < ·)) : l.Nodup := h.imp fun h => by omega
/-- no more than the places of a row -/
theorem asc_len {l : List Int} {L : Nat} (h : l.Pairwise (· < ·)) (hb : ∀ x ∈ l, 0 ≤ x ∧ x ≤ L) : l.length ≤ L + 1 := by
  have := sub_len (b := (List.range (L + 1)).map fun (i : Nat) => (i : Int)) (asc_nodup h) fun k hk => by
    have := hb k hk
    exact List.mem_map.mpr ⟨k.toNat, List.mem_range.mpr (by omega), by omega⟩
  simpa using this
open Ev in
theorem srt_asc : ∀ {l : List Int}, l.Nodup → (srtK ltI l).Pairwise (· < ·) ∧ ∀ x, x ∈ srtK ltI l ↔ x ∈ l := by
  have ins : ∀ (x : Int) (l : List Int), l.Pairwise (· < ·) → x ∉ l → (insK ltI x l).Pairwise (· < ·) ∧ ∀ z, z ∈ insK ltI x l ↔ z = x ∨ z ∈ l := by
    intro x l
    induction l with
    | nil => intro _ _; exact ⟨List.pairwise_singleton _ _, fun z => by simp [insK]⟩
    | cons y r ih =>
      intro h n
      obtain ⟨h1, h2⟩ := List.pairwise_cons.mp h
      have nx : x ≠ y := fun e => n (by rw [e]; exact List.mem_cons_self)
      have nr : x ∉ r := fun m => n (List.mem_cons_of_mem _ m)
      obtain ⟨i1, i2⟩ := ih h2 nr
      unfold insK
      by_cases c : y < x
      · have c' : ltI y x = true := decide_eq_true c
        rw [if_pos c']
        refine ⟨List.pairwise_cons.mpr ⟨fun z hz => ?_, i1⟩, fun z => ?_⟩
        · rcases (i2 z).mp hz with rfl | hz
          · exact c
          · exact h1 z hz
        · rw [List.mem_cons, i2, List.mem_cons]
          exact ⟨fun h => h.elim (fun h => .inr (.inl h)) fun h => h.imp id .inr, fun h => h.elim (fun h => .inr (.inl h)) fun h => h.imp id .inr⟩
      · have c' : ¬ ltI y x = true := fun q => c (of_decide_eq_true q)
        rw [if_neg c']
        refine ⟨List.pairwise_cons.mpr ⟨fun z hz => ?_, h⟩, fun z => List.mem_cons⟩
        rcases List.mem_cons.mp hz with rfl | hz
        · omega
        · have := h1 z hz; omega
  intro l
  induction l with
  | nil => intro _; exact ⟨.nil, fun x => Iff.rfl⟩
  | cons x r ih =>
    intro nd
    obtain ⟨n1, n2⟩ := List.nodup_cons.mp nd
    obtain ⟨h1, h2⟩ := ih n2
    obtain ⟨i1, i2⟩ := ins x (srtK ltI r) h1 fun m => n1 ((h2 x).mp m)
    exact ⟨i1, fun z => (i2 z).trans (by rw [h2, List.mem_cons])⟩
theorem filt_asc {l : List Int} {p : Int → Bool} (h : l.Pairwise (· < ·)) : (l.filter p).Pairwise (· < ·) := List.Pairwise.filter p h
theorem map_asc {l : List Int} (h : l.Pairwise (· < ·)) : (l.map (· + 1)).Pairwise (· < ·) := List.pairwise_map.mpr (h.imp fun h => by omega)
theorem Rt.closed {R : Int → Int → Prop} {F : List Int} (hc : ∀ x ∈ F, ∀ y, R x y → y ∈ F) {i j : Int} (hi : i ∈ F) (t : Rt R i j) : j ∈ F := by
  induction t with
  | refl => exact hi
  | step a _ ih => exact ih (hc _ hi _ a)
end Pt

/-! the defs about patterns: what they give -/
namespace Ev.PtW
open PySem L2 Pt
/-- parts_of: pattern -/
def c_parts_of : Code := ⟨1, 1, (.cons (.ife (.cmp .In (.idx (.var 0) (.con (.int 0))) (.tup (.cons (.con (.str [114, 111, 119])) (.cons (.con (.str [101, 105, 116, 104, 101, 114])) .nil)))) (.cons (.ret (.bi .list (.idx (.var 0) (.con (.int 1))))) .nil) .nil) (.cons (.ret (.ite (.cmp .In (.idx (.var 0) (.con (.int 0))) (.tup (.cons (.con (.str [115, 116, 97, 114])) (.cons (.con (.str [112, 108, 117, 115])) (.cons (.con (.str [109, 97, 121, 98, 101])) .nil))))) (.lst 0 (.cons (.idx (.var 0) (.con (.int 1))) .nil)) (.lst 0 .nil))) .nil))⟩
/-- items_of: pattern, part -/
def c_items_of (i_items_of i_parts_of : Nat) : Code := ⟨1, 2, (.cons (.ife (.cmp .In (.idx (.var 0) (.con (.int 0))) (.tup (.cons (.con (.str [97, 110, 121])) (.cons (.con (.str [99, 108, 97, 115, 115])) (.cons (.con (.str [110, 111, 116])) .nil))))) (.cons (.ret (.con (.int 1))) .nil) .nil) (.cons (.ret (.bi .sum (.lc 0 (.nm 1) (.e (.call i_parts_of (.cons (.var 0) .nil))) .nil (.call i_items_of (.cons (.var 1) .nil))))) .nil))⟩
/-- names_in: pattern, part, name -/
def c_names_in (i_names_in i_parts_of : Nat) : Code := ⟨1, 3, (.cons (.ife (.cmp .In (.idx (.var 0) (.con (.int 0))) (.tup (.cons (.con (.str [99, 108, 97, 115, 115])) (.cons (.con (.str [110, 111, 116])) .nil)))) (.cons (.ret (.lst 0 (.cons (.idx (.var 0) (.con (.int 1))) .nil))) .nil) .nil) (.cons (.ret (.lc2 0 (.nm 1) (.e (.call i_parts_of (.cons (.var 0) .nil))) .nil (.nm 2) (.e (.call i_names_in (.cons (.var 1) .nil))) .nil (.var 2))) .nil))⟩
/-- reversed_pattern: pattern, kind, part -/
def c_reversed_pattern (i_reversed_pattern : Nat) : Code := ⟨1, 3, (.cons (.set 1 false (.idx (.var 0) (.con (.int 0)))) (.cons (.ife (.cmp .Eq (.var 1) (.con (.str [114, 111, 119]))) (.cons (.ret (.tup (.cons (.con (.str [114, 111, 119])) (.cons (.bi .tuple (.lc 0 (.nm 2) (.e (.rev (.idx (.var 0) (.con (.int 1))))) .nil (.call i_reversed_pattern (.cons (.var 2) .nil)))) .nil)))) .nil) .nil) (.cons (.ife (.cmp .Eq (.var 1) (.con (.str [101, 105, 116, 104, 101, 114]))) (.cons (.ret (.tup (.cons (.con (.str [101, 105, 116, 104, 101, 114])) (.cons (.bi .tuple (.lc 0 (.nm 2) (.e (.idx (.var 0) (.con (.int 1)))) .nil (.call i_reversed_pattern (.cons (.var 2) .nil)))) .nil)))) .nil) .nil) (.cons (.ret (.ite (.cmp .In (.var 1) (.tup (.cons (.con (.str [115, 116, 97, 114])) (.cons (.con (.str [112, 108, 117, 115])) (.cons (.con (.str [109, 97, 121, 98, 101])) .nil))))) (.tup (.cons (.var 1) (.cons (.call i_reversed_pattern (.cons (.idx (.var 0) (.con (.int 1))) .nil)) .nil))) (.var 0))) .nil))))⟩
/-- resolved: pattern, names, kind, part, number, name -/
def c_resolved (i_resolved : Nat) : Code := ⟨2, 6, (.cons (.set 2 false (.idx (.var 0) (.con (.int 0)))) (.cons (.ife (.cmp .Eq (.var 2) (.con (.str [97, 110, 121]))) (.cons (.ret (.tup (.cons (.con (.str [105, 110])) (.cons (.lrg1 true (.bi .len (.var 1))) .nil)))) .nil) .nil) (.cons (.ife (.cmp .Eq (.var 2) (.con (.str [99, 108, 97, 115, 115]))) (.cons (.ret (.tup (.cons (.con (.str [105, 110])) (.cons (.bi .tuple (.lc 0 (.tp (.cons (.nm 4) (.cons (.nm 5) .nil))) (.enum (.var 1)) (.cons (.cmp .Eq (.var 5) (.idx (.var 0) (.con (.int 1)))) .nil) (.var 4))) .nil)))) .nil) .nil) (.cons (.ife (.cmp .Eq (.var 2) (.con (.str [110, 111, 116]))) (.cons (.ret (.tup (.cons (.con (.str [105, 110])) (.cons (.bi .tuple (.lc 0 (.tp (.cons (.nm 4) (.cons (.nm 5) .nil))) (.enum (.var 1)) (.cons (.cmp .NotEq (.var 5) (.idx (.var 0) (.con (.int 1)))) .nil) (.var 4))) .nil)))) .nil) .nil) (.cons (.ife (.cmp .In (.var 2) (.tup (.cons (.con (.str [114, 111, 119])) (.cons (.con (.str [101, 105, 116, 104, 101, 114])) .nil)))) (.cons (.ret (.tup (.cons (.var 2) (.cons (.bi .tuple (.lc 0 (.nm 3) (.e (.idx (.var 0) (.con (.int 1)))) .nil (.call i_resolved (.cons (.var 3) (.cons (.var 1) .nil))))) .nil)))) .nil) .nil) (.cons (.set 3 false (.call i_resolved (.cons (.idx (.var 0) (.con (.int 1))) (.cons (.var 1) .nil)))) (.cons (.ret (.ite (.cmp .Eq (.var 2) (.con (.str [109, 97, 121, 98, 101]))) (.tup (.cons (.con (.str [101, 105, 116, 104, 101, 114])) (.cons (.tup (.cons (.var 3) (.cons (.glb "NOTHING" (.tup [(.str [114, 111, 119]), (.tup [])])) .nil))) .nil))) (.tup (.cons (.var 2) (.cons (.var 3) .nil))))) .nil)))))))⟩
/-- ends_of: pattern, row, begins, found, fresh, part, at -/
def c_ends_of (i_ends_of : Nat) : Code := ⟨3, 7, (.cons (.ife (.cmp .Eq (.idx (.var 0) (.con (.int 0))) (.con (.str [105, 110]))) (.cons (.ret (.lc 0 (.nm 6) (.e (.var 2)) (.cons (.and (.cons (.cmp .Lt (.var 6) (.bi .len (.var 1))) (.cons (.cmp .In (.idx (.var 1) (.var 6)) (.idx (.var 0) (.con (.int 1)))) .nil))) .nil) (.bin .Add (.var 6) (.con (.int 1))))) .nil) .nil) (.cons (.ife (.cmp .Eq (.idx (.var 0) (.con (.int 0))) (.con (.str [114, 111, 119]))) (.cons (.for (.nm 5) (.e (.idx (.var 0) (.con (.int 1)))) (.cons (.set 2 false (.call i_ends_of (.cons (.var 5) (.cons (.var 1) (.cons (.var 2) .nil))))) .nil)) (.cons (.ret (.var 2)) .nil)) .nil) (.cons (.ife (.cmp .Eq (.idx (.var 0) (.con (.int 0))) (.con (.str [101, 105, 116, 104, 101, 114]))) (.cons (.ret (.ssc (.nm 5) (.e (.idx (.var 0) (.con (.int 1)))) .nil (.nm 6) (.e (.call i_ends_of (.cons (.var 5) (.cons (.var 1) (.cons (.var 2) .nil))))) .nil (.var 6))) .nil) .nil) (.cons (.set 3 false (.ite (.cmp .Eq (.idx (.var 0) (.con (.int 0))) (.con (.str [115, 116, 97, 114]))) (.bi .list (.var 2)) (.lst 0 .nil))) (.cons (.set 4 false (.call i_ends_of (.cons (.idx (.var 0) (.con (.int 1))) (.cons (.var 1) (.cons (.var 2) .nil))))) (.cons (.whl (.bi .any (.lc 0 (.nm 6) (.e (.var 4)) .nil (.cmp .NotIn (.var 6) (.var 3)))) (.cons (.set 4 false (.lc 0 (.nm 6) (.e (.var 4)) (.cons (.cmp .NotIn (.var 6) (.var 3)) .nil) (.var 6))) (.cons (.set 3 false (.bi .sorted (.lsts (.star (.var 3) (.star (.var 4) .nil))))) (.cons (.set 4 false (.call i_ends_of (.cons (.idx (.var 0) (.con (.int 1))) (.cons (.var 1) (.cons (.var 4) .nil))))) .nil)))) (.cons (.ret (.var 3)) .nil)))))))⟩
/-- does_match: pattern, names, row -/
def c_does_match (i_ends_of i_resolved : Nat) : Code := ⟨3, 3, (.cons (.ret (.cmp .In (.bi .len (.var 2)) (.call i_ends_of (.cons (.call i_resolved (.cons (.var 0) (.cons (.var 1) .nil))) (.cons (.var 2) (.cons (.lst 0 (.cons (.con (.int 0)) .nil)) .nil)))))) .nil)⟩
/-- _law_item: draw, names, kind -/
def c__law_item (i__law_next i__law_pick : Nat) : Code := ⟨2, 3, (.cons (.set 2 false (.call i__law_next (.cons (.var 0) (.cons (.con (.int 5)) .nil)))) (.cons (.ife (.cmp .Eq (.var 2) (.con (.int 0))) (.cons (.ret (.tup (.cons (.con (.str [97, 110, 121])) .nil))) .nil) .nil) (.cons (.ret (.tup (.cons (.ite (.cmp .Eq (.var 2) (.con (.int 1))) (.con (.str [110, 111, 116])) (.con (.str [99, 108, 97, 115, 115]))) (.cons (.call i__law_pick (.cons (.var 0) (.cons (.var 1) .nil))) .nil)))) .nil)))⟩
/-- _law_pattern: draw, names, room, deep, kind, one, other -/
def c__law_pattern (i__law_item i__law_next i__law_pattern i__law_pick : Nat) : Code := ⟨4, 7, (.cons (.ife (.or (.cons (.cmp .Lt (.idx (.var 2) (.con (.int 0))) (.con (.int 1))) (.cons (.and (.cons (.cmp .Eq (.var 3) (.con (.int 3))) (.cons (.cmp .Eq (.call i__law_next (.cons (.var 0) (.cons (.con (.int 6)) .nil))) (.con (.int 0))) .nil))) .nil))) (.cons (.ret (.tup (.cons (.con (.str [114, 111, 119])) (.cons (.tup .nil) .nil)))) .nil) .nil) (.cons (.set 4 false (.call i__law_next (.cons (.var 0) (.cons (.con (.int 8)) .nil)))) (.cons (.ife (.and (.cons (.cmp .Gt (.var 3) (.con (.int 0))) (.cons (.cmp .Gt (.var 4) (.con (.int 4))) (.cons (.cmp .Gt (.idx (.var 2) (.con (.int 0))) (.con (.int 1))) .nil)))) (.cons (.set 5 false (.call i__law_pattern (.cons (.var 0) (.cons (.var 1) (.cons (.var 2) (.cons (.bin .Sub (.var 3) (.con (.int 1))) .nil)))))) (.cons (.set 6 false (.call i__law_pattern (.cons (.var 0) (.cons (.var 1) (.cons (.var 2) (.cons (.bin .Sub (.var 3) (.con (.int 1))) .nil)))))) (.cons (.ret (.tup (.cons (.ite (.cmp .Lt (.var 4) (.con (.int 7))) (.con (.str [114, 111, 119])) (.con (.str [101, 105, 116, 104, 101, 114]))) (.cons (.tup (.cons (.var 5) (.cons (.var 6) .nil))) .nil)))) .nil))) .nil) (.cons (.ife (.and (.cons (.cmp .Gt (.var 3) (.con (.int 0))) (.cons (.cmp .Gt (.var 4) (.con (.int 2))) .nil))) (.cons (.ret (.tup (.cons (.call i__law_pick (.cons (.var 0) (.cons (.lst 0 (.cons (.con (.str [115, 116, 97, 114])) (.cons (.con (.str [112, 108, 117, 115])) (.cons (.con (.str [109, 97, 121, 98, 101])) .nil)))) .nil))) (.cons (.call i__law_pattern (.cons (.var 0) (.cons (.var 1) (.cons (.var 2) (.cons (.bin .Sub (.var 3) (.con (.int 1))) .nil))))) .nil)))) .nil) .nil) (.cons (.seti 2 (.con (.int 0)) (.bin .Sub (.idx (.var 2) (.con (.int 0))) (.con (.int 1)))) (.cons (.ret (.call i__law_item (.cons (.var 0) (.cons (.var 1) .nil)))) .nil))))))⟩
/-- _law_ends: pattern, names, row, begins, kind, found, some, turn, part, at -/
def c__law_ends (i__law_ends : Nat) : Code := ⟨4, 10, (.cons (.set 4 false (.idx (.var 0) (.con (.int 0)))) (.cons (.ife (.cmp .In (.var 4) (.tup (.cons (.con (.str [97, 110, 121])) (.cons (.con (.str [99, 108, 97, 115, 115])) (.cons (.con (.str [110, 111, 116])) .nil))))) (.cons (.set 5 false (.lc 0 (.nm 9) (.e (.var 3)) (.cons (.cmp .Lt (.var 9) (.bi .len (.var 2))) .nil) (.var 9))) (.cons (.ife (.cmp .Eq (.var 4) (.con (.str [99, 108, 97, 115, 115]))) (.cons (.ret (.lc 0 (.nm 9) (.e (.var 5)) (.cons (.cmp .Eq (.idx (.var 1) (.idx (.var 2) (.var 9))) (.idx (.var 0) (.con (.int 1)))) .nil) (.bin .Add (.var 9) (.con (.int 1))))) .nil) .nil) (.cons (.ret (.lc 0 (.nm 9) (.e (.var 5)) (.cons (.or (.cons (.cmp .Eq (.var 4) (.con (.str [97, 110, 121]))) (.cons (.cmp .NotEq (.idx (.var 1) (.idx (.var 2) (.var 9))) (.idx (.var 0) (.con (.int 1)))) .nil))) .nil) (.bin .Add (.var 9) (.con (.int 1))))) .nil))) .nil) (.cons (.ife (.cmp .Eq (.var 4) (.con (.str [114, 111, 119]))) (.cons (.for (.nm 8) (.e (.idx (.var 0) (.con (.int 1)))) (.cons (.set 3 false (.call i__law_ends (.cons (.var 8) (.cons (.var 1) (.cons (.var 2) (.cons (.var 3) .nil)))))) .nil)) (.cons (.ret (.var 3)) .nil)) .nil) (.cons (.ife (.cmp .Eq (.var 4) (.con (.str [101, 105, 116, 104, 101, 114]))) (.cons (.set 5 false (.lst 0 .nil)) (.cons (.for (.nm 8) (.e (.idx (.var 0) (.con (.int 1)))) (.cons (.set 5 false (.bin .Add (.var 5) (.call i__law_ends (.cons (.var 8) (.cons (.var 1) (.cons (.var 2) (.cons (.var 3) .nil))))))) .nil)) (.cons (.ret (.sset (.var 5))) .nil))) .nil) (.cons (.ife (.cmp .Eq (.var 4) (.con (.str [109, 97, 121, 98, 101]))) (.cons (.ret (.sset (.bin .Add (.var 3) (.call i__law_ends (.cons (.idx (.var 0) (.con (.int 1))) (.cons (.var 1) (.cons (.var 2) (.cons (.var 3) .nil)))))))) .nil) .nil) (.cons (.set 5 false (.ite (.cmp .Eq (.var 4) (.con (.str [115, 116, 97, 114]))) (.bi .list (.var 3)) (.lst 0 .nil))) (.cons (.set 6 false (.bi .list (.var 3))) (.cons (.for (.nm 7) (.rng1 (.bin .Add (.bi .len (.var 2)) (.con (.int 2)))) (.cons (.set 6 false (.lc 0 (.nm 9) (.e (.call i__law_ends (.cons (.idx (.var 0) (.con (.int 1))) (.cons (.var 1) (.cons (.var 2) (.cons (.var 6) .nil)))))) (.cons (.cmp .NotIn (.var 9) (.var 5)) .nil) (.var 9))) (.cons (.set 5 false (.sset (.bin .Add (.var 5) (.var 6)))) .nil))) (.cons (.ret (.var 5)) .nil)))))))))⟩
/-- _law_all: many, length, turn, found, late, some, row, number -/
def c__law_all : Code := ⟨2, 8, (.cons (.par [(3, false), (4, false)] (.cons (.lst 0 (.cons (.tup .nil) .nil)) (.cons (.lst 0 (.cons (.tup .nil) .nil)) .nil))) (.cons (.for (.nm 2) (.rng1 (.var 1)) (.cons (.set 5 false (.lst 0 .nil)) (.cons (.for (.nm 6) (.e (.var 4)) (.cons (.set 5 false (.bin .Add (.var 5) (.lc 0 (.nm 7) (.rng1 (.var 0)) .nil (.bin .Add (.var 6) (.tup (.cons (.var 7) .nil)))))) .nil)) (.cons (.set 4 false (.var 5)) (.cons (.set 3 false (.bin .Add (.var 3) (.var 4))) .nil))))) (.cons (.ret (.var 3)) .nil)))⟩
/-- _law_counted: pattern, found, part -/
def c__law_counted (i__law_counted : Nat) : Code := ⟨1, 3, (.cons (.ife (.cmp .Eq (.idx (.var 0) (.con (.int 0))) (.con (.str [97, 110, 121]))) (.cons (.ret (.lst 0 (.cons (.con .non) .nil))) .nil) .nil) (.cons (.ife (.cmp .In (.idx (.var 0) (.con (.int 0))) (.tup (.cons (.con (.str [99, 108, 97, 115, 115])) (.cons (.con (.str [110, 111, 116])) .nil)))) (.cons (.ret (.lst 0 (.cons (.idx (.var 0) (.con (.int 1))) .nil))) .nil) .nil) (.cons (.set 1 false (.lst 0 .nil)) (.cons (.for (.nm 2) (.e (.ite (.cmp .In (.idx (.var 0) (.con (.int 0))) (.tup (.cons (.con (.str [114, 111, 119])) (.cons (.con (.str [101, 105, 116, 104, 101, 114])) .nil)))) (.idx (.var 0) (.con (.int 1))) (.tup (.cons (.idx (.var 0) (.con (.int 1))) .nil)))) (.cons (.set 1 false (.bin .Add (.var 1) (.call i__law_counted (.cons (.var 2) .nil)))) .nil)) (.cons (.ret (.var 1)) .nil)))))⟩
abbrev tIn : Tx := [105, 110]
abbrev tRow : Tx := [114, 111, 119]
abbrev tEit : Tx := [101, 105, 116, 104, 101, 114]
abbrev tStar : Tx := [115, 116, 97, 114]
abbrev tPlus : Tx := [112, 108, 117, 115]
abbrev tMay : Tx := [109, 97, 121, 98, 101]
abbrev tAny : Tx := [97, 110, 121]
abbrev tCls : Tx := [99, 108, 97, 115, 115]
abbrev tNot : Tx := [110, 111, 116]
/-- items of a pattern -/
inductive A where
  | any | cls (x : Tx) | non (x : Tx)
def eA : A → D
  | .any => .tup [.str tAny]
  | .cls x => .tup [.str tCls, .str x]
  | .non x => .tup [.str tNot, .str x]
def eR (cs : List Int) : D := .tup [.str tIn, .tup (cs.map .int)]
mutual
def enc {α : Type} (f : α → D) : P α → D
  | .at a => f a
  | .row ps => .tup [.str tRow, .tup (encL f ps)]
  | .eit ps => .tup [.str tEit, .tup (encL f ps)]
  | .star p => .tup [.str tStar, enc f p]
  | .plus p => .tup [.str tPlus, enc f p]
  | .may p => .tup [.str tMay, enc f p]
def encL {α : Type} (f : α → D) : List (P α) → List D
  | [] => []
  | p :: ps => enc f p :: encL f ps
end
theorem encL_map {α : Type} {f : α → D} : ∀ {ps : List (P α)}, encL f ps = ps.map (enc f)
  | [] => by unfold encL; rfl
  | p :: ps => by unfold encL; rw [encL_map]; rfl
section
variable {α : Type} {f : α → D} {a : α} {p : P α} {ps : List (P α)}
theorem enc_at : enc f (.at a) = f a := by unfold enc; rfl
theorem enc_row : enc f (.row ps) = .tup [.str tRow, .tup (ps.map (enc f))] := by conv => lhs; unfold enc; rw [encL_map]
theorem enc_eit : enc f (.eit ps) = .tup [.str tEit, .tup (ps.map (enc f))] := by conv => lhs; unfold enc; rw [encL_map]
theorem enc_star : enc f (.star p) = .tup [.str tStar, enc f p] := by conv => lhs; unfold enc
theorem enc_plus : enc f (.plus p) = .tup [.str tPlus, enc f p] := by conv => lhs; unfold enc
theorem enc_may : enc f (.may p) = .tup [.str tMay, enc f p] := by conv => lhs; unfold enc
end
mutual
/-- the longest row of parts -/
def wd {α : Type} : P α → Nat
  | .at _ => 0
  | .row ps => max ps.length (wdL ps)
  | .eit ps => max ps.length (wdL ps)
  | .star p => wd p
  | .plus p => wd p
  | .may p => wd p
def wdL {α : Type} : List (P α) → Nat
  | [] => 0
  | p :: ps => max (wd p) (wdL ps)
end
theorem wdL_le {α : Type} {p : P α} : ∀ {ps : List (P α)}, p ∈ ps → wd p ≤ wdL ps
  | [], h => (List.not_mem_nil h).elim
  | q :: ps, h => by
    unfold wdL
    rcases List.mem_cons.mp h with rfl | h
    · omega
    · have := wdL_le h; omega
/-! ### ints, lists of ints -/
abbrev lI (l : List Int) : D := .lst (l.map .int)
abbrev tI (l : List Int) : D := .tup (l.map .int)
theorem any_int (x : Int) : ∀ l : List Int, ((l.map D.int).any fun d => eqv d (.int x)) = decide (x ∈ l)
  | [] => by simp
  | y :: l => by
    rw [List.map_cons, List.any_cons, any_int x l]
    simp only [eqv, List.mem_cons]
    by_cases h : y = x
    · simp [h]
    · have : ¬ x = y := fun e => h e.symm
      simp [h, this]
theorem in_lI {x : Int} {l : List Int} : inD (.int x) (.lst (l.map .int)) = some (decide (x ∈ l)) := by
  simp only [inD]
  rw [if_pos (.inl ⟨rfl, fun d hd => by obtain ⟨y, _, rfl⟩ := List.mem_map.mp hd; rfl⟩), any_int]
theorem in_tI {x : Int} {l : List Int} : inD (.int x) (.tup (l.map .int)) = some (decide (x ∈ l)) := by
  simp only [inD]
  rw [if_pos ⟨rfl, fun d hd => by obtain ⟨y, _, rfl⟩ := List.mem_map.mp hd; rfl⟩, any_int]
theorem in_s2 {s a b : Tx} : inD (.str s) (.tup [.str a, .str b]) = some (a == s || b == s) := by
  simp only [inD]
  rw [if_pos ⟨rfl, by simp [flatD]⟩]
  simp [eqv]
theorem in_s3 {s a b c : Tx} : inD (.str s) (.tup [.str a, .str b, .str c]) = some (a == s || (b == s || c == s)) := by
  simp only [inD]
  rw [if_pos ⟨rfl, by simp [flatD]⟩]
  simp [eqv]
theorem fzL_fz : ∀ (l : List D) (r : List XD), fzL (l.map XD.fz ++ r) = (fzL r).map (l ++ ·)
  | [], r => by simp
  | d :: l, r => by
    rw [List.map_cons, List.cons_append]
    simp only [fzL, fzd_fz, Option.bind_some, fzL_fz l r, Option.map_map]
    rfl
theorem sorted_lI {l : List Int} : bi1 .sorted (.lst (l.map .int)) = some (.ow 1 (.lst ((srtK ltI l).map .int))) := by
  show (sortL (l.map D.int)).map (fun es => XD.ow 1 (.lst es)) = _
  unfold sortL
  rw [intsD_int]
  rfl
theorem ssetD_lI {l : List Int} (h1 : l.length + 1 < 4096) (h2 : (sdI l).length < 64) : ssetD (.lst (l.map .int)) = some (.ow 1 (.lst ((sdI l).map .int))) := by
  simp only [ssetD, intsD_int, Option.bind_some]
  rw [if_pos ⟨h1, h2⟩]
/-! ### what a relation leads to -/
open Classical in
noncomputable def im (L : Nat) (R : Int → Int → Prop) (B : List Int) : List Int := ((List.range (L + 1)).map fun (i : Nat) => (i : Int)).filter fun x => decide (∃ b ∈ B, R b x)
theorem rg_asc : ∀ (L : Nat), ((List.range L).map fun (i : Nat) => (i : Int)).Pairwise (· < ·) := fun L => List.pairwise_map.mpr (List.pairwise_lt_range.imp fun h => by omega)
theorem im_ok {L : Nat} {R : Int → Int → Prop} {B : List Int} (h : ∀ b ∈ B, ∀ x, R b x → 0 ≤ x ∧ x ≤ L) : Im R B (im L R B) := by
  refine ⟨filt_asc (rg_asc _), fun x => ?_⟩
  unfold im
  simp only [List.mem_filter, decide_eq_true_eq]
  refine ⟨fun a => a.2, fun a => ⟨?_, a⟩⟩
  obtain ⟨b, hb, r⟩ := a
  have := h b hb x r
  exact List.mem_map.mpr ⟨x.toNat, List.mem_range.mpr (by omega), by omega⟩
theorem im_mem {L : Nat} {R : Int → Int → Prop} {B : List Int} {x : Int} (h : x ∈ im L R B) : 0 ≤ x ∧ x ≤ L := by
  unfold im at h
  obtain ⟨h1, _⟩ := List.mem_filter.mp h
  obtain ⟨i, hi, rfl⟩ := List.mem_map.mp h1
  have := List.mem_range.mp hi
  omega
/-- a list of places -/
def Pl (L : Nat) (B : List Int) : Prop := B.Pairwise (· < ·) ∧ ∀ b ∈ B, 0 ≤ b ∧ b ≤ L
theorem Pl.len {L : Nat} {B : List Int} (h : Pl L B) : B.length ≤ L + 1 := asc_len h.1 h.2
theorem im_pl {L : Nat} {R : Int → Int → Prop} {B : List Int} : Pl L (im L R B) := ⟨filt_asc (rg_asc _), fun _ h => im_mem h⟩
theorem im_eq {L : Nat} {R : Int → Int → Prop} {B l : List Int} (h : ∀ b ∈ B, ∀ x, R b x → 0 ≤ x ∧ x ≤ L) (a : Im R B l) : l = im L R B := a.uniq (im_ok h)
/-- a list, owned or not -/
def Ls (x : XD) (d : D) : Prop := x = .fz d ∨ x = .ow 1 d
/-! ### comprehensions of two fors that only read -/
theorem lc2M_map {α : Type} {g : D → List D → Sto → R (List D)} {O : Sto} (enc : α → D) (out : α → List D) : ∀ (xs : List α) (acc : List D), (∀ a ∈ xs, ∀ acc, acc.length + (out a).length ≤ sizeLine → g (enc a) acc O = .ok (acc ++ out a) O) →
    acc.length + (xs.flatMap out).length ≤ sizeLine → lc2M g (xs.map enc) acc O = .ok (acc ++ xs.flatMap out) O
  | [], acc, _, _ => by unfold lc2M; simp
  | a :: xs, acc, h, hl => by
    rw [List.flatMap_cons, List.length_append] at hl
    rw [List.map_cons]
    unfold lc2M
    rw [h a List.mem_cons_self acc (by omega)]
    show lc2M g (xs.map enc) (acc ++ out a) O = _
    rw [lc2M_map enc out xs (acc ++ out a) (fun b hb => h b (List.mem_cons_of_mem _ hb)) (by rw [List.length_append]; omega), List.flatMap_cons, List.append_assoc]
/-- no tests: what the second source gives, an item each -/
theorem lc2S_map {α β : Type} {call : Nat → List D → Sto → R XD} {m : Nat} {t t1 : T} {i1 : I} {e : E} {env : List Sl} {O : Sto} (xs : List α) (enc : α → D) (src : α → List β) (e2 : β → D) (g : β → D)
    (h : ∀ a ∈ xs, ∃ env1, asg t (enc a) (wipeE env (t.own ++ t1.own)) = some env1 ∧ evI call i1 env1 O = .ok ((src a).map e2) O ∧ ∀ b ∈ src a, ((R.ofO (asg t1 (e2 b) (wipeE env1 t1.own)) O).bind fun env' O2 => (ev call e env' O2).bind fun x O4 => .ofO (x.kid m) O4) = .ok (g b) O)
    (hl : (xs.flatMap fun a => (src a).map g).length ≤ sizeLine) : lc2S call m t .nil t1 i1 .nil e env (xs.map enc) O = .ok (xs.flatMap fun a => (src a).map g) O := by
  unfold lc2S
  have := lc2M_map (O := O) (g := fun d acc O2 => (R.ofO (asg t d (wipeE env (t.own ++ t1.own))) O2).bind fun env1 O2 => (evC call .nil env1 O2).bind fun b O3 => if b = true then (evI call i1 env1 O3).bind fun ds1 O4 => lcM (fun d O2 => (R.ofO (asg t1 d (wipeE env1 t1.own)) O2).bind fun env' O2 => (evC call .nil env' O2).bind fun b O3 => if b = true then (ev call e env' O3).bind fun x O4 => .ofO ((x.kid m).map some) O4 else .ok none O3) ds1 acc O4 else .ok acc O3)
    enc (fun a => (src a).map g) xs [] (fun a ha acc hacc => by
      obtain ⟨env1, h1, h2, h3⟩ := h a ha
      rw [h1]
      simp only [R.ofO_some, R.bind_ok, evC, if_true, h2]
      have := lcM_fm (f := fun d O2 => (R.ofO (asg t1 d (wipeE env1 t1.own)) O2).bind fun env' O2 => (ev call e env' O2).bind fun x O4 => .ofO ((x.kid m).map some) O4) (g := fun b => some (g b)) (enc := e2) (src a) acc O (fun b hb => by
        have k := h3 b hb
        cases q : R.ofO (asg t1 (e2 b) (wipeE env1 t1.own)) O with
        | exc x O1 => rw [q] at k; cases k
        | stk => rw [q] at k; cases k
        | ok env' O1 =>
          rw [q] at k
          simp only [R.bind_ok] at k ⊢
          cases q2 : ev call e env' O1 with
          | exc x O2 => rw [q2] at k; cases k
          | stk => rw [q2] at k; cases k
          | ok x O2 =>
            rw [q2] at k
            simp only [R.bind_ok] at k ⊢
            cases q3 : x.kid m with
            | none => rw [q3] at k; cases k
            | some z => rw [q3] at k; cases k; rfl) (by simpa using hacc)
      rw [List.filterMap_eq_map'] at this
      exact this) (by simpa using hl)
  simpa using this
/-! ### ends_of -/
/-- an item of a resolved pattern at a place -/
def hRb (rw : List Int) (cs : List Int) (i : Int) : Bool := decide (0 ≤ i) && (rw[i.toNat]?.any fun r => decide (r ∈ cs))
def hR (rw : List Int) (cs : List Int) (i : Int) : Prop := hRb rw cs i = true
theorem hR_in {rw cs : List Int} {i : Int} (h : hR rw cs i) : 0 ≤ i ∧ i < (rw.length : Nat) := by
  unfold hR hRb at h
  simp only [Bool.and_eq_true, decide_eq_true_eq] at h
  obtain ⟨h0, h1⟩ := h
  cases q : rw[i.toNat]? with
  | none => rw [q] at h1; cases h1
  | some r =>
    have := (List.getElem?_eq_some_iff.mp q).1
    omega
theorem hRi {rw : List Int} : ∀ (cs : List Int) (i : Int), hR rw cs i → 0 ≤ i ∧ i < (rw.length : Nat) := fun _ _ => hR_in
section
variable {C : List Code} {n : Nat} {O : Sto} {rw : List Int} {L : Nat}
theorem M_le {α : Type} {h : α → Int → Prop} (hh : ∀ a i, h a i → 0 ≤ i ∧ i < (L : Int)) {p : P α} {B : List Int} (hB : Pl L B) : ∀ b ∈ B, ∀ x, M h p b x → 0 ≤ x ∧ x ≤ L := fun b hb x m => by
  have := hB.2 b hb
  have := M_in hh (ht p) p (Nat.le_refl _) b x this.1 this.2 m
  omega
theorem Mr_le {α : Type} {h : α → Int → Prop} (hh : ∀ a i, h a i → 0 ≤ i ∧ i < (L : Int)) {ps : List (P α)} {B : List Int} (hB : Pl L B) : ∀ b ∈ B, ∀ x, Mr h ps b x → 0 ≤ x ∧ x ≤ L := fun b hb x m => M_le hh (p := .row ps) hB b hb x (M_row.mpr m)
/-- an item -/
theorem im_at {α : Type} {h : α → Int → Prop} {hb : α → Int → Bool} (he : ∀ a i, h a i ↔ hb a i = true) (hh : ∀ a i, h a i → 0 ≤ i ∧ i < (L : Int)) {a : α} {B : List Int} (hB : Pl L B) : (B.filter (hb a)).map (· + 1) = im L (M h (.at a)) B := by
  refine im_eq (M_le hh hB) ⟨map_asc (filt_asc hB.1), fun x => ?_⟩
  simp only [List.mem_map, List.mem_filter, M_at, he]
  exact ⟨fun ⟨b, ⟨h1, h2⟩, e⟩ => ⟨b, h1, h2, e.symm⟩, fun ⟨b, h1, h2, e⟩ => ⟨b, ⟨h1, h2⟩, e.symm⟩⟩
theorem end_at {f : Nat} (h : C[f]? = some (c_ends_of f)) {cs B : List Int} (hr : rw.length ≤ 60) (hB : Pl rw.length B) : run C (n + 1) f [enc eR (.at cs), tI rw, lI B] O = .ok (.ow 1 (lI (im rw.length (M (hR rw) (.at cs)) B))) O := by
  rw [← im_at (h := hR rw) (hb := hRb rw) (fun _ _ => Iff.rfl) hRi hB, run_at h rfl, enc_at]
  have lc := lcS_filt (call := run C n) (m := 0) (t := .nm 6) (c := (.cons (.and (.cons (.cmp .Lt (.var 6) (.bi .len (.var 1))) (.cons (.cmp .In (.idx (.var 1) (.var 6)) (.idx (.var 0) (.con (.int 1)))) .nil))) .nil)) (e := .bin .Add (.var 6) (.con (.int 1)))
    (env := [.va (eR cs), .va (tI rw), .va (lI B), .un, .un, .un, .un]) (O := O) B .int (hRb rw cs) (fun b => .int (b + 1)) (fun b hb => by
      have h0 := (hB.2 b hb).1
      by_cases hl : b < rw.length
      · have hi : b.toNat < rw.length := by omega
        have g := List.getElem?_eq_getElem hi
        have e : hRb rw cs b = decide (rw[b.toNat] ∈ cs) := by unfold hRb; rw [g]; simp [h0]
        rw [e]
        by_cases hm : rw[b.toNat] ∈ cs
        · simp [evq_var, evq_con, evq_glb, evq_bin, evq_neg, evq_cmp, evq_isn, evq_chn, evq_and, evq_or, evq_not, evq_ite, evq_tup, evq_lst, evq_cell, evq_idx, evq_slc, evq_rev, evq_call, evq_callD, evq_tups, evq_lsts, exq_mat, exC, evX, evq_bi, evq_sset, evq_isi, evq_met, evq_lrg, evq_lrg1, evq_lc, evq_lc2, evq_ssc, exq_set, exq_par, exq_unp, exq_aug, exq_seti, exq_app, exq_ext, exq_drop, exq_ret, exq_retv, exq_retN, exq_ife, exq_for, exq_whl, exq_brk, exq_cnt, exq_pas, exq_nev, exq_frz, evA, evO, evs, evB, evC, evI, evT, exs, look, setE, asg_nm, asg_tp, asgs_nil, asgs_cons, T.own, Ts.own, wipeE, fzL, rdL, kidL, parE, vaE, eR, hl, at_pos h0, g, in_tI, hm]
        · simp [evq_var, evq_con, evq_glb, evq_bin, evq_neg, evq_cmp, evq_isn, evq_chn, evq_and, evq_or, evq_not, evq_ite, evq_tup, evq_lst, evq_cell, evq_idx, evq_slc, evq_rev, evq_call, evq_callD, evq_tups, evq_lsts, exq_mat, exC, evX, evq_bi, evq_sset, evq_isi, evq_met, evq_lrg, evq_lrg1, evq_lc, evq_lc2, evq_ssc, exq_set, exq_par, exq_unp, exq_aug, exq_seti, exq_app, exq_ext, exq_drop, exq_ret, exq_retv, exq_retN, exq_ife, exq_for, exq_whl, exq_brk, exq_cnt, exq_pas, exq_nev, exq_frz, evA, evO, evs, evB, evC, evI, evT, exs, look, setE, asg_nm, asg_tp, asgs_nil, asgs_cons, T.own, Ts.own, wipeE, fzL, rdL, kidL, parE, vaE, eR, hl, at_pos h0, g, in_tI, hm]
      · have e : hRb rw cs b = false := by
          unfold hRb
          rw [List.getElem?_eq_none (by omega)]; simp
        rw [e]
        simp [evq_var, evq_con, evq_glb, evq_bin, evq_neg, evq_cmp, evq_isn, evq_chn, evq_and, evq_or, evq_not, evq_ite, evq_tup, evq_lst, evq_cell, evq_idx, evq_slc, evq_rev, evq_call, evq_callD, evq_tups, evq_lsts, exq_mat, exC, evX, evq_bi, evq_sset, evq_isi, evq_met, evq_lrg, evq_lrg1, evq_lc, evq_lc2, evq_ssc, exq_set, exq_par, exq_unp, exq_aug, exq_seti, exq_app, exq_ext, exq_drop, exq_ret, exq_retv, exq_retN, exq_ife, exq_for, exq_whl, exq_brk, exq_cnt, exq_pas, exq_nev, exq_frz, evA, evO, evs, evB, evC, evI, evT, exs, look, setE, asg_nm, asg_tp, asgs_nil, asgs_cons, T.own, Ts.own, wipeE, fzL, rdL, kidL, parE, vaE, eR, hl]) (sz (by have := hB.len; omega))
  have e : lI ((B.filter (hRb rw cs)).map (· + 1)) = .lst ((B.filter (hRb rw cs)).map fun b => D.int (b + 1)) := by
    show D.lst (List.map D.int (List.map _ _)) = _
    rw [List.map_map]; rfl
  rw [e]
  simp only [eR] at lc
  simp [evq_var, evq_con, evq_glb, evq_bin, evq_neg, evq_cmp, evq_isn, evq_chn, evq_and, evq_or, evq_not, evq_ite, evq_tup, evq_lst, evq_cell, evq_idx, evq_slc, evq_rev, evq_call, evq_callD, evq_tups, evq_lsts, exq_mat, exC, evX, evq_bi, evq_sset, evq_isi, evq_met, evq_lrg, evq_lrg1, evq_lc, evq_lc2, evq_ssc, exq_set, exq_par, exq_unp, exq_aug, exq_seti, exq_app, exq_ext, exq_drop, exq_ret, exq_retv, exq_retN, exq_ife, exq_for, exq_whl, exq_brk, exq_cnt, exq_pas, exq_nev, exq_frz, evA, evO, evs, evB, evC, evI, evT, exs, look, setE, asg_nm, asg_tp, asgs_nil, asgs_cons, T.own, Ts.own, wipeE, fzL, rdL, kidL, parE, vaE, c_ends_of, eR, lc]
/-- what ends_of gives of a pattern, at a depth of calls -/
def EndOk (C : List Code) (f : Nat) (rw : List Int) (k : Nat) (p : P (List Int)) : Prop := ∀ (n : Nat) (O : Sto) (B : List Int), Pl rw.length B → ∃ x, run C (n + k + 1) f [enc eR p, tI rw, lI B] O = .ok x O ∧ Ls x (lI (im rw.length (M (hR rw) p) B))
theorem Ls.slot {x : XD} {d : D} (h : Ls x d) : x.slot false = some (.va d) := by rcases h with rfl | rfl <;> rfl
theorem Ls.rdd {x : XD} {d : D} (h : Ls x d) : x.rdd = some d := by rcases h with rfl | rfl <;> rfl
theorem Ls.fzd {x : XD} {d : D} (h : Ls x d) : x.fzd = some d := by rcases h with rfl | rfl <;> rfl
/-- parts one behind the other -/
theorem end_row {f : Nat} (h : C[f]? = some (c_ends_of f)) {k : Nat} {ps : List (P (List Int))} (hp : ∀ p ∈ ps, EndOk C f rw k p) : EndOk C f rw (k + 1) (.row ps) := by
  intro n O B hB
  rw [run_at h rfl, enc_row]
  obtain ⟨s', hf, i1, i2⟩ := forS_rel (call := run C (n + (k + 1))) (t := .nm 5) (b := ((c_ends_of f).body.nth 1).bd.nth 0 |>.bd) (enc eR) (S := List Int × Sl)
    (fun s => [.va (.tup [.str tRow, .tup (ps.map (enc eR))]), .va (tI rw), .va (lI s.1), .un, .un, s.2, .un]) (fun _ => O)
    (fun s r => Pl rw.length s.1 ∧ (∀ p ∈ r, p ∈ ps) ∧ ∀ x, (∃ b ∈ s.1, Mr (hR rw) r b x) ↔ ∃ b ∈ B, Mr (hR rw) ps b x)
    (fun s p r ⟨i1, i2, i3⟩ => by
      obtain ⟨x, hx, lx⟩ := hp p (i2 p List.mem_cons_self) n O s.1 i1
      have e : n + (k + 1) = n + k + 1 := by omega
      rw [← e] at hx
      refine ⟨(im rw.length (M (hR rw) p) s.1, .va (enc eR p)), ?_, im_pl, fun q hq => i2 q (List.mem_cons_of_mem _ hq), fun x => ?_⟩
      · simp [evq_var, evq_con, evq_glb, evq_bin, evq_neg, evq_cmp, evq_isn, evq_chn, evq_and, evq_or, evq_not, evq_ite, evq_tup, evq_lst, evq_cell, evq_idx, evq_slc, evq_rev, evq_call, evq_callD, evq_tups, evq_lsts, exq_mat, exC, evX, evq_bi, evq_sset, evq_isi, evq_met, evq_lrg, evq_lrg1, evq_lc, evq_lc2, evq_ssc, exq_set, exq_par, exq_unp, exq_aug, exq_seti, exq_app, exq_ext, exq_drop, exq_ret, exq_retv, exq_retN, exq_ife, exq_for, exq_whl, exq_brk, exq_cnt, exq_pas, exq_nev, exq_frz, evA, evO, evs, evB, evC, evI, evT, exs, look, setE, asg_nm, asg_tp, asgs_nil, asgs_cons, T.own, Ts.own, wipeE, fzL, rdL, kidL, parE, vaE, c_ends_of, Ss.nth, S.bd, hx, lx.slot]
      · rw [← i3 x]
        have ok := im_ok (M_le hRi (p := p) i1)
        constructor
        · rintro ⟨b, hb, m⟩
          obtain ⟨c, hc, m1⟩ := (ok.2 b).mp hb
          exact ⟨c, hc, Mr_cons.mpr ⟨b, m1, m⟩⟩
        · rintro ⟨c, hc, m⟩
          obtain ⟨b, m1, m2⟩ := Mr_cons.mp m
          exact ⟨b, (ok.2 b).mpr ⟨c, hc, m1⟩, m2⟩)
    ps (B, .un) ⟨hB, fun _ h => h, fun _ => Iff.rfl⟩
  have e : s'.1 = im rw.length (M (hR rw) (.row ps)) B := im_eq (M_le hRi hB) ⟨i1.1, fun x => by
    have := i2.2 x
    simp only [Mr_nil, exists_eq_right] at this
    simp only [M_row]
    exact this⟩
  rw [e] at hf
  refine ⟨_, ?_, .inl rfl⟩
  simp only [c_ends_of, Ss.nth, S.bd] at hf
  simp [evq_var, evq_con, evq_glb, evq_bin, evq_neg, evq_cmp, evq_isn, evq_chn, evq_and, evq_or, evq_not, evq_ite, evq_tup, evq_lst, evq_cell, evq_idx, evq_slc, evq_rev, evq_call, evq_callD, evq_tups, evq_lsts, exq_mat, exC, evX, evq_bi, evq_sset, evq_isi, evq_met, evq_lrg, evq_lrg1, evq_lc, evq_lc2, evq_ssc, exq_set, exq_par, exq_unp, exq_aug, exq_seti, exq_app, exq_ext, exq_drop, exq_ret, exq_retv, exq_retN, exq_ife, exq_for, exq_whl, exq_brk, exq_cnt, exq_pas, exq_nev, exq_frz, evA, evO, evs, evB, evC, evI, evT, exs, look, setE, asg_nm, asg_tp, asgs_nil, asgs_cons, T.own, Ts.own, wipeE, fzL, rdL, kidL, parE, vaE, c_ends_of, hf]
/-- one of some parts -/
theorem end_eit {f : Nat} (h : C[f]? = some (c_ends_of f)) {k : Nat} {ps : List (P (List Int))} (hr : rw.length ≤ 60) (hl : ps.length ≤ 60) (hp : ∀ p ∈ ps, EndOk C f rw k p) : EndOk C f rw (k + 1) (.eit ps) := by
  intro n O B hB
  rw [run_at h rfl, enc_eit]
  have len : ∀ qs : List (P (List Int)), (qs.flatMap fun p => im rw.length (M (hR rw) p) B).length ≤ qs.length * 61 := by
    intro qs
    induction qs with
    | nil => simp
    | cons q qs ih =>
      rw [List.flatMap_cons, List.length_append, List.length_cons]
      have := (im_pl (L := rw.length) (R := M (hR rw) q) (B := B)).len
      omega
  have lenp := len ps
  have e2 : (ps.flatMap fun p => (im rw.length (M (hR rw) p) B).map D.int) = (ps.flatMap fun p => im rw.length (M (hR rw) p) B).map D.int := by rw [List.map_flatMap]
  have lc := lc2S_map (call := run C (n + (k + 1))) (m := 0) (t := .nm 5) (t1 := .nm 6) (i1 := (.e (.call f (.cons (.var 5) (.cons (.var 1) (.cons (.var 2) .nil)))))) (e := .var 6) (O := O)
    (env := [.va (.tup [.str tEit, .tup (ps.map (enc eR))]), .va (tI rw), .va (lI B), .un, .un, .un, .un]) ps (enc eR) (fun p => im rw.length (M (hR rw) p) B) .int .int
    (fun p hq => by
      obtain ⟨x, hx, lx⟩ := hp p hq n O B hB
      have e : n + (k + 1) = n + k + 1 := by omega
      rw [← e] at hx
      refine ⟨[.va (.tup [.str tEit, .tup (ps.map (enc eR))]), .va (tI rw), .va (lI B), .un, .un, .va (enc eR p), .un], ?_, ?_, fun b hb => ?_⟩
      · simp [evq_var, evq_con, evq_glb, evq_bin, evq_neg, evq_cmp, evq_isn, evq_chn, evq_and, evq_or, evq_not, evq_ite, evq_tup, evq_lst, evq_cell, evq_idx, evq_slc, evq_rev, evq_call, evq_callD, evq_tups, evq_lsts, exq_mat, exC, evX, evq_bi, evq_sset, evq_isi, evq_met, evq_lrg, evq_lrg1, evq_lc, evq_lc2, evq_ssc, exq_set, exq_par, exq_unp, exq_aug, exq_seti, exq_app, exq_ext, exq_drop, exq_ret, exq_retv, exq_retN, exq_ife, exq_for, exq_whl, exq_brk, exq_cnt, exq_pas, exq_nev, exq_frz, evA, evO, evs, evB, evC, evI, evT, exs, look, setE, asg_nm, asg_tp, asgs_nil, asgs_cons, T.own, Ts.own, wipeE, fzL, rdL, kidL, parE, vaE]
      · simp [evq_var, evq_con, evq_glb, evq_bin, evq_neg, evq_cmp, evq_isn, evq_chn, evq_and, evq_or, evq_not, evq_ite, evq_tup, evq_lst, evq_cell, evq_idx, evq_slc, evq_rev, evq_call, evq_callD, evq_tups, evq_lsts, exq_mat, exC, evX, evq_bi, evq_sset, evq_isi, evq_met, evq_lrg, evq_lrg1, evq_lc, evq_lc2, evq_ssc, exq_set, exq_par, exq_unp, exq_aug, exq_seti, exq_app, exq_ext, exq_drop, exq_ret, exq_retv, exq_retN, exq_ife, exq_for, exq_whl, exq_brk, exq_cnt, exq_pas, exq_nev, exq_frz, evA, evO, evs, evB, evC, evI, evT, exs, look, setE, asg_nm, asg_tp, asgs_nil, asgs_cons, T.own, Ts.own, wipeE, fzL, rdL, kidL, parE, vaE, hx, lx.fzd]
      · simp [evq_var, evq_con, evq_glb, evq_bin, evq_neg, evq_cmp, evq_isn, evq_chn, evq_and, evq_or, evq_not, evq_ite, evq_tup, evq_lst, evq_cell, evq_idx, evq_slc, evq_rev, evq_call, evq_callD, evq_tups, evq_lsts, exq_mat, exC, evX, evq_bi, evq_sset, evq_isi, evq_met, evq_lrg, evq_lrg1, evq_lc, evq_lc2, evq_ssc, exq_set, exq_par, exq_unp, exq_aug, exq_seti, exq_app, exq_ext, exq_drop, exq_ret, exq_retv, exq_retN, exq_ife, exq_for, exq_whl, exq_brk, exq_cnt, exq_pas, exq_nev, exq_frz, evA, evO, evs, evB, evC, evI, evT, exs, look, setE, asg_nm, asg_tp, asgs_nil, asgs_cons, T.own, Ts.own, wipeE, fzL, rdL, kidL, parE, vaE]) (sz (by rw [e2, List.length_map]; omega))
  rw [e2] at lc
  have U : Im (M (hR rw) (.eit ps)) B (sdI (ps.flatMap fun p => im rw.length (M (hR rw) p) B)) := ⟨sdI_asc _, fun x => by
    rw [sdI_mem, List.mem_flatMap]
    simp only [M_eit]
    constructor
    · rintro ⟨p, hq, m⟩
      obtain ⟨b, hb, m⟩ := ((im_ok (M_le hRi (p := p) hB)).2 x).mp m
      exact ⟨b, hb, p, hq, m⟩
    · rintro ⟨b, hb, p, hq, m⟩
      exact ⟨p, hq, ((im_ok (M_le hRi (p := p) hB)).2 x).mpr ⟨b, hb, m⟩⟩⟩
  have e := im_eq (M_le hRi hB) U
  have s64 : (sdI (ps.flatMap fun p => im rw.length (M (hR rw) p) B)).length < 64 := by
    rw [e]
    have := (im_pl (L := rw.length) (R := M (hR rw) (.eit ps)) (B := B)).len
    omega
  have ss := ssetD_lI (l := ps.flatMap fun p => im rw.length (M (hR rw) p) B) (by omega) s64
  rw [e] at ss
  refine ⟨_, ?_, .inr rfl⟩
  generalize (ps.flatMap fun p => im rw.length (M (hR rw) p) B).map D.int = ds at lc ss
  simp [evq_var, evq_con, evq_glb, evq_bin, evq_neg, evq_cmp, evq_isn, evq_chn, evq_and, evq_or, evq_not, evq_ite, evq_tup, evq_lst, evq_cell, evq_idx, evq_slc, evq_rev, evq_call, evq_callD, evq_tups, evq_lsts, exq_mat, exC, evX, evq_bi, evq_sset, evq_isi, evq_met, evq_lrg, evq_lrg1, evq_lc, evq_lc2, evq_ssc, exq_set, exq_par, exq_unp, exq_aug, exq_seti, exq_app, exq_ext, exq_drop, exq_ret, exq_retv, exq_retN, exq_ife, exq_for, exq_whl, exq_brk, exq_cnt, exq_pas, exq_nev, exq_frz, evA, evO, evs, evB, evC, evI, evT, exs, look, setE, asg_nm, asg_tp, asgs_nil, asgs_cons, T.own, Ts.own, wipeE, fzL, rdL, kidL, parE, vaE, c_ends_of, lc, ss]
/-! star and plus -/
structure Lp (L : Nat) (R : Int → Int → Prop) (T : Int → Prop) (F0 R0 : List Int) (s : List Int × List Int) : Prop where
  f : Pl L s.1
  r : Pl L s.2
  ft : ∀ x ∈ s.1, T x
  rt : ∀ x ∈ s.2, T x
  cl : ∀ x ∈ s.1, ∀ y, R x y → y ∈ s.1 ∨ y ∈ s.2
  f0 : ∀ x ∈ F0, x ∈ s.1
  r0 : ∀ x ∈ R0, x ∈ s.1 ∨ x ∈ s.2
def newOf (s : List Int × List Int) : List Int := s.2.filter fun x => !decide (x ∈ s.1)
theorem newOf_mem {s : List Int × List Int} {x : Int} : x ∈ newOf s ↔ x ∈ s.2 ∧ x ∉ s.1 := by unfold newOf; simp
def Lmore (s : List Int × List Int) : Bool := (s.2.map fun x => !decide (x ∈ s.1)).any id
theorem Lmore_iff {s : List Int × List Int} : Lmore s = true ↔ ∃ x ∈ s.2, x ∉ s.1 := by unfold Lmore; simp
noncomputable def Lstep (L : Nat) (R : Int → Int → Prop) (s : List Int × List Int) : List Int × List Int := (srtK ltI (s.1 ++ newOf s), im L R (newOf s))
theorem Lp.new {R : Int → Int → Prop} {T : Int → Prop} {F0 R0 : List Int} {s : List Int × List Int} (h : Lp L R T F0 R0 s) : Pl L (newOf s) := ⟨filt_asc h.r.1, fun b hb => h.r.2 b (newOf_mem.mp hb).1⟩
theorem Lp.nodup {R : Int → Int → Prop} {T : Int → Prop} {F0 R0 : List Int} {s : List Int × List Int} (h : Lp L R T F0 R0 s) : (s.1 ++ newOf s).Nodup :=
  List.nodup_append.mpr ⟨asc_nodup h.f.1, asc_nodup h.new.1, fun a ha b hb e => (newOf_mem.mp hb).2 (e ▸ ha)⟩
theorem Lp.step {R : Int → Int → Prop} {T : Int → Prop} {F0 R0 : List Int} {s : List Int × List Int} (h : Lp L R T F0 R0 s) (hR : ∀ B, Pl L B → ∀ b ∈ B, ∀ x, R b x → 0 ≤ x ∧ x ≤ L) (hT : ∀ x, T x → ∀ y, R x y → T y) : Lp L R T F0 R0 (Lstep L R s) := by
  obtain ⟨s1, s2⟩ := srt_asc h.nodup
  have io := im_ok (hR _ h.new)
  have mem : ∀ x, x ∈ srtK ltI (s.1 ++ newOf s) ↔ x ∈ s.1 ∨ x ∈ s.2 := fun x => by
    rw [s2, List.mem_append, newOf_mem]
    constructor
    · rintro (h | h)
      · exact .inl h
      · exact .inr h.1
    · intro h
      by_cases c : x ∈ s.1
      · exact .inl c
      · exact .inr ⟨h.resolve_left c, c⟩
  refine ⟨⟨s1, fun b hb => ?_⟩, im_pl, fun x hx => ?_, fun x hx => ?_, fun x hx y hy => ?_, fun x hx => ?_, fun x hx => ?_⟩
  · rcases (mem b).mp hb with hb | hb
    · exact h.f.2 b hb
    · exact h.r.2 b hb
  · rcases (mem x).mp hx with hx | hx
    · exact h.ft x hx
    · exact h.rt x hx
  · obtain ⟨b, hb, r⟩ := (io.2 x).mp hx
    exact hT b (h.rt b (newOf_mem.mp hb).1) x r
  · by_cases c : x ∈ s.1
    · exact .inl ((mem y).mpr (h.cl x c y hy))
    · have c2 := ((mem x).mp hx).resolve_left c
      exact .inr ((io.2 y).mpr ⟨x, newOf_mem.mpr ⟨c2, c⟩, hy⟩)
  · exact (mem x).mpr (.inl (h.f0 x hx))
  · exact .inl ((mem x).mpr (h.r0 x hx))
theorem Lp.less {R : Int → Int → Prop} {T : Int → Prop} {F0 R0 : List Int} {s : List Int × List Int} (h : Lp L R T F0 R0 s) (hR : ∀ B, Pl L B → ∀ b ∈ B, ∀ x, R b x → 0 ≤ x ∧ x ≤ L) (hT : ∀ x, T x → ∀ y, R x y → T y) (m : Lmore s = true) :
    L + 2 - (Lstep L R s).1.length < L + 2 - s.1.length := by
  have st := (h.step hR hT).f.len
  obtain ⟨s1, s2⟩ := srt_asc h.nodup
  have : (s.1 ++ newOf s).length ≤ (srtK ltI (s.1 ++ newOf s)).length := sub_len h.nodup fun k hk => (s2 k).mpr hk
  rw [List.length_append] at this
  obtain ⟨x, h1, h2⟩ := Lmore_iff.mp m
  have : 0 < (newOf s).length := List.length_pos_of_mem (newOf_mem.mpr ⟨h1, h2⟩)
  have e : (Lstep L R s).1 = srtK ltI (s.1 ++ newOf s) := rfl
  rw [e] at st ⊢
  omega
theorem Lp.fin {R : Int → Int → Prop} {T : Int → Prop} {F0 R0 : List Int} {s : List Int × List Int} (h : Lp L R T F0 R0 s) (m : Lmore s = false) (hT : ∀ x, T x → (∃ b ∈ F0, Rt R b x) ∨ ∃ b ∈ R0, Rt R b x) : ∀ x, x ∈ s.1 ↔ T x := by
  have sub : ∀ x ∈ s.2, x ∈ s.1 := fun x hx => Decidable.byContradiction fun c => by
    have := Lmore_iff.mpr ⟨x, hx, c⟩
    rw [m] at this; cases this
  have cl : ∀ x ∈ s.1, ∀ y, R x y → y ∈ s.1 := fun x hx y hy => (h.cl x hx y hy).elim id (sub y)
  refine fun x => ⟨h.ft x, fun t => ?_⟩
  rcases hT x t with ⟨b, hb, r⟩ | ⟨b, hb, r⟩
  · exact Rt.closed cl (h.f0 b hb) r
  · exact Rt.closed cl ((h.r0 b hb).elim id (sub b)) r
def lpE (pt : D) (rw B : List Int) (s : List Int × List Int) : List Sl := [.va pt, .va (tI rw), .va (lI B), .va (lI s.1), .va (lI s.2), .un, .un]
theorem end_whl {f : Nat} {k : Nat} {p : P (List Int)} {w : Tx} (hr : rw.length ≤ 60) (hp : EndOk C f rw k p) {Tg : Int → Prop} {F0 R0 B : List Int} (hT : ∀ x, Tg x → ∀ y, M (hR rw) p x y → Tg y) (s : List Int × List Int) (h : Lp rw.length (M (hR rw) p) Tg F0 R0 s) :
    ∃ s', whlS (run C (n + (k + 1))) ((c_ends_of f).body.nth 5).cd ((c_ends_of f).body.nth 5).bd (lpE (.tup [.str w, enc eR p]) rw B s) O = .nx (lpE (.tup [.str w, enc eR p]) rw B s') O ∧ Lp rw.length (M (hR rw) p) Tg F0 R0 s' ∧ Lmore s' = false := by
  have hRl : ∀ B, Pl rw.length B → ∀ b ∈ B, ∀ x, M (hR rw) p b x → 0 ≤ x ∧ x ≤ (rw.length : Nat) := fun B hB => M_le hRi hB
  refine whl_inv (lpE (.tup [.str w, enc eR p]) rw B) (Lp rw.length (M (hR rw) p) Tg F0 R0) Lmore (fun s => rw.length + 2 - s.1.length) (fun s i => ?_) (fun s i m => ⟨Lstep rw.length (M (hR rw) p) s, ?_, i.step hRl hT, i.less hRl hT m⟩) s h
  · have lc := lcS_map (call := run C (n + (k + 1))) (m := 0) (t := .nm 6) (e := .cmp .NotIn (.var 6) (.var 3)) (env := lpE (.tup [.str w, enc eR p]) rw B s) (O := O) s.2 .int (fun x => .bl (!decide (x ∈ s.1))) (fun x hx => by
      by_cases c : x ∈ s.1 <;> simp [evq_var, evq_con, evq_glb, evq_bin, evq_neg, evq_cmp, evq_isn, evq_chn, evq_and, evq_or, evq_not, evq_ite, evq_tup, evq_lst, evq_cell, evq_idx, evq_slc, evq_rev, evq_call, evq_callD, evq_tups, evq_lsts, exq_mat, exC, evX, evq_bi, evq_sset, evq_isi, evq_met, evq_lrg, evq_lrg1, evq_lc, evq_lc2, evq_ssc, exq_set, exq_par, exq_unp, exq_aug, exq_seti, exq_app, exq_ext, exq_drop, exq_ret, exq_retv, exq_retN, exq_ife, exq_for, exq_whl, exq_brk, exq_cnt, exq_pas, exq_nev, exq_frz, evA, evO, evs, evB, evC, evI, evT, exs, look, setE, asg_nm, asg_tp, asgs_nil, asgs_cons, T.own, Ts.own, wipeE, fzL, rdL, kidL, parE, vaE, lpE, in_lI, c]) (sz (by have := i.r.len; omega))
    have e : (s.2.map fun x => D.bl (!decide (x ∈ s.1))) = (s.2.map fun x => !decide (x ∈ s.1)).map D.bl := by rw [List.map_map]; rfl
    rw [e] at lc
    have an := @bi_any (s.2.map fun x => !decide (x ∈ s.1))
    have me : (s.2.map fun x => !decide (x ∈ s.1)).any id = Lmore s := rfl
    rw [me] at an
    generalize (s.2.map fun x => !decide (x ∈ s.1)).map D.bl = bs at lc an
    simp only [lpE] at lc ⊢
    simp [evq_var, evq_con, evq_glb, evq_bin, evq_neg, evq_cmp, evq_isn, evq_chn, evq_and, evq_or, evq_not, evq_ite, evq_tup, evq_lst, evq_cell, evq_idx, evq_slc, evq_rev, evq_call, evq_callD, evq_tups, evq_lsts, exq_mat, exC, evX, evq_bi, evq_sset, evq_isi, evq_met, evq_lrg, evq_lrg1, evq_lc, evq_lc2, evq_ssc, exq_set, exq_par, exq_unp, exq_aug, exq_seti, exq_app, exq_ext, exq_drop, exq_ret, exq_retv, exq_retN, exq_ife, exq_for, exq_whl, exq_brk, exq_cnt, exq_pas, exq_nev, exq_frz, evA, evO, evs, evB, evC, evI, evT, exs, look, setE, asg_nm, asg_tp, asgs_nil, asgs_cons, T.own, Ts.own, wipeE, fzL, rdL, kidL, parE, vaE, c_ends_of, Ss.nth, S.cd, lc, an]
  · have lc := lcS_filt (call := run C (n + (k + 1))) (m := 0) (t := .nm 6) (c := .cons (.cmp .NotIn (.var 6) (.var 3)) .nil) (e := .var 6) (env := lpE (.tup [.str w, enc eR p]) rw B s) (O := O) s.2 .int (fun x => !decide (x ∈ s.1)) .int (fun x hx => by
      by_cases c : x ∈ s.1 <;> simp [evq_var, evq_con, evq_glb, evq_bin, evq_neg, evq_cmp, evq_isn, evq_chn, evq_and, evq_or, evq_not, evq_ite, evq_tup, evq_lst, evq_cell, evq_idx, evq_slc, evq_rev, evq_call, evq_callD, evq_tups, evq_lsts, exq_mat, exC, evX, evq_bi, evq_sset, evq_isi, evq_met, evq_lrg, evq_lrg1, evq_lc, evq_lc2, evq_ssc, exq_set, exq_par, exq_unp, exq_aug, exq_seti, exq_app, exq_ext, exq_drop, exq_ret, exq_retv, exq_retN, exq_ife, exq_for, exq_whl, exq_brk, exq_cnt, exq_pas, exq_nev, exq_frz, evA, evO, evs, evB, evC, evI, evT, exs, look, setE, asg_nm, asg_tp, asgs_nil, asgs_cons, T.own, Ts.own, wipeE, fzL, rdL, kidL, parE, vaE, lpE, in_lI, c]) (sz (by have := i.r.len; omega))
    have e : s.2.filter (fun x => !decide (x ∈ s.1)) = newOf s := rfl
    rw [e] at lc
    obtain ⟨x, hx, lx⟩ := hp n O (newOf s) i.new
    have e2 : n + (k + 1) = n + k + 1 := by omega
    rw [← e2] at hx
    have so := @sorted_lI (s.1 ++ newOf s)
    have l1 := i.f.len
    have l2 := i.new.len
    have e3 : (s.1 ++ newOf s).map D.int = s.1.map D.int ++ (newOf s).map D.int := List.map_append
    rw [e3] at so
    have fz : fzL ((s.1.map D.int).map XD.fz ++ (((newOf s).map D.int).map XD.fz ++ [])) = some (s.1.map D.int ++ (newOf s).map D.int) := by
      rw [fzL_fz, fzL_fz]; simp [fzL]
    have ln : (s.1.map D.int ++ (newOf s).map D.int).length ≤ sizeLine := sz (by simp; omega)
    show exs _ _ (lpE (.tup [.str w, enc eR p]) rw B s) O = .nx (lpE (.tup [.str w, enc eR p]) rw B (srtK ltI (s.1 ++ newOf s), im rw.length (M (hR rw) p) (newOf s))) O
    have hx : run C (n + (k + 1)) f [enc eR p, tI rw, .lst ((newOf s).map .int)] O = .ok x O := hx
    generalize hG : srtK ltI (s.1 ++ newOf s) = G at so ⊢
    have li : itmD (.lst (s.1.map D.int)) = some (s.1.map D.int) := rfl
    have li2 : itmD (.lst ((newOf s).map D.int)) = some ((newOf s).map D.int) := rfl
    simp only [lpE, lI] at lc ⊢
    generalize (newOf s).map D.int = ds at lc hx so fz ln li2
    generalize s.1.map D.int = es at lc so fz ln li
    simp only [List.append_nil] at fz
    rw [List.length_append] at ln
    simp [evq_var, evq_con, evq_glb, evq_bin, evq_neg, evq_cmp, evq_isn, evq_chn, evq_and, evq_or, evq_not, evq_ite, evq_tup, evq_lst, evq_cell, evq_idx, evq_slc, evq_rev, evq_call, evq_callD, evq_tups, evq_lsts, exq_mat, exC, evX, evq_bi, evq_sset, evq_isi, evq_met, evq_lrg, evq_lrg1, evq_lc, evq_lc2, evq_ssc, exq_set, exq_par, exq_unp, exq_aug, exq_seti, exq_app, exq_ext, exq_drop, exq_ret, exq_retv, exq_retN, exq_ife, exq_for, exq_whl, exq_brk, exq_cnt, exq_pas, exq_nev, exq_frz, evA, evO, evs, evB, evC, evI, evT, exs, look, setE, asg_nm, asg_tp, asgs_nil, asgs_cons, T.own, Ts.own, wipeE, fzL, rdL, kidL, parE, vaE, c_ends_of, Ss.nth, S.bd, lc, hx, lx.slot, fz, ln, so, li, li2]
/-- star and plus, the first lists given -/
theorem end_lp {f : Nat} (h : C[f]? = some (c_ends_of f)) {k : Nat} {p q : P (List Int)} {w : Tx} (hw : (w = tStar ∧ q = .star p) ∨ (w = tPlus ∧ q = .plus p)) (hr : rw.length ≤ 60) (hp : EndOk C f rw k p) : EndOk C f rw (k + 1) q := by
  intro n O B hB
  have eq : enc eR q = .tup [.str w, enc eR p] := by
    rcases hw with ⟨rfl, rfl⟩ | ⟨rfl, rfl⟩
    · exact enc_star
    · exact enc_plus
  rw [run_at h rfl, eq]
  have ok := im_ok (M_le hRi (p := p) hB)
  obtain ⟨x, hx, lx⟩ := hp n O B hB
  have e2 : n + (k + 1) = n + k + 1 := by omega
  rw [← e2] at hx
  have hx : run C (n + (k + 1)) f [enc eR p, tI rw, .lst (B.map .int)] O = .ok x O := hx
  let F0 : List Int := if w = tStar then B else []
  have start : Lp rw.length (M (hR rw) p) (fun x => ∃ b ∈ B, M (hR rw) q b x) F0 (im rw.length (M (hR rw) p) B) (F0, im rw.length (M (hR rw) p) B) := by
    rcases hw with ⟨rfl, rfl⟩ | ⟨rfl, rfl⟩
    · have e : F0 = B := if_pos rfl
      rw [e]
      refine ⟨hB, im_pl, fun x hx => ⟨x, hx, M_star.mpr (.refl _)⟩, fun x hx => ?_, fun x hx y m => .inr ((ok.2 y).mpr ⟨x, hx, m⟩), fun x hx => hx, fun x hx => .inr hx⟩
      obtain ⟨b, hb, m⟩ := (ok.2 x).mp hx
      exact ⟨b, hb, M_star.mpr (.one m)⟩
    · have e : F0 = [] := if_neg (by decide)
      rw [e]
      refine ⟨⟨.nil, fun x hx => (List.not_mem_nil hx).elim⟩, im_pl, fun x hx => (List.not_mem_nil hx).elim, fun x hx => ?_, fun x hx => (List.not_mem_nil hx).elim, fun x hx => hx, fun x hx => .inr hx⟩
      obtain ⟨b, hb, m⟩ := (ok.2 x).mp hx
      exact ⟨b, hb, M_plus.mpr ⟨x, m, .refl _⟩⟩
  have hT : ∀ x, (∃ b ∈ B, M (hR rw) q b x) → ∀ y, M (hR rw) p x y → ∃ b ∈ B, M (hR rw) q b y := by
    rintro x ⟨b, hb, m⟩ y my
    refine ⟨b, hb, ?_⟩
    rcases hw with ⟨rfl, rfl⟩ | ⟨rfl, rfl⟩
    · exact M_star.mpr ((M_star.mp m).snoc my)
    · obtain ⟨k, a, t⟩ := M_plus.mp m
      exact M_plus.mpr ⟨k, a, t.snoc my⟩
  obtain ⟨s', hf, i, m⟩ := end_whl (n := n) (O := O) (w := w) hr hp (B := B) hT _ start
  have e : s'.1 = im rw.length (M (hR rw) q) B := im_eq (M_le hRi hB) ⟨i.f.1, i.fin m fun x ⟨b, hb, mq⟩ => by
    rcases hw with ⟨rfl, rfl⟩ | ⟨rfl, rfl⟩
    · exact .inl ⟨b, by show b ∈ (if tStar = tStar then B else []); rw [if_pos rfl]; exact hb, M_star.mp mq⟩
    · obtain ⟨k, a, t⟩ := M_plus.mp mq
      exact .inr ⟨k, (ok.2 k).mpr ⟨b, hb, a⟩, t⟩⟩
  simp only [c_ends_of, Ss.nth, S.cd, S.bd, lpE] at hf
  rw [e] at hf
  refine ⟨_, ?_, .inl rfl⟩
  have li : bi1 .list (.lst (B.map D.int)) = some (.ow 1 (.lst (B.map D.int))) := rfl
  rcases hw with ⟨rfl, rfl⟩ | ⟨rfl, rfl⟩
  · have e : F0 = B := if_pos rfl
    rw [e] at hf
    simp [evq_var, evq_con, evq_glb, evq_bin, evq_neg, evq_cmp, evq_isn, evq_chn, evq_and, evq_or, evq_not, evq_ite, evq_tup, evq_lst, evq_cell, evq_idx, evq_slc, evq_rev, evq_call, evq_callD, evq_tups, evq_lsts, exq_mat, exC, evX, evq_bi, evq_sset, evq_isi, evq_met, evq_lrg, evq_lrg1, evq_lc, evq_lc2, evq_ssc, exq_set, exq_par, exq_unp, exq_aug, exq_seti, exq_app, exq_ext, exq_drop, exq_ret, exq_retv, exq_retN, exq_ife, exq_for, exq_whl, exq_brk, exq_cnt, exq_pas, exq_nev, exq_frz, evA, evO, evs, evB, evC, evI, evT, exs, look, setE, asg_nm, asg_tp, asgs_nil, asgs_cons, T.own, Ts.own, wipeE, fzL, rdL, kidL, parE, vaE, c_ends_of, hx, lx.slot, li, hf]
  · have e : F0 = [] := if_neg (by decide)
    rw [e] at hf
    have s0 := @szl 0 (by decide)
    have hf' := hf
    simp only [lI, List.map_nil] at hf'
    simp [evq_var, evq_con, evq_glb, evq_bin, evq_neg, evq_cmp, evq_isn, evq_chn, evq_and, evq_or, evq_not, evq_ite, evq_tup, evq_lst, evq_cell, evq_idx, evq_slc, evq_rev, evq_call, evq_callD, evq_tups, evq_lsts, exq_mat, exC, evX, evq_bi, evq_sset, evq_isi, evq_met, evq_lrg, evq_lrg1, evq_lc, evq_lc2, evq_ssc, exq_set, exq_par, exq_unp, exq_aug, exq_seti, exq_app, exq_ext, exq_drop, exq_ret, exq_retv, exq_retN, exq_ife, exq_for, exq_whl, exq_brk, exq_cnt, exq_pas, exq_nev, exq_frz, evA, evO, evs, evB, evC, evI, evT, exs, look, setE, asg_nm, asg_tp, asgs_nil, asgs_cons, T.own, Ts.own, wipeE, fzL, rdL, kidL, parE, vaE, c_ends_of, hx, lx.slot, hf']
mutual
/-- no part that is maybe -/
def noMay {α : Type} : P α → Prop
  | .at _ => True
  | .row ps => noMayL ps
  | .eit ps => noMayL ps
  | .star p => noMay p
  | .plus p => noMay p
  | .may _ => False
def noMayL {α : Type} : List (P α) → Prop
  | [] => True
  | p :: ps => noMay p ∧ noMayL ps
end
theorem noMayL_iff {α : Type} : ∀ {ps : List (P α)}, noMayL ps ↔ ∀ p ∈ ps, noMay p
  | [] => by unfold noMayL; simp
  | p :: ps => by unfold noMayL; rw [noMayL_iff]; simp
theorem EndOk.up {f k m : Nat} {p : P (List Int)} (h : EndOk C f rw k p) (hm : k ≤ m) : EndOk C f rw m p := fun n O B hB => by
  have := h (n + (m - k)) O B hB
  have e : n + (m - k) + k = n + m := by omega
  rw [e] at this
  exact this
theorem run_ends {f : Nat} (h : C[f]? = some (c_ends_of f)) (hr : rw.length ≤ 60) : ∀ (k : Nat) (p : P (List Int)), ht p ≤ k → wd p ≤ 60 → noMay p → EndOk C f rw k p := by
  intro k
  induction k with
  | zero =>
    intro p hp hw nm
    cases p with
    | «at» a => exact fun n O B hB => ⟨_, end_at h hr hB, .inr rfl⟩
    | _ => unfold ht at hp; omega
  | succ k ih =>
    intro p hp hw nm
    cases p with
    | «at» a => exact EndOk.up (k := 0) (fun n O B hB => ⟨_, end_at h hr hB, .inr rfl⟩) (Nat.zero_le _)
    | row ps =>
      unfold ht at hp
      unfold wd at hw
      unfold noMay at nm
      exact end_row h fun p hq => ih p (by have := htL_le hq; omega) (by have := wdL_le hq; omega) (noMayL_iff.mp nm p hq)
    | eit ps =>
      unfold ht at hp
      unfold wd at hw
      unfold noMay at nm
      exact end_eit h hr (by omega) fun p hq => ih p (by have := htL_le hq; omega) (by have := wdL_le hq; omega) (noMayL_iff.mp nm p hq)
    | star p =>
      unfold ht at hp
      unfold wd at hw
      unfold noMay at nm
      exact end_lp h (.inl ⟨rfl, rfl⟩) hr (ih p (by omega) hw nm)
    | plus p =>
      unfold ht at hp
      unfold wd at hw
      unfold noMay at nm
      exact end_lp h (.inr ⟨rfl, rfl⟩) hr (ih p (by omega) hw nm)
    | may p => unfold noMay at nm; exact nm.elim
end
end Ev.PtW

/-! the defs that walk over a pattern's parts -/
namespace Ev.PtW
open PySem L2 Pt
def parts {α : Type} : P α → List (P α)
  | .at _ => []
  | .row ps => ps
  | .eit ps => ps
  | .star p => [p]
  | .plus p => [p]
  | .may p => [p]
theorem ht_parts {α : Type} {p q : P α} (h : q ∈ parts p) : ht q < ht p := by
  cases p with
  | «at» a => cases h
  | row ps =>
    have h1 := htL_le (show q ∈ ps from h)
    have h2 : ht (P.row ps) = htL ps + 1 := by conv => lhs; unfold ht
    omega
  | eit ps =>
    have h1 := htL_le (show q ∈ ps from h)
    have h2 : ht (P.eit ps) = htL ps + 1 := by conv => lhs; unfold ht
    omega
  | star p => unfold parts at h; rw [List.mem_singleton.mp h]; conv => rhs; unfold ht
              omega
  | plus p => unfold parts at h; rw [List.mem_singleton.mp h]; conv => rhs; unfold ht
              omega
  | may p => unfold parts at h; rw [List.mem_singleton.mp h]; conv => rhs; unfold ht
             omega
/-! leaves: what items tell -/
def tl : A → Option Tx
  | .any => none
  | .cls x => some x
  | .non x => some x
mutual
def lvs : P A → List A
  | .at a => [a]
  | .row ps => lvsL ps
  | .eit ps => lvsL ps
  | .star p => lvs p
  | .plus p => lvs p
  | .may p => lvs p
def lvsL : List (P A) → List A
  | [] => []
  | p :: ps => lvs p ++ lvsL ps
end
theorem lvsL_eq : ∀ {ps : List (P A)}, lvsL ps = ps.flatMap lvs
  | [] => by unfold lvsL; rfl
  | p :: ps => by unfold lvsL; rw [lvsL_eq, List.flatMap_cons]
theorem lvs_parts {p : P A} (h : ∀ a, p ≠ .at a) : lvs p = (parts p).flatMap lvs := by
  cases p with
  | «at» a => exact absurd rfl (h a)
  | row ps => unfold lvs parts; exact lvsL_eq
  | eit ps => unfold lvs parts; exact lvsL_eq
  | star p => conv => lhs; unfold lvs
              simp [parts]
  | plus p => conv => lhs; unfold lvs
              simp [parts]
  | may p => conv => lhs; unfold lvs
             simp [parts]
section
variable {C : List Code} {n : Nat} {O : Sto}
/-- a pattern that is no item: its kind and what stands behind it -/
theorem enc_kind {p : P A} (h : ∀ a, p ≠ .at a) : ∃ w d, enc eA p = .tup [.str w, d] ∧ ((w = tRow ∨ w = tEit) ∧ d = .tup ((parts p).map (enc eA)) ∨ (w = tStar ∨ w = tPlus ∨ w = tMay) ∧ ∃ q, parts p = [q] ∧ d = enc eA q) := by
  cases p with
  | «at» a => exact absurd rfl (h a)
  | row ps => exact ⟨_, _, enc_row, .inl ⟨.inl rfl, rfl⟩⟩
  | eit ps => exact ⟨_, _, enc_eit, .inl ⟨.inr rfl, rfl⟩⟩
  | star p => exact ⟨_, _, enc_star, .inr ⟨.inl rfl, p, rfl, rfl⟩⟩
  | plus p => exact ⟨_, _, enc_plus, .inr ⟨.inr (.inl rfl), p, rfl, rfl⟩⟩
  | may p => exact ⟨_, _, enc_may, .inr ⟨.inr (.inr rfl), p, rfl, rfl⟩⟩
theorem run_parts {f : Nat} (h : C[f]? = some c_parts_of) (p : P A) : run C (n + 1) f [enc eA p] O = .ok (.ow 1 (.lst ((parts p).map (enc eA)))) O := by
  rw [run_at h rfl]
  have s0 := @sz 0 (by decide)
  have s1 := @sz 1 (by decide)
  have s2 := @sz 2 (by decide)
  have s3 := @sz 3 (by decide)
  by_cases ha : ∃ a, p = .at a
  · obtain ⟨a, rfl⟩ := ha
    rw [enc_at]
    cases a <;> simp [evq_var, evq_con, evq_glb, evq_bin, evq_neg, evq_cmp, evq_isn, evq_chn, evq_and, evq_or, evq_not, evq_ite, evq_tup, evq_lst, evq_cell, evq_idx, evq_slc, evq_rev, evq_call, evq_callD, evq_tups, evq_lsts, exq_mat, exC, evX, evq_bi, evq_sset, evq_isi, evq_met, evq_lrg, evq_lrg1, evq_lc, evq_lc2, evq_ssc, exq_set, exq_par, exq_unp, exq_aug, exq_seti, exq_app, exq_ext, exq_drop, exq_ret, exq_retv, exq_retN, exq_ife, exq_for, exq_whl, exq_brk, exq_cnt, exq_pas, exq_nev, exq_frz, evA, evO, evs, evB, evC, evI, evT, exs, look, setE, asg_nm, asg_tp, asgs_nil, asgs_cons, T.own, Ts.own, wipeE, fzL, rdL, kidL, parE, vaE, c_parts_of, eA, in_s2, in_s3, parts, s0, s2, s3]
  · obtain ⟨w, d, e, ⟨rfl | rfl, rfl⟩ | ⟨rfl | rfl | rfl, q, eq, rfl⟩⟩ := enc_kind (p := p) fun a e => ha ⟨a, e⟩
    · rw [e]; simp [evq_var, evq_con, evq_glb, evq_bin, evq_neg, evq_cmp, evq_isn, evq_chn, evq_and, evq_or, evq_not, evq_ite, evq_tup, evq_lst, evq_cell, evq_idx, evq_slc, evq_rev, evq_call, evq_callD, evq_tups, evq_lsts, exq_mat, exC, evX, evq_bi, evq_sset, evq_isi, evq_met, evq_lrg, evq_lrg1, evq_lc, evq_lc2, evq_ssc, exq_set, exq_par, exq_unp, exq_aug, exq_seti, exq_app, exq_ext, exq_drop, exq_ret, exq_retv, exq_retN, exq_ife, exq_for, exq_whl, exq_brk, exq_cnt, exq_pas, exq_nev, exq_frz, evA, evO, evs, evB, evC, evI, evT, exs, look, setE, asg_nm, asg_tp, asgs_nil, asgs_cons, T.own, Ts.own, wipeE, fzL, rdL, kidL, parE, vaE, c_parts_of, in_s2, s2]
    · rw [e]; simp [evq_var, evq_con, evq_glb, evq_bin, evq_neg, evq_cmp, evq_isn, evq_chn, evq_and, evq_or, evq_not, evq_ite, evq_tup, evq_lst, evq_cell, evq_idx, evq_slc, evq_rev, evq_call, evq_callD, evq_tups, evq_lsts, exq_mat, exC, evX, evq_bi, evq_sset, evq_isi, evq_met, evq_lrg, evq_lrg1, evq_lc, evq_lc2, evq_ssc, exq_set, exq_par, exq_unp, exq_aug, exq_seti, exq_app, exq_ext, exq_drop, exq_ret, exq_retv, exq_retN, exq_ife, exq_for, exq_whl, exq_brk, exq_cnt, exq_pas, exq_nev, exq_frz, evA, evO, evs, evB, evC, evI, evT, exs, look, setE, asg_nm, asg_tp, asgs_nil, asgs_cons, T.own, Ts.own, wipeE, fzL, rdL, kidL, parE, vaE, c_parts_of, in_s2, s2]
    · rw [e, eq]; simp [evq_var, evq_con, evq_glb, evq_bin, evq_neg, evq_cmp, evq_isn, evq_chn, evq_and, evq_or, evq_not, evq_ite, evq_tup, evq_lst, evq_cell, evq_idx, evq_slc, evq_rev, evq_call, evq_callD, evq_tups, evq_lsts, exq_mat, exC, evX, evq_bi, evq_sset, evq_isi, evq_met, evq_lrg, evq_lrg1, evq_lc, evq_lc2, evq_ssc, exq_set, exq_par, exq_unp, exq_aug, exq_seti, exq_app, exq_ext, exq_drop, exq_ret, exq_retv, exq_retN, exq_ife, exq_for, exq_whl, exq_brk, exq_cnt, exq_pas, exq_nev, exq_frz, evA, evO, evs, evB, evC, evI, evT, exs, look, setE, asg_nm, asg_tp, asgs_nil, asgs_cons, T.own, Ts.own, wipeE, fzL, rdL, kidL, parE, vaE, c_parts_of, in_s2, in_s3, s1, s2, s3]
    · rw [e, eq]; simp [evq_var, evq_con, evq_glb, evq_bin, evq_neg, evq_cmp, evq_isn, evq_chn, evq_and, evq_or, evq_not, evq_ite, evq_tup, evq_lst, evq_cell, evq_idx, evq_slc, evq_rev, evq_call, evq_callD, evq_tups, evq_lsts, exq_mat, exC, evX, evq_bi, evq_sset, evq_isi, evq_met, evq_lrg, evq_lrg1, evq_lc, evq_lc2, evq_ssc, exq_set, exq_par, exq_unp, exq_aug, exq_seti, exq_app, exq_ext, exq_drop, exq_ret, exq_retv, exq_retN, exq_ife, exq_for, exq_whl, exq_brk, exq_cnt, exq_pas, exq_nev, exq_frz, evA, evO, evs, evB, evC, evI, evT, exs, look, setE, asg_nm, asg_tp, asgs_nil, asgs_cons, T.own, Ts.own, wipeE, fzL, rdL, kidL, parE, vaE, c_parts_of, in_s2, in_s3, s1, s2, s3]
    · rw [e, eq]; simp [evq_var, evq_con, evq_glb, evq_bin, evq_neg, evq_cmp, evq_isn, evq_chn, evq_and, evq_or, evq_not, evq_ite, evq_tup, evq_lst, evq_cell, evq_idx, evq_slc, evq_rev, evq_call, evq_callD, evq_tups, evq_lsts, exq_mat, exC, evX, evq_bi, evq_sset, evq_isi, evq_met, evq_lrg, evq_lrg1, evq_lc, evq_lc2, evq_ssc, exq_set, exq_par, exq_unp, exq_aug, exq_seti, exq_app, exq_ext, exq_drop, exq_ret, exq_retv, exq_retN, exq_ife, exq_for, exq_whl, exq_brk, exq_cnt, exq_pas, exq_nev, exq_frz, evA, evO, evs, evB, evC, evI, evT, exs, look, setE, asg_nm, asg_tp, asgs_nil, asgs_cons, T.own, Ts.own, wipeE, fzL, rdL, kidL, parE, vaE, c_parts_of, in_s2, in_s3, s1, s2, s3]
theorem sum_len : ∀ ps : List (P A), (ps.map fun p => ((lvs p).length : Int)).sum = ((ps.flatMap lvs).length : Nat)
  | [] => rfl
  | p :: ps => by rw [List.map_cons, List.sum_cons, sum_len ps, List.flatMap_cons, List.length_append]; omega
theorem parts_wd {α : Type} {p : P α} {k : Nat} (h : wd p ≤ k) (hk : 1 ≤ k) : (parts p).length ≤ k ∧ ∀ q ∈ parts p, wd q ≤ k := by
  cases p with
  | «at» a => exact ⟨Nat.zero_le _, fun q hq => by cases hq⟩
  | row ps => unfold wd at h; exact ⟨by show ps.length ≤ k; omega, fun q hq => by have := wdL_le (show q ∈ ps from hq); omega⟩
  | eit ps => unfold wd at h; exact ⟨by show ps.length ≤ k; omega, fun q hq => by have := wdL_le (show q ∈ ps from hq); omega⟩
  | star p => unfold wd at h; exact ⟨hk, fun q hq => by rw [List.mem_singleton.mp hq]; exact h⟩
  | plus p => unfold wd at h; exact ⟨hk, fun q hq => by rw [List.mem_singleton.mp hq]; exact h⟩
  | may p => unfold wd at h; exact ⟨hk, fun q hq => by rw [List.mem_singleton.mp hq]; exact h⟩
theorem run_items {f g : Nat} (h : C[f]? = some (c_items_of f g)) (hg : C[g]? = some c_parts_of) : ∀ (k : Nat) (p : P A), ht p ≤ k → wd p ≤ 60 → ∀ (n : Nat) (O : Sto), run C (n + k + 2) f [enc eA p] O = .ok (.fz (.int (lvs p).length)) O := by
  have s3 := @sz 3 (by decide)
  have at_case : ∀ (a : A) (n : Nat) (O : Sto), run C (n + 1) f [enc eA (.at a)] O = .ok (.fz (.int (lvs (.at a)).length)) O := fun a n O => by
    rw [run_at h rfl, enc_at]
    unfold lvs
    cases a <;> simp [evq_var, evq_con, evq_glb, evq_bin, evq_neg, evq_cmp, evq_isn, evq_chn, evq_and, evq_or, evq_not, evq_ite, evq_tup, evq_lst, evq_cell, evq_idx, evq_slc, evq_rev, evq_call, evq_callD, evq_tups, evq_lsts, exq_mat, exC, evX, evq_bi, evq_sset, evq_isi, evq_met, evq_lrg, evq_lrg1, evq_lc, evq_lc2, evq_ssc, exq_set, exq_par, exq_unp, exq_aug, exq_seti, exq_app, exq_ext, exq_drop, exq_ret, exq_retv, exq_retN, exq_ife, exq_for, exq_whl, exq_brk, exq_cnt, exq_pas, exq_nev, exq_frz, evA, evO, evs, evB, evC, evI, evT, exs, look, setE, asg_nm, asg_tp, asgs_nil, asgs_cons, T.own, Ts.own, wipeE, fzL, rdL, kidL, parE, vaE, c_items_of, eA, in_s3, s3]
  intro k
  induction k with
  | zero =>
    intro p hp hw n O
    cases p with
    | «at» a => exact at_case a (n + 1) O
    | _ => unfold ht at hp; omega
  | succ k ih =>
    intro p hp hw n O
    by_cases ha : ∃ a, p = .at a
    · obtain ⟨a, rfl⟩ := ha
      exact at_case a (n + (k + 1) + 1) O
    · have na : ∀ a, p ≠ .at a := fun a e => ha ⟨a, e⟩
      obtain ⟨w1, w2⟩ := parts_wd hw (by decide)
      have rp := run_parts (n := n + (k + 1)) (O := O) hg p
      rw [run_at h rfl]
      have lc := lcS_map (call := run C (n + (k + 1) + 1)) (m := 0) (t := .nm 1) (e := .call f (.cons (.var 1) .nil)) (env := [.va (enc eA p), .un]) (O := O) (parts p) (enc eA) (fun q => .int (lvs q).length) (fun q hq => by
        have := ih q (by have := ht_parts hq; omega) (w2 q hq) n O
        have e : n + k + 2 = n + (k + 1) + 1 := by omega
        rw [e] at this
        simp [evq_var, evq_con, evq_glb, evq_bin, evq_neg, evq_cmp, evq_isn, evq_chn, evq_and, evq_or, evq_not, evq_ite, evq_tup, evq_lst, evq_cell, evq_idx, evq_slc, evq_rev, evq_call, evq_callD, evq_tups, evq_lsts, exq_mat, exC, evX, evq_bi, evq_sset, evq_isi, evq_met, evq_lrg, evq_lrg1, evq_lc, evq_lc2, evq_ssc, exq_set, exq_par, exq_unp, exq_aug, exq_seti, exq_app, exq_ext, exq_drop, exq_ret, exq_retv, exq_retN, exq_ife, exq_for, exq_whl, exq_brk, exq_cnt, exq_pas, exq_nev, exq_frz, evA, evO, evs, evB, evC, evI, evT, exs, look, setE, asg_nm, asg_tp, asgs_nil, asgs_cons, T.own, Ts.own, wipeE, fzL, rdL, kidL, parE, vaE, this]) (sz (by omega))
      have e : ((parts p).map fun q => D.int (lvs q).length) = ((parts p).map fun q => ((lvs q).length : Int)).map D.int := by rw [List.map_map]; rfl
      rw [e] at lc
      have bs := @bi_sum ((parts p).map fun q => ((lvs q).length : Int))
      rw [sum_len, ← lvs_parts na] at bs
      obtain ⟨w, d, e, cs⟩ := enc_kind na
      have nw : (tAny == w || (tCls == w || tNot == w)) = false := by
        rcases cs with ⟨rfl | rfl, _⟩ | ⟨rfl | rfl | rfl, _⟩ <;> decide
      rw [e] at lc rp ⊢
      generalize ((parts p).map fun q => ((lvs q).length : Int)).map D.int = ds at lc bs
      generalize (parts p).map (enc eA) = es at lc rp
      have nw := nw
      simp only [tAny, tCls, tNot] at nw
      have i3 := @in_s3 w [97, 110, 121] [99, 108, 97, 115, 115] [110, 111, 116]
      rw [nw] at i3
      simp [evq_var, evq_con, evq_glb, evq_bin, evq_neg, evq_cmp, evq_isn, evq_chn, evq_and, evq_or, evq_not, evq_ite, evq_tup, evq_lst, evq_cell, evq_idx, evq_slc, evq_rev, evq_call, evq_callD, evq_tups, evq_lsts, exq_mat, exC, evX, evq_bi, evq_sset, evq_isi, evq_met, evq_lrg, evq_lrg1, evq_lc, evq_lc2, evq_ssc, exq_set, exq_par, exq_unp, exq_aug, exq_seti, exq_app, exq_ext, exq_drop, exq_ret, exq_retv, exq_retN, exq_ife, exq_for, exq_whl, exq_brk, exq_cnt, exq_pas, exq_nev, exq_frz, evA, evO, evs, evB, evC, evI, evT, exs, look, setE, asg_nm, asg_tp, asgs_nil, asgs_cons, T.own, Ts.own, wipeE, fzL, rdL, kidL, parE, vaE, c_items_of, i3, s3, rp, lc, bs]
/-- the names that items tell -/
def nms (p : P A) : List Tx := (lvs p).filterMap tl
theorem nms_parts {p : P A} (h : ∀ a, p ≠ .at a) : nms p = (parts p).flatMap nms := by
  unfold nms
  rw [lvs_parts h, List.filterMap_flatMap]
theorem flat_le {α β : Type} (g : α → List β) : ∀ (l : List α) {k : Nat}, (l.flatMap g).length ≤ k → ∀ a ∈ l, (g a).length ≤ k
  | [], _, _, _, h => by cases h
  | b :: l, k, hk, a, h => by
    rw [List.flatMap_cons, List.length_append] at hk
    rcases List.mem_cons.mp h with rfl | h
    · omega
    · exact flat_le g l (by omega) a h
theorem nms_le (p : P A) : (nms p).length ≤ (lvs p).length := List.length_filterMap_le _ _
theorem run_names {f g : Nat} (h : C[f]? = some (c_names_in f g)) (hg : C[g]? = some c_parts_of) : ∀ (k : Nat) (p : P A), ht p ≤ k → wd p ≤ 60 → (lvs p).length ≤ 1000 → ∀ (n : Nat) (O : Sto), run C (n + k + 2) f [enc eA p] O = .ok (.ow 1 (.lst ((nms p).map .str))) O := by
  have s2 := @sz 2 (by decide)
  have s1 := @sz 1 (by decide)
  have any_case : ∀ (n : Nat) (O : Sto), run C (n + 2) f [enc eA (.at .any)] O = .ok (.ow 1 (.lst ((nms (.at .any)).map .str))) O := fun n O => by
    have rp := run_parts (n := n) (O := O) hg (.at .any)
    rw [run_at h rfl]
    rw [enc_at] at rp ⊢
    simp only [parts, List.map_nil, eA] at rp
    have lc := lc2S_map (call := run C (n + 1)) (m := 0) (t := .nm 1) (t1 := .nm 2) (i1 := .e (.call f (.cons (.var 1) .nil))) (e := .var 2) (env := [.va (.tup [.str tAny]), .un, .un]) (O := O) ([] : List (P A)) (enc eA) (fun _ => ([] : List Tx)) .str .str (fun p hp => by cases hp) (by simp [sz])
    simp only [List.map_nil, List.flatMap_nil] at lc
    unfold nms lvs
    simp [evq_var, evq_con, evq_glb, evq_bin, evq_neg, evq_cmp, evq_isn, evq_chn, evq_and, evq_or, evq_not, evq_ite, evq_tup, evq_lst, evq_cell, evq_idx, evq_slc, evq_rev, evq_call, evq_callD, evq_tups, evq_lsts, exq_mat, exC, evX, evq_bi, evq_sset, evq_isi, evq_met, evq_lrg, evq_lrg1, evq_lc, evq_lc2, evq_ssc, exq_set, exq_par, exq_unp, exq_aug, exq_seti, exq_app, exq_ext, exq_drop, exq_ret, exq_retv, exq_retN, exq_ife, exq_for, exq_whl, exq_brk, exq_cnt, exq_pas, exq_nev, exq_frz, evA, evO, evs, evB, evC, evI, evT, exs, look, setE, asg_nm, asg_tp, asgs_nil, asgs_cons, T.own, Ts.own, wipeE, fzL, rdL, kidL, parE, vaE, c_names_in, eA, in_s2, s2, rp, lc, tl]
  have at_case : ∀ (a : A) (n : Nat) (O : Sto), run C (n + 2) f [enc eA (.at a)] O = .ok (.ow 1 (.lst ((nms (.at a)).map .str))) O := fun a n O => by
    cases a with
    | any => exact any_case n O
    | cls x =>
      rw [run_at h rfl, enc_at]
      unfold nms lvs
      simp [evq_var, evq_con, evq_glb, evq_bin, evq_neg, evq_cmp, evq_isn, evq_chn, evq_and, evq_or, evq_not, evq_ite, evq_tup, evq_lst, evq_cell, evq_idx, evq_slc, evq_rev, evq_call, evq_callD, evq_tups, evq_lsts, exq_mat, exC, evX, evq_bi, evq_sset, evq_isi, evq_met, evq_lrg, evq_lrg1, evq_lc, evq_lc2, evq_ssc, exq_set, exq_par, exq_unp, exq_aug, exq_seti, exq_app, exq_ext, exq_drop, exq_ret, exq_retv, exq_retN, exq_ife, exq_for, exq_whl, exq_brk, exq_cnt, exq_pas, exq_nev, exq_frz, evA, evO, evs, evB, evC, evI, evT, exs, look, setE, asg_nm, asg_tp, asgs_nil, asgs_cons, T.own, Ts.own, wipeE, fzL, rdL, kidL, parE, vaE, c_names_in, eA, in_s2, s2, s1, tl]
    | non x =>
      rw [run_at h rfl, enc_at]
      unfold nms lvs
      simp [evq_var, evq_con, evq_glb, evq_bin, evq_neg, evq_cmp, evq_isn, evq_chn, evq_and, evq_or, evq_not, evq_ite, evq_tup, evq_lst, evq_cell, evq_idx, evq_slc, evq_rev, evq_call, evq_callD, evq_tups, evq_lsts, exq_mat, exC, evX, evq_bi, evq_sset, evq_isi, evq_met, evq_lrg, evq_lrg1, evq_lc, evq_lc2, evq_ssc, exq_set, exq_par, exq_unp, exq_aug, exq_seti, exq_app, exq_ext, exq_drop, exq_ret, exq_retv, exq_retN, exq_ife, exq_for, exq_whl, exq_brk, exq_cnt, exq_pas, exq_nev, exq_frz, evA, evO, evs, evB, evC, evI, evT, exs, look, setE, asg_nm, asg_tp, asgs_nil, asgs_cons, T.own, Ts.own, wipeE, fzL, rdL, kidL, parE, vaE, c_names_in, eA, in_s2, s2, s1, tl]
  intro k
  induction k with
  | zero =>
    intro p hp hw hl n O
    cases p with
    | «at» a => exact at_case a n O
    | _ => unfold ht at hp; omega
  | succ k ih =>
    intro p hp hw hl n O
    by_cases ha : ∃ a, p = .at a
    · obtain ⟨a, rfl⟩ := ha
      exact at_case a (n + (k + 1)) O
    · have na : ∀ a, p ≠ .at a := fun a e => ha ⟨a, e⟩
      obtain ⟨w1, w2⟩ := parts_wd hw (by decide)
      have rp := run_parts (n := n + (k + 1)) (O := O) hg p
      rw [run_at h rfl]
      have hl2 := hl
      rw [lvs_parts na] at hl2
      have e2 : ((parts p).flatMap fun q => (nms q).map D.str) = (nms p).map D.str := by rw [nms_parts na, List.map_flatMap]
      have lc := lc2S_map (call := run C (n + (k + 1) + 1)) (m := 0) (t := .nm 1) (t1 := .nm 2) (i1 := .e (.call f (.cons (.var 1) .nil))) (e := .var 2) (env := [.va (enc eA p), .un, .un]) (O := O) (parts p) (enc eA) nms .str .str (fun q hq => by
        have := ih q (by have := ht_parts hq; omega) (w2 q hq) (flat_le lvs _ hl2 q hq) n O
        have e : n + k + 2 = n + (k + 1) + 1 := by omega
        rw [e] at this
        refine ⟨[.va (enc eA p), .va (enc eA q), .un], ?_, ?_, fun b hb => ?_⟩
        · simp [evq_var, evq_con, evq_glb, evq_bin, evq_neg, evq_cmp, evq_isn, evq_chn, evq_and, evq_or, evq_not, evq_ite, evq_tup, evq_lst, evq_cell, evq_idx, evq_slc, evq_rev, evq_call, evq_callD, evq_tups, evq_lsts, exq_mat, exC, evX, evq_bi, evq_sset, evq_isi, evq_met, evq_lrg, evq_lrg1, evq_lc, evq_lc2, evq_ssc, exq_set, exq_par, exq_unp, exq_aug, exq_seti, exq_app, exq_ext, exq_drop, exq_ret, exq_retv, exq_retN, exq_ife, exq_for, exq_whl, exq_brk, exq_cnt, exq_pas, exq_nev, exq_frz, evA, evO, evs, evB, evC, evI, evT, exs, look, setE, asg_nm, asg_tp, asgs_nil, asgs_cons, T.own, Ts.own, wipeE, fzL, rdL, kidL, parE, vaE]
        · simp [evq_var, evq_con, evq_glb, evq_bin, evq_neg, evq_cmp, evq_isn, evq_chn, evq_and, evq_or, evq_not, evq_ite, evq_tup, evq_lst, evq_cell, evq_idx, evq_slc, evq_rev, evq_call, evq_callD, evq_tups, evq_lsts, exq_mat, exC, evX, evq_bi, evq_sset, evq_isi, evq_met, evq_lrg, evq_lrg1, evq_lc, evq_lc2, evq_ssc, exq_set, exq_par, exq_unp, exq_aug, exq_seti, exq_app, exq_ext, exq_drop, exq_ret, exq_retv, exq_retN, exq_ife, exq_for, exq_whl, exq_brk, exq_cnt, exq_pas, exq_nev, exq_frz, evA, evO, evs, evB, evC, evI, evT, exs, look, setE, asg_nm, asg_tp, asgs_nil, asgs_cons, T.own, Ts.own, wipeE, fzL, rdL, kidL, parE, vaE, this]
        · simp [evq_var, evq_con, evq_glb, evq_bin, evq_neg, evq_cmp, evq_isn, evq_chn, evq_and, evq_or, evq_not, evq_ite, evq_tup, evq_lst, evq_cell, evq_idx, evq_slc, evq_rev, evq_call, evq_callD, evq_tups, evq_lsts, exq_mat, exC, evX, evq_bi, evq_sset, evq_isi, evq_met, evq_lrg, evq_lrg1, evq_lc, evq_lc2, evq_ssc, exq_set, exq_par, exq_unp, exq_aug, exq_seti, exq_app, exq_ext, exq_drop, exq_ret, exq_retv, exq_retN, exq_ife, exq_for, exq_whl, exq_brk, exq_cnt, exq_pas, exq_nev, exq_frz, evA, evO, evs, evB, evC, evI, evT, exs, look, setE, asg_nm, asg_tp, asgs_nil, asgs_cons, T.own, Ts.own, wipeE, fzL, rdL, kidL, parE, vaE]) (by rw [e2, List.length_map]; have := nms_le p; exact sz (by omega))
      rw [e2] at lc
      obtain ⟨w, d, e, cs⟩ := enc_kind na
      have nw : (tCls == w || tNot == w) = false := by
        rcases cs with ⟨rfl | rfl, _⟩ | ⟨rfl | rfl | rfl, _⟩ <;> decide
      rw [e] at lc rp ⊢
      generalize (nms p).map D.str = ds at lc
      generalize (parts p).map (enc eA) = es at lc rp
      have nw := nw
      simp only [tCls, tNot] at nw
      have i2 := @in_s2 w [99, 108, 97, 115, 115] [110, 111, 116]
      rw [nw] at i2
      simp [evq_var, evq_con, evq_glb, evq_bin, evq_neg, evq_cmp, evq_isn, evq_chn, evq_and, evq_or, evq_not, evq_ite, evq_tup, evq_lst, evq_cell, evq_idx, evq_slc, evq_rev, evq_call, evq_callD, evq_tups, evq_lsts, exq_mat, exC, evX, evq_bi, evq_sset, evq_isi, evq_met, evq_lrg, evq_lrg1, evq_lc, evq_lc2, evq_ssc, exq_set, exq_par, exq_unp, exq_aug, exq_seti, exq_app, exq_ext, exq_drop, exq_ret, exq_retv, exq_retN, exq_ife, exq_for, exq_whl, exq_brk, exq_cnt, exq_pas, exq_nev, exq_frz, evA, evO, evs, evB, evC, evI, evT, exs, look, setE, asg_nm, asg_tp, asgs_nil, asgs_cons, T.own, Ts.own, wipeE, fzL, rdL, kidL, parE, vaE, c_names_in, i2, s2, rp, lc]
end
end Ev.PtW

/-! turned, resolved, matched -/
namespace Ev.PtW
open PySem L2 Pt
section
variable {C : List Code} {n : Nat} {O : Sto}
theorem run_rev {f : Nat} (h : C[f]? = some (c_reversed_pattern f)) : ∀ (k : Nat) (p : P A), ht p ≤ k → wd p ≤ 60 → ∀ (n : Nat) (O : Sto), run C (n + k + 1) f [enc eA p] O = .ok (.fz (enc eA (rev p))) O := by
  have s2 := @sz 2 (by decide)
  have s3 := @sz 3 (by decide)
  have at_case : ∀ (a : A) (n : Nat) (O : Sto), run C (n + 1) f [enc eA (.at a)] O = .ok (.fz (enc eA (rev (.at a)))) O := fun a n O => by
    have e : rev (.at a) = .at a := by unfold rev; rfl
    rw [run_at h rfl, e, enc_at]
    cases a <;> simp [evq_var, evq_con, evq_glb, evq_bin, evq_neg, evq_cmp, evq_isn, evq_chn, evq_and, evq_or, evq_not, evq_ite, evq_tup, evq_lst, evq_cell, evq_idx, evq_slc, evq_rev, evq_call, evq_callD, evq_tups, evq_lsts, exq_mat, exC, evX, evq_bi, evq_sset, evq_isi, evq_met, evq_lrg, evq_lrg1, evq_lc, evq_lc2, evq_ssc, exq_set, exq_par, exq_unp, exq_aug, exq_seti, exq_app, exq_ext, exq_drop, exq_ret, exq_retv, exq_retN, exq_ife, exq_for, exq_whl, exq_brk, exq_cnt, exq_pas, exq_nev, exq_frz, evA, evO, evs, evB, evC, evI, evT, exs, look, setE, asg_nm, asg_tp, asgs_nil, asgs_cons, T.own, Ts.own, wipeE, fzL, rdL, kidL, parE, vaE, c_reversed_pattern, eA, in_s3, s3]
  intro k
  induction k with
  | zero =>
    intro p hp hw n O
    cases p with
    | «at» a => exact at_case a n O
    | _ => unfold ht at hp; omega
  | succ k ih =>
    intro p hp hw n O
    have lst : ∀ (ps : List (P A)) (env : List Sl), ps.length ≤ 60 → (∀ q ∈ ps, ht q ≤ k ∧ wd q ≤ 60) → ∀ l0 l1 l2 : Sl, lcS (run C (n + (k + 1))) 0 (.nm 2) .nil (.call f (.cons (.var 2) .nil)) [l0, l1, l2] (ps.map (enc eA)) O = .ok ((ps.map rev).map (enc eA)) O := fun ps env hl hq l0 l1 l2 => by
      have := lcS_map (call := run C (n + (k + 1))) (m := 0) (t := .nm 2) (e := .call f (.cons (.var 2) .nil)) (env := [l0, l1, l2]) (O := O) ps (enc eA) (fun q => enc eA (rev q)) (fun q hq' => by
        have := ih q (hq q hq').1 (hq q hq').2 n O
        have e : n + k + 1 = n + (k + 1) := by omega
        rw [e] at this
        simp [evq_var, evq_con, evq_glb, evq_bin, evq_neg, evq_cmp, evq_isn, evq_chn, evq_and, evq_or, evq_not, evq_ite, evq_tup, evq_lst, evq_cell, evq_idx, evq_slc, evq_rev, evq_call, evq_callD, evq_tups, evq_lsts, exq_mat, exC, evX, evq_bi, evq_sset, evq_isi, evq_met, evq_lrg, evq_lrg1, evq_lc, evq_lc2, evq_ssc, exq_set, exq_par, exq_unp, exq_aug, exq_seti, exq_app, exq_ext, exq_drop, exq_ret, exq_retv, exq_retN, exq_ife, exq_for, exq_whl, exq_brk, exq_cnt, exq_pas, exq_nev, exq_frz, evA, evO, evs, evB, evC, evI, evT, exs, look, setE, asg_nm, asg_tp, asgs_nil, asgs_cons, T.own, Ts.own, wipeE, fzL, rdL, kidL, parE, vaE, this]) (sz (by omega))
      rw [this, List.map_map]; rfl
    cases p with
    | «at» a => exact at_case a (n + (k + 1)) O
    | row ps =>
      unfold ht at hp
      unfold wd at hw
      have e : rev (.row ps) = .row (ps.reverse.map rev) := by
        conv => lhs; unfold rev
        rw [revL_map, List.map_reverse]
      rw [run_at h rfl, e, enc_row, enc_row]
      have lc := lst ps.reverse [] (by rw [List.length_reverse]; omega) (fun q hq => by
        have hq := List.mem_reverse.mp hq
        have := htL_le hq
        have := wdL_le hq
        omega) (.va (.tup [.str tRow, .tup (ps.map (enc eA))])) (.va (.str tRow)) .un
      have rv : revD (.tup (ps.map (enc eA))) = some (.fz (.tup (ps.reverse.map (enc eA)))) := by
        show some (XD.fz (.tup (ps.map (enc eA)).reverse)) = _
        rw [List.map_reverse]
      generalize (ps.reverse.map rev).map (enc eA) = ds at lc ⊢
      generalize ps.reverse.map (enc eA) = es at lc rv
      simp [evq_var, evq_con, evq_glb, evq_bin, evq_neg, evq_cmp, evq_isn, evq_chn, evq_and, evq_or, evq_not, evq_ite, evq_tup, evq_lst, evq_cell, evq_idx, evq_slc, evq_rev, evq_call, evq_callD, evq_tups, evq_lsts, exq_mat, exC, evX, evq_bi, evq_sset, evq_isi, evq_met, evq_lrg, evq_lrg1, evq_lc, evq_lc2, evq_ssc, exq_set, exq_par, exq_unp, exq_aug, exq_seti, exq_app, exq_ext, exq_drop, exq_ret, exq_retv, exq_retN, exq_ife, exq_for, exq_whl, exq_brk, exq_cnt, exq_pas, exq_nev, exq_frz, evA, evO, evs, evB, evC, evI, evT, exs, look, setE, asg_nm, asg_tp, asgs_nil, asgs_cons, T.own, Ts.own, wipeE, fzL, rdL, kidL, parE, vaE, c_reversed_pattern, s2, rv, lc]
    | eit ps =>
      unfold ht at hp
      unfold wd at hw
      have e : rev (.eit ps) = .eit (ps.map rev) := by
        conv => lhs; unfold rev
        rw [revL_map]
      rw [run_at h rfl, e, enc_eit, enc_eit]
      have lc := lst ps [] (by omega) (fun q hq => by
        have := htL_le hq
        have := wdL_le hq
        omega) (.va (.tup [.str tEit, .tup (ps.map (enc eA))])) (.va (.str tEit)) .un
      generalize (ps.map rev).map (enc eA) = ds at lc ⊢
      generalize ps.map (enc eA) = es at lc
      simp [evq_var, evq_con, evq_glb, evq_bin, evq_neg, evq_cmp, evq_isn, evq_chn, evq_and, evq_or, evq_not, evq_ite, evq_tup, evq_lst, evq_cell, evq_idx, evq_slc, evq_rev, evq_call, evq_callD, evq_tups, evq_lsts, exq_mat, exC, evX, evq_bi, evq_sset, evq_isi, evq_met, evq_lrg, evq_lrg1, evq_lc, evq_lc2, evq_ssc, exq_set, exq_par, exq_unp, exq_aug, exq_seti, exq_app, exq_ext, exq_drop, exq_ret, exq_retv, exq_retN, exq_ife, exq_for, exq_whl, exq_brk, exq_cnt, exq_pas, exq_nev, exq_frz, evA, evO, evs, evB, evC, evI, evT, exs, look, setE, asg_nm, asg_tp, asgs_nil, asgs_cons, T.own, Ts.own, wipeE, fzL, rdL, kidL, parE, vaE, c_reversed_pattern, s2, lc]
    | star p =>
      unfold ht at hp
      unfold wd at hw
      have e : rev (.star p) = .star (rev p) := by conv => lhs; unfold rev
      rw [run_at h rfl, e, enc_star, enc_star]
      have := ih p (by omega) hw n O
      have e : n + k + 1 = n + (k + 1) := by omega
      rw [e] at this
      simp [evq_var, evq_con, evq_glb, evq_bin, evq_neg, evq_cmp, evq_isn, evq_chn, evq_and, evq_or, evq_not, evq_ite, evq_tup, evq_lst, evq_cell, evq_idx, evq_slc, evq_rev, evq_call, evq_callD, evq_tups, evq_lsts, exq_mat, exC, evX, evq_bi, evq_sset, evq_isi, evq_met, evq_lrg, evq_lrg1, evq_lc, evq_lc2, evq_ssc, exq_set, exq_par, exq_unp, exq_aug, exq_seti, exq_app, exq_ext, exq_drop, exq_ret, exq_retv, exq_retN, exq_ife, exq_for, exq_whl, exq_brk, exq_cnt, exq_pas, exq_nev, exq_frz, evA, evO, evs, evB, evC, evI, evT, exs, look, setE, asg_nm, asg_tp, asgs_nil, asgs_cons, T.own, Ts.own, wipeE, fzL, rdL, kidL, parE, vaE, c_reversed_pattern, s2, s3, in_s3, this]
    | plus p =>
      unfold ht at hp
      unfold wd at hw
      have e : rev (.plus p) = .plus (rev p) := by conv => lhs; unfold rev
      rw [run_at h rfl, e, enc_plus, enc_plus]
      have := ih p (by omega) hw n O
      have e : n + k + 1 = n + (k + 1) := by omega
      rw [e] at this
      simp [evq_var, evq_con, evq_glb, evq_bin, evq_neg, evq_cmp, evq_isn, evq_chn, evq_and, evq_or, evq_not, evq_ite, evq_tup, evq_lst, evq_cell, evq_idx, evq_slc, evq_rev, evq_call, evq_callD, evq_tups, evq_lsts, exq_mat, exC, evX, evq_bi, evq_sset, evq_isi, evq_met, evq_lrg, evq_lrg1, evq_lc, evq_lc2, evq_ssc, exq_set, exq_par, exq_unp, exq_aug, exq_seti, exq_app, exq_ext, exq_drop, exq_ret, exq_retv, exq_retN, exq_ife, exq_for, exq_whl, exq_brk, exq_cnt, exq_pas, exq_nev, exq_frz, evA, evO, evs, evB, evC, evI, evT, exs, look, setE, asg_nm, asg_tp, asgs_nil, asgs_cons, T.own, Ts.own, wipeE, fzL, rdL, kidL, parE, vaE, c_reversed_pattern, s2, s3, in_s3, this]
    | may p =>
      unfold ht at hp
      unfold wd at hw
      have e : rev (.may p) = .may (rev p) := by conv => lhs; unfold rev
      rw [run_at h rfl, e, enc_may, enc_may]
      have := ih p (by omega) hw n O
      have e : n + k + 1 = n + (k + 1) := by omega
      rw [e] at this
      simp [evq_var, evq_con, evq_glb, evq_bin, evq_neg, evq_cmp, evq_isn, evq_chn, evq_and, evq_or, evq_not, evq_ite, evq_tup, evq_lst, evq_cell, evq_idx, evq_slc, evq_rev, evq_call, evq_callD, evq_tups, evq_lsts, exq_mat, exC, evX, evq_bi, evq_sset, evq_isi, evq_met, evq_lrg, evq_lrg1, evq_lc, evq_lc2, evq_ssc, exq_set, exq_par, exq_unp, exq_aug, exq_seti, exq_app, exq_ext, exq_drop, exq_ret, exq_retv, exq_retN, exq_ife, exq_for, exq_whl, exq_brk, exq_cnt, exq_pas, exq_nev, exq_frz, evA, evO, evs, evB, evC, evI, evT, exs, look, setE, asg_nm, asg_tp, asgs_nil, asgs_cons, T.own, Ts.own, wipeE, fzL, rdL, kidL, parE, vaE, c_reversed_pattern, s2, s3, in_s3, this]
/-! resolved: items tell the numbers of classes -/
def ixs (nm : List Tx) : List (Nat × Tx) := nm.mapIdx fun i x => (i, x)
def eIx (p : Nat × Tx) : D := .tup [.int (p.1 : Nat), .str p.2]
theorem enumL_str (nm : List Tx) : enumL (nm.map .str) = (ixs nm).map eIx := by
  apply List.ext_getElem?
  intro i
  unfold enumL ixs
  rw [List.getElem?_mapIdx, List.getElem?_map, List.getElem?_map, List.getElem?_mapIdx]
  cases nm[i]? <;> rfl
theorem ixs_mem {nm : List Tx} {i : Nat} {x : Tx} : (i, x) ∈ ixs nm ↔ nm[i]? = some x := by
  unfold ixs
  rw [List.mem_iff_getElem?]
  constructor
  · rintro ⟨j, h⟩
    rw [List.getElem?_mapIdx] at h
    obtain ⟨y, hy, e⟩ := Option.map_eq_some_iff.mp h
    cases e; exact hy
  · intro h
    exact ⟨i, by rw [List.getElem?_mapIdx, h]; rfl⟩
def selA (a : A) (x : Tx) : Bool := match a with
  | .any => true
  | .cls y => x == y
  | .non y => !(x == y)
/-- the numbers of the classes that an item takes -/
def fA (nm : List Tx) (a : A) : List Int := ((ixs nm).filter fun p => selA a p.2).map fun p => ((p.1 : Nat) : Int)
theorem fA_mem {nm : List Tx} {a : A} {r : Int} : r ∈ fA nm a ↔ 0 ≤ r ∧ ∃ x, nm[r.toNat]? = some x ∧ selA a x = true := by
  unfold fA
  rw [List.mem_map]
  constructor
  · rintro ⟨⟨i, x⟩, h, rfl⟩
    obtain ⟨h1, h2⟩ := List.mem_filter.mp h
    exact ⟨by omega, x, by rw [Int.toNat_natCast]; exact ixs_mem.mp h1, h2⟩
  · rintro ⟨h0, x, h1, h2⟩
    exact ⟨(r.toNat, x), List.mem_filter.mpr ⟨ixs_mem.mpr h1, h2⟩, by simp only; omega⟩
theorem fA_any (nm : List Tx) : fA nm .any = (List.range nm.length).map fun (i : Nat) => (i : Int) := by
  unfold fA
  have ef : (ixs nm).filter (fun p => selA .any p.2) = ixs nm := List.filter_eq_self.mpr fun _ _ => rfl
  rw [ef]
  apply List.ext_getElem?
  intro i
  unfold ixs
  rw [List.getElem?_map, List.getElem?_mapIdx, List.getElem?_map]
  by_cases h : i < nm.length
  · rw [List.getElem?_eq_getElem h, List.getElem?_range h]; rfl
  · rw [List.getElem?_eq_none (by omega), List.getElem?_eq_none (by rw [List.length_range]; omega)]; rfl
/-- a row's names: a tuple or a list -/
def Nms (d : D) (nm : List Tx) : Prop := d = .tup (nm.map .str) ∨ d = .lst (nm.map .str)
theorem run_res {f : Nat} (h : C[f]? = some (c_resolved f)) {nd : D} {nm : List Tx} (hn : Nms nd nm) (hnl : nm.length ≤ 60) : ∀ (k : Nat) (p : P A), ht p ≤ k → wd p ≤ 60 → ∀ (n : Nat) (O : Sto), run C (n + k + 1) f [enc eA p, nd] O = .ok (.fz (enc eR (res (fA nm) p))) O := by
  have s2 := @sz 2 (by decide)
  have s0 := @sz 0 (by decide)
  have ln : bi1 .len nd = some (.fz (.int (nm.length : Nat))) := by rcases hn with rfl | rfl <;> simp
  have en : enumX nd = some ((ixs nm).map eIx) := by
    rw [← enumL_str]
    rcases hn with rfl | rfl <;> rfl
  have rg : lrgD true (.int 0) (.int (nm.length : Nat)) = some (.fz (.tup ((fA nm .any).map .int))) := by
    have ok : RgOk 0 (nm.length : Nat) := RgOk.of_le (by omega) (by omega) (by omega) (by omega)
    simp only [lrgD]
    rw [if_pos ok, fA_any, List.map_map]
    unfold rgL
    simp [Function.comp_def]
  have sel : ∀ (a : A) (op : CmpOp) (y : Tx), (∀ x : Tx, cmpD op (.str x) (.str y) = some (selA a x)) → ∀ (w : Tx) (n : Nat) (O : Sto), lcS (run C n) 0 (.tp (.cons (.nm 4) (.cons (.nm 5) .nil))) (.cons (.cmp op (.var 5) (.idx (.var 0) (.con (.int 1)))) .nil) (.var 4)
      [.va (.tup [.str w, .str y]), .va nd, .va (.str w), .un, .un, .un] ((ixs nm).map eIx) O = .ok ((fA nm a).map .int) O := fun a op y hop w n O => by
    have := lcS_filt (call := run C n) (m := 0) (t := .tp (.cons (.nm 4) (.cons (.nm 5) .nil))) (c := .cons (.cmp op (.var 5) (.idx (.var 0) (.con (.int 1)))) .nil) (e := .var 4)
      (env := [.va (.tup [.str w, .str y]), .va nd, .va (.str w), .un, .un, .un]) (O := O) (ixs nm) eIx (fun p => selA a p.2) (fun p => .int (p.1 : Nat)) (fun p hp => by
        have hq := hop p.2
        cases b : selA a p.2 with
        | true =>
          rw [b] at hq
          simp [evq_var, evq_con, evq_glb, evq_bin, evq_neg, evq_cmp, evq_isn, evq_chn, evq_and, evq_or, evq_not, evq_ite, evq_tup, evq_lst, evq_cell, evq_idx, evq_slc, evq_rev, evq_call, evq_callD, evq_tups, evq_lsts, exq_mat, exC, evX, evq_bi, evq_sset, evq_isi, evq_met, evq_lrg, evq_lrg1, evq_lc, evq_lc2, evq_ssc, exq_set, exq_par, exq_unp, exq_aug, exq_seti, exq_app, exq_ext, exq_drop, exq_ret, exq_retv, exq_retN, exq_ife, exq_for, exq_whl, exq_brk, exq_cnt, exq_pas, exq_nev, exq_frz, evA, evO, evs, evB, evC, evI, evT, exs, look, setE, asg_nm, asg_tp, asgs_nil, asgs_cons, T.own, Ts.own, wipeE, fzL, rdL, kidL, parE, vaE, eIx, hq]
        | false =>
          rw [b] at hq
          simp [evq_var, evq_con, evq_glb, evq_bin, evq_neg, evq_cmp, evq_isn, evq_chn, evq_and, evq_or, evq_not, evq_ite, evq_tup, evq_lst, evq_cell, evq_idx, evq_slc, evq_rev, evq_call, evq_callD, evq_tups, evq_lsts, exq_mat, exC, evX, evq_bi, evq_sset, evq_isi, evq_met, evq_lrg, evq_lrg1, evq_lc, evq_lc2, evq_ssc, exq_set, exq_par, exq_unp, exq_aug, exq_seti, exq_app, exq_ext, exq_drop, exq_ret, exq_retv, exq_retN, exq_ife, exq_for, exq_whl, exq_brk, exq_cnt, exq_pas, exq_nev, exq_frz, evA, evO, evs, evB, evC, evI, evT, exs, look, setE, asg_nm, asg_tp, asgs_nil, asgs_cons, T.own, Ts.own, wipeE, fzL, rdL, kidL, parE, vaE, eIx, hq]) (by unfold ixs; rw [List.length_mapIdx]; exact sz (by omega))
    rw [this]
    unfold fA
    rw [List.map_map]; rfl
  have at_case : ∀ (a : A) (n : Nat) (O : Sto), run C (n + 1) f [enc eA (.at a), nd] O = .ok (.fz (enc eR (res (fA nm) (.at a)))) O := fun a n O => by
    have e : res (fA nm) (.at a) = .at (fA nm a) := by unfold res; rfl
    rw [run_at h rfl, e, enc_at, enc_at]
    cases a with
    | any =>
      show _ = R.ok (XD.fz (.tup [.str tIn, .tup ((fA nm .any).map .int)])) O
      generalize (fA nm .any).map D.int = ds at rg ⊢
      simp [evq_var, evq_con, evq_glb, evq_bin, evq_neg, evq_cmp, evq_isn, evq_chn, evq_and, evq_or, evq_not, evq_ite, evq_tup, evq_lst, evq_cell, evq_idx, evq_slc, evq_rev, evq_call, evq_callD, evq_tups, evq_lsts, exq_mat, exC, evX, evq_bi, evq_sset, evq_isi, evq_met, evq_lrg, evq_lrg1, evq_lc, evq_lc2, evq_ssc, exq_set, exq_par, exq_unp, exq_aug, exq_seti, exq_app, exq_ext, exq_drop, exq_ret, exq_retv, exq_retN, exq_ife, exq_for, exq_whl, exq_brk, exq_cnt, exq_pas, exq_nev, exq_frz, evA, evO, evs, evB, evC, evI, evT, exs, look, setE, asg_nm, asg_tp, asgs_nil, asgs_cons, T.own, Ts.own, wipeE, fzL, rdL, kidL, parE, vaE, c_resolved, eA, ln, rg, s2]
    | cls y =>
      have lc := sel (.cls y) .Eq y (fun x => by simp [selA]) tCls n O
      show _ = R.ok (XD.fz (.tup [.str tIn, .tup ((fA nm (.cls y)).map .int)])) O
      generalize (fA nm (.cls y)).map D.int = ds at lc ⊢
      generalize (ixs nm).map eIx = es at lc en
      simp [evq_var, evq_con, evq_glb, evq_bin, evq_neg, evq_cmp, evq_isn, evq_chn, evq_and, evq_or, evq_not, evq_ite, evq_tup, evq_lst, evq_cell, evq_idx, evq_slc, evq_rev, evq_call, evq_callD, evq_tups, evq_lsts, exq_mat, exC, evX, evq_bi, evq_sset, evq_isi, evq_met, evq_lrg, evq_lrg1, evq_lc, evq_lc2, evq_ssc, exq_set, exq_par, exq_unp, exq_aug, exq_seti, exq_app, exq_ext, exq_drop, exq_ret, exq_retv, exq_retN, exq_ife, exq_for, exq_whl, exq_brk, exq_cnt, exq_pas, exq_nev, exq_frz, evA, evO, evs, evB, evC, evI, evT, exs, look, setE, asg_nm, asg_tp, asgs_nil, asgs_cons, T.own, Ts.own, wipeE, fzL, rdL, kidL, parE, vaE, c_resolved, eA, en, lc, s2]
    | non y =>
      have lc := sel (.non y) .NotEq y (fun x => by simp [selA]) tNot n O
      show _ = R.ok (XD.fz (.tup [.str tIn, .tup ((fA nm (.non y)).map .int)])) O
      generalize (fA nm (.non y)).map D.int = ds at lc ⊢
      generalize (ixs nm).map eIx = es at lc en
      simp [evq_var, evq_con, evq_glb, evq_bin, evq_neg, evq_cmp, evq_isn, evq_chn, evq_and, evq_or, evq_not, evq_ite, evq_tup, evq_lst, evq_cell, evq_idx, evq_slc, evq_rev, evq_call, evq_callD, evq_tups, evq_lsts, exq_mat, exC, evX, evq_bi, evq_sset, evq_isi, evq_met, evq_lrg, evq_lrg1, evq_lc, evq_lc2, evq_ssc, exq_set, exq_par, exq_unp, exq_aug, exq_seti, exq_app, exq_ext, exq_drop, exq_ret, exq_retv, exq_retN, exq_ife, exq_for, exq_whl, exq_brk, exq_cnt, exq_pas, exq_nev, exq_frz, evA, evO, evs, evB, evC, evI, evT, exs, look, setE, asg_nm, asg_tp, asgs_nil, asgs_cons, T.own, Ts.own, wipeE, fzL, rdL, kidL, parE, vaE, c_resolved, eA, en, lc, s2]
  intro k
  induction k with
  | zero =>
    intro p hp hw n O
    cases p with
    | «at» a => exact at_case a n O
    | _ => unfold ht at hp; omega
  | succ k ih =>
    intro p hp hw n O
    have lst : ∀ (ps : List (P A)), ps.length ≤ 60 → (∀ q ∈ ps, ht q ≤ k ∧ wd q ≤ 60) → ∀ l0 l2 l3 l4 l5 : Sl, lcS (run C (n + (k + 1))) 0 (.nm 3) .nil (.call f (.cons (.var 3) (.cons (.var 1) .nil))) [l0, .va nd, l2, l3, l4, l5] (ps.map (enc eA)) O = .ok ((ps.map (res (fA nm))).map (enc eR)) O := fun ps hl hq l0 l2 l3 l4 l5 => by
      have := lcS_map (call := run C (n + (k + 1))) (m := 0) (t := .nm 3) (e := .call f (.cons (.var 3) (.cons (.var 1) .nil))) (env := [l0, .va nd, l2, l3, l4, l5]) (O := O) ps (enc eA) (fun q => enc eR (res (fA nm) q)) (fun q hq' => by
        have := ih q (hq q hq').1 (hq q hq').2 n O
        have e : n + k + 1 = n + (k + 1) := by omega
        rw [e] at this
        simp [evq_var, evq_con, evq_glb, evq_bin, evq_neg, evq_cmp, evq_isn, evq_chn, evq_and, evq_or, evq_not, evq_ite, evq_tup, evq_lst, evq_cell, evq_idx, evq_slc, evq_rev, evq_call, evq_callD, evq_tups, evq_lsts, exq_mat, exC, evX, evq_bi, evq_sset, evq_isi, evq_met, evq_lrg, evq_lrg1, evq_lc, evq_lc2, evq_ssc, exq_set, exq_par, exq_unp, exq_aug, exq_seti, exq_app, exq_ext, exq_drop, exq_ret, exq_retv, exq_retN, exq_ife, exq_for, exq_whl, exq_brk, exq_cnt, exq_pas, exq_nev, exq_frz, evA, evO, evs, evB, evC, evI, evT, exs, look, setE, asg_nm, asg_tp, asgs_nil, asgs_cons, T.own, Ts.own, wipeE, fzL, rdL, kidL, parE, vaE, this]) (sz (by omega))
      rw [this, List.map_map]; rfl
    have one : ∀ q, ht q ≤ k → wd q ≤ 60 → run C (n + (k + 1)) f [enc eA q, nd] O = .ok (.fz (enc eR (res (fA nm) q))) O := fun q h1 h2 => by
      have := ih q h1 h2 n O
      have e : n + k + 1 = n + (k + 1) := by omega
      rw [e] at this
      exact this
    cases p with
    | «at» a => exact at_case a (n + (k + 1)) O
    | row ps =>
      unfold ht at hp
      unfold wd at hw
      have e : res (fA nm) (.row ps) = .row (ps.map (res (fA nm))) := by
        conv => lhs; unfold res
        rw [resL_map]
      rw [run_at h rfl, e, enc_row, enc_row]
      have lc := lst ps (by omega) (fun q hq => by
        have := htL_le hq
        have := wdL_le hq
        omega) (.va (.tup [.str tRow, .tup (ps.map (enc eA))])) (.va (.str tRow)) .un .un .un
      generalize (ps.map (res (fA nm))).map (enc eR) = ds at lc ⊢
      generalize ps.map (enc eA) = es at lc ⊢
      simp [evq_var, evq_con, evq_glb, evq_bin, evq_neg, evq_cmp, evq_isn, evq_chn, evq_and, evq_or, evq_not, evq_ite, evq_tup, evq_lst, evq_cell, evq_idx, evq_slc, evq_rev, evq_call, evq_callD, evq_tups, evq_lsts, exq_mat, exC, evX, evq_bi, evq_sset, evq_isi, evq_met, evq_lrg, evq_lrg1, evq_lc, evq_lc2, evq_ssc, exq_set, exq_par, exq_unp, exq_aug, exq_seti, exq_app, exq_ext, exq_drop, exq_ret, exq_retv, exq_retN, exq_ife, exq_for, exq_whl, exq_brk, exq_cnt, exq_pas, exq_nev, exq_frz, evA, evO, evs, evB, evC, evI, evT, exs, look, setE, asg_nm, asg_tp, asgs_nil, asgs_cons, T.own, Ts.own, wipeE, fzL, rdL, kidL, parE, vaE, c_resolved, s2, in_s2, lc]
    | eit ps =>
      unfold ht at hp
      unfold wd at hw
      have e : res (fA nm) (.eit ps) = .eit (ps.map (res (fA nm))) := by
        conv => lhs; unfold res
        rw [resL_map]
      rw [run_at h rfl, e, enc_eit, enc_eit]
      have lc := lst ps (by omega) (fun q hq => by
        have := htL_le hq
        have := wdL_le hq
        omega) (.va (.tup [.str tEit, .tup (ps.map (enc eA))])) (.va (.str tEit)) .un .un .un
      generalize (ps.map (res (fA nm))).map (enc eR) = ds at lc ⊢
      generalize ps.map (enc eA) = es at lc ⊢
      simp [evq_var, evq_con, evq_glb, evq_bin, evq_neg, evq_cmp, evq_isn, evq_chn, evq_and, evq_or, evq_not, evq_ite, evq_tup, evq_lst, evq_cell, evq_idx, evq_slc, evq_rev, evq_call, evq_callD, evq_tups, evq_lsts, exq_mat, exC, evX, evq_bi, evq_sset, evq_isi, evq_met, evq_lrg, evq_lrg1, evq_lc, evq_lc2, evq_ssc, exq_set, exq_par, exq_unp, exq_aug, exq_seti, exq_app, exq_ext, exq_drop, exq_ret, exq_retv, exq_retN, exq_ife, exq_for, exq_whl, exq_brk, exq_cnt, exq_pas, exq_nev, exq_frz, evA, evO, evs, evB, evC, evI, evT, exs, look, setE, asg_nm, asg_tp, asgs_nil, asgs_cons, T.own, Ts.own, wipeE, fzL, rdL, kidL, parE, vaE, c_resolved, s2, in_s2, lc]
    | star p =>
      unfold ht at hp
      unfold wd at hw
      have e : res (fA nm) (.star p) = .star (res (fA nm) p) := by conv => lhs; unfold res
      have o := one p (by omega) hw
      rw [run_at h rfl, e, enc_star, enc_star]
      simp [evq_var, evq_con, evq_glb, evq_bin, evq_neg, evq_cmp, evq_isn, evq_chn, evq_and, evq_or, evq_not, evq_ite, evq_tup, evq_lst, evq_cell, evq_idx, evq_slc, evq_rev, evq_call, evq_callD, evq_tups, evq_lsts, exq_mat, exC, evX, evq_bi, evq_sset, evq_isi, evq_met, evq_lrg, evq_lrg1, evq_lc, evq_lc2, evq_ssc, exq_set, exq_par, exq_unp, exq_aug, exq_seti, exq_app, exq_ext, exq_drop, exq_ret, exq_retv, exq_retN, exq_ife, exq_for, exq_whl, exq_brk, exq_cnt, exq_pas, exq_nev, exq_frz, evA, evO, evs, evB, evC, evI, evT, exs, look, setE, asg_nm, asg_tp, asgs_nil, asgs_cons, T.own, Ts.own, wipeE, fzL, rdL, kidL, parE, vaE, c_resolved, s2, in_s2, o]
    | plus p =>
      unfold ht at hp
      unfold wd at hw
      have e : res (fA nm) (.plus p) = .plus (res (fA nm) p) := by conv => lhs; unfold res
      have o := one p (by omega) hw
      rw [run_at h rfl, e, enc_plus, enc_plus]
      simp [evq_var, evq_con, evq_glb, evq_bin, evq_neg, evq_cmp, evq_isn, evq_chn, evq_and, evq_or, evq_not, evq_ite, evq_tup, evq_lst, evq_cell, evq_idx, evq_slc, evq_rev, evq_call, evq_callD, evq_tups, evq_lsts, exq_mat, exC, evX, evq_bi, evq_sset, evq_isi, evq_met, evq_lrg, evq_lrg1, evq_lc, evq_lc2, evq_ssc, exq_set, exq_par, exq_unp, exq_aug, exq_seti, exq_app, exq_ext, exq_drop, exq_ret, exq_retv, exq_retN, exq_ife, exq_for, exq_whl, exq_brk, exq_cnt, exq_pas, exq_nev, exq_frz, evA, evO, evs, evB, evC, evI, evT, exs, look, setE, asg_nm, asg_tp, asgs_nil, asgs_cons, T.own, Ts.own, wipeE, fzL, rdL, kidL, parE, vaE, c_resolved, s2, in_s2, o]
    | may p =>
      unfold ht at hp
      unfold wd at hw
      have e : res (fA nm) (.may p) = .eit [res (fA nm) p, .row []] := by conv => lhs; unfold res
      have o := one p (by omega) hw
      rw [run_at h rfl, e, enc_may, enc_eit]
      have er : List.map (enc eR) [res (fA nm) p, .row []] = [enc eR (res (fA nm) p), .tup [.str tRow, .tup []]] := by
        simp [enc_row]
      rw [er]
      simp [evq_var, evq_con, evq_glb, evq_bin, evq_neg, evq_cmp, evq_isn, evq_chn, evq_and, evq_or, evq_not, evq_ite, evq_tup, evq_lst, evq_cell, evq_idx, evq_slc, evq_rev, evq_call, evq_callD, evq_tups, evq_lsts, exq_mat, exC, evX, evq_bi, evq_sset, evq_isi, evq_met, evq_lrg, evq_lrg1, evq_lc, evq_lc2, evq_ssc, exq_set, exq_par, exq_unp, exq_aug, exq_seti, exq_app, exq_ext, exq_drop, exq_ret, exq_retv, exq_retN, exq_ife, exq_for, exq_whl, exq_brk, exq_cnt, exq_pas, exq_nev, exq_frz, evA, evO, evs, evB, evC, evI, evT, exs, look, setE, asg_nm, asg_tp, asgs_nil, asgs_cons, T.own, Ts.own, wipeE, fzL, rdL, kidL, parE, vaE, c_resolved, s2, in_s2, o]
/-! matched -/
/-- an item at a place of a row -/
def hAb (nm : List Tx) (rw : List Int) (a : A) (i : Int) : Bool := decide (0 ≤ i) && (rw[i.toNat]?.any fun r => nm[r.toNat]?.any (selA a))
def hA (nm : List Tx) (rw : List Int) (a : A) (i : Int) : Prop := hAb nm rw a i = true
theorem hAi {nm : List Tx} {rw : List Int} : ∀ (a : A) (i : Int), hA nm rw a i → 0 ≤ i ∧ i < (rw.length : Nat) := fun a i h => by
  unfold hA hAb at h
  simp only [Bool.and_eq_true, decide_eq_true_eq] at h
  obtain ⟨h0, h1⟩ := h
  cases q : rw[i.toNat]? with
  | none => rw [q] at h1; cases h1
  | some r =>
    have := (List.getElem?_eq_some_iff.mp q).1
    omega
/-- the numbers of a row are numbers of names -/
def Rw (nm : List Tx) (rw : List Int) : Prop := rw.length ≤ 60 ∧ ∀ r ∈ rw, 0 ≤ r ∧ r < (nm.length : Nat)
theorem hR_hA {nm : List Tx} {rw : List Int} (hr : Rw nm rw) : ∀ (a : A) (i : Int), hR rw (fA nm a) i ↔ hA nm rw a i := fun a i => by
  unfold hR hRb hA hAb
  simp only [Bool.and_eq_true, decide_eq_true_eq]
  refine and_congr_right fun h0 => ?_
  cases q : rw[i.toNat]? with
  | none => simp
  | some r =>
    have := hr.2 r (List.mem_of_getElem? q)
    simp only [Option.any_some, decide_eq_true_eq]
    rw [fA_mem]
    constructor
    · rintro ⟨_, x, h1, h2⟩
      rw [h1]; simpa using h2
    · intro h
      cases q2 : nm[r.toNat]? with
      | none => rw [q2] at h; cases h
      | some x =>
        rw [q2] at h
        exact ⟨this.1, x, rfl, by simpa using h⟩
theorem wd_res {α β : Type} {f : α → β} : ∀ (k : Nat) (p : P α), ht p ≤ k → wd (res f p) ≤ max 2 (wd p) := by
  intro k
  induction k with
  | zero =>
    intro p hp
    cases p with
    | «at» a => unfold res wd; omega
    | _ => unfold ht at hp; omega
  | succ k ih =>
    have wl : ∀ ps : List (P α), (∀ q ∈ ps, ht q ≤ k) → wdL (ps.map (res f)) ≤ max 2 (wdL ps) := by
      intro ps
      induction ps with
      | nil => intro _; unfold wdL; simp [wdL]
      | cons q ps ih2 =>
        intro h
        have h1 := ih q (h q List.mem_cons_self)
        have h2 := ih2 fun q hq => h q (List.mem_cons_of_mem _ hq)
        rw [List.map_cons]
        unfold wdL
        omega
    intro p hp
    cases p with
    | «at» a => unfold res wd; omega
    | row ps =>
      unfold ht at hp
      have := wl ps fun q hq => by have := htL_le hq; omega
      unfold res wd
      rw [resL_map, List.length_map]
      omega
    | eit ps =>
      unfold ht at hp
      have := wl ps fun q hq => by have := htL_le hq; omega
      unfold res wd
      rw [resL_map, List.length_map]
      omega
    | star p => unfold ht at hp; unfold res wd; exact ih p (by omega)
    | plus p => unfold ht at hp; unfold res wd; exact ih p (by omega)
    | may p =>
      unfold ht at hp
      have h1 := ih p (by omega)
      have e1 : wd (.row [] : P β) = 0 := by unfold wd wdL; rfl
      have e2 : wd (res f (.may p)) = max 2 (max (wd (res f p)) (max 0 0)) := by
        conv => lhs; unfold res wd wdL wdL wdL
        rw [e1]; rfl
      have e3 : wd (.may p) = wd p := by conv => lhs; unfold wd
      rw [e2, e3]; omega
theorem nomay_res {α β : Type} {f : α → β} : ∀ (k : Nat) (p : P α), ht p ≤ k → noMay (res f p) := by
  intro k
  induction k with
  | zero =>
    intro p hp
    cases p with
    | «at» a => unfold res noMay; trivial
    | _ => unfold ht at hp; omega
  | succ k ih =>
    intro p hp
    cases p with
    | «at» a => unfold res noMay; trivial
    | row ps =>
      unfold ht at hp
      unfold res noMay
      rw [resL_map, noMayL_iff]
      intro q hq
      obtain ⟨p, hp', rfl⟩ := List.mem_map.mp hq
      exact ih p (by have := htL_le hp'; omega)
    | eit ps =>
      unfold ht at hp
      unfold res noMay
      rw [resL_map, noMayL_iff]
      intro q hq
      obtain ⟨p, hp', rfl⟩ := List.mem_map.mp hq
      exact ih p (by have := htL_le hp'; omega)
    | star p => unfold ht at hp; unfold res noMay; exact ih p (by omega)
    | plus p => unfold ht at hp; unfold res noMay; exact ih p (by omega)
    | may p =>
      unfold ht at hp
      unfold res noMay
      rw [noMayL_iff]
      intro q hq
      simp only [List.mem_cons, List.not_mem_nil, or_false] at hq
      rcases hq with rfl | rfl
      · exact ih p (by omega)
      · unfold noMay noMayL; trivial
/-- whether a pattern matches a whole row -/
theorem run_match {f g e : Nat} (h : C[f]? = some (c_does_match e g)) (hg : C[g]? = some (c_resolved g)) (he : C[e]? = some (c_ends_of e)) {nd : D} {nm : List Tx} {rw : List Int} (hn : Nms nd nm) (hnl : nm.length ≤ 60) (hr : Rw nm rw) {k : Nat} {p : P A} (hp : ht p ≤ k) (hw : wd p ≤ 60) (n : Nat) (O : Sto) :
    ∃ b : Bool, run C (n + (2 * k + 1) + 2) f [enc eA p, nd, tI rw] O = .ok (.fz (.bl b)) O ∧ (b = true ↔ M (hA nm rw) p 0 rw.length) := by
  have r1 := run_res hg hn hnl k p hp hw (n + k + 1) O
  have e1 : n + k + 1 + k + 1 = n + (2 * k + 1) + 1 := by omega
  rw [e1] at r1
  have hk := ht_res (f := fA nm) k p hp
  obtain ⟨x, r2, lx⟩ := run_ends (rw := rw) he hr.1 (2 * k + 1) (res (fA nm) p) (by omega) (by have := wd_res (f := fA nm) k p hp; omega) (nomay_res k p hp) n O [0] ⟨List.pairwise_singleton _ _, fun b hb => by rw [List.mem_singleton.mp hb]; omega⟩
  have hB : Pl rw.length [0] := ⟨List.pairwise_singleton _ _, fun b hb => by rw [List.mem_singleton.mp hb]; omega⟩
  refine ⟨decide (((rw.length : Nat) : Int) ∈ im rw.length (M (hR rw) (res (fA nm) p)) [0]), ?_, ?_⟩
  · rw [run_at h rfl]
    have s1 := @sz 1 (by decide)
    have r2 : run C (n + (2 * k + 1) + 1) e [enc eR (res (fA nm) p), .tup (rw.map .int), .lst [.int 0]] O = .ok x O := r2
    have il := @in_lI ((rw.length : Nat) : Int) (im rw.length (M (hR rw) (res (fA nm) p)) [0])
    have lr := lx.rdd
    simp only [lI] at lr
    simp [evq_var, evq_con, evq_glb, evq_bin, evq_neg, evq_cmp, evq_isn, evq_chn, evq_and, evq_or, evq_not, evq_ite, evq_tup, evq_lst, evq_cell, evq_idx, evq_slc, evq_rev, evq_call, evq_callD, evq_tups, evq_lsts, exq_mat, exC, evX, evq_bi, evq_sset, evq_isi, evq_met, evq_lrg, evq_lrg1, evq_lc, evq_lc2, evq_ssc, exq_set, exq_par, exq_unp, exq_aug, exq_seti, exq_app, exq_ext, exq_drop, exq_ret, exq_retv, exq_retN, exq_ife, exq_for, exq_whl, exq_brk, exq_cnt, exq_pas, exq_nev, exq_frz, evA, evO, evs, evB, evC, evI, evT, exs, look, setE, asg_nm, asg_tp, asgs_nil, asgs_cons, T.own, Ts.own, wipeE, fzL, rdL, kidL, parE, vaE, c_does_match, r1, r2, s1, lr, il]
  · rw [decide_eq_true_eq, (im_ok (M_le hRi (p := res (fA nm) p) hB)).2]
    simp only [List.mem_singleton, exists_eq_left]
    exact M_res (hR_hA hr) k p hp 0 _
end
end Ev.PtW

/-! a law's own reading of patterns -/
namespace Ev.PtW
open PySem L2 Pt
section
variable {C : List Code} {n : Nat} {O : Sto}
/-- what _law_ends gives of a pattern, at a depth of calls -/
def LawOk (C : List Code) (f : Nat) (nm : List Tx) (nd : D) (rw : List Int) (k : Nat) (p : P A) : Prop := ∀ (n : Nat) (O : Sto) (B : List Int), Pl rw.length B → ∃ x, run C (n + k + 1) f [enc eA p, nd, tI rw, lI B] O = .ok x O ∧ Ls x (lI (im rw.length (M (hA nm rw) p) B))
section
variable {f : Nat} {nd : D} {nm : List Tx} {rw : List Int} {k : Nat}
theorem idx_nms (hn : Nms nd nm) {r : Int} (h : 0 ≤ r) : idxD nd (.int r) O = (nm[r.toNat]?).map D.str := by
  rcases hn with rfl | rfl
  · rw [idx_tup, at_pos h, List.getElem?_map]
  · rw [idx_lst, at_pos h, List.getElem?_map]
/-- items -/
theorem law_at (h : C[f]? = some (c__law_ends f)) (hn : Nms nd nm) (hr : Rw nm rw) (a : A) : LawOk C f nm nd rw 0 (.at a) := by
  intro n O B hB
  rw [← im_at (h := hA nm rw) (hb := hAb nm rw) (fun _ _ => Iff.rfl) hAi hB, run_at h rfl, enc_at]
  have s3 := @sz 3 (by decide)
  let Bl : List Int := B.filter fun (b : Int) => decide (b < ((rw.length : Nat) : Int))
  have hBl : ∀ b ∈ Bl, 0 ≤ b ∧ b < (rw.length : Nat) := fun b hb => by
    obtain ⟨h1, h2⟩ := List.mem_filter.mp hb
    exact ⟨(hB.2 b h1).1, of_decide_eq_true h2⟩
  have e1 : B.filter (hAb nm rw a) = Bl.filter (hAb nm rw a) := by
    show _ = (B.filter _).filter _
    rw [List.filter_filter]
    refine List.filter_congr fun b hb => ?_
    cases q : hAb nm rw a b with
    | false => simp
    | true =>
      have := hAi a b q
      simp [this.2]
  have e : lI ((B.filter (hAb nm rw a)).map (· + 1)) = .lst ((Bl.filter (hAb nm rw a)).map fun b => D.int (b + 1)) := by
    rw [e1]
    show D.lst (List.map D.int (List.map _ _)) = _
    rw [List.map_map]; rfl
  rw [e]
  have cell : ∀ b ∈ Bl, ∃ r x, rw[b.toNat]? = some r ∧ 0 ≤ r ∧ nm[r.toNat]? = some x ∧ hAb nm rw a b = selA a x := fun b hb => by
    have hb2 := hBl b hb
    have hi : b.toNat < rw.length := by omega
    have g := List.getElem?_eq_getElem hi
    have hr2 := hr.2 _ (List.getElem_mem hi)
    have hi2 : rw[b.toNat].toNat < nm.length := by omega
    have g2 := List.getElem?_eq_getElem hi2
    refine ⟨_, _, g, hr2.1, g2, ?_⟩
    unfold hAb
    rw [g]
    simp [hb2.1, g2]
  have lc1 : ∀ w : D, ∀ l4 : Sl, lcS (run C n) 0 (.nm 9) (.cons (.cmp .Lt (.var 9) (.bi .len (.var 2))) .nil) (.var 9) [.va w, .va nd, .va (tI rw), .va (lI B), l4, .un, .un, .un, .un, .un] (B.map .int) O = .ok (Bl.map .int) O := fun w l4 => by
    refine lcS_filt B .int (fun (b : Int) => decide (b < ((rw.length : Nat) : Int))) .int (fun b hb => ?_) (sz (by have := hB.len; have := hr.1; omega))
    by_cases c : b < (rw.length : Nat) <;> simp [evq_var, evq_con, evq_glb, evq_bin, evq_neg, evq_cmp, evq_isn, evq_chn, evq_and, evq_or, evq_not, evq_ite, evq_tup, evq_lst, evq_cell, evq_idx, evq_slc, evq_rev, evq_call, evq_callD, evq_tups, evq_lsts, exq_mat, exC, evX, evq_bi, evq_sset, evq_isi, evq_met, evq_lrg, evq_lrg1, evq_lc, evq_lc2, evq_ssc, exq_set, exq_par, exq_unp, exq_aug, exq_seti, exq_app, exq_ext, exq_drop, exq_ret, exq_retv, exq_retN, exq_ife, exq_for, exq_whl, exq_brk, exq_cnt, exq_pas, exq_nev, exq_frz, evA, evO, evs, evB, evC, evI, evT, exs, look, setE, asg_nm, asg_tp, asgs_nil, asgs_cons, T.own, Ts.own, wipeE, fzL, rdL, kidL, parE, vaE, c]
  have ll : Bl.length ≤ 61 := by
    have : Bl.length ≤ B.length := List.length_filter_le _ _
    have := hB.len
    have := hr.1
    omega
  refine ⟨_, ?_, .inr rfl⟩
  have lc2 : ∀ (w : D) (l4 : Sl) (cond : E), (∀ b ∈ Bl, ∀ env, env = [.va w, .va nd, .va (tI rw), .va (lI B), l4, .va (lI Bl), .un, .un, .un, .va (.int b)] → ev (run C n) cond env O = .ok (.fz (.bl (hAb nm rw a b))) O) →
      lcS (run C n) 0 (.nm 9) (.cons cond .nil) (.bin .Add (.var 9) (.con (.int 1))) [.va w, .va nd, .va (tI rw), .va (lI B), l4, .va (lI Bl), .un, .un, .un, .un] (Bl.map .int) O = .ok ((Bl.filter (hAb nm rw a)).map fun b => D.int (b + 1)) O := fun w l4 cond hc => by
    refine lcS_filt Bl .int (hAb nm rw a) (fun b => .int (b + 1)) (fun b hb => ?_) (sz (by omega))
    have := hc b hb _ rfl
    cases q : hAb nm rw a b with
    | true => rw [q] at this; simp [evq_var, evq_con, evq_glb, evq_bin, evq_neg, evq_cmp, evq_isn, evq_chn, evq_and, evq_or, evq_not, evq_ite, evq_tup, evq_lst, evq_cell, evq_idx, evq_slc, evq_rev, evq_call, evq_callD, evq_tups, evq_lsts, exq_mat, exC, evX, evq_bi, evq_sset, evq_isi, evq_met, evq_lrg, evq_lrg1, evq_lc, evq_lc2, evq_ssc, exq_set, exq_par, exq_unp, exq_aug, exq_seti, exq_app, exq_ext, exq_drop, exq_ret, exq_retv, exq_retN, exq_ife, exq_for, exq_whl, exq_brk, exq_cnt, exq_pas, exq_nev, exq_frz, evA, evO, evs, evB, evC, evI, evT, exs, look, setE, asg_nm, asg_tp, asgs_nil, asgs_cons, T.own, Ts.own, wipeE, fzL, rdL, kidL, parE, vaE, this]
    | false => rw [q] at this; simp [evq_var, evq_con, evq_glb, evq_bin, evq_neg, evq_cmp, evq_isn, evq_chn, evq_and, evq_or, evq_not, evq_ite, evq_tup, evq_lst, evq_cell, evq_idx, evq_slc, evq_rev, evq_call, evq_callD, evq_tups, evq_lsts, exq_mat, exC, evX, evq_bi, evq_sset, evq_isi, evq_met, evq_lrg, evq_lrg1, evq_lc, evq_lc2, evq_ssc, exq_set, exq_par, exq_unp, exq_aug, exq_seti, exq_app, exq_ext, exq_drop, exq_ret, exq_retv, exq_retN, exq_ife, exq_for, exq_whl, exq_brk, exq_cnt, exq_pas, exq_nev, exq_frz, evA, evO, evs, evB, evC, evI, evT, exs, look, setE, asg_nm, asg_tp, asgs_nil, asgs_cons, T.own, Ts.own, wipeE, fzL, rdL, kidL, parE, vaE, this]
  cases a with
  | any =>
    have l1 := lc1 (eA .any) (.va (.str tAny))
    have l2 := lc2 (eA .any) (.va (.str tAny)) (.or (.cons (.cmp .Eq (.var 4) (.con (.str [97, 110, 121]))) (.cons (.cmp .NotEq (.idx (.var 1) (.idx (.var 2) (.var 9))) (.idx (.var 0) (.con (.int 1)))) .nil))) (fun b hb env e => by
      subst e
      obtain ⟨r, x, _, _, _, q⟩ := cell b hb
      rw [q]
      simp [evq_var, evq_con, evq_glb, evq_bin, evq_neg, evq_cmp, evq_isn, evq_chn, evq_and, evq_or, evq_not, evq_ite, evq_tup, evq_lst, evq_cell, evq_idx, evq_slc, evq_rev, evq_call, evq_callD, evq_tups, evq_lsts, exq_mat, exC, evX, evq_bi, evq_sset, evq_isi, evq_met, evq_lrg, evq_lrg1, evq_lc, evq_lc2, evq_ssc, exq_set, exq_par, exq_unp, exq_aug, exq_seti, exq_app, exq_ext, exq_drop, exq_ret, exq_retv, exq_retN, exq_ife, exq_for, exq_whl, exq_brk, exq_cnt, exq_pas, exq_nev, exq_frz, evA, evO, evs, evB, evC, evI, evT, exs, look, setE, asg_nm, asg_tp, asgs_nil, asgs_cons, T.own, Ts.own, wipeE, fzL, rdL, kidL, parE, vaE, selA])
    simp only [eA] at l1 l2
    generalize ((Bl.filter (hAb nm rw .any)).map fun b => D.int (b + 1)) = ds at l2 ⊢
    simp only [lI] at l1 l2 ⊢
    generalize Bl.map D.int = es at l1 l2
    simp [evq_var, evq_con, evq_glb, evq_bin, evq_neg, evq_cmp, evq_isn, evq_chn, evq_and, evq_or, evq_not, evq_ite, evq_tup, evq_lst, evq_cell, evq_idx, evq_slc, evq_rev, evq_call, evq_callD, evq_tups, evq_lsts, exq_mat, exC, evX, evq_bi, evq_sset, evq_isi, evq_met, evq_lrg, evq_lrg1, evq_lc, evq_lc2, evq_ssc, exq_set, exq_par, exq_unp, exq_aug, exq_seti, exq_app, exq_ext, exq_drop, exq_ret, exq_retv, exq_retN, exq_ife, exq_for, exq_whl, exq_brk, exq_cnt, exq_pas, exq_nev, exq_frz, evA, evO, evs, evB, evC, evI, evT, exs, look, setE, asg_nm, asg_tp, asgs_nil, asgs_cons, T.own, Ts.own, wipeE, fzL, rdL, kidL, parE, vaE, c__law_ends, eA, in_s3, s3, l1, l2]
  | cls y =>
    have l1 := lc1 (eA (.cls y)) (.va (.str tCls))
    have l2 := lc2 (eA (.cls y)) (.va (.str tCls)) (.cmp .Eq (.idx (.var 1) (.idx (.var 2) (.var 9))) (.idx (.var 0) (.con (.int 1)))) (fun b hb env e => by
      subst e
      obtain ⟨r, x, q1, q2, q3, q⟩ := cell b hb
      have hb2 := hBl b hb
      rw [q]
      simp [evq_var, evq_con, evq_glb, evq_bin, evq_neg, evq_cmp, evq_isn, evq_chn, evq_and, evq_or, evq_not, evq_ite, evq_tup, evq_lst, evq_cell, evq_idx, evq_slc, evq_rev, evq_call, evq_callD, evq_tups, evq_lsts, exq_mat, exC, evX, evq_bi, evq_sset, evq_isi, evq_met, evq_lrg, evq_lrg1, evq_lc, evq_lc2, evq_ssc, exq_set, exq_par, exq_unp, exq_aug, exq_seti, exq_app, exq_ext, exq_drop, exq_ret, exq_retv, exq_retN, exq_ife, exq_for, exq_whl, exq_brk, exq_cnt, exq_pas, exq_nev, exq_frz, evA, evO, evs, evB, evC, evI, evT, exs, look, setE, asg_nm, asg_tp, asgs_nil, asgs_cons, T.own, Ts.own, wipeE, fzL, rdL, kidL, parE, vaE, selA, at_pos hb2.1, q1, idx_nms hn q2, q3, eA])
    simp only [eA] at l1 l2
    generalize ((Bl.filter (hAb nm rw (.cls y))).map fun b => D.int (b + 1)) = ds at l2 ⊢
    simp only [lI] at l1 l2 ⊢
    generalize Bl.map D.int = es at l1 l2
    simp [evq_var, evq_con, evq_glb, evq_bin, evq_neg, evq_cmp, evq_isn, evq_chn, evq_and, evq_or, evq_not, evq_ite, evq_tup, evq_lst, evq_cell, evq_idx, evq_slc, evq_rev, evq_call, evq_callD, evq_tups, evq_lsts, exq_mat, exC, evX, evq_bi, evq_sset, evq_isi, evq_met, evq_lrg, evq_lrg1, evq_lc, evq_lc2, evq_ssc, exq_set, exq_par, exq_unp, exq_aug, exq_seti, exq_app, exq_ext, exq_drop, exq_ret, exq_retv, exq_retN, exq_ife, exq_for, exq_whl, exq_brk, exq_cnt, exq_pas, exq_nev, exq_frz, evA, evO, evs, evB, evC, evI, evT, exs, look, setE, asg_nm, asg_tp, asgs_nil, asgs_cons, T.own, Ts.own, wipeE, fzL, rdL, kidL, parE, vaE, c__law_ends, eA, in_s3, s3, l1, l2]
  | non y =>
    have l1 := lc1 (eA (.non y)) (.va (.str tNot))
    have l2 := lc2 (eA (.non y)) (.va (.str tNot)) (.or (.cons (.cmp .Eq (.var 4) (.con (.str [97, 110, 121]))) (.cons (.cmp .NotEq (.idx (.var 1) (.idx (.var 2) (.var 9))) (.idx (.var 0) (.con (.int 1)))) .nil))) (fun b hb env e => by
      subst e
      obtain ⟨r, x, q1, q2, q3, q⟩ := cell b hb
      have hb2 := hBl b hb
      rw [q]
      simp [evq_var, evq_con, evq_glb, evq_bin, evq_neg, evq_cmp, evq_isn, evq_chn, evq_and, evq_or, evq_not, evq_ite, evq_tup, evq_lst, evq_cell, evq_idx, evq_slc, evq_rev, evq_call, evq_callD, evq_tups, evq_lsts, exq_mat, exC, evX, evq_bi, evq_sset, evq_isi, evq_met, evq_lrg, evq_lrg1, evq_lc, evq_lc2, evq_ssc, exq_set, exq_par, exq_unp, exq_aug, exq_seti, exq_app, exq_ext, exq_drop, exq_ret, exq_retv, exq_retN, exq_ife, exq_for, exq_whl, exq_brk, exq_cnt, exq_pas, exq_nev, exq_frz, evA, evO, evs, evB, evC, evI, evT, exs, look, setE, asg_nm, asg_tp, asgs_nil, asgs_cons, T.own, Ts.own, wipeE, fzL, rdL, kidL, parE, vaE, selA, at_pos hb2.1, q1, idx_nms hn q2, q3, eA])
    simp only [eA] at l1 l2
    generalize ((Bl.filter (hAb nm rw (.non y))).map fun b => D.int (b + 1)) = ds at l2 ⊢
    simp only [lI] at l1 l2 ⊢
    generalize Bl.map D.int = es at l1 l2
    simp [evq_var, evq_con, evq_glb, evq_bin, evq_neg, evq_cmp, evq_isn, evq_chn, evq_and, evq_or, evq_not, evq_ite, evq_tup, evq_lst, evq_cell, evq_idx, evq_slc, evq_rev, evq_call, evq_callD, evq_tups, evq_lsts, exq_mat, exC, evX, evq_bi, evq_sset, evq_isi, evq_met, evq_lrg, evq_lrg1, evq_lc, evq_lc2, evq_ssc, exq_set, exq_par, exq_unp, exq_aug, exq_seti, exq_app, exq_ext, exq_drop, exq_ret, exq_retv, exq_retN, exq_ife, exq_for, exq_whl, exq_brk, exq_cnt, exq_pas, exq_nev, exq_frz, evA, evO, evs, evB, evC, evI, evT, exs, look, setE, asg_nm, asg_tp, asgs_nil, asgs_cons, T.own, Ts.own, wipeE, fzL, rdL, kidL, parE, vaE, c__law_ends, eA, in_s3, s3, l1, l2]
theorem law_row (h : C[f]? = some (c__law_ends f)) {ps : List (P A)} (hp : ∀ p ∈ ps, LawOk C f nm nd rw k p) : LawOk C f nm nd rw (k + 1) (.row ps) := by
  intro n O B hB
  have s3 := @sz 3 (by decide)
  rw [run_at h rfl, enc_row]
  obtain ⟨s', hf, i1, i2⟩ := forS_rel (call := run C (n + (k + 1))) (t := .nm 8) (b := ((c__law_ends f).body.nth 2).bd.nth 0 |>.bd) (enc eA) (S := List Int × Sl)
    (fun s => [.va (.tup [.str tRow, .tup (ps.map (enc eA))]), .va nd, .va (tI rw), .va (lI s.1), .va (.str tRow), .un, .un, .un, s.2, .un]) (fun _ => O)
    (fun s r => Pl rw.length s.1 ∧ (∀ p ∈ r, p ∈ ps) ∧ ∀ x, (∃ b ∈ s.1, Mr (hA nm rw) r b x) ↔ ∃ b ∈ B, Mr (hA nm rw) ps b x)
    (fun s p r ⟨i1, i2, i3⟩ => by
      obtain ⟨x, hx, lx⟩ := hp p (i2 p List.mem_cons_self) n O s.1 i1
      have e : n + (k + 1) = n + k + 1 := by omega
      rw [← e] at hx
      refine ⟨(im rw.length (M (hA nm rw) p) s.1, .va (enc eA p)), ?_, im_pl, fun q hq => i2 q (List.mem_cons_of_mem _ hq), fun x => ?_⟩
      · simp [evq_var, evq_con, evq_glb, evq_bin, evq_neg, evq_cmp, evq_isn, evq_chn, evq_and, evq_or, evq_not, evq_ite, evq_tup, evq_lst, evq_cell, evq_idx, evq_slc, evq_rev, evq_call, evq_callD, evq_tups, evq_lsts, exq_mat, exC, evX, evq_bi, evq_sset, evq_isi, evq_met, evq_lrg, evq_lrg1, evq_lc, evq_lc2, evq_ssc, exq_set, exq_par, exq_unp, exq_aug, exq_seti, exq_app, exq_ext, exq_drop, exq_ret, exq_retv, exq_retN, exq_ife, exq_for, exq_whl, exq_brk, exq_cnt, exq_pas, exq_nev, exq_frz, evA, evO, evs, evB, evC, evI, evT, exs, look, setE, asg_nm, asg_tp, asgs_nil, asgs_cons, T.own, Ts.own, wipeE, fzL, rdL, kidL, parE, vaE, c__law_ends, Ss.nth, S.bd, hx, lx.slot]
      · rw [← i3 x]
        have ok := im_ok (M_le (hAi (nm := nm)) (p := p) i1)
        constructor
        · rintro ⟨b, hb, m⟩
          obtain ⟨c, hc, m1⟩ := (ok.2 b).mp hb
          exact ⟨c, hc, Mr_cons.mpr ⟨b, m1, m⟩⟩
        · rintro ⟨c, hc, m⟩
          obtain ⟨b, m1, m2⟩ := Mr_cons.mp m
          exact ⟨b, (ok.2 b).mpr ⟨c, hc, m1⟩, m2⟩)
    ps (B, .un) ⟨hB, fun _ h => h, fun _ => Iff.rfl⟩
  have e : s'.1 = im rw.length (M (hA nm rw) (.row ps)) B := im_eq (M_le (hAi (nm := nm)) hB) ⟨i1.1, fun x => by
    have := i2.2 x
    simp only [Mr_nil, exists_eq_right] at this
    simp only [M_row]
    exact this⟩
  rw [e] at hf
  refine ⟨_, ?_, .inl rfl⟩
  simp only [c__law_ends, Ss.nth, S.bd] at hf
  simp [evq_var, evq_con, evq_glb, evq_bin, evq_neg, evq_cmp, evq_isn, evq_chn, evq_and, evq_or, evq_not, evq_ite, evq_tup, evq_lst, evq_cell, evq_idx, evq_slc, evq_rev, evq_call, evq_callD, evq_tups, evq_lsts, exq_mat, exC, evX, evq_bi, evq_sset, evq_isi, evq_met, evq_lrg, evq_lrg1, evq_lc, evq_lc2, evq_ssc, exq_set, exq_par, exq_unp, exq_aug, exq_seti, exq_app, exq_ext, exq_drop, exq_ret, exq_retv, exq_retN, exq_ife, exq_for, exq_whl, exq_brk, exq_cnt, exq_pas, exq_nev, exq_frz, evA, evO, evs, evB, evC, evI, evT, exs, look, setE, asg_nm, asg_tp, asgs_nil, asgs_cons, T.own, Ts.own, wipeE, fzL, rdL, kidL, parE, vaE, c__law_ends, in_s3, s3, hf]
theorem ss_im {R : Int → Int → Prop} {B l : List Int} {L : Nat} (hL : L ≤ 60) (hR : ∀ b ∈ B, ∀ x, R b x → 0 ≤ x ∧ x ≤ L) (hl : l.length ≤ 4000) (hm : ∀ x, x ∈ l ↔ ∃ b ∈ B, R b x) : ssetD (.lst (l.map .int)) = some (.ow 1 (lI (im L R B))) := by
  have e := im_eq hR (l := sdI l) ⟨sdI_asc _, fun x => sdI_mem.trans (hm x)⟩
  rw [ssetD_lI (by omega) (by rw [e]; have := (im_pl (L := L) (R := R) (B := B)).len; omega), e]
theorem law_eit (h : C[f]? = some (c__law_ends f)) (hr : Rw nm rw) {ps : List (P A)} (hl : ps.length ≤ 60) (hp : ∀ p ∈ ps, LawOk C f nm nd rw k p) : LawOk C f nm nd rw (k + 1) (.eit ps) := by
  intro n O B hB
  have s3 := @sz 3 (by decide)
  have hr1 := hr.1
  rw [run_at h rfl, enc_eit]
  obtain ⟨s', hf, i1, i2, i3⟩ := forS_rel (call := run C (n + (k + 1))) (t := .nm 8) (b := ((c__law_ends f).body.nth 3).bd.nth 1 |>.bd) (enc eA) (S := List Int × Sl)
    (fun s => [.va (.tup [.str tEit, .tup (ps.map (enc eA))]), .va nd, .va (tI rw), .va (lI B), .va (.str tEit), .va (lI s.1), .un, .un, s.2, .un]) (fun _ => O)
    (fun s r => s.1.length + 61 * r.length ≤ 61 * ps.length ∧ (∀ p ∈ r, p ∈ ps) ∧ ∀ x, (x ∈ s.1 ∨ ∃ p ∈ r, ∃ b ∈ B, M (hA nm rw) p b x) ↔ ∃ p ∈ ps, ∃ b ∈ B, M (hA nm rw) p b x)
    (fun s p r ⟨i1, i2, i3⟩ => by
      obtain ⟨x, hx, lx⟩ := hp p (i2 p List.mem_cons_self) n O B hB
      have e : n + (k + 1) = n + k + 1 := by omega
      rw [← e] at hx
      have il := (im_pl (L := rw.length) (R := M (hA nm rw) p) (B := B)).len
      rw [List.length_cons] at i1
      refine ⟨(s.1 ++ im rw.length (M (hA nm rw) p) B, .va (enc eA p)), ?_, by rw [List.length_append]; omega, fun q hq => i2 q (List.mem_cons_of_mem _ hq), fun x => ?_⟩
      · have bl := bin_lst (s := s.1.map D.int) (t := (im rw.length (M (hA nm rw) p) B).map D.int) (sz (by rw [List.length_map, List.length_map]; omega))
        rw [← List.map_append] at bl
        have rd := lx.rdd
        simp only [lI] at rd hx ⊢
        generalize (s.1 ++ im rw.length (M (hA nm rw) p) B).map D.int = es at bl ⊢
        simp [evq_var, evq_con, evq_glb, evq_bin, evq_neg, evq_cmp, evq_isn, evq_chn, evq_and, evq_or, evq_not, evq_ite, evq_tup, evq_lst, evq_cell, evq_idx, evq_slc, evq_rev, evq_call, evq_callD, evq_tups, evq_lsts, exq_mat, exC, evX, evq_bi, evq_sset, evq_isi, evq_met, evq_lrg, evq_lrg1, evq_lc, evq_lc2, evq_ssc, exq_set, exq_par, exq_unp, exq_aug, exq_seti, exq_app, exq_ext, exq_drop, exq_ret, exq_retv, exq_retN, exq_ife, exq_for, exq_whl, exq_brk, exq_cnt, exq_pas, exq_nev, exq_frz, evA, evO, evs, evB, evC, evI, evT, exs, look, setE, asg_nm, asg_tp, asgs_nil, asgs_cons, T.own, Ts.own, wipeE, fzL, rdL, kidL, parE, vaE, c__law_ends, Ss.nth, S.bd, hx, rd, bl]
      · rw [← i3 x, List.mem_append, (im_ok (M_le (hAi (nm := nm)) (p := p) hB)).2 x]
        simp only [List.mem_cons, or_and_right, exists_or, exists_eq_left, or_assoc])
    ps ([], .un) ⟨by simp, fun _ h => h, fun x => by simp⟩
  have ss := ss_im (L := rw.length) hr1 (M_le (hAi (nm := nm)) hB (p := .eit ps)) (l := s'.1) (by simp at i1; omega) (fun x => by
    have := i3 x
    simp only [List.not_mem_nil, false_and, exists_const, exists_false, or_false] at this
    rw [this]
    simp only [M_eit]
    exact ⟨fun ⟨p, hp, b, hb, m⟩ => ⟨b, hb, p, hp, m⟩, fun ⟨b, hb, p, hp, m⟩ => ⟨p, hp, b, hb, m⟩⟩)
  have s0 := @sz 0 (by decide)
  refine ⟨_, ?_, .inr rfl⟩
  simp only [c__law_ends, Ss.nth, S.bd, lI, List.map_nil] at hf
  simp only [lI] at ss ⊢
  generalize s'.1.map D.int = es at hf ss
  simp [evq_var, evq_con, evq_glb, evq_bin, evq_neg, evq_cmp, evq_isn, evq_chn, evq_and, evq_or, evq_not, evq_ite, evq_tup, evq_lst, evq_cell, evq_idx, evq_slc, evq_rev, evq_call, evq_callD, evq_tups, evq_lsts, exq_mat, exC, evX, evq_bi, evq_sset, evq_isi, evq_met, evq_lrg, evq_lrg1, evq_lc, evq_lc2, evq_ssc, exq_set, exq_par, exq_unp, exq_aug, exq_seti, exq_app, exq_ext, exq_drop, exq_ret, exq_retv, exq_retN, exq_ife, exq_for, exq_whl, exq_brk, exq_cnt, exq_pas, exq_nev, exq_frz, evA, evO, evs, evB, evC, evI, evT, exs, look, setE, asg_nm, asg_tp, asgs_nil, asgs_cons, T.own, Ts.own, wipeE, fzL, rdL, kidL, parE, vaE, c__law_ends, in_s3, s3, hf, ss]
theorem law_may (h : C[f]? = some (c__law_ends f)) (hr : Rw nm rw) {p : P A} (hp : LawOk C f nm nd rw k p) : LawOk C f nm nd rw (k + 1) (.may p) := by
  intro n O B hB
  have s3 := @sz 3 (by decide)
  have hr1 := hr.1
  rw [run_at h rfl, enc_may]
  obtain ⟨x, hx, lx⟩ := hp n O B hB
  have e : n + (k + 1) = n + k + 1 := by omega
  rw [← e] at hx
  have il := (im_pl (L := rw.length) (R := M (hA nm rw) p) (B := B)).len
  have bL := hB.len
  have bl := bin_lst (s := B.map D.int) (t := (im rw.length (M (hA nm rw) p) B).map D.int) (sz (by rw [List.length_map, List.length_map]; omega))
  rw [← List.map_append] at bl
  have ss := ss_im (L := rw.length) hr1 (M_le (hAi (nm := nm)) hB (p := .may p)) (l := B ++ im rw.length (M (hA nm rw) p) B) (by rw [List.length_append]; omega) (fun x => by
    rw [List.mem_append, (im_ok (M_le (hAi (nm := nm)) (p := p) hB)).2 x]
    simp only [M_may]
    constructor
    · rintro (h | ⟨b, hb, m⟩)
      · exact ⟨x, h, .inl rfl⟩
      · exact ⟨b, hb, .inr m⟩
    · rintro ⟨b, hb, rfl | m⟩
      · exact .inl hb
      · exact .inr ⟨b, hb, m⟩)
  refine ⟨_, ?_, .inr rfl⟩
  have rd := lx.rdd
  simp only [lI] at rd hx ss ⊢
  generalize (B ++ im rw.length (M (hA nm rw) p) B).map D.int = es at bl ss
  simp [evq_var, evq_con, evq_glb, evq_bin, evq_neg, evq_cmp, evq_isn, evq_chn, evq_and, evq_or, evq_not, evq_ite, evq_tup, evq_lst, evq_cell, evq_idx, evq_slc, evq_rev, evq_call, evq_callD, evq_tups, evq_lsts, exq_mat, exC, evX, evq_bi, evq_sset, evq_isi, evq_met, evq_lrg, evq_lrg1, evq_lc, evq_lc2, evq_ssc, exq_set, exq_par, exq_unp, exq_aug, exq_seti, exq_app, exq_ext, exq_drop, exq_ret, exq_retv, exq_retN, exq_ife, exq_for, exq_whl, exq_brk, exq_cnt, exq_pas, exq_nev, exq_frz, evA, evO, evs, evB, evC, evI, evT, exs, look, setE, asg_nm, asg_tp, asgs_nil, asgs_cons, T.own, Ts.own, wipeE, fzL, rdL, kidL, parE, vaE, c__law_ends, in_s3, s3, hx, rd, bl, ss]
end
end
end Ev.PtW

/-! a law's own reading: star and plus; what items tell -/
namespace Ev.PtW
open PySem L2 Pt
structure Lq (L : Nat) (R : Int → Int → Prop) (Tg : Int → Prop) (F0 B : List Int) (i : Nat) (s : List Int × List Int) : Prop where
  f : Pl L s.1
  r : Pl L s.2
  ft : ∀ x ∈ s.1, Tg x
  rt : ∀ x ∈ s.2, ∀ y, R x y → Tg y
  cl : ∀ x ∈ s.1, ∀ y, R x y → y ∈ s.1 ∨ x ∈ s.2
  f0 : ∀ x ∈ F0, x ∈ s.1
  b0 : ∀ b ∈ B, ∀ y, R b y → y ∈ s.1 ∨ b ∈ s.2
  cnt : s.2 = [] ∨ i ≤ s.1.length
noncomputable def qR (L : Nat) (R : Int → Int → Prop) (s : List Int × List Int) : List Int := (im L R s.2).filter fun x => !decide (x ∈ s.1)
noncomputable def qstep (L : Nat) (R : Int → Int → Prop) (s : List Int × List Int) : List Int × List Int := (sdI (s.1 ++ qR L R s), qR L R s)
theorem Lq.step {L : Nat} {R : Int → Int → Prop} {Tg : Int → Prop} {F0 B : List Int} {i : Nat} {s : List Int × List Int} (h : Lq L R Tg F0 B i s) (hR : ∀ B, Pl L B → ∀ b ∈ B, ∀ x, R b x → 0 ≤ x ∧ x ≤ L) (hT : ∀ x, Tg x → ∀ y, R x y → Tg y) : Lq L R Tg F0 B (i + 1) (qstep L R s) := by
  have io := im_ok (hR _ h.r)
  have mR : ∀ x, x ∈ qR L R s ↔ (∃ b ∈ s.2, R b x) ∧ x ∉ s.1 := fun x => by
    unfold qR
    rw [List.mem_filter, io.2 x]
    simp
  have mF : ∀ x, x ∈ sdI (s.1 ++ qR L R s) ↔ x ∈ s.1 ∨ ∃ b ∈ s.2, R b x := fun x => by
    rw [sdI_mem, List.mem_append, mR]
    constructor
    · rintro (h | h)
      · exact .inl h
      · exact .inr h.1
    · intro h
      by_cases c : x ∈ s.1
      · exact .inl c
      · exact .inr ⟨h.resolve_left c, c⟩
  have plR : Pl L (qR L R s) := ⟨filt_asc io.1, fun b hb => im_mem (List.mem_filter.mp hb).1⟩
  refine ⟨⟨sdI_asc _, fun b hb => ?_⟩, plR, fun x hx => ?_, fun x hx y hy => ?_, fun x hx y hy => ?_, fun x hx => (mF x).mpr (.inl (h.f0 x hx)), fun b hb y hy => ?_, ?_⟩
  · rcases (mF b).mp hb with hb | ⟨c, hc, r⟩
    · exact h.f.2 b hb
    · exact hR _ h.r c hc b r
  · rcases (mF x).mp hx with hx | ⟨c, hc, r⟩
    · exact h.ft x hx
    · exact h.rt c hc x r
  · obtain ⟨⟨b, hb, r⟩, _⟩ := (mR x).mp hx
    exact hT x (h.rt b hb x r) y hy
  · by_cases c : x ∈ s.1
    · rcases h.cl x c y hy with d | d
      · exact .inl ((mF y).mpr (.inl d))
      · exact .inl ((mF y).mpr (.inr ⟨x, d, hy⟩))
    · exact .inr ((mR x).mpr ⟨((mF x).mp hx).resolve_left c, c⟩)
  · rcases h.b0 b hb y hy with d | d
    · exact .inl ((mF y).mpr (.inl d))
    · exact .inl ((mF y).mpr (.inr ⟨b, d, hy⟩))
  · by_cases c : qR L R s = []
    · exact .inl c
    · right
      obtain ⟨x, hx⟩ := List.exists_mem_of_ne_nil _ c
      have hi : i ≤ s.1.length := by
        rcases h.cnt with e | e
        · obtain ⟨⟨b, hb, _⟩, _⟩ := (mR x).mp hx
          rw [e] at hb; cases hb
        · exact e
      have nd : (x :: s.1).Nodup := List.nodup_cons.mpr ⟨((mR x).mp hx).2, asc_nodup h.f.1⟩
      have := sub_len (b := sdI (s.1 ++ qR L R s)) nd (fun k hk => by
        rcases List.mem_cons.mp hk with rfl | hk
        · exact (mF k).mpr (.inr ((mR k).mp hx).1)
        · exact (mF k).mpr (.inl hk))
      show i + 1 ≤ (sdI (s.1 ++ qR L R s)).length
      rw [List.length_cons] at this
      omega
theorem Lq.fin {L : Nat} {R : Int → Int → Prop} {Tg : Int → Prop} {F0 B : List Int} {s : List Int × List Int} (h : Lq L R Tg F0 B (L + 2) s) (hT : ∀ x, Tg x → (∃ b ∈ F0, Rt R b x) ∨ ∃ b ∈ B, ∃ k, R b k ∧ Rt R k x) : ∀ x, x ∈ s.1 ↔ Tg x := by
  have e : s.2 = [] := h.cnt.resolve_right fun c => by have := h.f.len; omega
  have cl : ∀ x ∈ s.1, ∀ y, R x y → y ∈ s.1 := fun x hx y hy => (h.cl x hx y hy).elim id fun c => by rw [e] at c; cases c
  refine fun x => ⟨h.ft x, fun t => ?_⟩
  rcases hT x t with ⟨b, hb, r⟩ | ⟨b, hb, k, a, r⟩
  · exact Rt.closed cl (h.f0 b hb) r
  · exact Rt.closed cl ((h.b0 b hb k a).elim id fun c => by rw [e] at c; cases c) r
section
variable {C : List Code} {n : Nat} {O : Sto} {f : Nat} {nd : D} {nm : List Tx} {rw : List Int} {k : Nat}
def lqE (pt nd : D) (rw B : List Int) (w : Tx) (s : List Int × List Int) (l7 : Sl) : List Sl := [.va pt, .va nd, .va (tI rw), .va (lI B), .va (.str w), .va (lI s.1), .va (lI s.2), l7, .un, .un]
theorem law_turn {p : P A} {w : Tx} (hr : Rw nm rw) (hp : LawOk C f nm nd rw k p) {Tg : Int → Prop} {F0 B : List Int} {i : Nat} {s : List Int × List Int} (h : Lq rw.length (M (hA nm rw) p) Tg F0 B i s) (hT : ∀ x, Tg x → ∀ y, M (hA nm rw) p x y → Tg y) (l7 : Sl) :
    exs (run C (n + (k + 1))) ((c__law_ends f).body.nth 7).bd (lqE (.tup [.str w, enc eA p]) nd rw B w s l7) O = .nx (lqE (.tup [.str w, enc eA p]) nd rw B w (qstep rw.length (M (hA nm rw) p) s) l7) O := by
  have hRl : ∀ B, Pl rw.length B → ∀ b ∈ B, ∀ x, M (hA nm rw) p b x → 0 ≤ x ∧ x ≤ (rw.length : Nat) := fun B hB => M_le (hAi (nm := nm)) hB
  have st := h.step hRl hT
  have hr1 := hr.1
  obtain ⟨x, hx, lx⟩ := hp n O s.2 h.r
  have e2 : n + (k + 1) = n + k + 1 := by omega
  rw [← e2] at hx
  have l1 := h.f.len
  have l2 := st.r.len
  have li := (im_pl (L := rw.length) (R := M (hA nm rw) p) (B := s.2)).len
  have lc := lcS_filt (call := run C (n + (k + 1))) (m := 0) (t := .nm 9) (c := .cons (.cmp .NotIn (.var 9) (.var 5)) .nil) (e := .var 9) (env := lqE (.tup [.str w, enc eA p]) nd rw B w s l7) (O := O) (im rw.length (M (hA nm rw) p) s.2) .int (fun x => !decide (x ∈ s.1)) .int (fun x hx => by
    by_cases c : x ∈ s.1 <;> simp [evq_var, evq_con, evq_glb, evq_bin, evq_neg, evq_cmp, evq_isn, evq_chn, evq_and, evq_or, evq_not, evq_ite, evq_tup, evq_lst, evq_cell, evq_idx, evq_slc, evq_rev, evq_call, evq_callD, evq_tups, evq_lsts, exq_mat, exC, evX, evq_bi, evq_sset, evq_isi, evq_met, evq_lrg, evq_lrg1, evq_lc, evq_lc2, evq_ssc, exq_set, exq_par, exq_unp, exq_aug, exq_seti, exq_app, exq_ext, exq_drop, exq_ret, exq_retv, exq_retN, exq_ife, exq_for, exq_whl, exq_brk, exq_cnt, exq_pas, exq_nev, exq_frz, evA, evO, evs, evB, evC, evI, evT, exs, look, setE, asg_nm, asg_tp, asgs_nil, asgs_cons, T.own, Ts.own, wipeE, fzL, rdL, kidL, parE, vaE, lqE, in_lI, c]) (sz (by omega))
  have e : (im rw.length (M (hA nm rw) p) s.2).filter (fun x => !decide (x ∈ s.1)) = qR rw.length (M (hA nm rw) p) s := rfl
  rw [e] at lc
  have l2' : (qR rw.length (M (hA nm rw) p) s).length ≤ rw.length + 1 := l2
  have bl := bin_lst (s := s.1.map D.int) (t := (qR rw.length (M (hA nm rw) p) s).map D.int) (sz (by rw [List.length_map, List.length_map]; omega))
  rw [← List.map_append] at bl
  have lf := st.f.len
  have ss := ssetD_lI (l := s.1 ++ qR rw.length (M (hA nm rw) p) s) (by rw [List.length_append]; omega) (by
    have lf : (sdI (s.1 ++ qR rw.length (M (hA nm rw) p) s)).length ≤ rw.length + 1 := lf
    omega)
  show _ = Fl.nx (lqE (.tup [.str w, enc eA p]) nd rw B w (sdI (s.1 ++ qR rw.length (M (hA nm rw) p) s), qR rw.length (M (hA nm rw) p) s) l7) O
  generalize sdI (s.1 ++ qR rw.length (M (hA nm rw) p) s) = G at ss ⊢
  generalize (s.1 ++ qR rw.length (M (hA nm rw) p) s) = H at bl ss
  generalize qR rw.length (M (hA nm rw) p) s = Q at lc bl ⊢
  have fz := lx.fzd
  simp only [lqE, lI] at lc hx fz ⊢
  generalize (im rw.length (M (hA nm rw) p) s.2).map D.int = ds at lc fz
  simp [evq_var, evq_con, evq_glb, evq_bin, evq_neg, evq_cmp, evq_isn, evq_chn, evq_and, evq_or, evq_not, evq_ite, evq_tup, evq_lst, evq_cell, evq_idx, evq_slc, evq_rev, evq_call, evq_callD, evq_tups, evq_lsts, exq_mat, exC, evX, evq_bi, evq_sset, evq_isi, evq_met, evq_lrg, evq_lrg1, evq_lc, evq_lc2, evq_ssc, exq_set, exq_par, exq_unp, exq_aug, exq_seti, exq_app, exq_ext, exq_drop, exq_ret, exq_retv, exq_retN, exq_ife, exq_for, exq_whl, exq_brk, exq_cnt, exq_pas, exq_nev, exq_frz, evA, evO, evs, evB, evC, evI, evT, exs, look, setE, asg_nm, asg_tp, asgs_nil, asgs_cons, T.own, Ts.own, wipeE, fzL, rdL, kidL, parE, vaE, c__law_ends, Ss.nth, S.bd, hx, fz, lc, bl, ss]
theorem law_lp (h : C[f]? = some (c__law_ends f)) {p q : P A} {w : Tx} (hw : (w = tStar ∧ q = .star p) ∨ (w = tPlus ∧ q = .plus p)) (hr : Rw nm rw) (hp : LawOk C f nm nd rw k p) : LawOk C f nm nd rw (k + 1) q := by
  intro n O B hB
  have s3 := @sz 3 (by decide)
  have hr1 := hr.1
  have eq : enc eA q = .tup [.str w, enc eA p] := by
    rcases hw with ⟨rfl, rfl⟩ | ⟨rfl, rfl⟩
    · exact enc_star
    · exact enc_plus
  rw [run_at h rfl, eq]
  let F0 : List Int := if w = tStar then B else []
  have hT : ∀ x, (∃ b ∈ B, M (hA nm rw) q b x) → ∀ y, M (hA nm rw) p x y → ∃ b ∈ B, M (hA nm rw) q b y := by
    rintro x ⟨b, hb, m⟩ y my
    refine ⟨b, hb, ?_⟩
    rcases hw with ⟨rfl, rfl⟩ | ⟨rfl, rfl⟩
    · exact M_star.mpr ((M_star.mp m).snoc my)
    · obtain ⟨k, a, t⟩ := M_plus.mp m
      exact M_plus.mpr ⟨k, a, t.snoc my⟩
  have start : Lq rw.length (M (hA nm rw) p) (fun x => ∃ b ∈ B, M (hA nm rw) q b x) F0 B 0 (F0, B) := by
    rcases hw with ⟨rfl, rfl⟩ | ⟨rfl, rfl⟩
    · have e : F0 = B := if_pos rfl
      rw [e]
      exact ⟨hB, hB, fun x hx => ⟨x, hx, M_star.mpr (.refl _)⟩, fun x hx y m => ⟨x, hx, M_star.mpr (.one m)⟩, fun x hx y m => .inr hx, fun x hx => hx, fun b hb y m => .inr hb, .inr (Nat.zero_le _)⟩
    · have e : F0 = [] := if_neg (by decide)
      rw [e]
      exact ⟨⟨.nil, fun x hx => (List.not_mem_nil hx).elim⟩, hB, fun x hx => (List.not_mem_nil hx).elim, fun x hx y m => ⟨x, hx, M_plus.mpr ⟨y, m, .refl _⟩⟩, fun x hx => (List.not_mem_nil hx).elim, fun x hx => hx, fun b hb y m => .inr hb, .inr (Nat.zero_le _)⟩
  have hRl : ∀ B, Pl rw.length B → ∀ b ∈ B, ∀ x, M (hA nm rw) p b x → 0 ≤ x ∧ x ≤ (rw.length : Nat) := fun B hB => M_le (hAi (nm := nm)) hB
  obtain ⟨env', O', hf, s', l7, i, rfl, rfl⟩ := forS_inv (call := run C (n + (k + 1))) (t := .nm 7) (b := ((c__law_ends f).body.nth 7).bd) (rgL 0 ((rw.length : Nat) + 2))
    (fun i env O' => ∃ s l7, Lq rw.length (M (hA nm rw) p) (fun x => ∃ b ∈ B, M (hA nm rw) q b x) F0 B i s ∧ env = lqE (.tup [.str w, enc eA p]) nd rw B w s l7 ∧ O' = O) (lqE (.tup [.str w, enc eA p]) nd rw B w (F0, B) .un) O ⟨_, _, start, rfl, rfl⟩
    (fun i d env O' hd ⟨s, l7, h, e1, e2⟩ => by
      subst e1 e2
      have t := law_turn (C := C) (n := n) (O := O') (f := f) (w := w) hr hp h hT (.va d)
      refine ⟨lqE (.tup [.str w, enc eA p]) nd rw B w (qstep rw.length (M (hA nm rw) p) s) (.va d), O', .inl ?_, qstep rw.length (M (hA nm rw) p) s, .va d, h.step hRl hT, rfl, rfl⟩
      have ea : asg (.nm 7) d (lqE (.tup [.str w, enc eA p]) nd rw B w s l7) = some (lqE (.tup [.str w, enc eA p]) nd rw B w s (.va d)) := by simp [evq_var, evq_con, evq_glb, evq_bin, evq_neg, evq_cmp, evq_isn, evq_chn, evq_and, evq_or, evq_not, evq_ite, evq_tup, evq_lst, evq_cell, evq_idx, evq_slc, evq_rev, evq_call, evq_callD, evq_tups, evq_lsts, exq_mat, exC, evX, evq_bi, evq_sset, evq_isi, evq_met, evq_lrg, evq_lrg1, evq_lc, evq_lc2, evq_ssc, exq_set, exq_par, exq_unp, exq_aug, exq_seti, exq_app, exq_ext, exq_drop, exq_ret, exq_retv, exq_retN, exq_ife, exq_for, exq_whl, exq_brk, exq_cnt, exq_pas, exq_nev, exq_frz, evA, evO, evs, evB, evC, evI, evT, exs, look, setE, asg_nm, asg_tp, asgs_nil, asgs_cons, T.own, Ts.own, wipeE, fzL, rdL, kidL, parE, vaE, lqE]
      rw [ea]
      exact t)
  have hlen : (rgL 0 ((rw.length : Nat) + 2)).length = rw.length + 2 := by rw [rgL_length]; omega
  rw [hlen] at i
  have e : s'.1 = im rw.length (M (hA nm rw) q) B := im_eq (M_le (hAi (nm := nm)) hB) ⟨i.f.1, i.fin fun x ⟨b, hb, mq⟩ => by
    rcases hw with ⟨rfl, rfl⟩ | ⟨rfl, rfl⟩
    · exact .inl ⟨b, by show b ∈ (if tStar = tStar then B else []); rw [if_pos rfl]; exact hb, M_star.mp mq⟩
    · obtain ⟨k, a, t⟩ := M_plus.mp mq
      exact .inr ⟨b, hb, k, a, t⟩⟩
  have rg : rngX (.int 0) (.int (((rw.length : Nat) : Int) + 2)) = some (rgL 0 ((rw.length : Nat) + 2)) := rng_ok (by omega)
  simp only [lqE] at hf
  rw [e] at hf
  refine ⟨_, ?_, .inl rfl⟩
  have li : bi1 .list (.lst (B.map D.int)) = some (.ow 1 (.lst (B.map D.int))) := rfl
  generalize rgL 0 (((rw.length : Nat) : Int) + 2) = rs at hf rg
  rcases hw with ⟨rfl, rfl⟩ | ⟨rfl, rfl⟩
  · have e : F0 = B := if_pos rfl
    rw [e] at hf
    simp only [c__law_ends, Ss.nth, S.bd, lI] at hf ⊢
    simp [evq_var, evq_con, evq_glb, evq_bin, evq_neg, evq_cmp, evq_isn, evq_chn, evq_and, evq_or, evq_not, evq_ite, evq_tup, evq_lst, evq_cell, evq_idx, evq_slc, evq_rev, evq_call, evq_callD, evq_tups, evq_lsts, exq_mat, exC, evX, evq_bi, evq_sset, evq_isi, evq_met, evq_lrg, evq_lrg1, evq_lc, evq_lc2, evq_ssc, exq_set, exq_par, exq_unp, exq_aug, exq_seti, exq_app, exq_ext, exq_drop, exq_ret, exq_retv, exq_retN, exq_ife, exq_for, exq_whl, exq_brk, exq_cnt, exq_pas, exq_nev, exq_frz, evA, evO, evs, evB, evC, evI, evT, exs, look, setE, asg_nm, asg_tp, asgs_nil, asgs_cons, T.own, Ts.own, wipeE, fzL, rdL, kidL, parE, vaE, c__law_ends, in_s3, s3, li, rg, hf]
  · have e : F0 = [] := if_neg (by decide)
    rw [e] at hf
    have s0 := @szl 0 (by decide)
    simp only [c__law_ends, Ss.nth, S.bd, lI, List.map_nil] at hf ⊢
    simp [evq_var, evq_con, evq_glb, evq_bin, evq_neg, evq_cmp, evq_isn, evq_chn, evq_and, evq_or, evq_not, evq_ite, evq_tup, evq_lst, evq_cell, evq_idx, evq_slc, evq_rev, evq_call, evq_callD, evq_tups, evq_lsts, exq_mat, exC, evX, evq_bi, evq_sset, evq_isi, evq_met, evq_lrg, evq_lrg1, evq_lc, evq_lc2, evq_ssc, exq_set, exq_par, exq_unp, exq_aug, exq_seti, exq_app, exq_ext, exq_drop, exq_ret, exq_retv, exq_retN, exq_ife, exq_for, exq_whl, exq_brk, exq_cnt, exq_pas, exq_nev, exq_frz, evA, evO, evs, evB, evC, evI, evT, exs, look, setE, asg_nm, asg_tp, asgs_nil, asgs_cons, T.own, Ts.own, wipeE, fzL, rdL, kidL, parE, vaE, c__law_ends, in_s3, s3, li, rg, hf]
theorem LawOk.up {k m : Nat} {p : P A} (h : LawOk C f nm nd rw k p) (hm : k ≤ m) : LawOk C f nm nd rw m p := fun n O B hB => by
  have := h (n + (m - k)) O B hB
  have e : n + (m - k) + k = n + m := by omega
  rw [e] at this
  exact this
theorem run_lawEnds (h : C[f]? = some (c__law_ends f)) (hn : Nms nd nm) (hr : Rw nm rw) : ∀ (k : Nat) (p : P A), ht p ≤ k → wd p ≤ 60 → LawOk C f nm nd rw k p := by
  intro k
  induction k with
  | zero =>
    intro p hp hw
    cases p with
    | «at» a => exact law_at h hn hr a
    | _ => unfold ht at hp; omega
  | succ k ih =>
    intro p hp hw
    cases p with
    | «at» a => exact (law_at h hn hr a).up (Nat.zero_le _)
    | row ps =>
      unfold ht at hp
      unfold wd at hw
      exact law_row h fun p hq => ih p (by have := htL_le hq; omega) (by have := wdL_le hq; omega)
    | eit ps =>
      unfold ht at hp
      unfold wd at hw
      exact law_eit h hr (by omega) fun p hq => ih p (by have := htL_le hq; omega) (by have := wdL_le hq; omega)
    | star p =>
      unfold ht at hp
      unfold wd at hw
      exact law_lp h (.inl ⟨rfl, rfl⟩) hr (ih p (by omega) hw)
    | plus p =>
      unfold ht at hp
      unfold wd at hw
      exact law_lp h (.inr ⟨rfl, rfl⟩) hr (ih p (by omega) hw)
    | may p =>
      unfold ht at hp
      unfold wd at hw
      exact law_may h hr (ih p (by omega) hw)
/-! what items tell, one for each -/
def eT : Option Tx → D
  | none => .non
  | some x => .str x
def ctd (p : P A) : List (Option Tx) := (lvs p).map tl
theorem run_counted (h : C[f]? = some (c__law_counted f)) : ∀ (k : Nat) (p : P A), ht p ≤ k → (lvs p).length ≤ 1000 → ∀ (n : Nat) (O : Sto), ∃ x, run C (n + k + 1) f [enc eA p] O = .ok x O ∧ Ls x (.lst ((ctd p).map eT)) := by
  have s2 := @sz 2 (by decide)
  have s1 := @sz 1 (by decide)
  have at_case : ∀ (a : A) (n : Nat) (O : Sto), ∃ x, run C (n + 1) f [enc eA (.at a)] O = .ok x O ∧ Ls x (.lst ((ctd (.at a)).map eT)) := fun a n O => by
    refine ⟨_, ?_, .inr rfl⟩
    rw [run_at h rfl, enc_at]
    unfold ctd lvs
    cases a <;> simp [evq_var, evq_con, evq_glb, evq_bin, evq_neg, evq_cmp, evq_isn, evq_chn, evq_and, evq_or, evq_not, evq_ite, evq_tup, evq_lst, evq_cell, evq_idx, evq_slc, evq_rev, evq_call, evq_callD, evq_tups, evq_lsts, exq_mat, exC, evX, evq_bi, evq_sset, evq_isi, evq_met, evq_lrg, evq_lrg1, evq_lc, evq_lc2, evq_ssc, exq_set, exq_par, exq_unp, exq_aug, exq_seti, exq_app, exq_ext, exq_drop, exq_ret, exq_retv, exq_retN, exq_ife, exq_for, exq_whl, exq_brk, exq_cnt, exq_pas, exq_nev, exq_frz, evA, evO, evs, evB, evC, evI, evT, exs, look, setE, asg_nm, asg_tp, asgs_nil, asgs_cons, T.own, Ts.own, wipeE, fzL, rdL, kidL, parE, vaE, c__law_counted, eA, in_s2, s2, s1, tl, eT]
  intro k
  induction k with
  | zero =>
    intro p hp hl n O
    cases p with
    | «at» a => exact at_case a n O
    | _ => unfold ht at hp; omega
  | succ k ih =>
    intro p hp hl n O
    by_cases ha : ∃ a, p = .at a
    · obtain ⟨a, rfl⟩ := ha
      exact at_case a (n + (k + 1)) O
    · have na : ∀ a, p ≠ .at a := fun a e => ha ⟨a, e⟩
      obtain ⟨w, d, e, cs⟩ := enc_kind na
      have hl2 := hl
      rw [lvs_parts na] at hl2
      obtain ⟨s', hf, i1, i2⟩ := forS_rel (call := run C (n + (k + 1))) (t := .nm 2) (b := ((c__law_counted f).body.nth 3).bd) (enc eA) (S := List (Option Tx) × Sl)
        (fun s => [.va (enc eA p), .va (.lst (s.1.map eT)), s.2]) (fun _ => O)
        (fun s r => (∀ q ∈ r, q ∈ parts p) ∧ s.1 ++ r.flatMap ctd = ctd p)
        (fun s q r ⟨i1, i2⟩ => by
          have hq := i1 q List.mem_cons_self
          obtain ⟨x, hx, lx⟩ := ih q (by have := ht_parts hq; omega) (flat_le lvs _ hl2 q hq) n O
          have e : n + k + 1 = n + (k + 1) := by omega
          rw [e] at hx
          have len : s.1.length + (ctd q).length ≤ 1000 := by
            have q1 := congrArg List.length i2
            have q2 : (ctd p).length = (lvs p).length := by unfold ctd; rw [List.length_map]
            rw [List.length_append, List.flatMap_cons, List.length_append] at q1
            omega
          have bl := bin_lst (s := s.1.map eT) (t := (ctd q).map eT) (sz (by rw [List.length_map, List.length_map]; omega))
          rw [← List.map_append] at bl
          have rd := lx.rdd
          refine ⟨(s.1 ++ ctd q, .va (enc eA q)), ?_, fun r hr => i1 r (List.mem_cons_of_mem _ hr), by rw [← i2, List.flatMap_cons, List.append_assoc]⟩
          generalize (s.1 ++ ctd q).map eT = es at bl ⊢
          simp [evq_var, evq_con, evq_glb, evq_bin, evq_neg, evq_cmp, evq_isn, evq_chn, evq_and, evq_or, evq_not, evq_ite, evq_tup, evq_lst, evq_cell, evq_idx, evq_slc, evq_rev, evq_call, evq_callD, evq_tups, evq_lsts, exq_mat, exC, evX, evq_bi, evq_sset, evq_isi, evq_met, evq_lrg, evq_lrg1, evq_lc, evq_lc2, evq_ssc, exq_set, exq_par, exq_unp, exq_aug, exq_seti, exq_app, exq_ext, exq_drop, exq_ret, exq_retv, exq_retN, exq_ife, exq_for, exq_whl, exq_brk, exq_cnt, exq_pas, exq_nev, exq_frz, evA, evO, evs, evB, evC, evI, evT, exs, look, setE, asg_nm, asg_tp, asgs_nil, asgs_cons, T.own, Ts.own, wipeE, fzL, rdL, kidL, parE, vaE, c__law_counted, Ss.nth, S.bd, hx, rd, bl])
        (parts p) ([], .un) ⟨fun _ h => h, by unfold ctd; rw [List.nil_append, lvs_parts na, List.map_flatMap]⟩
      have e' : s'.1 = ctd p := by simpa using i2
      rw [e'] at hf
      rw [run_at h rfl]
      refine ⟨_, ?_, .inl rfl⟩
      have nw : (tCls == w || tNot == w) = false := by
        rcases cs with ⟨rfl | rfl, _⟩ | ⟨rfl | rfl | rfl, _⟩ <;> decide
      have nw2 : (w == tAny) = false := by
        rcases cs with ⟨rfl | rfl, _⟩ | ⟨rfl | rfl | rfl, _⟩ <;> decide
      have i2 := @in_s2 w [99, 108, 97, 115, 115] [110, 111, 116]
      simp only [tCls, tNot] at nw
      rw [nw] at i2
      simp only [tAny] at nw2
      have i3 := @in_s2 w [114, 111, 119] [101, 105, 116, 104, 101, 114]
      simp only [c__law_counted, Ss.nth, S.bd, List.map_nil] at hf
      rw [e] at hf ⊢
      rcases cs with ⟨cw, rfl⟩ | ⟨cw, q, eq, rfl⟩
      · have nw3 : ([114, 111, 119] == w || [101, 105, 116, 104, 101, 114] == w) = true := by
          rcases cw with rfl | rfl <;> decide
        rw [nw3] at i3
        generalize (parts p).map (enc eA) = es at hf ⊢
        generalize (ctd p).map eT = ts at hf ⊢
        simp [evq_var, evq_con, evq_glb, evq_bin, evq_neg, evq_cmp, evq_isn, evq_chn, evq_and, evq_or, evq_not, evq_ite, evq_tup, evq_lst, evq_cell, evq_idx, evq_slc, evq_rev, evq_call, evq_callD, evq_tups, evq_lsts, exq_mat, exC, evX, evq_bi, evq_sset, evq_isi, evq_met, evq_lrg, evq_lrg1, evq_lc, evq_lc2, evq_ssc, exq_set, exq_par, exq_unp, exq_aug, exq_seti, exq_app, exq_ext, exq_drop, exq_ret, exq_retv, exq_retN, exq_ife, exq_for, exq_whl, exq_brk, exq_cnt, exq_pas, exq_nev, exq_frz, evA, evO, evs, evB, evC, evI, evT, exs, look, setE, asg_nm, asg_tp, asgs_nil, asgs_cons, T.own, Ts.own, wipeE, fzL, rdL, kidL, parE, vaE, c__law_counted, s2, s1, i2, i3, nw2, hf]
      · have nw3 : ([114, 111, 119] == w || [101, 105, 116, 104, 101, 114] == w) = false := by
          rcases cw with rfl | rfl | rfl <;> decide
        rw [nw3] at i3
        rw [eq] at hf
        simp only [List.map_cons, List.map_nil] at hf
        generalize (ctd p).map eT = ts at hf ⊢
        simp [evq_var, evq_con, evq_glb, evq_bin, evq_neg, evq_cmp, evq_isn, evq_chn, evq_and, evq_or, evq_not, evq_ite, evq_tup, evq_lst, evq_cell, evq_idx, evq_slc, evq_rev, evq_call, evq_callD, evq_tups, evq_lsts, exq_mat, exC, evX, evq_bi, evq_sset, evq_isi, evq_met, evq_lrg, evq_lrg1, evq_lc, evq_lc2, evq_ssc, exq_set, exq_par, exq_unp, exq_aug, exq_seti, exq_app, exq_ext, exq_drop, exq_ret, exq_retv, exq_retN, exq_ife, exq_for, exq_whl, exq_brk, exq_cnt, exq_pas, exq_nev, exq_frz, evA, evO, evs, evB, evC, evI, evT, exs, look, setE, asg_nm, asg_tp, asgs_nil, asgs_cons, T.own, Ts.own, wipeE, fzL, rdL, kidL, parE, vaE, c__law_counted, s2, s1, i2, i3, nw2, hf]
end
end Ev.PtW

/-! a law's drawn patterns and rows -/
namespace Ev.PtW
open PySem L2 Pt
structure Dw (C : List Code) (ce dr nu ne pi : Nat) : Prop where
  hce : C[ce]? = some cCell
  hdr : C[dr]? = some cDraw
  hnu : C[nu]? = some (cNumber dr)
  hne : C[ne]? = some (cNext ce nu)
  hpi : C[pi]? = some (cPick ne)
/-- the draw and the room -/
def O2 (ms : List Int) (c r : Int) : Sto := [.cell [.lst (intsL ms), .int 0, .int c], .cell [.int r]]
theorem O2_at (ms : List Int) (c r : Int) : (O2 ms c r)[0]? = some (.cell [.lst (intsL ms), .int 0, .int c]) := rfl
theorem O2_r (ms : List Int) (c r : Int) : (O2 ms c r)[1]? = some (.cell [.int r]) := rfl
theorem seti_r (ms : List Int) (c r s : Int) : setiD (.va (.obj 1)) (.int 0) (.int s) (O2 ms c r) = some (.va (.obj 1), O2 ms c s) := by
  rw [seti_obj (O2_r ms c r) (by decide) (show (0 : Int) < ((1 : Nat) : Int) from by decide)]; rfl
section
variable {C : List Code} {n ce dr nu ne pi : Nat}
theorem Dw.next (w : Dw C ce dr nu ne pi) (ms : List Int) (c r b : Int) (h : 0 ≤ c) (hb : 0 < b) : ∃ z : Int, 0 ≤ z ∧ z < b ∧ run C (n + 3) ne [.obj 0, .int b] (O2 ms c r) = .ok (.fz (.int z)) (O2 ms (c + 1) r) :=
  run_next w.hne w.hce w.hnu w.hdr (O2_at ms c r) (Int.le_refl 0) h hb
theorem Dw.pick (w : Dw C ce dr nu ne pi) (ms : List Int) (c r : Int) (h : 0 ≤ c) {ds : List D} (hd : ds ≠ []) : ∃ x ∈ ds, run C (n + 4) pi [.obj 0, .lst ds] (O2 ms c r) = .ok (.fz x) (O2 ms (c + 1) r) :=
  run_pick w.hpi w.hne w.hce w.hnu w.hdr (O2_at ms c r) (Int.le_refl 0) h hd
/-- a drawn pattern: how deep, how wide, what its items tell -/
structure Gp (nm : List Tx) (p : P A) (k : Nat) : Prop where
  ht : ht p ≤ k
  wd : wd p ≤ 2
  lv : (lvs p).length ≤ 2 ^ k
  nm : ∀ a ∈ lvs p, ∀ x, tl a = some x → x ∈ nm
theorem Gp.up {nm : List Tx} {p : P A} {k m : Nat} (g : Gp nm p k) (h : k ≤ m) : Gp nm p m := ⟨Nat.le_trans g.ht h, g.wd, Nat.le_trans g.lv (Nat.pow_le_pow_right (by decide) h), g.nm⟩
theorem gp_at {nm : List Tx} {a : A} (h : ∀ x, tl a = some x → x ∈ nm) : Gp nm (.at a) 0 := ⟨by unfold Pt.ht; exact Nat.le_refl _, by unfold PtW.wd; omega, by unfold lvs; simp, by unfold lvs; simpa using h⟩
theorem gp_nil {nm : List Tx} : Gp nm (.row []) 1 := ⟨by unfold Pt.ht htL; exact Nat.le_refl _, by unfold PtW.wd wdL; simp, by unfold lvs lvsL; simp, by unfold lvs lvsL; simp⟩
theorem gp_two {nm : List Tx} {p q : P A} {k : Nat} (a : Gp nm p k) (b : Gp nm q k) : Gp nm (.row [p, q]) (k + 1) ∧ Gp nm (.eit [p, q]) (k + 1) := by
  obtain ⟨a1, a2, a3, a4⟩ := a
  obtain ⟨b1, b2, b3, b4⟩ := b
  have e1 : htL [p, q] = max (Pt.ht p) (max (Pt.ht q) 0) := by unfold htL htL htL; rfl
  have e2 : wdL [p, q] = max (PtW.wd p) (max (PtW.wd q) 0) := by unfold wdL wdL wdL; rfl
  have e3 : lvsL [p, q] = lvs p ++ (lvs q ++ []) := by unfold lvsL lvsL lvsL; rfl
  have l : (lvs p ++ (lvs q ++ [])).length ≤ 2 ^ (k + 1) := by
    rw [List.length_append, List.length_append, Nat.pow_succ]; simp only [List.length_nil]; omega
  have m : ∀ a ∈ lvs p ++ (lvs q ++ []), ∀ x, tl a = some x → x ∈ nm := fun a ha => by
    rw [List.append_nil] at ha
    exact (List.mem_append.mp ha).elim (a4 a) (b4 a)
  refine ⟨⟨?_, ?_, ?_, ?_⟩, ⟨?_, ?_, ?_, ?_⟩⟩
  · unfold Pt.ht; rw [e1]; omega
  · unfold PtW.wd; rw [e2]; simp only [List.length_cons, List.length_nil]; omega
  · unfold lvs; rw [e3]; exact l
  · unfold lvs; rw [e3]; exact m
  · unfold Pt.ht; rw [e1]; omega
  · unfold PtW.wd; rw [e2]; simp only [List.length_cons, List.length_nil]; omega
  · unfold lvs; rw [e3]; exact l
  · unfold lvs; rw [e3]; exact m
theorem gp_one {nm : List Tx} {p : P A} {k : Nat} (a : Gp nm p k) : Gp nm (.star p) (k + 1) ∧ Gp nm (.plus p) (k + 1) ∧ Gp nm (.may p) (k + 1) := by
  obtain ⟨a1, a2, a3, a4⟩ := a
  have l : (lvs p).length ≤ 2 ^ (k + 1) := by rw [Nat.pow_succ]; omega
  refine ⟨⟨?_, ?_, ?_, ?_⟩, ⟨?_, ?_, ?_, ?_⟩, ⟨?_, ?_, ?_, ?_⟩⟩
  all_goals first
    | (unfold Pt.ht; omega)
    | (unfold PtW.wd; exact a2)
    | (unfold lvs; exact l)
    | (unfold lvs; exact a4)
theorem run_item {fi : Nat} (w : Dw C ce dr nu ne pi) (hi : C[fi]? = some (c__law_item ne pi)) {nm : List Tx} (hn : nm ≠ []) {ms : List Int} {c r : Int} (hc : 0 ≤ c) : ∃ a c', 0 ≤ c' ∧ (∀ x, tl a = some x → x ∈ nm) ∧ run C (n + 5) fi [.obj 0, .lst (nm.map .str)] (O2 ms c r) = .ok (.fz (eA a)) (O2 ms c' r) := by
  rw [run_at hi rfl]
  obtain ⟨a, a1, a2, ha⟩ := w.next (n := n + 1) ms c r 5 hc (by decide)
  obtain ⟨x, hx, hp⟩ := w.pick (n := n) ms (c + 1) r (by omega) (ds := nm.map .str) (by simpa using hn)
  obtain ⟨y, hy, rfl⟩ := List.mem_map.mp hx
  have sz2 : (2 : Nat) ≤ sizeLine := by decide
  have sz1 : (1 : Nat) ≤ sizeLine := by decide
  generalize nm.map D.str = ds at hp
  by_cases h0 : a = 0
  · refine ⟨.any, c + 1, by omega, fun x h => (by cases h), ?_⟩
    simp [evq_var, evq_con, evq_glb, evq_bin, evq_neg, evq_cmp, evq_isn, evq_chn, evq_and, evq_or, evq_not, evq_ite, evq_tup, evq_lst, evq_cell, evq_idx, evq_slc, evq_rev, evq_call, evq_callD, evq_tups, evq_lsts, exq_mat, exC, evX, evq_bi, evq_sset, evq_isi, evq_met, evq_lrg, evq_lrg1, evq_lc, evq_lc2, evq_ssc, exq_set, exq_par, exq_unp, exq_aug, exq_seti, exq_app, exq_ext, exq_drop, exq_ret, exq_retv, exq_retN, exq_ife, exq_for, exq_whl, exq_brk, exq_cnt, exq_pas, exq_nev, exq_frz, evA, evO, evs, evB, evC, evI, evT, exs, look, setE, asg_nm, asg_tp, asgs_nil, asgs_cons, T.own, Ts.own, wipeE, fzL, rdL, kidL, parE, vaE, c__law_item, ha, h0, sz1, eA]
  · by_cases h1 : a = 1
    · refine ⟨.non y, c + 1 + 1, by omega, fun x h => (by cases h; exact hy), ?_⟩
      simp [evq_var, evq_con, evq_glb, evq_bin, evq_neg, evq_cmp, evq_isn, evq_chn, evq_and, evq_or, evq_not, evq_ite, evq_tup, evq_lst, evq_cell, evq_idx, evq_slc, evq_rev, evq_call, evq_callD, evq_tups, evq_lsts, exq_mat, exC, evX, evq_bi, evq_sset, evq_isi, evq_met, evq_lrg, evq_lrg1, evq_lc, evq_lc2, evq_ssc, exq_set, exq_par, exq_unp, exq_aug, exq_seti, exq_app, exq_ext, exq_drop, exq_ret, exq_retv, exq_retN, exq_ife, exq_for, exq_whl, exq_brk, exq_cnt, exq_pas, exq_nev, exq_frz, evA, evO, evs, evB, evC, evI, evT, exs, look, setE, asg_nm, asg_tp, asgs_nil, asgs_cons, T.own, Ts.own, wipeE, fzL, rdL, kidL, parE, vaE, c__law_item, ha, h0, h1, hp, sz2, eA]
    · refine ⟨.cls y, c + 1 + 1, by omega, fun x h => (by cases h; exact hy), ?_⟩
      simp [evq_var, evq_con, evq_glb, evq_bin, evq_neg, evq_cmp, evq_isn, evq_chn, evq_and, evq_or, evq_not, evq_ite, evq_tup, evq_lst, evq_cell, evq_idx, evq_slc, evq_rev, evq_call, evq_callD, evq_tups, evq_lsts, exq_mat, exC, evX, evq_bi, evq_sset, evq_isi, evq_met, evq_lrg, evq_lrg1, evq_lc, evq_lc2, evq_ssc, exq_set, exq_par, exq_unp, exq_aug, exq_seti, exq_app, exq_ext, exq_drop, exq_ret, exq_retv, exq_retN, exq_ife, exq_for, exq_whl, exq_brk, exq_cnt, exq_pas, exq_nev, exq_frz, evA, evO, evs, evB, evC, evI, evT, exs, look, setE, asg_nm, asg_tp, asgs_nil, asgs_cons, T.own, Ts.own, wipeE, fzL, rdL, kidL, parE, vaE, c__law_item, ha, h0, h1, hp, sz2, eA]
def patIf (fi fn fp pk : Nat) : S := (c__law_pattern fi fn fp pk).body.nth 0
def patRest (fi fn fp pk : Nat) : Ss := (c__law_pattern fi fn fp pk).body.drop 1
theorem run_pat {fi fn fp pk : Nat} {O : Sto} (h : C[fp]? = some (c__law_pattern fi fn fp pk)) (a b c d : D) : run C (n + 1) fp [a, b, c, d] O = (exs (run C n) (.cons (patIf fi fn fp pk) (patRest fi fn fp pk)) [.va a, .va b, .va c, .va d, .un, .un, .un] O).out := by
  rw [run_at h rfl]; rfl
theorem pat_rest {fi fp : Nat} (w : Dw C ce dr nu ne pi) (hi : C[fi]? = some (c__law_item ne pi)) {nm : List Tx} (hn : nm ≠ []) (deep n : Nat) (x : Int) (hx : x = deep)
    (ih : ∀ k : Nat, deep = k + 1 → ∀ (ms : List Int) (c r : Int), 0 ≤ c → ∃ p c' r', 0 ≤ c' ∧ Gp nm p (k + 1) ∧ run C (n + 5 + deep) fp [.obj 0, .lst (nm.map .str), .obj 1, .int (x - 1)] (O2 ms c r) = .ok (.fz (enc eA p)) (O2 ms c' r'))
    (ms : List Int) (c r : Int) (hc : 0 ≤ c) : ∃ p c' r', 0 ≤ c' ∧ Gp nm p (deep + 1) ∧
    exs (run C (n + 5 + deep)) (patRest fi ne fp pi) [.va (.obj 0), .va (.lst (nm.map .str)), .va (.obj 1), .va (.int x), .un, .un, .un] (O2 ms c r) = .rt (.fz (enc eA p)) (O2 ms c' r') := by
  obtain ⟨z, z1, z2, hz⟩ := w.next (n := n + 2 + deep) ms c r 8 hc (by decide)
  have en : n + 2 + deep + 3 = n + 5 + deep := by omega
  rw [en] at hz
  have sz2 : (2 : Nat) ≤ sizeLine := by decide
  have sz3 : (3 : Nat) ≤ sizeLine := by decide
  by_cases hA : 0 < x ∧ 4 < z ∧ 1 < r
  · obtain ⟨a1, a2, a3⟩ := hA
    obtain ⟨p, c1, r1, hc1, g1, h1⟩ := ih (deep - 1) (by omega) ms (c + 1) r (by omega)
    obtain ⟨q, c2, r2, hc2, g2, h2⟩ := ih (deep - 1) (by omega) ms c1 r1 hc1
    have ed : deep - 1 + 1 = deep := by omega
    rw [ed] at g1 g2
    generalize nm.map D.str = ds at h1 h2
    by_cases h7 : z < 7
    · refine ⟨.row [p, q], c2, r2, hc2, (gp_two g1 g2).1, ?_⟩
      rw [enc_row]
      simp [evq_var, evq_con, evq_glb, evq_bin, evq_neg, evq_cmp, evq_isn, evq_chn, evq_and, evq_or, evq_not, evq_ite, evq_tup, evq_lst, evq_cell, evq_idx, evq_slc, evq_rev, evq_call, evq_callD, evq_tups, evq_lsts, exq_mat, exC, evX, evq_bi, evq_sset, evq_isi, evq_met, evq_lrg, evq_lrg1, evq_lc, evq_lc2, evq_ssc, exq_set, exq_par, exq_unp, exq_aug, exq_seti, exq_app, exq_ext, exq_drop, exq_ret, exq_retv, exq_retN, exq_ife, exq_for, exq_whl, exq_brk, exq_cnt, exq_pas, exq_nev, exq_frz, evA, evO, evs, evB, evC, evI, evT, exs, look, setE, asg_nm, asg_tp, asgs_nil, asgs_cons, T.own, Ts.own, wipeE, fzL, rdL, kidL, parE, vaE, patRest, c__law_pattern, Ss.drop, hz, a1, a2, a3, idx_obj (O2_r ms _ r), h1, h2, h7, sz2]
    · refine ⟨.eit [p, q], c2, r2, hc2, (gp_two g1 g2).2, ?_⟩
      rw [enc_eit]
      simp [evq_var, evq_con, evq_glb, evq_bin, evq_neg, evq_cmp, evq_isn, evq_chn, evq_and, evq_or, evq_not, evq_ite, evq_tup, evq_lst, evq_cell, evq_idx, evq_slc, evq_rev, evq_call, evq_callD, evq_tups, evq_lsts, exq_mat, exC, evX, evq_bi, evq_sset, evq_isi, evq_met, evq_lrg, evq_lrg1, evq_lc, evq_lc2, evq_ssc, exq_set, exq_par, exq_unp, exq_aug, exq_seti, exq_app, exq_ext, exq_drop, exq_ret, exq_retv, exq_retN, exq_ife, exq_for, exq_whl, exq_brk, exq_cnt, exq_pas, exq_nev, exq_frz, evA, evO, evs, evB, evC, evI, evT, exs, look, setE, asg_nm, asg_tp, asgs_nil, asgs_cons, T.own, Ts.own, wipeE, fzL, rdL, kidL, parE, vaE, patRest, c__law_pattern, Ss.drop, hz, a1, a2, a3, idx_obj (O2_r ms _ r), h1, h2, h7, sz2]
  · by_cases hB : 0 < x ∧ 2 < z
    · obtain ⟨b1, b2⟩ := hB
      have hA' : 4 < z → ¬ 1 < r := fun h h' => hA ⟨b1, h, h'⟩
      obtain ⟨y, hy, hp⟩ := w.pick (n := n + 1 + deep) ms (c + 1) r (by omega) (ds := [.str [115, 116, 97, 114], .str [112, 108, 117, 115], .str [109, 97, 121, 98, 101]]) (by simp)
      have en4 : n + 1 + deep + 4 = n + 5 + deep := by omega
      rw [en4] at hp
      obtain ⟨p, c1, r1, hc1, g1, h1⟩ := ih (deep - 1) (by omega) ms (c + 1 + 1) r (by omega)
      have ed : deep - 1 + 1 = deep := by omega
      rw [ed] at g1
      obtain ⟨g2, g3, g4⟩ := gp_one g1
      generalize nm.map D.str = ds at h1
      have key : ∀ u : Tx, y = .str u → exs (run C (n + 5 + deep)) (patRest fi ne fp pi) [.va (.obj 0), .va (.lst ds), .va (.obj 1), .va (.int x), .un, .un, .un] (O2 ms c r) = .rt (.fz (.tup [.str u, enc eA p])) (O2 ms c1 r1) := fun u e => by
        subst e
        by_cases h4 : 4 < z
        · simp [evq_var, evq_con, evq_glb, evq_bin, evq_neg, evq_cmp, evq_isn, evq_chn, evq_and, evq_or, evq_not, evq_ite, evq_tup, evq_lst, evq_cell, evq_idx, evq_slc, evq_rev, evq_call, evq_callD, evq_tups, evq_lsts, exq_mat, exC, evX, evq_bi, evq_sset, evq_isi, evq_met, evq_lrg, evq_lrg1, evq_lc, evq_lc2, evq_ssc, exq_set, exq_par, exq_unp, exq_aug, exq_seti, exq_app, exq_ext, exq_drop, exq_ret, exq_retv, exq_retN, exq_ife, exq_for, exq_whl, exq_brk, exq_cnt, exq_pas, exq_nev, exq_frz, evA, evO, evs, evB, evC, evI, evT, exs, look, setE, asg_nm, asg_tp, asgs_nil, asgs_cons, T.own, Ts.own, wipeE, fzL, rdL, kidL, parE, vaE, patRest, c__law_pattern, Ss.drop, hz, b1, b2, h4, hA' h4, idx_obj (O2_r ms _ r), hp, h1, sz2, sz3]
        · simp [evq_var, evq_con, evq_glb, evq_bin, evq_neg, evq_cmp, evq_isn, evq_chn, evq_and, evq_or, evq_not, evq_ite, evq_tup, evq_lst, evq_cell, evq_idx, evq_slc, evq_rev, evq_call, evq_callD, evq_tups, evq_lsts, exq_mat, exC, evX, evq_bi, evq_sset, evq_isi, evq_met, evq_lrg, evq_lrg1, evq_lc, evq_lc2, evq_ssc, exq_set, exq_par, exq_unp, exq_aug, exq_seti, exq_app, exq_ext, exq_drop, exq_ret, exq_retv, exq_retN, exq_ife, exq_for, exq_whl, exq_brk, exq_cnt, exq_pas, exq_nev, exq_frz, evA, evO, evs, evB, evC, evI, evT, exs, look, setE, asg_nm, asg_tp, asgs_nil, asgs_cons, T.own, Ts.own, wipeE, fzL, rdL, kidL, parE, vaE, patRest, c__law_pattern, Ss.drop, hz, b1, b2, h4, hp, h1, sz2, sz3]
      simp only [List.mem_cons, List.not_mem_nil, or_false] at hy
      rcases hy with e | e | e
      · exact ⟨.star p, c1, r1, hc1, g2, by rw [enc_star]; exact key _ e⟩
      · exact ⟨.plus p, c1, r1, hc1, g3, by rw [enc_plus]; exact key _ e⟩
      · exact ⟨.may p, c1, r1, hc1, g4, by rw [enc_may]; exact key _ e⟩
    · obtain ⟨a, c1, hc1, g1, h1⟩ := run_item (n := n + deep) w hi hn (ms := ms) (c := c + 1) (r := r - 1) (by omega)
      have en5 : n + deep + 5 = n + 5 + deep := by omega
      rw [en5] at h1
      refine ⟨.at a, c1, r - 1, hc1, (gp_at g1).up (by omega), ?_⟩
      rw [enc_at]
      generalize nm.map D.str = ds at h1
      by_cases b1 : 0 < x
      · have b2 : ¬ 2 < z := fun h => hB ⟨b1, h⟩
        have b3 : ¬ 4 < z := by omega
        simp [evq_var, evq_con, evq_glb, evq_bin, evq_neg, evq_cmp, evq_isn, evq_chn, evq_and, evq_or, evq_not, evq_ite, evq_tup, evq_lst, evq_cell, evq_idx, evq_slc, evq_rev, evq_call, evq_callD, evq_tups, evq_lsts, exq_mat, exC, evX, evq_bi, evq_sset, evq_isi, evq_met, evq_lrg, evq_lrg1, evq_lc, evq_lc2, evq_ssc, exq_set, exq_par, exq_unp, exq_aug, exq_seti, exq_app, exq_ext, exq_drop, exq_ret, exq_retv, exq_retN, exq_ife, exq_for, exq_whl, exq_brk, exq_cnt, exq_pas, exq_nev, exq_frz, evA, evO, evs, evB, evC, evI, evT, exs, look, setE, asg_nm, asg_tp, asgs_nil, asgs_cons, T.own, Ts.own, wipeE, fzL, rdL, kidL, parE, vaE, patRest, c__law_pattern, Ss.drop, hz, b1, b2, b3, idx_obj (O2_r ms _ r), seti_r, h1]
      · simp [evq_var, evq_con, evq_glb, evq_bin, evq_neg, evq_cmp, evq_isn, evq_chn, evq_and, evq_or, evq_not, evq_ite, evq_tup, evq_lst, evq_cell, evq_idx, evq_slc, evq_rev, evq_call, evq_callD, evq_tups, evq_lsts, exq_mat, exC, evX, evq_bi, evq_sset, evq_isi, evq_met, evq_lrg, evq_lrg1, evq_lc, evq_lc2, evq_ssc, exq_set, exq_par, exq_unp, exq_aug, exq_seti, exq_app, exq_ext, exq_drop, exq_ret, exq_retv, exq_retN, exq_ife, exq_for, exq_whl, exq_brk, exq_cnt, exq_pas, exq_nev, exq_frz, evA, evO, evs, evB, evC, evI, evT, exs, look, setE, asg_nm, asg_tp, asgs_nil, asgs_cons, T.own, Ts.own, wipeE, fzL, rdL, kidL, parE, vaE, patRest, c__law_pattern, Ss.drop, hz, b1, idx_obj (O2_r ms _ r), seti_r, h1]
theorem run_pattern {fi fp : Nat} (w : Dw C ce dr nu ne pi) (hi : C[fi]? = some (c__law_item ne pi)) (hp : C[fp]? = some (c__law_pattern fi ne fp pi)) {nm : List Tx} (hn : nm ≠ []) : ∀ (deep n : Nat) (x : Int), x = deep → ∀ (ms : List Int) (c r : Int), 0 ≤ c →
    ∃ p c' r', 0 ≤ c' ∧ Gp nm p (deep + 1) ∧ run C (n + 5 + deep + 1) fp [.obj 0, .lst (nm.map .str), .obj 1, .int x] (O2 ms c r) = .ok (.fz (enc eA p)) (O2 ms c' r') := by
  have sz2 : (2 : Nat) ≤ sizeLine := by decide
  have en0 : enc eA (.row []) = .tup [.str [114, 111, 119], .tup []] := by rw [enc_row]; rfl
  intro deep
  induction deep with
  | zero => 
    intro n x hx ms c r hc
    rw [run_pat hp]
    by_cases hr : r < 1
    · refine ⟨.row [], c, r, hc, gp_nil, ?_⟩
      rw [en0]
      simp [evq_var, evq_con, evq_glb, evq_bin, evq_neg, evq_cmp, evq_isn, evq_chn, evq_and, evq_or, evq_not, evq_ite, evq_tup, evq_lst, evq_cell, evq_idx, evq_slc, evq_rev, evq_call, evq_callD, evq_tups, evq_lsts, exq_mat, exC, evX, evq_bi, evq_sset, evq_isi, evq_met, evq_lrg, evq_lrg1, evq_lc, evq_lc2, evq_ssc, exq_set, exq_par, exq_unp, exq_aug, exq_seti, exq_app, exq_ext, exq_drop, exq_ret, exq_retv, exq_retN, exq_ife, exq_for, exq_whl, exq_brk, exq_cnt, exq_pas, exq_nev, exq_frz, evA, evO, evs, evB, evC, evI, evT, exs, look, setE, asg_nm, asg_tp, asgs_nil, asgs_cons, T.own, Ts.own, wipeE, fzL, rdL, kidL, parE, vaE, patIf, c__law_pattern, Ss.nth, idx_obj (O2_r ms _ r), hr, sz2]
    · obtain ⟨d, c', r', hc', g, h⟩ := pat_rest (fp := fp) w hi hn 0 n x hx (fun k hk => by omega) ms c r hc
      have h3 : (x == 3) = false := by simp; omega
      refine ⟨d, c', r', hc', g, ?_⟩
      generalize nm.map D.str = ds at h ⊢
      simp [evq_var, evq_con, evq_glb, evq_bin, evq_neg, evq_cmp, evq_isn, evq_chn, evq_and, evq_or, evq_not, evq_ite, evq_tup, evq_lst, evq_cell, evq_idx, evq_slc, evq_rev, evq_call, evq_callD, evq_tups, evq_lsts, exq_mat, exC, evX, evq_bi, evq_sset, evq_isi, evq_met, evq_lrg, evq_lrg1, evq_lc, evq_lc2, evq_ssc, exq_set, exq_par, exq_unp, exq_aug, exq_seti, exq_app, exq_ext, exq_drop, exq_ret, exq_retv, exq_retN, exq_ife, exq_for, exq_whl, exq_brk, exq_cnt, exq_pas, exq_nev, exq_frz, evA, evO, evs, evB, evC, evI, evT, exs, look, setE, asg_nm, asg_tp, asgs_nil, asgs_cons, T.own, Ts.own, wipeE, fzL, rdL, kidL, parE, vaE, patIf, c__law_pattern, Ss.nth, idx_obj (O2_r ms _ r), hr, h3, h]
  | succ k ih =>
    intro n x hx ms c r hc
    have ih' : ∀ j : Nat, k + 1 = j + 1 → ∀ (ms : List Int) (c r : Int), 0 ≤ c → ∃ p c' r', 0 ≤ c' ∧ Gp nm p (j + 1) ∧ run C (n + 5 + (k + 1)) fp [.obj 0, .lst (nm.map .str), .obj 1, .int (x - 1)] (O2 ms c r) = .ok (.fz (enc eA p)) (O2 ms c' r') := by
      intro j hj ms c r hc
      cases hj
      exact ih n (x - 1) (by omega) ms c r hc
    rw [run_pat hp]
    by_cases hr : r < 1
    · refine ⟨.row [], c, r, hc, gp_nil.up (by omega), ?_⟩
      rw [en0]
      simp [evq_var, evq_con, evq_glb, evq_bin, evq_neg, evq_cmp, evq_isn, evq_chn, evq_and, evq_or, evq_not, evq_ite, evq_tup, evq_lst, evq_cell, evq_idx, evq_slc, evq_rev, evq_call, evq_callD, evq_tups, evq_lsts, exq_mat, exC, evX, evq_bi, evq_sset, evq_isi, evq_met, evq_lrg, evq_lrg1, evq_lc, evq_lc2, evq_ssc, exq_set, exq_par, exq_unp, exq_aug, exq_seti, exq_app, exq_ext, exq_drop, exq_ret, exq_retv, exq_retN, exq_ife, exq_for, exq_whl, exq_brk, exq_cnt, exq_pas, exq_nev, exq_frz, evA, evO, evs, evB, evC, evI, evT, exs, look, setE, asg_nm, asg_tp, asgs_nil, asgs_cons, T.own, Ts.own, wipeE, fzL, rdL, kidL, parE, vaE, patIf, c__law_pattern, Ss.nth, idx_obj (O2_r ms _ r), hr, sz2]
    · by_cases h3 : x = 3
      · obtain ⟨z, z1, z2, hz⟩ := w.next (n := n + 2 + (k + 1)) ms c r 6 hc (by decide)
        have en : n + 2 + (k + 1) + 3 = n + 5 + (k + 1) := by omega
        rw [en] at hz
        by_cases h0 : z = 0
        · refine ⟨.row [], c + 1, r, by omega, gp_nil.up (by omega), ?_⟩
          rw [en0]
          simp [evq_var, evq_con, evq_glb, evq_bin, evq_neg, evq_cmp, evq_isn, evq_chn, evq_and, evq_or, evq_not, evq_ite, evq_tup, evq_lst, evq_cell, evq_idx, evq_slc, evq_rev, evq_call, evq_callD, evq_tups, evq_lsts, exq_mat, exC, evX, evq_bi, evq_sset, evq_isi, evq_met, evq_lrg, evq_lrg1, evq_lc, evq_lc2, evq_ssc, exq_set, exq_par, exq_unp, exq_aug, exq_seti, exq_app, exq_ext, exq_drop, exq_ret, exq_retv, exq_retN, exq_ife, exq_for, exq_whl, exq_brk, exq_cnt, exq_pas, exq_nev, exq_frz, evA, evO, evs, evB, evC, evI, evT, exs, look, setE, asg_nm, asg_tp, asgs_nil, asgs_cons, T.own, Ts.own, wipeE, fzL, rdL, kidL, parE, vaE, patIf, c__law_pattern, Ss.nth, idx_obj (O2_r ms _ r), hr, h3, hz, h0, sz2]
        · obtain ⟨d, c', r', hc', g, h⟩ := pat_rest (fp := fp) w hi hn (k + 1) n x hx ih' ms (c + 1) r (by omega)
          refine ⟨d, c', r', hc', g, ?_⟩
          rw [h3] at h
          generalize nm.map D.str = ds at h ⊢
          simp [evq_var, evq_con, evq_glb, evq_bin, evq_neg, evq_cmp, evq_isn, evq_chn, evq_and, evq_or, evq_not, evq_ite, evq_tup, evq_lst, evq_cell, evq_idx, evq_slc, evq_rev, evq_call, evq_callD, evq_tups, evq_lsts, exq_mat, exC, evX, evq_bi, evq_sset, evq_isi, evq_met, evq_lrg, evq_lrg1, evq_lc, evq_lc2, evq_ssc, exq_set, exq_par, exq_unp, exq_aug, exq_seti, exq_app, exq_ext, exq_drop, exq_ret, exq_retv, exq_retN, exq_ife, exq_for, exq_whl, exq_brk, exq_cnt, exq_pas, exq_nev, exq_frz, evA, evO, evs, evB, evC, evI, evT, exs, look, setE, asg_nm, asg_tp, asgs_nil, asgs_cons, T.own, Ts.own, wipeE, fzL, rdL, kidL, parE, vaE, patIf, c__law_pattern, Ss.nth, idx_obj (O2_r ms _ r), hr, h3, hz, h0, h]
      · obtain ⟨d, c', r', hc', g, h⟩ := pat_rest (fp := fp) w hi hn (k + 1) n x hx ih' ms c r hc
        refine ⟨d, c', r', hc', g, ?_⟩
        generalize nm.map D.str = ds at h ⊢
        simp [evq_var, evq_con, evq_glb, evq_bin, evq_neg, evq_cmp, evq_isn, evq_chn, evq_and, evq_or, evq_not, evq_ite, evq_tup, evq_lst, evq_cell, evq_idx, evq_slc, evq_rev, evq_call, evq_callD, evq_tups, evq_lsts, exq_mat, exC, evX, evq_bi, evq_sset, evq_isi, evq_met, evq_lrg, evq_lrg1, evq_lc, evq_lc2, evq_ssc, exq_set, exq_par, exq_unp, exq_aug, exq_seti, exq_app, exq_ext, exq_drop, exq_ret, exq_retv, exq_retN, exq_ife, exq_for, exq_whl, exq_brk, exq_cnt, exq_pas, exq_nev, exq_frz, evA, evO, evs, evB, evC, evI, evT, exs, look, setE, asg_nm, asg_tp, asgs_nil, asgs_cons, T.own, Ts.own, wipeE, fzL, rdL, kidL, parE, vaE, patIf, c__law_pattern, Ss.nth, idx_obj (O2_r ms _ r), hr, h3, h]
end
/-! all short rows -/
def Gr (m : Nat) (l : Nat) (rs : List (List Int)) : Prop := ∀ r ∈ rs, r.length ≤ l ∧ ∀ x ∈ r, 0 ≤ x ∧ x < (m : Int)
section
variable {C : List Code} {n : Nat} {O : Sto}
def alE (m l : Nat) (f t : List (List Int)) (l2 l5 l6 : Sl) : List Sl := [.va (.int (m : Nat)), .va (.int (l : Nat)), l2, .va (.lst (f.map tI)), .va (.lst (t.map tI)), l5, l6, .un]
theorem all_in {m l t : Nat} (hm : m ≤ 3) (ht : t ≤ 10) {fd lt : List (List Int)} (hl : Gr m t lt) (hn : lt.length ≤ 100) (l2 l6 : Sl) : ∃ so l6', Gr m (t + 1) so ∧ so.length ≤ 3 * lt.length ∧
    forS (run C n) (.nm 6) ((c__law_all.body.nth 1).bd.nth 1).bd (lt.map tI) (alE m l fd lt l2 (.va (.lst [])) l6) O = .nx (alE m l fd lt l2 (.va (.lst (so.map tI))) l6') O := by
  obtain ⟨s', hf, i1, i2, _⟩ := forS_rel (call := run C n) (t := .nm 6) (b := ((c__law_all.body.nth 1).bd.nth 1).bd) tI (S := List (List Int) × Sl) (fun s => alE m l fd lt l2 (.va (.lst (s.1.map tI))) s.2) (fun _ => O)
    (fun s r => Gr m (t + 1) s.1 ∧ s.1.length + 3 * r.length ≤ 3 * lt.length ∧ ∀ q ∈ r, q ∈ lt)
    (fun s q r ⟨i1, i2, i3⟩ => by
      have hq := hl q (i3 q List.mem_cons_self)
      rw [List.length_cons] at i2
      have rg := rg0 (k := m) (by omega)
      have lc := lcS_map (call := run C n) (m := 0) (t := .nm 7) (e := .bin .Add (.var 6) (.tup (.cons (.var 7) .nil))) (env := alE m l fd lt l2 (.va (.lst (s.1.map tI))) (.va (tI q))) (O := O) (List.range m) (fun (i : Nat) => .int (i : Int)) (fun i => tI (q ++ [(i : Int)])) (fun i hi => by
        have s1 := @sz 1 (by decide)
        have bt := bin_tup (s := q.map D.int) (t := [D.int (i : Int)]) (sz (by simp; omega))
        simp [evq_var, evq_con, evq_glb, evq_bin, evq_neg, evq_cmp, evq_isn, evq_chn, evq_and, evq_or, evq_not, evq_ite, evq_tup, evq_lst, evq_cell, evq_idx, evq_slc, evq_rev, evq_call, evq_callD, evq_tups, evq_lsts, exq_mat, exC, evX, evq_bi, evq_sset, evq_isi, evq_met, evq_lrg, evq_lrg1, evq_lc, evq_lc2, evq_ssc, exq_set, exq_par, exq_unp, exq_aug, exq_seti, exq_app, exq_ext, exq_drop, exq_ret, exq_retv, exq_retN, exq_ife, exq_for, exq_whl, exq_brk, exq_cnt, exq_pas, exq_nev, exq_frz, evA, evO, evs, evB, evC, evI, evT, exs, look, setE, asg_nm, asg_tp, asgs_nil, asgs_cons, T.own, Ts.own, wipeE, fzL, rdL, kidL, parE, vaE, alE, s1, bt]) (sz (by rw [List.length_range]; omega))
      have bl := bin_lst (s := s.1.map tI) (t := (List.range m).map fun (i : Nat) => tI (q ++ [(i : Int)])) (sz (by rw [List.length_map, List.length_map, List.length_range]; omega))
      have e : s.1.map tI ++ (List.range m).map (fun (i : Nat) => tI (q ++ [(i : Int)])) = (s.1 ++ (List.range m).map fun (i : Nat) => q ++ [(i : Int)]).map tI := by
        rw [List.map_append, List.map_map]; rfl
      rw [e] at bl
      refine ⟨(s.1 ++ (List.range m).map fun (i : Nat) => q ++ [(i : Int)], .va (tI q)), ?_, fun r hr => ?_, by rw [List.length_append, List.length_map, List.length_range]; omega, fun r hr => i3 r (List.mem_cons_of_mem _ hr)⟩
      · generalize (s.1 ++ (List.range m).map fun (i : Nat) => q ++ [(i : Int)]).map tI = G at bl ⊢
        generalize ((List.range m).map fun (i : Nat) => tI (q ++ [(i : Int)])) = ds at lc bl
        generalize ((List.range m).map fun (i : Nat) => D.int (i : Int)) = rs at lc rg
        simp only [alE] at lc ⊢
        generalize s.1.map tI = es at lc bl ⊢
        simp [evq_var, evq_con, evq_glb, evq_bin, evq_neg, evq_cmp, evq_isn, evq_chn, evq_and, evq_or, evq_not, evq_ite, evq_tup, evq_lst, evq_cell, evq_idx, evq_slc, evq_rev, evq_call, evq_callD, evq_tups, evq_lsts, exq_mat, exC, evX, evq_bi, evq_sset, evq_isi, evq_met, evq_lrg, evq_lrg1, evq_lc, evq_lc2, evq_ssc, exq_set, exq_par, exq_unp, exq_aug, exq_seti, exq_app, exq_ext, exq_drop, exq_ret, exq_retv, exq_retN, exq_ife, exq_for, exq_whl, exq_brk, exq_cnt, exq_pas, exq_nev, exq_frz, evA, evO, evs, evB, evC, evI, evT, exs, look, setE, asg_nm, asg_tp, asgs_nil, asgs_cons, T.own, Ts.own, wipeE, fzL, rdL, kidL, parE, vaE, c__law_all, Ss.nth, S.bd, rg, lc, bl]
      · rcases List.mem_append.mp hr with hr | hr
        · exact i1 r hr
        · obtain ⟨i, hi, rfl⟩ := List.mem_map.mp hr
          have := List.mem_range.mp hi
          refine ⟨by rw [List.length_append, List.length_singleton]; omega, fun x hx => ?_⟩
          rcases List.mem_append.mp hx with hx | hx
          · exact hq.2 x hx
          · rw [List.mem_singleton.mp hx]; omega)
    lt ([], l6) ⟨fun _ h => (List.not_mem_nil h).elim, by simp, fun _ h => h⟩
  exact ⟨s'.1, s'.2, i1, by simpa using i2, hf⟩
theorem run_all {f : Nat} (h : C[f]? = some c__law_all) {m : Nat} (hm : m ≤ 3) {l : Nat} (hl : l ≤ 4) : ∃ rs : List (List Int), Gr m l rs ∧ rs.length ≤ 3 ^ (l + 1) ∧ run C (n + 1) f [.int (m : Nat), .int (l : Nat)] O = .ok (.fz (.lst (rs.map tI))) O := by
  rw [run_at h rfl]
  have p4 : ∀ t : Nat, t ≤ 4 → 3 ^ t ≤ 81 := fun t ht => Nat.le_trans (Nat.pow_le_pow_right (by decide) ht) (by decide)
  obtain ⟨env', O', hf, fd, lt, l2, l5, l6, i1, i2, i3, i4, rfl, rfl⟩ := forS_inv (call := run C n) (t := .nm 2) (b := (c__law_all.body.nth 1).bd) (rgL 0 (l : Nat))
    (fun t env O' => ∃ fd lt l2 l5 l6, Gr m t fd ∧ Gr m t lt ∧ lt.length ≤ 3 ^ t ∧ fd.length ≤ 3 ^ (t + 1) ∧ env = alE m l fd lt l2 l5 l6 ∧ O' = O) (alE m l [[]] [[]] .un .un .un) O
    ⟨[[]], [[]], .un, .un, .un, fun r hr => by rw [List.mem_singleton.mp hr]; simp, fun r hr => by rw [List.mem_singleton.mp hr]; simp, by simp, by simp, rfl, rfl⟩
    (fun t d env O' hd ⟨fd, lt, l2, l5, l6, i1, i2, i3, i4, e1, e2⟩ => by
      subst e1 e2
      obtain ⟨ht, rfl⟩ := rg_get hd
      have ht4 : t < 4 := by omega
      have := p4 t (by omega)
      obtain ⟨so, l6', g1, g2, hin⟩ := all_in (C := C) (n := n) (O := O') (l := l) (fd := fd) (l2 := .va (.int (t : Nat))) (l6 := l6) hm (show t ≤ 10 by omega) i2 (by omega)
      have e3 : 3 ^ (t + 1) = 3 * 3 ^ t := by rw [Nat.pow_succ]; omega
      have e4 : 3 ^ (t + 1 + 1) = 3 * 3 ^ (t + 1) := by rw [Nat.pow_succ 3 (t + 1)]; omega
      refine ⟨alE m l (fd ++ so) so (.va (.int (t : Nat))) (.va (.lst (so.map tI))) l6', O', .inl ?_, fd ++ so, so, _, _, _, fun r hr => ?_, g1, by omega, by rw [List.length_append]; omega, rfl, rfl⟩
      · have bl := bin_lst (s := fd.map tI) (t := so.map tI) (sz (by rw [List.length_map, List.length_map]; omega))
        rw [← List.map_append] at bl
        simp only [c__law_all, Ss.nth, S.bd] at hin
        simp only [alE] at hin ⊢
        generalize (fd ++ so).map tI = G at bl ⊢
        generalize so.map tI = es at hin bl ⊢
        generalize fd.map tI = fs at hin bl ⊢
        generalize lt.map tI = ls at hin ⊢
        have s0 := @sz 0 (by decide)
        simp [evq_var, evq_con, evq_glb, evq_bin, evq_neg, evq_cmp, evq_isn, evq_chn, evq_and, evq_or, evq_not, evq_ite, evq_tup, evq_lst, evq_cell, evq_idx, evq_slc, evq_rev, evq_call, evq_callD, evq_tups, evq_lsts, exq_mat, exC, evX, evq_bi, evq_sset, evq_isi, evq_met, evq_lrg, evq_lrg1, evq_lc, evq_lc2, evq_ssc, exq_set, exq_par, exq_unp, exq_aug, exq_seti, exq_app, exq_ext, exq_drop, exq_ret, exq_retv, exq_retN, exq_ife, exq_for, exq_whl, exq_brk, exq_cnt, exq_pas, exq_nev, exq_frz, evA, evO, evs, evB, evC, evI, evT, exs, look, setE, asg_nm, asg_tp, asgs_nil, asgs_cons, T.own, Ts.own, wipeE, fzL, rdL, kidL, parE, vaE, c__law_all, Ss.nth, S.bd, s0, hin, bl]
      · rcases List.mem_append.mp hr with hr | hr
        · have := i1 r hr
          exact ⟨by omega, this.2⟩
        · exact g1 r hr)
  have hlen : (rgL 0 ((l : Nat) : Int)).length = l := by rw [rgL_length]; omega
  rw [hlen] at i1 i2 i3 i4
  refine ⟨fd, i1, i4, ?_⟩
  have rg : rngX (.int 0) (.int ((l : Nat) : Int)) = some (rgL 0 (l : Nat)) := rng_ok (by omega)
  have s0 := @sz 0 (by decide)
  have s1 := @sz 1 (by decide)
  simp only [c__law_all, Ss.nth, S.bd, alE, tI, List.map_cons, List.map_nil] at hf
  generalize rgL 0 ((l : Nat) : Int) = ds at hf rg
  have e1 : fd.map tI = fd.map fun l => D.tup (l.map .int) := rfl
  have e2 : lt.map tI = lt.map fun l => D.tup (l.map .int) := rfl
  rw [e1]
  generalize (fd.map fun l => D.tup (l.map .int)) = fs at hf ⊢
  generalize (lt.map fun l => D.tup (l.map .int)) = ls at hf
  simp [evq_var, evq_con, evq_glb, evq_bin, evq_neg, evq_cmp, evq_isn, evq_chn, evq_and, evq_or, evq_not, evq_ite, evq_tup, evq_lst, evq_cell, evq_idx, evq_slc, evq_rev, evq_call, evq_callD, evq_tups, evq_lsts, exq_mat, exC, evX, evq_bi, evq_sset, evq_isi, evq_met, evq_lrg, evq_lrg1, evq_lc, evq_lc2, evq_ssc, exq_set, exq_par, exq_unp, exq_aug, exq_seti, exq_app, exq_ext, exq_drop, exq_ret, exq_retv, exq_retN, exq_ife, exq_for, exq_whl, exq_brk, exq_cnt, exq_pas, exq_nev, exq_frz, evA, evO, evs, evB, evC, evI, evT, exs, look, setE, asg_nm, asg_tp, asgs_nil, asgs_cons, T.own, Ts.own, wipeE, fzL, rdL, kidL, parE, vaE, c__law_all, s0, s1, rg, hf]
end
end Ev.PtW

namespace K08
open PySem PySem.Spec PyProof.Rows L2 Ev
def topS (i : Nat) : Stmt := PySem.Challenge.pw_cutsanywhere_k08_whole_patterns.main.body.getD i (.Pass ⟨0, 0, 0, 0⟩)
def b_parts_of : Ss := (.cons (.ife (.cmp .In (.idx (.var 0) (.con (.int 0))) (.tup (.cons (.con (.str [114, 111, 119])) (.cons (.con (.str [101, 105, 116, 104, 101, 114])) .nil)))) (.cons (.ret (.bi .list (.idx (.var 0) (.con (.int 1))))) .nil) .nil) (.cons (.ret (.ite (.cmp .In (.idx (.var 0) (.con (.int 0))) (.tup (.cons (.con (.str [115, 116, 97, 114])) (.cons (.con (.str [112, 108, 117, 115])) (.cons (.con (.str [109, 97, 121, 98, 101])) .nil))))) (.lst 0 (.cons (.idx (.var 0) (.con (.int 1))) .nil)) (.lst 0 .nil))) .nil))
def d_parts_of : Def := ⟨"parts_of", topS 2, ["pattern"], ["pattern"], ⟨1, 1, b_parts_of⟩⟩
def b_items_of : Ss := (.cons (.ife (.cmp .In (.idx (.var 0) (.con (.int 0))) (.tup (.cons (.con (.str [97, 110, 121])) (.cons (.con (.str [99, 108, 97, 115, 115])) (.cons (.con (.str [110, 111, 116])) .nil))))) (.cons (.ret (.con (.int 1))) .nil) .nil) (.cons (.ret (.bi .sum (.lc 0 (.nm 1) (.e (.call 0 (.cons (.var 0) .nil))) .nil (.call 1 (.cons (.var 1) .nil))))) .nil))
def d_items_of : Def := ⟨"items_of", topS 3, ["pattern"], ["pattern", "part"], ⟨1, 2, b_items_of⟩⟩
def b_names_in : Ss := (.cons (.ife (.cmp .In (.idx (.var 0) (.con (.int 0))) (.tup (.cons (.con (.str [99, 108, 97, 115, 115])) (.cons (.con (.str [110, 111, 116])) .nil)))) (.cons (.ret (.lst 0 (.cons (.idx (.var 0) (.con (.int 1))) .nil))) .nil) .nil) (.cons (.ret (.lc2 0 (.nm 1) (.e (.call 0 (.cons (.var 0) .nil))) .nil (.nm 2) (.e (.call 2 (.cons (.var 1) .nil))) .nil (.var 2))) .nil))
def d_names_in : Def := ⟨"names_in", topS 4, ["pattern"], ["pattern", "part", "name"], ⟨1, 3, b_names_in⟩⟩
def b_reversed_pattern : Ss := (.cons (.set 1 false (.idx (.var 0) (.con (.int 0)))) (.cons (.ife (.cmp .Eq (.var 1) (.con (.str [114, 111, 119]))) (.cons (.ret (.tup (.cons (.con (.str [114, 111, 119])) (.cons (.bi .tuple (.lc 0 (.nm 2) (.e (.rev (.idx (.var 0) (.con (.int 1))))) .nil (.call 3 (.cons (.var 2) .nil)))) .nil)))) .nil) .nil) (.cons (.ife (.cmp .Eq (.var 1) (.con (.str [101, 105, 116, 104, 101, 114]))) (.cons (.ret (.tup (.cons (.con (.str [101, 105, 116, 104, 101, 114])) (.cons (.bi .tuple (.lc 0 (.nm 2) (.e (.idx (.var 0) (.con (.int 1)))) .nil (.call 3 (.cons (.var 2) .nil)))) .nil)))) .nil) .nil) (.cons (.ret (.ite (.cmp .In (.var 1) (.tup (.cons (.con (.str [115, 116, 97, 114])) (.cons (.con (.str [112, 108, 117, 115])) (.cons (.con (.str [109, 97, 121, 98, 101])) .nil))))) (.tup (.cons (.var 1) (.cons (.call 3 (.cons (.idx (.var 0) (.con (.int 1))) .nil)) .nil))) (.var 0))) .nil))))
def d_reversed_pattern : Def := ⟨"reversed_pattern", topS 5, ["pattern"], ["pattern", "kind", "part"], ⟨1, 3, b_reversed_pattern⟩⟩
def b_resolved : Ss := (.cons (.set 2 false (.idx (.var 0) (.con (.int 0)))) (.cons (.ife (.cmp .Eq (.var 2) (.con (.str [97, 110, 121]))) (.cons (.ret (.tup (.cons (.con (.str [105, 110])) (.cons (.lrg1 true (.bi .len (.var 1))) .nil)))) .nil) .nil) (.cons (.ife (.cmp .Eq (.var 2) (.con (.str [99, 108, 97, 115, 115]))) (.cons (.ret (.tup (.cons (.con (.str [105, 110])) (.cons (.bi .tuple (.lc 0 (.tp (.cons (.nm 4) (.cons (.nm 5) .nil))) (.enum (.var 1)) (.cons (.cmp .Eq (.var 5) (.idx (.var 0) (.con (.int 1)))) .nil) (.var 4))) .nil)))) .nil) .nil) (.cons (.ife (.cmp .Eq (.var 2) (.con (.str [110, 111, 116]))) (.cons (.ret (.tup (.cons (.con (.str [105, 110])) (.cons (.bi .tuple (.lc 0 (.tp (.cons (.nm 4) (.cons (.nm 5) .nil))) (.enum (.var 1)) (.cons (.cmp .NotEq (.var 5) (.idx (.var 0) (.con (.int 1)))) .nil) (.var 4))) .nil)))) .nil) .nil) (.cons (.ife (.cmp .In (.var 2) (.tup (.cons (.con (.str [114, 111, 119])) (.cons (.con (.str [101, 105, 116, 104, 101, 114])) .nil)))) (.cons (.ret (.tup (.cons (.var 2) (.cons (.bi .tuple (.lc 0 (.nm 3) (.e (.idx (.var 0) (.con (.int 1)))) .nil (.call 4 (.cons (.var 3) (.cons (.var 1) .nil))))) .nil)))) .nil) .nil) (.cons (.set 3 false (.call 4 (.cons (.idx (.var 0) (.con (.int 1))) (.cons (.var 1) .nil)))) (.cons (.ret (.ite (.cmp .Eq (.var 2) (.con (.str [109, 97, 121, 98, 101]))) (.tup (.cons (.con (.str [101, 105, 116, 104, 101, 114])) (.cons (.tup (.cons (.var 3) (.cons (.glb "NOTHING" (.tup [(.str [114, 111, 119]), (.tup [])])) .nil))) .nil))) (.tup (.cons (.var 2) (.cons (.var 3) .nil))))) .nil)))))))
def d_resolved : Def := ⟨"resolved", topS 6, ["pattern", "names"], ["pattern", "names", "kind", "part", "number", "name"], ⟨2, 6, b_resolved⟩⟩
def b_ends_of : Ss := (.cons (.ife (.cmp .Eq (.idx (.var 0) (.con (.int 0))) (.con (.str [105, 110]))) (.cons (.ret (.lc 0 (.nm 6) (.e (.var 2)) (.cons (.and (.cons (.cmp .Lt (.var 6) (.bi .len (.var 1))) (.cons (.cmp .In (.idx (.var 1) (.var 6)) (.idx (.var 0) (.con (.int 1)))) .nil))) .nil) (.bin .Add (.var 6) (.con (.int 1))))) .nil) .nil) (.cons (.ife (.cmp .Eq (.idx (.var 0) (.con (.int 0))) (.con (.str [114, 111, 119]))) (.cons (.for (.nm 5) (.e (.idx (.var 0) (.con (.int 1)))) (.cons (.set 2 false (.call 5 (.cons (.var 5) (.cons (.var 1) (.cons (.var 2) .nil))))) .nil)) (.cons (.ret (.var 2)) .nil)) .nil) (.cons (.ife (.cmp .Eq (.idx (.var 0) (.con (.int 0))) (.con (.str [101, 105, 116, 104, 101, 114]))) (.cons (.ret (.ssc (.nm 5) (.e (.idx (.var 0) (.con (.int 1)))) .nil (.nm 6) (.e (.call 5 (.cons (.var 5) (.cons (.var 1) (.cons (.var 2) .nil))))) .nil (.var 6))) .nil) .nil) (.cons (.set 3 false (.ite (.cmp .Eq (.idx (.var 0) (.con (.int 0))) (.con (.str [115, 116, 97, 114]))) (.bi .list (.var 2)) (.lst 0 .nil))) (.cons (.set 4 false (.call 5 (.cons (.idx (.var 0) (.con (.int 1))) (.cons (.var 1) (.cons (.var 2) .nil))))) (.cons (.whl (.bi .any (.lc 0 (.nm 6) (.e (.var 4)) .nil (.cmp .NotIn (.var 6) (.var 3)))) (.cons (.set 4 false (.lc 0 (.nm 6) (.e (.var 4)) (.cons (.cmp .NotIn (.var 6) (.var 3)) .nil) (.var 6))) (.cons (.set 3 false (.bi .sorted (.lsts (.star (.var 3) (.star (.var 4) .nil))))) (.cons (.set 4 false (.call 5 (.cons (.idx (.var 0) (.con (.int 1))) (.cons (.var 1) (.cons (.var 4) .nil))))) .nil)))) (.cons (.ret (.var 3)) .nil)))))))
def d_ends_of : Def := ⟨"ends_of", topS 7, ["pattern", "row", "begins"], ["pattern", "row", "begins", "found", "fresh", "part", "at"], ⟨3, 7, b_ends_of⟩⟩
def b_does_match : Ss := (.cons (.ret (.cmp .In (.bi .len (.var 2)) (.call 5 (.cons (.call 4 (.cons (.var 0) (.cons (.var 1) .nil))) (.cons (.var 2) (.cons (.lst 0 (.cons (.con (.int 0)) .nil)) .nil)))))) .nil)
def d_does_match : Def := ⟨"does_match", topS 8, ["pattern", "names", "row"], ["pattern", "names", "row"], ⟨3, 3, b_does_match⟩⟩
def b__law_cell_at : Ss := (.cons (.ife (.cmp .Lt (.var 1) (.bi .len (.var 0))) (.cons (.ret (.idx (.var 0) (.var 1))) .nil) .nil) (.cons (.ret (.con (.int 0))) .nil))
def d__law_cell_at : Def := ⟨"_law_cell_at", topS 10, ["script", "k"], ["script", "k"], ⟨2, 2, b__law_cell_at⟩⟩
def b__law_draw : Ss := (.cons (.set 3 false (.tup (.cons (.con (.int 1000003)) (.cons (.con (.int 1000033)) (.cons (.con (.int 1000037)) (.cons (.con (.int 1000039)) (.cons (.con (.int 1000081)) (.cons (.con (.int 1000099)) (.cons (.con (.int 1000117)) (.cons (.con (.int 1000121)) (.cons (.con (.int 1000133)) (.cons (.con (.int 1000151)) (.cons (.con (.int 1000159)) (.cons (.con (.int 1000171)) (.cons (.con (.int 1000183)) (.cons (.con (.int 1000187)) (.cons (.con (.int 1000193)) (.cons (.con (.int 1000199)) .nil)))))))))))))))))) (.cons (.ret (.bin .Mod (.bin .Mod (.bi .int (.bin .Add (.bin .Mult (.var 0) (.con (.int 48271))) (.bin .Mult (.var 1) (.con (.int 69621))))) (.idx (.var 3) (.bin .Mod (.bi .int (.var 1)) (.con (.int 16))))) (.var 2))) .nil))
def d__law_draw : Def := ⟨"_law_draw", topS 11, ["cell", "k", "bound"], ["cell", "k", "bound", "primes"], ⟨3, 4, b__law_draw⟩⟩
def b__law_number : Ss := (.cons (.set 3 false (.con (.int 1))) (.cons (.for (.nm 4) (.rng1 (.bin .Mod (.bi .int (.var 1)) (.con (.int 24)))) (.cons (.set 3 false (.bin .Mult (.var 3) (.con (.int 1009)))) .nil)) (.cons (.set 5 false (.bin .FloorDiv (.bin .Sub (.var 0) (.bin .Pow (.con (.int 10)) (.con (.int 18)))) (.var 3))) (.cons (.ife (.cmp .Gt (.var 5) (.con (.int 0))) (.cons (.ret (.bin .Mod (.bin .Mod (.bi .int (.var 5)) (.con (.int 1009))) (.var 2))) .nil) .nil) (.cons (.set 6 false (.bin .Mod (.bi .int (.var 0)) (.con (.int 1000003)))) (.cons (.ret (.bin .Mod (.call 8 (.cons (.bin .Mult (.bin .Add (.var 6) (.bin .Mult (.con (.int 977)) (.var 1))) (.bin .Add (.bin .Add (.var 6) (.bin .Mult (.con (.int 31)) (.var 1))) (.con (.int 5)))) (.cons (.bin .Add (.bin .Mod (.bi .int (.var 1)) (.con (.int 9))) (.con (.int 1))) (.cons (.con (.int 999983)) .nil)))) (.var 2))) .nil))))))
def d__law_number : Def := ⟨"_law_number", topS 12, ["cell", "k", "bound"], ["cell", "k", "bound", "power", "lap", "remains", "small"], ⟨3, 7, b__law_number⟩⟩
def b__law_next : Ss := (.cons (.seti 0 (.con (.int 2)) (.bin .Add (.idx (.var 0) (.con (.int 2))) (.con (.int 1)))) (.cons (.set 2 false (.bin .FloorDiv (.idx (.var 0) (.con (.int 2))) (.con (.int 12)))) (.cons (.set 3 false (.bin .Add (.call 7 (.cons (.idx (.var 0) (.con (.int 0))) (.cons (.bin .Add (.idx (.var 0) (.con (.int 1))) (.var 2)) .nil))) (.bin .Mult (.con (.int 31)) (.var 2)))) (.cons (.ret (.call 9 (.cons (.var 3) (.cons (.bin .Add (.bin .Mod (.bi .int (.idx (.var 0) (.con (.int 2)))) (.con (.int 12))) (.con (.int 1))) (.cons (.var 1) .nil))))) .nil))))
def d__law_next : Def := ⟨"_law_next", topS 13, ["draw", "bound"], ["draw", "bound", "at", "cell"], ⟨2, 4, b__law_next⟩⟩
def b__law_pick : Ss := (.cons (.ret (.idx (.var 1) (.call 10 (.cons (.var 0) (.cons (.bi .len (.var 1)) .nil))))) .nil)
def d__law_pick : Def := ⟨"_law_pick", topS 14, ["draw", "things"], ["draw", "things"], ⟨2, 2, b__law_pick⟩⟩
def b__law_item : Ss := (.cons (.set 2 false (.call 10 (.cons (.var 0) (.cons (.con (.int 5)) .nil)))) (.cons (.ife (.cmp .Eq (.var 2) (.con (.int 0))) (.cons (.ret (.tup (.cons (.con (.str [97, 110, 121])) .nil))) .nil) .nil) (.cons (.ret (.tup (.cons (.ite (.cmp .Eq (.var 2) (.con (.int 1))) (.con (.str [110, 111, 116])) (.con (.str [99, 108, 97, 115, 115]))) (.cons (.call 11 (.cons (.var 0) (.cons (.var 1) .nil))) .nil)))) .nil)))
def d__law_item : Def := ⟨"_law_item", topS 15, ["draw", "names"], ["draw", "names", "kind"], ⟨2, 3, b__law_item⟩⟩
def b__law_pattern : Ss := (.cons (.ife (.or (.cons (.cmp .Lt (.idx (.var 2) (.con (.int 0))) (.con (.int 1))) (.cons (.and (.cons (.cmp .Eq (.var 3) (.con (.int 3))) (.cons (.cmp .Eq (.call 10 (.cons (.var 0) (.cons (.con (.int 6)) .nil))) (.con (.int 0))) .nil))) .nil))) (.cons (.ret (.tup (.cons (.con (.str [114, 111, 119])) (.cons (.tup .nil) .nil)))) .nil) .nil) (.cons (.set 4 false (.call 10 (.cons (.var 0) (.cons (.con (.int 8)) .nil)))) (.cons (.ife (.and (.cons (.cmp .Gt (.var 3) (.con (.int 0))) (.cons (.cmp .Gt (.var 4) (.con (.int 4))) (.cons (.cmp .Gt (.idx (.var 2) (.con (.int 0))) (.con (.int 1))) .nil)))) (.cons (.set 5 false (.call 13 (.cons (.var 0) (.cons (.var 1) (.cons (.var 2) (.cons (.bin .Sub (.var 3) (.con (.int 1))) .nil)))))) (.cons (.set 6 false (.call 13 (.cons (.var 0) (.cons (.var 1) (.cons (.var 2) (.cons (.bin .Sub (.var 3) (.con (.int 1))) .nil)))))) (.cons (.ret (.tup (.cons (.ite (.cmp .Lt (.var 4) (.con (.int 7))) (.con (.str [114, 111, 119])) (.con (.str [101, 105, 116, 104, 101, 114]))) (.cons (.tup (.cons (.var 5) (.cons (.var 6) .nil))) .nil)))) .nil))) .nil) (.cons (.ife (.and (.cons (.cmp .Gt (.var 3) (.con (.int 0))) (.cons (.cmp .Gt (.var 4) (.con (.int 2))) .nil))) (.cons (.ret (.tup (.cons (.call 11 (.cons (.var 0) (.cons (.lst 0 (.cons (.con (.str [115, 116, 97, 114])) (.cons (.con (.str [112, 108, 117, 115])) (.cons (.con (.str [109, 97, 121, 98, 101])) .nil)))) .nil))) (.cons (.call 13 (.cons (.var 0) (.cons (.var 1) (.cons (.var 2) (.cons (.bin .Sub (.var 3) (.con (.int 1))) .nil))))) .nil)))) .nil) .nil) (.cons (.seti 2 (.con (.int 0)) (.bin .Sub (.idx (.var 2) (.con (.int 0))) (.con (.int 1)))) (.cons (.ret (.call 12 (.cons (.var 0) (.cons (.var 1) .nil)))) .nil))))))
def d__law_pattern : Def := ⟨"_law_pattern", topS 16, ["draw", "names", "room", "deep"], ["draw", "names", "room", "deep", "kind", "one", "other"], ⟨4, 7, b__law_pattern⟩⟩
def b__law_ends : Ss := (.cons (.set 4 false (.idx (.var 0) (.con (.int 0)))) (.cons (.ife (.cmp .In (.var 4) (.tup (.cons (.con (.str [97, 110, 121])) (.cons (.con (.str [99, 108, 97, 115, 115])) (.cons (.con (.str [110, 111, 116])) .nil))))) (.cons (.set 5 false (.lc 0 (.nm 9) (.e (.var 3)) (.cons (.cmp .Lt (.var 9) (.bi .len (.var 2))) .nil) (.var 9))) (.cons (.ife (.cmp .Eq (.var 4) (.con (.str [99, 108, 97, 115, 115]))) (.cons (.ret (.lc 0 (.nm 9) (.e (.var 5)) (.cons (.cmp .Eq (.idx (.var 1) (.idx (.var 2) (.var 9))) (.idx (.var 0) (.con (.int 1)))) .nil) (.bin .Add (.var 9) (.con (.int 1))))) .nil) .nil) (.cons (.ret (.lc 0 (.nm 9) (.e (.var 5)) (.cons (.or (.cons (.cmp .Eq (.var 4) (.con (.str [97, 110, 121]))) (.cons (.cmp .NotEq (.idx (.var 1) (.idx (.var 2) (.var 9))) (.idx (.var 0) (.con (.int 1)))) .nil))) .nil) (.bin .Add (.var 9) (.con (.int 1))))) .nil))) .nil) (.cons (.ife (.cmp .Eq (.var 4) (.con (.str [114, 111, 119]))) (.cons (.for (.nm 8) (.e (.idx (.var 0) (.con (.int 1)))) (.cons (.set 3 false (.call 14 (.cons (.var 8) (.cons (.var 1) (.cons (.var 2) (.cons (.var 3) .nil)))))) .nil)) (.cons (.ret (.var 3)) .nil)) .nil) (.cons (.ife (.cmp .Eq (.var 4) (.con (.str [101, 105, 116, 104, 101, 114]))) (.cons (.set 5 false (.lst 0 .nil)) (.cons (.for (.nm 8) (.e (.idx (.var 0) (.con (.int 1)))) (.cons (.set 5 false (.bin .Add (.var 5) (.call 14 (.cons (.var 8) (.cons (.var 1) (.cons (.var 2) (.cons (.var 3) .nil))))))) .nil)) (.cons (.ret (.sset (.var 5))) .nil))) .nil) (.cons (.ife (.cmp .Eq (.var 4) (.con (.str [109, 97, 121, 98, 101]))) (.cons (.ret (.sset (.bin .Add (.var 3) (.call 14 (.cons (.idx (.var 0) (.con (.int 1))) (.cons (.var 1) (.cons (.var 2) (.cons (.var 3) .nil)))))))) .nil) .nil) (.cons (.set 5 false (.ite (.cmp .Eq (.var 4) (.con (.str [115, 116, 97, 114]))) (.bi .list (.var 3)) (.lst 0 .nil))) (.cons (.set 6 false (.bi .list (.var 3))) (.cons (.for (.nm 7) (.rng1 (.bin .Add (.bi .len (.var 2)) (.con (.int 2)))) (.cons (.set 6 false (.lc 0 (.nm 9) (.e (.call 14 (.cons (.idx (.var 0) (.con (.int 1))) (.cons (.var 1) (.cons (.var 2) (.cons (.var 6) .nil)))))) (.cons (.cmp .NotIn (.var 9) (.var 5)) .nil) (.var 9))) (.cons (.set 5 false (.sset (.bin .Add (.var 5) (.var 6)))) .nil))) (.cons (.ret (.var 5)) .nil)))))))))
def d__law_ends : Def := ⟨"_law_ends", topS 17, ["pattern", "names", "row", "begins"], ["pattern", "names", "row", "begins", "kind", "found", "some", "turn", "part", "at"], ⟨4, 10, b__law_ends⟩⟩
def b__law_all : Ss := (.cons (.par [(3, false), (4, false)] (.cons (.lst 0 (.cons (.tup .nil) .nil)) (.cons (.lst 0 (.cons (.tup .nil) .nil)) .nil))) (.cons (.for (.nm 2) (.rng1 (.var 1)) (.cons (.set 5 false (.lst 0 .nil)) (.cons (.for (.nm 6) (.e (.var 4)) (.cons (.set 5 false (.bin .Add (.var 5) (.lc 0 (.nm 7) (.rng1 (.var 0)) .nil (.bin .Add (.var 6) (.tup (.cons (.var 7) .nil)))))) .nil)) (.cons (.set 4 false (.var 5)) (.cons (.set 3 false (.bin .Add (.var 3) (.var 4))) .nil))))) (.cons (.ret (.var 3)) .nil)))
def d__law_all : Def := ⟨"_law_all", topS 18, ["many", "length"], ["many", "length", "turn", "found", "late", "some", "row", "number"], ⟨2, 8, b__law_all⟩⟩
def b__law_counted : Ss := (.cons (.ife (.cmp .Eq (.idx (.var 0) (.con (.int 0))) (.con (.str [97, 110, 121]))) (.cons (.ret (.lst 0 (.cons (.con .non) .nil))) .nil) .nil) (.cons (.ife (.cmp .In (.idx (.var 0) (.con (.int 0))) (.tup (.cons (.con (.str [99, 108, 97, 115, 115])) (.cons (.con (.str [110, 111, 116])) .nil)))) (.cons (.ret (.lst 0 (.cons (.idx (.var 0) (.con (.int 1))) .nil))) .nil) .nil) (.cons (.set 1 false (.lst 0 .nil)) (.cons (.for (.nm 2) (.e (.ite (.cmp .In (.idx (.var 0) (.con (.int 0))) (.tup (.cons (.con (.str [114, 111, 119])) (.cons (.con (.str [101, 105, 116, 104, 101, 114])) .nil)))) (.idx (.var 0) (.con (.int 1))) (.tup (.cons (.idx (.var 0) (.con (.int 1))) .nil)))) (.cons (.set 1 false (.bin .Add (.var 1) (.call 16 (.cons (.var 2) .nil)))) .nil)) (.cons (.ret (.var 1)) .nil)))))
def d__law_counted : Def := ⟨"_law_counted", topS 19, ["pattern"], ["pattern", "found", "part"], ⟨1, 3, b__law_counted⟩⟩
def s_law_0 : S := (.set 1 false (.cell (.cons (.slc (.var 0) .nil (.cons (.con (.int 63)) .nil)) (.cons (.con (.int 0)) (.cons (.con (.int 0)) .nil)))))
def s_law_1 : S := (.set 2 false (.call 11 (.cons (.var 1) (.cons (.lst 0 (.cons (.tup (.cons (.con (.str [120])) (.cons (.con (.str [121])) (.cons (.con (.str [111, 116, 104, 101, 114])) .nil)))) (.cons (.tup (.cons (.con (.str [120])) (.cons (.con (.str [111, 116, 104, 101, 114])) .nil))) (.cons (.tup (.cons (.con (.str [120])) (.cons (.con (.str [121])) .nil))) .nil)))) .nil))))
def s_law_2 : S := (.set 3 false (.call 13 (.cons (.var 1) (.cons (.bin .Add (.bi .list (.var 2)) (.lst 0 (.cons (.con (.str [111, 116, 104, 101, 114])) .nil))) (.cons (.cell (.cons (.bin .Add (.con (.int 1)) (.call 10 (.cons (.var 1) (.cons (.con (.int 7)) .nil)))) .nil)) (.cons (.con (.int 3)) .nil))))))
def s_law_3 : S := (.set 4 false (.call 16 (.cons (.var 3) .nil)))
def s_law_4 : S := (.ife (.or (.cons (.cmp .NotEq (.call 1 (.cons (.var 3) .nil)) (.bi .len (.var 4))) (.cons (.cmp .NotEq (.bi .list (.call 2 (.cons (.var 3) .nil))) (.lc 0 (.nm 9) (.e (.var 4)) (.cons (.isn true (.var 9)) .nil) (.var 9))) .nil))) (.cons (.ret (.con (.bl false))) .nil) .nil)
def s_law_5 : S := (.set 5 false (.call 3 (.cons (.var 3) .nil)))
def s_law_6 : S := (.set 6 false (.bin .Add (.call 15 (.cons (.bi .len (.var 2)) (.cons (.con (.int 4)) .nil))) (.lst 0 (.cons (.bi .tuple (.lc 0 (.nm 10) (.rng1 (.con (.int 9))) .nil (.call 10 (.cons (.var 1) (.cons (.bi .len (.var 2)) .nil))))) .nil))))
def s_law_7a_0 : S := (.set 8 false (.cmp .In (.bi .len (.var 7)) (.call 14 (.cons (.var 3) (.cons (.var 2) (.cons (.var 7) (.cons (.lst 0 (.cons (.con (.int 0)) .nil)) .nil)))))))
def s_law_7a_1 : S := (.ife (.or (.cons (.cmp .NotEq (.call 6 (.cons (.var 3) (.cons (.var 2) (.cons (.var 7) .nil)))) (.var 8)) (.cons (.cmp .NotEq (.call 6 (.cons (.var 5) (.cons (.var 2) (.cons (.rev (.var 7)) .nil)))) (.var 8)) .nil))) (.cons (.ret (.con (.bl false))) .nil) .nil)
def s_law_7a : Ss := (.cons s_law_7a_0 (.cons s_law_7a_1 .nil))
def s_law_7 : S := (.for (.nm 7) (.e (.var 6)) s_law_7a)
def s_law_8 : S := (.ret (.con (.bl true)))
def b_law : Ss := (.cons s_law_0 (.cons s_law_1 (.cons s_law_2 (.cons s_law_3 (.cons s_law_4 (.cons s_law_5 (.cons s_law_6 (.cons s_law_7 (.cons s_law_8 .nil)))))))))
def d_law : Def := ⟨"law", topS 20, ["script"], ["script", "draw", "names", "pattern", "items", "turned", "rows", "row", "due", "name", "at"], ⟨1, 11, b_law⟩⟩
def T : List Def := [d_parts_of, d_items_of, d_names_in, d_reversed_pattern, d_resolved, d_ends_of, d_does_match, d__law_cell_at, d__law_draw, d__law_number, d__law_next, d__law_pick, d__law_item, d__law_pattern, d__law_ends, d__law_all, d__law_counted, d_law]
def C : List Ev.Code := [⟨1, 1, b_parts_of⟩, ⟨1, 2, b_items_of⟩, ⟨1, 3, b_names_in⟩, ⟨1, 3, b_reversed_pattern⟩, ⟨2, 6, b_resolved⟩, ⟨3, 7, b_ends_of⟩, ⟨3, 3, b_does_match⟩, ⟨2, 2, b__law_cell_at⟩, ⟨3, 4, b__law_draw⟩, ⟨3, 7, b__law_number⟩, ⟨2, 4, b__law_next⟩, ⟨2, 2, b__law_pick⟩, ⟨2, 3, b__law_item⟩, ⟨4, 7, b__law_pattern⟩, ⟨4, 10, b__law_ends⟩, ⟨2, 8, b__law_all⟩, ⟨1, 3, b__law_counted⟩, ⟨1, 11, b_law⟩]
def glo : Glo := ⟨["parts_of", "items_of", "names_in", "reversed_pattern", "resolved", "ends_of", "does_match", "_law_cell_at", "_law_draw", "_law_number", "_law_next", "_law_pick", "_law_item", "_law_pattern", "_law_ends", "_law_all", "_law_counted", "law"], [("NOTHING", (.tup [(.str [114, 111, 119]), (.tup [])]))], ["any", "enumerate", "int", "len", "list", "range", "set", "sorted", "sum", "tuple"], []⟩
theorem chk : T.all (chkD glo) = true := by decide +kernel
theorem all_mk {P : Program} {w : World} {K : PySem.W.Frag} {h : Heap} {mg : Str → Option Value} {fa : Addr} {n : Nat} (X : K.In h) (G : h.Ns mainGlobals mg) (hfa : mg "law" = some (.ref fa)) {f0 f1 f2 f3 f4 f5 f6 f7 f8 f9 f10 f11 f12 f13 f14 f15 f16 f17 : Addr}
    {od0 an0 od1 an1 od2 an2 od3 an3 od4 an4 od5 an5 od6 an6 od7 an7 od8 an8 od9 an9 od10 an10 od11 an11 od12 an12 od13 an13 od14 an14 od15 an15 od16 an16 od17 an17 : Option Addr} {sl0 sl1 sl2 sl3 sl4 sl5 sl6 sl7 sl8 sl9 sl10 sl11 sl12 sl13 sl14 sl15 sl16 sl17 : Array (Option Value)} {oc0 kV0 dc0 pm0 cd0 ct0 oc1 kV1 dc1 pm1 cd1 ct1 oc2 kV2 dc2 pm2 cd2 ct2 oc3 kV3 dc3 pm3 cd3 ct3 oc4 kV4 dc4 pm4 cd4 ct4 oc5 kV5 dc5 pm5 cd5 ct5 oc6 kV6 dc6 pm6 cd6 ct6 oc7 kV7 dc7 pm7 cd7 ct7 oc8 kV8 dc8 pm8 cd8 ct8 oc9 kV9 dc9 pm9 cd9 ct9 oc10 kV10 dc10 pm10 cd10 ct10 oc11 kV11 dc11 pm11 cd11 ct11 oc12 kV12 dc12 pm12 cd12 ct12 oc13 kV13 dc13 pm13 cd13 ct13 oc14 kV14 dc14 pm14 cd14 ct14 oc15 kV15 dc15 pm15 cd15 ct15 oc16 kV16 dc16 pm16 cd16 ct16 oc17 kV17 dc17 pm17 cd17 ct17 : Value} {gt0 : Tok} {ga0 ga1 : Addr} {go0 go1 : Option Addr} {gn0 gn1 : Nat} {gs0 gs1 : Array (Option Value)}
    (a0 : PySem.W.nsIn K mainGlobals "parts_of" = some (some (.ref f0))) (l0 : K.lookup f0 = some ⟨oc0, od0, .func (PySem.W.fnOf "parts_of" "parts_of" (defArgs d_parts_of.st) (defBody d_parts_of.st) (defScope d_parts_of.st) .none kV0 dc0 pm0 an0 cd0 ct0), sl0⟩) (c0 : PySem.W.codeIn K cd0 "parts_of" = true) (k0 : PySem.W.keepIn K (.ref f0) = true)
    (a1 : PySem.W.nsIn K mainGlobals "items_of" = some (some (.ref f1))) (l1 : K.lookup f1 = some ⟨oc1, od1, .func (PySem.W.fnOf "items_of" "items_of" (defArgs d_items_of.st) (defBody d_items_of.st) (defScope d_items_of.st) .none kV1 dc1 pm1 an1 cd1 ct1), sl1⟩) (c1 : PySem.W.codeIn K cd1 "items_of" = true) (k1 : PySem.W.keepIn K (.ref f1) = true)
    (a2 : PySem.W.nsIn K mainGlobals "names_in" = some (some (.ref f2))) (l2 : K.lookup f2 = some ⟨oc2, od2, .func (PySem.W.fnOf "names_in" "names_in" (defArgs d_names_in.st) (defBody d_names_in.st) (defScope d_names_in.st) .none kV2 dc2 pm2 an2 cd2 ct2), sl2⟩) (c2 : PySem.W.codeIn K cd2 "names_in" = true) (k2 : PySem.W.keepIn K (.ref f2) = true)
    (a3 : PySem.W.nsIn K mainGlobals "reversed_pattern" = some (some (.ref f3))) (l3 : K.lookup f3 = some ⟨oc3, od3, .func (PySem.W.fnOf "reversed_pattern" "reversed_pattern" (defArgs d_reversed_pattern.st) (defBody d_reversed_pattern.st) (defScope d_reversed_pattern.st) .none kV3 dc3 pm3 an3 cd3 ct3), sl3⟩) (c3 : PySem.W.codeIn K cd3 "reversed_pattern" = true) (k3 : PySem.W.keepIn K (.ref f3) = true)
    (a4 : PySem.W.nsIn K mainGlobals "resolved" = some (some (.ref f4))) (l4 : K.lookup f4 = some ⟨oc4, od4, .func (PySem.W.fnOf "resolved" "resolved" (defArgs d_resolved.st) (defBody d_resolved.st) (defScope d_resolved.st) .none kV4 dc4 pm4 an4 cd4 ct4), sl4⟩) (c4 : PySem.W.codeIn K cd4 "resolved" = true) (k4 : PySem.W.keepIn K (.ref f4) = true)
    (a5 : PySem.W.nsIn K mainGlobals "ends_of" = some (some (.ref f5))) (l5 : K.lookup f5 = some ⟨oc5, od5, .func (PySem.W.fnOf "ends_of" "ends_of" (defArgs d_ends_of.st) (defBody d_ends_of.st) (defScope d_ends_of.st) .none kV5 dc5 pm5 an5 cd5 ct5), sl5⟩) (c5 : PySem.W.codeIn K cd5 "ends_of" = true) (k5 : PySem.W.keepIn K (.ref f5) = true)
    (a6 : PySem.W.nsIn K mainGlobals "does_match" = some (some (.ref f6))) (l6 : K.lookup f6 = some ⟨oc6, od6, .func (PySem.W.fnOf "does_match" "does_match" (defArgs d_does_match.st) (defBody d_does_match.st) (defScope d_does_match.st) .none kV6 dc6 pm6 an6 cd6 ct6), sl6⟩) (c6 : PySem.W.codeIn K cd6 "does_match" = true) (k6 : PySem.W.keepIn K (.ref f6) = true)
    (a7 : PySem.W.nsIn K mainGlobals "_law_cell_at" = some (some (.ref f7))) (l7 : K.lookup f7 = some ⟨oc7, od7, .func (PySem.W.fnOf "_law_cell_at" "_law_cell_at" (defArgs d__law_cell_at.st) (defBody d__law_cell_at.st) (defScope d__law_cell_at.st) .none kV7 dc7 pm7 an7 cd7 ct7), sl7⟩) (c7 : PySem.W.codeIn K cd7 "_law_cell_at" = true) (k7 : PySem.W.keepIn K (.ref f7) = true)
    (a8 : PySem.W.nsIn K mainGlobals "_law_draw" = some (some (.ref f8))) (l8 : K.lookup f8 = some ⟨oc8, od8, .func (PySem.W.fnOf "_law_draw" "_law_draw" (defArgs d__law_draw.st) (defBody d__law_draw.st) (defScope d__law_draw.st) .none kV8 dc8 pm8 an8 cd8 ct8), sl8⟩) (c8 : PySem.W.codeIn K cd8 "_law_draw" = true) (k8 : PySem.W.keepIn K (.ref f8) = true)
    (a9 : PySem.W.nsIn K mainGlobals "_law_number" = some (some (.ref f9))) (l9 : K.lookup f9 = some ⟨oc9, od9, .func (PySem.W.fnOf "_law_number" "_law_number" (defArgs d__law_number.st) (defBody d__law_number.st) (defScope d__law_number.st) .none kV9 dc9 pm9 an9 cd9 ct9), sl9⟩) (c9 : PySem.W.codeIn K cd9 "_law_number" = true) (k9 : PySem.W.keepIn K (.ref f9) = true)
    (a10 : PySem.W.nsIn K mainGlobals "_law_next" = some (some (.ref f10))) (l10 : K.lookup f10 = some ⟨oc10, od10, .func (PySem.W.fnOf "_law_next" "_law_next" (defArgs d__law_next.st) (defBody d__law_next.st) (defScope d__law_next.st) .none kV10 dc10 pm10 an10 cd10 ct10), sl10⟩) (c10 : PySem.W.codeIn K cd10 "_law_next" = true) (k10 : PySem.W.keepIn K (.ref f10) = true)
    (a11 : PySem.W.nsIn K mainGlobals "_law_pick" = some (some (.ref f11))) (l11 : K.lookup f11 = some ⟨oc11, od11, .func (PySem.W.fnOf "_law_pick" "_law_pick" (defArgs d__law_pick.st) (defBody d__law_pick.st) (defScope d__law_pick.st) .none kV11 dc11 pm11 an11 cd11 ct11), sl11⟩) (c11 : PySem.W.codeIn K cd11 "_law_pick" = true) (k11 : PySem.W.keepIn K (.ref f11) = true)
    (a12 : PySem.W.nsIn K mainGlobals "_law_item" = some (some (.ref f12))) (l12 : K.lookup f12 = some ⟨oc12, od12, .func (PySem.W.fnOf "_law_item" "_law_item" (defArgs d__law_item.st) (defBody d__law_item.st) (defScope d__law_item.st) .none kV12 dc12 pm12 an12 cd12 ct12), sl12⟩) (c12 : PySem.W.codeIn K cd12 "_law_item" = true) (k12 : PySem.W.keepIn K (.ref f12) = true)
    (a13 : PySem.W.nsIn K mainGlobals "_law_pattern" = some (some (.ref f13))) (l13 : K.lookup f13 = some ⟨oc13, od13, .func (PySem.W.fnOf "_law_pattern" "_law_pattern" (defArgs d__law_pattern.st) (defBody d__law_pattern.st) (defScope d__law_pattern.st) .none kV13 dc13 pm13 an13 cd13 ct13), sl13⟩) (c13 : PySem.W.codeIn K cd13 "_law_pattern" = true) (k13 : PySem.W.keepIn K (.ref f13) = true)
    (a14 : PySem.W.nsIn K mainGlobals "_law_ends" = some (some (.ref f14))) (l14 : K.lookup f14 = some ⟨oc14, od14, .func (PySem.W.fnOf "_law_ends" "_law_ends" (defArgs d__law_ends.st) (defBody d__law_ends.st) (defScope d__law_ends.st) .none kV14 dc14 pm14 an14 cd14 ct14), sl14⟩) (c14 : PySem.W.codeIn K cd14 "_law_ends" = true) (k14 : PySem.W.keepIn K (.ref f14) = true)
    (a15 : PySem.W.nsIn K mainGlobals "_law_all" = some (some (.ref f15))) (l15 : K.lookup f15 = some ⟨oc15, od15, .func (PySem.W.fnOf "_law_all" "_law_all" (defArgs d__law_all.st) (defBody d__law_all.st) (defScope d__law_all.st) .none kV15 dc15 pm15 an15 cd15 ct15), sl15⟩) (c15 : PySem.W.codeIn K cd15 "_law_all" = true) (k15 : PySem.W.keepIn K (.ref f15) = true)
    (a16 : PySem.W.nsIn K mainGlobals "_law_counted" = some (some (.ref f16))) (l16 : K.lookup f16 = some ⟨oc16, od16, .func (PySem.W.fnOf "_law_counted" "_law_counted" (defArgs d__law_counted.st) (defBody d__law_counted.st) (defScope d__law_counted.st) .none kV16 dc16 pm16 an16 cd16 ct16), sl16⟩) (c16 : PySem.W.codeIn K cd16 "_law_counted" = true) (k16 : PySem.W.keepIn K (.ref f16) = true)
    (a17 : PySem.W.nsIn K mainGlobals "law" = some (some (.ref f17))) (l17 : K.lookup f17 = some ⟨oc17, od17, .func (PySem.W.fnOf "law" "law" (defArgs d_law.st) (defBody d_law.st) (defScope d_law.st) .none kV17 dc17 pm17 an17 cd17 ct17), sl17⟩) (c17 : PySem.W.codeIn K cd17 "law" = true) (k17 : PySem.W.keepIn K (.ref f17) = true)
    (g0 : PySem.W.nsIn K mainGlobals "NOTHING" = some (some (Value.ref ga0)))
    (gl0 : K.lookup ga0 = some ⟨.type "tuple", go0, .seq (List.toArray [(Value.str (sOf [114, 111, 119]) gt0), (Value.ref ga1)]) gn0, gs0⟩)
    (gl1 : K.lookup ga1 = some ⟨.type "tuple", go1, .seq (List.toArray []) gn1, gs1⟩)
    (z0 : PySem.W.nsIn K mainGlobals "any" = some none)
    (z1 : PySem.W.nsIn K mainGlobals "enumerate" = some none)
    (z2 : PySem.W.nsIn K mainGlobals "int" = some none)
    (z3 : PySem.W.nsIn K mainGlobals "len" = some none)
    (z4 : PySem.W.nsIn K mainGlobals "list" = some none)
    (z5 : PySem.W.nsIn K mainGlobals "range" = some none)
    (z6 : PySem.W.nsIn K mainGlobals "set" = some none)
    (z7 : PySem.W.nsIn K mainGlobals "sorted" = some none)
    (z8 : PySem.W.nsIn K mainGlobals "sum" = some none)
    (z9 : PySem.W.nsIn K mainGlobals "tuple" = some none)
    (law : Law C n 17) :
    ∃ fd : FuncData, (∀ (s : Shared) (v : Value), BindsTo s fd ⟨[v], []⟩ [("script", v)]) ∧ ∀ base : Heap, K.In base → base.Ns mainGlobals mg → FnOk P w K mg base (L2.CX P w) n fa fd ["script"] (spL K) := by
  have e := hfa.symm.trans (PySem.W.mg_of X G a17)
  cases e
  have R : RowsOk K mg T _ := (rows_cons (row_mk (d := d_parts_of) (PySem.W.mg_of X G a0) l0 c0 k0 (fun _ _ _ _ _ _ us hl => match us, hl with | [_], _ => rfl)) (rows_cons (row_mk (d := d_items_of) (PySem.W.mg_of X G a1) l1 c1 k1 (fun _ _ _ _ _ _ us hl => match us, hl with | [_], _ => rfl)) (rows_cons (row_mk (d := d_names_in) (PySem.W.mg_of X G a2) l2 c2 k2 (fun _ _ _ _ _ _ us hl => match us, hl with | [_], _ => rfl)) (rows_cons (row_mk (d := d_reversed_pattern) (PySem.W.mg_of X G a3) l3 c3 k3 (fun _ _ _ _ _ _ us hl => match us, hl with | [_], _ => rfl)) (rows_cons (row_mk (d := d_resolved) (PySem.W.mg_of X G a4) l4 c4 k4 (fun _ _ _ _ _ _ us hl => match us, hl with | [_, _], _ => rfl)) (rows_cons (row_mk (d := d_ends_of) (PySem.W.mg_of X G a5) l5 c5 k5 (fun _ _ _ _ _ _ us hl => match us, hl with | [_, _, _], _ => rfl)) (rows_cons (row_mk (d := d_does_match) (PySem.W.mg_of X G a6) l6 c6 k6 (fun _ _ _ _ _ _ us hl => match us, hl with | [_, _, _], _ => rfl)) (rows_cons (row_mk (d := d__law_cell_at) (PySem.W.mg_of X G a7) l7 c7 k7 (fun _ _ _ _ _ _ us hl => match us, hl with | [_, _], _ => rfl)) (rows_cons (row_mk (d := d__law_draw) (PySem.W.mg_of X G a8) l8 c8 k8 (fun _ _ _ _ _ _ us hl => match us, hl with | [_, _, _], _ => rfl)) (rows_cons (row_mk (d := d__law_number) (PySem.W.mg_of X G a9) l9 c9 k9 (fun _ _ _ _ _ _ us hl => match us, hl with | [_, _, _], _ => rfl)) (rows_cons (row_mk (d := d__law_next) (PySem.W.mg_of X G a10) l10 c10 k10 (fun _ _ _ _ _ _ us hl => match us, hl with | [_, _], _ => rfl)) (rows_cons (row_mk (d := d__law_pick) (PySem.W.mg_of X G a11) l11 c11 k11 (fun _ _ _ _ _ _ us hl => match us, hl with | [_, _], _ => rfl)) (rows_cons (row_mk (d := d__law_item) (PySem.W.mg_of X G a12) l12 c12 k12 (fun _ _ _ _ _ _ us hl => match us, hl with | [_, _], _ => rfl)) (rows_cons (row_mk (d := d__law_pattern) (PySem.W.mg_of X G a13) l13 c13 k13 (fun _ _ _ _ _ _ us hl => match us, hl with | [_, _, _, _], _ => rfl)) (rows_cons (row_mk (d := d__law_ends) (PySem.W.mg_of X G a14) l14 c14 k14 (fun _ _ _ _ _ _ us hl => match us, hl with | [_, _, _, _], _ => rfl)) (rows_cons (row_mk (d := d__law_all) (PySem.W.mg_of X G a15) l15 c15 k15 (fun _ _ _ _ _ _ us hl => match us, hl with | [_, _], _ => rfl)) (rows_cons (row_mk (d := d__law_counted) (PySem.W.mg_of X G a16) l16 c16 k16 (fun _ _ _ _ _ _ us hl => match us, hl with | [_], _ => rfl)) (rows_cons (row_mk (d := d_law) (PySem.W.mg_of X G a17) l17 c17 k17 (fun _ _ _ _ _ _ us hl => match us, hl with | [_], _ => rfl)) rows_nil))))))))))))))))))
  have Gl : GlbOk K mg glo.glb := (glb_cons (PySem.W.mg_of X G g0) (vd_tup gl0 (le_line (by simp)) (vdl_cons vd_str (vdl_cons (vd_tup gl1 (le_line (by simp)) vdl_nil) vdl_nil))) glb_nil)
  have B : ∀ x ∈ glo.blt, mg x = none := fun x hx => by
    simp only [glo, List.mem_cons, List.not_mem_nil, or_false] at hx
    rcases hx with rfl | rfl | rfl | rfl | rfl | rfl | rfl | rfl | rfl | rfl
    · exact PySem.W.mg_none_of X G z0
    · exact PySem.W.mg_none_of X G z1
    · exact PySem.W.mg_none_of X G z2
    · exact PySem.W.mg_none_of X G z3
    · exact PySem.W.mg_none_of X G z4
    · exact PySem.W.mg_none_of X G z5
    · exact PySem.W.mg_none_of X G z6
    · exact PySem.W.mg_none_of X G z7
    · exact PySem.W.mg_none_of X G z8
    · exact PySem.W.mg_none_of X G z9
  have M := mod_mk (g := glo) (T := T) R B Gl rfl chk dfl_nil
  exact ⟨_, fun s v => .of_eq rfl, fun base _ _ => law_fn M (n := n) (L := 17) rfl law⟩
end K08

namespace K08
open PySem L2 Ev Pt PtW
theorem exs_two {call : Nat → List D → Sto → R XD} {s : S} {r : Ss} {env env' : List Sl} {O O' : Sto} (h : exs call (.cons s .nil) env O = .nx env' O') : exs call (.cons s r) env O = exs call r env' O' := by
  simp only [exs] at h ⊢
  cases q : ex call s env O with
  | nx e o => rw [q] at h; simp only [Fl.seq_nx] at h; cases h; rfl
  | _ => rw [q] at h; cases h
theorem c0 : C[0]? = some c_parts_of := rfl
theorem c1 : C[1]? = some (c_items_of 1 0) := rfl
theorem c2 : C[2]? = some (c_names_in 2 0) := rfl
theorem c3 : C[3]? = some (c_reversed_pattern 3) := rfl
theorem c4 : C[4]? = some (c_resolved 4) := rfl
theorem c5 : C[5]? = some (c_ends_of 5) := rfl
theorem c6 : C[6]? = some (c_does_match 5 4) := rfl
theorem c12 : C[12]? = some (c__law_item 10 11) := rfl
theorem c13 : C[13]? = some (c__law_pattern 12 10 13 11) := rfl
theorem c14 : C[14]? = some (c__law_ends 14) := rfl
theorem c15 : C[15]? = some c__law_all := rfl
theorem c16 : C[16]? = some (c__law_counted 16) := rfl
theorem c17 : C[17]? = some ⟨1, 11, b_law⟩ := rfl
theorem dw : Dw C 7 8 9 10 11 := ⟨rfl, rfl, rfl, rfl, rfl⟩
/-! plain: what is turned -/
theorem wd_rev {α : Type} : ∀ (k : Nat) (p : P α), ht p ≤ k → wd (rev p) ≤ wd p := by
  intro k
  have wl : ∀ (ps : List (P α)), (∀ q ∈ ps, wd (rev q) ≤ wd q) → wdL (ps.map rev) ≤ wdL ps := by
    intro ps
    induction ps with
    | nil => intro _; exact Nat.le_refl _
    | cons q ps ih =>
      intro h
      have h1 := h q List.mem_cons_self
      have h2 := ih fun q hq => h q (List.mem_cons_of_mem _ hq)
      rw [List.map_cons]
      unfold wdL
      omega
  have wr : ∀ (ps : List (P α)) (m : Nat), (∀ q ∈ ps, wd q ≤ m) → wdL ps ≤ m := by
    intro ps m
    induction ps with
    | nil => intro _; unfold wdL; omega
    | cons q ps ih =>
      intro h
      have h1 := h q List.mem_cons_self
      have h2 := ih fun q hq => h q (List.mem_cons_of_mem _ hq)
      unfold wdL
      omega
  induction k with
  | zero =>
    intro p hp
    cases p with
    | «at» a => unfold rev; exact Nat.le_refl _
    | _ => unfold ht at hp; omega
  | succ k ih =>
    intro p hp
    cases p with
    | «at» a => unfold rev; exact Nat.le_refl _
    | row ps =>
      unfold ht at hp
      have h : ∀ q ∈ ps, wd (rev q) ≤ wd q := fun q hq => ih q (by have := htL_le hq; omega)
      have h2 := wr (ps.map rev).reverse (wdL ps) fun q hq => by
        obtain ⟨p, hp', rfl⟩ := List.mem_map.mp (List.mem_reverse.mp hq)
        have := h p hp'
        have := wdL_le hp'
        omega
      unfold rev wd
      rw [revL_map, List.length_reverse, List.length_map]
      omega
    | eit ps =>
      unfold ht at hp
      have h2 := wl ps fun q hq => ih q (by have := htL_le hq; omega)
      unfold rev wd
      rw [revL_map, List.length_map]
      omega
    | star p => unfold ht at hp; unfold rev wd; exact ih p (by omega)
    | plus p => unfold ht at hp; unfold rev wd; exact ih p (by omega)
    | may p => unfold ht at hp; unfold rev wd; exact ih p (by omega)
theorem hA_rev {nm : List Tx} {rw : List Int} (a : A) (i : Int) : hA nm rw.reverse a (((rw.length : Nat) : Int) - 1 - i) ↔ hA nm rw a i := by
  have out : ∀ (r : List Int) (j : Int), ¬ (0 ≤ j ∧ j < (r.length : Nat)) → ¬ hA nm r a j := fun r j h h2 => h (hAi a j h2)
  by_cases hi : 0 ≤ i ∧ i < (rw.length : Nat)
  · unfold hA hAb
    have e : (((rw.length : Nat) : Int) - 1 - i).toNat = rw.length - 1 - i.toNat := by omega
    rw [e, List.getElem?_reverse (by omega)]
    have e2 : rw.length - 1 - (rw.length - 1 - i.toNat) = i.toNat := by omega
    rw [e2]
    have d1 : decide (0 ≤ ((rw.length : Nat) : Int) - 1 - i) = true := decide_eq_true (by omega)
    have d2 : decide (0 ≤ i) = true := decide_eq_true hi.1
    rw [d1, d2]
  · exact ⟨fun h => (out _ _ (by rw [List.length_reverse]; omega) h).elim, fun h => (out _ _ hi h).elim⟩
theorem M_turn {nm : List Tx} {rw : List Int} (p : P A) : M (hA nm rw.reverse) (rev p) 0 (rw.reverse.length : Nat) ↔ M (hA nm rw) p 0 (rw.length : Nat) := by
  have := M_rev (L := ((rw.length : Nat) : Int)) (h := hA nm rw) (g := hA nm rw.reverse) hA_rev (ht p) p (Nat.le_refl _) 0 (rw.length : Nat)
  rw [List.length_reverse]
  have e1 : ((rw.length : Nat) : Int) - ((rw.length : Nat) : Int) = 0 := by omega
  have e2 : ((rw.length : Nat) : Int) - 0 = (rw.length : Nat) := by omega
  rw [e1, e2] at this
  exact this
/-! the law -/
abbrev Okt (x : Tx) : Prop := ∀ c ∈ x, c < 0x110000
theorem eq_strs {xs : List Tx} (h : ∀ x ∈ xs, Okt x) : eqD (.lst (xs.map .str)) (.lst (xs.map .str)) = some true := by
  have ok : okD 64 (.lst (xs.map D.str)) := by
    show ∀ d ∈ xs.map D.str, okD 63 d
    intro d hd
    obtain ⟨x, hx, rfl⟩ := List.mem_map.mp hd
    exact h x hx
  rw [eqD_ok ok ok]
  congr 1
  show eqvL (xs.map D.str) (xs.map D.str) = true
  clear h ok
  induction xs with
  | nil => rfl
  | cons x xs ih =>
    rw [List.map_cons]
    simp only [eqvL, eqv, ih]
    simp
theorem told (p : P A) : ((ctd p).filter fun o => o.isSome).map eT = (nms p).map .str := by
  unfold ctd nms
  generalize lvs p = l
  induction l with
  | nil => rfl
  | cons a l ih =>
    rw [List.map_cons, List.filter_cons, List.filterMap_cons]
    cases q : tl a with
    | none => simpa using ih
    | some x => simp only [Option.isSome_some, if_true, List.map_cons, ih]; rfl
def NM : List (List Tx) := [[[120], [121], [111, 116, 104, 101, 114]], [[120], [111, 116, 104, 101, 114]], [[120], [121]]]
def nmD (nm : List Tx) : D := .tup (nm.map .str)
section
variable {ns : List Int}
theorem st0 (hl : ns.length ≤ 63) : exs (run C 59) (.cons s_law_0 .nil) [.va (.scr ns), .un, .un, .un, .un, .un, .un, .un, .un, .un, .un] [] = .nx [.va (.scr ns), .va (.obj 0), .un, .un, .un, .un, .un, .un, .un, .un, .un] [.cell [.lst (intsL ns), .int 0, .int 0]] := by
  have s3 := @sz 3 (by decide)
  simp [evq_var, evq_con, evq_glb, evq_bin, evq_neg, evq_cmp, evq_isn, evq_chn, evq_and, evq_or, evq_not, evq_ite, evq_tup, evq_lst, evq_cell, evq_idx, evq_slc, evq_rev, evq_call, evq_callD, evq_tups, evq_lsts, exq_mat, exC, evX, evq_bi, evq_sset, evq_isi, evq_met, evq_lrg, evq_lrg1, evq_lc, evq_lc2, evq_ssc, exq_set, exq_par, exq_unp, exq_aug, exq_seti, exq_app, exq_ext, exq_drop, exq_ret, exq_retv, exq_retN, exq_ife, exq_for, exq_whl, exq_brk, exq_cnt, exq_pas, exq_nev, exq_frz, evA, evO, evs, evB, evC, evI, evT, exs, look, setE, asg_nm, asg_tp, asgs_nil, asgs_cons, T.own, Ts.own, wipeE, fzL, rdL, kidL, parE, vaE, s_law_0, slc_scr, cut_63 ns hl, s3, intsL]
theorem st1 : ∃ nm ∈ NM, exs (run C 59) (.cons s_law_1 .nil) [.va (.scr ns), .va (.obj 0), .un, .un, .un, .un, .un, .un, .un, .un, .un] [.cell [.lst (intsL ns), .int 0, .int 0]] = .nx [.va (.scr ns), .va (.obj 0), .va (nmD nm), .un, .un, .un, .un, .un, .un, .un, .un] [.cell [.lst (intsL ns), .int 0, .int 1]] := by
  obtain ⟨x, hx, h⟩ := run_pick (n := 55) (c := 0) (b0 := 0) (ns := ns) (j := 0) (O := [.cell [.lst (intsL ns), .int 0, .int 0]]) (ds := NM.map nmD) dw.hpi dw.hne dw.hce dw.hnu dw.hdr rfl (Int.le_refl 0) (Int.le_refl 0) (by simp [NM])
  obtain ⟨nm, hn, rfl⟩ := List.mem_map.mp hx
  refine ⟨nm, hn, ?_⟩
  have s3 := @sz 3 (by decide)
  have s2 := @sz 2 (by decide)
  simp only [NM, nmD, List.map_cons, List.map_nil] at h
  have h' : run C 59 11 [.obj 0, .lst [.tup [.str [120], .str [121], .str [111, 116, 104, 101, 114]], .tup [.str [120], .str [111, 116, 104, 101, 114]], .tup [.str [120], .str [121]]]] [.cell [.lst (intsL ns), .int 0, .int 0]] = .ok (.fz (nmD nm)) [.cell [.lst (intsL ns), .int 0, .int 1]] := h
  simp [evq_var, evq_con, evq_glb, evq_bin, evq_neg, evq_cmp, evq_isn, evq_chn, evq_and, evq_or, evq_not, evq_ite, evq_tup, evq_lst, evq_cell, evq_idx, evq_slc, evq_rev, evq_call, evq_callD, evq_tups, evq_lsts, exq_mat, exC, evX, evq_bi, evq_sset, evq_isi, evq_met, evq_lrg, evq_lrg1, evq_lc, evq_lc2, evq_ssc, exq_set, exq_par, exq_unp, exq_aug, exq_seti, exq_app, exq_ext, exq_drop, exq_ret, exq_retv, exq_retN, exq_ife, exq_for, exq_whl, exq_brk, exq_cnt, exq_pas, exq_nev, exq_frz, evA, evO, evs, evB, evC, evI, evT, exs, look, setE, asg_nm, asg_tp, asgs_nil, asgs_cons, T.own, Ts.own, wipeE, fzL, rdL, kidL, parE, vaE, s_law_1, s3, s2, h']
theorem nm_facts {nm : List Tx} (h : nm ∈ NM) : nm.length ≤ 3 ∧ 0 < nm.length ∧ (∀ x ∈ nm, Okt x) ∧ Okt [111, 116, 104, 101, 114] := by
  simp only [NM, List.mem_cons, List.not_mem_nil, or_false] at h
  refine ⟨?_, ?_, ?_, by decide⟩
  · rcases h with rfl | rfl | rfl <;> decide
  · rcases h with rfl | rfl | rfl <;> decide
  · rcases h with rfl | rfl | rfl <;> decide
/-- the drawn pattern -/
theorem st2 {nm : List Tx} (hn : nm ∈ NM) : ∃ p c r, 0 ≤ c ∧ Gp (nm ++ [[111, 116, 104, 101, 114]]) p 4 ∧ exs (run C 59) (.cons s_law_2 .nil) [.va (.scr ns), .va (.obj 0), .va (nmD nm), .un, .un, .un, .un, .un, .un, .un, .un] [.cell [.lst (intsL ns), .int 0, .int 1]] =
    .nx [.va (.scr ns), .va (.obj 0), .va (nmD nm), .va (enc eA p), .un, .un, .un, .un, .un, .un, .un] (PtW.O2 ns c r) := by
  obtain ⟨n1, n2, n3, n4⟩ := nm_facts hn
  obtain ⟨z, z1, z2, hz⟩ := run_next (n := 56) (c := 1) (b := 7) (b0 := 0) (ns := ns) (j := 0) (O := [.cell [.lst (intsL ns), .int 0, .int 1]]) dw.hne dw.hce dw.hnu dw.hdr rfl (Int.le_refl 0) (by decide) (by decide)
  have hz' : run C 59 10 [.obj 0, .int 7] [.cell [.lst (intsL ns), .int 0, .int 1]] = .ok (.fz (.int z)) [.cell [.lst (intsL ns), .int 0, .int 2]] := hz
  obtain ⟨p, c, r, hc, g, hp⟩ := run_pattern dw c12 c13 (nm := nm ++ [[111, 116, 104, 101, 114]]) (by simp) 3 50 3 rfl ns 2 (1 + z) (by decide)
  have bl := bin_lst (s := nm.map D.str) (t := [.str [111, 116, 104, 101, 114]]) (sz (by simp; omega))
  have e : nm.map D.str ++ [.str [111, 116, 104, 101, 114]] = (nm ++ [[111, 116, 104, 101, 114]]).map D.str := by rw [List.map_append]; rfl
  rw [e] at bl
  have hp' : run C 59 13 [.obj 0, .lst ((nm ++ [[111, 116, 104, 101, 114]]).map .str), .obj 1, .int 3] [.cell [.lst (intsL ns), .int 0, .int 2], .cell [.int (1 + z)]] = .ok (.fz (enc eA p)) (PtW.O2 ns c r) := hp
  refine ⟨p, c, r, hc, g, ?_⟩
  have s1 := @sz 1 (by decide)
  generalize (nm ++ [[111, 116, 104, 101, 114]]).map D.str = ds at bl hp'
  unfold nmD
  generalize nm.map D.str = es at bl ⊢
  simp [evq_var, evq_con, evq_glb, evq_bin, evq_neg, evq_cmp, evq_isn, evq_chn, evq_and, evq_or, evq_not, evq_ite, evq_tup, evq_lst, evq_cell, evq_idx, evq_slc, evq_rev, evq_call, evq_callD, evq_tups, evq_lsts, exq_mat, exC, evX, evq_bi, evq_sset, evq_isi, evq_met, evq_lrg, evq_lrg1, evq_lc, evq_lc2, evq_ssc, exq_set, exq_par, exq_unp, exq_aug, exq_seti, exq_app, exq_ext, exq_drop, exq_ret, exq_retv, exq_retN, exq_ife, exq_for, exq_whl, exq_brk, exq_cnt, exq_pas, exq_nev, exq_frz, evA, evO, evs, evB, evC, evI, evT, exs, look, setE, asg_nm, asg_tp, asgs_nil, asgs_cons, T.own, Ts.own, wipeE, fzL, rdL, kidL, parE, vaE, s_law_2, s1, bl, hz', hp']
theorem st3 {nm : List Tx} {p : P A} (g : Gp (nm ++ [[111, 116, 104, 101, 114]]) p 4) (nd : D) (O : Sto) : exs (run C 59) (.cons s_law_3 .nil) [.va (.scr ns), .va (.obj 0), .va nd, .va (enc eA p), .un, .un, .un, .un, .un, .un, .un] O =
    .nx [.va (.scr ns), .va (.obj 0), .va nd, .va (enc eA p), .va (.lst ((ctd p).map eT)), .un, .un, .un, .un, .un, .un] O := by
  obtain ⟨x, hx, lx⟩ := run_counted c16 4 p g.ht (Nat.le_trans g.lv (by decide)) 54 O
  simp [evq_var, evq_con, evq_glb, evq_bin, evq_neg, evq_cmp, evq_isn, evq_chn, evq_and, evq_or, evq_not, evq_ite, evq_tup, evq_lst, evq_cell, evq_idx, evq_slc, evq_rev, evq_call, evq_callD, evq_tups, evq_lsts, exq_mat, exC, evX, evq_bi, evq_sset, evq_isi, evq_met, evq_lrg, evq_lrg1, evq_lc, evq_lc2, evq_ssc, exq_set, exq_par, exq_unp, exq_aug, exq_seti, exq_app, exq_ext, exq_drop, exq_ret, exq_retv, exq_retN, exq_ife, exq_for, exq_whl, exq_brk, exq_cnt, exq_pas, exq_nev, exq_frz, evA, evO, evs, evB, evC, evI, evT, exs, look, setE, asg_nm, asg_tp, asgs_nil, asgs_cons, T.own, Ts.own, wipeE, fzL, rdL, kidL, parE, vaE, s_law_3, hx, lx.slot]
theorem st4 {nm : List Tx} (hn : nm ∈ NM) {p : P A} (g : Gp (nm ++ [[111, 116, 104, 101, 114]]) p 4) (nd : D) (O : Sto) : exs (run C 59) (.cons s_law_4 .nil) [.va (.scr ns), .va (.obj 0), .va nd, .va (enc eA p), .va (.lst ((ctd p).map eT)), .un, .un, .un, .un, .un, .un] O =
    .nx [.va (.scr ns), .va (.obj 0), .va nd, .va (enc eA p), .va (.lst ((ctd p).map eT)), .un, .un, .un, .un, .un, .un] O := by
  obtain ⟨n1, n2, n3, n4⟩ := nm_facts hn
  have l16 : (lvs p).length ≤ 16 := g.lv
  have hi := run_items c1 c0 4 p g.ht (Nat.le_trans g.wd (by decide)) 53 O
  have hm := run_names c2 c0 4 p g.ht (Nat.le_trans g.wd (by decide)) (by omega) 53 O
  have lc := lcS_filt (call := run C 59) (m := 0) (t := .nm 9) (c := .cons (.isn true (.var 9)) .nil) (e := .var 9) (env := [.va (.scr ns), .va (.obj 0), .va nd, .va (enc eA p), .va (.lst ((ctd p).map eT)), .un, .un, .un, .un, .un, .un]) (O := O) (ctd p) eT (fun o => o.isSome) eT (fun o ho => by
    cases o <;> simp [evq_var, evq_con, evq_glb, evq_bin, evq_neg, evq_cmp, evq_isn, evq_chn, evq_and, evq_or, evq_not, evq_ite, evq_tup, evq_lst, evq_cell, evq_idx, evq_slc, evq_rev, evq_call, evq_callD, evq_tups, evq_lsts, exq_mat, exC, evX, evq_bi, evq_sset, evq_isi, evq_met, evq_lrg, evq_lrg1, evq_lc, evq_lc2, evq_ssc, exq_set, exq_par, exq_unp, exq_aug, exq_seti, exq_app, exq_ext, exq_drop, exq_ret, exq_retv, exq_retN, exq_ife, exq_for, exq_whl, exq_brk, exq_cnt, exq_pas, exq_nev, exq_frz, evA, evO, evs, evB, evC, evI, evT, exs, look, setE, asg_nm, asg_tp, asgs_nil, asgs_cons, T.own, Ts.own, wipeE, fzL, rdL, kidL, parE, vaE, eT]) (sz (by unfold ctd; rw [List.length_map]; omega))
  rw [told] at lc
  have eq := eq_strs (xs := nms p) fun x hx => by
    unfold nms at hx
    obtain ⟨a, ha, ht⟩ := List.mem_filterMap.mp hx
    rcases List.mem_append.mp (g.nm a ha x ht) with h | h
    · exact n3 x h
    · rw [List.mem_singleton.mp h]; exact n4
  have el : ((ctd p).map eT).length = (lvs p).length := by unfold ctd; simp
  generalize (nms p).map D.str = ds at hm lc eq
  generalize (ctd p).map eT = es at lc el ⊢
  have hi' : run C 59 1 [enc eA p] O = .ok (.fz (.int (es.length : Nat))) O := by rw [el]; exact hi
  have hm' : run C 59 2 [enc eA p] O = .ok (.ow 1 (.lst ds)) O := hm
  simp [evq_var, evq_con, evq_glb, evq_bin, evq_neg, evq_cmp, evq_isn, evq_chn, evq_and, evq_or, evq_not, evq_ite, evq_tup, evq_lst, evq_cell, evq_idx, evq_slc, evq_rev, evq_call, evq_callD, evq_tups, evq_lsts, exq_mat, exC, evX, evq_bi, evq_sset, evq_isi, evq_met, evq_lrg, evq_lrg1, evq_lc, evq_lc2, evq_ssc, exq_set, exq_par, exq_unp, exq_aug, exq_seti, exq_app, exq_ext, exq_drop, exq_ret, exq_retv, exq_retN, exq_ife, exq_for, exq_whl, exq_brk, exq_cnt, exq_pas, exq_nev, exq_frz, evA, evO, evs, evB, evC, evI, evT, exs, look, setE, asg_nm, asg_tp, asgs_nil, asgs_cons, T.own, Ts.own, wipeE, fzL, rdL, kidL, parE, vaE, s_law_4, hi', hm', lc, eq]
theorem st5 {nm : List Tx} {p : P A} (g : Gp (nm ++ [[111, 116, 104, 101, 114]]) p 4) (nd it : D) (O : Sto) : exs (run C 59) (.cons s_law_5 .nil) [.va (.scr ns), .va (.obj 0), .va nd, .va (enc eA p), .va it, .un, .un, .un, .un, .un, .un] O =
    .nx [.va (.scr ns), .va (.obj 0), .va nd, .va (enc eA p), .va it, .va (enc eA (rev p)), .un, .un, .un, .un, .un] O := by
  have h := run_rev c3 4 p g.ht (Nat.le_trans g.wd (by decide)) 54 O
  simp [evq_var, evq_con, evq_glb, evq_bin, evq_neg, evq_cmp, evq_isn, evq_chn, evq_and, evq_or, evq_not, evq_ite, evq_tup, evq_lst, evq_cell, evq_idx, evq_slc, evq_rev, evq_call, evq_callD, evq_tups, evq_lsts, exq_mat, exC, evX, evq_bi, evq_sset, evq_isi, evq_met, evq_lrg, evq_lrg1, evq_lc, evq_lc2, evq_ssc, exq_set, exq_par, exq_unp, exq_aug, exq_seti, exq_app, exq_ext, exq_drop, exq_ret, exq_retv, exq_retN, exq_ife, exq_for, exq_whl, exq_brk, exq_cnt, exq_pas, exq_nev, exq_frz, evA, evO, evs, evB, evC, evI, evT, exs, look, setE, asg_nm, asg_tp, asgs_nil, asgs_cons, T.own, Ts.own, wipeE, fzL, rdL, kidL, parE, vaE, s_law_5, h]
/-- the rows -/
theorem st6 {nm : List Tx} (hn : nm ∈ NM) (pt it tu : D) {c r : Int} (hc : 0 ≤ c) : ∃ (rs : List (List Int)) (c' : Int), (∀ q ∈ rs, Rw nm q) ∧ 0 ≤ c' ∧ exs (run C 59) (.cons s_law_6 .nil) [.va (.scr ns), .va (.obj 0), .va (nmD nm), .va pt, .va it, .va tu, .un, .un, .un, .un, .un] (PtW.O2 ns c r) =
    .nx [.va (.scr ns), .va (.obj 0), .va (nmD nm), .va pt, .va it, .va tu, .va (.lst (rs.map tI)), .un, .un, .un, .un] (PtW.O2 ns c' r) := by
  obtain ⟨n1, n2, n3, n4⟩ := nm_facts hn
  obtain ⟨rs, gr, lr, ha⟩ := run_all (n := 58) (O := PtW.O2 ns c r) c15 n1 (l := 4) (by decide)
  have ha' : run C 59 15 [.int (nm.length : Nat), .int 4] (PtW.O2 ns c r) = .ok (.fz (.lst (rs.map tI))) (PtW.O2 ns c r) := ha
  have rg : rngX (.int 0) (.int 9) = some (rgL 0 9) := rng_ok (by decide)
  have rl : (rgL 0 9).length = 9 := by rw [rgL_length]; rfl
  obtain ⟨acc, O', e1, q, c', rfl, ql, hq, hc', rfl⟩ := lcS_inv (call := run C 59) (m := 0) (t := .nm 10) (c := .nil) (e := .call 10 (.cons (.var 1) (.cons (.bi .len (.var 2)) .nil))) (env := [.va (.scr ns), .va (.obj 0), .va (nmD nm), .va pt, .va it, .va tu, .un, .un, .un, .un, .un]) (rgL 0 9)
    (fun j acc O => ∃ (q : List Int) (c : Int), acc = q.map D.int ∧ q.length = j ∧ (∀ x ∈ q, 0 ≤ x ∧ x < (nm.length : Nat)) ∧ 0 ≤ c ∧ O = PtW.O2 ns c r) (PtW.O2 ns c r) ⟨[], c, rfl, rfl, fun _ h => (List.not_mem_nil h).elim, hc, rfl⟩
    (fun j d acc O hd ⟨q, c, ea, l, g, hc, eo⟩ => by
      subst ea eo
      obtain ⟨z, z1, z2, hz⟩ := dw.next (n := 56) ns c r (nm.length : Nat) hc (by omega)
      have ln : bi1 .len (nmD nm) = some (.fz (.int (nm.length : Nat))) := by simp [nmD]
      refine ⟨some (.int z), PtW.O2 ns (c + 1) r, ?_, q ++ [z], c + 1, by simp, by simp [l], fun x hx => ?_, by omega, rfl⟩
      · simp [evq_var, evq_con, evq_glb, evq_bin, evq_neg, evq_cmp, evq_isn, evq_chn, evq_and, evq_or, evq_not, evq_ite, evq_tup, evq_lst, evq_cell, evq_idx, evq_slc, evq_rev, evq_call, evq_callD, evq_tups, evq_lsts, exq_mat, exC, evX, evq_bi, evq_sset, evq_isi, evq_met, evq_lrg, evq_lrg1, evq_lc, evq_lc2, evq_ssc, exq_set, exq_par, exq_unp, exq_aug, exq_seti, exq_app, exq_ext, exq_drop, exq_ret, exq_retv, exq_retN, exq_ife, exq_for, exq_whl, exq_brk, exq_cnt, exq_pas, exq_nev, exq_frz, evA, evO, evs, evB, evC, evI, evT, exs, look, setE, asg_nm, asg_tp, asgs_nil, asgs_cons, T.own, Ts.own, wipeE, fzL, rdL, kidL, parE, vaE, ln, hz]
      · rcases List.mem_append.mp hx with hx | hx
        · exact g x hx
        · rw [List.mem_singleton.mp hx]; exact ⟨z1, z2⟩) (sz (by rw [rl]; decide))
  rw [rl] at ql
  have lr5 : rs.length ≤ 243 := lr
  have bl := bin_lst (s := rs.map tI) (t := [tI q]) (sz (by simp; omega))
  have e2 : rs.map tI ++ [tI q] = (rs ++ [q]).map tI := by rw [List.map_append]; rfl
  rw [e2] at bl
  refine ⟨rs ++ [q], c', fun s hs => ?_, hc', ?_⟩
  · rcases List.mem_append.mp hs with hs | hs
    · have := gr s hs
      exact ⟨by omega, this.2⟩
    · rw [List.mem_singleton.mp hs]
      exact ⟨by omega, hq⟩
  · have s1 := @sz 1 (by decide)
    have ln : bi1 .len (nmD nm) = some (.fz (.int (nm.length : Nat))) := by simp [nmD]
    generalize (rs ++ [q]).map tI = G at bl ⊢
    generalize rs.map tI = es at ha' bl
    have bl : binD .Add (.lst es) (.lst [.tup (q.map .int)]) = some (.ow 1 (.lst G)) := bl
    generalize q.map D.int = qs at e1 bl
    generalize rgL 0 9 = ds at e1 rg
    simp [evq_var, evq_con, evq_glb, evq_bin, evq_neg, evq_cmp, evq_isn, evq_chn, evq_and, evq_or, evq_not, evq_ite, evq_tup, evq_lst, evq_cell, evq_idx, evq_slc, evq_rev, evq_call, evq_callD, evq_tups, evq_lsts, exq_mat, exC, evX, evq_bi, evq_sset, evq_isi, evq_met, evq_lrg, evq_lrg1, evq_lc, evq_lc2, evq_ssc, exq_set, exq_par, exq_unp, exq_aug, exq_seti, exq_app, exq_ext, exq_drop, exq_ret, exq_retv, exq_retN, exq_ife, exq_for, exq_whl, exq_brk, exq_cnt, exq_pas, exq_nev, exq_frz, evA, evO, evs, evB, evC, evI, evT, exs, look, setE, asg_nm, asg_tp, asgs_nil, asgs_cons, T.own, Ts.own, wipeE, fzL, rdL, kidL, parE, vaE, s_law_6, ln, ha', rg, e1, s1, bl]
/-- a row is judged alike -/
theorem st7 {nm : List Tx} (hn : nm ∈ NM) {p : P A} (g : Gp (nm ++ [[111, 116, 104, 101, 114]]) p 4) (it : D) {rs : List (List Int)} (hr : ∀ q ∈ rs, Rw nm q) (O : Sto) : ∃ env', exs (run C 59) (.cons s_law_7 .nil) [.va (.scr ns), .va (.obj 0), .va (nmD nm), .va (enc eA p), .va it, .va (enc eA (rev p)), .va (.lst (rs.map tI)), .un, .un, .un, .un] O = .nx env' O := by
  obtain ⟨n1, n2, n3, n4⟩ := nm_facts hn
  have hnm : Nms (nmD nm) nm := .inl rfl
  have w60 : wd p ≤ 60 := Nat.le_trans g.wd (by decide)
  obtain ⟨s', hf, _⟩ := forS_rel (call := run C 59) (t := .nm 7) (b := s_law_7a) tI (S := Sl × Sl) (fun s => [.va (.scr ns), .va (.obj 0), .va (nmD nm), .va (enc eA p), .va it, .va (enc eA (rev p)), .va (.lst (rs.map tI)), s.1, s.2, .un, .un]) (fun _ => O)
    (fun _ r => ∀ q ∈ r, q ∈ rs)
    (fun s q r hq => by
      have hq1 := hr q (hq q List.mem_cons_self)
      have hq2 : Rw nm q.reverse := ⟨by rw [List.length_reverse]; exact hq1.1, fun x hx => hq1.2 x (List.mem_reverse.mp hx)⟩
      have hB : Pl q.length [0] := ⟨List.pairwise_singleton _ _, fun b hb => by rw [List.mem_singleton.mp hb]; omega⟩
      obtain ⟨x, hx, lx⟩ := run_lawEnds c14 hnm hq1 4 p g.ht w60 54 O [0] hB
      obtain ⟨b1, h1, e1⟩ := run_match c6 c4 c5 hnm (by omega) hq1 g.ht w60 48 O
      obtain ⟨b2, h2, e2⟩ := run_match c6 c4 c5 hnm (by omega) hq2 (p := rev p) (Nat.le_trans (ht_rev 4 p g.ht) g.ht) (Nat.le_trans (wd_rev 4 p g.ht) w60) 48 O
      rw [M_turn] at e2
      have e12 : b2 = b1 := by
        rw [Bool.eq_iff_iff, e1, e2]
      subst e12
      have il := @in_lI ((q.length : Nat) : Int) (im q.length (M (hA nm q) p) [0])
      have e3 : decide (((q.length : Nat) : Int) ∈ im q.length (M (hA nm q) p) [0]) = b2 := by
        rw [Bool.eq_iff_iff, e1, decide_eq_true_eq, (im_ok (M_le (hAi (nm := nm)) (p := p) hB)).2]
        simp
      rw [e3] at il
      have rd := lx.rdd
      have rv : revD (tI q) = some (.fz (tI q.reverse)) := by
        show some (XD.fz (.tup (q.map D.int).reverse)) = _
        rw [← List.map_reverse]
      have hx' : run C 59 14 [enc eA p, nmD nm, tI q, .lst [.int 0]] O = .ok x O := hx
      have h1' : run C 59 6 [enc eA p, nmD nm, tI q] O = .ok (.fz (.bl b2)) O := h1
      have h2' : run C 59 6 [enc eA (rev p), nmD nm, tI q.reverse] O = .ok (.fz (.bl b2)) O := h2
      refine ⟨(.va (tI q), .va (.bl b2)), ?_, fun r hr => hq r (List.mem_cons_of_mem _ hr)⟩
      have s1 := @sz 1 (by decide)
      have ln : bi1 .len (tI q) = some (.fz (.int (q.length : Nat))) := by simp
      simp only [lI] at il rd
      generalize (im q.length (M (hA nm q) p) [0]).map D.int = ds at il rd
      generalize tI q.reverse = qr at rv h2'
      generalize tI q = qd at rv hx' h1' ln ⊢
      generalize rs.map tI = es
      simp [evq_var, evq_con, evq_glb, evq_bin, evq_neg, evq_cmp, evq_isn, evq_chn, evq_and, evq_or, evq_not, evq_ite, evq_tup, evq_lst, evq_cell, evq_idx, evq_slc, evq_rev, evq_call, evq_callD, evq_tups, evq_lsts, exq_mat, exC, evX, evq_bi, evq_sset, evq_isi, evq_met, evq_lrg, evq_lrg1, evq_lc, evq_lc2, evq_ssc, exq_set, exq_par, exq_unp, exq_aug, exq_seti, exq_app, exq_ext, exq_drop, exq_ret, exq_retv, exq_retN, exq_ife, exq_for, exq_whl, exq_brk, exq_cnt, exq_pas, exq_nev, exq_frz, evA, evO, evs, evB, evC, evI, evT, exs, look, setE, asg_nm, asg_tp, asgs_nil, asgs_cons, T.own, Ts.own, wipeE, fzL, rdL, kidL, parE, vaE, s_law_7a, s_law_7a_0, s_law_7a_1, s1, ln, hx', h1', h2', rd, il, rv])
    rs (.un, .un) (fun _ h => h)
  refine ⟨[.va (.scr ns), .va (.obj 0), .va (nmD nm), .va (enc eA p), .va it, .va (enc eA (rev p)), .va (.lst (rs.map tI)), s'.1, s'.2, .un, .un], ?_⟩
  generalize rs.map tI = es at hf ⊢
  simp [evq_var, evq_con, evq_glb, evq_bin, evq_neg, evq_cmp, evq_isn, evq_chn, evq_and, evq_or, evq_not, evq_ite, evq_tup, evq_lst, evq_cell, evq_idx, evq_slc, evq_rev, evq_call, evq_callD, evq_tups, evq_lsts, exq_mat, exC, evX, evq_bi, evq_sset, evq_isi, evq_met, evq_lrg, evq_lrg1, evq_lc, evq_lc2, evq_ssc, exq_set, exq_par, exq_unp, exq_aug, exq_seti, exq_app, exq_ext, exq_drop, exq_ret, exq_retv, exq_retN, exq_ife, exq_for, exq_whl, exq_brk, exq_cnt, exq_pas, exq_nev, exq_frz, evA, evO, evs, evB, evC, evI, evT, exs, look, setE, asg_nm, asg_tp, asgs_nil, asgs_cons, T.own, Ts.own, wipeE, fzL, rdL, kidL, parE, vaE, s_law_7, hf]
theorem law_plain : Law C 60 17 := by
  intro ns hl hb
  rw [run_at c17 rfl]
  obtain ⟨nm, hn, e1⟩ := st1 (ns := ns)
  obtain ⟨p, c, r, hc, g, e2⟩ := st2 (ns := ns) hn
  obtain ⟨rs, c', hr, hc', e6⟩ := st6 (ns := ns) hn (enc eA p) (.lst ((ctd p).map eT)) (enc eA (rev p)) (r := r) hc
  obtain ⟨env', e7⟩ := st7 (ns := ns) hn g (.lst ((ctd p).map eT)) hr (PtW.O2 ns c' r)
  refine ⟨PtW.O2 ns c' r, ?_⟩
  show (exs (run C 59) b_law [.va (.scr ns), .un, .un, .un, .un, .un, .un, .un, .un, .un, .un] []).out = _
  unfold b_law
  rw [exs_two (st0 hl), exs_two e1, exs_two e2, exs_two (st3 g _ _), exs_two (st4 hn g _ _), exs_two (st5 g _ _ _), exs_two e6, exs_two e7]
  simp [evq_var, evq_con, evq_glb, evq_bin, evq_neg, evq_cmp, evq_isn, evq_chn, evq_and, evq_or, evq_not, evq_ite, evq_tup, evq_lst, evq_cell, evq_idx, evq_slc, evq_rev, evq_call, evq_callD, evq_tups, evq_lsts, exq_mat, exC, evX, evq_bi, evq_sset, evq_isi, evq_met, evq_lrg, evq_lrg1, evq_lc, evq_lc2, evq_ssc, exq_set, exq_par, exq_unp, exq_aug, exq_seti, exq_app, exq_ext, exq_drop, exq_ret, exq_retv, exq_retN, exq_ife, exq_for, exq_whl, exq_brk, exq_cnt, exq_pas, exq_nev, exq_frz, evA, evO, evs, evB, evC, evI, evT, exs, look, setE, asg_nm, asg_tp, asgs_nil, asgs_cons, T.own, Ts.own, wipeE, fzL, rdL, kidL, parE, vaE, s_law_8]
end
end K08

open PySem PySem.W PyProof.Rows
set_option maxHeartbeats 0 in
theorem PySem.Challenge.cw_cutsanywhere_k08_whole_patterns_holds : PySem.Challenge.rw_cutsanywhere_k08_whole_patterns.Holds := by
  w_on; o_law; k_head; (case hw => w_witness2)
  k_fill
  refine L2.walk_ofB (l := PySem.Challenge.rw_cutsanywhere_k08_whole_patterns) (n := 63) (k := 60) (x := "script") (CX := fun w => L2.CX PySem.Challenge.pw_cutsanywhere_k08_whole_patterns w) (sp := fun w => Ev.spL _) rfl (by decide) rfl ⟨rfl, by decide, by decide⟩ (fun w h Y => PySem.W.kIn_of Y) ?F (fun _ _ a ns hl hb _ hS => ⟨a, ns, rfl, hS, hl, hb, fun _ => rfl⟩) (fun _ H s e s' h => Ev.nox H s e s' h)
  case F =>
    intro w mg fa h KX G hmg
    refine' K08.all_mk KX G hmg ?q_a0 ?q_l0 ?q_c0 ?q_k0 ?q_a1 ?q_l1 ?q_c1 ?q_k1 ?q_a2 ?q_l2 ?q_c2 ?q_k2 ?q_a3 ?q_l3 ?q_c3 ?q_k3 ?q_a4 ?q_l4 ?q_c4 ?q_k4 ?q_a5 ?q_l5 ?q_c5 ?q_k5 ?q_a6 ?q_l6 ?q_c6 ?q_k6 ?q_a7 ?q_l7 ?q_c7 ?q_k7 ?q_a8 ?q_l8 ?q_c8 ?q_k8 ?q_a9 ?q_l9 ?q_c9 ?q_k9 ?q_a10 ?q_l10 ?q_c10 ?q_k10 ?q_a11 ?q_l11 ?q_c11 ?q_k11 ?q_a12 ?q_l12 ?q_c12 ?q_k12 ?q_a13 ?q_l13 ?q_c13 ?q_k13 ?q_a14 ?q_l14 ?q_c14 ?q_k14 ?q_a15 ?q_l15 ?q_c15 ?q_k15 ?q_a16 ?q_l16 ?q_c16 ?q_k16 ?q_a17 ?q_l17 ?q_c17 ?q_k17 ?q_g0 ?q_gl0 ?q_gl1 ?q_z0 ?q_z1 ?q_z2 ?q_z3 ?q_z4 ?q_z5 ?q_z6 ?q_z7 ?q_z8 ?q_z9 K08.law_plain
    (case q_a0 => k_is); (case q_l0 => k_is); (case q_c0 => k_is); (case q_k0 => k_is); (case q_a1 => k_is); (case q_l1 => k_is); (case q_c1 => k_is); (case q_k1 => k_is); (case q_a2 => k_is); (case q_l2 => k_is); (case q_c2 => k_is); (case q_k2 => k_is); (case q_a3 => k_is); (case q_l3 => k_is); (case q_c3 => k_is); (case q_k3 => k_is); (case q_a4 => k_is); (case q_l4 => k_is); (case q_c4 => k_is); (case q_k4 => k_is); (case q_a5 => k_is); (case q_l5 => k_is); (case q_c5 => k_is); (case q_k5 => k_is); (case q_a6 => k_is); (case q_l6 => k_is); (case q_c6 => k_is); (case q_k6 => k_is); (case q_a7 => k_is); (case q_l7 => k_is); (case q_c7 => k_is); (case q_k7 => k_is); (case q_a8 => k_is); (case q_l8 => k_is); (case q_c8 => k_is); (case q_k8 => k_is); (case q_a9 => k_is); (case q_l9 => k_is); (case q_c9 => k_is); (case q_k9 => k_is); (case q_a10 => k_is); (case q_l10 => k_is); (case q_c10 => k_is); (case q_k10 => k_is); (case q_a11 => k_is); (case q_l11 => k_is); (case q_c11 => k_is); (case q_k11 => k_is); (case q_a12 => k_is); (case q_l12 => k_is); (case q_c12 => k_is); (case q_k12 => k_is); (case q_a13 => k_is); (case q_l13 => k_is); (case q_c13 => k_is); (case q_k13 => k_is); (case q_a14 => k_is); (case q_l14 => k_is); (case q_c14 => k_is); (case q_k14 => k_is); (case q_a15 => k_is); (case q_l15 => k_is); (case q_c15 => k_is); (case q_k15 => k_is); (case q_a16 => k_is); (case q_l16 => k_is); (case q_c16 => k_is); (case q_k16 => k_is); (case q_a17 => k_is); (case q_l17 => k_is); (case q_c17 => k_is); (case q_k17 => k_is); (case q_g0 => k_is); (case q_gl0 => k_is); (case q_gl1 => k_is); (case q_z0 => k_is); (case q_z1 => k_is); (case q_z2 => k_is); (case q_z3 => k_is); (case q_z4 => k_is); (case q_z5 => k_is); (case q_z6 => k_is); (case q_z7 => k_is); (case q_z8 => k_is); (case q_z9 => k_is)
