import PyProof.Rows.All
import Wide.All
import OpenK.AllK
import Wide.FinOn
import HandS.ForMost
import HandS.Deep
import HandS.Wide
import HandS.WideBits
import HandS.TupAny
import HandS.TupMul
import HandS.Style
import HandS.IsInst
import HandS.Zip
import HandS.Defaults
import KE.SortData
import HandS.TupLe
import KE.GoesMore
import HandS.Walk
import HandS.Conv
import KE.KUnpack
import HandS.DictComp
import HandS.EndBits
import HandS.HeadEnd
import HandS.HeadHook2
import KE.KStateDown
import HandS.Head0
import HandS.Head1
import HandS.Head2
import PySem.Challenge.RW_spokenalike_k85_whole_coming_to_a_lot_by

section
set_option Elab.async false
set_option linter.all false
set_option maxRecDepth 100000
/-! PLa: the pure layer's syntax, its data, what holds a state. -/
namespace PL
open PySem PySem.Spec PyProof.Rows L2

/-! ### syntax -/
inductive Bi where
  | abs | min2 | max2 | sum | list | tuple | int | repr | sorted | all | any | len
  deriving DecidableEq
inductive Kd where
  | bool | int | str | list | tuple | dict
  deriving DecidableEq
inductive G where
  | name (i : Nat)
  | tup (is : List Nat)

mutual
inductive P where
  | var (i : Nat)
  | mv (i : Nat)
  | pr (a b : P)
  | int (n : Int)
  | bl (b : Bool)
  | non
  | str (x : Str)
  | glob (x : Str)
  | bin (o : Operator) (a b : P)
  | neg (a : P)
  | cmp (o : CmpOp) (a b : P)
  | cmpB (o : CmpOp) (a : P) (i : Nat)
  | cmpL (o : CmpOp) (i : Nat) (b : P)
  | chain (o o2 : CmpOp) (a b c : P)
  | and (a b : P)
  | or (a b : P)
  | not (a : P)
  | ife (t : T) (a b : P)
  | tup (as : As)
  | lst (as : As)
  | ix (a b : P)
  | ixB (i : Nat) (b : P)
  | slc (a : P) (lo hi : As)
  | rev (a : P)
  | call (x : Str) (nd : Nat) (as : As)
  | callK (x : Str) (ks : List Str) (as : As)
  | callW (x : Str) (i : Nat) (as : As)
  | bi (b : Bi) (as : As)
  | lenB (i : Nat)
  | isi (ks : List Kd) (a : P)
  | lc (own : List Nat) (it : It) (g : G) (ts : Ts) (e : P)
  | index (a b : P)
  | fz (a : P)
  | dnew
  | dget (a k x : P)
  | dgetB (i : Nat) (k x : P)
  | dc (own : List Nat) (it : It) (g : G) (ts : Ts) (k v : P)
  | lc2 (own own1 : List Nat) (it : It) (g : G) (ts : Ts) (it1 : It) (g1 : G) (ts1 : Ts) (e : P)
  | pop (i : Nat) (k : P)
  | rgl1 (t : Bool) (a : P)
  | rgl2 (t : Bool) (a b : P)
inductive T where
  | val (a : P)
  | cmp (o : CmpOp) (a b : P)
  | cmpB (o : CmpOp) (a : P) (i : Nat)
  | cmpL (o : CmpOp) (i : Nat) (b : P)
  | chain (o o2 : CmpOp) (a b c : P)
  | and (a b : T)
  | or (a b : T)
  | not (a : T)
inductive As where
  | nil
  | cons (a : P) (r : As)
inductive Ts where
  | nil
  | one (t : T)
inductive It where
  | seq (a : P)
  | rng1 (a : P)
  | rng2 (a b : P)
  | rng3 (a b c : P)
  | enum (a : P)
  | zip (a b : P)
  | keys (a : P)
  | items (a : P)
end
inductive S where
  | skip
  | seq (a b : S)
  | set (i : Nat) (e : P)
  | setF (i : Nat) (e : P)
  | par (is : List Nat) (as : As)
  | unp (is : List Nat) (e : P)
  | ite (t : T) (a b : S)
  | whl (t : T) (b : S)
  | for_ (g : G) (it : It) (b : S)
  | ret (e : P)
  | expr (e : P)
  | app (i : Nat) (e : P)
  | ext (i : Nat) (e : P)
  | setIx (i : Nat) (k e : P)
  | upd (i : Nat) (e : P)
  | tmp (i : Nat) (e : P) (t : T) (r : P)
  | brk
  | cnt
  | never

/-! ### data -/
abbrev D := PyData
inductive Sl where
  | un
  | sh (d : D)
  | ow (d : D)
  | io (d : D)
  | tp (x d : D)
def Sl.d : Sl → D
  | .un => .none
  | .sh d => d
  | .ow d => d
  | .io d => d
  | .tp x d => .tuple [x, d]
/-- as it is stored -/
def Sl.st : Sl → Sl
  | .tp x d => .sh (.tuple [x, d])
  | r => r
abbrev Ev := List Sl
inductive Out where
  | nx (e : Ev)
  | rt (r : Sl) (e : Ev)
  | bk (e : Ev)
  | ct (e : Ev)

def kD : Key → D
  | .inl i => .int i
  | .inr x => .str x
mutual
inductive Rp (K : PySem.W.Frag) (H : Hp) : V → D → Prop
  | non : Rp K H .non .none
  | bl (b : Bool) : Rp K H (.bl b) (.bool b)
  | int (i : Int) : Rp K H (.int i) (.int i)
  | str (x : Str) : Rp K H (.str x) (.str x)
  | lst {a : Addr} {xs : List V} {ds : List D} : Rd H a (.lst xs) → xs.length ≤ sizeLine → RpAll K H xs ds → Rp K H (.ref a) (.list ds)
  | tup {a : Addr} {xs : List V} {ds : List D} : SqT K H a xs → xs.length ≤ sizeLine → RpAll K H xs ds → Rp K H (.ref a) (.tuple ds)
  | dk {a : Addr} {kvs : List (Key × V)} {es : List (D × D)} : Rd H a (.dK kvs) → kvs.length ≤ sizeLine → RpDk K H kvs es → Rp K H (.ref a) (.dict es)
inductive RpAll (K : PySem.W.Frag) (H : Hp) : List V → List D → Prop
  | nil : RpAll K H [] []
  | cons {v : V} {vs : List V} {d : D} {ds : List D} : Rp K H v d → RpAll K H vs ds → RpAll K H (v :: vs) (d :: ds)
inductive RpDk (K : PySem.W.Frag) (H : Hp) : List (Key × V) → List (D × D) → Prop
  | nil : RpDk K H [] []
  | cons {k : Key} {v : V} {vs : List (Key × V)} {d : D} {ds : List (D × D)} : Rp K H v d → RpDk K H vs ds → RpDk K H ((k, v) :: vs) ((kD k, d) :: ds)
end

/-- w is u, or u locked: a dict that is gone through -/
def Up (u w : HO) : Prop := w = u ∨ (∃ o kvs, u = .dK kvs ∧ w = .frz o (.dK kvs)) ∨ ∃ o kvs, u = .dT kvs ∧ w = .frz o (.dT kvs)
theorem Up.refl (u : HO) : Up u u := .inl rfl
theorem Up.trans {u v w : HO} (h : Up u v) (h' : Up v w) : Up u w := by
  rcases h with rfl | ⟨o, kvs, rfl, rfl⟩ | ⟨o, kvs, rfl, rfl⟩
  · exact h'
  · rcases h' with rfl | ⟨o', kvs', e, rfl⟩ | ⟨o', kvs', e, rfl⟩
    · exact .inr (.inl ⟨o, kvs, rfl, rfl⟩)
    · cases e
    · cases e
  · rcases h' with rfl | ⟨o', kvs', e, rfl⟩ | ⟨o', kvs', e, rfl⟩
    · exact .inr (.inr ⟨o, kvs, rfl, rfl⟩)
    · cases e
    · cases e
theorem Up.lst {xs : List V} {w : HO} (h : Up (.lst xs) w) : w = .lst xs := by
  rcases h with rfl | ⟨o, kvs, e, _⟩ | ⟨o, kvs, e, _⟩
  · rfl
  · cases e
  · cases e
theorem Up.tup {xs : List V} {w : HO} (h : Up (.tup xs) w) : w = .tup xs := by
  rcases h with rfl | ⟨o, kvs, e, _⟩ | ⟨o, kvs, e, _⟩
  · rfl
  · cases e
  · cases e
theorem Up.toTup {xs : List V} {u : HO} (h : Up u (.tup xs)) : u = .tup xs := by
  rcases h with h | ⟨o, kvs, _, h⟩ | ⟨o, kvs, _, h⟩
  · exact h.symm
  · cases h
  · cases h
theorem Up.frz {o : Obj} {u w : HO} (h : Up (.frz o u) w) : w = .frz o u := by
  rcases h with rfl | ⟨o, kvs, e, _⟩ | ⟨o, kvs, e, _⟩
  · rfl
  · cases e
  · cases e
/-- what stands in F stands in H, some of it locked -/
def Sam (F H : Hp) : Prop := ∀ a u, F a = some u → ∃ w, H a = some w ∧ Up u w
theorem Sam.refl (F : Hp) : Sam F F := fun _ u h => ⟨u, h, .refl u⟩
theorem Sam.trans {F G H : Hp} (s : Sam F G) (t : Sam G H) : Sam F H := fun a u h => by
  obtain ⟨v, h1, u1⟩ := s a u h
  obtain ⟨w, h2, u2⟩ := t a v h1
  exact ⟨w, h2, u1.trans u2⟩
theorem Sam.free {F H : Hp} (s : Sam F H) {a : Addr} (h : H a = none) : F a = none := by
  cases q : F a with
  | none => rfl
  | some u =>
    obtain ⟨w, h1, _⟩ := s a u q
    rw [h] at h1; cases h1
theorem Sam.of {F H : Hp} (h : ∀ a u, F a = some u → H a = some u) : Sam F H := fun a u e => ⟨u, h a u e, .refl u⟩
theorem Sam.tup {F H : Hp} (s : Sam F H) {a : Addr} {xs : List V} (h : F a = some (.tup xs)) : H a = some (.tup xs) := by
  obtain ⟨w, h1, u⟩ := s a _ h
  rw [h1, u.tup]
theorem Sam.lst {F H : Hp} (s : Sam F H) {a : Addr} {xs : List V} (h : F a = some (.lst xs)) : H a = some (.lst xs) := by
  obtain ⟨w, h1, u⟩ := s a _ h
  rw [h1, u.lst]
theorem Rd.same {F H : Hp} {a : Addr} {u : HO} (s : Sam F H) (h : Rd F a u) : Rd H a u := by
  rcases h with h | ⟨o, h⟩
  · obtain ⟨w, h1, p⟩ := s _ _ h
    rcases p with rfl | ⟨o, kvs, rfl, rfl⟩ | ⟨o, kvs, rfl, rfl⟩
    · exact .inl h1
    · exact .inr ⟨o, h1⟩
    · exact .inr ⟨o, h1⟩
  · obtain ⟨w, h1, p⟩ := s _ _ h
    rw [p.frz] at h1
    exact .inr ⟨o, h1⟩
theorem sqT_same {K : PySem.W.Frag} {H H' : Hp} {a : Addr} {xs : List V} (e : Sam H H') (h : SqT K H a xs) : SqT K H' a xs := by
  rcases h with h | h
  · exact .inl (Rd.same e h)
  · exact .inr h
section
variable {K : PySem.W.Frag} {F H : Hp}
mutual
theorem Rp.mono (s : Sam F H) : ∀ {v : V} {d : D}, Rp K F v d → Rp K H v d
  | _, _, .non => .non
  | _, _, .bl b => .bl b
  | _, _, .int i => .int i
  | _, _, .str x => .str x
  | _, _, .lst a z c => .lst (Rd.same s a) z (RpAll.mono s c)
  | _, _, .tup a z c => .tup (sqT_same s a) z (RpAll.mono s c)
  | _, _, .dk a z c => .dk (Rd.same s a) z (RpDk.mono s c)
theorem RpAll.mono (s : Sam F H) : ∀ {v : List V} {d : List D}, RpAll K F v d → RpAll K H v d
  | _, _, .nil => .nil
  | _, _, .cons a b => .cons (Rp.mono s a) (RpAll.mono s b)
theorem RpDk.mono (s : Sam F H) : ∀ {v : List (Key × V)} {d : List (D × D)}, RpDk K F v d → RpDk K H v d
  | _, _, .nil => .nil
  | _, _, .cons a b => .cons (Rp.mono s a) (RpDk.mono s b)
end
theorem RpAll.length : ∀ {vs : List V} {ds : List D}, RpAll K F vs ds → vs.length = ds.length
  | _, _, .nil => rfl
  | _, _, .cons _ b => by simp [RpAll.length b]
theorem RpAll.get : ∀ {vs : List V} {ds : List D} {i : Nat} {d : D}, RpAll K F vs ds → ds[i]? = some d → ∃ v, vs[i]? = some v ∧ Rp K F v d
  | _, _, _, _, .nil, h => by simp at h
  | _, _, 0, _, .cons a _, h => by
    simp at h; subst h; exact ⟨_, rfl, a⟩
  | _, _, i + 1, _, .cons _ b, h => by
    obtain ⟨v, e, r⟩ := RpAll.get (i := i) b (by simpa using h)
    exact ⟨v, by simpa using e, r⟩
theorem RpAll.getV : ∀ {vs : List V} {ds : List D} {i : Nat} {v : V}, RpAll K F vs ds → vs[i]? = some v → ∃ d, ds[i]? = some d ∧ Rp K F v d
  | _, _, _, _, .nil, h => by simp at h
  | _, _, 0, _, .cons a _, h => by
    simp at h; subst h; exact ⟨_, rfl, a⟩
  | _, _, i + 1, _, .cons _ b, h => by
    obtain ⟨v, e, r⟩ := RpAll.getV (i := i) b (by simpa using h)
    exact ⟨v, by simpa using e, r⟩
theorem RpAll.append : ∀ {vs ws : List V} {ds es : List D}, RpAll K F vs ds → RpAll K F ws es → RpAll K F (vs ++ ws) (ds ++ es)
  | _, _, _, _, .nil, h => h
  | _, _, _, _, .cons a b, h => .cons a (RpAll.append b h)
theorem RpAll.take (n : Nat) : ∀ {vs : List V} {ds : List D}, RpAll K F vs ds → RpAll K F (vs.take n) (ds.take n) := by
  induction n with
  | zero => intro vs ds _; simp; exact .nil
  | succ n ih =>
    intro vs ds h
    cases h with
    | nil => simp; exact .nil
    | cons a b => simp; exact .cons a (ih b)
theorem RpAll.drop (n : Nat) : ∀ {vs : List V} {ds : List D}, RpAll K F vs ds → RpAll K F (vs.drop n) (ds.drop n) := by
  induction n with
  | zero => intro vs ds h; simpa using h
  | succ n ih =>
    intro vs ds h
    cases h with
    | nil => simp; exact .nil
    | cons a b => simpa using ih b
theorem RpAll.reverse : ∀ {vs : List V} {ds : List D}, RpAll K F vs ds → RpAll K F vs.reverse ds.reverse
  | _, _, .nil => .nil
  | _, _, .cons a b => by
    simp only [List.reverse_cons]
    exact (RpAll.reverse b).append (.cons a .nil)
theorem RpAll.set (i : Nat) {v : V} {d : D} (r : Rp K F v d) : ∀ {vs : List V} {ds : List D}, RpAll K F vs ds → RpAll K F (vs.set i v) (ds.set i d) := by
  induction i with
  | zero =>
    intro vs ds h
    cases h with
    | nil => exact .nil
    | cons a b => exact .cons r b
  | succ n ih =>
    intro vs ds h
    cases h with
    | nil => exact .nil
    | cons a b => exact .cons a (ih b)
theorem RpAll.eraseIdx (i : Nat) : ∀ {vs : List V} {ds : List D}, RpAll K F vs ds → RpAll K F (vs.eraseIdx i) (ds.eraseIdx i) := by
  induction i with
  | zero =>
    intro vs ds h
    cases h with
    | nil => exact .nil
    | cons a b => exact b
  | succ n ih =>
    intro vs ds h
    cases h with
    | nil => exact .nil
    | cons a b => exact .cons a (ih b)
theorem RpAll.rep {vs : List V} {ds : List D} (h : RpAll K F vs ds) : ∀ k : Nat, RpAll K F (List.replicate k vs).flatten (List.replicate k ds).flatten
  | 0 => .nil
  | k + 1 => by
    simp only [List.replicate_succ, List.flatten_cons]
    exact h.append (RpAll.rep h k)
theorem RpAll.ints : ∀ {vs : List V} {ns : List Int}, RpAll K F vs (ns.map PyData.int) → vs = ns.map V.int
  | _, [], .nil => rfl
  | _, n :: ns, .cons a b => by
    cases a
    rw [RpAll.ints b]; rfl
theorem RpAll.bools : ∀ {vs : List V} {ns : List Bool}, RpAll K F vs (ns.map PyData.bool) → vs = ns.map V.bl
  | _, [], .nil => rfl
  | _, n :: ns, .cons a b => by
    cases a
    rw [RpAll.bools b]; rfl
theorem RpAll.strs : ∀ {vs : List V} {ns : List Str}, RpAll K F vs (ns.map PyData.str) → vs = ns.map V.str
  | _, [], .nil => rfl
  | _, n :: ns, .cons a b => by
    cases a
    rw [RpAll.strs b]; rfl
mutual
theorem Rp.dp : ∀ {v : V} {d : D}, Rp K F v d → d.canLay0 = true → Dp K F v d
  | _, _, .non, _ => .non
  | _, _, .bl b, _ => .bl b
  | _, _, .int i, _ => .int i
  | _, _, .str x, _ => .str x
  | _, _, .lst a _ c, h => .lst (.inl a) (RpAll.dp c (by simpa [PyData.canLay0] using h))
  | _, _, .tup a _ c, h => .tup a (RpAll.dp c (by simpa [PyData.canLay0] using h))
  | _, _, .dk _ _ _, h => by simp [PyData.canLay0] at h
theorem RpAll.dp : ∀ {v : List V} {d : List D}, RpAll K F v d → PyData.canLayAll0 d = true → DpAll K F v d
  | _, _, .nil, _ => .nil
  | _, _, .cons a b, h => by
    simp only [PyData.canLayAll0, Bool.and_eq_true] at h
    exact .cons (Rp.dp a h.1) (RpAll.dp b h.2)
end
end
end PL
end

section
set_option Elab.async false
set_option linter.all false
set_option maxRecDepth 100000
/-! PLb: what a text of the pure layer asks. -/
namespace PL
open PySem PySem.Spec PyProof.Rows L2

/-- what a def does, as a transformer: of arguments, and what is wanted of the result and of the first argument behind (where it is written) -/
abbrev FSem := List D → (Sl → D → Prop) → Prop
structure Ent where
  R : FSem
  w : Bool
  nd : Nat
  kw : List (List Str × List Nat)
  mono : ∀ {ds : List D} {K K' : Sl → D → Prop}, (∀ r d, K r d → K' r d) → R ds K → R ds K'
structure Tab where
  fn : Str → Option Ent
  gl : Str → Option D

def LIM : Nat := 16777216

/-! ### operators -/
def MulOk (i j : Int) : Prop := i.natAbs.log2 + j.natAbs.log2 < 100000000
def DivOk (i j : Int) : Prop := j ≠ 0 ∧ Builtin.divisionGoesByPylong i j = false
def binS (o : Operator) (x y : D) (Q : Sl → Prop) : Prop :=
  match o, x, y with
  | .Add, .int i, .int j => Q (.sh (.int (i + j)))
  | .Add, .int i, .bool k => Q (.sh (.int (i + b2i k)))
  | .Add, .str a, .str b => a.length + b.length ≤ LIM ∧ Q (.sh (.str (a ++ b)))
  | .Add, .tuple a, .tuple b => a.length + b.length ≤ LIM ∧ Q (.sh (.tuple (a ++ b)))
  | .Add, .list a, .list b => a.length + b.length ≤ LIM ∧ Q (.ow (.list (a ++ b)))
  | .Sub, .int i, .int j => Q (.sh (.int (i - j)))
  | .Mult, .int i, .int j => MulOk i j ∧ Q (.sh (.int (i * j)))
  | .Mult, .list a, .int k => (-1000 ≤ k ∧ k ≤ 1000) ∧ a.length ≤ 1000 ∧ Q (.ow (.list (List.replicate k.toNat a).flatten))
  | .Mult, .tuple a, .int k => (-1000 ≤ k ∧ k ≤ 1000) ∧ a.length ≤ 1000 ∧ Q (.sh (.tuple (List.replicate k.toNat a).flatten))
  | .FloorDiv, .int i, .int j => DivOk i j ∧ Q (.sh (.int (i.fdiv j)))
  | .Mod, .int i, .int j => j ≠ 0 ∧ Q (.sh (.int (i.fmod j)))
  | .Pow, .int i, .int j => (0 ≤ j ∧ j ≤ 1000000 ∧ i.natAbs < 2 ^ 64) ∧ Q (.sh (.int (i ^ j.toNat)))
  | _, _, _ => False
/-! ### dicts: keys are ints and texts -/
def atEq : D → D → Bool
  | .int i, .int j => decide (i = j)
  | .str x, .str y => decide (x = y)
  | _, _ => false
def isKey : D → Bool
  | .int _ => true
  | .str _ => true
  | _ => false
def dGet (es : List (D × D)) (k : D) : Option D := (es.find? fun e => atEq e.1 k).map (·.2)
def dPut (es : List (D × D)) (k v : D) : List (D × D) := if (dGet es k).isSome = true then es.map (fun e => if atEq e.1 k = true then (e.1, v) else e) else es ++ [(k, v)]
def dUpd (es fs : List (D × D)) : List (D × D) := fs.foldl (fun acc e => dPut acc e.1 e.2) es
/-- the order of tuples of ints and texts -/
def atomLt : D → D → Option Bool
  | .int i, .int j => some (decide (i < j))
  | .str x, .str y => some (decide (x.cps.toList < y.cps.toList))
  | _, _ => none
def atomEq : D → D → Option Bool
  | .int i, .int j => some (decide (i = j))
  | .str x, .str y => some (decide (x = y))
  | _, _ => none
def tupLt : List D → List D → Bool
  | [], [] => false
  | [], _ :: _ => true
  | _ :: _, [] => false
  | x :: xs, y :: ys => if (atomEq x y).getD false = true then tupLt xs ys else (atomLt x y).getD false
def tupOk : List D → List D → Bool
  | x :: xs, y :: ys => (atomEq x y).isSome && (atomLt x y).isSome && tupOk xs ys
  | _, _ => true
def isNon : D → Bool
  | .none => true
  | _ => false
def cmpS (o : CmpOp) (x y : D) (Q : Bool → Prop) : Prop :=
  match o, x, y with
  | .Lt, .int i, .int j => Q (decide (i < j))
  | .LtE, .int i, .int j => Q (decide (i ≤ j))
  | .Gt, .int i, .int j => Q (decide (j < i))
  | .GtE, .int i, .int j => Q (decide (j ≤ i))
  | .Lt, .tuple a, .tuple b => tupOk a b = true ∧ Q (tupLt a b)
  | .Eq, x, y => SeqAt.shaped x = true ∧ SeqAt.shaped y = true ∧ Q (PyData.eqv x y)
  | .NotEq, x, y => SeqAt.shaped x = true ∧ SeqAt.shaped y = true ∧ Q (!PyData.eqv x y)
  | .In, x, .list ds => SeqAt.shaped x = true ∧ SeqAt.shaped (.list ds) = true ∧ Q (ds.any fun z => PyData.eqv z x)
  | .In, x, .tuple ds => SeqAt.shaped x = true ∧ SeqAt.shaped (.tuple ds) = true ∧ Q (ds.any fun z => PyData.eqv z x)
  | .NotIn, x, .list ds => SeqAt.shaped x = true ∧ SeqAt.shaped (.list ds) = true ∧ Q (!ds.any fun z => PyData.eqv z x)
  | .NotIn, x, .tuple ds => SeqAt.shaped x = true ∧ SeqAt.shaped (.tuple ds) = true ∧ Q (!ds.any fun z => PyData.eqv z x)
  | .In, x, .dict es => isKey x = true ∧ Q (dGet es x).isSome
  | .NotIn, x, .dict es => isKey x = true ∧ Q (!(dGet es x).isSome)
  | .Is, x, .none => Q (isNon x)
  | .IsNot, x, .none => Q (!isNon x)
  | _, _, _ => False
def getS (x k z : D) (Q : Sl → Prop) : Prop :=
  match x with
  | .dict es => isKey k = true ∧ Q (.sh ((dGet es k).getD z))
  | _ => False
def ixS (x y : D) (Q : Sl → Prop) : Prop :=
  match x, y with
  | .list ds, .int i => ∃ d, atI ds i = some d ∧ Q (.sh d)
  | .tuple ds, .int i => ∃ d, atI ds i = some d ∧ Q (.sh d)
  | .str z, .int i => z.length ≤ LIM ∧ ∃ c, atI z.cps.toList i = some c ∧ Q (.sh (.str ⟨#[c]⟩))
  | .dict es, k => isKey k = true ∧ ∃ v, dGet es k = some v ∧ Q (.sh v)
  | _, _ => False
def partS : List D → (Option Int → Prop) → Prop
  | [], Q => Q none
  | [.int i], Q => Q (some i)
  | _, _ => False
def cutD {α : Type} (xs : List α) (lo hi : Option Int) : List α := (xs.drop (HT.sIx xs.length 0 lo)).take (HT.sIx xs.length xs.length hi - HT.sIx xs.length 0 lo)
def slcS (x : D) (lo hi : Option Int) (Q : Sl → Prop) : Prop :=
  match x with
  | .list ds => Q (.ow (.list (cutD ds lo hi)))
  | .tuple ds => Q (.sh (.tuple (cutD ds lo hi)))
  | .str z => z.length ≤ LIM ∧ Q (.sh (.str (cutS z lo hi)))
  | _ => False
def revS (x : D) (Q : Sl → Prop) : Prop :=
  match x with
  | .list ds => Q (.ow (.list ds.reverse))
  | .str z => z.length ≤ LIM ∧ Q (.sh (.str ⟨z.cps.reverse⟩))
  | _ => False
def lenS (x : D) (Q : Sl → Prop) : Prop :=
  match x with
  | .list ds => Q (.sh (.int ds.length))
  | .tuple ds => Q (.sh (.int ds.length))
  | .str z => z.length ≤ LIM ∧ Q (.sh (.int z.length))
  | _ => False
def allInts : List D → Option (List Int)
  | [] => some []
  | .int i :: r => (allInts r).map (i :: ·)
  | _ => none
def allBools : List D → Option (List Bool)
  | [] => some []
  | .bool i :: r => (allBools r).map (i :: ·)
  | _ => none
/-- a list in ascending order -/
def sortD (ds : List D) : List D := ds.mergeSort (PySem.W.dataLe false id)
def isDisp : D → Bool
  | .list _ => true
  | .tuple _ => true
  | _ => false
def biS (b : Bi) (as : List D) (Q : Sl → Prop) : Prop :=
  match b, as with
  | .abs, [.int i] => Q (.sh (.int (if i < 0 then -i else i)))
  | .min2, [.int i, .int j] => Q (.sh (.int (if j < i then j else i)))
  | .max2, [.int i, .int j] => Q (.sh (.int (if j > i then j else i)))
  | .sum, [.list ds] => ∃ ns, allInts ds = some ns ∧ Q (.sh (.int ns.sum))
  | .list, [.list ds] => Q (.ow (.list ds))
  | .list, [.tuple ds] => Q (.ow (.list ds))
  | .tuple, [.list ds] => Q (.sh (.tuple ds))
  | .tuple, [.tuple ds] => Q (.sh (.tuple ds))
  | .int, [.int i] => Q (.sh (.int i))
  | .int, [.bool k] => Q (.sh (.int (if k then 1 else 0)))
  | .repr, [d] => (isDisp d = true ∧ SeqAt.shaped d = true ∧ d.showable = true ∧ d.shown.length ≤ LIM) ∧ Q (.sh (.str d.shown))
  | .sorted, [.list ds] => (PySem.W.AllAlike ds ∧ PySem.W.Sortable ds ∧ ∀ d, d ∈ ds → SeqAt.shaped d = true ∧ d.depth ≤ 60) ∧ Q (.ow (.list (sortD ds)))
  | .all, [.list ds] => ∃ ns, allBools ds = some ns ∧ Q (.sh (.bool (ns.all id)))
  | .any, [.list ds] => ∃ ns, allBools ds = some ns ∧ Q (.sh (.bool (ns.any id)))
  | .len, [d] => lenS d Q
  | _, _ => False
def isKd (k : Kd) (d : D) : Bool :=
  match k, d with
  | .bool, .bool _ => true
  | .int, .int _ => true
  | .int, .bool _ => true
  | .str, .str _ => true
  | .list, .list _ => true
  | .tuple, .tuple _ => true
  | .dict, .dict _ => true
  | _, _ => false
def noDict : D → Bool
  | .dict _ => false
  | _ => true
def indexS (x y : D) (Q : Sl → Prop) : Prop :=
  match x with
  | .list ds => SeqAt.shaped (.list ds) = true ∧ SeqAt.shaped y = true ∧ ∃ j z, ds[j]? = some z ∧ PyData.eqv z y = true ∧ (∀ (m : Nat) (z' : D), m < j → ds[m]? = some z' → PyData.eqv z' y = false) ∧ Q (.sh (.int (j : Nat)))
  | _ => False

/-! ### slots -/
def rd (env : Ev) (i : Nat) (Q : Sl → Ev → Prop) : Prop :=
  match env[i]? with
  | some (.sh d) => Q (.sh d) env
  | some (.ow d) => Q (.sh d) (env.set i (.sh d))
  | _ => False
/-- an owned object is given away -/
def mvS (env : Ev) (i : Nat) (Q : Sl → Ev → Prop) : Prop :=
  match env[i]? with
  | some (.ow d) => Q (.ow d) (env.set i .un)
  | _ => False
/-- read where it stands -/
def pk (env : Ev) (i : Nat) (Q : D → Prop) : Prop :=
  match env[i]? with
  | some (.sh d) => Q d
  | some (.ow d) => Q d
  | some (.io d) => Q d
  | _ => False
def wr (env : Ev) (i : Nat) (r : Sl) (Q : Ev → Prop) : Prop :=
  match env[i]? with
  | none => False
  | some (.io _) => False
  | some _ => Q (env.set i r)
/-- an owned object is changed -/
def md (env : Ev) (i : Nat) (f : D → (D → Prop) → Prop) (Q : Ev → Prop) : Prop :=
  match env[i]? with
  | some (.ow d) => f d fun d' => Q (env.set i (.ow d'))
  | some (.io d) => f d fun d' => Q (env.set i (.io d'))
  | _ => False
def wrs (env : Ev) : List Nat → List Sl → (Ev → Prop) → Prop
  | [], [], Q => Q env
  | i :: is, r :: rs, Q => wr env i r fun env1 => wrs env1 is rs Q
  | _, _, _ => False
def wpG (g : G) (d : D) (env : Ev) (Q : Ev → Prop) : Prop :=
  match g, d with
  | .name i, d => wr env i (.sh d) Q
  | .tup is, .tuple ds => wrs env is (ds.map Sl.sh) Q
  | .tup is, .list ds => wrs env is (ds.map Sl.sh) Q
  | _, _ => False
def wipeE (env : Ev) : List Nat → Ev
  | [] => env
  | v :: vs => (wipeE env vs).set v .un
/-- the slots at vs as they stand in env0 -/
def backE (env0 env : Ev) : List Nat → Ev
  | [] => env
  | v :: vs => (backE env0 env vs).set v (env0.getD v .un)

/-! ### loops -/
def loopF (g : D → Ev → (Ev → Prop) → Prop) (b : Ev → (Out → Prop) → Prop) : List D → Ev → (Out → Prop) → Prop
  | [], env, Q => Q (.nx env)
  | x :: xs, env, Q => g x env fun env1 => b env1 fun o => match o with
    | .nx e => loopF g b xs e Q
    | .ct e => loopF g b xs e Q
    | .bk e => Q (.nx e)
    | .rt r e => Q (.rt r e)
def loopW (t : Ev → (Bool → Ev → Prop) → Prop) (b : Ev → (Out → Prop) → Prop) : Nat → Ev → (Out → Prop) → Prop
  | 0, _, _ => False
  | n + 1, env, Q => t env fun c env1 => match c with
    | false => Q (.nx env1)
    | true => b env1 fun o => match o with
      | .nx e => loopW t b n e Q
      | .ct e => loopW t b n e Q
      | .bk e => Q (.nx e)
      | .rt r e => Q (.rt r e)
def loopC (g : D → Ev → (Ev → Prop) → Prop) (t : Ev → (Bool → Ev → Prop) → Prop) (p : Ev → (Sl → Ev → Prop) → Prop) (own : List Nat) : List D → Ev → List D → (List D → Ev → Prop) → Prop
  | [], env, acc, Q => Q acc env
  | x :: xs, env, acc, Q => g x (wipeE env own) fun env1 => t env1 fun c env2 => match c with
    | false => loopC g t p own xs env2 acc Q
    | true => p env2 fun r env3 => loopC g t p own xs env3 (acc ++ [r.d]) Q

/-- a dict comprehension -/
def loopD (g : D → Ev → (Ev → Prop) → Prop) (t : Ev → (Bool → Ev → Prop) → Prop) (p q : Ev → (Sl → Ev → Prop) → Prop) (own : List Nat) : List D → Ev → List (D × D) → (List (D × D) → Ev → Prop) → Prop
  | [], env, acc, Q => Q acc env
  | x :: xs, env, acc, Q => g x (wipeE env own) fun env1 => t env1 fun c env2 => match c with
    | false => loopD g t p q own xs env2 acc Q
    | true => p env2 fun r env3 => q env3 fun s env4 => isKey r.d = true ∧ loopD g t p q own xs env4 (dPut acc r.d s.d) Q
/-- none of these slots is a parameter that is written -/
def noIo (env : Ev) (vs : List Nat) : Bool := vs.all fun v => match env[v]? with
  | some (.io _) => false
  | _ => true
/-- a comprehension of two loops -/
def loopC2 (g : D → Ev → (Ev → Prop) → Prop) (t : Ev → (Bool → Ev → Prop) → Prop) (i1 : Ev → (List D → Ev → Prop) → Prop) (g1 : D → Ev → (Ev → Prop) → Prop) (t1 : Ev → (Bool → Ev → Prop) → Prop) (p : Ev → (Sl → Ev → Prop) → Prop) (own own1 : List Nat) : List D → Ev → List D → (List D → Ev → Prop) → Prop
  | [], env, acc, Q => Q acc env
  | x :: xs, env, acc, Q => g x (wipeE env own) fun env1 => t env1 fun c env2 => match c with
    | false => loopC2 g t i1 g1 t1 p own own1 xs env2 acc Q
    | true => i1 env2 fun ys env3 => (acc.length + ys.length ≤ LIM ∧ noIo env3 own1 = true) ∧ loopC g1 t1 p own1 ys env3 acc fun acc env4 => loopC2 g t i1 g1 t1 p own own1 xs env4 acc Q
def chars (z : Str) : List D := z.cps.toList.map fun c => .str ⟨#[c]⟩
def itemsOf (d : D) (Q : List D → Prop) : Prop :=
  match d with
  | .list ds => Q ds
  | .tuple ds => Q ds
  | .str z => Q (chars z)
  | _ => False
def seqOf (d : D) (Q : List D → Prop) : Prop :=
  match d with
  | .list ds => Q ds
  | .tuple ds => Q ds
  | _ => False
def rangeL (lo : Int) (c : Int) (n : Nat) : List D := (List.range n).map fun (k : Nat) => .int (lo + k * c)
def rngS (as : List D) (Q : List D → Prop) : Prop :=
  match as with
  | [.int j] => (-(2 ^ 62) ≤ j ∧ j ≤ LIM) ∧ Q (rangeL 0 1 j.toNat)
  | [.int i, .int j] => (-(2 ^ 62) ≤ i ∧ i < 2 ^ 62 ∧ -(2 ^ 62) ≤ j ∧ j < 2 ^ 62 ∧ j - i ≤ LIM) ∧ Q (rangeL i 1 (j - i).toNat)
  | [.int i, .int j, .int (-1)] => (-(2 ^ 62) ≤ i ∧ i < 2 ^ 62 ∧ -(2 ^ 62) ≤ j ∧ j < 2 ^ 62 ∧ i - j ≤ LIM) ∧ Q (rangeL i (-1) (i - j).toNat)
  | _ => False
def keysS (x : D) (Q : List D → Prop) : Prop :=
  match x with
  | .dict es => Q (es.map (·.1))
  | _ => False
def itemsS (x : D) (Q : List D → Prop) : Prop :=
  match x with
  | .dict es => Q (es.map fun e => .tuple [e.1, e.2])
  | _ => False
def popS (ds : List D) (k : D) (Q : D → List D → Prop) : Prop :=
  match k with
  | .int i => ∃ j v, ixN ds.length i = some j ∧ ds[j]? = some v ∧ Q v (ds.eraseIdx j)
  | _ => False
def enumL (ds : List D) : List D := (List.range ds.length).map fun (k : Nat) => .tuple [.int (k : Nat), ds.getD k .none]
def zipL (a b : List D) : List D := (a.zip b).map fun p => .tuple [p.1, p.2]
def sameKind : D → D → Bool
  | .list _, .list _ => true
  | .tuple _, .tuple _ => true
  | _, _ => false

/-- slot i owns a list -/
def ownL (env : Ev) (i : Nat) : Prop :=
  match env[i]? with
  | some (.ow (.list _)) => True
  | some (.io (.list _)) => True
  | _ => False
/-- slot i owns a dict -/
def ownD (env : Ev) (i : Nat) : Prop :=
  match env[i]? with
  | some (.ow (.dict _)) => True
  | some (.io (.dict _)) => True
  | _ => False
/-- what list(range(..)) or tuple(range(..)) is -/
def rglR (t : Bool) (ds : List D) : Sl := match t with
  | true => .sh (.tuple ds)
  | false => .ow (.list ds)
variable (tb : Tab)
mutual
def wpE : P → Ev → (Sl → Ev → Prop) → Prop
  | .var i, env, Q => rd env i Q
  | .mv i, env, Q => mvS env i Q
  | .pr a b, env, Q => wpE a env fun x env1 => wpE b env1 fun y env2 => match y with
    | .ow d => Q (.tp x.d d) env2
    | _ => False
  | .int n, env, Q => Q (.sh (.int n)) env
  | .bl b, env, Q => Q (.sh (.bool b)) env
  | .non, env, Q => Q (.sh .none) env
  | .str x, env, Q => Q (.sh (.str x)) env
  | .glob x, env, Q => ∃ d, tb.gl x = some d ∧ Q (.sh d) env
  | .bin o a b, env, Q => wpE a env fun x env1 => wpE b env1 fun y env2 => binS o x.d y.d fun r => Q r env2
  | .neg a, env, Q => wpE a env fun x env1 => match x.d with
    | .int i => Q (.sh (.int (-i))) env1
    | _ => False
  | .cmp o a b, env, Q => wpE a env fun x env1 => wpE b env1 fun y env2 => cmpS o x.d y.d fun c => Q (.sh (.bool c)) env2
  | .cmpB o a i, env, Q => wpE a env fun x env1 => pk env1 i fun y => cmpS o x.d y fun c => Q (.sh (.bool c)) env1
  | .cmpL o i b, env, Q => pk env i (fun _ => True) ∧ wpE b env fun y env1 => pk env1 i fun x => cmpS o x y.d fun c => Q (.sh (.bool c)) env1
  | .chain o o2 a b c, env, Q => wpE a env fun x env1 => wpE b env1 fun y env2 => cmpS o x.d y.d fun k => match k with
    | false => Q (.sh (.bool false)) env2
    | true => wpE c env2 fun z env3 => cmpS o2 y.d z.d fun k => Q (.sh (.bool k)) env3
  | .and a b, env, Q => wpE a env fun x env1 => match x.d with
    | .bool false => Q (.sh (.bool false)) env1
    | .bool true => wpE b env1 Q
    | _ => False
  | .or a b, env, Q => wpE a env fun x env1 => match x.d with
    | .bool true => Q (.sh (.bool true)) env1
    | .bool false => wpE b env1 Q
    | _ => False
  | .not a, env, Q => wpE a env fun x env1 => match x.d with
    | .bool c => Q (.sh (.bool (!c))) env1
    | _ => False
  | .ife t a b, env, Q => wpT t env fun c env1 => match c with
    | true => wpE a env1 Q
    | false => wpE b env1 Q
  | .tup as, env, Q => wpA as env fun rs env1 => Q (.sh (.tuple (rs.map Sl.d))) env1
  | .lst as, env, Q => wpA as env fun rs env1 => Q (.ow (.list (rs.map Sl.d))) env1
  | .ix a b, env, Q => wpE a env fun x env1 => wpE b env1 fun y env2 => ixS x.d y.d fun r => Q r env2
  | .ixB i b, env, Q => pk env i (fun _ => True) ∧ wpE b env fun y env1 => pk env1 i fun x => ixS x y.d fun r => Q r env1
  | .slc a lo hi, env, Q => wpE a env fun x env1 => wpA lo env1 fun ls env2 => partS (ls.map Sl.d) fun l => wpA hi env2 fun hs env3 => partS (hs.map Sl.d) fun h => slcS x.d l h fun r => Q r env3
  | .rev a, env, Q => wpE a env fun x env1 => revS x.d fun r => Q r env1
  | .call x nd as, env, Q => ∃ en, tb.fn x = some en ∧ en.w = false ∧ nd ≤ en.nd ∧ wpA as env fun rs env1 => en.R (rs.map Sl.d ++ List.replicate nd .none) fun r _ => Q r env1
  | .callK x ks as, env, Q => ∃ en pm, tb.fn x = some en ∧ en.w = false ∧ (ks, pm) ∈ en.kw ∧ wpA as env fun rs env1 => en.R (pm.map fun j => (rs.map Sl.d).getD j .none) fun r _ => Q r env1
  | .callW x i as, env, Q => ∃ en, tb.fn x = some en ∧ en.w = true ∧ pk env i (fun _ => True) ∧ wpA as env fun rs env1 => match env1[i]? with
    | some (.io d) => en.R (d :: rs.map Sl.d) fun r d' => Q r (env1.set i (.io d'))
    | some (.ow d) => en.R (d :: rs.map Sl.d) fun r d' => Q r (env1.set i (.ow d'))
    | _ => False
  | .bi b as, env, Q => wpA as env fun rs env1 => biS b (rs.map Sl.d) fun r => Q r env1
  | .lenB i, env, Q => pk env i fun x => lenS x fun r => Q r env
  | .isi ks a, env, Q => wpE a env fun x env1 => noDict x.d = true ∧ Q (.sh (.bool (ks.any fun k => isKd k x.d))) env1
  | .lc own it g ts e, env, Q => wpI it env fun xs env1 => xs.length ≤ LIM ∧ loopC (wpG g) (fun v R => wpTs ts v R) (fun v R => wpE e v R) own xs env1 [] fun acc env2 => Q (.ow (.list acc)) (backE env1 env2 own)
  | .index a b, env, Q => wpE a env fun x env1 => (∃ ds, x.d = .list ds) ∧ wpE b env1 fun y env2 => indexS x.d y.d fun r => Q r env2
  | .fz a, env, Q => wpE a env fun x env1 => Q (.sh x.d) env1
  | .dnew, env, Q => Q (.ow (.dict [])) env
  | .dget a k x, env, Q => wpE a env fun y env1 => (∃ es, y.d = .dict es) ∧ wpE k env1 fun u env2 => wpE x env2 fun z env3 => getS y.d u.d z.d fun r => Q r env3
  | .dgetB i k x, env, Q => pk env i (fun d => ∃ es, d = .dict es) ∧ wpE k env fun u env1 => wpE x env1 fun z env2 => pk env2 i fun y => getS y u.d z.d fun r => Q r env2
  | .dc own it g ts k v, env, Q => wpI it env fun xs env1 => xs.length ≤ LIM ∧ loopD (wpG g) (fun v R => wpTs ts v R) (fun v R => wpE k v R) (fun w R => wpE v w R) own xs env1 [] fun acc env2 => Q (.ow (.dict acc)) (backE env1 env2 own)
  | .lc2 own own1 it g ts it1 g1 ts1 e, env, Q => wpI it env fun xs env1 => loopC2 (wpG g) (fun v R => wpTs ts v R) (fun v R => wpI it1 v R) (wpG g1) (fun v R => wpTs ts1 v R) (fun v R => wpE e v R) own own1 xs env1 [] fun acc env2 => Q (.ow (.list acc)) (backE env1 env2 own)
  | .pop i k, env, Q => ownL env i ∧ wpE k env fun y env1 => match env1[i]? with
    | some (.ow (.list ds)) => popS ds y.d fun v ds' => Q (.sh v) (env1.set i (.ow (.list ds')))
    | some (.io (.list ds)) => popS ds y.d fun v ds' => Q (.sh v) (env1.set i (.io (.list ds')))
    | _ => False
  | .rgl1 t a, env, Q => wpE a env fun x env1 => rngS [x.d] fun ds => Q (rglR t ds) env1
  | .rgl2 t a b, env, Q => wpE a env fun x env1 => wpE b env1 fun y env2 => rngS [x.d, y.d] fun ds => Q (rglR t ds) env2
def wpT : T → Ev → (Bool → Ev → Prop) → Prop
  | .val a, env, Q => wpE a env fun x env1 => match x.d with
    | .bool c => Q c env1
    | _ => False
  | .cmp o a b, env, Q => wpE a env fun x env1 => wpE b env1 fun y env2 => cmpS o x.d y.d fun c => Q c env2
  | .cmpB o a i, env, Q => wpE a env fun x env1 => pk env1 i fun y => cmpS o x.d y fun c => Q c env1
  | .cmpL o i b, env, Q => pk env i (fun _ => True) ∧ wpE b env fun y env1 => pk env1 i fun x => cmpS o x y.d fun c => Q c env1
  | .chain o o2 a b c, env, Q => wpE a env fun x env1 => wpE b env1 fun y env2 => cmpS o x.d y.d fun k => match k with
    | false => Q false env2
    | true => wpE c env2 fun z env3 => cmpS o2 y.d z.d fun k => Q k env3
  | .and a b, env, Q => wpT a env fun c env1 => match c with
    | false => Q false env1
    | true => wpT b env1 Q
  | .or a b, env, Q => wpT a env fun c env1 => match c with
    | true => Q true env1
    | false => wpT b env1 Q
  | .not a, env, Q => wpT a env fun c env1 => Q (!c) env1
def wpA : As → Ev → (List Sl → Ev → Prop) → Prop
  | .nil, env, Q => Q [] env
  | .cons a r, env, Q => wpE a env fun x env1 => wpA r env1 fun xs env2 => Q (x.st :: xs) env2
def wpTs : Ts → Ev → (Bool → Ev → Prop) → Prop
  | .nil, env, Q => Q true env
  | .one t, env, Q => wpT t env Q
def wpI : It → Ev → (List D → Ev → Prop) → Prop
  | .seq a, env, Q => wpE a env fun x env1 => itemsOf x.d fun ds => Q ds env1
  | .rng1 a, env, Q => wpE a env fun x env1 => rngS [x.d] fun ds => Q ds env1
  | .rng2 a b, env, Q => wpE a env fun x env1 => wpE b env1 fun y env2 => rngS [x.d, y.d] fun ds => Q ds env2
  | .rng3 a b c, env, Q => wpE a env fun x env1 => wpE b env1 fun y env2 => wpE c env2 fun z env3 => rngS [x.d, y.d, z.d] fun ds => Q ds env3
  | .enum a, env, Q => wpE a env fun x env1 => seqOf x.d fun ds => Q (enumL ds) env1
  | .zip a b, env, Q => wpE a env fun x env1 => wpE b env1 fun y env2 => sameKind x.d y.d = true ∧ seqOf x.d fun ds => seqOf y.d fun es => Q (zipL ds es) env2
  | .keys a, env, Q => wpE a env fun x env1 => keysS x.d fun ds => Q ds env1
  | .items a, env, Q => wpE a env fun x env1 => itemsS x.d fun ds => Q ds env1
end
/-- owned lists hold plain things alone -/
def atomD : D → Bool
  | .none => true
  | .bool _ => true
  | .int _ => true
  | .str _ => true
  | _ => false
def flatD : D → Bool
  | .list ds => ds.all atomD
  | _ => false
def flatO (env : Ev) : Bool := env.all fun x => match x with
  | .ow d => flatD d
  | .io d => flatD d
  | _ => true
def appS (y : D) (d : D) (Q : D → Prop) : Prop :=
  match d with
  | .list ds => ds.length < LIM ∧ Q (.list (ds ++ [y]))
  | _ => False
def extS (y : D) (d : D) (Q : D → Prop) : Prop :=
  match d, y with
  | .list ds, .list es => ds.length + es.length ≤ LIM ∧ Q (.list (ds ++ es))
  | _, _ => False
def updS (y : D) (d : D) (Q : D → Prop) : Prop :=
  match d, y with
  | .dict es, .dict fs => es.length + fs.length ≤ LIM ∧ Q (.dict (dUpd es fs))
  | _, _ => False
def setS (k y : D) (d : D) (Q : D → Prop) : Prop :=
  match d, k with
  | .dict es, k => isKey k = true ∧ es.length < LIM ∧ Q (.dict (dPut es k y))
  | .list ds, .int i => ∃ j, ixN ds.length i = some j ∧ Q (.list (ds.set j y))
  | _, _ => False
def wpS : S → Ev → (Out → Prop) → Prop
  | .skip, env, Q => Q (.nx env)
  | .seq a b, env, Q => wpS a env fun o => match o with
    | .nx e => wpS b e Q
    | o => Q o
  | .set i e, env, Q => wpE tb e env fun r env1 => wr env1 i r.st fun env2 => Q (.nx env2)
  | .setF i e, env, Q => wpE tb e env fun r env1 => wr env1 i (.sh r.d) fun env2 => Q (.nx env2)
  | .par is as, env, Q => wpA tb as env fun rs env1 => wrs env1 is rs fun env2 => Q (.nx env2)
  | .unp is e, env, Q => wpE tb e env fun r env1 => match r with
    | .tp x d => wrs env1 is [.sh x, .ow d] fun env2 => Q (.nx env2)
    | r => wpG (.tup is) r.d env1 fun env2 => Q (.nx env2)
  | .ite t a b, env, Q => wpT tb t env fun c env1 => match c with
    | true => wpS a env1 Q
    | false => wpS b env1 Q
  | .whl t b, env, Q => ∃ n, loopW (fun v R => wpT tb t v R) (fun v R => wpS b v R) n env Q
  | .for_ g it b, env, Q => wpI tb it env fun xs env1 => loopF (wpG g) (fun v R => wpS b v R) xs env1 Q
  | .ret e, env, Q => wpE tb e env fun r env1 => Q (.rt r env1)
  | .expr e, env, Q => wpE tb e env fun _ env1 => Q (.nx env1)
  | .app i e, env, Q => ownL env i ∧ wpE tb e env fun r env1 => md env1 i (appS r.d) fun env2 => Q (.nx env2)
  | .ext i e, env, Q => ownL env i ∧ wpE tb e env fun r env1 => match r with
    | .ow d => md env1 i (extS d) fun env2 => Q (.nx env2)
    | _ => False
  | .upd i e, env, Q => ownD env i ∧ wpE tb e env fun r env1 => md env1 i (updS r.d) fun env2 => Q (.nx env2)
  | .setIx i k e, env, Q => wpE tb e env fun r env1 => (ownL env1 i ∨ ownD env1 i) ∧ wpE tb k env1 fun k env2 => md env2 i (setS k.d r.d) fun env3 => Q (.nx env3)
  | .tmp i e t r, env, Q => wpE tb e env fun y env1 => match y with
    | .tp x d => flatO env1 = true ∧ wr env1 i (.sh (.tuple [x, d])) fun env2 => wpT tb t env2 fun c env3 => match c with
      | true => wpE tb r env3 fun z env4 => Q (.rt z env4)
      | false => env3 = env2 ∧ (∃ ds, d = .list ds ∧ ds.length < LIM) ∧ Q (.nx (env2.set i .un))
    | _ => False
  | .brk, env, Q => Q (.bk env)
  | .cnt, env, Q => Q (.ct env)
  | .never, _, _ => False
end PL
end

section
set_option Elab.async false
set_option linter.all false
set_option autoImplicit false
set_option maxRecDepth 100000
/-! PLc: what holds a state: the frozen part, the slots; its steps. -/
namespace PL
open PySem PySem.Spec PyProof.Rows L2

def RpO (K : PySem.W.Frag) (F : Hp) : HO → D → Prop
  | .lst vs, .list ds => vs.length ≤ sizeLine ∧ RpAll K F vs ds
  | .dK vs, .dict ds => vs.length ≤ sizeLine ∧ RpDk K F vs ds
  | _, _ => False
theorem RpO.mono {K : PySem.W.Frag} {F H : Hp} (s : Sam F H) {ho : HO} {d : D} (h : RpO K F ho d) : RpO K H ho d := by
  unfold RpO at h ⊢
  split at h
  · exact ⟨h.1, RpAll.mono s h.2⟩
  · exact ⟨h.1, RpDk.mono s h.2⟩
  · exact h.elim
theorem RpO.rp {K : PySem.W.Frag} {F : Hp} {ho : HO} {d : D} {a : Addr} (h : RpO K F ho d) (e : F a = some ho) : Rp K F (.ref a) d := by
  unfold RpO at h
  split at h
  · exact .lst (.inl e) h.1 h.2
  · exact .dk (.inl e) h.1 h.2
  · exact h.elim

def Owns (env : Ev) (i : Nat) (d : D) : Prop := env[i]? = some (Sl.ow d) ∨ env[i]? = some (Sl.io d)
/-- an address that a slot owns -/
def OA (env : Ev) (σ : L2.St) (a : Addr) : Prop := ∃ i d, Owns env i d ∧ σ[i]? = some (some (.ref a))
structure ER (K : PySem.W.Frag) (F : Hp) (σ : L2.St) (H : Hp) (env : Ev) : Prop where
  sub : Sam F H
  len : σ.length = env.length
  sh : ∀ (i : Nat) (d : D), env[i]? = some (Sl.sh d) → ∃ v, σ[i]? = some (some v) ∧ Rp K F v d
  ob : ∀ (i : Nat) (d : D), Owns env i d → ∃ a ho, σ[i]? = some (some (.ref a)) ∧ H a = some ho ∧ F a = none ∧ RpO K F ho d
  inj : ∀ (i j : Nat) (d d' : D) (a : Addr), Owns env i d → Owns env j d' → σ[i]? = some (some (.ref a)) → σ[j]? = some (some (.ref a)) → i = j
structure Tr (env : Ev) (F : Hp) (σ : L2.St) (H : Hp) (env' : Ev) (F' : Hp) (σ' : L2.St) (H' : Hp) : Prop where
  fs : Sam F F'
  keep : ∀ a o, H a = some o → ¬ OA env σ a → H' a = some o ∨ (F' a ≠ none ∧ ∃ w, H' a = some w ∧ Up o w)
  live : ∀ a, H' a = none → H a = none
  newF : ∀ a, F' a ≠ none → F a ≠ none ∨ H a = none ∨ OA env σ a
  newO : ∀ a, OA env' σ' a → OA env σ a ∨ H a = none
  io : ∀ (i : Nat) (d : D), env[i]? = some (Sl.io d) → σ'[i]? = σ[i]? ∧ ∃ d', env'[i]? = some (Sl.io d')
/-- an object of nobody's: new, or what was owned at the start -/
def Fo (K : PySem.W.Frag) (F H : Hp) (env : Ev) (σ : L2.St) (Nw : Addr → Prop) (v : V) (d : D) : Prop := ∃ a ho, v = .ref a ∧ H a = some ho ∧ F a = none ∧ ¬ OA env σ a ∧ Nw a ∧ RpO K F ho d
def NwOf (env : Ev) (σ : L2.St) (H : Hp) : Addr → Prop := fun a => H a = none ∨ OA env σ a
/-- a value that has come: shared, or a new object of nobody's, or a new pair with such an object -/
def RR (K : PySem.W.Frag) (F H : Hp) (env : Ev) (σ : L2.St) (Nw : Addr → Prop) (v : V) : Sl → Prop
  | .sh d => Rp K F v d
  | .ow d => Fo K F H env σ Nw v d
  | .tp x d => ∃ a v0 v1, v = .ref a ∧ H a = some (.tup [v0, v1]) ∧ ¬ OA env σ a ∧ (F a = none → Nw a) ∧ Rp K F v0 x ∧ Fo K F H env σ Nw v1 d
  | _ => False

section
variable {K : PySem.W.Frag} {F F' F1 F2 F0 H H' H1 H2 H0 : Hp} {σ σ' σ1 σ2 σ0 : L2.St} {env env' env1 env2 env0 : Ev} {a : Addr} {v : V} {r : Sl} {d : D} {ho : HO}

theorem Tr.refl (e : Ev) (F : Hp) (σ : L2.St) (H : Hp) : Tr e F σ H e F σ H :=
  ⟨Sam.refl _, fun _ _ h _ => .inl h, fun _ h => h, fun _ h => .inl h, fun _ h => .inl h, fun _ d h => ⟨rfl, d, h⟩⟩
theorem Tr.trans (s : Tr env0 F0 σ0 H0 env1 F1 σ1 H1) (t : Tr env1 F1 σ1 H1 env2 F2 σ2 H2) : Tr env0 F0 σ0 H0 env2 F2 σ2 H2 where
  fs := s.fs.trans t.fs
  keep := fun a o h n => by
    have no : ¬ OA env1 σ1 a := fun q => (s.newO a q).elim n fun z => by rw [h] at z; cases z
    rcases s.keep a o h n with h1 | ⟨hF, w, h1, u1⟩
    · exact t.keep a o h1 no
    · rcases t.keep a w h1 no with h2 | ⟨hF2, w', h2, u2⟩
      · exact .inr ⟨fun z => hF (t.fs.free z), w, h2, u1⟩
      · exact .inr ⟨hF2, w', h2, u1.trans u2⟩
  live := fun a h => s.live a (t.live a h)
  newF := fun a h => (t.newF a h).elim (fun q => s.newF a q) fun q => q.elim (fun z => .inr (.inl (s.live a z))) fun q => (s.newO a q).elim (fun z => .inr (.inr z)) fun z => .inr (.inl z)
  newO := fun a h => (t.newO a h).elim (fun q => s.newO a q) fun z => .inr (s.live a z)
  io := fun i d h => by
    obtain ⟨e1, d1, h1⟩ := s.io i d h
    obtain ⟨e2, d2, h2⟩ := t.io i d1 h1
    exact ⟨e2.trans e1, d2, h2⟩
theorem same_upd {o : HO} (h : H a = none) : Sam H (upd H a o) := .of fun b x e => by
  rw [upd_ne (ne_of_none e h)]
  exact e
theorem upd_keep {o u : HO} {p b : Addr} (hp : H p = none) (e : H b = some u) : upd H p o b = some u := by
  rw [upd_ne (ne_of_none e hp)]; exact e
theorem Tr.keepU (t : Tr env F σ H env' F' σ' H') {o : HO} (h : H a = some o) (n : ¬ OA env σ a) : ∃ w, H' a = some w ∧ Up o w := by
  rcases t.keep a o h n with h1 | ⟨_, w, h1, u⟩
  · exact ⟨o, h1, .refl o⟩
  · exact ⟨w, h1, u⟩
/-- what is not frozen stays as it is -/
theorem Tr.keepN (t : Tr env F σ H env' F' σ' H') {o : HO} (h : H a = some o) (n : ¬ OA env σ a) (hF : F a = none) : H' a = some o := by
  rcases t.keep a o h n with h1 | ⟨h2, _⟩
  · exact h1
  · rcases t.newF a h2 with z | z | z
    · exact (z hF).elim
    · rw [h] at z; cases z
    · exact (n z).elim
theorem Tr.keepT (t : Tr env F σ H env' F' σ' H') {xs : List V} (h : H a = some (.tup xs)) (n : ¬ OA env σ a) : H' a = some (.tup xs) := by
  obtain ⟨w, h1, u⟩ := t.keepU h n
  rw [h1, u.tup]
theorem Tr.fresh (t : Tr env F σ H env' F' σ' H') (h : H' a = none) : H a = none := t.live a h
theorem OA.some (R : ER K F σ H env) (h : OA env σ a) : ∃ o, H a = some o := by
  obtain ⟨i, d, ow, e⟩ := h
  obtain ⟨b, ho, e', h1, _⟩ := R.ob i d ow
  rw [e] at e'; cases e'
  exact ⟨ho, h1⟩
theorem OA.notF (R : ER K F σ H env) (h : OA env σ a) : F a = none := by
  obtain ⟨i, d, ow, e⟩ := h
  obtain ⟨b, ho, e', _, h1, _⟩ := R.ob i d ow
  rw [e] at e'; cases e'
  exact h1
theorem ER.notOA (R : ER K F σ H env) (h : H a = none) : ¬ OA env σ a := fun q => by
  obtain ⟨o, e⟩ := OA.some R q
  rw [h] at e; cases e

/-- more is frozen: objects of nobody's -/
theorem ER.freeze (R : ER K F σ H env) (s : Sam F F') (sub : Sam F' H) (hn : ∀ b, F' b ≠ none → F b ≠ none ∨ ¬ OA env σ b) : ER K F' σ H env where
  sub := sub
  len := R.len
  sh := fun i d h => let ⟨v, e, r⟩ := R.sh i d h; ⟨v, e, r.mono s⟩
  ob := fun i d h => by
    obtain ⟨a, ho, e, h1, h2, h3⟩ := R.ob i d h
    refine ⟨a, ho, e, h1, ?_, h3.mono s⟩
    cases q : F' a with
    | none => rfl
    | some o => exact ((hn a (by rw [q]; simp)).elim (fun z => z h2) fun z => z ⟨i, d, h, e⟩).elim
  inj := R.inj
theorem NwOf.trans (t : Tr env0 F0 σ0 H0 env1 F1 σ1 H1) : NwOf env1 σ1 H1 a → NwOf env0 σ0 H0 a := fun h => h.elim (fun z => .inl (t.live a z)) fun z => (t.newO a z).elim .inr .inl
/-- an object of nobody's is frozen -/
theorem fz1 (R : ER K F σ H env) (t : Tr env0 F0 σ0 H0 env F σ H) (h1 : H a = some ho) (h2 : F a = none) (h3 : ¬ OA env σ a) (h4 : NwOf env0 σ0 H0 a) :
    ER K (upd F a ho) σ H env ∧ Tr env0 F0 σ0 H0 env (upd F a ho) σ H ∧ Sam F (upd F a ho) := by
  have s : Sam F (upd F a ho) := same_upd h2
  refine ⟨R.freeze s (fun b o e => ?_) (fun b hb => ?_), ⟨t.fs.trans s, fun b o q n => (t.keep b o q n).imp id fun z => ⟨fun e => z.1 (s.free e), z.2⟩, t.live, fun b hb => ?_, t.newO, t.io⟩, s⟩
  · by_cases e' : b = a
    · subst e'; rw [upd_same] at e; cases e; exact ⟨_, h1, .refl _⟩
    · rw [upd_ne e'] at e; exact R.sub _ _ e
  · by_cases e' : b = a
    · subst e'; exact .inr h3
    · rw [upd_ne e'] at hb; exact .inl hb
  · by_cases e' : b = a
    · subst e'; exact .inr h4
    · rw [upd_ne e'] at hb; exact t.newF b hb
/-- a value that has come is frozen -/
theorem fz (R : ER K F σ H env) (t : Tr env0 F0 σ0 H0 env F σ H) (r1 : RR K F H env σ (NwOf env0 σ0 H0) v r) : ∃ F', ER K F' σ H env ∧ Tr env0 F0 σ0 H0 env F' σ H ∧ Rp K F' v r.d ∧ Sam F F' := by
  cases r with
  | un => exact r1.elim
  | io d => exact r1.elim
  | sh d => exact ⟨F, R, t, r1, Sam.refl _⟩
  | ow d =>
    obtain ⟨a, ho, rfl, h1, h2, h3, h4, h5⟩ := r1
    obtain ⟨R', t', s⟩ := fz1 R t h1 h2 h3 h4
    exact ⟨_, R', t', (h5.mono s).rp upd_same, s⟩
  | tp x d =>
    obtain ⟨a, v0, v1, rfl, g1, g2, g3, g4, l, ho, rfl, h1, h2, h3, h4, h5⟩ := r1
    obtain ⟨R', t', s⟩ := fz1 R t h1 h2 h3 h4
    have rl : Rp K (upd F l ho) (.ref l) d := (h5.mono s).rp upd_same
    have hz : [v0, V.ref l].length ≤ sizeLine := by show 2 ≤ sizeLine; decide
    cases e : (upd F l ho) a with
    | some o =>
      obtain ⟨w, hw, uw⟩ := R'.sub _ _ e
      rw [g1] at hw
      cases hw
      obtain rfl := uw.toTup
      exact ⟨_, R', t', .tup (.inl (.inl e)) hz (.cons (g4.mono s) (.cons rl .nil)), s⟩
    | none =>
      have e0 : F a = none := s.free e
      obtain ⟨R2, t2, s2⟩ := fz1 R' t' g1 e g2 (g3 e0)
      exact ⟨_, R2, t2, .tup (.inl (.inl upd_same)) hz (.cons ((g4.mono s).mono s2) (.cons (rl.mono s2) .nil)), s.trans s2⟩
theorem Fo.mono {Nw : Addr → Prop} (r1 : Fo K F1 H1 env1 σ1 Nw v d) (t : Tr env1 F1 σ1 H1 env2 F2 σ2 H2) : Fo K F2 H2 env2 σ2 Nw v d := by
  obtain ⟨a, ho, rfl, h1, h2, h3, h4, h5⟩ := r1
  refine ⟨a, ho, rfl, t.keepN h1 h3 h2, ?_, fun q => ?_, h4, h5.mono t.fs⟩
  · cases q : F2 a with
    | none => rfl
    | some o =>
      rcases t.newF a (by rw [q]; simp) with z | z | z
      · exact (z h2).elim
      · rw [h1] at z; cases z
      · exact (h3 z).elim
  · rcases t.newO a q with z | z
    · exact h3 z
    · rw [h1] at z; cases z
theorem RR.mono {Nw : Addr → Prop} (r1 : RR K F1 H1 env1 σ1 Nw v r) (t : Tr env1 F1 σ1 H1 env2 F2 σ2 H2) : RR K F2 H2 env2 σ2 Nw v r := by
  cases r with
  | un => exact r1.elim
  | io d => exact r1.elim
  | sh d => exact Rp.mono t.fs r1
  | ow d => exact Fo.mono r1 t
  | tp x d =>
    obtain ⟨a, v0, v1, rfl, g1, g2, g3, g4, g5⟩ := r1
    refine ⟨a, v0, v1, rfl, t.keepT g1 g2, fun q => ?_, fun e => g3 ?_, g4.mono t.fs, g5.mono t⟩
    · rcases t.newO a q with z | z
      · exact g2 z
      · rw [g1] at z; cases z
    · exact t.fs.free e
/-- new of a later state is new of an earlier one -/
theorem RR.early {Nw Nw' : Addr → Prop} (r1 : RR K F H env σ Nw v r) (l : ∀ a, Nw a → Nw' a) : RR K F H env σ Nw' v r := by
  have fo : ∀ {v d}, Fo K F H env σ Nw v d → Fo K F H env σ Nw' v d := fun {v d} h => by
    obtain ⟨a, ho, e, h1, h2, h3, h4, h5⟩ := h
    exact ⟨a, ho, e, h1, h2, h3, l a h4, h5⟩
  cases r with
  | un => exact r1.elim
  | io d => exact r1.elim
  | sh d => exact r1
  | ow d => exact fo r1
  | tp x d =>
    obtain ⟨a, v0, v1, rfl, g1, g2, g3, g4, g5⟩ := r1
    exact ⟨a, v0, v1, rfl, g1, g2, fun e => l a (g3 e), g4, fo g5⟩
/-- a new tuple -/
theorem ER.newT {p : Addr} {xs : List V} {ds : List D} (R : ER K F σ H env) (hp : H p = none) (r1 : RpAll K F xs ds) (hz : xs.length ≤ sizeLine) :
    ER K (upd F p (.tup xs)) σ (upd H p (.tup xs)) env ∧ Tr env F σ H env (upd F p (.tup xs)) σ (upd H p (.tup xs)) ∧ Rp K (upd F p (.tup xs)) (.ref p) (.tuple ds) := by
  have hF : F p = none := R.sub.free hp
  have s : Sam F (upd F p (.tup xs)) := same_upd hF
  have sH : Sam H (upd H p (.tup xs)) := same_upd hp
  refine ⟨⟨fun b o e => ?_, R.len, fun i d h => let ⟨v, e, r⟩ := R.sh i d h; ⟨v, e, r.mono s⟩, fun i d h => ?_, R.inj⟩, ⟨s, fun b o e _ => .inl (upd_keep hp e), fun b e => sH.free e, fun b hb => ?_, fun b hb => .inl hb, fun i d h => ⟨rfl, d, h⟩⟩, .tup (.inl (.inl upd_same)) hz (RpAll.mono s r1)⟩
  · by_cases e' : b = p
    · subst e'; rw [upd_same] at e ⊢; cases e; exact ⟨_, rfl, .refl _⟩
    · rw [upd_ne e'] at e ⊢; exact R.sub _ _ e
  · obtain ⟨a, ho, e, h1, h2, h3⟩ := R.ob i d h
    have ne : a ≠ p := ne_of_none h1 hp
    exact ⟨a, ho, e, upd_keep hp h1, by rw [upd_ne ne]; exact h2, h3.mono s⟩
  · by_cases e' : b = p
    · subst e'; exact .inr (.inl hp)
    · rw [upd_ne e'] at hb; exact .inl hb
/-- a new object of nobody's -/
theorem ER.newO {p : Addr} (R : ER K F σ H env) (hp : H p = none) (r1 : RpO K F ho d) :
    ER K F σ (upd H p ho) env ∧ Tr env F σ H env F σ (upd H p ho) ∧ Fo K F (upd H p ho) env σ (fun a => H a = none) (.ref p) d := by
  have hF : F p = none := R.sub.free hp
  have sH : Sam H (upd H p ho) := same_upd hp
  refine ⟨⟨R.sub.trans sH, R.len, R.sh, fun i d h => ?_, R.inj⟩, ⟨Sam.refl _, fun b o e _ => .inl (upd_keep hp e), fun b e => sH.free e, fun b hb => .inl hb, fun b hb => .inl hb, fun i d h => ⟨rfl, d, h⟩⟩, ⟨p, ho, rfl, upd_same, hF, R.notOA hp, hp, r1⟩⟩
  obtain ⟨a, ho, e, h1, h2, h3⟩ := R.ob i d h
  exact ⟨a, ho, e, upd_keep hp h1, h2, h3⟩
theorem owns_set {i j : Nat} {x : Sl} {d : D} (h : Owns (env.set i x) j d) : (j = i ∧ (x = .ow d ∨ x = .io d)) ∨ (j ≠ i ∧ Owns env j d) := by
  by_cases e : j = i
  · subst e
    refine .inl ⟨rfl, ?_⟩
    by_cases hl : j < env.length
    · rcases h with h | h
      · rw [List.getElem?_set_self hl] at h; exact .inl (Option.some.inj h)
      · rw [List.getElem?_set_self hl] at h; exact .inr (Option.some.inj h)
    · rcases h with h | h <;> (rw [List.getElem?_eq_none (by simpa using hl)] at h; cases h)
  · refine .inr ⟨e, ?_⟩
    rcases h with h | h
    · rw [List.getElem?_set_ne (Ne.symm e)] at h; exact .inl h
    · rw [List.getElem?_set_ne (Ne.symm e)] at h; exact .inr h
theorem lt_of_get {i : Nat} {x : Sl} (h : env[i]? = some x) : i < env.length := (List.getElem?_eq_some_iff.mp h).1
theorem owns_set_ne {i j : Nat} {x : Sl} {d : D} (ne : j ≠ i) (h : Owns env j d) : Owns (env.set i x) j d := by
  rcases h with h | h
  · exact .inl (by rw [List.getElem?_set_ne (Ne.symm ne)]; exact h)
  · exact .inr (by rw [List.getElem?_set_ne (Ne.symm ne)]; exact h)
/-- an owned object is read out: it is frozen -/
theorem rd_ok {i : Nat} {Q : Sl → Ev → Prop} (R : ER K F σ H env) (h : rd env i Q) :
    ∃ r env' F' v, Q r env' ∧ σ[i]? = some (some v) ∧ ER K F' σ H env' ∧ Tr env F σ H env' F' σ H ∧ RR K F' H env' σ (NwOf env σ H) v r := by
  unfold rd at h
  split at h
  · rename_i d e
    obtain ⟨v, ev, rv⟩ := R.sh i d e
    exact ⟨.sh d, env, F, v, h, ev, R, Tr.refl _ _ _ _, rv⟩
  · rename_i d e
    obtain ⟨a, ho, ea, h1, h2, h3⟩ := R.ob i d (.inl e)
    have s : Sam F (upd F a ho) := same_upd h2
    have hi := lt_of_get e
    have oa : OA env σ a := ⟨i, d, .inl e, ea⟩
    refine ⟨.sh d, env.set i (.sh d), upd F a ho, .ref a, h, ea, ⟨fun b o q => ?_, by rw [List.length_set]; exact R.len, fun j d' q => ?_, fun j d' q => ?_, fun j l d' d'' b q q' => ?_⟩, ⟨s, fun b o q _ => .inl q, fun b q => q, fun b q => ?_, fun b q => .inl ?_, fun j d' q => ?_⟩, (h3.mono s).rp upd_same⟩
    · by_cases e' : b = a
      · subst e'; rw [upd_same] at q; cases q; exact ⟨_, h1, .refl _⟩
      · rw [upd_ne e'] at q; exact R.sub _ _ q
    · by_cases e' : j = i
      · subst e'
        rw [List.getElem?_set_self hi] at q
        cases q
        exact ⟨_, ea, (h3.mono s).rp upd_same⟩
      · rw [List.getElem?_set_ne (Ne.symm e')] at q
        obtain ⟨v, ev, rv⟩ := R.sh j d' q
        exact ⟨v, ev, rv.mono s⟩
    · rcases owns_set q with ⟨_, z | z⟩ | ⟨ne, q⟩
      · cases z
      · cases z
      · obtain ⟨b, hb, eb, g1, g2, g3⟩ := R.ob j d' q
        refine ⟨b, hb, eb, g1, ?_, g3.mono s⟩
        have ne' : b ≠ a := fun z => ne (R.inj j i d' d b q (.inl e) eb (by rw [z]; exact ea))
        rw [upd_ne ne']; exact g2
    · rcases owns_set q with ⟨_, z | z⟩ | ⟨ne, q⟩
      · cases z
      · cases z
      rcases owns_set q' with ⟨_, z | z⟩ | ⟨ne', q'⟩
      · cases z
      · cases z
      exact R.inj _ _ _ _ _ q q'
    · by_cases e' : b = a
      · subst e'; exact .inr (.inr oa)
      · rw [upd_ne e'] at q; exact .inl q
    · obtain ⟨j, d', q, eq⟩ := q
      rcases owns_set q with ⟨_, z | z⟩ | ⟨ne, q⟩
      · cases z
      · cases z
      exact ⟨j, d', q, eq⟩
    · have ne : j ≠ i := fun z => by subst z; rw [e] at q; cases q
      exact ⟨rfl, d', by rw [List.getElem?_set_ne (Ne.symm ne)]; exact q⟩
  · exact h.elim
/-- a slot is written -/
theorem wr_ok {i : Nat} {Q : Ev → Prop} (R : ER K F σ H env) (t : Tr env0 F0 σ0 H0 env F σ H) (r1 : RR K F H env σ (NwOf env0 σ0 H0) v r) (hst : r.st = r) (h : wr env i r Q) :
    Q (env.set i r) ∧ ER K F (σ.set i (some v)) H (env.set i r) ∧ Tr env0 F0 σ0 H0 (env.set i r) F (σ.set i (some v)) H := by
  have hx : ∃ x, env[i]? = some x ∧ (∀ d, x ≠ .io d) ∧ Q (env.set i r) := by
    unfold wr at h
    split at h
    · exact h.elim
    · exact h.elim
    · rename_i x nx e
      exact ⟨x, e, fun d z => nx d z, h⟩
  obtain ⟨x, e, nx, q⟩ := hx
  have hi := lt_of_get e
  have hiσ : i < σ.length := by rw [R.len]; exact hi
  have new : ∀ {j : Nat} {b : Addr} {d : D}, Owns (env.set i r) j d → (σ.set i (some v))[j]? = some (some (.ref b)) → (j = i ∧ (∃ ho, v = .ref b ∧ H b = some ho ∧ F b = none ∧ ¬ OA env σ b ∧ NwOf env0 σ0 H0 b ∧ RpO K F ho d)) ∨ (j ≠ i ∧ Owns env j d ∧ σ[j]? = some (some (.ref b))) := by
    intro j b d hj hb
    rcases owns_set hj with ⟨e1, e2⟩ | ⟨ne, hj⟩
    · subst e1
      rw [List.getElem?_set_self hiσ] at hb
      cases hb
      refine .inl ⟨rfl, ?_⟩
      rcases e2 with e2 | e2
      · subst e2
        obtain ⟨a, ho, e3, g1, g2, g3, g4, g5⟩ := r1
        cases e3
        exact ⟨ho, rfl, g1, g2, g3, g4, g5⟩
      · subst e2; exact r1.elim
    · rw [List.getElem?_set_ne (Ne.symm ne)] at hb
      exact .inr ⟨ne, hj, hb⟩
  refine ⟨q, ⟨R.sub, by rw [List.length_set, List.length_set]; exact R.len, fun j d hj => ?_, fun j d hj => ?_, fun j l d d' b hj hl ej el => ?_⟩, ⟨t.fs, t.keep, t.live, t.newF, fun b hb => ?_, fun j d hj => ?_⟩⟩
  · by_cases e1 : j = i
    · subst e1
      rw [List.getElem?_set_self hi] at hj
      cases hj
      exact ⟨v, by rw [List.getElem?_set_self hiσ], r1⟩
    · rw [List.getElem?_set_ne (Ne.symm e1)] at hj ⊢
      exact R.sh j d hj
  · rcases owns_set hj with ⟨e1, e2⟩ | ⟨ne, hj'⟩
    · subst e1
      rcases e2 with e2 | e2
      · subst e2
        obtain ⟨a, ho, e3, g1, g2, g3, g4, g5⟩ := r1
        subst e3
        exact ⟨a, ho, by rw [List.getElem?_set_self hiσ], g1, g2, g5⟩
      · subst e2; exact r1.elim
    · obtain ⟨a, ho, g0, g1, g2, g3⟩ := R.ob j d hj'
      exact ⟨a, ho, by rw [List.getElem?_set_ne (Ne.symm ne)]; exact g0, g1, g2, g3⟩
  · rcases new hj ej with ⟨e1, ho, _, _, _, g3, _⟩ | ⟨ne, hj', ej'⟩
    · rcases new hl el with ⟨e2, _⟩ | ⟨ne2, hl', el'⟩
      · rw [e1, e2]
      · exact (g3 ⟨l, d', hl', el'⟩).elim
    · rcases new hl el with ⟨e2, ho, _, _, _, g3, _⟩ | ⟨ne2, hl', el'⟩
      · exact (g3 ⟨j, d, hj', ej'⟩).elim
      · exact R.inj _ _ _ _ _ hj' hl' ej' el'
  · obtain ⟨j, d, hj, ej⟩ := hb
    rcases new hj ej with ⟨e1, ho, _, _, _, _, g4, _⟩ | ⟨ne, hj', ej'⟩
    · exact g4.symm
    · exact t.newO b ⟨j, d, hj', ej'⟩
  · obtain ⟨e1, d1, h1⟩ := t.io j d hj
    have ne : j ≠ i := fun z => by subst z; rw [e] at h1; exact nx d1 (Option.some.inj h1)
    exact ⟨by rw [List.getElem?_set_ne (Ne.symm ne)]; exact e1, d1, by rw [List.getElem?_set_ne (Ne.symm ne)]; exact h1⟩
/-- an owned object is changed where it stands -/
theorem upd_ok {i : Nat} {d d' : D} {ho' : HO} (R : ER K F σ H env) (ha : σ[i]? = some (some (.ref a))) (x : Sl) (hx : (env[i]? = some (Sl.ow d) ∧ x = Sl.ow d') ∨ (env[i]? = some (Sl.io d) ∧ x = Sl.io d')) (r1 : RpO K F ho' d') :
    ER K F σ (upd H a ho') (env.set i x) ∧ Tr env F σ H (env.set i x) F σ (upd H a ho') := by
  have ow : Owns env i d := by rcases hx with ⟨h, _⟩ | ⟨h, _⟩; exact .inl h; exact .inr h
  have xo : x = .ow d' ∨ x = .io d' := by rcases hx with ⟨_, h⟩ | ⟨_, h⟩; exact .inl h; exact .inr h
  have hi : i < env.length := by rcases hx with ⟨h, _⟩ | ⟨h, _⟩ <;> exact lt_of_get h
  obtain ⟨a', ho, e1, g1, g2, g3⟩ := R.ob i d ow
  rw [ha] at e1; cases e1
  have oa : OA env σ a := ⟨i, d, ow, ha⟩
  have oaS : ∀ b, OA (env.set i x) σ b → OA env σ b := fun b hb => by
    obtain ⟨j, dj, hj, ej⟩ := hb
    rcases owns_set hj with ⟨e1, _⟩ | ⟨_, hj'⟩
    · subst e1
      exact ⟨j, d, ow, ej⟩
    · exact ⟨j, dj, hj', ej⟩
  refine ⟨⟨fun b o q => ?_, by rw [List.length_set]; exact R.len, fun j dj hj => ?_, fun j dj hj => ?_, fun j l dj dl b hj hl ej el => ?_⟩, ⟨Sam.refl _, fun b o q n => ?_, fun b q => ?_, fun b q => .inl q, fun b q => .inl (oaS b q), fun j dj hj => ⟨rfl, ?_⟩⟩⟩
  · have ne : b ≠ a := fun z => by subst z; rw [g2] at q; cases q
    rw [upd_ne ne]; exact R.sub _ _ q
  · have ne : j ≠ i := fun z => by
      subst z
      rw [List.getElem?_set_self hi] at hj
      rcases xo with z | z <;> (subst z; cases hj)
    rw [List.getElem?_set_ne (Ne.symm ne)] at hj
    exact R.sh j dj hj
  · rcases owns_set hj with ⟨e1, e2⟩ | ⟨ne, hj'⟩
    · subst e1
      refine ⟨a, ho', ha, upd_same, g2, ?_⟩
      have : d' = dj := by rcases xo with z | z <;> (subst z; rcases e2 with e2 | e2 <;> cases e2; rfl)
      subst this; exact r1
    · obtain ⟨b, hb, eb, k1, k2, k3⟩ := R.ob j dj hj'
      have ne' : b ≠ a := fun z => ne (R.inj j i dj d b hj' ow eb (by rw [z]; exact ha))
      exact ⟨b, hb, eb, by rw [upd_ne ne']; exact k1, k2, k3⟩
  · have f : ∀ {m dm}, Owns (env.set i x) m dm → ∃ d2, Owns env m d2 := fun {m dm} hm => by
      rcases owns_set hm with ⟨e1, _⟩ | ⟨_, hm'⟩
      · subst e1; exact ⟨d, ow⟩
      · exact ⟨dm, hm'⟩
    obtain ⟨d1, h1⟩ := f hj
    obtain ⟨d2, h2⟩ := f hl
    exact R.inj _ _ _ _ _ h1 h2 ej el
  · have ne : b ≠ a := fun z => n (by subst z; exact oa)
    rw [upd_ne ne]; exact .inl q
  · by_cases e' : b = a
    · subst e'; rw [upd_same] at q; cases q
    · rw [upd_ne e'] at q; exact q
  · by_cases e' : j = i
    · subst e'
      rcases hx with ⟨h, _⟩ | ⟨h, z⟩
      · rw [h] at hj; cases hj
      · subst z; exact ⟨d', by rw [List.getElem?_set_self hi]⟩
    · exact ⟨dj, by rw [List.getElem?_set_ne (Ne.symm e')]; exact hj⟩
/-- read where it stands -/
theorem pk_ok {i : Nat} {Q : D → Prop} (R : ER K F σ H env) (h : pk env i Q) : ∃ d v, Q d ∧ σ[i]? = some (some v) ∧ Rp K H v d := by
  unfold pk at h
  split at h
  · rename_i d e
    obtain ⟨v, ev, rv⟩ := R.sh i d e
    exact ⟨d, v, h, ev, rv.mono R.sub⟩
  · rename_i d e
    obtain ⟨a, ho, ea, h1, h2, h3⟩ := R.ob i d (.inl e)
    exact ⟨d, _, h, ea, (h3.mono R.sub).rp h1⟩
  · rename_i d e
    obtain ⟨a, ho, ea, h1, h2, h3⟩ := R.ob i d (.inr e)
    exact ⟨d, _, h, ea, (h3.mono R.sub).rp h1⟩
  · exact h.elim
/-- an owned object is given away -/
theorem mv_ok {i : Nat} {Q : Sl → Ev → Prop} (R : ER K F σ H env) (h : mvS env i Q) :
    ∃ d env' v, Q (.ow d) env' ∧ σ[i]? = some (some v) ∧ ER K F σ H env' ∧ Tr env F σ H env' F σ H ∧ Fo K F H env' σ (NwOf env σ H) v d := by
  unfold mvS at h
  split at h
  · rename_i d e
    obtain ⟨a, ho, ea, h1, h2, h3⟩ := R.ob i d (.inl e)
    have hi := lt_of_get e
    have oa : OA env σ a := ⟨i, d, .inl e, ea⟩
    have own : ∀ {j d'}, Owns (env.set i .un) j d' → j ≠ i ∧ Owns env j d' := fun {j d'} q => by
      rcases owns_set q with ⟨_, z | z⟩ | ⟨ne, q⟩
      · cases z
      · cases z
      · exact ⟨ne, q⟩
    refine ⟨d, env.set i .un, .ref a, h, ea, ⟨R.sub, by rw [List.length_set]; exact R.len, fun j d' q => ?_, fun j d' q => R.ob j d' (own q).2, fun j l d' d'' b q q' => R.inj _ _ _ _ _ (own q).2 (own q').2⟩,
      ⟨Sam.refl _, fun b o q _ => .inl q, fun b q => q, fun b q => .inl q, fun b q => .inl ?_, fun j d' q => ?_⟩, a, ho, rfl, h1, h2, fun q => ?_, .inr oa, h3⟩
    · have ne : j ≠ i := fun z => by
        subst z
        rw [List.getElem?_set_self hi] at q
        cases q
      rw [List.getElem?_set_ne (Ne.symm ne)] at q
      exact R.sh j d' q
    · obtain ⟨j, d', q, eq⟩ := q
      exact ⟨j, d', (own q).2, eq⟩
    · have ne : j ≠ i := fun z => by subst z; rw [e] at q; cases q
      exact ⟨rfl, d', by rw [List.getElem?_set_ne (Ne.symm ne)]; exact q⟩
    · obtain ⟨j, d', q, eq⟩ := q
      exact (own q).1 (R.inj _ _ _ _ _ (own q).2 (.inl e) eq ea)
  · exact h.elim
end
end PL
end

section
set_option Elab.async false
set_option linter.all false
set_option autoImplicit false
set_option maxRecDepth 100000
/-! PLd: more may be wanted; the readings; how they are put together. -/
namespace PL
open PySem PySem.Spec PyProof.Rows L2

section
variable {Q Q' : Sl → Prop}
theorem binS_mono {o : Operator} {x y : D} (h : ∀ r, Q r → Q' r) : binS o x y Q → binS o x y Q' := by
  unfold binS
  split <;> intro q <;> first | exact h _ q | exact ⟨q.1, h _ q.2⟩ | exact ⟨q.1, q.2.1, h _ q.2.2⟩ | exact q
theorem cmpS_mono {o : CmpOp} {x y : D} {Q Q' : Bool → Prop} (h : ∀ r, Q r → Q' r) : cmpS o x y Q → cmpS o x y Q' := by
  unfold cmpS
  split <;> intro q <;> first | exact h _ q | exact ⟨q.1, h _ q.2⟩ | exact ⟨q.1, q.2.1, h _ q.2.2⟩ | exact q
theorem ixS_mono {x y : D} (h : ∀ r, Q r → Q' r) : ixS x y Q → ixS x y Q' := by
  unfold ixS
  split <;> intro q
  · exact ⟨q.choose, q.choose_spec.1, h _ q.choose_spec.2⟩
  · exact ⟨q.choose, q.choose_spec.1, h _ q.choose_spec.2⟩
  · exact ⟨q.1, q.2.choose, q.2.choose_spec.1, h _ q.2.choose_spec.2⟩
  · exact ⟨q.1, q.2.choose, q.2.choose_spec.1, h _ q.2.choose_spec.2⟩
  · exact q
theorem getS_mono {x k z : D} (h : ∀ r, Q r → Q' r) : getS x k z Q → getS x k z Q' := by
  unfold getS
  split <;> intro q <;> first | exact ⟨q.1, h _ q.2⟩ | exact q
theorem keysS_mono {x : D} {Q Q' : List D → Prop} (h : ∀ r, Q r → Q' r) : keysS x Q → keysS x Q' := by
  unfold keysS
  split <;> intro q <;> first | exact h _ q | exact q
theorem itemsS_mono {x : D} {Q Q' : List D → Prop} (h : ∀ r, Q r → Q' r) : itemsS x Q → itemsS x Q' := by
  unfold itemsS
  split <;> intro q <;> first | exact h _ q | exact q
theorem popS_mono {ds : List D} {k : D} {Q Q' : D → List D → Prop} (h : ∀ v ds', Q v ds' → Q' v ds') : popS ds k Q → popS ds k Q' := by
  unfold popS
  split <;> intro q
  · obtain ⟨j, v, a, b, c⟩ := q
    exact ⟨j, v, a, b, h _ _ c⟩
  · exact q
theorem partS_mono {ds : List D} {Q Q' : Option Int → Prop} (h : ∀ r, Q r → Q' r) : partS ds Q → partS ds Q' := by
  unfold partS
  split <;> intro q <;> first | exact h _ q | exact q
theorem slcS_mono {x : D} {lo hi : Option Int} (h : ∀ r, Q r → Q' r) : slcS x lo hi Q → slcS x lo hi Q' := by
  unfold slcS
  split <;> intro q <;> first | exact h _ q | exact ⟨q.1, h _ q.2⟩ | exact q
theorem revS_mono {x : D} (h : ∀ r, Q r → Q' r) : revS x Q → revS x Q' := by
  unfold revS
  split <;> intro q <;> first | exact h _ q | exact ⟨q.1, h _ q.2⟩ | exact q
theorem lenS_mono {x : D} (h : ∀ r, Q r → Q' r) : lenS x Q → lenS x Q' := by
  unfold lenS
  split <;> intro q <;> first | exact h _ q | exact ⟨q.1, h _ q.2⟩ | exact q
theorem biS_mono {b : Bi} {as : List D} (h : ∀ r, Q r → Q' r) : biS b as Q → biS b as Q' := by
  unfold biS
  split <;> intro q <;> first | exact h _ q | exact ⟨q.1, h _ q.2⟩ | exact ⟨q.choose, q.choose_spec.1, h _ q.choose_spec.2⟩ | exact ⟨q.1, fun es z => h _ (q.2 es z)⟩ | exact lenS_mono h q | exact q
theorem indexS_mono {x y : D} (h : ∀ r, Q r → Q' r) : indexS x y Q → indexS x y Q' := by
  unfold indexS
  split <;> intro q
  · obtain ⟨a, b, j, z, c, d, e, f⟩ := q
    exact ⟨a, b, j, z, c, d, e, h _ f⟩
  · exact q
theorem itemsOf_mono {x : D} {Q Q' : List D → Prop} (h : ∀ r, Q r → Q' r) : itemsOf x Q → itemsOf x Q' := by
  unfold itemsOf
  split <;> intro q <;> first | exact h _ q | exact q
theorem seqOf_mono {x : D} {Q Q' : List D → Prop} (h : ∀ r, Q r → Q' r) : seqOf x Q → seqOf x Q' := by
  unfold seqOf
  split <;> intro q <;> first | exact h _ q | exact q
theorem rngS_mono {xs : List D} {Q Q' : List D → Prop} (h : ∀ r, Q r → Q' r) : rngS xs Q → rngS xs Q' := by
  unfold rngS
  split <;> intro q <;> first | exact ⟨q.1, h _ q.2⟩ | exact q
end
theorem rd_mono {env : Ev} {i : Nat} {Q Q' : Sl → Ev → Prop} (h : ∀ r e, Q r e → Q' r e) : rd env i Q → rd env i Q' := by
  unfold rd
  split <;> intro q <;> first | exact h _ _ q | exact q
theorem mvS_mono {env : Ev} {i : Nat} {Q Q' : Sl → Ev → Prop} (h : ∀ r e, Q r e → Q' r e) : mvS env i Q → mvS env i Q' := by
  unfold mvS
  split <;> intro q <;> first | exact h _ _ q | exact q
theorem pk_mono {env : Ev} {i : Nat} {Q Q' : D → Prop} (h : ∀ r, Q r → Q' r) : pk env i Q → pk env i Q' := by
  unfold pk
  split <;> intro q <;> first | exact h _ q | exact q
theorem wr_mono {env : Ev} {i : Nat} {r : Sl} {Q Q' : Ev → Prop} (h : ∀ e, Q e → Q' e) : wr env i r Q → wr env i r Q' := by
  unfold wr
  split <;> intro q <;> first | exact h _ q | exact q
theorem wrs_mono {Q Q' : Ev → Prop} (h : ∀ e, Q e → Q' e) : ∀ {env : Ev} {is : List Nat} {rs : List Sl}, wrs env is rs Q → wrs env is rs Q'
  | _, [], [], q => h _ q
  | _, _ :: _, _ :: _, q => wr_mono (fun _ z => wrs_mono h z) q
  | _, [], _ :: _, q => q.elim
  | _, _ :: _, [], q => q.elim
theorem wpG_mono {g : G} {d : D} {env : Ev} {Q Q' : Ev → Prop} (h : ∀ e, Q e → Q' e) : wpG g d env Q → wpG g d env Q' := by
  unfold wpG
  split <;> intro q
  · exact wr_mono h q
  · exact wrs_mono h q
  · exact wrs_mono h q
  · exact q
theorem md_mono {env : Ev} {i : Nat} {f : D → (D → Prop) → Prop} (hf : ∀ d R R', (∀ x, R x → R' x) → f d R → f d R') {Q Q' : Ev → Prop} (h : ∀ e, Q e → Q' e) : md env i f Q → md env i f Q' := by
  unfold md
  split <;> intro q
  · exact hf _ _ _ (fun _ z => h _ z) q
  · exact hf _ _ _ (fun _ z => h _ z) q
  · exact q
theorem appS_mono (y : D) : ∀ (d : D) (R R' : D → Prop), (∀ x, R x → R' x) → appS y d R → appS y d R' := fun d R R' h => by
  unfold appS
  split <;> intro q
  · exact ⟨q.1, h _ q.2⟩
  · exact q
theorem extS_mono (y : D) : ∀ (d : D) (R R' : D → Prop), (∀ x, R x → R' x) → extS y d R → extS y d R' := fun d R R' h => by
  unfold extS
  split <;> intro q
  · exact ⟨q.1, h _ q.2⟩
  · exact q
theorem setS_mono (k y : D) : ∀ (d : D) (R R' : D → Prop), (∀ x, R x → R' x) → setS k y d R → setS k y d R' := fun d R R' h => by
  unfold setS
  split <;> intro q
  · exact ⟨q.1, q.2.1, h _ q.2.2⟩
  · exact ⟨q.choose, q.choose_spec.1, h _ q.choose_spec.2⟩
  · exact q
theorem updS_mono (y : D) : ∀ (d : D) (R R' : D → Prop), (∀ x, R x → R' x) → updS y d R → updS y d R' := fun d R R' h => by
  unfold updS
  split <;> intro q
  · exact ⟨q.1, h _ q.2⟩
  · exact q
theorem loopF_mono {g : D → Ev → (Ev → Prop) → Prop} {b : Ev → (Out → Prop) → Prop} (hg : ∀ d e R R', (∀ x, R x → R' x) → g d e R → g d e R') (hb : ∀ e R R', (∀ x, R x → R' x) → b e R → b e R') {Q Q' : Out → Prop} (h : ∀ o, Q o → Q' o) :
    ∀ {xs : List D} {env : Ev}, loopF g b xs env Q → loopF g b xs env Q'
  | [], _, q => h _ q
  | _ :: _, _, q => hg _ _ _ _ (fun _ z => hb _ _ _ (fun o w => by
      cases o with
      | nx e => exact loopF_mono hg hb h w
      | ct e => exact loopF_mono hg hb h w
      | bk e => exact h _ w
      | rt r e => exact h _ w) z) q
theorem loopW_mono {t : Ev → (Bool → Ev → Prop) → Prop} {b : Ev → (Out → Prop) → Prop} (ht : ∀ e R R', (∀ c x, R c x → R' c x) → t e R → t e R') (hb : ∀ e R R', (∀ x, R x → R' x) → b e R → b e R') {Q Q' : Out → Prop} (h : ∀ o, Q o → Q' o) :
    ∀ {n : Nat} {env : Ev}, loopW t b n env Q → loopW t b n env Q'
  | 0, _, q => q.elim
  | n + 1, _, q => ht _ _ _ (fun c _ z => by
      cases c with
      | false => exact h _ z
      | true => exact hb _ _ _ (fun o w => by
          cases o with
          | nx e => exact loopW_mono ht hb h w
          | ct e => exact loopW_mono ht hb h w
          | bk e => exact h _ w
          | rt r e => exact h _ w) z) q
theorem loopC_mono {g : D → Ev → (Ev → Prop) → Prop} {t : Ev → (Bool → Ev → Prop) → Prop} {p : Ev → (Sl → Ev → Prop) → Prop} {own : List Nat} (hg : ∀ d e R R', (∀ x, R x → R' x) → g d e R → g d e R')
    (ht : ∀ e R R', (∀ c x, R c x → R' c x) → t e R → t e R') (hp : ∀ e R R', (∀ c x, R c x → R' c x) → p e R → p e R') {Q Q' : List D → Ev → Prop} (h : ∀ o e, Q o e → Q' o e) :
    ∀ {xs : List D} {env : Ev} {acc : List D}, loopC g t p own xs env acc Q → loopC g t p own xs env acc Q'
  | [], _, _, q => h _ _ q
  | _ :: _, _, _, q => hg _ _ _ _ (fun _ z => ht _ _ _ (fun c _ w => by
      cases c with
      | false => exact loopC_mono hg ht hp h w
      | true => exact hp _ _ _ (fun r _ u => loopC_mono hg ht hp h u) w) z) q

theorem loopD_mono {g : D → Ev → (Ev → Prop) → Prop} {t : Ev → (Bool → Ev → Prop) → Prop} {p q : Ev → (Sl → Ev → Prop) → Prop} {own : List Nat} (hg : ∀ d e R R', (∀ x, R x → R' x) → g d e R → g d e R')
    (ht : ∀ e R R', (∀ c x, R c x → R' c x) → t e R → t e R') (hp : ∀ e R R', (∀ c x, R c x → R' c x) → p e R → p e R') (hq : ∀ e R R', (∀ c x, R c x → R' c x) → q e R → q e R') {Q Q' : List (D × D) → Ev → Prop} (h : ∀ o e, Q o e → Q' o e) :
    ∀ {xs : List D} {env : Ev} {acc : List (D × D)}, loopD g t p q own xs env acc Q → loopD g t p q own xs env acc Q'
  | [], _, _, w => h _ _ w
  | _ :: _, _, _, w => hg _ _ _ _ (fun _ z => ht _ _ _ (fun c _ w => by
      cases c with
      | false => exact loopD_mono hg ht hp hq h w
      | true => exact hp _ _ _ (fun r _ u => hq _ _ _ (fun s _ u => ⟨u.1, loopD_mono hg ht hp hq h u.2⟩) u) w) z) w
theorem loopC2_mono {g g1 : D → Ev → (Ev → Prop) → Prop} {t t1 : Ev → (Bool → Ev → Prop) → Prop} {i1 : Ev → (List D → Ev → Prop) → Prop} {p : Ev → (Sl → Ev → Prop) → Prop} {own own1 : List Nat} (hg : ∀ d e R R', (∀ x, R x → R' x) → g d e R → g d e R')
    (ht : ∀ e R R', (∀ c x, R c x → R' c x) → t e R → t e R') (hi : ∀ e R R', (∀ c x, R c x → R' c x) → i1 e R → i1 e R') (hg1 : ∀ d e R R', (∀ x, R x → R' x) → g1 d e R → g1 d e R')
    (ht1 : ∀ e R R', (∀ c x, R c x → R' c x) → t1 e R → t1 e R') (hp : ∀ e R R', (∀ c x, R c x → R' c x) → p e R → p e R') {Q Q' : List D → Ev → Prop} (h : ∀ o e, Q o e → Q' o e) :
    ∀ {xs : List D} {env : Ev} {acc : List D}, loopC2 g t i1 g1 t1 p own own1 xs env acc Q → loopC2 g t i1 g1 t1 p own own1 xs env acc Q'
  | [], _, _, w => h _ _ w
  | _ :: _, _, _, w => hg _ _ _ _ (fun _ z => ht _ _ _ (fun c _ w => by
      cases c with
      | false => exact loopC2_mono hg ht hi hg1 ht1 hp h w
      | true => exact hi _ _ _ (fun ys _ u => ⟨u.1, loopC_mono hg1 ht1 hp (fun _ _ u => loopC2_mono hg ht hi hg1 ht1 hp h u) u.2⟩) w) z) w

section
variable {tb : Tab}
mutual
theorem wpE_mono : ∀ (p : P) {env : Ev} {Q Q' : Sl → Ev → Prop}, (∀ r e, Q r e → Q' r e) → wpE tb p env Q → wpE tb p env Q'
  | .var i, _, _, _, h, w => rd_mono h w
  | .mv i, _, _, _, h, w => mvS_mono h w
  | .pr a b, _, _, _, h, w => wpE_mono a (fun _ _ w => wpE_mono b (fun r e w => by
      cases r with
      | ow d => exact h _ _ w
      | _ => exact w) w) w
  | .int _, _, _, _, h, w => h _ _ w
  | .bl _, _, _, _, h, w => h _ _ w
  | .non, _, _, _, h, w => h _ _ w
  | .str _, _, _, _, h, w => h _ _ w
  | .glob _, _, _, _, h, ⟨d, e, w⟩ => ⟨d, e, h _ _ w⟩
  | .bin o a b, _, _, _, h, w => wpE_mono a (fun _ _ w => wpE_mono b (fun _ _ w => binS_mono (fun _ w => h _ _ w) w) w) w
  | .neg a, _, _, _, h, w => wpE_mono a (fun r e w => by
      revert w
      show (match r.d with | .int i => _ | _ => False) → (match r.d with | .int i => _ | _ => False)
      split <;> intro w <;> first | exact h _ _ w | exact w) w
  | .cmp o a b, _, _, _, h, w => wpE_mono a (fun _ _ w => wpE_mono b (fun _ _ w => cmpS_mono (fun _ w => h _ _ w) w) w) w
  | .cmpB o a i, _, _, _, h, w => wpE_mono a (fun _ _ w => pk_mono (fun _ w => cmpS_mono (fun _ w => h _ _ w) w) w) w
  | .cmpL o i b, _, _, _, h, w => ⟨w.1, wpE_mono b (fun _ _ w => pk_mono (fun _ w => cmpS_mono (fun _ w => h _ _ w) w) w) w.2⟩
  | .chain o o2 a b c, _, _, _, h, w => wpE_mono a (fun _ _ w => wpE_mono b (fun _ _ w => cmpS_mono (fun k w => by
      cases k with
      | false => exact h _ _ w
      | true => exact wpE_mono c (fun _ _ w => cmpS_mono (fun _ w => h _ _ w) w) w) w) w) w
  | .and a b, _, _, _, h, w => wpE_mono a (fun r e w => by
      revert w
      show (match r.d with | .bool false => _ | .bool true => _ | _ => False) → (match r.d with | .bool false => _ | .bool true => _ | _ => False)
      split <;> intro w <;> first | exact h _ _ w | exact wpE_mono b h w | exact w) w
  | .or a b, _, _, _, h, w => wpE_mono a (fun r e w => by
      revert w
      show (match r.d with | .bool true => _ | .bool false => _ | _ => False) → (match r.d with | .bool true => _ | .bool false => _ | _ => False)
      split <;> intro w <;> first | exact h _ _ w | exact wpE_mono b h w | exact w) w
  | .not a, _, _, _, h, w => wpE_mono a (fun r e w => by
      revert w
      show (match r.d with | .bool c => _ | _ => False) → (match r.d with | .bool c => _ | _ => False)
      split <;> intro w <;> first | exact h _ _ w | exact w) w
  | .ife t a b, _, _, _, h, w => wpT_mono t (fun c e w => by
      cases c with
      | true => exact wpE_mono a h w
      | false => exact wpE_mono b h w) w
  | .tup as, _, _, _, h, w => wpA_mono as (fun _ _ w => h _ _ w) w
  | .lst as, _, _, _, h, w => wpA_mono as (fun _ _ w => h _ _ w) w
  | .ix a b, _, _, _, h, w => wpE_mono a (fun _ _ w => wpE_mono b (fun _ _ w => ixS_mono (fun _ w => h _ _ w) w) w) w
  | .ixB i b, _, _, _, h, w => ⟨w.1, wpE_mono b (fun _ _ w => pk_mono (fun _ w => ixS_mono (fun _ w => h _ _ w) w) w) w.2⟩
  | .slc a lo hi, _, _, _, h, w => wpE_mono a (fun _ _ w => wpA_mono lo (fun _ _ w => partS_mono (fun _ w => wpA_mono hi (fun _ _ w => partS_mono (fun _ w => slcS_mono (fun _ w => h _ _ w) w) w) w) w) w) w
  | .rev a, _, _, _, h, w => wpE_mono a (fun _ _ w => revS_mono (fun _ w => h _ _ w) w) w
  | .call x nd as, _, _, _, h, ⟨en, e, k, n, w⟩ => ⟨en, e, k, n, wpA_mono as (fun _ _ w => en.mono (fun _ _ w => h _ _ w) w) w⟩
  | .callK x ks as, _, _, _, h, ⟨en, pm, e, k, n, w⟩ => ⟨en, pm, e, k, n, wpA_mono as (fun _ _ w => en.mono (fun _ _ w => h _ _ w) w) w⟩
  | .callW x i as, _, _, _, h, ⟨en, e, k, p, w⟩ => ⟨en, e, k, p, wpA_mono as (fun rs env1 w => by
      revert w
      cases env1[i]? with
      | none => exact id
      | some s =>
        cases s with
        | un => exact id
        | sh d => exact id
        | tp x d => exact id
        | ow d => exact fun w => en.mono (fun _ _ w => h _ _ w) w
        | io d => exact fun w => en.mono (fun _ _ w => h _ _ w) w) w⟩
  | .bi b as, _, _, _, h, w => wpA_mono as (fun _ _ w => biS_mono (fun _ w => h _ _ w) w) w
  | .lenB i, _, _, _, h, w => pk_mono (fun _ w => lenS_mono (fun _ w => h _ _ w) w) w
  | .isi ks a, _, _, _, h, w => wpE_mono a (fun _ _ w => ⟨w.1, h _ _ w.2⟩) w
  | .lc own it g ts e, _, _, _, h, w => wpI_mono it (fun _ _ w => ⟨w.1, loopC_mono (g := wpG g) (t := fun v R => wpTs tb ts v R) (p := fun v R => wpE tb e v R) (fun _ _ _ _ h w => wpG_mono h w) (fun _ _ _ h w => wpTs_mono ts h w) (fun _ _ _ h w => wpE_mono e h w) (fun _ _ w => h _ _ w) w.2⟩) w
  | .index a b, _, _, _, h, w => wpE_mono a (fun _ _ w => ⟨w.1, wpE_mono b (fun _ _ w => indexS_mono (fun _ w => h _ _ w) w) w.2⟩) w
  | .fz a, _, _, _, h, w => wpE_mono a (fun _ _ w => h _ _ w) w
  | .dnew, _, _, _, h, w => h _ _ w
  | .dget a k x, _, _, _, h, w => wpE_mono a (fun _ _ w => ⟨w.1, wpE_mono k (fun _ _ w => wpE_mono x (fun _ _ w => getS_mono (fun _ w => h _ _ w) w) w) w.2⟩) w
  | .dgetB i k x, _, _, _, h, w => ⟨w.1, wpE_mono k (fun _ _ w => wpE_mono x (fun _ _ w => pk_mono (fun _ w => getS_mono (fun _ w => h _ _ w) w) w) w) w.2⟩
  | .dc own it g ts k v, _, _, _, h, w => wpI_mono it (fun _ _ w => ⟨w.1, loopD_mono (g := wpG g) (t := fun v R => wpTs tb ts v R) (p := fun v R => wpE tb k v R) (q := fun w R => wpE tb v w R) (fun _ _ _ _ h w => wpG_mono h w) (fun _ _ _ h w => wpTs_mono ts h w) (fun _ _ _ h w => wpE_mono k h w) (fun _ _ _ h w => wpE_mono v h w) (fun _ _ w => h _ _ w) w.2⟩) w
  | .lc2 own own1 it g ts it1 g1 ts1 e, _, _, _, h, w => wpI_mono it (fun _ _ w => loopC2_mono (g := wpG g) (g1 := wpG g1) (t := fun v R => wpTs tb ts v R) (t1 := fun v R => wpTs tb ts1 v R) (i1 := fun v R => wpI tb it1 v R) (p := fun v R => wpE tb e v R) (fun _ _ _ _ h w => wpG_mono h w) (fun _ _ _ h w => wpTs_mono ts h w) (fun _ _ _ h w => wpI_mono it1 h w) (fun _ _ _ _ h w => wpG_mono h w) (fun _ _ _ h w => wpTs_mono ts1 h w) (fun _ _ _ h w => wpE_mono e h w) (fun _ _ w => h _ _ w) w) w
  | .pop i k, _, _, _, h, w => ⟨w.1, wpE_mono k (fun y e w => by
      revert w
      show (match e[i]? with | some (.ow (.list ds)) => _ | some (.io (.list ds)) => _ | _ => False) → (match e[i]? with | some (.ow (.list ds)) => _ | some (.io (.list ds)) => _ | _ => False)
      split <;> intro w <;> first | exact popS_mono (fun _ _ w => h _ _ w) w | exact w) w.2⟩
  | .rgl1 _ a, _, _, _, h, w => wpE_mono a (fun _ _ w => rngS_mono (fun _ w => h _ _ w) w) w
  | .rgl2 _ a b, _, _, _, h, w => wpE_mono a (fun _ _ w => wpE_mono b (fun _ _ w => rngS_mono (fun _ w => h _ _ w) w) w) w
theorem wpT_mono : ∀ (p : T) {env : Ev} {Q Q' : Bool → Ev → Prop}, (∀ r e, Q r e → Q' r e) → wpT tb p env Q → wpT tb p env Q'
  | .val a, _, _, _, h, w => wpE_mono a (fun r e w => by
      revert w
      show (match r.d with | .bool c => _ | _ => False) → (match r.d with | .bool c => _ | _ => False)
      split <;> intro w <;> first | exact h _ _ w | exact w) w
  | .cmp o a b, _, _, _, h, w => wpE_mono a (fun _ _ w => wpE_mono b (fun _ _ w => cmpS_mono (fun _ w => h _ _ w) w) w) w
  | .cmpB o a i, _, _, _, h, w => wpE_mono a (fun _ _ w => pk_mono (fun _ w => cmpS_mono (fun _ w => h _ _ w) w) w) w
  | .cmpL o i b, _, _, _, h, w => ⟨w.1, wpE_mono b (fun _ _ w => pk_mono (fun _ w => cmpS_mono (fun _ w => h _ _ w) w) w) w.2⟩
  | .chain o o2 a b c, _, _, _, h, w => wpE_mono a (fun _ _ w => wpE_mono b (fun _ _ w => cmpS_mono (fun k w => by
      cases k with
      | false => exact h _ _ w
      | true => exact wpE_mono c (fun _ _ w => cmpS_mono (fun _ w => h _ _ w) w) w) w) w) w
  | .and a b, _, _, _, h, w => wpT_mono a (fun c e w => by
      cases c with
      | true => exact wpT_mono b h w
      | false => exact h _ _ w) w
  | .or a b, _, _, _, h, w => wpT_mono a (fun c e w => by
      cases c with
      | true => exact h _ _ w
      | false => exact wpT_mono b h w) w
  | .not a, _, _, _, h, w => wpT_mono a (fun _ _ w => h _ _ w) w
theorem wpA_mono : ∀ (p : As) {env : Ev} {Q Q' : List Sl → Ev → Prop}, (∀ r e, Q r e → Q' r e) → wpA tb p env Q → wpA tb p env Q'
  | .nil, _, _, _, h, w => h _ _ w
  | .cons a r, _, _, _, h, w => wpE_mono a (fun _ _ w => wpA_mono r (fun _ _ w => h _ _ w) w) w
theorem wpTs_mono : ∀ (p : Ts) {env : Ev} {Q Q' : Bool → Ev → Prop}, (∀ r e, Q r e → Q' r e) → wpTs tb p env Q → wpTs tb p env Q'
  | .nil, _, _, _, h, w => h _ _ w
  | .one t, _, _, _, h, w => wpT_mono t h w
theorem wpI_mono : ∀ (p : It) {env : Ev} {Q Q' : List D → Ev → Prop}, (∀ r e, Q r e → Q' r e) → wpI tb p env Q → wpI tb p env Q'
  | .seq a, _, _, _, h, w => wpE_mono a (fun _ _ w => itemsOf_mono (fun _ w => h _ _ w) w) w
  | .rng1 a, _, _, _, h, w => wpE_mono a (fun _ _ w => rngS_mono (fun _ w => h _ _ w) w) w
  | .rng2 a b, _, _, _, h, w => wpE_mono a (fun _ _ w => wpE_mono b (fun _ _ w => rngS_mono (fun _ w => h _ _ w) w) w) w
  | .rng3 a b c, _, _, _, h, w => wpE_mono a (fun _ _ w => wpE_mono b (fun _ _ w => wpE_mono c (fun _ _ w => rngS_mono (fun _ w => h _ _ w) w) w) w) w
  | .enum a, _, _, _, h, w => wpE_mono a (fun _ _ w => seqOf_mono (fun _ w => h _ _ w) w) w
  | .zip a b, _, _, _, h, w => wpE_mono a (fun _ _ w => wpE_mono b (fun _ _ w => ⟨w.1, seqOf_mono (fun _ w => seqOf_mono (fun _ w => h _ _ w) w) w.2⟩) w) w
  | .keys a, _, _, _, h, w => wpE_mono a (fun _ _ w => keysS_mono (fun _ w => h _ _ w) w) w
  | .items a, _, _, _, h, w => wpE_mono a (fun _ _ w => itemsS_mono (fun _ w => h _ _ w) w) w
end
theorem wpS_mono : ∀ (p : S) {env : Ev} {Q Q' : Out → Prop}, (∀ o, Q o → Q' o) → wpS tb p env Q → wpS tb p env Q'
  | .skip, _, _, _, h, w => h _ w
  | .seq a b, _, _, _, h, w => wpS_mono a (fun o w => by
      cases o with
      | nx e => exact wpS_mono b h w
      | ct e => exact h _ w
      | bk e => exact h _ w
      | rt r e => exact h _ w) w
  | .set i e, _, _, _, h, w => wpE_mono e (fun _ _ w => wr_mono (fun _ w => h _ w) w) w
  | .setF i e, _, _, _, h, w => wpE_mono e (fun _ _ w => wr_mono (fun _ w => h _ w) w) w
  | .par is as, _, _, _, h, w => wpA_mono as (fun _ _ w => wrs_mono (fun _ w => h _ w) w) w
  | .unp is e, _, _, _, h, w => wpE_mono e (fun r e w => by
      cases r with
      | tp x d => exact wrs_mono (fun _ w => h _ w) w
      | _ => exact wpG_mono (fun _ w => h _ w) w) w
  | .ite t a b, _, _, _, h, w => wpT_mono t (fun c e w => by
      cases c with
      | true => exact wpS_mono a h w
      | false => exact wpS_mono b h w) w
  | .whl t b, _, _, _, h, ⟨n, w⟩ => ⟨n, loopW_mono (t := fun v R => wpT tb t v R) (b := fun v R => wpS tb b v R) (fun _ _ _ h w => wpT_mono t h w) (fun _ _ _ h w => wpS_mono b h w) h w⟩
  | .for_ g it b, _, _, _, h, w => wpI_mono it (fun _ _ w => loopF_mono (g := wpG g) (b := fun v R => wpS tb b v R) (fun _ _ _ _ h w => wpG_mono h w) (fun _ _ _ h w => wpS_mono b h w) h w) w
  | .ret e, _, _, _, h, w => wpE_mono e (fun _ _ w => h _ w) w
  | .expr e, _, _, _, h, w => wpE_mono e (fun _ _ w => h _ w) w
  | .app i e, _, _, _, h, w => ⟨w.1, wpE_mono e (fun _ _ w => md_mono (appS_mono _) (fun _ w => h _ w) w) w.2⟩
  | .ext i e, _, _, _, h, w => ⟨w.1, wpE_mono e (fun r _ w => by
      cases r with
      | ow d => exact md_mono (extS_mono _) (fun _ w => h _ w) w
      | _ => exact w) w.2⟩
  | .upd i e, _, _, _, h, w => ⟨w.1, wpE_mono e (fun _ _ w => md_mono (updS_mono _) (fun _ w => h _ w) w) w.2⟩
  | .setIx i k e, _, _, _, h, w => wpE_mono e (fun _ _ w => ⟨w.1, wpE_mono k (fun _ _ w => md_mono (setS_mono _ _) (fun _ w => h _ w) w) w.2⟩) w
  | .tmp i e t r, _, _, _, h, w => wpE_mono e (fun y e w => by
      cases y with
      | tp x d => exact ⟨w.1, wr_mono (fun _ w => wpT_mono t (fun c e w => by
          cases c with
          | true => exact wpE_mono r (fun _ _ w => h _ w) w
          | false => exact ⟨w.1, w.2.1, h _ w.2.2⟩) w) w.2⟩
      | _ => exact w) w
  | .brk, _, _, _, h, w => h _ w
  | .cnt, _, _, _, h, w => h _ w
  | .never, _, _, _, h, w => w.elim
end
end PL
end

section
set_option Elab.async false
set_option linter.all false
set_option autoImplicit false
set_option maxRecDepth 100000
set_option maxHeartbeats 1000000
/-! PLe: the operators, by values. -/
namespace PL
open PySem PySem.Spec PyProof.Rows L2

/-- the state grows by a value -/
def Ext (K : PySem.W.Frag) (F H F' H' : Hp) (v : V) (r : Sl) : Prop := ∀ (env : Ev) (σ : L2.St), ER K F σ H env → ER K F' σ H' env ∧ Tr env F σ H env F' σ H' ∧ RR K F' H' env σ (fun a => H a = none) v r
section
variable {K : PySem.W.Frag} {F H : Hp} {v : V} {d : D} {p : Addr} {xs : List V} {ds : List D} {ho : HO}
theorem ext_val (r : Rp K F v d) : Ext K F H F H v (.sh d) := fun env σ R => ⟨R, Tr.refl _ _ _ _, r⟩
theorem ext_tup (hp : H p = none) (r : RpAll K F xs ds) (hz : xs.length ≤ sizeLine) : Ext K F H (upd F p (.tup xs)) (upd H p (.tup xs)) (.ref p) (.sh (.tuple ds)) := fun env σ R =>
  let ⟨a, b, c⟩ := R.newT hp r hz
  ⟨a, b, c⟩
theorem ext_obj (hp : H p = none) (r : RpO K F ho d) : Ext K F H F (upd H p ho) (.ref p) (.ow d) := fun env σ R => R.newO hp r
theorem ext_lst (hp : H p = none) (r : RpAll K F xs ds) (hz : xs.length ≤ sizeLine) : Ext K F H F (upd H p (.lst xs)) (.ref p) (.ow (.list ds)) := ext_obj hp ⟨hz, r⟩
end
/-- what a value that is to come must satisfy -/
def Wt (K : PySem.W.Frag) (F H : Hp) (Q : VK) : Sl → Prop := fun r => ∀ v F' H', Ext K F H F' H' v r → Q v H'
theorem Wt.val {K : PySem.W.Frag} {F H : Hp} {Q : VK} {v : V} {d : D} (w : Wt K F H Q (.sh d)) (r : Rp K F v d) : Q v H := w v F H (ext_val r)
theorem Wt.tup {K : PySem.W.Frag} {F H : Hp} {Q : VK} {xs : List V} {ds : List D} (w : Wt K F H Q (.sh (.tuple ds))) (r : RpAll K F xs ds) (hz : xs.length ≤ sizeLine) : ∀ p, H p = none → Q (.ref p) (upd H p (.tup xs)) := fun p hp => w _ _ _ (ext_tup hp r hz)
theorem Wt.lst {K : PySem.W.Frag} {F H : Hp} {Q : VK} {xs : List V} {ds : List D} (w : Wt K F H Q (.ow (.list ds))) (r : RpAll K F xs ds) (hz : xs.length ≤ sizeLine) : ∀ p, H p = none → Q (.ref p) (upd H p (.lst xs)) := fun p hp => w _ _ _ (ext_lst hp r hz)
theorem LIM_eq : LIM = sizeLine := by rw [sizeLine_eq]; rfl

/-! ### lists that are read -/
section
variable {X : Cx} {pins : List (Addr × Obj)} {σ : L2.St} {H : Hp} {s : Shared}
theorem rdL (I : Inv X pins σ H s) {a : Addr} {xs : List V} (h : Rd H a (.lst xs)) : xs.length ≤ sizeLine ∧ ∃ (its : List Value) (n : Nat), Vals xs its ∧ xs.length = its.length ∧ s.heap.get? a = some { cls := .type "list", data := .seq its.toArray n } := by
  obtain ⟨z, its, n, r, e⟩ := h.ok I.hok
  exact ⟨z, its, n, r, r.length, e⟩
def rCatR : R2 := fun x y H Q => ∃ l b xs zs, x = .ref l ∧ y = .ref b ∧ Rd H l (.lst xs) ∧ Rd H b (.lst zs) ∧ xs.length + zs.length ≤ sizeLine ∧ ∀ p, H p = none → Q (.ref p) (upd H p (.lst (xs ++ zs)))
theorem op_catR : OpR X (binaryOp .Add) rCatR := by
  intro pins s σ H x y v u Q I rx ry h
  obtain ⟨l, b, xs, zs, rfl, rfl, hH, hB, hz, q⟩ := h
  cases rx
  cases ry
  obtain ⟨z, its, n, r, hl, e⟩ := rdL I hH
  obtain ⟨z2, its2, n2, r2, hl2, e2⟩ := rdL I hB
  refine PySem.P.add_list e e2 ?_ (by rw [List.size_toArray, List.size_toArray]; omega)
  have ea : its.toArray ++ its2.toArray = (its ++ its2).toArray := by simp
  rw [ea]
  exact ⟨.ref _, _, I.lnew (t' := s.toks) (r.append r2) (by rw [List.length_append]; omega), rfl, q _ I.fresh⟩
def rRepR : R2 := fun x y H Q => ∃ l k xs, x = .ref l ∧ y = .int k ∧ Rd H l (.lst xs) ∧ k ≤ 1000 ∧ xs.length ≤ 1000 ∧ ∀ p, H p = none → Q (.ref p) (upd H p (.lst (List.replicate k.toNat xs).flatten))
theorem fl_rep (its : List Value) : ∀ m : Nat, List.foldl (fun x1 x2 => x1 ++ x2) #[] (List.replicate m its.toArray) = (List.replicate m its).flatten.toArray := fun m => by
  have := foldl_rep its m []
  rw [List.nil_append] at this
  exact this
theorem mul_small {a b : Nat} (ha : a ≤ 1000) (hb : b ≤ 1000) : a * b ≤ sizeLine := by
  have h : a * b ≤ 1000 * 1000 := Nat.mul_le_mul ha hb
  rw [sizeLine_eq]
  omega
/-- below a bound where an int can't stand for a size the model has another word; our ints here are below it -/
theorem op_repR : OpR X (binaryOp .Mult) (fun x y H Q => rRepR x y H Q ∧ ∃ k, y = .int k ∧ -(2 ^ 63) ≤ k) := by
  intro pins s σ H x y v u Q I rx ry h
  obtain ⟨⟨l, k, xs, rfl, rfl, hH, h2, hz, q⟩, k', ek, h1⟩ := h
  cases ek
  cases rx
  obtain ⟨t, rfl⟩ := ry
  obtain ⟨z, its, n, r, hl, e⟩ := rdL I hH
  have hz' : xs.length * k.toNat ≤ sizeLine := mul_small hz (by omega)
  have hlen : its.toArray.size * k.toNat ≤ sizeLine := by rw [List.size_toArray, ← hl]; exact hz'
  have hcap : ¬ its.toArray.size * k.toNat > (2 ^ 63 - 1) / 8 := by
    have : (sizeLine : Nat) ≤ (2 ^ 63 - 1) / 8 := by decide
    omega
  have hfit : ¬ (!Builtin.List.listFitsIndex k) = true := by
    rw [fitsIndex_both h1 (by omega)]
    exact Bool.false_ne_true
  have hlong : ¬ Builtin.List.listTooLong (its.toArray.size * k.toNat) = true := by
    rw [notLongL hlen]
    exact Bool.false_ne_true
  have hnew : List.foldl (fun x1 x2 => x1 ++ x2) #[] (List.replicate (if its.toArray.isEmpty = true then 0 else k.toNat) its.toArray) = (List.replicate k.toNat its).flatten.toArray := by
    rw [fl_rep]
    cases its with
    | nil => simp
    | cons a r' => rw [if_neg (by simp)]
  refine wpAny_binaryOp_repeat_ref (T := "list") (U := "int") (by decide) ⟨_, e, rfl⟩ (fun s' => typeIs_int s' k t) noFill_list_mul F.fills_int_mul F.slot_int_rmul repeat_list F.slot_int_index.lookup
    (call_meets F.slot_int_rmul (typeIs_int s k t) F.entry_int_rmul (F.args_int_rmul_2 _ _) (int___rmul___int_list k t l its.toArray n)
      ⟨e, rfl, ⟨_, e, rfl⟩, call_meets F.slot_list_mul ⟨_, e, rfl⟩ F.entry_list_mul (F.args_list_mul_2 _ _) (AutoListH.list___mul___list_int_3 l its.toArray n k t hfit hcap hlong) ⟨e, ?_⟩⟩)
  rw [hnew]
  exact ⟨.ref _, _, I.lnew (t' := s.toks) (r.rep k.toNat) (by rw [PyProof.Rows.lm_len_rep_flat, Nat.mul_comm]; exact hz'), rfl, q _ I.fresh⟩
end
/-! ### tuples times an int that is 0 or 1, or less -/
theorem tuple_mul1 (l : Addr) (items : Array Value) (n : Nat) (x : Int) (u : Tok) (c0 : (decide (x < -(2 ^ 63)) || decide (x ≥ 2 ^ 63)) = false) (c1 : (items.isEmpty || x == 1) = true) :
    Meets (Builtin.«tuple.__mul__» ⟨[.ref l, .int x u], []⟩) (fun _ R s => (∃ dd sl, s.heap.get? l = some { cls := .type "tuple", dict := dd, data := .seq items n, slots := sl }) ∧ R (.ok (.ret (Value.ref l))) s) :=
  .of_wp fun prog w A R s h => by
    obtain ⟨hp, g, d, tk, os⟩ := s
    obtain ⟨⟨dd, sl, hl⟩, h⟩ := h
    have f1 := AutoSeq1.idx_int
    wp_walk using wpAny_loadPart' hl
    repeat (first
      | (refine wpAny_ite_false (decide_eq_false (by rw [c0]; exact Bool.false_ne_true)) ?_; wp_walk using wpAny_loadPart' hl)
      | (refine wpAny_ite_true (decide_eq_true (by rw [c1])) ?_; wp_walk using wpAny_loadPart' hl))
    exact ⟨_, rfl, h⟩
theorem tuple_mul0 (l : Addr) (items : Array Value) (n : Nat) (x : Int) (u : Tok) (c0 : (decide (x < -(2 ^ 63)) || decide (x ≥ 2 ^ 63)) = false) (c1 : (items.isEmpty || x == 1) = false) (c2 : (decide (x ≤ 0) || items.isEmpty) = true) :
    Meets (Builtin.«tuple.__mul__» ⟨[.ref l, .int x u], []⟩) (fun _ R s => (∃ dd sl, s.heap.get? l = some { cls := .type "tuple", dict := dd, data := .seq items n, slots := sl }) ∧
      R (.ok (.ret (Value.ref s.heap.objs.size))) { s with heap := s.heap.push { cls := Value.type "tuple", data := Data.seq #[] }, toks := s.toks }) :=
  .of_wp fun prog w A R s h => by
    obtain ⟨hp, g, d, tk, os⟩ := s
    obtain ⟨⟨dd, sl, hl⟩, h⟩ := h
    have f1 := AutoSeq1.idx_int
    wp_walk using wpAny_loadPart' hl
    repeat (first
      | (refine wpAny_ite_false (decide_eq_false (by rw [c0]; exact Bool.false_ne_true)) ?_; wp_walk using wpAny_loadPart' hl)
      | (refine wpAny_ite_false (decide_eq_false (by rw [c1]; exact Bool.false_ne_true)) ?_; wp_walk using wpAny_loadPart' hl)
      | (refine wpAny_ite_true (decide_eq_true (by rw [c2])) ?_; wp_walk using wpAny_loadPart' hl))
    exact ⟨_, rfl, h⟩
end PL
end

section
set_option Elab.async false
set_option linter.all false
set_option autoImplicit false
set_option maxRecDepth 100000
set_option maxHeartbeats 1000000
/-! PLf: the operators' rules. -/
namespace PL
open PySem PySem.Spec PyProof.Rows L2

section
variable {X : Cx}
theorem mul_ok {i j : Int} (h : MulOk i j) : IntMulOk i j := by
  have b : ∀ x : Int, Builtin.Int.intBits x ≤ x.natAbs.log2 + 1 := fun x => by
    unfold Builtin.Int.intBits
    split <;> omega
  have h1 := b i
  have h2 := b j
  have h3 : i.natAbs.log2 + j.natAbs.log2 < 100000000 := h
  have e : bitsLine = 134217728 := by decide
  unfold IntMulOk
  intro z
  rw [Bool.and_eq_true] at z
  have z2 := z.2
  unfold Builtin.Int.intTooBig at z2
  have z3 := of_decide_eq_true z2
  rw [e] at z3
  omega
theorem op_mulZ : OpR X (binaryOp .Mult) (rI MulOk fun i j => .int (i * j)) := opI fun _ _ _ _ _ _ _ hc q => mul_int q (mul_ok hc)
theorem op_divZ : OpR X (binaryOp .FloorDiv) (rI DivOk fun i j => .int (i.fdiv j)) := opI fun _ _ _ _ _ _ _ hc q => floordiv_int hc.1 q (.inl hc.2)
theorem rp_int {K : PySem.W.Frag} {H : Hp} {v : V} {i : Int} (h : Rp K H v (.int i)) : v = .int i := by cases h; rfl
theorem rp_bool {K : PySem.W.Frag} {H : Hp} {v : V} {i : Bool} (h : Rp K H v (.bool i)) : v = .bl i := by cases h; rfl
theorem rp_str {K : PySem.W.Frag} {H : Hp} {v : V} {i : Str} (h : Rp K H v (.str i)) : v = .str i := by cases h; rfl
theorem rp_none {K : PySem.W.Frag} {H : Hp} {v : V} (h : Rp K H v .none) : v = .non := by cases h; rfl
theorem rp_list {K : PySem.W.Frag} {H : Hp} {v : V} {ds : List D} (h : Rp K H v (.list ds)) : ∃ a xs, v = .ref a ∧ Rd H a (.lst xs) ∧ xs.length ≤ sizeLine ∧ RpAll K H xs ds := by
  cases h with
  | lst a b c => exact ⟨_, _, rfl, a, b, c⟩
theorem rp_tup {K : PySem.W.Frag} {H : Hp} {v : V} {ds : List D} (h : Rp K H v (.tuple ds)) : ∃ a xs, v = .ref a ∧ SqT K H a xs ∧ xs.length ≤ sizeLine ∧ RpAll K H xs ds := by
  cases h with
  | tup a b c => exact ⟨_, _, rfl, a, b, c⟩
theorem rp_dict {K : PySem.W.Frag} {H : Hp} {v : V} {es : List (D × D)} (h : Rp K H v (.dict es)) : ∃ a kvs, v = .ref a ∧ Rd H a (.dK kvs) ∧ kvs.length ≤ sizeLine ∧ RpDk K H kvs es := by
  cases h with
  | dk a b c => exact ⟨_, _, rfl, a, b, c⟩
theorem rp_key {K : PySem.W.Frag} {H : Hp} {v : V} {d : D} (h : isKey d = true) (r : Rp K H v d) : ∃ k : Key, v = kV k ∧ d = kD k := by
  cases r with
  | int i => exact ⟨.inl i, rfl, rfl⟩
  | str x => exact ⟨.inr x, rfl, rfl⟩
  | _ => cases h
theorem atEq_kD (k k' : Key) : atEq (kD k) (kD k') = decide (k = k') := by
  rw [Bool.eq_iff_iff]
  cases k <;> cases k' <;> simp [atEq, kD]
theorem rpDk_get {K : PySem.W.Frag} {H : Hp} (k : Key) : ∀ {kvs : List (Key × V)} {es : List (D × D)}, RpDk K H kvs es → (∃ v d, valV kvs k = some v ∧ dGet es (kD k) = some d ∧ Rp K H v d) ∨ (valV kvs k = none ∧ dGet es (kD k) = none)
  | _, _, .nil => .inr ⟨rfl, rfl⟩
  | _, _, .cons (k := k') (v := v) (vs := vs) (d := d) (ds := ds) a b => by
    by_cases e : k' = k
    · refine .inl ⟨v, d, valV_pos e, ?_, a⟩
      unfold dGet
      rw [List.find?_cons_of_pos (by rw [atEq_kD]; exact decide_eq_true e)]; rfl
    · have e1 : valV ((k', v) :: vs) k = valV vs k := valV_neg e
      have e2 : dGet ((kD k', d) :: ds) (kD k) = dGet ds (kD k) := by
        unfold dGet
        rw [List.find?_cons_of_neg (by rw [atEq_kD]; simpa using e)]
      rcases rpDk_get k b with ⟨v', d', h1, h2, h3⟩ | ⟨h1, h2⟩
      · exact .inl ⟨v', d', e1.trans h1, e2.trans h2, h3⟩
      · exact .inr ⟨e1.trans h1, e2.trans h2⟩
theorem rpDk_len {K : PySem.W.Frag} {H : Hp} : ∀ {kvs : List (Key × V)} {es : List (D × D)}, RpDk K H kvs es → kvs.length = es.length
  | _, _, .nil => rfl
  | _, _, .cons _ b => by simp [rpDk_len b]
theorem rpDk_app {K : PySem.W.Frag} {H : Hp} : ∀ {a b : List (Key × V)} {c d : List (D × D)}, RpDk K H a c → RpDk K H b d → RpDk K H (a ++ b) (c ++ d)
  | _, _, _, _, .nil, h => h
  | _, _, _, _, .cons x y, h => .cons x (rpDk_app y h)
theorem rpDk_repl {K : PySem.W.Frag} {H : Hp} (k : Key) {v : V} {d : D} (r : Rp K H v d) : ∀ {kvs : List (Key × V)} {es : List (D × D)}, RpDk K H kvs es → RpDk K H (kvs.map fun kv => if kv.1 = k then (kv.1, v) else kv) (es.map fun e => if atEq e.1 (kD k) = true then (e.1, d) else e)
  | _, _, .nil => .nil
  | _, _, .cons (k := k') a b => by
    have ih := rpDk_repl k r b
    simp only [List.map_cons]
    by_cases e : k' = k
    · rw [if_pos e, if_pos (by rw [atEq_kD]; exact decide_eq_true e)]
      exact .cons r ih
    · rw [if_neg e, if_neg (by rw [atEq_kD]; simpa using e)]
      exact .cons a ih
theorem rpDk_put {K : PySem.W.Frag} {H : Hp} {kvs : List (Key × V)} {es : List (D × D)} (k : Key) {v : V} {d : D} (r : Rp K H v d) (h : RpDk K H kvs es) : RpDk K H (putK kvs k v) (dPut es (kD k) d) := by
  unfold putK dPut
  have e : (kvs.any fun kv => decide (kv.1 = k)) = (dGet es (kD k)).isSome := by
    rw [valV_any]
    rcases rpDk_get k h with ⟨v', d', h1, h2, _⟩ | ⟨h1, h2⟩
    · rw [h1, h2]; rfl
    · rw [h1, h2]; rfl
  rw [e]
  split
  · exact rpDk_repl k r h
  · exact rpDk_app h (.cons r .nil)
theorem dget_of {K : PySem.W.Frag} {H : Hp} {a : Addr} {kvs : List (Key × V)} {es : List (D × D)} (hr : Rd H a (.dK kvs)) (c : RpDk K H kvs es) (k : Key) : ∃ o, DGet H a (kV k) o ∧ o.isSome = (dGet es (kD k)).isSome := by
  refine ⟨valV kvs k, .inl ⟨kvs, k, hr, rfl, rfl⟩, ?_⟩
  rcases rpDk_get k c with ⟨v', d', h1, h2, _⟩ | ⟨h1, h2⟩
  · rw [h1, h2]; rfl
  · rw [h1, h2]; rfl
theorem rp_bools {K : PySem.W.Frag} {H : Hp} {v : V} {ds : List D} (h : Rp K H v (.tuple ds)) : ∃ a xs, v = .ref a ∧ SqT K H a xs ∧ xs.length ≤ sizeLine ∧ RpAll K H xs ds := rp_tup h
def rB (K : PySem.W.Frag) (o : Operator) : R2 := fun x y H Q => ∃ F d e, Sam F H ∧ Rp K F x d ∧ Rp K F y e ∧ binS o d e (Wt K F H Q)
theorem op_repT0 (l : Addr) (xs : List V) (k : Int) (h1 : -1000 ≤ k) (h2 : k ≤ 1000) (hz : xs.length ≤ 1000) (pins : List (Addr × Obj)) (s : Shared) (σ : L2.St) (H : Hp) (v u : Value) (Q : VK) (I : Inv X pins σ H s) (rx : RelV (.ref l) v) (ry : RelV (.int k) u) (hT : SqT X.K H l xs)
    (q0 : (List.replicate k.toNat xs).flatten = xs → Q (.ref l) H) (q : ∀ p, H p = none → Q (.ref p) (upd H p (.tup (List.replicate k.toNat xs).flatten))) : wpAny (model X.prog X.w) X.A (binaryOp .Mult v u) (EP X pins σ Q) X.xe s := by
  by_cases c : xs ≠ [] ∧ 2 ≤ k
  · exact op_repT pins s σ H _ _ v u Q I rx ry ⟨l, k, xs, rfl, rfl, hT, c.1, c.2, h2, hz, q⟩
  · cases rx
    obtain ⟨t, rfl⟩ := ry
    obtain ⟨its, r, ⟨⟨cls, dd, data, sl⟩, ho, hc, n, hd⟩, hs⟩ := I.tuple hT
    simp only at hc hd
    subst hc hd
    have hle : its.length = xs.length := r.length.symm
    have hi : its.toArray.isEmpty = xs.isEmpty := by
      cases its with
      | nil =>
        cases xs with
        | nil => rfl
        | cons a b => simp at hle
      | cons a b =>
        cases xs with
        | nil => simp at hle
        | cons a b => rfl
    have c0 : (decide (k < -(2 ^ 63)) || decide (k ≥ 2 ^ 63)) = false := by
      rw [decide_eq_false (by omega), decide_eq_false (by omega)] <;> rfl
    by_cases c1 : (its.toArray.isEmpty || k == 1) = true
    · have e : (List.replicate k.toNat xs).flatten = xs := by
        rw [hi, Bool.or_eq_true] at c1
        rcases c1 with c1 | c1
        · have : xs = [] := by simpa using c1
          subst this
          simp
        · have : k = 1 := by simpa using c1
          subst this
          simp
      refine wpAny_binaryOp_repeat_ref (T := "tuple") (U := "int") (by decide) ⟨_, ho, rfl⟩ (fun s' => typeIs_int s' k t) noFill_tuple_mul F.fills_int_mul F.slot_int_rmul repeat_tuple F.slot_int_index.lookup
        (call_meets F.slot_int_rmul (typeIs_int s k t) F.entry_int_rmul (F.args_int_rmul_2 _ _) (int_rmul_tuple k t l its.toArray n dd sl)
          ⟨ho, rfl, ⟨_, ho, rfl⟩, call_meets F.slot_tuple_mul ⟨_, ho, rfl⟩ F.entry_tuple_mul (F.args_tuple_mul_2 _ _) (tuple_mul1 l its.toArray n k t c0 c1) ⟨⟨dd, sl, ho⟩, ?_⟩⟩)
      exact ⟨.ref l, H, I, rfl, q0 e⟩
    · have c1' : (its.toArray.isEmpty || k == 1) = false := by simpa using c1
      have hk : k ≤ 0 := by
        rw [hi, Bool.or_eq_false_iff] at c1'
        have hne : xs ≠ [] := by
          intro z
          subst z
          simp at c1'
        have hk1 : k ≠ 1 := by simpa using c1'.2
        have : ¬ 2 ≤ k := fun z => c ⟨hne, z⟩
        omega
      have e : (List.replicate k.toNat xs).flatten = [] := by
        have : k.toNat = 0 := by omega
        rw [this]
        rfl
      have c2 : (decide (k ≤ 0) || its.toArray.isEmpty) = true := by rw [decide_eq_true hk]; rfl
      refine wpAny_binaryOp_repeat_ref (T := "tuple") (U := "int") (by decide) ⟨_, ho, rfl⟩ (fun s' => typeIs_int s' k t) noFill_tuple_mul F.fills_int_mul F.slot_int_rmul repeat_tuple F.slot_int_index.lookup
        (call_meets F.slot_int_rmul (typeIs_int s k t) F.entry_int_rmul (F.args_int_rmul_2 _ _) (int_rmul_tuple k t l its.toArray n dd sl)
          ⟨ho, rfl, ⟨_, ho, rfl⟩, call_meets F.slot_tuple_mul ⟨_, ho, rfl⟩ F.entry_tuple_mul (F.args_tuple_mul_2 _ _) (tuple_mul0 l its.toArray n k t c0 c1' c2) ⟨⟨dd, sl, ho⟩, ?_⟩⟩)
      rw [e] at q
      refine ⟨.ref s.heap.objs.size, _, I.laid (t' := s.toks) (o := .tup []) (fun b ob q => Heap.get?_push_of_some _ q) (Nat.le_refl _) ?_, rfl, q _ (I.hok.fresh (Nat.le_refl _))⟩
      exact ⟨Nat.zero_le _, [], .nil, IsTup.new _ _⟩
theorem op_bin (o : Operator) : OpR X (binaryOp o) (rB X.K o) := by
  intro pins s σ H x y v u Q I rx ry h
  obtain ⟨F, d, e, sub, r1, r2, w⟩ := h
  unfold binS at w
  split at w
  · have e1 := rp_int r1; have e2 := rp_int r2; subst e1 e2
    exact op_add pins s σ H _ _ v u Q I rx ry ⟨_, _, rfl, rfl, w.val (.int _)⟩
  · have e1 := rp_int r1; have e2 := rp_bool r2; subst e1 e2
    exact op_add_ib pins s σ H _ _ v u Q I rx ry ⟨_, _, rfl, rfl, w.val (.int _)⟩
  · have e1 := rp_str r1; have e2 := rp_str r2; subst e1 e2
    exact op_add_str pins s σ H _ _ v u Q I rx ry ⟨_, _, rfl, rfl, LIM_eq ▸ w.1, w.2.val (.str _)⟩
  · rename_i a b
    obtain ⟨p1, xs, rfl, t1, z1, a1⟩ := rp_tup r1
    obtain ⟨p2, ys, rfl, t2, z2, a2⟩ := rp_tup r2
    have hz : xs.length + ys.length ≤ sizeLine := by rw [a1.length, a2.length]; exact LIM_eq ▸ w.1
    refine op_catA pins s σ H _ _ v u Q I rx ry ⟨_, _, xs, ys, rfl, rfl, sqT_same sub t1, sqT_same sub t2, hz, fun e => ?_, fun _ e => ?_, fun _ _ => w.2.tup (a1.append a2) (by rw [List.length_append]; exact hz)⟩
    · subst e
      cases a1
      exact w.2.val (by simpa using r2)
    · subst e
      cases a2
      exact w.2.val (by simpa using r1)
  · rename_i a b
    obtain ⟨p1, xs, rfl, t1, z1, a1⟩ := rp_list r1
    obtain ⟨p2, ys, rfl, t2, z2, a2⟩ := rp_list r2
    have hz : xs.length + ys.length ≤ sizeLine := by rw [a1.length, a2.length]; exact LIM_eq ▸ w.1
    exact op_catR pins s σ H _ _ v u Q I rx ry ⟨_, _, xs, ys, rfl, rfl, Rd.same sub t1, Rd.same sub t2, hz, w.2.lst (a1.append a2) (by rw [List.length_append]; exact hz)⟩
  · have e1 := rp_int r1; have e2 := rp_int r2; subst e1 e2
    exact op_sub pins s σ H _ _ v u Q I rx ry ⟨_, _, rfl, rfl, w.val (.int _)⟩
  · have e1 := rp_int r1; have e2 := rp_int r2; subst e1 e2
    exact op_mulZ pins s σ H _ _ v u Q I rx ry ⟨_, _, rfl, rfl, w.1, w.2.val (.int _)⟩
  · rename_i a k
    obtain ⟨p1, xs, rfl, t1, z1, a1⟩ := rp_list r1
    have e2 := rp_int r2; subst e2
    have hz : xs.length ≤ 1000 := by rw [a1.length]; exact w.2.1
    have hk := w.1.2
    refine op_repR pins s σ H _ _ v u Q I rx ry ⟨⟨_, k, xs, rfl, rfl, Rd.same sub t1, hk, hz, w.2.2.lst (a1.rep k.toNat) ?_⟩, k, rfl, by have := w.1.1; omega⟩
    rw [PyProof.Rows.lm_len_rep_flat, Nat.mul_comm]
    exact mul_small hz (by omega)
  · rename_i a k
    obtain ⟨p1, xs, rfl, t1, z1, a1⟩ := rp_tup r1
    have e2 := rp_int r2; subst e2
    have hz : xs.length ≤ 1000 := by rw [a1.length]; exact w.2.1
    have hk := w.1.2
    refine op_repT0 _ xs k w.1.1 hk hz pins s σ H v u Q I rx ry (sqT_same sub t1) (fun e => ?_) (w.2.2.tup (a1.rep k.toNat) ?_)
    · have r3 := a1.rep k.toNat
      rw [e] at r3
      exact w.2.2.val (.tup t1 z1 r3)
    · rw [PyProof.Rows.lm_len_rep_flat, Nat.mul_comm]
      exact mul_small hz (by omega)
  · have e1 := rp_int r1; have e2 := rp_int r2; subst e1 e2
    exact op_divZ pins s σ H _ _ v u Q I rx ry ⟨_, _, rfl, rfl, w.1, w.2.val (.int _)⟩
  · have e1 := rp_int r1; have e2 := rp_int r2; subst e1 e2
    exact op_modN pins s σ H _ _ v u Q I rx ry ⟨_, _, rfl, rfl, w.1, w.2.val (.int _)⟩
  · have e1 := rp_int r1; have e2 := rp_int r2; subst e1 e2
    exact op_pow pins s σ H _ _ v u Q I rx ry ⟨_, _, rfl, rfl, w.1, w.2.val (.int _)⟩
  · exact w.elim

/-! ### comparisons -/
def rC (K : PySem.W.Frag) (o : CmpOp) : R2 := fun x y H Q => ∃ d e, Rp K H x d ∧ Rp K H y e ∧ cmpS o d e (fun c => Q (.bl c) H)
theorem atomEq_ok {K : PySem.W.Frag} {H : Hp} {v w : V} {x y : Value} {d e : D} {c : Bool} (r1 : Rp K H v d) (r2 : Rp K H w e) (q1 : RelV v x) (q2 : RelV w y) (h : atomEq d e = some c) (A : Around) (s : Shared) : SeqAt.EqAt A s x y c := by
  unfold atomEq at h
  split at h
  · rename_i i j
    have e1 := rp_int r1; have e2 := rp_int r2; subst e1 e2
    obtain ⟨t, rfl⟩ := q1
    obtain ⟨t', rfl⟩ := q2
    have z : c = (i == j) := by
      rw [← Option.some.inj h]
      by_cases q : i = j
      · rw [decide_eq_true q]; exact (beq_iff_eq.mpr q).symm
      · rw [decide_eq_false q]; exact (beq_eq_false_iff_ne.mpr q).symm
    rw [z]
    exact SeqAt.EqAt.int_int _ _ _ _
  · rename_i i j
    have e1 := rp_str r1; have e2 := rp_str r2; subst e1 e2
    obtain ⟨t, rfl⟩ := q1
    obtain ⟨t', rfl⟩ := q2
    intro prog w E Q hq
    have z : c = decide (i = j) := (Option.some.inj h).symm
    subst z
    exact wpAny_eqBool_str hq
  · cases h
theorem atomLt_ok {K : PySem.W.Frag} {H : Hp} {v w : V} {x y : Value} {d e : D} {c : Bool} (r1 : Rp K H v d) (r2 : Rp K H w e) (q1 : RelV v x) (q2 : RelV w y) (h : atomLt d e = some c) (A : Around) (s : Shared) : Ob.RcOp .Lt A s x y c := by
  unfold atomLt at h
  split at h
  · have e1 := rp_int r1; have e2 := rp_int r2; subst e1 e2
    obtain ⟨t, rfl⟩ := q1
    obtain ⟨t', rfl⟩ := q2
    cases h
    exact Ob.RcOp.lt_int _ _ _ _
  · have e1 := rp_str r1; have e2 := rp_str r2; subst e1 e2
    obtain ⟨t, rfl⟩ := q1
    obtain ⟨t', rfl⟩ := q2
    cases h
    intro prog w E Q hq
    exact PyProof.Rows.lt_str hq
  · cases h
/-- the order of two rows of atoms, by places -/
def eAt (a b : List D) (j : Nat) : Bool := (atomEq (a.getD j .none) (b.getD j .none)).getD false
def lAt (a b : List D) (j : Nat) : Bool := (atomLt (a.getD j .none) (b.getD j .none)).getD false
theorem lex_shift (e r : Nat → Bool) (z : Bool) : ∀ (k i : Nat), Ob.lexAt e r z (i + 1) k = Ob.lexAt (fun j => e (j + 1)) (fun j => r (j + 1)) z i k
  | 0, _ => rfl
  | k + 1, i => by
    rw [Ob.lexAt_succ, Ob.lexAt_succ, lex_shift e r z k (i + 1)]
theorem tupLt_lex : ∀ (a b : List D), Ob.lexAt (eAt a b) (lAt a b) (decide (a.length < b.length)) 0 (min a.length b.length) = tupLt a b
  | [], [] => rfl
  | [], y :: b => by simp [Ob.lexAt, tupLt]
  | x :: a, [] => by simp [Ob.lexAt, tupLt]
  | x :: a, y :: b => by
    have ih := tupLt_lex a b
    have e1 : min (x :: a).length (y :: b).length = min a.length b.length + 1 := by simp only [List.length_cons]; omega
    have e2 : decide ((x :: a).length < (y :: b).length) = decide (a.length < b.length) := by simp only [List.length_cons]; exact decide_eq_decide.mpr (by omega)
    rw [e1, e2, Ob.lexAt_succ, lex_shift]
    have e3 : (fun j => eAt (x :: a) (y :: b) (j + 1)) = eAt a b := by funext j; simp [eAt]
    have e4 : (fun j => lAt (x :: a) (y :: b) (j + 1)) = lAt a b := by funext j; simp [lAt]
    rw [e3, e4, ih]
    simp [eAt, lAt, tupLt]
theorem tupOk_at : ∀ {a b : List D}, tupOk a b = true → ∀ (j : Nat) (x y : D), a[j]? = some x → b[j]? = some y → (∃ c, atomEq x y = some c) ∧ ∃ c, atomLt x y = some c
  | [], _, _, _, _, _, h, _ => by simp at h
  | _ :: _, [], _, _, _, _, _, h => by simp at h
  | x :: a, y :: b, h, 0, _, _, h1, h2 => by
    simp only [tupOk, Bool.and_eq_true] at h
    simp at h1 h2
    subst h1 h2
    exact ⟨Option.isSome_iff_exists.mp h.1.1, Option.isSome_iff_exists.mp h.1.2⟩
  | x :: a, y :: b, h, j + 1, _, _, h1, h2 => by
    simp only [tupOk, Bool.and_eq_true] at h
    exact tupOk_at h.2 j _ _ (by simpa using h1) (by simpa using h2)
theorem lt_tups {X : Cx} {H : Hp} {p q : Addr} {xs ys : List V} {a b : List D} (hu : X.A.units < cLine) (pins : List (Addr × Obj)) (s : Shared) (σ : L2.St) (Q : VK) (I : Inv X pins σ H s) (t1 : SqT X.K H p xs) (t2 : SqT X.K H q ys)
    (a1 : RpAll X.K H xs a) (a2 : RpAll X.K H ys b) (ok : tupOk a b = true) (h : Q (.bl (tupLt a b)) H) : wpAny (model X.prog X.w) X.A (compareOp .Lt (.ref p) (.ref q)) (EP X pins σ Q) X.xe s := by
  obtain ⟨its, r1, p1, _⟩ := I.tuple t1
  obtain ⟨its2, r2, p2, _⟩ := I.tuple t2
  have e1 : its.toArray.size = a.length := by rw [List.size_toArray, ← r1.length, a1.length]
  have e2 : its2.toArray.size = b.length := by rw [List.size_toArray, ← r2.length, a2.length]
  have at_ : ∀ (j : Nat) (h1 : j < its.toArray.size) (h2 : j < its2.toArray.size), ∃ v w d e, Rp X.K H v d ∧ Rp X.K H w e ∧ RelV v its.toArray[j] ∧ RelV w its2.toArray[j] ∧ a[j]? = some d ∧ b[j]? = some e := fun j h1 h2 => by
    have g1 : a[j]? = some a[j] := List.getElem?_eq_getElem (by omega)
    have g2 : b[j]? = some b[j] := List.getElem?_eq_getElem (by omega)
    obtain ⟨v, hv, rv⟩ := a1.get g1
    obtain ⟨w, hw, rw'⟩ := a2.get g2
    obtain ⟨u, hu1, ru⟩ := r1.get hv
    obtain ⟨u2, hu2, ru2⟩ := r2.get hw
    have k1 : its.toArray[j] = u := by
      have : its[j]? = some its[j] := List.getElem?_eq_getElem (by simpa using h1)
      rw [this] at hu1
      simpa using Option.some.inj hu1
    have k2 : its2.toArray[j] = u2 := by
      have : its2[j]? = some its2[j] := List.getElem?_eq_getElem (by simpa using h2)
      rw [this] at hu2
      simpa using Option.some.inj hu2
    exact ⟨v, w, a[j], b[j], rv, rw', by rw [k1]; exact ru, by rw [k2]; exact ru2, g1, g2⟩
  have R := Ob.RcOp.tuples_lt (A := X.A) (s := s) (e := eAt a b) (r := lAt a b) p1 p2 hu (fun j h1 h2 => by
    obtain ⟨v, w, d, e, q1, q2, q3, q4, g1, g2⟩ := at_ j h1 h2
    obtain ⟨⟨c, hc⟩, _⟩ := tupOk_at ok j d e g1 g2
    have z : eAt a b j = c := by simp [eAt, g1, g2, hc]
    rw [z]
    exact atomEq_ok q1 q2 q3 q4 hc _ _) (fun j h1 h2 _ => by
    obtain ⟨v, w, d, e, q1, q2, q3, q4, g1, g2⟩ := at_ j h1 h2
    obtain ⟨_, c, hc⟩ := tupOk_at ok j d e g1 g2
    have z : lAt a b j = c := by simp [lAt, g1, g2, hc]
    rw [z]
    exact atomLt_ok q1 q2 q3 q4 hc _ _)
  refine R X.prog X.w _ _ ⟨.bl _, H, I, rfl, ?_⟩
  rw [e1, e2, tupLt_lex]
  exact h
theorem isNone_eq {K : PySem.W.Frag} {H : Hp} {v : V} {d : D} (r : Rp K H v d) : decide (v = .non) = isNon d := by
  cases r <;> rfl
theorem op_cmp (hu : X.A.units + 65 < cLine) (o : CmpOp) : OpR X (compareOp o) (rC X.K o) := by
  intro pins s σ H x y v u Q I rx ry h
  obtain ⟨d, e, r1, r2, w⟩ := h
  unfold cmpS at w
  split at w
  · have e1 := rp_int r1; have e2 := rp_int r2; subst e1 e2
    exact op_lt pins s σ H _ _ v u Q I rx ry ⟨_, _, rfl, rfl, w⟩
  · have e1 := rp_int r1; have e2 := rp_int r2; subst e1 e2
    exact op_le pins s σ H _ _ v u Q I rx ry ⟨_, _, rfl, rfl, w⟩
  · have e1 := rp_int r1; have e2 := rp_int r2; subst e1 e2
    exact op_gt pins s σ H _ _ v u Q I rx ry ⟨_, _, rfl, rfl, w⟩
  · have e1 := rp_int r1; have e2 := rp_int r2; subst e1 e2
    exact op_ge pins s σ H _ _ v u Q I rx ry ⟨_, _, rfl, rfl, w⟩
  · obtain ⟨p1, xs, rfl, t1, z1, a1⟩ := rp_tup r1
    obtain ⟨p2, ys, rfl, t2, z2, a2⟩ := rp_tup r2
    cases rx
    cases ry
    exact lt_tups (by omega) pins s σ Q I t1 t2 a1 a2 w.1 w.2
  · exact op_eqD (by omega) pins s σ H _ _ v u Q I rx ry ⟨_, _, r1.dp (SeqAt.canLay_of_shaped w.1), r2.dp (SeqAt.canLay_of_shaped w.2.1), w.1, w.2.1, w.2.2⟩
  · exact op_neD (by omega) pins s σ H _ _ v u Q I rx ry ⟨_, _, r1.dp (SeqAt.canLay_of_shaped w.1), r2.dp (SeqAt.canLay_of_shaped w.2.1), w.1, w.2.1, w.2.2⟩
  · exact op_inD hu pins s σ H _ _ v u Q I rx ry ⟨_, _, r1.dp (SeqAt.canLay_of_shaped w.1), r2.dp (SeqAt.canLay_of_shaped w.2.1), w.1, w.2.1, w.2.2⟩
  · obtain ⟨as, q1⟩ := Dp.reads I _ x v (r1.dp (SeqAt.canLay_of_shaped w.1)) rx
    obtain ⟨bs, q2⟩ := Dp.reads I _ y u (r2.dp (SeqAt.canLay_of_shaped w.2.1)) ry
    exact SeqAt.in_tuple_reads q2 q1 (by simpa [PyData.canLay0] using SeqAt.canLay_of_shaped w.2.1) (SeqAt.canLay_of_shaped w.1) (PyProof.Rows.room_in_shaped w.1 hu) ⟨.bl _, H, I, rfl, w.2.2⟩
  · exact op_notInD hu pins s σ H _ _ v u Q I rx ry ⟨_, _, r1.dp (SeqAt.canLay_of_shaped w.1), r2.dp (SeqAt.canLay_of_shaped w.2.1), w.1, w.2.1, w.2.2⟩
  · obtain ⟨as, q1⟩ := Dp.reads I _ x v (r1.dp (SeqAt.canLay_of_shaped w.1)) rx
    obtain ⟨bs, q2⟩ := Dp.reads I _ y u (r2.dp (SeqAt.canLay_of_shaped w.2.1)) ry
    exact SeqAt.notIn_tuple_reads q2 q1 (by simpa [PyData.canLay0] using SeqAt.canLay_of_shaped w.2.1) (SeqAt.canLay_of_shaped w.1) (PyProof.Rows.room_in_shaped w.1 hu) ⟨.bl _, H, I, rfl, w.2.2⟩
  · obtain ⟨a, kvs, rfl, hr, hz, c⟩ := rp_dict r2
    obtain ⟨k, rfl, rfl⟩ := rp_key w.1 r1
    obtain ⟨o, g, e⟩ := dget_of hr c k
    obtain rfl : u = Value.ref a := ry
    refine d_in (by omega) I g rx fun s' I' => ⟨.bl _, H, I', rfl, ?_⟩
    rw [e]; exact w.2
  · obtain ⟨a, kvs, rfl, hr, hz, c⟩ := rp_dict r2
    obtain ⟨k, rfl, rfl⟩ := rp_key w.1 r1
    obtain ⟨o, g, e⟩ := dget_of hr c k
    obtain rfl : u = Value.ref a := ry
    refine d_notIn (by omega) I g rx fun s' I' => ⟨.bl _, H, I', rfl, ?_⟩
    rw [e]; exact w.2
  · have e2 := rp_none r2; subst e2
    refine op_isN pins s σ H _ _ v u Q I rx ry ⟨rfl, ?_⟩
    rw [isNone_eq r1]; exact w
  · have e2 := rp_none r2; subst e2
    refine op_notN pins s σ H _ _ v u Q I rx ry ⟨rfl, ?_⟩
    rw [isNone_eq r1]; exact w
  · exact w.elim
end
end PL
end

section
set_option Elab.async false
set_option linter.all false
set_option autoImplicit false
set_option maxRecDepth 100000
set_option maxHeartbeats 1000000
/-! PLg: subscripts, slices, built-ins, by values. -/
namespace PL
open PySem PySem.Spec PyProof.Rows L2

/-- a value that is read where it stands: frozen, or an owned object -/
def RpB (K : PySem.W.Frag) (F H : Hp) (v : V) (d : D) : Prop := Rp K F v d ∨ ∃ a ho, v = .ref a ∧ H a = some ho ∧ RpO K F ho d
theorem RpB.rp {K : PySem.W.Frag} {F H : Hp} {v : V} {d : D} (s : Sam F H) (h : RpB K F H v d) : Rp K H v d := by
  rcases h with h | ⟨a, ho, rfl, e, r⟩
  · exact h.mono s
  · exact (r.mono s).rp e
theorem pk_okB {K : PySem.W.Frag} {F H : Hp} {σ : L2.St} {env : Ev} {i : Nat} {Q : D → Prop} (R : ER K F σ H env) (h : pk env i Q) : ∃ d v, Q d ∧ σ[i]? = some (some v) ∧ RpB K F H v d := by
  unfold pk at h
  split at h
  · rename_i d e
    obtain ⟨v, ev, rv⟩ := R.sh i d e
    exact ⟨d, v, h, ev, .inl rv⟩
  · rename_i d e
    obtain ⟨a, ho, ea, h1, h2, h3⟩ := R.ob i d (.inl e)
    exact ⟨d, _, h, ea, .inr ⟨a, ho, rfl, h1, h3⟩⟩
  · rename_i d e
    obtain ⟨a, ho, ea, h1, h2, h3⟩ := R.ob i d (.inr e)
    exact ⟨d, _, h, ea, .inr ⟨a, ho, rfl, h1, h3⟩⟩
  · exact h.elim
theorem rpB_list {K : PySem.W.Frag} {F H : Hp} {v : V} {ds : List D} (s : Sam F H) (h : RpB K F H v (.list ds)) : ∃ a xs, v = .ref a ∧ Rd H a (.lst xs) ∧ xs.length ≤ sizeLine ∧ RpAll K F xs ds := by
  rcases h with h | ⟨a, ho, rfl, e, r⟩
  · obtain ⟨a, xs, e, r, z, c⟩ := rp_list h
    exact ⟨a, xs, e, Rd.same s r, z, c⟩
  · cases ho with
    | lst xs => exact ⟨a, xs, rfl, .inl e, r.1, r.2⟩
    | _ => exact r.elim
theorem rpB_tup {K : PySem.W.Frag} {F H : Hp} {v : V} {ds : List D} (s : Sam F H) (h : RpB K F H v (.tuple ds)) : ∃ a xs, v = .ref a ∧ SqT K H a xs ∧ xs.length ≤ sizeLine ∧ RpAll K F xs ds := by
  rcases h with h | ⟨a, ho, rfl, e, r⟩
  · obtain ⟨a, xs, e, r, z, c⟩ := rp_tup h
    exact ⟨a, xs, e, sqT_same s r, z, c⟩
  · cases ho <;> exact r.elim
theorem rp_dictB {K : PySem.W.Frag} {F H : Hp} {v : V} {es : List (D × D)} (s : Sam F H) (h : RpB K F H v (.dict es)) : ∃ a kvs, v = .ref a ∧ Rd H a (.dK kvs) ∧ kvs.length ≤ sizeLine ∧ RpDk K F kvs es := by
  rcases h with h | ⟨a, ho, rfl, e, r⟩
  · obtain ⟨a, kvs, rfl, t, z, c⟩ := rp_dict h
    exact ⟨a, kvs, rfl, Rd.same s t, z, c⟩
  · cases ho with
    | dK kvs => exact ⟨a, kvs, rfl, .inl e, r.1, r.2⟩
    | _ => exact r.elim
theorem rpB_str {K : PySem.W.Frag} {F H : Hp} {v : V} {x : Str} (h : RpB K F H v (.str x)) : v = .str x := by
  rcases h with h | ⟨a, ho, rfl, e, r⟩
  · exact rp_str h
  · cases ho <;> exact r.elim

theorem atI_len {α β : Type} {xs : List α} {ys : List β} {i : Int} {d : β} (hl : xs.length = ys.length) (h : atI ys i = some d) : ∃ j, ixN xs.length i = some j ∧ ys[j]? = some d := by
  unfold atI at h
  cases e : ixN ys.length i with
  | none => rw [e] at h; cases h
  | some j => rw [e] at h; exact ⟨j, by rw [hl]; exact e, h⟩
theorem atI_of {α : Type} {xs : List α} {i : Int} {v : α} {j : Nat} (h : ixN xs.length i = some j) (e : xs[j]? = some v) : atI xs i = some v := by
  unfold atI
  rw [h]
  exact e
section
variable {X : Cx}
def rX (K : PySem.W.Frag) : R2 := fun x y H Q => ∃ F d e, Sam F H ∧ RpB K F H x d ∧ Rp K F y e ∧ ixS d e (Wt K F H Q)
/-- an item of a dict, by values -/
theorem ix_dict (hu : X.A.units + 1 < cLine) {value slice : Expr} {pins : List (Addr × Obj)} {s : Shared} {σ : L2.St} {H : Hp} {a : Addr} {y z : V} {u : Value} {Q : VK} (I : Inv X pins σ H s) (ry : RelV y u) (gd : DGet H a y (some z)) (q : Q z H)
    (hs : subscripted slice false (.ref a) u = operate [.ref a, u] (getItem (.ref a) u)) : wpAny (model X.prog X.w) X.A (subscriptTail value slice (.ref a) u) (EP X pins σ Q) X.xe s := by
  have ht := dict_typeIs I gd
  have key : wpAny (model X.prog X.w) X.A (subscripted slice false (.ref a) u) (fun r s' => wpAny (model X.prog X.w) X.A (letTemporaryGo value (.ref a) r >>= fun _ => pure r) (EP X pins σ Q) X.xe s') X.xe s := by
    rw [hs]
    refine wpAny_operating (d_getItem hu I gd ry fun r s' I' rr => ?_)
    exact wpAny_bind (wpAny_letTemporaryGo (wpAny_pure ⟨z, H, I', rr, q⟩))
  unfold subscriptTail
  refine wpAny_bind ?_
  rw [getitemInPython_of_ne ht.not_modules]
  refine wpAny_bind (wpAny_specialOf ht PySem.F.slot_dict_getitem.lookup ?_)
  first
    | exact wpAny_pure (wpAny_bind key)
    | exact wpAny_bind (wpAny_pure (wpAny_bind key))
    | exact wpAny_bind key
theorem ix_all (hu : X.A.units + 1 < cLine) : IxR X (rX X.K) := by
  intro slice hs pins s σ H x y v u Q I rx ry h
  obtain ⟨F, d, e, sub, r1, r2, w⟩ := h
  unfold ixS at w
  split at w
  · rename_i ds i
    obtain ⟨a, xs, rfl, t, z, c⟩ := rpB_list sub r1
    have e2 := rp_int r2; subst e2
    obtain ⟨d, hd, w⟩ := w
    obtain ⟨j, hj, hd⟩ := atI_len c.length hd
    obtain ⟨x, hx, rx'⟩ := c.get hd
    exact ix_list slice hs pins s σ H _ _ v u Q I rx ry ⟨a, xs, i, x, rfl, rfl, .inl t, atI_of hj hx, w.val rx'⟩
  · rename_i ds i
    obtain ⟨a, xs, rfl, t, z, c⟩ := rpB_tup sub r1
    have e2 := rp_int r2; subst e2
    obtain ⟨d, hd, w⟩ := w
    obtain ⟨j, hj, hd⟩ := atI_len c.length hd
    obtain ⟨x, hx, rx'⟩ := c.get hd
    exact ix_tup slice hs pins s σ H _ _ v u Q I rx ry ⟨a, xs, i, x, rfl, rfl, t, atI_of hj hx, w.val rx'⟩
  · rename_i z i
    have e1 := rpB_str r1; subst e1
    have e2 := rp_int r2; subst e2
    obtain ⟨hz, c, hc, w⟩ := w
    exact ix_str slice hs pins s σ H _ _ v u Q I rx ry ⟨z, i, c, rfl, rfl, LIM_eq ▸ hz, hc, w.val (.str _)⟩
  · obtain ⟨hk, z, hz, w⟩ := w
    obtain ⟨a, kvs, rfl, hr, hl, c⟩ := rp_dictB sub r1
    obtain ⟨k, rfl, rfl⟩ := rp_key hk r2
    obtain rfl : v = Value.ref a := rx
    rcases rpDk_get k c with ⟨v', d', h1, h2, h3⟩ | ⟨h1, h2⟩
    · rw [h2] at hz; cases hz
      exact fun hs => ix_dict hu I ry (.inl ⟨kvs, k, hr, rfl, h1.symm⟩) (w.val h3) hs
    · rw [h2] at hz; cases hz
  · exact w.elim
theorem RpAll.cut {K : PySem.W.Frag} {F : Hp} {xs : List V} {ds : List D} (c : RpAll K F xs ds) (lo hi : Option Int) : RpAll K F (cutV xs lo hi) (cutD ds lo hi) := by
  unfold cutV cutD
  rw [c.length]
  exact (c.drop _).take _
def rSl (K : PySem.W.Frag) : V → Option Int → Option Int → Hp → VK → Prop := fun x lo hi H Q => ∃ F d, Sam F H ∧ Rp K F x d ∧ slcS d lo hi (Wt K F H Q)
theorem cut_all {K : PySem.W.Frag} {F : Hp} {xs : List V} {ds : List D} {lo hi : Option Int} (c : RpAll K F xs ds) (h : HT.sIx xs.length 0 lo = 0 ∧ HT.sIx xs.length xs.length hi = xs.length) : cutD ds lo hi = ds := by
  unfold cutD
  rw [← c.length, h.1, h.2, List.drop_zero, Nat.sub_zero, c.length]
  exact List.take_length
theorem sl_all : SlR X (rSl X.K) := by
  intro pins s σ H x v vl vu lo hi sl Q I rx hs pl pu h
  obtain ⟨F, d, sub, r1, w⟩ := h
  unfold slcS at w
  split at w
  · obtain ⟨a, xs, rfl, t, z, c⟩ := rp_list r1
    exact sl_list pins s σ H _ v vl vu lo hi sl Q I rx hs pl pu ⟨a, xs, rfl, .inl (Rd.same sub t), w.lst (c.cut lo hi) (Nat.le_trans (cutV_length xs lo hi) z)⟩
  · obtain ⟨a, xs, rfl, t, z, c⟩ := rp_tup r1
    refine sl_tupA pins s σ H _ v vl vu lo hi sl Q I rx hs pl pu ⟨a, xs, rfl, sqT_same sub t, fun e => ?_, fun _ => w.tup (c.cut lo hi) (Nat.le_trans (cutV_length xs lo hi) z)⟩
    rw [cut_all c e] at w
    exact w.val r1
  · have e1 := rp_str r1; subst e1
    exact sl_str pins s σ H _ v vl vu lo hi sl Q I rx hs pl pu ⟨_, rfl, LIM_eq ▸ w.1, w.2.val (.str _)⟩
  · exact w.elim
/-! ### [::-1] -/
theorem sidx_back (n : Nat) : Builtin.Str.strSliceIndices none none (-1) n = (List.range n).map fun k => n - 1 - k := by
  show sliceRange ((n : Int) - 1) (-1) (-1) = _
  unfold sliceRange
  by_cases h : n = 0
  · subst h; rfl
  · have e : (if (-1 : Int) > 0 then (if (n : Int) - 1 < -1 then (-1 - ((n : Int) - 1) + -1 - 1) / -1 else 0) else if (n : Int) - 1 > -1 then ((n : Int) - 1 - -1 - -1 - 1) / (- -1) else 0) = (n : Int) := by
      rw [if_neg (by decide), if_pos (by omega), show (- -1 : Int) = 1 from rfl, Int.ediv_one]
      omega
    simp only [e, Int.toNat_natCast]
    refine List.map_congr_left fun k hk => ?_
    have := List.mem_range.mp hk
    omega
theorem range_pick {α : Type} : ∀ xs : List α, (List.range xs.length).filterMap (fun j => xs[j]?) = xs
  | [] => rfl
  | x :: xs => by
    rw [List.length_cons, List.range_succ_eq_map, List.filterMap_cons]
    simp only [List.getElem?_cons_zero, List.filterMap_map]
    have e : ((fun j => (x :: xs)[j]?) ∘ Nat.succ) = fun j => xs[j]? := by funext j; simp
    rw [e, range_pick xs]
theorem back_range (n : Nat) : ((List.range n).map fun k => n - 1 - k) = (List.range n).reverse := by
  refine List.ext_getElem (by simp) fun i h1 h2 => ?_
  simp
theorem rev_pick (z : Str) : ((Builtin.Str.strSliceIndices none none (-1) z.length).filterMap (z.cps[·]?)).toArray = z.cps.reverse := by
  rw [sidx_back, back_range, List.filterMap_reverse]
  have hl : z.length = z.cps.toList.length := by simp [Str.length]
  have k := range_pick z.cps.toList
  have e : (fun (j : Nat) => z.cps.toList[j]?) = fun (j : Nat) => z.cps[j]? := by funext j; simp
  rw [e] at k
  rw [hl, k]
  rw [← Array.toList_reverse]
def tRev (K : PySem.W.Frag) (te : TE) : TE := fun σ H Q => te σ H fun x H1 => ∃ F d, Sam F H1 ∧ Rp K F x d ∧ revS d (Wt K F H1 Q)
theorem pe_rev {e : Expr} {te : TE} {k : Nat} {p1 p2 p3 pos : Pos} (he : PE X e te) : PE X (.Subscript e (.Slice none none (some (.UnaryOp .USub (.Constant (.int 1) k p1) p2)) p3) pos) (tRev X.K te) := by
  refine ⟨fun pins s σ H Q I h => ?_⟩
  refine Subscript_ (thn (he.run pins s σ H _ I h) fun v s1 ⟨x, H1, I1, r1, q1⟩ => ?_)
  obtain ⟨F, d, sub, rx, w⟩ := q1
  unfold revS at w
  split at w
  · obtain ⟨a, xs, rfl, t, z, c⟩ := rp_list rx
    cases r1
    have hst : PO X (some (.UnaryOp .USub (.Constant (.int 1) k p1) p2)) (tPart (tUn (rU fun i => .int (-i)) (tC (.int 1)))) := po_some (pe_un un_neg pe_int)
    refine wpAny_Slice (thn (po_none.run pins s1 σ H1 (fun o H2 => o = none ∧ H2 = H1) I1 ⟨rfl, rfl⟩) fun vl s2 ⟨l, H2, I2, pl, el, e2⟩ => ?_)
    subst el e2
    refine thn (po_none.run pins s2 σ H2 (fun o H3 => o = none ∧ H3 = H2) I2 ⟨rfl, rfl⟩) fun vu s3 ⟨u, H3, I3, pu, eu, e3⟩ => ?_
    subst eu e3
    refine thn (hst.run pins s3 σ H3 (fun o H4 => o = some (-1) ∧ H4 = H3) I3 ⟨1, rfl, -1, rfl, rfl, rfl⟩) fun vs s4 ⟨o, H4, I4, ps, eo, e4⟩ => ?_
    subst eo e4
    have I5 : Inv X pins σ H4 { s4 with heap := s4.heap.push { cls := .type "slice", data := .fields #[vl, vu, vs] } } := I4.kept (t' := s4.toks) fun b ob q => Heap.get?_push_of_some _ q
    obtain ⟨its, r, ht, hz⟩ := I5.list (.inl (Rd.same sub t))
    have hlen := r.length
    refine tail_any (slice := .Slice none none (some (.UnaryOp .USub (.Constant (.int 1) k p1) p2)) p3) (ops := [.ref a, .ref s4.heap.objs.size]) ht.isList.typeIs (PySem.slot_list_getitem.lookup) ?_ (by with_unfolding_all rfl)
    refine wpAny_getItem_list_slice ht.isList (Heap.IsSliceOf.new _ vl vu vs) pl pu ps (by decide) ?_ (by rw [List.size_toArray]; omega)
    rw [PySem.W.krv_pick]
    have zr : xs.reverse.length ≤ sizeLine := by rw [List.length_reverse]; exact z
    exact ⟨.ref _, _, I5.laid (t' := s4.toks) (o := .lst xs.reverse) (fun b ob q => Heap.get?_push_of_some _ q) (Nat.le_refl _) ⟨zr, _, 0, r.reverse, Heap.get?_push_size _ rfl⟩, rfl, w.lst c.reverse zr _ (I5.hok.fresh (Nat.le_refl _))⟩
  · rename_i z
    have e1 := rp_str rx; subst e1
    obtain ⟨t, rfl⟩ := r1
    have hst : PO X (some (.UnaryOp .USub (.Constant (.int 1) k p1) p2)) (tPart (tUn (rU fun i => .int (-i)) (tC (.int 1)))) := po_some (pe_un un_neg pe_int)
    refine wpAny_Slice (thn (po_none.run pins s1 σ H1 (fun o H2 => o = none ∧ H2 = H1) I1 ⟨rfl, rfl⟩) fun vl s2 ⟨l, H2, I2, pl, el, e2⟩ => ?_)
    subst el e2
    refine thn (po_none.run pins s2 σ H2 (fun o H3 => o = none ∧ H3 = H2) I2 ⟨rfl, rfl⟩) fun vu s3 ⟨u, H3, I3, pu, eu, e3⟩ => ?_
    subst eu e3
    refine thn (hst.run pins s3 σ H3 (fun o H4 => o = some (-1) ∧ H4 = H3) I3 ⟨1, rfl, -1, rfl, rfl, rfl⟩) fun vs s4 ⟨o, H4, I4, ps, eo, e4⟩ => ?_
    subst eo e4
    have I5 : Inv X pins σ H4 { s4 with heap := s4.heap.push { cls := .type "slice", data := .fields #[vl, vu, vs] } } := I4.kept (t' := s4.toks) fun b ob q => Heap.get?_push_of_some _ q
    obtain ⟨l, rfl, el⟩ := IsPart.raw pl
    obtain ⟨u, rfl, eu⟩ := IsPart.raw pu
    obtain ⟨m, rfl, em⟩ := IsPart.raw ps
    refine tail_any (slice := .Slice none none (some (.UnaryOp .USub (.Constant (.int 1) k p1) p2)) p3) (ops := [.str z t, .ref s4.heap.objs.size]) (typeIs_str _ _ _) (PySem.F.slot_str_getitem.lookup) ?_ (by with_unfolding_all rfl)
    refine wpAny_getItem_str_slice (l := l) (u := u) (st := m) ⟨_, Heap.get?_push_size _ rfl, rfl, rfl⟩ (by rw [em]; rfl) ?_
    unfold PySem.sliceMade
    have ep : PySem.slicePicked z l u m = Builtin.Str.strSliceIndices none none (-1) z.length := by
      unfold PySem.slicePicked
      rw [el, eu, em]
      rfl
    rw [ep, em, rev_pick, if_neg (by rw [show ((some (-1 : Int)).getD 1 == 1) = false from rfl, Bool.false_and]; exact Bool.false_ne_true)]
    refine ⟨?_, .str _, H4, I5.tok _, ⟨_, rfl⟩, w.2.val (.str _)⟩
    have := w.1
    rw [LIM_eq] at this
    show z.cps.reverse.size ≤ sizeLine
    rw [Array.size_reverse]
    exact this
  · exact w.elim
end
end PL
end

section
set_option Elab.async false
set_option linter.all false
set_option autoImplicit false
set_option maxRecDepth 100000
set_option maxHeartbeats 1000000
/-! PLh: what a def promises; the readings; calls of defs. -/
namespace PL
open PySem PySem.Spec PyProof.Rows L2

/-- the arguments as they are handed in; behind -/
def mkA : Bool → List D → List Sl
  | true, d :: ds => .io d :: ds.map Sl.sh
  | _, ds => ds.map Sl.sh
def aftA : Bool → List D → D → List Sl
  | true, _ :: ds, d => .io d :: ds.map Sl.sh
  | _, ds, _ => ds.map Sl.sh
def spG (K : PySem.W.Frag) (w : Bool) (n : Nat) (R : FSem) : Sp := fun vs H Q _ => ∃ F ds, ER K F (vs.map some) H (mkA w ds) ∧ ds.length = n ∧ R ds fun r d' =>
  ∀ v F' H', ER K F' (vs.map some) H' (aftA w ds d') → Tr (mkA w ds) F (vs.map some) H (aftA w ds d') F' (vs.map some) H' → RR K F' H' (aftA w ds d') (vs.map some) (fun a => H a = none) v r → Q v H'
/-- parameters by keywords: the n values of the keywords in the parameters' order -/
def gK (n : Nat) (pm : List Nat) : List Value → List Value → List Value := fun us ws => if us.length = 0 ∧ ws.length = n then pm.map fun j => ws.getD j Value.none else []
def gKV (n : Nat) (pm : List Nat) : List V → List V → List V := fun us ws => if us.length = 0 ∧ ws.length = n then pm.map fun j => ws.getD j V.non else []
structure Cb (lv : Nat) (P : Program) (w : World) (K : PySem.W.Frag) (mg : Str → Option Value) (base : Heap) (x : Str) (en : Ent) : Prop where
  ex : ∃ f fd ps k, k ≤ lv ∧ mg x = some (.ref f) ∧ PySem.W.keepIn K (.ref f) = true ∧ FnOk P w K mg base CX0 k f fd ps (spG K en.w ps.length en.R) ∧
    (∀ a L, en.R a L → a.length = ps.length) ∧
    (∀ nd, nd ≤ en.nd → Binds K fd ps (List.replicate nd Value.none)) ∧
    (∀ ks pm, (ks, pm) ∈ en.kw → KBinds K fd ps ks (gK ks.length pm) (gKV ks.length pm))
def biNames : List Str := ["len", "abs", "min", "max", "sum", "list", "tuple", "int", "repr", "sorted", "all", "any", "isinstance", "bool", "str", "dict", "range", "enumerate", "zip"]
structure Tk (tb : Tab) (lv : Nat) (P : Program) (w : World) (K : PySem.W.Frag) (mg : Str → Option Value) (base : Heap) : Prop where
  fn : ∀ x en, tb.fn x = some en → Cb lv P w K mg base x en
  gl : ∀ x d, tb.gl x = some d → ∃ v u, mg x = some u ∧ RelV v u ∧ ∀ F : Hp, Rp K F v d
  bi : ∀ x, x ∈ biNames → mg x = none
/-- what a text is checked against -/
structure Inf where
  N : List Str
  sc : Scope
  fw : Str → Bool
  gd : Bool
structure Cg (tb : Tab) (lv : Nat) (I : Inf) (X : Cx) : Prop where
  hN : X.N = I.N
  nd : I.N.Nodup
  hsc : X.env.scope = I.sc
  kind : I.sc.kind = .function
  calm : X.calm = true
  room : Room lv X.A
  fnc : ∀ x, I.fw x = true → X.fn x = true
  gds : I.gd = true → X.A.guards = some []
  tk : Tk tb lv X.prog X.w X.K X.mg X.base
  xe : PassesOwn (model X.prog X.w) X.A X.env X.xe

/-! ### calls -/
section
variable {K : PySem.W.Frag} {F F' F1 F2 F0 H H' H1 H2 H0 : Hp} {σ vσ : L2.St} {env : Ev} {args args' : List Sl} {a : Addr} {v : V} {r : Sl} {d d' : D} {ho : HO}
theorem er_args {vs : List V} {ds : List D} (s : Sam F H) (r : RpAll K F vs ds) : ER K F (vs.map some) H (ds.map Sl.sh) where
  sub := s
  len := by rw [List.length_map, List.length_map, r.length]
  sh := fun i d h => by
    rw [List.getElem?_map] at h
    cases e : ds[i]? with
    | none => rw [e] at h; cases h
    | some d' =>
      rw [e] at h
      cases h
      obtain ⟨v, hv, rv⟩ := r.get e
      exact ⟨v, by rw [List.getElem?_map, hv]; rfl, rv⟩
  ob := fun i d h => by
    rcases h with h | h <;> (rw [List.getElem?_map] at h; cases e : ds[i]? with | none => (rw [e] at h; cases h) | some d' => (rw [e] at h; cases h))
  inj := fun i j d d' a h => by
    rcases h with h | h <;> (rw [List.getElem?_map] at h; cases e : ds[i]? with | none => (rw [e] at h; cases h) | some d' => (rw [e] at h; cases h))
theorem noOwn (ds : List D) (i : Nat) (d : D) : ¬ Owns (ds.map Sl.sh) i d := fun h => by
  rcases h with h | h <;> (rw [List.getElem?_map] at h; cases e : ds[i]? with | none => (rw [e] at h; cases h) | some d' => (rw [e] at h; cases h))
/-- a call that writes nothing -/
theorem call_ok (R : ER K F σ H env) (hn : ∀ i d, ¬ Owns args i d) (R' : ER K F' vσ H' args') (T' : Tr args F vσ H args' F' vσ H') (r1 : RR K F' H' args' vσ (fun a => H a = none) v r) :
    ER K F' σ H' env ∧ Tr env F σ H env F' σ H' ∧ RR K F' H' env σ (fun a => H a = none) v r := by
  have noA : ∀ b, ¬ OA args vσ b := fun b ⟨i, d, h, _⟩ => hn i d h
  have same : ∀ b o, H b = some o → H' b = some o ∨ (F' b ≠ none ∧ ∃ w, H' b = some w ∧ Up o w) := fun b o e => T'.keep b o e (noA b)
  have newF : ∀ b, F' b ≠ none → F b ≠ none ∨ H b = none := fun b hb => (T'.newF b hb).elim .inl fun z => z.elim .inr fun z => (noA b z).elim
  have R2 : ER K F' σ H' env := ⟨R'.sub, R.len, fun i d h => let ⟨v, e, r⟩ := R.sh i d h; ⟨v, e, r.mono T'.fs⟩, fun i d h => by
    obtain ⟨a, ho, e, h1, h2, h3⟩ := R.ob i d h
    refine ⟨a, ho, e, T'.keepN h1 (noA a) h2, ?_, h3.mono T'.fs⟩
    cases q : F' a with
    | none => rfl
    | some o => exact ((newF a (by rw [q]; simp)).elim (fun z => z h2) fun z => by rw [h1] at z; cases z).elim, R.inj⟩
  have fo : ∀ {v d}, Fo K F' H' args' vσ (fun a => H a = none) v d → Fo K F' H' env σ (fun a => H a = none) v d := fun {v d} h => by
    obtain ⟨a, ho, e, h1, h2, h3, h4, h5⟩ := h
    exact ⟨a, ho, e, h1, h2, R.notOA h4, h4, h5⟩
  refine ⟨R2, ⟨T'.fs, fun b o e _ => same b o e, T'.live, fun b hb => (newF b hb).elim .inl fun z => .inr (.inl z), fun b hb => .inl hb, fun i d h => ⟨rfl, d, h⟩⟩, ?_⟩
  cases r with
  | un => exact r1.elim
  | io d => exact r1.elim
  | sh d => exact r1
  | ow d => exact fo r1
  | tp x d =>
    obtain ⟨a, v0, v1, rfl, g1, g2, g3, g4, g5⟩ := r1
    refine ⟨a, v0, v1, rfl, g1, fun q => ?_, g3, g4, fo g5⟩
    obtain ⟨i, d', ow, e⟩ := q
    obtain ⟨b, ho, e2, k1, k2, k3⟩ := R2.ob i d' ow
    rw [e] at e2; cases e2
    rw [g1] at k1; cases k1
    exact k3.elim
/-- a call that writes its first argument, the object of a slot -/
theorem callw_ok {i : Nat} {w0 : Addr} {vs : List V} {ds : List D} {x' : Sl} (R : ER K F σ H env) (hs : σ[i]? = some (some (.ref w0))) (hx : (env[i]? = some (Sl.ow d) ∧ x' = Sl.ow d') ∨ (env[i]? = some (Sl.io d) ∧ x' = Sl.io d'))
    (R' : ER K F' (some (.ref w0) :: vs.map some) H' (.io d' :: ds.map Sl.sh)) (T' : Tr (.io d :: ds.map Sl.sh) F (some (.ref w0) :: vs.map some) H (.io d' :: ds.map Sl.sh) F' (some (.ref w0) :: vs.map some) H')
    (r1 : RR K F' H' (.io d' :: ds.map Sl.sh) (some (.ref w0) :: vs.map some) (fun a => H a = none) v r) :
    ER K F' σ H' (env.set i x') ∧ Tr env F σ H (env.set i x') F' σ H' ∧ RR K F' H' (env.set i x') σ (fun a => H a = none) v r := by
  have ow : Owns env i d := by rcases hx with ⟨h, _⟩ | ⟨h, _⟩; exact .inl h; exact .inr h
  have hi : i < env.length := by rcases hx with ⟨h, _⟩ | ⟨h, _⟩ <;> exact lt_of_get h
  have oaw : OA env σ w0 := ⟨i, d, ow, hs⟩
  have isW : ∀ {e : D} b, OA (.io e :: ds.map Sl.sh) (some (.ref w0) :: vs.map some) b → b = w0 := fun {e} b h => by
    obtain ⟨j, dj, hj, ej⟩ := h
    cases j with
    | zero => simp at ej; exact ej.symm
    | succ j => exact absurd (show Owns (ds.map Sl.sh) j dj by rcases hj with h | h; exact .inl (by simpa using h); exact .inr (by simpa using h)) (noOwn ds j dj)
  have wO : ∀ {e : D}, OA (.io e :: ds.map Sl.sh) (some (.ref w0) :: vs.map some) w0 := fun {e} => ⟨0, e, .inr rfl, rfl⟩
  obtain ⟨a0, ho0, e0, k1, k2, k3⟩ := R'.ob 0 d' (.inr rfl)
  have ea : a0 = w0 := by simp at e0; exact e0.symm
  subst ea
  have keep : ∀ b o, H b = some o → b ≠ a0 → H' b = some o ∨ (F' b ≠ none ∧ ∃ w, H' b = some w ∧ Up o w) := fun b o e n => T'.keep b o e fun z => n (isW b z)
  have newF : ∀ b, F' b ≠ none → F b ≠ none ∨ H b = none ∨ b = a0 := fun b hb => (T'.newF b hb).elim .inl fun z => z.elim (fun z => .inr (.inl z)) fun z => .inr (.inr (isW b z))
  have owS : ∀ {j dj}, Owns (env.set i x') j dj → (j = i ∧ dj = d') ∨ (j ≠ i ∧ Owns env j dj) := fun {j dj} h => by
    rcases owns_set h with ⟨e, z⟩ | h
    · refine .inl ⟨e, ?_⟩
      rcases hx with ⟨_, q⟩ | ⟨_, q⟩ <;> (subst q; rcases z with z | z <;> cases z; rfl)
    · exact .inr h
  have neA : ∀ {j dj b}, Owns env j dj → j ≠ i → σ[j]? = some (some (.ref b)) → b ≠ a0 := fun {j dj b} h n e z => n (R.inj j i dj d b h ow e (by rw [z]; exact hs))
  have R2 : ER K F' σ H' (env.set i x') := by
    refine ⟨R'.sub, by rw [List.length_set]; exact R.len, fun j dj h => ?_, fun j dj h => ?_, fun j l dj dl b hj hl ej el => ?_⟩
    · have ne : j ≠ i := fun z => by
        subst z
        rw [List.getElem?_set_self hi] at h
        rcases hx with ⟨_, q⟩ | ⟨_, q⟩ <;> (subst q; cases h)
      rw [List.getElem?_set_ne (Ne.symm ne)] at h
      obtain ⟨v, e, r⟩ := R.sh j dj h
      exact ⟨v, e, r.mono T'.fs⟩
    · rcases owS h with ⟨e, e2⟩ | ⟨ne, h'⟩
      · subst e e2
        exact ⟨a0, ho0, hs, k1, k2, k3⟩
      · obtain ⟨b, hb, eb, g1, g2, g3⟩ := R.ob j dj h'
        have nb := neA h' ne eb
        refine ⟨b, hb, eb, T'.keepN g1 (fun z => nb (isW b z)) g2, ?_, g3.mono T'.fs⟩
        cases q : F' b with
        | none => rfl
        | some o =>
          rcases newF b (by rw [q]; simp) with z | z | z
          · exact (z g2).elim
          · rw [g1] at z; cases z
          · exact (nb z).elim
    · rcases owS hj with ⟨e, _⟩ | ⟨ne, hj'⟩
      · rcases owS hl with ⟨e', _⟩ | ⟨ne', hl'⟩
        · rw [e, e']
        · subst e
          rw [hs] at ej
          cases ej
          exact (neA hl' ne' el rfl).elim
      · rcases owS hl with ⟨e', _⟩ | ⟨ne', hl'⟩
        · subst e'
          rw [hs] at el
          cases el
          exact (neA hj' ne ej rfl).elim
        · exact R.inj _ _ _ _ _ hj' hl' ej el
  have fo : ∀ {v d}, Fo K F' H' (.io d' :: ds.map Sl.sh) (some (.ref a0) :: vs.map some) (fun a => H a = none) v d → Fo K F' H' (env.set i x') σ (fun a => H a = none) v d := fun {v d} h => by
    obtain ⟨a, ho, e, h1, h2, h3, h4, h5⟩ := h
    refine ⟨a, ho, e, h1, h2, fun q => ?_, h4, h5⟩
    obtain ⟨j, dj, hj, ej⟩ := q
    rcases owS hj with ⟨e1, _⟩ | ⟨ne, hj'⟩
    · subst e1
      rw [hs] at ej; cases ej
      exact h3 wO
    · exact R.notOA h4 ⟨j, dj, hj', ej⟩
  refine ⟨R2, ⟨T'.fs, fun b o e n => keep b o e fun z => n (by rw [z]; exact oaw), T'.live, fun b hb => (newF b hb).elim .inl fun z => z.elim (fun z => .inr (.inl z)) fun z => .inr (.inr (by rw [z]; exact oaw)), fun b hb => .inl ?_, fun j dj h => ⟨rfl, ?_⟩⟩, ?_⟩
  · obtain ⟨j, dj, hj, ej⟩ := hb
    rcases owS hj with ⟨e1, _⟩ | ⟨ne, hj'⟩
    · subst e1
      exact ⟨j, d, ow, ej⟩
    · exact ⟨j, dj, hj', ej⟩
  · by_cases e1 : j = i
    · subst e1
      rcases hx with ⟨q, _⟩ | ⟨q, z⟩
      · rw [q] at h; cases h
      · subst z; exact ⟨d', by rw [List.getElem?_set_self hi]⟩
    · exact ⟨dj, by rw [List.getElem?_set_ne (Ne.symm e1)]; exact h⟩
  · cases r with
    | un => exact r1.elim
    | io d => exact r1.elim
    | sh d => exact r1
    | ow d => exact fo r1
    | tp x d =>
      obtain ⟨a, v0, v1, rfl, g1, g2, g3, g4, g5⟩ := r1
      refine ⟨a, v0, v1, rfl, g1, fun q => ?_, g3, g4, fo g5⟩
      obtain ⟨j, dj, oj, e⟩ := q
      obtain ⟨b, ho, e2, k1, k2, k3⟩ := R2.ob j dj oj
      rw [e] at e2; cases e2
      rw [g1] at k1; cases k1
      exact k3.elim
end

/-! ### the readings -/
section
variable (K : PySem.W.Frag) (tb : Tab)
def PoE (env : Ev) (F : Hp) (σ : L2.St) (H : Hp) (Q : VK) : Sl → Ev → Prop := fun r env' => ∀ v F' H', ER K F' σ H' env' → Tr env F σ H env' F' σ H' → RR K F' H' env' σ (NwOf env σ H) v r → Q v H'
def PoT (env : Ev) (F : Hp) (σ : L2.St) (H : Hp) (Q : Bool → Hp → Prop) : Bool → Ev → Prop := fun c env' => ∀ F' H', ER K F' σ H' env' → Tr env F σ H env' F' σ H' → Q c H'
def tE (p : P) : TE := fun σ H Q => ∃ env F, ER K F σ H env ∧ wpE tb p env (PoE K env F σ H Q)
def tT (p : T) : TT := fun σ H Q => ∃ env F, ER K F σ H env ∧ wpT tb p env (PoT K env F σ H Q)
end
theorem _root_.L2.PE.imp {X : Cx} {e : Expr} {t t' : TE} (h : PE X e t) (i : ∀ σ H Q, t' σ H Q → t σ H Q) : PE X e t' := ⟨fun pins s σ H Q I q => h.run pins s σ H Q I (i _ _ _ q)⟩
theorem _root_.L2.PT.imp {X : Cx} {e : Expr} {t t' : TT} (h : PT X e t) (i : ∀ σ H Q, t' σ H Q → t σ H Q) : PT X e t' := ⟨fun pins s σ H Q I q => h.run pins s σ H Q I (i _ _ _ q)⟩
section
variable {K : PySem.W.Frag} {tb : Tab} {F F0 F1 H H0 H1 : Hp} {σ : L2.St} {env env0 env1 : Ev} {v : V} {r : Sl} {Q : VK}
/-- from a state on, where a value is due -/
theorem PoE.on {env2 : Ev} (w : PoE K env0 F0 σ H0 Q r env2) (t : Tr env0 F0 σ H0 env1 F1 σ H1) : PoE K env1 F1 σ H1 Q r env2 := fun v F' H' R T' r1 => w v F' H' R (t.trans T') (r1.early fun a h => NwOf.trans t h)
theorem PoT.on {env2 : Ev} {c : Bool} {Q : Bool → Hp → Prop} (w : PoT K env0 F0 σ H0 Q c env2) (t : Tr env0 F0 σ H0 env1 F1 σ H1) : PoT K env1 F1 σ H1 Q c env2 := fun F' H' R T' => w F' H' R (t.trans T')
/-- a value that changes no slot -/
theorem PoE.wt (w : PoE K env0 F0 σ H0 Q r env1) (R : ER K F1 σ H1 env1) (t : Tr env0 F0 σ H0 env1 F1 σ H1) : Wt K F1 H1 Q r := fun v F' H' x => by
  obtain ⟨R', t', r1⟩ := x env1 σ R
  exact w v F' H' R' (t.trans t') (r1.early fun a h => .inl (t.live a h))
/-- one expression, then what its value asks -/
theorem s1 {p : P} {G : Sl → Ev → Prop} {R : VK} (h : ER K F σ H env) (w : wpE tb p env G) (hg : ∀ x e1 v F1 H1, ER K F1 σ H1 e1 → Tr env F σ H e1 F1 σ H1 → RR K F1 H1 e1 σ (NwOf env σ H) v x → G x e1 → R v H1) : tE K tb p σ H R :=
  ⟨env, F, h, wpE_mono p (fun x e1 g v F1 H1 R1 T1 r1 => hg x e1 v F1 H1 R1 T1 r1 g) w⟩
/-- .. the value frozen -/
theorem s1f {p : P} {G : Sl → Ev → Prop} {R : VK} (h : ER K F σ H env) (w : wpE tb p env G) (hg : ∀ x e1 v F1 H1, ER K F1 σ H1 e1 → Tr env F σ H e1 F1 σ H1 → Rp K F1 v x.d → G x e1 → R v H1) : tE K tb p σ H R :=
  s1 h w fun x e1 v F1 H1 R1 T1 r1 g => by
    obtain ⟨F2, R2, T2, r2, _⟩ := fz R1 T1 r1
    exact hg x e1 v F2 H1 R2 T2 r2 g
theorem st1 {p : T} {G : Bool → Ev → Prop} {R : Bool → Hp → Prop} (h : ER K F σ H env) (w : wpT tb p env G) (hg : ∀ c e1 F1 H1, ER K F1 σ H1 e1 → Tr env F σ H e1 F1 σ H1 → G c e1 → R c H1) : tT K tb p σ H R :=
  ⟨env, F, h, wpT_mono p (fun c e1 g F1 H1 R1 T1 => hg c e1 F1 H1 R1 T1 g) w⟩
end
end PL
end

section
set_option Elab.async false
set_option linter.all false
set_option autoImplicit false
set_option maxRecDepth 100000
set_option maxHeartbeats 1000000
/-! PLi: argument lists; expressions, construct by construct. -/
namespace PL
open PySem PySem.Spec PyProof.Rows L2

section
variable {K : PySem.W.Frag} {F F' F1 F2 F0 H H' H1 H2 H0 : Hp} {σ σ0 σ1 σ2 : L2.St} {env env0 env1 env2 : Ev} {a : Addr} {v : V} {r : Sl} {d d' : D} {ho : HO}
def RRs (K : PySem.W.Frag) (F H : Hp) (env : Ev) (σ : L2.St) (Nw : Addr → Prop) : List V → List Sl → Prop
  | [], [] => True
  | v :: vs, r :: rs => RR K F H env σ Nw v r ∧ r.st = r ∧ RRs K F H env σ Nw vs rs ∧ ∀ a d, r = .ow d → v = .ref a → ∀ (j : Nat) (d' : D), rs[j]? = some (Sl.ow d') → vs[j]? ≠ some (V.ref a)
  | _, _ => False
theorem RRs.length {Nw : Addr → Prop} : ∀ {vs : List V} {rs : List Sl}, RRs K F H env σ Nw vs rs → vs.length = rs.length
  | [], [], _ => rfl
  | _ :: _, _ :: _, h => by simp [RRs.length h.2.2.1]
  | [], _ :: _, h => h.elim
  | _ :: _, [], h => h.elim
theorem RRs.early {Nw Nw' : Addr → Prop} (l : ∀ a, Nw a → Nw' a) : ∀ {vs : List V} {rs : List Sl}, RRs K F H env σ Nw vs rs → RRs K F H env σ Nw' vs rs
  | [], [], _ => trivial
  | _ :: _, _ :: _, h => ⟨h.1.early l, h.2.1, RRs.early l h.2.2.1, h.2.2.2⟩
  | [], _ :: _, h => h.elim
  | _ :: _, [], h => h.elim
theorem RRs.at {Nw : Addr → Prop} : ∀ {vs : List V} {rs : List Sl} {j : Nat} {r : Sl}, RRs K F H env σ Nw vs rs → rs[j]? = some r → ∃ v, vs[j]? = some v ∧ RR K F H env σ Nw v r
  | [], [], _, _, _, e => by simp at e
  | v :: _, _ :: _, 0, _, h, e => by
    simp at e; subst e; exact ⟨v, rfl, h.1⟩
  | _ :: _, _ :: _, j + 1, _, h, e => by
    obtain ⟨v, e', r⟩ := RRs.at (j := j) h.2.2.1 (by simpa using e)
    exact ⟨v, by simpa using e', r⟩
  | [], _ :: _, _, _, h, _ => h.elim
  | _ :: _, [], _, _, h, _ => h.elim
/-- a value that is stored: a pair is frozen -/
theorem stz (R : ER K F σ H env) (t : Tr env0 F0 σ0 H0 env F σ H) (r1 : RR K F H env σ (NwOf env0 σ0 H0) v r) : ∃ F', ER K F' σ H env ∧ Tr env0 F0 σ0 H0 env F' σ H ∧ RR K F' H env σ (NwOf env0 σ0 H0) v r.st ∧ r.st.st = r.st ∧ r.st.d = r.d := by
  cases r with
  | un => exact r1.elim
  | io d => exact r1.elim
  | sh d => exact ⟨F, R, t, r1, rfl, rfl⟩
  | ow d => exact ⟨F, R, t, r1, rfl, rfl⟩
  | tp x d =>
    obtain ⟨F', R', t', r', _⟩ := fz R t r1
    exact ⟨F', R', t', r', rfl, rfl⟩
theorem RRs.fr {Nw : Addr → Prop} (h2 : F a = none) : ∀ {vs : List V} {rs : List Sl}, RRs K F H env σ Nw vs rs → (∀ (j : Nat) (d' : D), rs[j]? = some (Sl.ow d') → vs[j]? ≠ some (V.ref a)) → RRs K (upd F a ho) H env σ Nw vs rs
  | [], [], _, _ => trivial
  | v :: vs, r :: rs, h, n => by
    have s : Sam F (upd F a ho) := same_upd h2
    refine ⟨?_, h.2.1, RRs.fr h2 h.2.2.1 fun j d' e => by simpa using n (j + 1) d' (by simpa using e), h.2.2.2⟩
    have h1 := h.1
    have hst := h.2.1
    cases r with
    | un => exact h1.elim
    | io d => exact h1.elim
    | tp x d => cases hst
    | sh d => exact Rp.mono s h1
    | ow d =>
      obtain ⟨b, ho', rfl, k1, k2, k3, k4, k5⟩ := h1
      have ne : b ≠ a := fun z => n 0 d rfl (by rw [z]; rfl)
      exact ⟨b, ho', rfl, k1, by rw [upd_ne ne]; exact k2, k3, k4, k5.mono s⟩
  | [], _ :: _, h, _ => h.elim
  | _ :: _, [], h, _ => h.elim
/-- all are frozen -/
theorem fzAll : ∀ {vs : List V} {rs : List Sl} {F : Hp}, ER K F σ H env → Tr env0 F0 σ0 H0 env F σ H → RRs K F H env σ (NwOf env0 σ0 H0) vs rs →
    ∃ F', ER K F' σ H env ∧ Tr env0 F0 σ0 H0 env F' σ H ∧ RpAll K F' vs (rs.map Sl.d) ∧ Sam F F'
  | [], [], F, R, t, _ => ⟨F, R, t, .nil, Sam.refl _⟩
  | v :: vs, r :: rs, F, R, t, h => by
    have h1 := h.1
    have hst := h.2.1
    cases r with
    | un => exact h1.elim
    | io d => exact h1.elim
    | tp x d => cases hst
    | sh d =>
      obtain ⟨F', R', t', ra, s⟩ := fzAll R t h.2.2.1
      exact ⟨F', R', t', .cons (Rp.mono s h1) ra, s⟩
    | ow d =>
      obtain ⟨a, ho, rfl, k1, k2, k3, k4, k5⟩ := h1
      obtain ⟨R1, t1, s1⟩ := fz1 R t k1 k2 k3 k4
      obtain ⟨F', R', t', ra, s⟩ := fzAll R1 t1 (RRs.fr k2 h.2.2.1 (h.2.2.2 a d rfl rfl))
      exact ⟨F', R', t', .cons (((k5.mono s1).rp upd_same).mono s) ra, s1.trans s⟩
  | [], _ :: _, _, _, _, h => h.elim
  | _ :: _, [], _, _, _, h => h.elim
end
def PoA (K : PySem.W.Frag) (env : Ev) (F : Hp) (σ : L2.St) (H : Hp) (Q : List V → Hp → Prop) : List Sl → Ev → Prop := fun rs env' => ∀ vs F' H', ER K F' σ H' env' → Tr env F σ H env' F' σ H' → RRs K F' H' env' σ (NwOf env σ H) vs rs → Q vs H'
def tA (K : PySem.W.Frag) (tb : Tab) (as : As) : TA := fun σ H Q => ∃ env F, ER K F σ H env ∧ wpA tb as env (PoA K env F σ H Q)
theorem _root_.L2.PA.imp {X : Cx} {es : List Expr} {t t' : TA} (h : PA X es t) (i : ∀ σ H Q, t' σ H Q → t σ H Q) : PA X es t' := ⟨fun pos pins s σ H Q I q => h.run pos pins s σ H Q I (i _ _ _ q)⟩
section
variable {X : Cx} {tb : Tab}
theorem a_nil : PA X [] (tA X.K tb .nil) := pa_nil.imp fun σ H Q ⟨env, F, R, w⟩ => w [] F H R (Tr.refl _ _ _ _) trivial
theorem cons_imp {K : PySem.W.Frag} {F H : Hp} {σ : L2.St} {env : Ev} {p : P} {as : As} {Q : List V → Hp → Prop} (R : ER K F σ H env) (w : wpA tb (.cons p as) env (PoA K env F σ H Q)) : tCons (tE K tb p) (tA K tb as) σ H Q := by
  refine s1 R w fun x e1 v F1 H1 R1 T1 r1 g => ?_
  obtain ⟨F2, R2, T2, r2, est, _⟩ := stz R1 T1 r1
  refine ⟨e1, F2, R2, wpA_mono as (fun rs e2 g vs F3 H3 R3 T3 rr => g (v :: vs) F3 H3 R3 (T2.trans T3) ⟨r2.mono T3, est, rr.early fun a h => NwOf.trans T2 h, fun a d ed ev j d' hj hv => ?_⟩) g⟩
  rw [ed] at r2
  obtain ⟨b, ho, eb, k1, k2, k3, k4, k5⟩ := r2
  rw [ev] at eb
  cases eb
  obtain ⟨v', hv', b', ho', e', m1, m2, m3, m4, m5⟩ := rr.at hj
  rw [hv] at hv'
  cases hv'
  cases e'
  rcases m4 with z | z
  · rw [k1] at z; cases z
  · exact k3 z
theorem a_cons {e : Expr} {es : List Expr} {p : P} {as : As} (ha : PE X e (tE X.K tb p)) (hr : PA X es (tA X.K tb as)) (hs : starEach (e :: es) X.env = (false, eval e X.env) :: starEach es X.env) : PA X (e :: es) (tA X.K tb (.cons p as)) :=
  (pa_cons ha hr hs).imp fun σ H Q ⟨env, F, R, w⟩ => cons_imp R w
/-- an argument list, all frozen -/
theorem sA {K : PySem.W.Frag} {F H : Hp} {σ : L2.St} {env : Ev} {as : As} {G : List Sl → Ev → Prop} {R : List V → Hp → Prop} (h : ER K F σ H env) (w : wpA tb as env G)
    (hg : ∀ rs e1 vs F1 H1, ER K F1 σ H1 e1 → Tr env F σ H e1 F1 σ H1 → RpAll K F1 vs (rs.map Sl.d) → G rs e1 → R vs H1) : tA K tb as σ H R :=
  ⟨env, F, h, wpA_mono as (fun rs e1 g vs F1 H1 R1 T1 r1 => by
    obtain ⟨F2, R2, T2, r2, _⟩ := fzAll R1 T1 r1
    exact hg rs e1 vs F2 H1 R2 T2 r2 g) w⟩

/-! ### leaves -/
theorem e_var {i : Nat} {e : Expr} (h : PE X e (tVar i)) : PE X e (tE X.K tb (.var i)) := h.imp fun σ H Q ⟨env, F, R, w⟩ => by
  obtain ⟨r, env', F', v, q, e, R', t', rr⟩ := rd_ok R w
  exact ⟨v, e, q v F' H R' t' rr⟩
theorem e_mv {i : Nat} {e : Expr} (h : PE X e (tVar i)) : PE X e (tE X.K tb (.mv i)) := h.imp fun σ H Q ⟨env, F, R, w⟩ => by
  obtain ⟨d, env', v, q, e, R', t', rr⟩ := mv_ok R w
  exact ⟨v, e, q v F H R' t' rr⟩
theorem e_const {p : P} {e : Expr} {v : V} {d : D} (h : PE X e (tC v)) (hp : ∀ env Q, wpE tb p env Q → Q (.sh d) env) (r : ∀ F : Hp, Rp X.K F v d) : PE X e (tE X.K tb p) := h.imp fun σ H Q ⟨env, F, R, w⟩ =>
  hp _ _ w v F H R (Tr.refl _ _ _ _) (r F)
/-! ### two values, then an operator -/
theorem s2 {K : PySem.W.Frag} {F H : Hp} {σ : L2.St} {env : Ev} {p q : P} {G : Sl → Sl → Ev → Prop} {R : V → V → Hp → Prop} (h : ER K F σ H env) (w : wpE tb p env fun x e1 => wpE tb q e1 fun y e2 => G x y e2)
    (hg : ∀ x y e2 v u F2 H2, ER K F2 σ H2 e2 → Tr env F σ H e2 F2 σ H2 → Rp K F2 v x.d → Rp K F2 u y.d → G x y e2 → R v u H2) : tE K tb p σ H fun v H1 => tE K tb q σ H1 fun u H2 => R v u H2 :=
  s1f h w fun x e1 v F1 H1 R1 T1 r1 g => s1f R1 g fun y e2 u F2 H2 R2 T2 r2 g => hg x y e2 v u F2 H2 R2 (T1.trans T2) (r1.mono T2.fs) r2 g
theorem e_bin {o : Operator} {a b : Expr} {p q : P} {pos : Pos} (ha : PE X a (tE X.K tb p)) (hb : PE X b (tE X.K tb q)) : PE X (.BinOp a o b pos) (tE X.K tb (.bin o p q)) :=
  (pe_op (op_bin o) ha hb).imp fun σ H Q ⟨env, F, R, w⟩ => s2 R w fun x y e2 v u F2 H2 R2 T2 r1 r2 g => ⟨F2, x.d, y.d, R2.sub, r1, r2, binS_mono (fun r z => PoE.wt z R2 T2) g⟩
theorem e_neg {a : Expr} {p : P} {pos : Pos} (ha : PE X a (tE X.K tb p)) : PE X (.UnaryOp .USub a pos) (tE X.K tb (.neg p)) :=
  (pe_un un_neg ha).imp fun σ H Q ⟨env, F, R, w⟩ => s1f R w fun x e1 v F1 H1 R1 T1 r1 g => by
    revert g
    show (match x.d with | .int i => _ | _ => False) → _
    split
    · rename_i i e
      intro g
      rw [e] at r1
      have := rp_int r1; subst this
      exact ⟨i, rfl, (PoE.wt g R1 T1).val (.int _)⟩
    · exact fun g => g.elim
theorem e_cmp {o : CmpOp} {a b : Expr} {p q : P} {pos : Pos} (hu : X.A.units + 65 < cLine) (ha : PE X a (tE X.K tb p)) (hb : PE X b (tE X.K tb q)) (hm : behindInMarks o b = false) : PE X (.Compare a [o] [b] pos) (tE X.K tb (.cmp o p q)) :=
  (pe_cmpR (op_cmp hu o) ha hb hm).imp fun σ H Q ⟨env, F, R, w⟩ => s2 R w fun x y e2 v u F2 H2 R2 T2 r1 r2 g => ⟨x.d, y.d, r1.mono R2.sub, r2.mono R2.sub, cmpS_mono (fun r z => (PoE.wt z R2 T2).val (.bl _)) g⟩
theorem t_cmp {o : CmpOp} {a b : Expr} {p q : P} {pos : Pos} (hu : X.A.units + 65 < cLine) (ha : PE X a (tE X.K tb p)) (hb : PE X b (tE X.K tb q)) (hm : behindInMarks o b = false) : PT X (.Compare a [o] [b] pos) (tT X.K tb (.cmp o p q)) :=
  (pt_cmpR (op_cmp hu o) ha hb hm).imp fun σ H Q ⟨env, F, R, w⟩ => s2 R w fun x y e2 v u F2 H2 R2 T2 r1 r2 g => ⟨x.d, y.d, r1.mono R2.sub, r2.mono R2.sub, cmpS_mono (fun r z => ⟨_, rfl, z F2 H2 R2 T2⟩) g⟩
/-- the right side a name that is read where it stands -/
theorem sB {K : PySem.W.Frag} {F H : Hp} {σ : L2.St} {env : Ev} {p : P} {i : Nat} {G : Sl → D → Ev → Prop} {R : V → V → Hp → Prop} (h : ER K F σ H env) (w : wpE tb p env fun x e1 => pk e1 i fun y => G x y e1)
    (hg : ∀ x y e1 v u F1 H1, ER K F1 σ H1 e1 → Tr env F σ H e1 F1 σ H1 → Rp K F1 v x.d → RpB K F1 H1 u y → G x y e1 → R v u H1) : tE K tb p σ H fun v H1 => tVar i σ H1 fun u H2 => R v u H2 :=
  s1f h w fun x e1 v F1 H1 R1 T1 r1 g => by
    obtain ⟨d, u, q, e, rb⟩ := pk_okB R1 g
    exact ⟨u, e, hg x d e1 v u F1 H1 R1 T1 r1 rb q⟩
theorem e_cmpB {o : CmpOp} {a b : Expr} {p : P} {i : Nat} {pos : Pos} (hu : X.A.units + 65 < cLine) (ha : PE X a (tE X.K tb p)) (hb : PE X b (tVar i)) (hm : behindInMarks o b = false) : PE X (.Compare a [o] [b] pos) (tE X.K tb (.cmpB o p i)) :=
  (pe_cmpR (op_cmp hu o) ha hb hm).imp fun σ H Q ⟨env, F, R, w⟩ => sB R w fun x y e2 v u F2 H2 R2 T2 r1 r2 g => ⟨x.d, y, r1.mono R2.sub, r2.rp R2.sub, cmpS_mono (fun r z => (PoE.wt z R2 T2).val (.bl _)) g⟩
theorem t_cmpB {o : CmpOp} {a b : Expr} {p : P} {i : Nat} {pos : Pos} (hu : X.A.units + 65 < cLine) (ha : PE X a (tE X.K tb p)) (hb : PE X b (tVar i)) (hm : behindInMarks o b = false) : PT X (.Compare a [o] [b] pos) (tT X.K tb (.cmpB o p i)) :=
  (pt_cmpR (op_cmp hu o) ha hb hm).imp fun σ H Q ⟨env, F, R, w⟩ => sB R w fun x y e2 v u F2 H2 R2 T2 r1 r2 g => ⟨x.d, y, r1.mono R2.sub, r2.rp R2.sub, cmpS_mono (fun r z => ⟨_, rfl, z F2 H2 R2 T2⟩) g⟩
theorem e_chain {o o2 : CmpOp} {a b c : Expr} {p q r : P} {pos : Pos} (hu : X.A.units + 65 < cLine) (ha : PE X a (tE X.K tb p)) (hb : PE X b (tE X.K tb q)) (hc : PE X c (tE X.K tb r)) (hm2 : behindInMarks o2 c = false) :
    PE X (.Compare a [o, o2] [b, c] pos) (tE X.K tb (.chain o o2 p q r)) :=
  (pe_chain (op_cmp hu o) (op_cmp hu o2) ha hb hc (show lastMarks [o, o2] [b, c] = false from hm2)).imp fun σ H Q ⟨env, F, R, w⟩ => s2 R w fun x y e2 v u F2 H2 R2 T2 r1 r2 g => ⟨x.d, y.d, r1.mono R2.sub, r2.mono R2.sub, cmpS_mono (fun k z => ⟨k, rfl, by
    cases k with
    | false => exact (PoE.wt z R2 T2).val (.bl _)
    | true => exact s1f R2 z fun y3 e3 u3 F3 H3 R3 T3 r3 g => ⟨y.d, y3.d, (r2.mono T3.fs).mono R3.sub, r3.mono R3.sub, cmpS_mono (fun r z => (PoE.wt z R3 (T2.trans T3)).val (.bl _)) g⟩⟩) g⟩
theorem t_chain {o o2 : CmpOp} {a b c : Expr} {p q r : P} {pos : Pos} (hu : X.A.units + 65 < cLine) (ha : PE X a (tE X.K tb p)) (hb : PE X b (tE X.K tb q)) (hc : PE X c (tE X.K tb r)) (hm2 : behindInMarks o2 c = false) :
    PT X (.Compare a [o, o2] [b, c] pos) (tT X.K tb (.chain o o2 p q r)) :=
  (pt_chain (op_cmp hu o) (op_cmp hu o2) ha hb hc (show lastMarks [o, o2] [b, c] = false from hm2)).imp fun σ H Q ⟨env, F, R, w⟩ => s2 R w fun x y e2 v u F2 H2 R2 T2 r1 r2 g => ⟨x.d, y.d, r1.mono R2.sub, r2.mono R2.sub, cmpS_mono (fun k z => ⟨k, rfl, by
    cases k with
    | false => exact ⟨false, rfl, z F2 H2 R2 T2⟩
    | true => exact s1f R2 z fun y3 e3 u3 F3 H3 R3 T3 r3 g => ⟨y.d, y3.d, (r2.mono T3.fs).mono R3.sub, r3.mono R3.sub, cmpS_mono (fun r z => ⟨_, rfl, z F3 H3 R3 (T2.trans T3)⟩) g⟩⟩) g⟩
end
end PL
end

section
set_option Elab.async false
set_option linter.all false
set_option autoImplicit false
set_option maxRecDepth 100000
set_option maxHeartbeats 1000000
/-! PLj: further expressions. -/
namespace PL
open PySem PySem.Spec PyProof.Rows L2

section
variable {X : Cx} {tb : Tab} {pos : Pos} {a b c : Expr} {p q r : P}
/-! ### and, or, not -/
theorem e_and {rest : List Expr} (ha : PE X a (tE X.K tb p)) (hb : PE X (.BoolOp .And (b :: rest) pos) (tE X.K tb q)) : PE X (.BoolOp .And (a :: b :: rest) pos) (tE X.K tb (.and p q)) :=
  (pe_and ha hb).imp fun σ H Q ⟨env, F, R, w⟩ => s1f R w fun x e1 v F1 H1 R1 T1 r1 g => by
    revert g
    show (match x.d with | .bool false => _ | .bool true => _ | _ => False) → _
    split
    · rename_i e
      intro g
      rw [e] at r1
      have := rp_bool r1; subst this
      exact ⟨false, rfl, by rw [if_neg Bool.false_ne_true]; exact (PoE.wt g R1 T1).val (.bl _)⟩
    · rename_i e
      intro g
      rw [e] at r1
      have := rp_bool r1; subst this
      exact ⟨true, rfl, by rw [if_pos rfl]; exact ⟨e1, F1, R1, wpE_mono q (fun _ _ z => z.on T1) g⟩⟩
    · exact fun g => g.elim
theorem e_or {rest : List Expr} (ha : PE X a (tE X.K tb p)) (hb : PE X (.BoolOp .Or (b :: rest) pos) (tE X.K tb q)) : PE X (.BoolOp .Or (a :: b :: rest) pos) (tE X.K tb (.or p q)) :=
  (pe_or ha hb).imp fun σ H Q ⟨env, F, R, w⟩ => s1f R w fun x e1 v F1 H1 R1 T1 r1 g => by
    revert g
    show (match x.d with | .bool true => _ | .bool false => _ | _ => False) → _
    split
    · rename_i e
      intro g
      rw [e] at r1
      have := rp_bool r1; subst this
      exact ⟨true, rfl, by rw [if_pos rfl]; exact (PoE.wt g R1 T1).val (.bl _)⟩
    · rename_i e
      intro g
      rw [e] at r1
      have := rp_bool r1; subst this
      exact ⟨false, rfl, by rw [if_neg Bool.false_ne_true]; exact ⟨e1, F1, R1, wpE_mono q (fun _ _ z => z.on T1) g⟩⟩
    · exact fun g => g.elim
theorem e_one {op : BoolOp} (ha : PE X a (tE X.K tb p)) : PE X (.BoolOp op [a] pos) (tE X.K tb p) := pe_one ha
theorem e_not (ha : PE X a (tE X.K tb p)) : PE X (.UnaryOp .Not a pos) (tE X.K tb (.not p)) :=
  (pe_not ha).imp fun σ H Q ⟨env, F, R, w⟩ => s1f R w fun x e1 v F1 H1 R1 T1 r1 g => by
    revert g
    show (match x.d with | .bool c => _ | _ => False) → _
    split
    · rename_i k e
      intro g
      rw [e] at r1
      have := rp_bool r1; subst this
      exact ⟨k, rfl, (PoE.wt g R1 T1).val (.bl _)⟩
    · exact fun g => g.elim
theorem t_val (ha : PE X a (tE X.K tb p)) (he : ∀ whole, isTrue a X.env whole = (do let v ← whole; standAt a.pos; holding [v] (truthy v))) : PT X a (tT X.K tb (.val p)) :=
  (pt_val ha he).imp fun σ H Q ⟨env, F, R, w⟩ => s1f R w fun x e1 v F1 H1 R1 T1 r1 g => by
    revert g
    show (match x.d with | .bool c => _ | _ => False) → _
    split
    · rename_i k e
      intro g
      rw [e] at r1
      have := rp_bool r1; subst this
      exact ⟨k, rfl, g F1 H1 R1 T1⟩
    · exact fun g => g.elim
theorem _root_.L2.PW.imp {X : Cx} {e : Expr} {t t' : TT} (h : PW X e t) (i : ∀ σ H Q, t' σ H Q → t σ H Q) : PW X e t' := ⟨fun wh pins s σ H Q I q => h.run wh pins s σ H Q I (i _ _ _ q)⟩
variable {x y : T}
theorem t_and {rest : List Expr} (ha : PT X a (tT X.K tb x)) (hb : PW X (.BoolOp .And (b :: rest) pos) (tT X.K tb y)) : PW X (.BoolOp .And (a :: b :: rest) pos) (tT X.K tb (.and x y)) :=
  (pw_and ha hb).imp fun σ H Q ⟨env, F, R, w⟩ => st1 R w fun c e1 F1 H1 R1 T1 g => by
    cases c with
    | false => rw [if_neg Bool.false_ne_true]; exact g F1 H1 R1 T1
    | true => rw [if_pos rfl]; exact ⟨e1, F1, R1, wpT_mono y (fun _ _ z => z.on T1) g⟩
theorem t_or {rest : List Expr} (ha : PT X a (tT X.K tb x)) (hb : PW X (.BoolOp .Or (b :: rest) pos) (tT X.K tb y)) : PW X (.BoolOp .Or (a :: b :: rest) pos) (tT X.K tb (.or x y)) :=
  (pw_or ha hb).imp fun σ H Q ⟨env, F, R, w⟩ => st1 R w fun c e1 F1 H1 R1 T1 g => by
    cases c with
    | true => rw [if_pos rfl]; exact g F1 H1 R1 T1
    | false => rw [if_neg Bool.false_ne_true]; exact ⟨e1, F1, R1, wpT_mono y (fun _ _ z => z.on T1) g⟩
theorem t_not (ha : PT X a (tT X.K tb x)) : PT X (.UnaryOp .Not a pos) (tT X.K tb (.not x)) :=
  (pt_not ha).imp fun σ H Q ⟨env, F, R, w⟩ => st1 R w fun c e1 F1 H1 R1 T1 g => g F1 H1 R1 T1
theorem e_ife (ht : PT X c (tT X.K tb x)) (ha : PE X a (tE X.K tb p)) (hb : PE X b (tE X.K tb q)) : PE X (.IfExp c a b pos) (tE X.K tb (.ife x p q)) :=
  (pe_ifExp ht ha hb).imp fun σ H Q ⟨env, F, R, w⟩ => st1 R w fun c e1 F1 H1 R1 T1 g => by
    cases c with
    | true => rw [if_pos rfl]; exact ⟨e1, F1, R1, wpE_mono p (fun _ _ z => z.on T1) g⟩
    | false => rw [if_neg Bool.false_ne_true]; exact ⟨e1, F1, R1, wpE_mono q (fun _ _ z => z.on T1) g⟩
theorem e_fz (ha : PE X a (tE X.K tb p)) : PE X a (tE X.K tb (.fz p)) :=
  ha.imp fun σ H Q ⟨env, F, R, w⟩ => s1f R w fun x e1 v F1 H1 R1 T1 r1 g => g v F1 H1 R1 T1 r1
/-! ### displays -/
theorem small_sz {n : Nat} (h : n ≤ 1000) : n ≤ sizeLine := by rw [sizeLine_eq]; omega
theorem wpA_len {tb : Tab} : ∀ {es : As} {n : Nat} {env : Ev} {Q : List Sl → Ev → Prop}, wpA tb es env Q → True := fun _ => trivial
def As.len : As → Nat
  | .nil => 0
  | .cons _ r => r.len + 1
theorem wpA_len2 {tb : Tab} : ∀ (as : As) {env : Ev} {Q : List Sl → Ev → Prop}, wpA tb as env Q → wpA tb as env fun rs e => rs.length = as.len ∧ Q rs e
  | .nil, _, _, w => ⟨rfl, w⟩
  | .cons a r, _, _, w => wpE_mono a (fun x e w => wpA_mono r (fun rs e w => ⟨by show rs.length + 1 = r.len + 1; rw [w.1], w.2⟩) (wpA_len2 r w)) w
theorem e_tup {es : List Expr} {as : As} {k : Nat} (hl : as.len ≤ 1000) (ha : PA X es (tA X.K tb as)) : PE X (.Tuple es k pos) (tE X.K tb (.tup as)) :=
  (pe_tup ha).imp fun σ H Q ⟨env, F, R, w⟩ => sA R (wpA_len2 as w) fun rs e1 vs F1 H1 R1 T1 ra g => by
    have hz : vs.length ≤ sizeLine := by
      rw [ra.length, List.length_map, g.1]
      exact small_sz hl
    exact ⟨hz, (PoE.wt g.2 R1 T1).tup ra hz⟩
theorem e_lst {es : List Expr} {as : As} (hl : as.len ≤ 1000) (ha : PA X es (tA X.K tb as)) : PE X (.List es pos) (tE X.K tb (.lst as)) :=
  (pe_lst ha).imp fun σ H Q ⟨env, F, R, w⟩ => sA R (wpA_len2 as w) fun rs e1 vs F1 H1 R1 T1 ra g => by
    have hz : vs.length ≤ sizeLine := by
      rw [ra.length, List.length_map, g.1]
      exact small_sz hl
    exact ⟨hz, (PoE.wt g.2 R1 T1).lst ra hz⟩
theorem e_pr {k : Nat} (ha : PE X a (tE X.K tb p)) (hb : PE X b (tE X.K tb q)) (hs : starEach [a, b] X.env = (false, eval a X.env) :: starEach [b] X.env) (hs2 : starEach [b] X.env = (false, eval b X.env) :: starEach [] X.env) : PE X (.Tuple [a, b] k pos) (tE X.K tb (.pr p q)) :=
  (pe_tup (pa_cons ha (pa_cons hb pa_nil hs2) hs)).imp fun σ H Q ⟨env, F, R, w⟩ => s1f R w fun x e1 v F1 H1 R1 T1 r1 g => s1 R1 g fun y e2 u F2 H2 R2 T2 r2 g => by
    cases y with
    | un => exact g.elim
    | sh d => exact g.elim
    | io d => exact g.elim
    | tp x d => exact g.elim
    | ow d =>
      refine ⟨by show 2 ≤ sizeLine; decide, fun t ht => ?_⟩
      have sH : Sam H2 (upd H2 t (.tup [v, u])) := same_upd ht
      have T := T1.trans T2
      have nO : ¬ OA e2 σ t := R2.notOA ht
      have R3 : ER X.K F2 σ (upd H2 t (.tup [v, u])) e2 := ⟨R2.sub.trans sH, R2.len, R2.sh, fun i d h => by
        obtain ⟨a, ho, e, h1, h2, h3⟩ := R2.ob i d h
        exact ⟨a, ho, e, upd_keep ht h1, h2, h3⟩, R2.inj⟩
      have T3 : Tr e2 F2 σ H2 e2 F2 σ (upd H2 t (.tup [v, u])) := ⟨Sam.refl _, fun b o e _ => .inl (upd_keep ht e), fun b e => sH.free e, fun b hb => .inl hb, fun b hb => .inl hb, fun i d h => ⟨rfl, d, h⟩⟩
      have fo : Fo X.K F2 (upd H2 t (.tup [v, u])) e2 σ (NwOf env σ H) u d := (Fo.mono r2 T3 |> fun (z : Fo X.K F2 (upd H2 t (.tup [v, u])) e2 σ (NwOf e1 σ H1) u d) => by
        obtain ⟨a, ho, e, h1, h2, h3, h4, h5⟩ := z
        exact ⟨a, ho, e, h1, h2, h3, NwOf.trans T1 h4, h5⟩)
      exact g _ F2 _ R3 (T.trans T3) ⟨t, v, u, rfl, upd_same, nO, fun _ => .inl (T.live t ht), r1.mono T2.fs, fo⟩
/-! ### subscripts -/
theorem e_ix (hu : X.A.units + 65 < cLine) (hs : PlainIx b) (ha : PE X a (tE X.K tb p)) (hb : PE X b (tE X.K tb q)) : PE X (.Subscript a b pos) (tE X.K tb (.ix p q)) :=
  (pe_ix (ix_all (by omega)) ha hb hs).imp fun σ H Q ⟨env, F, R, w⟩ => s2 R w fun x y e2 v u F2 H2 R2 T2 r1 r2 g => ⟨F2, x.d, y.d, R2.sub, .inl r1, r2, ixS_mono (fun r z => PoE.wt z R2 T2) g⟩
theorem e_ixB {i : Nat} (hu : X.A.units + 65 < cLine) (hs : PlainIx b) (ha : PE X a (tVar i)) (hb : PE X b (tE X.K tb q)) : PE X (.Subscript a b pos) (tE X.K tb (.ixB i q)) :=
  (pe_ix (ix_all (by omega)) ha hb hs).imp fun σ H Q ⟨env, F, R, w⟩ => by
    obtain ⟨w0, w⟩ := w
    have key : tE X.K tb q σ H fun u H1 => tVar i σ H1 fun v H2 => rX X.K v u H2 Q := s1f R w fun y e1 u F1 H1 R1 T1 r1 g => by
      obtain ⟨d, v, k, e, rb⟩ := pk_okB R1 g
      exact ⟨v, e, F1, d, y.d, R1.sub, rb, r1, ixS_mono (fun r z => PoE.wt z R1 T1) k⟩
    obtain ⟨_, v, _, e, _⟩ := pk_okB R w0
    refine ⟨v, e, ?_⟩
    obtain ⟨env', F', R', w'⟩ := key
    refine ⟨env', F', R', wpE_mono q (fun r e1 z u F1 H1 R1 T1 r1 => ?_) w'⟩
    obtain ⟨v', e', k⟩ := z u F1 H1 R1 T1 r1
    rw [e] at e'
    cases e'
    exact k
theorem sL {K : PySem.W.Frag} {F H : Hp} {σ : L2.St} {env : Ev} {i : Nat} {G : PyData → Sl → Ev → Prop} {R : V → V → Hp → Prop} (h : ER K F σ H env) (w : pk env i (fun _ => True) ∧ wpE tb q env fun y e1 => pk e1 i fun x => G x y e1)
    (hg : ∀ x y e1 v u F1 H1, ER K F1 σ H1 e1 → Tr env F σ H e1 F1 σ H1 → RpB K F1 H1 v x → Rp K F1 u y.d → G x y e1 → R v u H1) : tVar i σ H fun v H1 => tE K tb q σ H1 fun u H2 => R v u H2 := by
  obtain ⟨w0, w⟩ := w
  obtain ⟨_, v, _, e, _⟩ := pk_okB h w0
  refine ⟨v, e, s1f h w fun y e1 u F1 H1 R1 T1 r1 g => ?_⟩
  obtain ⟨d, v', k, e', rb⟩ := pk_okB R1 g
  rw [e] at e'
  cases e'
  exact hg d y e1 v u F1 H1 R1 T1 rb r1 k
theorem e_cmpL {o : CmpOp} {i : Nat} (hu : X.A.units + 65 < cLine) (ha : PE X a (tVar i)) (hb : PE X b (tE X.K tb q)) (hm : behindInMarks o b = false) : PE X (.Compare a [o] [b] pos) (tE X.K tb (.cmpL o i q)) :=
  (pe_cmpR (op_cmp hu o) ha hb hm).imp fun σ H Q ⟨env, F, R, w⟩ => sL R w fun x y e2 v u F2 H2 R2 T2 r1 r2 g => ⟨x, y.d, r1.rp R2.sub, r2.mono R2.sub, cmpS_mono (fun r z => (PoE.wt z R2 T2).val (.bl _)) g⟩
theorem t_cmpL {o : CmpOp} {i : Nat} (hu : X.A.units + 65 < cLine) (ha : PE X a (tVar i)) (hb : PE X b (tE X.K tb q)) (hm : behindInMarks o b = false) : PT X (.Compare a [o] [b] pos) (tT X.K tb (.cmpL o i q)) :=
  (pt_cmpR (op_cmp hu o) ha hb hm).imp fun σ H Q ⟨env, F, R, w⟩ => sL R w fun x y e2 v u F2 H2 R2 T2 r1 r2 g => ⟨x, y.d, r1.rp R2.sub, r2.mono R2.sub, cmpS_mono (fun r z => ⟨_, rfl, z F2 H2 R2 T2⟩) g⟩
/-! ### slices -/
def tO (K : PySem.W.Frag) (tb : Tab) (as : As) : TO := fun σ H Q => ∃ env F, ER K F σ H env ∧ wpA tb as env fun rs env' => partS (rs.map Sl.d) fun o => ∀ F' H', ER K F' σ H' env' → Tr env F σ H env' F' σ H' → Q o H'
theorem _root_.L2.PO.imp {X : Cx} {e : Option Expr} {t t' : TO} (h : PO X e t) (i : ∀ σ H Q, t' σ H Q → t σ H Q) : PO X e t' := ⟨fun pins s σ H Q I q => h.run pins s σ H Q I (i _ _ _ q)⟩
theorem o_nil : PO X none (tO X.K tb .nil) := po_none.imp fun σ H Q ⟨env, F, R, w⟩ => w F H R (Tr.refl _ _ _ _)
theorem o_cons (ha : PE X a (tE X.K tb p)) : PO X (some a) (tO X.K tb (.cons p .nil)) := (po_some ha).imp fun σ H Q ⟨env, F, R, w⟩ => s1f R w fun x e1 v F1 H1 R1 T1 r1 g => by
  have g : partS [x.st.d] _ := g
  have e : x.st.d = x.d := by cases x <;> rfl
  rw [e] at g
  revert g r1
  unfold partS
  cases x.d with
  | int i =>
    intro r1 g
    have := rp_int r1; subst this
    exact ⟨i, rfl, g F1 H1 R1 T1⟩
  | _ => exact fun _ g => g.elim
theorem e_slc {lo hi : Option Expr} {l h : As} {p2 : Pos} (ha : PE X a (tE X.K tb p)) (hl : PO X lo (tO X.K tb l)) (hh : PO X hi (tO X.K tb h)) : PE X (.Subscript a (.Slice lo hi none p2) pos) (tE X.K tb (.slc p l h)) :=
  (pe_slice sl_all ha hl hh).imp fun σ H Q ⟨env, F, R, w⟩ => s1f R w fun x e1 v F1 H1 R1 T1 r1 g => by
    refine ⟨e1, F1, R1, wpA_mono l (fun ls e2 g => partS_mono (fun o g F2 H2 R2 T2 => ?_) g) g⟩
    refine ⟨e2, F2, R2, wpA_mono h (fun hs e3 g => partS_mono (fun o2 g F3 H3 R3 T3 => ?_) g) g⟩
    have T := T2.trans T3
    exact ⟨F3, x.d, R3.sub, r1.mono T.fs, slcS_mono (fun r z => PoE.wt z R3 (T1.trans T)) g⟩
theorem e_rev {k : Nat} {p1 p2 p3 : Pos} (ha : PE X a (tE X.K tb p)) : PE X (.Subscript a (.Slice none none (some (.UnaryOp .USub (.Constant (.int 1) k p1) p2)) p3) pos) (tE X.K tb (.rev p)) :=
  (pe_rev ha).imp fun σ H Q ⟨env, F, R, w⟩ => s1f R w fun x e1 v F1 H1 R1 T1 r1 g => ⟨F1, x.d, R1.sub, r1, revS_mono (fun r z => PoE.wt z R1 T1) g⟩
/-! ### calls of defs -/
theorem rr_new {K : PySem.W.Frag} {F H : Hp} {env : Ev} {σ : L2.St} {H1 : Hp} {v : V} {r : Sl} {Nw : Addr → Prop} (r1 : RR K F H env σ (fun a => H1 a = none) v r) (l : ∀ a, H1 a = none → Nw a) : RR K F H env σ Nw v r := r1.early l
theorem vals_non : ∀ n : Nat, Vals (List.replicate n V.non) (List.replicate n Value.none)
  | 0 => .nil
  | n + 1 => .cons rfl (vals_non n)
theorem rp_nons {K : PySem.W.Frag} {F : Hp} : ∀ n : Nat, RpAll K F (List.replicate n V.non) (List.replicate n PyData.none)
  | 0 => .nil
  | n + 1 => .cons .non (rp_nons n)
end
end PL
end

section
set_option Elab.async false
set_option linter.all false
set_option autoImplicit false
set_option maxRecDepth 100000
set_option maxHeartbeats 1000000
/-! PLk: calls of defs. -/
namespace PL
open PySem PySem.Spec PyProof.Rows L2

theorem pass0 (X : Cx) : Passes CX0 X E0 := fun _ _ _ _ _ _ _ h => h.elim
section
variable {K : PySem.W.Frag} {F H : Hp} {σ : L2.St} {env env0 : Ev} {F0 H0 : Hp}
/-- what a def asks of its caller, its arguments frozen -/
theorem call_sp {n : Nat} {Rl : FSem} {vs : List V} {ds : List PyData} {Q : VK} (mono : ∀ {ds : List PyData} {K K' : Sl → PyData → Prop}, (∀ r d, K r d → K' r d) → Rl ds K → Rl ds K') (R : ER K F σ H env) (T : Tr env0 F0 σ H0 env F σ H) (ra : RpAll K F vs ds) (hn : ds.length = n)
    (hr : Rl ds fun r _ => PoE K env0 F0 σ H0 Q r env) : spG K false n Rl vs H Q E0 := by
  refine ⟨F, ds, er_args R.sub ra, hn, mono (fun r d' w v F' H' R' T' r' => ?_) hr⟩
  obtain ⟨R2, T2, r2⟩ := call_ok R (noOwn ds) R' T' r'
  exact w v F' H' R2 (T.trans T2) (r2.early fun a h => .inl (T.live a h))
theorem erw_args {i : Nat} {d : D} {a : Addr} {vs : List V} {ds : List D} (R : ER K F σ H env) (ow : Owns env i d) (hs : σ[i]? = some (some (.ref a))) (r : RpAll K F vs ds) : ER K F (some (.ref a) :: vs.map some) H (.io d :: ds.map Sl.sh) where
  sub := R.sub
  len := by simp [r.length]
  sh := fun j d' h => by
    cases j with
    | zero => simp at h
    | succ j => simpa using (er_args R.sub r).sh j d' (by simpa using h)
  ob := fun j d' h => by
    cases j with
    | zero =>
      have e : d' = d := by rcases h with h | h <;> simp at h; exact h.symm
      subst e
      obtain ⟨b, ho, e, h1, h2, h3⟩ := R.ob i d' ow
      rw [hs] at e; cases e
      exact ⟨a, ho, rfl, h1, h2, h3⟩
    | succ j => exact absurd (show Owns (ds.map Sl.sh) j d' by rcases h with h | h; exact .inl (by simpa using h); exact .inr (by simpa using h)) (noOwn ds j d')
  inj := fun j l d1 d2 b h1 h2 e1 e2 => by
    cases j with
    | succ j => exact absurd (show Owns (ds.map Sl.sh) j d1 by rcases h1 with h | h; exact .inl (by simpa using h); exact .inr (by simpa using h)) (noOwn ds j d1)
    | zero =>
      cases l with
      | zero => rfl
      | succ l => exact absurd (show Owns (ds.map Sl.sh) l d2 by rcases h2 with h | h; exact .inl (by simpa using h); exact .inr (by simpa using h)) (noOwn ds l d2)
end
section
variable {X : Cx} {tb : Tab} {pos pp : Pos} {e : Expr} {es : List Expr} {as : As} {x : Str} {lv : Nat}
theorem e_call {nd : Nat} (hr : Room lv X.A) (C : ∀ en, tb.fn x = some en → Cb lv X.prog X.w X.K X.mg X.base x en) (hg : Gl X x) (ha : PA X (e :: es) (tA X.K tb as)) (hdb : (x == ("__debug__" : Str)) = false)
    (h1 : starEach (e :: es) X.env = (false, eval e X.env) :: starEach es X.env) (h2 : (backTo pos (starEach es X.env)).any (·.1) = false) : PE X (.Call (.Name x pp) (e :: es) [] pos) (tE X.K tb (.call x nd as)) := by
  refine ⟨fun pins s σ H Q I q => ?_⟩
  obtain ⟨env, F, R, en, he, hw, hnd, w⟩ := q
  obtain ⟨f, fd, ps, k, hk, hm, hkp, Fn, hl, hb, _⟩ := (C en he).ex
  rw [hw] at Fn
  refine (pe_call Fn (hr.mono hk) hg hm hkp (hb nd hnd) (vals_non nd) (pass0 X) ha hdb h1 h2).run pins s σ H Q I ?_
  refine sA R w fun rs e1 vs F1 H1 R1 T1 ra g => ?_
  exact call_sp en.mono R1 T1 (ra.append (rp_nons nd)) (hl _ _ g) g
theorem e_call0 {nd : Nat} (hr : Room lv X.A) (C : ∀ en, tb.fn x = some en → Cb lv X.prog X.w X.K X.mg X.base x en) (hg : Gl X x) (hdb : (x == ("__debug__" : Str)) = false) : PE X (.Call (.Name x pp) [] [] pos) (tE X.K tb (.call x nd .nil)) := by
  refine ⟨fun pins s σ H Q I q => ?_⟩
  obtain ⟨env, F, R, en, he, hw, hnd, w⟩ := q
  obtain ⟨f, fd, ps, k, hk, hm, hkp, Fn, hl, hb, _⟩ := (C en he).ex
  rw [hw] at Fn
  refine (pe_call0 Fn (hr.mono hk) hg hm hkp (hb nd hnd) (vals_non nd) (pass0 X) hdb).run pins s σ H Q I ?_
  have w : en.R ([] ++ List.replicate nd PyData.none) _ := w
  exact call_sp (vs := [] ++ List.replicate nd V.non) en.mono R (Tr.refl _ _ _ _) (RpAll.append .nil (rp_nons nd)) (hl _ _ w) w
/-- the values of the keywords -/
def KwOf (es : List Expr) : List Str → List Keyword → Prop
  | [], [] => es = []
  | _, _ => False
theorem _root_.L2.PK.imp {X : Cx} {ks : List Keyword} {t t' : TA} (h : PK X ks t) (i : ∀ σ H Q, t' σ H Q → t σ H Q) : PK X ks t' := ⟨fun pos pins s σ H Q I q => h.run pos pins s σ H Q I (i _ _ _ q)⟩
theorem k_nil : PK X [] (tA X.K tb .nil) := pk_nil.imp fun σ H Q ⟨env, F, R, w⟩ => w [] F H R (Tr.refl _ _ _ _) trivial
theorem k_cons {p : P} {nm : Option Str} {kpos : Pos} {kws : List Keyword} (ha : PE X e (tE X.K tb p)) (hr : PK X kws (tA X.K tb as)) : PK X (⟨nm, e, kpos⟩ :: kws) (tA X.K tb (.cons p as)) :=
  (pk_cons ha hr).imp fun σ H Q ⟨env, F, R, w⟩ => cons_imp R w
theorem rp_perm {K : PySem.W.Frag} {F : Hp} {vs : List V} {ds : List D} (ra : RpAll K F vs ds) : ∀ pm : List Nat, RpAll K F (pm.map fun j => vs.getD j V.non) (pm.map fun j => ds.getD j PyData.none)
  | [] => .nil
  | j :: pm => by
    refine .cons ?_ (rp_perm ra pm)
    show Rp K F (vs.getD j V.non) (ds.getD j PyData.none)
    rw [List.getD_eq_getElem?_getD, List.getD_eq_getElem?_getD]
    cases h : ds[j]? with
    | some d =>
      obtain ⟨v, e, r⟩ := ra.get h
      rw [e]; exact r
    | none =>
      cases h2 : vs[j]? with
      | some v =>
        obtain ⟨d, e, _⟩ := ra.getV h2
        rw [h] at e; cases e
      | none => exact .non
/-- f(k = v, ..) -/
theorem e_callK {kws : List Keyword} {ks : List Str} (hr : Room lv X.A) (C : ∀ en, tb.fn x = some en → Cb lv X.prog X.w X.K X.mg X.base x en) (hg : Gl X x) (hlen : as.len = ks.length) (hkw : PK X kws (tA X.K tb as)) (hdb : (x == ("__debug__" : Str)) = false)
    (hall : (backToKw pos (keywordEach kws X.env)).all (·.1.isSome) = true) (hks : (backToKw pos (keywordEach kws X.env)).filterMap (·.1) = ks)
    (hpl : ((backTo pos (starEach [] X.env)).any (·.1) || (backToKw pos (keywordEach kws X.env)).any (·.1.isNone)) = false) : PE X (.Call (.Name x pp) [] kws pos) (tE X.K tb (.callK x ks as)) := by
  refine ⟨fun pins s σ H Q I q => ?_⟩
  obtain ⟨env, F, R, en, pm, he, hw, hpm, w⟩ := q
  obtain ⟨f, fd, ps, k, hk, hm, hkp, Fn, hl, _, hb⟩ := (C en he).ex
  rw [hw] at Fn
  have hb := hb ks pm hpm
  refine wpAny_Call_Name_kw (ld_glob I hg hm ?_ hdb)
  have key : tA X.K tb as σ H fun zs H1 => spG X.K false ps.length en.R (gKV ks.length pm [] zs) H1 Q E0 := sA R (wpA_len2 as w) fun rs e1 vs F1 H1 R1 T1 ra g => by
    obtain ⟨gl, g⟩ := g
    have hvl : vs.length = ks.length := by rw [ra.length, List.length_map, gl, hlen]
    have e : gKV ks.length pm [] vs = pm.map fun j => vs.getD j V.non := if_pos ⟨rfl, hvl⟩
    rw [e]
    exact call_sp en.mono R1 T1 (rp_perm ra pm) (hl _ _ g) g
  refine PySem.W.callWith_KW0 (h₀ := X.base) I.ok.mod.kin hkp hall (thn (hkw.run pos pins s σ H _ I key) fun ws s2 ⟨zs, H2, I2, rz, q2⟩ => ⟨I2.kIn, ?_⟩) hpl
  rw [hks]
  exact run_fnk (us := []) (vs := []) Fn (hr.mono hk) hb (pass0 X) I2 .nil rz q2
/-- f(x, ..), the object of the slot i written -/
theorem e_callW {i : Nat} (hr : Room lv X.A) (C : ∀ en, tb.fn x = some en → Cb lv X.prog X.w X.K X.mg X.base x en) (hg : Gl X x) (he : PE X e (tVar i)) (ha : PA X es (tA X.K tb as)) (hdb : (x == ("__debug__" : Str)) = false)
    (h1 : starEach (e :: es) X.env = (false, eval e X.env) :: starEach es X.env) (h2 : (backTo pos (starEach es X.env)).any (·.1) = false) : PE X (.Call (.Name x pp) (e :: es) [] pos) (tE X.K tb (.callW x i as)) := by
  refine ⟨fun pins s σ H Q I q => ?_⟩
  obtain ⟨env, F, R, en, hen, hw, hp, w⟩ := q
  obtain ⟨f, fd, ps, k, hk, hm, hkp, Fn, hl, hb, _⟩ := (C en hen).ex
  rw [hw] at Fn
  refine (pe_call Fn (hr.mono hk) hg hm hkp (hb 0 (Nat.zero_le _)) .nil (pass0 X) (pa_cons he ha h1) hdb h1 h2).run pins s σ H Q I ?_
  obtain ⟨_, v0, _, ev, _⟩ := pk_okB R hp
  refine ⟨v0, ev, ?_⟩
  refine sA R w fun rs e1 vs F1 H1 R1 T1 ra g => ?_
  show spG X.K true ps.length en.R ((v0 :: vs) ++ []) H1 Q E0
  rw [List.append_nil]
  have key : ∀ (d : PyData) (mk : PyData → Sl), ((e1[i]? = some (Sl.ow d) ∧ mk = Sl.ow) ∨ (e1[i]? = some (Sl.io d) ∧ mk = Sl.io)) → (en.R (d :: rs.map Sl.d) fun r d' => PoE X.K env F σ H Q r (e1.set i (mk d'))) → spG X.K true ps.length en.R (v0 :: vs) H1 Q E0 := fun d mk hx hr => by
    have ow : Owns e1 i d := by rcases hx with ⟨h, _⟩ | ⟨h, _⟩; exact .inl h; exact .inr h
    obtain ⟨a, ho, ea, k1, k2, k3⟩ := R1.ob i d ow
    rw [ev] at ea
    cases ea
    refine ⟨F1, d :: rs.map Sl.d, erw_args R1 ow ev ra, hl _ _ hr, en.mono (fun r d' g v F' H' R' T' r' => ?_) hr⟩
    have hx' : (e1[i]? = some (Sl.ow d) ∧ mk d' = Sl.ow d') ∨ (e1[i]? = some (Sl.io d) ∧ mk d' = Sl.io d') := by
      rcases hx with ⟨h, rfl⟩ | ⟨h, rfl⟩
      · exact .inl ⟨h, rfl⟩
      · exact .inr ⟨h, rfl⟩
    obtain ⟨R2, T2, r2⟩ := callw_ok R1 ev hx' R' T' r'
    exact g v F' H' R2 (T1.trans T2) (r2.early fun a h => .inl (T1.live a h))
  revert g
  cases h : e1[i]? with
  | none => exact fun g => g.elim
  | some z =>
    cases z with
    | un => exact fun g => g.elim
    | sh d => exact fun g => g.elim
    | tp x d => exact fun g => g.elim
    | ow d => exact fun g => key d .ow (.inl ⟨h, rfl⟩) g
    | io d => exact fun g => key d .io (.inr ⟨h, rfl⟩) g
end
end PL
end

section
set_option Elab.async false
set_option linter.all false
set_option autoImplicit false
set_option maxRecDepth 100000
set_option maxHeartbeats 1000000
/-! PLl: calls of built-ins. -/
namespace PL
open PySem PySem.Spec PyProof.Rows L2

mutual
theorem noDictIn : ∀ {d : D}, d.canLay0 = true → d.hasDict = false
  | .none, _ => rfl
  | .bool _, _ => rfl
  | .int _, _ => rfl
  | .str _, _ => rfl
  | .list ds, h => noDictAll (ds := ds) (by simpa [PyData.canLay0] using h)
  | .tuple ds, h => noDictAll (ds := ds) (by simpa [PyData.canLay0] using h)
  | .dict _, h => by simp [PyData.canLay0] at h
theorem noDictAll : ∀ {ds : List D}, PyData.canLayAll0 ds = true → PyData.hasDictAll ds = false
  | [], _ => rfl
  | d :: ds, h => by
    simp only [PyData.canLayAll0, Bool.and_eq_true] at h
    show (d.hasDict || PyData.hasDictAll ds) = false
    rw [noDictIn h.1, noDictAll h.2]; rfl
end
theorem allInts_eq : ∀ {ds : List D} {ns : List Int}, allInts ds = some ns → ds = ns.map PyData.int
  | [], ns, h => by simp [allInts] at h; subst h; rfl
  | d :: ds, ns, h => by
    cases d with
    | int i =>
      simp only [allInts, Option.map_eq_some_iff] at h
      obtain ⟨m, h1, rfl⟩ := h
      rw [allInts_eq h1]; rfl
    | _ => simp [allInts] at h
theorem allBools_eq : ∀ {ds : List D} {ns : List Bool}, allBools ds = some ns → ds = ns.map PyData.bool
  | [], ns, h => by simp [allBools] at h; subst h; rfl
  | d :: ds, ns, h => by
    cases d with
    | bool i =>
      simp only [allBools, Option.map_eq_some_iff] at h
      obtain ⟨m, h1, rfl⟩ := h
      rw [allBools_eq h1]; rfl
    | _ => simp [allBools] at h
section
variable {X : Cx}
/-! ### sorted, repr -/
def rSD (K : PySem.W.Frag) : List V → Hp → VK → Prop := fun vs H Q => ∃ (a : Addr) (xs : List V) (ds : List D) (F : Hp), vs = [V.ref a] ∧ Rd H a (.lst xs) ∧ xs.length ≤ sizeLine ∧ Sam F H ∧ RpAll K F xs ds ∧
  (PySem.W.AllAlike ds ∧ PySem.W.Sortable ds ∧ ∀ d, d ∈ ds → SeqAt.shaped d = true ∧ d.depth ≤ 60) ∧ ∀ ys, RpAll K F ys (sortD ds) → ys.length ≤ sizeLine → ∀ p, H p = none → Q (.ref p) (upd H p (.lst ys))
theorem each_of {K : PySem.W.Frag} {F : Hp} {pins : List (Addr × Obj)} {σ : L2.St} {H : Hp} {s : Shared} : ∀ {xs : List V} {its : List Value} {ds : List D}, RpAll K F xs ds → Vals xs its → PySem.W.EachIs (fun v d => ∃ x, RelV x v ∧ Rp K F x d) its ds
  | _, _, _, .nil, .nil => .nil
  | _, _, _, .cons a b, .cons r t => .cons ⟨_, r, a⟩ (each_of (pins := pins) (σ := σ) (H := H) (s := s) b t)
theorem of_each {K : PySem.W.Frag} {F : Hp} : ∀ {its : List Value} {ds : List D}, PySem.W.EachIs (fun v d => ∃ x, RelV x v ∧ Rp K F x d) its ds → ∃ ys, Vals ys its ∧ RpAll K F ys ds
  | _, _, .nil => ⟨[], .nil, .nil⟩
  | _, _, .cons ⟨x, r, a⟩ t => let ⟨ys, rs, as⟩ := of_each t; ⟨x :: ys, .cons r rs, .cons a as⟩
theorem cr_sortedD (hu : X.A.units + 65 < cLine) : CallR X (.builtin "sorted") (rSD X.K) := by
  intro pins s σ H vs us Q I r h
  obtain ⟨a, xs, ds, F, rfl, hs, hz, sub, ra, ⟨hal, hso, hsh⟩, q⟩ := h
  obtain ⟨u, rfl, ru⟩ := vals1 r
  obtain rfl : u = Value.ref a := ru
  obtain ⟨_, its, n, rv, hlen, e⟩ := rdL I hs
  have hl : s.heap.IsList a its.toArray := ⟨_, e, rfl, n, rfl⟩
  have ea := each_of (pins := pins) (σ := σ) (H := H) (s := s) ra rv
  have er : PySem.W.EachIs (fun v d => ∃ as, Reads s.heap v (id d) as) its ds := (PySem.W.each_mem ea).mono fun v d ⟨⟨x, rx, rp⟩, hd⟩ => Dp.reads I d x v ((rp.mono sub).dp (SeqAt.canLay_of_shaped (hsh d hd).1)) rx
  have hdl : ds.length ≤ sizeLine := by rw [← ra.length]; exact hz
  refine PySem.W.sorted_data (enc := id) (R := fun v d => ∃ x, RelV x v ∧ Rp X.K F x d) hl ea er (by rw [List.map_id]; exact hal) (by rw [List.map_id]; exact hso) hdl (fun b hb => by have := (hsh b hb).2; show X.A.units + 2 + b.depth < cLine; omega) fun out ho eo => ?_
  obtain ⟨ys, ry, ry2⟩ := of_each eo
  have hyl : ys.length ≤ sizeLine := by rw [ry.length, ho]; exact hdl
  obtain ⟨ep, he'⟩ := PyProof.Rows.sortedAll_at s.heap its out.toArray
  exact ⟨.ref _, upd H (s.heap.objs.size + 1) (.lst ys), I.laid (t' := s.toks) (fun _ _ => PyProof.Rows.sortedAll_old) (Nat.le_succ _) ⟨hyl, out, ep, ry, he'⟩, rfl, q ys ry2 hyl _ (I.hok.fresh (Nat.le_succ _))⟩
def rRepr (K : PySem.W.Frag) : List V → Hp → VK → Prop := fun vs H Q => ∃ (a : Addr) (d : D), vs = [V.ref a] ∧ Dp K H (.ref a) d ∧ SeqAt.shaped d = true ∧ d.showable = true ∧ d.shown.length ≤ LIM ∧ Q (.str d.shown) H
theorem cr_repr (hg : X.A.guards = some []) (hu : X.A.units + 65 < cLine) : CallR X (.builtin "repr") (rRepr X.K) := by
  intro pins s σ H vs us Q I r h
  obtain ⟨a, d, rfl, dp, sh, hs, hz, q⟩ := h
  obtain ⟨u, rfl, ru⟩ := vals1 r
  obtain rfl : u = Value.ref a := ru
  obtain ⟨as, rd⟩ := Dp.reads I d (.ref a) (.ref a) dp rfl
  refine repr_of_reads' rd hs (fun z => by rw [noDictIn (SeqAt.canLay_of_shaped sh)] at z; cases z) hg (by have := SeqAt.depth_of_shaped sh; omega) (fun _ _ h => h) (fun h' u tk hk => ?_) (by rw [← LIM_eq]; exact hz)
  exact ⟨.str d.shown, H, I.kept hk, ⟨_, rfl⟩, q⟩
end
/-! ### the built-ins' meanings from the values -/
section
variable {K : PySem.W.Frag} {F H : Hp} {vs : List V} {ds : List D} {Q : VK}
theorem one_of {vs : List V} {d : D} (r : RpAll K F vs [d]) : ∃ v, vs = [v] ∧ Rp K F v d := by
  cases r with
  | cons a b => cases b; exact ⟨_, rfl, a⟩
theorem two_of {vs : List V} {d d' : D} (r : RpAll K F vs [d, d']) : ∃ v u, vs = [v, u] ∧ Rp K F v d ∧ Rp K F u d' := by
  cases r with
  | cons a b =>
    obtain ⟨u, rfl, c⟩ := one_of b
    exact ⟨_, u, rfl, a, c⟩
theorem bi_abs (r : RpAll K F vs ds) (h : biS .abs ds (Wt K F H Q)) : ∃ i, vs = [.int i] ∧ Q (.int (if i < 0 then -i else i)) H := by
  unfold biS at h
  split at h <;> try contradiction
  obtain ⟨v, rfl, a⟩ := one_of r
  have := rp_int a; subst this
  exact ⟨_, rfl, h.val (.int _)⟩
theorem bi_min (r : RpAll K F vs ds) (h : biS .min2 ds (Wt K F H Q)) : ∃ i j, vs = [.int i, .int j] ∧ Q (.int (if j < i then j else i)) H := by
  unfold biS at h
  split at h <;> try contradiction
  obtain ⟨v, u, rfl, a, b⟩ := two_of r
  have := rp_int a; subst this
  have := rp_int b; subst this
  exact ⟨_, _, rfl, h.val (.int _)⟩
theorem bi_max (r : RpAll K F vs ds) (h : biS .max2 ds (Wt K F H Q)) : ∃ i j, vs = [.int i, .int j] ∧ Q (.int (if j > i then j else i)) H := by
  unfold biS at h
  split at h <;> try contradiction
  obtain ⟨v, u, rfl, a, b⟩ := two_of r
  have := rp_int a; subst this
  have := rp_int b; subst this
  exact ⟨_, _, rfl, h.val (.int _)⟩
theorem bi_sum (s : Sam F H) (r : RpAll K F vs ds) (h : biS .sum ds (Wt K F H Q)) : rSum K vs H Q := by
  unfold biS at h
  split at h <;> try contradiction
  obtain ⟨ns, hn, h⟩ := h
  obtain ⟨v, rfl, a⟩ := one_of r
  obtain ⟨p, xs, rfl, rd, z, c⟩ := rp_list a
  rw [allInts_eq hn] at c
  exact ⟨p, ns, rfl, .inl (by rw [← c.ints]; exact Rd.same s rd), h.val (.int _)⟩
theorem bi_all (s : Sam F H) (r : RpAll K F vs ds) (h : biS .all ds (Wt K F H Q)) : rAll K vs H Q := by
  unfold biS at h
  split at h <;> try contradiction
  obtain ⟨ns, hn, h⟩ := h
  obtain ⟨v, rfl, a⟩ := one_of r
  obtain ⟨p, xs, rfl, rd, z, c⟩ := rp_list a
  rw [allBools_eq hn] at c
  exact ⟨p, ns, rfl, .inl (by rw [← c.bools]; exact Rd.same s rd), h.val (.bl _)⟩
theorem bi_any (s : Sam F H) (r : RpAll K F vs ds) (h : biS .any ds (Wt K F H Q)) : rAny K vs H Q := by
  unfold biS at h
  split at h <;> try contradiction
  obtain ⟨ns, hn, h⟩ := h
  obtain ⟨v, rfl, a⟩ := one_of r
  obtain ⟨p, xs, rfl, rd, z, c⟩ := rp_list a
  rw [allBools_eq hn] at c
  exact ⟨p, ns, rfl, .inl (by rw [← c.bools]; exact Rd.same s rd), h.val (.bl _)⟩
theorem bi_list (s : Sam F H) (r : RpAll K F vs ds) (h : biS .list ds (Wt K F H Q)) : ∃ p ys, vs = [.ref p] ∧ (SqL K H p ys ∨ SqT K H p ys) ∧ ∀ l, H l = none → Q (.ref l) (upd H l (.lst ys)) := by
  unfold biS at h
  split at h <;> try contradiction
  · obtain ⟨v, rfl, a⟩ := one_of r
    obtain ⟨p, xs, rfl, rd, z, c⟩ := rp_list a
    exact ⟨p, xs, rfl, .inl (.inl (Rd.same s rd)), h.lst c z⟩
  · obtain ⟨v, rfl, a⟩ := one_of r
    obtain ⟨p, xs, rfl, rd, z, c⟩ := rp_tup a
    exact ⟨p, xs, rfl, .inr (sqT_same s rd), h.lst c z⟩
theorem bi_tuple (s : Sam F H) (r : RpAll K F vs ds) (h : biS .tuple ds (Wt K F H Q)) : ∃ p ys, vs = [.ref p] ∧ ((SqL K H p ys ∧ ∀ l, H l = none → Q (.ref l) (upd H l (.tup ys))) ∨ (SqT K H p ys ∧ Q (.ref p) H)) := by
  unfold biS at h
  split at h <;> try contradiction
  · obtain ⟨v, rfl, a⟩ := one_of r
    obtain ⟨p, xs, rfl, rd, z, c⟩ := rp_list a
    exact ⟨p, xs, rfl, .inl ⟨.inl (Rd.same s rd), h.tup c z⟩⟩
  · obtain ⟨v, rfl, a⟩ := one_of r
    have a' := a
    obtain ⟨b, xs, rfl, rd, z, c⟩ := rp_tup a
    exact ⟨b, xs, rfl, .inr ⟨sqT_same s rd, h.val a'⟩⟩
theorem bi_int (r : RpAll K F vs ds) (h : biS .int ds (Wt K F H Q)) : (∃ i, vs = [.int i] ∧ Q (.int i) H) ∨ ∃ k, vs = [.bl k] ∧ Q (.int (if k then 1 else 0)) H := by
  unfold biS at h
  split at h <;> try contradiction
  · obtain ⟨v, rfl, a⟩ := one_of r
    have := rp_int a; subst this
    exact .inl ⟨_, rfl, h.val (.int _)⟩
  · obtain ⟨v, rfl, a⟩ := one_of r
    have := rp_bool a; subst this
    exact .inr ⟨_, rfl, h.val (.int _)⟩
theorem len_of {v : V} {d : D} (s : Sam F H) (r : RpB K F H v d) (h : lenS d (Wt K F H Q)) : ∃ n, LenV K v H n ∧ Q (.int n) H := by
  unfold lenS at h
  split at h
  · obtain ⟨a, xs, rfl, rd, z, c⟩ := rpB_list s r
    exact ⟨xs.length, .inl ⟨xs, .inl rd, rfl⟩, by rw [c.length]; exact h.val (.int _)⟩
  · obtain ⟨a, xs, rfl, rd, z, c⟩ := rpB_tup s r
    exact ⟨xs.length, .inr ⟨xs, rd, rfl⟩, by rw [c.length]; exact h.val (.int _)⟩
  · obtain ⟨hz, h⟩ := h
    have := rpB_str r; subst this
    exact ⟨_, ⟨by rw [← LIM_eq]; exact hz, rfl⟩, h.val (.int _)⟩
  · exact h.elim
theorem bi_len (s : Sam F H) (r : RpAll K F vs ds) (h : biS .len ds (Wt K F H Q)) : ∃ x n, vs = [x] ∧ LenV K x H n ∧ Q (.int n) H := by
  unfold biS at h
  split at h <;> try contradiction
  obtain ⟨v, rfl, a⟩ := one_of r
  obtain ⟨n, h1, h2⟩ := len_of s (.inl a) h
  exact ⟨v, n, rfl, h1, h2⟩
theorem bi_sorted (s : Sam F H) (r : RpAll K F vs ds) (h : biS .sorted ds (Wt K F H Q)) : rSD K vs H Q := by
  unfold biS at h
  split at h <;> try contradiction
  obtain ⟨hc, h⟩ := h
  obtain ⟨v, rfl, a⟩ := one_of r
  obtain ⟨p, xs, rfl, rd, z, c⟩ := rp_list a
  exact ⟨p, xs, _, F, rfl, Rd.same s rd, z, s, c, hc, fun ys ry hz q hp => h.lst ry hz q hp⟩
theorem bi_repr (s : Sam F H) (r : RpAll K F vs ds) (h : biS .repr ds (Wt K F H Q)) : rRepr K vs H Q := by
  unfold biS at h
  split at h <;> try contradiction
  obtain ⟨⟨h1, h2, h3, h4⟩, h⟩ := h
  obtain ⟨v, rfl, a⟩ := one_of r
  have dp := (a.mono s).dp (SeqAt.canLay_of_shaped h2)
  have e : ∃ p, v = .ref p := by
    revert h1
    unfold isDisp
    split
    · obtain ⟨p, _, rfl, _⟩ := rp_list a; exact fun _ => ⟨p, rfl⟩
    · obtain ⟨p, _, rfl, _⟩ := rp_tup a; exact fun _ => ⟨p, rfl⟩
    · intro z; cases z
  obtain ⟨p, rfl⟩ := e
  exact ⟨p, _, rfl, dp, h2, h3, h4, h.val (.str _)⟩
end
/-! ### calls of them -/
def biN : Bi → Str
  | .abs => "abs"
  | .min2 => "min"
  | .max2 => "max"
  | .sum => "sum"
  | .list => "list"
  | .tuple => "tuple"
  | .int => "int"
  | .repr => "repr"
  | .sorted => "sorted"
  | .all => "all"
  | .any => "any"
  | .len => "len"
section
variable {X : Cx} {tb : Tab} {pos pp : Pos} {e : Expr} {es : List Expr} {as : As} {x : Str} {lv : Nat} {b : Bi} {r : List V → Hp → VK → Prop}
theorem e_biB {id : String} (hc : CallR X (.builtin id) r) (hr : ∀ F H vs ds Q, Sam F H → RpAll X.K F vs ds → biS b ds (Wt X.K F H Q) → r vs H Q) (hg : Gl X x) (hm : X.mg x = none) (hv : bootBuiltins x = some (.builtin id)) (hn : x ≠ "__name__") (hdb : (x == ("__debug__" : Str)) = false)
    (ha : PA X (e :: es) (tA X.K tb as)) (h1 : starEach (e :: es) X.env = (false, eval e X.env) :: starEach es X.env) (h2 : (backTo pos (starEach es X.env)).any (·.1) = false) : PE X (.Call (.Name x pp) (e :: es) [] pos) (tE X.K tb (.bi b as)) :=
  (pe_callB hc hg hm hv ha hn hdb h1 h2).imp fun σ H Q ⟨env, F, R, w⟩ => sA R w fun rs e1 vs F1 H1 R1 T1 ra g => hr F1 H1 vs _ Q R1.sub ra (biS_mono (fun r z => PoE.wt z R1 T1) g)
theorem e_biT {id : String} (hc : CallR X (.type id) r) (hr : ∀ F H vs ds Q, Sam F H → RpAll X.K F vs ds → biS b ds (Wt X.K F H Q) → r vs H Q) (hg : Gl X x) (hm : X.mg x = none) (hv : bootBuiltins x = some (.type id)) (hn : x ≠ "__name__") (hdb : (x == ("__debug__" : Str)) = false)
    (ha : PA X (e :: es) (tA X.K tb as)) (h1 : starEach (e :: es) X.env = (false, eval e X.env) :: starEach es X.env) (h2 : (backTo pos (starEach es X.env)).any (·.1) = false) : PE X (.Call (.Name x pp) (e :: es) [] pos) (tE X.K tb (.bi b as)) :=
  (pe_callTy hc hg hm hv ha hn hdb h1 h2).imp fun σ H Q ⟨env, F, R, w⟩ => sA R w fun rs e1 vs F1 H1 R1 T1 ra g => hr F1 H1 vs _ Q R1.sub ra (biS_mono (fun r z => PoE.wt z R1 T1) g)
theorem e_bi (hcalm : X.calm = true) (hu : X.A.units + 65 < cLine) (hgd : b = .repr → X.A.guards = some []) (hx : x = biN b) (hg : Gl X x) (hm : X.mg x = none)
    (ha : PA X (e :: es) (tA X.K tb as)) (h1 : starEach (e :: es) X.env = (false, eval e X.env) :: starEach es X.env) (h2 : (backTo pos (starEach es X.env)).any (·.1) = false) : PE X (.Call (.Name x pp) (e :: es) [] pos) (tE X.K tb (.bi b as)) := by
  subst hx
  cases b with
  | abs => exact e_biB call_abs (fun _ _ _ _ _ _ r h => bi_abs r h) hg hm (by decide +kernel) (by decide) (by decide) ha h1 h2
  | min2 => exact e_biB (call_min2 hcalm) (fun _ _ _ _ _ _ r h => bi_min r h) hg hm (by decide +kernel) (by decide) (by decide) ha h1 h2
  | max2 => exact e_biB (call_max2 hcalm) (fun _ _ _ _ _ _ r h => bi_max r h) hg hm (by decide +kernel) (by decide) (by decide) ha h1 h2
  | sum => exact e_biB (cr_sum hcalm) (fun _ _ _ _ _ s r h => bi_sum s r h) hg hm (by decide +kernel) (by decide) (by decide) ha h1 h2
  | list => exact e_biT call_list_of (fun _ _ _ _ _ s r h => bi_list s r h) hg hm (by decide +kernel) (by decide) (by decide) ha h1 h2
  | tuple => exact e_biT call_tuple_of (fun _ _ _ _ _ s r h => bi_tuple s r h) hg hm (by decide +kernel) (by decide) (by decide) ha h1 h2
  | int => exact e_biT call_int1 (fun _ _ _ _ _ _ r h => bi_int r h) hg hm (by decide +kernel) (by decide) (by decide) ha h1 h2
  | repr => exact e_biB (cr_repr (hgd rfl) hu) (fun _ _ _ _ _ s r h => bi_repr s r h) hg hm (by decide +kernel) (by decide) (by decide) ha h1 h2
  | sorted => exact e_biB (cr_sortedD hu) (fun _ _ _ _ _ s r h => bi_sorted s r h) hg hm (by decide +kernel) (by decide) (by decide) ha h1 h2
  | all => exact e_biB (cr_all hcalm) (fun _ _ _ _ _ s r h => bi_all s r h) hg hm (by decide +kernel) (by decide) (by decide) ha h1 h2
  | any => exact e_biB (cr_any hcalm) (fun _ _ _ _ _ s r h => bi_any s r h) hg hm (by decide +kernel) (by decide) (by decide) ha h1 h2
  | len => exact e_biB call_len (fun _ _ _ _ _ s r h => bi_len s r h) hg hm (by decide +kernel) (by decide) (by decide) ha h1 h2
/-- len of a name, read where it stands -/
theorem e_lenB {i : Nat} (hg : Gl X "len") (hm : X.mg "len" = none) (he : PE X e (tVar i)) (h1 : starEach [e] X.env = (false, eval e X.env) :: starEach [] X.env) : PE X (.Call (.Name "len" pp) [e] [] pos) (tE X.K tb (.lenB i)) :=
  (pe_callB call_len hg hm (by decide +kernel) (pa_cons he pa_nil h1) (by decide) (by decide) h1 rfl).imp fun σ H Q ⟨env, F, R, w⟩ => by
    obtain ⟨d, v, q, e, rb⟩ := pk_okB R w
    obtain ⟨n, h1, h2⟩ := len_of R.sub rb (lenS_mono (fun r z => PoE.wt z R (Tr.refl _ _ _ _)) q)
    exact ⟨v, e, v, n, rfl, h1, h2⟩
end
end PL
end

section
set_option Elab.async false
set_option linter.all false
set_option autoImplicit false
set_option maxRecDepth 100000
set_option maxHeartbeats 1000000
/-! PLm: isinstance, index. -/
namespace PL
open PySem PySem.Spec PyProof.Rows L2

def kdN : Kd → String
  | .bool => "bool"
  | .int => "int"
  | .str => "str"
  | .list => "list"
  | .tuple => "tuple"
  | .dict => "dict"
inductive TN where
  | non | bool | int | str | list | tuple
def tnN : TN → String
  | .non => "NoneType"
  | .bool => "bool"
  | .int => "int"
  | .str => "str"
  | .list => "list"
  | .tuple => "tuple"
def tnD : TN → D
  | .non => .none
  | .bool => .bool false
  | .int => .int 0
  | .str => .str Str.empty
  | .list => .list []
  | .tuple => .tuple []
theorem kit_kd (t : TN) (k : Kd) : kitB (tnN t) (kdN k) = some (isKd k (tnD t)) := by
  cases t <;> cases k <;> decide +kernel
theorem boot_kd (k : Kd) : bootBuiltins (kdN k) = some (.type (kdN k)) := by cases k <;> decide +kernel
theorem kd_nn (k : Kd) : (Str.ofString (kdN k)) ≠ "__name__" := by cases k <;> decide
theorem kd_nd (k : Kd) : ((Str.ofString (kdN k)) == ("__debug__" : Str)) = false := by cases k <;> decide
theorem ty_of {K : PySem.W.Frag} {F H : Hp} {v : V} {d : D} (s : Sam F H) (r : Rp K F v d) (h : noDict d = true) : ∃ t : TN, TyX K H v (.type (tnN t)) ∧ ∀ k, isKd k d = isKd k (tnD t) := by
  cases r with
  | non => exact ⟨.non, .base .non, fun k => by cases k <;> rfl⟩
  | bl b => exact ⟨.bool, .base (.bl b), fun k => by cases k <;> rfl⟩
  | int i => exact ⟨.int, .base (.int i), fun k => by cases k <;> rfl⟩
  | str x => exact ⟨.str, .base (.str x), fun k => by cases k <;> rfl⟩
  | lst a z c =>
    refine ⟨.list, ?_, fun k => by cases k <;> rfl⟩
    rcases Rd.same s a with e | ⟨o, e⟩
    · exact .base (.lst e)
    · exact .base (.frz e)
  | tup a z c =>
    refine ⟨.tuple, ?_, fun k => by cases k <;> rfl⟩
    rcases sqT_same s a with (e | ⟨o, e⟩) | ⟨o, its, n, e, c, _⟩
    · exact .base (.tup e)
    · exact .fTuple e
    · exact .kTuple e c
  | dk _ _ _ => cases h
section
variable {X : Cx} {tb : Tab} {pos pp pt : Pos} {e : Expr} {es : List Expr} {as : As} {x : Str} {lv : Nat} {p : P}
theorem pe_kd {k : Kd} (hg : Gl X (kdN k)) (hm : X.mg (kdN k) = none) : PE X (.Name (kdN k) pos) (tC (.ty (kdN k))) := pe_bltn hg hm (boot_kd k) rfl (kd_nn k) (kd_nd k)
theorem e_isi1 {k : Kd} {pk : Pos} (hg : Gl X "isinstance") (hm : X.mg "isinstance" = none) (hgk : Gl X (kdN k)) (hmk : X.mg (kdN k) = none) (ha : PE X e (tE X.K tb p))
    (h1 : starEach [e, .Name (kdN k) pk] X.env = (false, eval e X.env) :: starEach [.Name (kdN k) pk] X.env) (h2 : starEach [.Name (kdN k) pk] X.env = (false, eval (.Name (kdN k) pk) X.env) :: starEach [] X.env)
    (h3 : (backTo pos (starEach [.Name (kdN k) pk] X.env)).any (·.1) = false) : PE X (.Call (.Name "isinstance" pp) [e, .Name (kdN k) pk] [] pos) (tE X.K tb (.isi [k] p)) :=
  (pe_callB call_isi hg hm (by decide +kernel) (pa_cons ha (pa_cons (pe_kd hgk hmk) pa_nil h2) h1) (by decide) (by decide) h1 h3).imp fun σ H Q ⟨env, F, R, w⟩ => s1f R w fun x e1 v F1 H1 R1 T1 r1 g => by
    obtain ⟨t, ty, ek⟩ := ty_of R1.sub r1 g.1
    refine ⟨v, _, _, _, isKd k x.d, rfl, .ty _, ty, ?_, ?_⟩
    · rw [ek k]; exact kit_ty (kit_kd t k)
    · have g := PoE.wt g.2 R1 T1
      have e : ([k].any fun k => isKd k x.d) = isKd k x.d := by simp
      rw [e] at g
      exact g.val (.bl _)
theorem cls_all : ∀ ks : List Kd, Paired ClsV (ks.map fun k => V.ty (kdN k)) (ks.map fun k => Value.type (kdN k))
  | [] => .nil
  | k :: ks => .cons (.ty _) (cls_all ks)
theorem kit_any {K : PySem.W.Frag} (t : TN) : ∀ ks : List Kd, PySem.W.kitAny K (.type (tnN t)) (ks.map fun k => Value.type (kdN k)) = some (ks.any fun k => isKd k (tnD t))
  | [] => kitAny_nil
  | k :: ks => by
    refine kitAny_cons (b := isKd k (tnD t)) (kit_ty (kit_kd t k)) (fun z => ?_) (fun z => ?_)
    · rw [kit_any t ks]; simp [z]
    · simp [z]
theorem pa_kds : ∀ {ks : List Kd} {es : List Expr} {Rq : List V → Hp → Prop}, True → True := fun _ => trivial
def tKs (ks : List Kd) : TA := fun _ H Q => Q (ks.map fun k => V.ty (kdN k)) H
theorem e_isiT {ks : List Kd} {m : Nat} (hg : Gl X "isinstance") (hm : X.mg "isinstance" = none) (hk : PA X es (tKs ks)) (hl : ks.length ≤ 6) (ha : PE X e (tE X.K tb p))
    (h1 : starEach [e, .Tuple es m pt] X.env = (false, eval e X.env) :: starEach [.Tuple es m pt] X.env) (h2 : starEach [.Tuple es m pt] X.env = (false, eval (.Tuple es m pt) X.env) :: starEach [] X.env)
    (h3 : (backTo pos (starEach [.Tuple es m pt] X.env)).any (·.1) = false) : PE X (.Call (.Name "isinstance" pp) [e, .Tuple es m pt] [] pos) (tE X.K tb (.isi ks p)) :=
  (pe_callB call_isiT hg hm (by decide +kernel) (pa_cons ha (pa_cons (pe_tup hk) pa_nil h2) h1) (by decide) (by decide) h1 h3).imp fun σ H Q ⟨env, F, R, w⟩ => s1f R w fun x e1 v F1 H1 R1 T1 r1 g => by
    obtain ⟨t, ty, ek⟩ := ty_of R1.sub r1 g.1
    refine ⟨by rw [List.length_map, sizeLine_eq]; omega, fun q hq => ?_⟩
    have sH : Sam H1 (upd H1 q (.tup (ks.map fun k => V.ty (kdN k)))) := same_upd hq
    obtain ⟨t, ty, ek⟩ := ty_of (R1.sub.trans sH) r1 g.1
    refine ⟨v, q, _, _, _, ks.any fun k => isKd k x.d, rfl, upd_same, cls_all ks, ty, ?_, ?_⟩
    · have e : (ks.any fun k => isKd k x.d) = ks.any fun k => isKd k (tnD t) := by simp only [ek]
      rw [e]; exact kit_any t ks
    · have R3 : ER X.K F1 σ (upd H1 q (.tup (ks.map fun k => V.ty (kdN k)))) e1 := ⟨R1.sub.trans sH, R1.len, R1.sh, fun i d h => by
        obtain ⟨a, ho, e, h1, h2, h3⟩ := R1.ob i d h
        exact ⟨a, ho, e, upd_keep hq h1, h2, h3⟩, R1.inj⟩
      have T3 : Tr e1 F1 σ H1 e1 F1 σ (upd H1 q (.tup (ks.map fun k => V.ty (kdN k)))) := ⟨Sam.refl _, fun b o e _ => .inl (upd_keep hq e), fun b e => sH.free e, fun b hb => .inl hb, fun b hb => .inl hb, fun i d h => ⟨rfl, d, h⟩⟩
      exact g.2 _ F1 _ R3 (T1.trans T3) (.bl _)
/-! ### l.index(x) -/
theorem cons_one {K : PySem.W.Frag} {q : P} {σ : L2.St} {H : Hp} {R : List V → Hp → Prop} (h : tE K tb q σ H fun u H1 => R [u] H1) : tCons (tE K tb q) tNil σ H R := h
theorem e_index {a b : Expr} {q : P} {apos : Pos} (hu : X.A.units + 65 < cLine) (ha : PE X a (tE X.K tb p)) (hb : PE X b (tE X.K tb q))
    (hbase : attributeBase a "index" X.env (eval a X.env) = eval a X.env)
    (hfew : ((backTo pos (starEach [b] X.env)).all (fun x => !x.1) && (backToKw pos (keywordEach [] X.env)).all (fun x => x.1.isSome)
      && decide ([b].length + ([] : List Keyword).length + (if ([] : List Keyword).isEmpty then 0 else 1) < 30)) = true)
    (hline : (apos.endLine == pos.line) = true) (hs : starEach [b] X.env = (false, eval b X.env) :: starEach [] X.env) : PE X (.Call (.Attribute a "index" apos) [b] [] pos) (tE X.K tb (.index p q)) :=
  (pe_bm PySem.F.plainAttrs_list PySem.F.slot_list_index PySem.F.type_list_index (mt_indexD hu) ha (pa_cons hb pa_nil hs) hbase hfew hline hs rfl).imp fun σ H Q ⟨env, F, R, w⟩ => s1f R w fun x e1 v F1 H1 R1 T1 r1 g => by
    obtain ⟨⟨ds, ed⟩, g⟩ := g
    rw [ed] at r1
    obtain ⟨l, xs, rfl, rd, z, c⟩ := rp_list r1
    refine ⟨.inl ⟨rfl, xs, .inl (Rd.same R1.sub rd)⟩, cons_one (s1f R1 g fun y e2 u F2 H2 R2 T2 r2 g => ?_)⟩
    rw [ed] at g
    obtain ⟨s1, s2, j, z, h1, h2, h3, g⟩ := g
    exact ⟨l, u, y.d, ds, j, z, rfl, rfl, ((r1.mono T2.fs).mono R2.sub).dp (SeqAt.canLay_of_shaped s1), (r2.mono R2.sub).dp (SeqAt.canLay_of_shaped s2), s1, s2, h1, h2, h3, (PoE.wt g R2 (T1.trans T2)).val (.int _)⟩
end
end PL
end

section
set_option Elab.async false
set_option linter.all false
set_option autoImplicit false
set_option maxRecDepth 100000
set_option maxHeartbeats 1000000
/-! PLn: enumerate of a tuple; what is gone through. -/
namespace PL
open PySem PySem.Spec PyProof.Rows L2

section
open AutoSeq1 (wpAny_loadPart')
theorem enum_newT (l : Addr) (items : Array Value) (n : Nat) (dct : Option Addr) (sl : Array (Option Value)) :
    Meets (Builtin.«enumerate.__new__» ⟨[.type "enumerate", .ref l], []⟩) (fun _ R s => s.heap.get? l = some { cls := .type "tuple", dict := dct, data := .seq items n, slots := sl } ∧
      R (.ok (.ret (.ref (s.heap.push { cls := .type "tuple_iterator", data := .fields #[.ref l, .int 0 0] }).objs.size)))
        { s with heap := (s.heap.push { cls := .type "tuple_iterator", data := .fields #[.ref l, .int 0 0] }).push { cls := .type "enumerate", data := .fields #[.none, .bool false, .ref s.heap.objs.size, rawInt 0, .none, .none] } }) :=
  .of_wp fun prog w A R s h => by
    obtain ⟨hp, g, d, tk, os⟩ := s; obtain ⟨hl, h⟩ := h
    have hsub := sub_enumerate
    have hL : Heap.IsTuple (Shared.heap ⟨hp, g, d, tk, os⟩) l items := ⟨_, hl, rfl, n, rfl⟩
    wp_walk using wpAny_loadPart' hl
    refine wpAny_stack_any fun st => wpAny_pure ?_
    split
    · rename_i c _ _ _ _ _
      cases (c == Value.type "enumerate")
      · wp_walk using wpAny_loadPart' hl, wpAny_pyIter_tuple hL
        exact ⟨_, rfl, h⟩
      · wp_walk using wpAny_loadPart' hl, wpAny_pyIter_tuple hL
        exact ⟨_, rfl, h⟩
    · wp_walk using wpAny_loadPart' hl, wpAny_pyIter_tuple hL
      exact ⟨_, rfl, h⟩
variable {prog : Program} {w : World} {A : Around} {E : Value → Shared → Prop} {s : Shared}
theorem call_enumT {l : Addr} {items : Array Value} {Q : Value → Shared → Prop} (hL : s.heap.IsTuple l items)
    (h : ∀ h', IsEnum h' (s.heap.objs.size + 1) s.heap.objs.size 0 .none → h'.IsTupleIter s.heap.objs.size l 0 → h'.objs.size = s.heap.objs.size + 2 →
      (∀ b o, s.heap.get? b = some o → h'.get? b = some o) → Q (.ref (s.heap.objs.size + 1)) { s with heap := h' }) :
    wpAny (model prog w) A (call (.type "enumerate") [.ref l]) Q E s := by
  obtain ⟨⟨c, dct, dt, sl⟩, hl, hc, n, hd⟩ := hL
  replace hc : c = .type "tuple" := hc
  replace hd : dt = .seq items n := hd
  subst hc hd
  refine callType_new F.called_enumerate (by decide) (F.typeCall_enumerate_1 _) (F.newCall_enumerate_1 _) (fun obj => F.args_object_init_2 obj _) F.entry_enumerate_new
    (enum_newT l items n dct sl) ⟨hl, ?_⟩
  have hz : (s.heap.push { cls := .type "tuple_iterator", data := .fields #[.ref l, .int 0 0] }).objs.size = s.heap.objs.size + 1 := Heap.size_push ..
  show _ ∧ _
  rw [hz]
  have he : IsEnum ((s.heap.push { cls := .type "tuple_iterator", data := .fields #[.ref l, .int 0 0] }).push
      { cls := .type "enumerate", data := .fields #[.none, .bool false, .ref s.heap.objs.size, rawInt 0, .none, .none] }) (s.heap.objs.size + 1) s.heap.objs.size 0 .none := by
    have := Heap.get?_push_size (s.heap.push { cls := .type "tuple_iterator", data := .fields #[.ref l, .int 0 0] })
      (o := { cls := .type "enumerate", data := .fields #[.none, .bool false, .ref s.heap.objs.size, rawInt 0, .none, .none] }) rfl
    rw [hz] at this; exact this
  refine ⟨⟨_, he, rfl⟩, h _ he ⟨_, Heap.get?_push_of_some _ (Heap.get?_push_size _ rfl), rfl, rfl⟩ (by rw [Heap.size_push, hz]) fun b o x => Heap.get?_push_of_some _ (Heap.get?_push_of_some _ x)⟩
end
/-- the tuple at a, each item in a new pair -/
def IteT (K : PySem.W.Frag) (a : Addr) : L2.It :=
  ⟨fun i H => ∃ (xs : List V) (x : V), SqT K H a xs ∧ xs[i]? = some x, fun i H v H' => ∃ T x, v = .ref T ∧ H T = none ∧ H' = upd H T (.tup [.int (i : Nat), x]) ∧ ∀ xs, SqT K H a xs → xs[i]? = some x, fun i H => ∃ xs : List V, SqT K H a xs ∧ xs.length = i⟩
theorem turn_enumT {P : Program} {w : World} {K : PySem.W.Frag} {elts : List Expr} {kk : Nat} {tpos : Pos} (a e it : Addr) :
    Turn P w K (.Tuple elts kk tpos) (IteT K a) [e, it] e (fun i h => (∃ old, IsEnum h e it ((i : Nat) : Int) old) ∧ h.IsTupleIter it a i ∧ e ≠ it ∧ a ≠ it ∧ a ≠ e) where
  mem := by simp
  obj := fun i h st b hb => by
    obtain ⟨⟨old, he⟩, ⟨o, ho, hc, hd⟩, _⟩ := st
    have e' : b = e ∨ b = it := by simpa using hb
    rcases e' with z | z
    · rw [z]; exact ⟨_, he, fun v q => nomatch q⟩
    · rw [z]; exact ⟨o, ho, fun v q => by rw [hd] at q; cases q⟩
  keep := fun i h h' st k => let ⟨⟨old, he⟩, hi, hne⟩ := st; ⟨⟨old, k e (by simp) _ he⟩, hi.at fun o q => k it (by simp) o q, hne⟩
  item := by
    intro X hP hw hK hc i pins s σ H E I hf st hg
    subst hP hw hK
    obtain ⟨⟨old, he⟩, hit, hne, hai, hae⟩ := st
    obtain ⟨xs, x, hq, hx⟩ := hg
    obtain ⟨its, rv, p, hz⟩ := I.tuple hq
    obtain ⟨u, hu, ru⟩ := rv.get hx
    have hel : e < s.heap.objs.size := Heap.lt_size he
    have hil : it < s.heap.objs.size := by obtain ⟨_, q, _⟩ := hit; exact Heap.lt_size q
    have hT0 : s.heap.IsTuple a its.toArray := p
    have D := PySem.Draws.tuple (prog := X.prog) (w := X.w) (A := X.A.in1) (show X.A.in1.handled = none from I.ok.hd hc) it a hai its.toArray
    have hlt : i < its.toArray.size := by
      have := List.getElem?_eq_some_iff.mp hu
      obtain ⟨h1, _⟩ := this
      simpa using h1
    refine wpAny_pyNext_enum_itemD D he ⟨hit, hT0⟩ hlt hne (by simp [hne, Ne.symm hae]) fun x' h' tk hPx ho hst' hT hsz hk => ?_
    have ex : x' = u := by
      have h1 : its.toArray[i]? = some x' := hPx
      have h2 : its.toArray[i]? = some u := by simpa using hu
      rw [h1] at h2; exact Option.some.inj h2
    subst ex
    obtain ⟨hit', _⟩ := hst'
    refine ⟨_, rfl, wpAny_letOwnedTupleGo_enum (s := { s with heap := h', toks := tk + 1 }) ho fun h'' he' sb => ?_⟩
    have hT2 : h''.get? s.heap.objs.size = some { cls := .type "tuple", data := .seq #[.int i tk, x'] } := (sb.2 _ (Nat.ne_of_gt hel)).trans hT
    have new : ObjOk X.prog X.w (upd H s.heap.objs.size (.tup [.int (i : Nat), x])) h'' s.heap.objs.size (.tup [.int (i : Nat), x]) :=
      ⟨by show 2 ≤ sizeLine; decide, [.int i tk, x'], .cons ⟨_, rfl⟩ (.cons ru .nil), ⟨_, hT2, rfl, _, rfl⟩⟩
    have I1 : Inv X pins σ (upd H s.heap.objs.size (.tup [.int (i : Nat), x])) { s with heap := h'', toks := tk + 1 } :=
      I.turnedNew (ch := [e, it]) (fun b ob hb q => (sb.2 b (fun z => hb (by simp [z]))).trans (hk b ob (fun z => hb (by simp [z])) (fun z => hb (by simp [z])) q)) hf (Nat.le_refl _) new
    refine ⟨.ref s.heap.objs.size, _, I1, rfl, ⟨_, x, rfl, I.hok.fresh (Nat.le_refl _), rfl, fun ys hy => by rw [I.tuple_inj hy hq]; exact hx⟩, ⟨⟨x', ?_⟩, hit'.at fun o q => (sb.2 it (Ne.symm hne)).trans q, hne, hai, hae⟩, fun b hb => ?_⟩
    · have e1 : ((i + 1 : Nat) : Int) = (i : Int) + 1 := by omega
      rw [e1]; exact he'
    · have hb' : b < s.heap.objs.size := by
        have e' : b = e ∨ b = it := by simpa using hb
        rcases e' with z | z
        · rw [z]; exact hel
        · rw [z]; exact hil
      rw [upd_ne (Nat.ne_of_lt hb')]
      exact (hf b hb).1
  done := by
    intro X hP hw hK hc i pins s σ H E I hf st hg
    subst hP hw hK
    obtain ⟨⟨old, he⟩, hit, hne, hai, hae⟩ := st
    obtain ⟨xs, hq, hx⟩ := hg
    obtain ⟨its, rv, p, hz⟩ := I.tuple hq
    obtain ⟨f0, f1, f2, f3, f4, f5⟩ := hf it (by simp)
    have hl := rv.length
    have D := PySem.Draws.tuple (prog := X.prog) (w := X.w) (A := X.A.in1) (show X.A.in1.handled = none from I.ok.hd hc) it a hai its.toArray
    have hT0 : s.heap.IsTuple a its.toArray := p
    have hn : i = its.toArray.size := by simp; omega
    have hit' : s.heap.IsTupleIter it a its.toArray.size := by rw [← hn]; exact hit
    exact wpAny_pyNext_enum_endD D he ⟨hit', hT0⟩ fun h' eb => ⟨rfl, I.turned (t' := s.toks) (fun b o hb q => eb b o hb q) f0 f1 f3 f4 f5⟩
  self := fun A i s Q E st h => let ⟨⟨_, he⟩, _⟩ := st; wpAny_pyIter_enum he h
/-! ### the rules -/
section
variable {X : Cx} {tg : Expr}
/-- a list, a tuple, a text -/
def iSeq (K : PySem.W.Frag) (tl : TE) : TI := fun σ H R => tl σ H fun x H1 => (∃ a, x = .ref a ∧ (∃ xs, SqL K H1 a xs) ∧ R (Itl K a) H1) ∨ (∃ a, x = .ref a ∧ (∃ xs, SqT K H1 a xs) ∧ R (Itt K a) H1) ∨ ∃ z, x = .str z ∧ R (Its z) H1
theorem pi_seq {l : Expr} {tl : TE} (hl : PE X l tl) : PI X tg l (iSeq X.K tl) := by
  refine ⟨fun pins s σ H R I h => ?_⟩
  refine thn (hl.run pins s σ H _ I h) fun v s1 ⟨x, H1, I1, r1, q1⟩ => ?_
  rcases q1 with ⟨a, e, ⟨xs, hq⟩, q⟩ | ⟨a, e, ⟨xs, hq⟩, q⟩ | ⟨z, e, q⟩
  · subst e
    cases r1
    obtain ⟨its, rv, p, hz⟩ := I1.list hq
    exact wpAny_pyIter_list p.isList (pi_one (tk := s1.toks) I1 _ (turn_list a _) ⟨_, Heap.get?_push_size _ rfl, rfl, rfl⟩ q)
  · subst e
    cases r1
    obtain ⟨its, rv, p, hz⟩ := I1.tuple hq
    exact wpAny_pyIter_tuple (show s1.heap.IsTuple a its.toArray from p) (pi_one (tk := s1.toks) I1 _ (turn_tuple a _) ⟨_, Heap.get?_push_size _ rfl, rfl, rfl⟩ q)
  · subst e
    obtain ⟨t, rfl⟩ := r1
    cases ha : z.cps.all (· < 128)
    · exact wpAny_pyIter_wide ha (pi_one (tk := s1.toks) I1 _ (turn_str _ z t "str_iterator" (.inr rfl)) ⟨_, Heap.get?_push_size _ rfl, rfl, rfl⟩ q)
    · exact wpAny_pyIter_ascii ha (pi_one (tk := s1.toks) I1 _ (turn_str _ z t "str_ascii_iterator" (.inl rfl)) ⟨_, Heap.get?_push_size _ rfl, rfl, rfl⟩ q)
def iEnumA (K : PySem.W.Frag) (ta : TA) : TI := fun σ H R => ta σ H fun vs H1 => ∃ a xs, vs = [.ref a] ∧ ((SqL K H1 a xs ∧ R (Ite K a) H1) ∨ (SqT K H1 a xs ∧ R (IteT K a) H1))
theorem pi_enumA {e : Expr} {ta : TA} {p pos tpos : Pos} {elts : List Expr} {kk : Nat} (hg : Gl X "enumerate") (hm : X.mg "enumerate" = none) (ha : PA X [e] ta) (hs : starEach [e] X.env = [(false, eval e X.env)]) :
    PI X (.Tuple elts kk tpos) (.Call (.Name "enumerate" p) [e] [] pos) (iEnumA X.K ta) := by
  refine ⟨fun pins s σ H R I h => ?_⟩
  refine Call_ (ld_blt I hg hm boot_enumerate (PyProof.Rows.callWith_type1 (thn (ha.run pos pins s σ H _ I h) fun us s1 ⟨vs, H1, I1, r1, q1⟩ => ?_) hs rfl))
  obtain ⟨a, xs, ex, q1⟩ := q1
  subst ex
  cases r1 with
  | cons r rr =>
    cases rr
    cases r
    have fresh2 : ∀ b, b ∈ [s1.heap.objs.size + 1, s1.heap.objs.size] → FpOk X pins H1 b := fun b hb => by
      have e' : b = s1.heap.objs.size + 1 ∨ b = s1.heap.objs.size := by simpa using hb
      have hle : s1.heap.objs.size ≤ b := by
        rcases e' with z | z
        · rw [z]; exact Nat.le_add_right _ _
        · rw [z]; exact Nat.le_refl _
      exact I1.fpOk hle (I1.hok.fresh hle)
    rcases q1 with ⟨hq, q⟩ | ⟨hq, q⟩
    · obtain ⟨its, rv, p', hz⟩ := I1.list hq
      refine call_enumerate_list p'.isList fun h' he hit hsz hk => wpAny_pyIter_enum he ?_
      have I2 : Inv X pins σ H1 { s1 with heap := h' } := I1.kept (t' := s1.toks) hk
      exact ⟨s1.heap.objs.size + 1, [s1.heap.objs.size + 1, s1.heap.objs.size], _, _, H1, rfl, I2, turn_enum a (s1.heap.objs.size + 1) s1.heap.objs.size, ⟨⟨.none, he⟩, hit, Nat.succ_ne_self _⟩, fresh2, q⟩
    · obtain ⟨its, rv, p', hz⟩ := I1.tuple hq
      have hT0 : s1.heap.IsTuple a its.toArray := p'
      have hal : a < s1.heap.objs.size := by obtain ⟨_, q, _⟩ := hT0; exact Heap.lt_size q
      refine call_enumT hT0 fun h' he hit hsz hk => wpAny_pyIter_enum he ?_
      have I2 : Inv X pins σ H1 { s1 with heap := h' } := I1.kept (t' := s1.toks) hk
      exact ⟨s1.heap.objs.size + 1, [s1.heap.objs.size + 1, s1.heap.objs.size], _, _, H1, rfl, I2, turn_enumT a (s1.heap.objs.size + 1) s1.heap.objs.size, ⟨⟨.none, he⟩, hit, Nat.succ_ne_self _, Nat.ne_of_lt hal, Nat.ne_of_lt (Nat.lt_succ_of_lt hal)⟩, fresh2, q⟩
end
/-! ### the readings -/
/-- J gives the data ds, one after the other -/
structure Wk (K : PySem.W.Frag) (J : L2.It) (F0 : Hp) (ds : List D) : Prop where
  goes : ∀ i H, Sam F0 H → i < ds.length → J.go i H
  stops : ∀ H, Sam F0 H → J.stop ds.length H
  yields : ∀ i H x H' d, Sam F0 H → ds[i]? = some d → J.yld i H x H' → (H' = H ∧ Rp K F0 x d) ∨ ∃ T u v a b, x = .ref T ∧ H T = none ∧ H' = upd H T (.tup [u, v]) ∧ d = .tuple [a, b] ∧ Rp K F0 u a ∧ Rp K F0 v b
section
variable {K : PySem.W.Frag} {F0 : Hp}
theorem sqL_same {H H' : Hp} {a : Addr} {xs : List V} (e : Sam H H') (h : SqL K H a xs) : SqL K H' a xs := by
  rcases h with h | h
  · exact .inl (Rd.same e h)
  · exact .inr h
theorem lt_of_get' {α : Type} {l : List α} {i : Nat} {x : α} (h : l[i]? = some x) : i < l.length := (List.getElem?_eq_some_iff.mp h).1
theorem wk_list {a : Addr} {xs : List V} {ds : List D} (h : SqL K F0 a xs) (r : RpAll K F0 xs ds) : Wk K (Itl K a) F0 ds where
  goes := fun i H s hi => walk_list.goes i H (by rw [r.length]; exact hi) (sqL_same s h)
  stops := fun H s => by rw [← r.length]; exact walk_list.stops H (sqL_same s h)
  yields := fun i H x H' d s e y => by
    obtain ⟨v, hv, rv⟩ := r.get e
    have hi := lt_of_get' hv
    obtain ⟨h1, h2⟩ := walk_list.yields i H x H' hi (sqL_same s h) y
    rw [hv] at h2; cases h2
    exact .inl ⟨h1, rv⟩
theorem wk_tup {a : Addr} {xs : List V} {ds : List D} (h : SqT K F0 a xs) (r : RpAll K F0 xs ds) : Wk K (Itt K a) F0 ds where
  goes := fun i H s hi => walk_tup.goes i H (by rw [r.length]; exact hi) (sqT_same s h)
  stops := fun H s => by rw [← r.length]; exact walk_tup.stops H (sqT_same s h)
  yields := fun i H x H' d s e y => by
    obtain ⟨v, hv, rv⟩ := r.get e
    have hi := lt_of_get' hv
    obtain ⟨h1, h2⟩ := walk_tup.yields i H x H' hi (sqT_same s h) y
    rw [hv] at h2; cases h2
    exact .inl ⟨h1, rv⟩
theorem wk_str {z : Str} : Wk K (Its z) F0 (chars z) where
  goes := fun i H s hi => by
    have : i < z.cps.size := by simpa [chars] using hi
    exact this
  stops := fun H s => by
    show z.cps.size ≤ (chars z).length
    simp [chars]
  yields := fun i H x H' d s e y => by
    obtain ⟨h1, c, hc, hx⟩ := y
    subst hx
    refine .inl ⟨h1, ?_⟩
    unfold chars at e
    rw [List.getElem?_map, Array.getElem?_toList, hc] at e
    cases e
    exact .str _
theorem wk_range {lo c : Int} {n : Nat} : Wk K (Itc lo c n) F0 (rangeL lo c n) where
  goes := fun i H s hi => by
    have : i < n := by simpa [rangeL] using hi
    exact this
  stops := fun H s => by
    show n ≤ (rangeL lo c n).length
    simp [rangeL]
  yields := fun i H x H' d s e y => by
    obtain ⟨h1, hx⟩ := y
    subst hx
    refine .inl ⟨h1, ?_⟩
    unfold rangeL at e
    rw [List.getElem?_map] at e
    cases q : (List.range n)[i]? with
    | none => rw [q] at e; cases e
    | some k =>
      have hk : k = i := by
        obtain ⟨h, e⟩ := List.getElem?_eq_some_iff.mp q
        rw [List.getElem_range] at e; exact e.symm
      subst hk
      rw [q] at e
      cases e
      exact .int _
theorem wk_range1 {lo : Int} {n : Nat} : Wk K (Itr lo n) F0 (rangeL lo 1 n) where
  goes := fun i H s hi => by
    have : i < n := by simpa [rangeL] using hi
    exact this
  stops := fun H s => by
    show n ≤ (rangeL lo 1 n).length
    simp [rangeL]
  yields := fun i H x H' d s e y => by
    obtain ⟨h1, hx⟩ := y
    subst hx
    refine (wk_range (K := K) (F0 := F0) (c := 1)).yields i H _ H' d s e ⟨h1, ?_⟩
    rw [Int.mul_one]
theorem enumL_get {ds : List D} {i : Nat} {d : D} (e : (enumL ds)[i]? = some d) : ∃ x, ds[i]? = some x ∧ d = .tuple [.int (i : Nat), x] := by
  unfold enumL at e
  rw [List.getElem?_map] at e
  cases q : (List.range ds.length)[i]? with
  | none => rw [q] at e; cases e
  | some k =>
    obtain ⟨h, ek⟩ := List.getElem?_eq_some_iff.mp q
    rw [List.getElem_range] at ek
    subst ek
    rw [q] at e
    cases e
    have hl : i < ds.length := by simpa using h
    exact ⟨ds[i], List.getElem?_eq_getElem hl, by show PyData.tuple [.int (i : Nat), ds.getD i .none] = _; rw [List.getD_eq_getElem?_getD, List.getElem?_eq_getElem hl]; rfl⟩
theorem wk_enum {a : Addr} {xs : List V} {ds : List D} (h : SqL K F0 a xs) (r : RpAll K F0 xs ds) : Wk K (Ite K a) F0 (enumL ds) where
  goes := fun i H s hi => walk_enum.goes i H (by rw [r.length]; simpa [enumL] using hi) (sqL_same s h)
  stops := fun H s => by
    have : (enumL ds).length = xs.length := by rw [r.length]; simp [enumL]
    rw [this]; exact walk_enum.stops H (sqL_same s h)
  yields := fun i H x H' d s e y => by
    obtain ⟨z, hz, rfl⟩ := enumL_get e
    obtain ⟨v, hv, rv⟩ := r.get hz
    obtain ⟨T, x1, y1, h1, h2, h3, h4, h5⟩ := walk_enum.yields i H x H' (lt_of_get' hv) (sqL_same s h) y
    cases h4
    have h5 : xs[i]? = some y1 := h5
    rw [hv] at h5; cases h5
    exact .inr ⟨T, _, _, _, _, h1, h2, h3, rfl, .int _, rv⟩
theorem wk_enumT {a : Addr} {xs : List V} {ds : List D} (h : SqT K F0 a xs) (r : RpAll K F0 xs ds) : Wk K (IteT K a) F0 (enumL ds) where
  goes := fun i H s hi => by
    have hi' : i < xs.length := by rw [r.length]; simpa [enumL] using hi
    exact ⟨xs, xs[i], sqT_same s h, by simp [hi']⟩
  stops := fun H s => ⟨xs, sqT_same s h, by rw [r.length]; simp [enumL]⟩
  yields := fun i H x H' d s e y => by
    obtain ⟨z, hz, rfl⟩ := enumL_get e
    obtain ⟨v, hv, rv⟩ := r.get hz
    obtain ⟨T, x1, h1, h2, h3, h4⟩ := y
    have h5 := h4 xs (sqT_same s h)
    rw [hv] at h5; cases h5
    exact .inr ⟨T, _, _, _, _, h1, h2, h3, rfl, .int _, rv⟩
theorem zipL_get {ds es : List D} {i : Nat} {d : D} (e : (zipL ds es)[i]? = some d) : ∃ x y, ds[i]? = some x ∧ es[i]? = some y ∧ d = .tuple [x, y] := by
  unfold zipL at e
  rw [List.getElem?_map] at e
  cases q : (ds.zip es)[i]? with
  | none => rw [q] at e; cases e
  | some p =>
    rw [q] at e
    cases e
    obtain ⟨x, y⟩ := p
    rw [List.getElem?_zip_eq_some] at q
    exact ⟨x, y, q.1, q.2, rfl⟩
theorem wk_zip {a b : Addr} {xs ys : List V} {ds es : List D} (h : SqL K F0 a xs) (h' : SqL K F0 b ys) (r : RpAll K F0 xs ds) (r' : RpAll K F0 ys es) : Wk K (Itz K a b) F0 (zipL ds es) where
  goes := fun i H s hi => (walk_zip rfl).goes i H (by rw [r.length, r'.length]; simpa [zipL] using hi) ⟨sqL_same s h, sqL_same s h'⟩
  stops := fun H s => by
    have : (zipL ds es).length = min xs.length ys.length := by rw [r.length, r'.length]; simp [zipL]
    rw [this]; exact (walk_zip rfl).stops H ⟨sqL_same s h, sqL_same s h'⟩
  yields := fun i H x H' d s e y => by
    obtain ⟨z, z', hz, hz', rfl⟩ := zipL_get e
    obtain ⟨v, hv, rv⟩ := r.get hz
    obtain ⟨u, hu, ru⟩ := r'.get hz'
    obtain ⟨T, x1, y1, h1, h2, h3, h4, h5⟩ := (walk_zip rfl).yields i H x H' (Nat.lt_min.mpr ⟨lt_of_get' hv, lt_of_get' hu⟩) ⟨sqL_same s h, sqL_same s h'⟩ y
    have h4 : xs[i]? = some x1 := h4
    have h5 : ys[i]? = some y1 := h5
    rw [hv] at h4; cases h4
    rw [hu] at h5; cases h5
    exact .inr ⟨T, _, _, _, _, h1, h2, h3, rfl, rv, ru⟩
theorem wk_zipT {a b : Addr} {xs ys : List V} {ds es : List D} (h : SqT K F0 a xs) (h' : SqT K F0 b ys) (r : RpAll K F0 xs ds) (r' : RpAll K F0 ys es) : Wk K (RZ.ItzT K a b) F0 (zipL ds es) where
  goes := fun i H s hi => by
    have hi' : i < min ds.length es.length := by simpa [zipL] using hi
    have h1 : i < xs.length := by rw [r.length]; omega
    have h2 : i < ys.length := by rw [r'.length]; omega
    exact ⟨xs, ys, xs[i], ys[i], sqT_same s h, sqT_same s h', by simp [h1], by simp [h2]⟩
  stops := fun H s => ⟨xs, ys, sqT_same s h, sqT_same s h', by rw [r.length, r'.length]; simp [zipL]; omega⟩
  yields := fun i H x H' d s e y => by
    obtain ⟨z, z', hz, hz', rfl⟩ := zipL_get e
    obtain ⟨v, hv, rv⟩ := r.get hz
    obtain ⟨u, hu, ru⟩ := r'.get hz'
    obtain ⟨T, x1, y1, h1, h2, h3, h4, h5⟩ := y
    have h4 := h4 xs (sqT_same s h)
    have h5 := h5 ys (sqT_same s h')
    rw [hv] at h4; cases h4
    rw [hu] at h5; cases h5
    exact .inr ⟨T, _, _, _, _, h1, h2, h3, rfl, rv, ru⟩
end
def PoI (K : PySem.W.Frag) (env : Ev) (F : Hp) (σ : L2.St) (H : Hp) (R : L2.It → Hp → Prop) : List D → Ev → Prop := fun ds env' => ∀ J F' H', ER K F' σ H' env' → Tr env F σ H env' F' σ H' → Wk K J F' ds → R J H'
def tI (K : PySem.W.Frag) (tb : Tab) (it : It) : TI := fun σ H R => ∃ env F, ER K F σ H env ∧ wpI tb it env (PoI K env F σ H R)
theorem _root_.L2.PI.imp {X : Cx} {tg iter : Expr} {t t' : TI} (h : PI X tg iter t) (i : ∀ σ H R, t' σ H R → t σ H R) : PI X tg iter t' := ⟨fun pins s σ H R I q => h.run pins s σ H R I (i _ _ _ q)⟩
section
variable {X : Cx} {tb : Tab} {tg a b c : Expr} {p q r : P} {pp pos tpos : Pos} {elts : List Expr} {kk : Nat}
theorem i_seq (ha : PE X a (tE X.K tb p)) : PI X tg a (tI X.K tb (.seq p)) := (pi_seq ha).imp fun σ H R ⟨env, F, E, w⟩ => s1f E w fun x e1 v F1 H1 R1 T1 r1 g => by
  revert g
  unfold itemsOf
  split
  · rename_i ds e
    intro g
    rw [e] at r1
    obtain ⟨l, xs, rfl, rd, z, cc⟩ := rp_list r1
    exact .inl ⟨l, rfl, ⟨xs, .inl (Rd.same R1.sub rd)⟩, g _ F1 H1 R1 T1 (wk_list (.inl rd) cc)⟩
  · rename_i ds e
    intro g
    rw [e] at r1
    obtain ⟨l, xs, rfl, rd, z, cc⟩ := rp_tup r1
    exact .inr (.inl ⟨l, rfl, ⟨xs, sqT_same R1.sub rd⟩, g _ F1 H1 R1 T1 (wk_tup rd cc)⟩)
  · rename_i z e
    intro g
    rw [e] at r1
    have := rp_str r1; subst this
    exact .inr (.inr ⟨z, rfl, g _ F1 H1 R1 T1 wk_str⟩)
  · exact fun g => g.elim
theorem rng1_of {d : D} {Q : List D → Prop} (g : rngS [d] Q) : ∃ j, d = .int j ∧ (-(2 ^ 62) ≤ j ∧ j ≤ LIM) ∧ Q (rangeL 0 1 j.toNat) := by
  unfold rngS at g
  split at g
  · rename_i j e
    injection e with e _
    exact ⟨j, e, g.1, g.2⟩
  · rename_i e; injection e with _ e; cases e
  · rename_i e; injection e with _ e; cases e
  · exact g.elim
theorem rng2_of {d d' : D} {Q : List D → Prop} (g : rngS [d, d'] Q) : ∃ i j, d = .int i ∧ d' = .int j ∧ (-(2 ^ 62) ≤ i ∧ i < 2 ^ 62 ∧ -(2 ^ 62) ≤ j ∧ j < 2 ^ 62 ∧ j - i ≤ LIM) ∧ Q (rangeL i 1 (j - i).toNat) := by
  unfold rngS at g
  split at g
  · rename_i e; injection e with _ e; cases e
  · rename_i i j e
    injection e with e e'
    injection e' with e' _
    exact ⟨i, j, e, e', g.1, g.2⟩
  · rename_i e; injection e with _ e; injection e with _ e; cases e
  · exact g.elim
theorem rng3_of {d d' d'' : D} {Q : List D → Prop} (g : rngS [d, d', d''] Q) : ∃ i j, d = .int i ∧ d' = .int j ∧ d'' = .int (-1) ∧ (-(2 ^ 62) ≤ i ∧ i < 2 ^ 62 ∧ -(2 ^ 62) ≤ j ∧ j < 2 ^ 62 ∧ i - j ≤ LIM) ∧ Q (rangeL i (-1) (i - j).toNat) := by
  unfold rngS at g
  split at g
  · rename_i e; injection e with _ e; cases e
  · rename_i e; injection e with _ e; injection e with _ e; cases e
  · rename_i i j e
    injection e with e e'
    injection e' with e' e''
    injection e'' with e'' _
    exact ⟨i, j, e, e', e'', g.1, g.2⟩
  · exact g.elim
theorem i_rng1 (hg : Gl X "range") (hm : X.mg "range" = none) (ha : PE X a (tE X.K tb p)) (hs : starEach [a] X.env = [(false, eval a X.env)]) : PI X tg (.Call (.Name "range" pp) [a] [] pos) (tI X.K tb (.rng1 p)) :=
  (pi_range1 hg hm (pa_cons ha pa_nil (by rw [hs]; rfl)) hs).imp fun σ H R ⟨env, F, E, w⟩ => s1f E w fun x e1 v F1 H1 R1 T1 r1 g => by
    obtain ⟨j, e, h1, g⟩ := rng1_of g
    rw [e] at r1
    have := rp_int r1; subst this
    have hl : (LIM : Int) = 16777216 := rfl
    exact ⟨j, rfl, h1.1, by have := h1.2; omega, g _ F1 H1 R1 T1 wk_range1⟩
theorem i_rng2 (hg : Gl X "range") (hm : X.mg "range" = none) (ha : PE X a (tE X.K tb p)) (hb : PE X b (tE X.K tb q)) (hs : starEach [a, b] X.env = [(false, eval a X.env), (false, eval b X.env)]) (hs2 : starEach [b] X.env = [(false, eval b X.env)]) :
    PI X tg (.Call (.Name "range" pp) [a, b] [] pos) (tI X.K tb (.rng2 p q)) :=
  (pi_range2 hg hm (pa_cons ha (pa_cons hb pa_nil (by rw [hs2]; rfl)) (by rw [hs, hs2])) hs hs2).imp fun σ H R ⟨env, F, E, w⟩ => s2 E w fun x y e1 v u F1 H1 R1 T1 r1 r2 g => by
    obtain ⟨i, j, e, e', h, g⟩ := rng2_of g
    rw [e] at r1
    rw [e'] at r2
    have := rp_int r1; subst this
    have := rp_int r2; subst this
    exact ⟨i, j, rfl, ⟨h.1, h.2.1, h.2.2.1, h.2.2.2.1⟩, g _ F1 H1 R1 T1 wk_range1⟩
theorem i_rng3 (hg : Gl X "range") (hm : X.mg "range" = none) (ha : PE X a (tE X.K tb p)) (hb : PE X b (tE X.K tb q)) (hc : PE X c (tE X.K tb r)) (hs : starEach [a, b, c] X.env = (false, eval a X.env) :: starEach [b, c] X.env)
    (hs2 : starEach [b, c] X.env = (false, eval b X.env) :: starEach [c] X.env) (hs3 : starEach [c] X.env = (false, eval c X.env) :: starEach [] X.env) (hpl : (backTo pos (starEach [b, c] X.env)).any (·.1) = false) :
    PI X tg (.Call (.Name "range" pp) [a, b, c] [] pos) (tI X.K tb (.rng3 p q r)) :=
  (pi_range3 hg hm (pa_cons ha (pa_cons hb (pa_cons hc pa_nil hs3) hs2) hs) hs hpl).imp fun σ H R ⟨env, F, E, w⟩ => s1f E w fun x e1 v F1 H1 R1 T1 r1 g => s1f R1 g fun y e2 u F2 H2 R2 T2 r2 g => s1f R2 g fun z e3 k F3 H3 R3 T3 r3 g => by
    have r1 := (r1.mono T2.fs).mono T3.fs
    have r2 := r2.mono T3.fs
    have T := (T1.trans T2).trans T3
    obtain ⟨i, j, e, e', e'', h, g⟩ := rng3_of g
    rw [e] at r1
    rw [e'] at r2
    rw [e''] at r3
    have := rp_int r1; subst this
    have := rp_int r2; subst this
    have := rp_int r3; subst this
    exact ⟨i, j, -1, _, rfl, RgC.neg h.1 h.2.1 h.2.2.1 h.2.2.2.1, g _ F3 H3 R3 T wk_range⟩
theorem i_enum (hg : Gl X "enumerate") (hm : X.mg "enumerate" = none) (ha : PE X a (tE X.K tb p)) (hs : starEach [a] X.env = [(false, eval a X.env)]) : PI X (.Tuple elts kk tpos) (.Call (.Name "enumerate" pp) [a] [] pos) (tI X.K tb (.enum p)) :=
  (pi_enumA hg hm (pa_cons ha pa_nil (by rw [hs]; rfl)) hs).imp fun σ H R ⟨env, F, E, w⟩ => s1f E w fun x e1 v F1 H1 R1 T1 r1 g => by
    revert g
    unfold seqOf
    split
    · rename_i ds e
      intro g
      rw [e] at r1
      obtain ⟨l, xs, rfl, rd, z, cc⟩ := rp_list r1
      exact ⟨l, xs, rfl, .inl ⟨.inl (Rd.same R1.sub rd), g _ F1 H1 R1 T1 (wk_enum (.inl rd) cc)⟩⟩
    · rename_i ds e
      intro g
      rw [e] at r1
      obtain ⟨l, xs, rfl, rd, z, cc⟩ := rp_tup r1
      exact ⟨l, xs, rfl, .inr ⟨sqT_same R1.sub rd, g _ F1 H1 R1 T1 (wk_enumT rd cc)⟩⟩
    · exact fun g => g.elim
theorem i_zip (hg : Gl X "zip") (hm : X.mg "zip" = none) (ha : PE X a (tE X.K tb p)) (hb : PE X b (tE X.K tb q)) (hs : starEach [a, b] X.env = (false, eval a X.env) :: starEach [b] X.env) (hs2 : starEach [b] X.env = (false, eval b X.env) :: starEach [] X.env) (hpl : (backTo pos (starEach [b] X.env)).any (·.1) = false) :
    PI X (.Tuple elts kk tpos) (.Call (.Name "zip" pp) [a, b] [] pos) (tI X.K tb (.zip p q)) :=
  (RZ.pi_zipA hg hm (pa_cons ha (pa_cons hb pa_nil hs2) hs) hs hpl).imp fun σ H R ⟨env, F, E, w⟩ => s2 E w fun x y e1 v u F1 H1 R1 T1 r1 r2 g => by
    obtain ⟨hk, g⟩ := g
    revert g hk r1 r2
    generalize x.d = d
    generalize y.d = d'
    intro r1 r2 hk g
    unfold sameKind at hk
    split at hk
    · obtain ⟨l, xs, rfl, rd, z, cc⟩ := rp_list r1
      obtain ⟨l2, xs2, rfl, rd2, z2, cc2⟩ := rp_list r2
      exact ⟨l, l2, xs, xs2, rfl, .inl ⟨.inl (Rd.same R1.sub rd), .inl (Rd.same R1.sub rd2), g _ F1 H1 R1 T1 (wk_zip (.inl rd) (.inl rd2) cc cc2)⟩⟩
    · obtain ⟨l, xs, rfl, rd, z, cc⟩ := rp_tup r1
      obtain ⟨l2, xs2, rfl, rd2, z2, cc2⟩ := rp_tup r2
      exact ⟨l, l2, xs, xs2, rfl, .inr ⟨sqT_same R1.sub rd, sqT_same R1.sub rd2, g _ F1 H1 R1 T1 (wk_zipT rd rd2 cc cc2)⟩⟩
    · cases hk
/-! ### list(range(..)), tuple(range(..)) -/
def rglN : Bool → Str
  | true => "tuple"
  | false => "list"
def rglH : Bool → List V → HO
  | true, xs => .tup xs
  | false, xs => .lst xs
theorem rgV_rp {K : PySem.W.Frag} {F : Hp} (a b : Int) : RpAll K F (rgV a b) (rangeL a 1 (b - a).toNat) := by
  unfold rgV rangeL
  generalize List.range (b - a).toNat = l
  induction l with
  | nil => exact .nil
  | cons n l ih => exact .cons (by show Rp K F (.int (a + n)) (.int (a + n * 1)); rw [Int.mul_one]; exact .int _) ih
theorem e_rgl {t : Bool} {e : Expr} {te : L2.St → Hp → (Int → Int → Hp → Prop) → Prop} (hc : X.calm = true) (hg : Gl X (rglN t)) (hm : X.mg (rglN t) = none) (he : PRg X e te) (na : starEach [e] X.env = (false, eval e X.env) :: starEach [] X.env) :
    PE X (.Call (.Name (rglN t) pp) [e] [] pos) (fun σ H Q => te σ H fun a b H1 => RgOk a b ∧ ∀ q, H1 q = none → Q (.ref q) (upd H1 q (rglH t (rgV a b)))) := by
  cases t with
  | true => exact pe_tupRg hc hg hm he na
  | false => exact pe_listRg hc hg hm he na
theorem rgl_end {K : PySem.W.Frag} {t : Bool} {F H : Hp} {Q : VK} {i j : Int} (w : Wt K F H Q (rglR t (rangeL i 1 (j - i).toNat))) (hz : (j - i).toNat ≤ sizeLine) : ∀ q, H q = none → Q (.ref q) (upd H q (rglH t (rgV i j))) := by
  cases t with
  | true => exact w.tup (rgV_rp i j) (by rw [rgV_length]; exact hz)
  | false => exact w.lst (rgV_rp i j) (by rw [rgV_length]; exact hz)
theorem e_rgl1 {t : Bool} {pq pr : Pos} (hc : X.calm = true) (hgl : Gl X (rglN t)) (hml : X.mg (rglN t) = none) (hg : Gl X "range") (hm : X.mg "range" = none) (ha : PE X a (tE X.K tb p)) (hs : starEach [a] X.env = (false, eval a X.env) :: starEach [] X.env)
    (na : starEach [.Call (.Name "range" pp) [a] [] pos] X.env = (false, eval (.Call (.Name "range" pp) [a] [] pos) X.env) :: starEach [] X.env) :
    PE X (.Call (.Name (rglN t) pq) [.Call (.Name "range" pp) [a] [] pos] [] pr) (tE X.K tb (.rgl1 t p)) :=
  (e_rgl hc hgl hml (prg_1 hg hm ha hs) na).imp fun σ H Q ⟨env, F, E, w⟩ => s1f E w fun x e1 v F1 H1 R1 T1 r1 g => by
    obtain ⟨j, e, h1, g⟩ := rng1_of g
    rw [e] at r1
    have := rp_int r1; subst this
    have hl : (LIM : Int) = 16777216 := rfl
    have h1' := h1.1
    have h2' := h1.2
    refine ⟨j, rfl, ⟨by decide, by decide, by omega, by omega, by omega⟩, rgl_end (i := 0) (j := j) (by rw [Int.sub_zero]; exact PoE.wt g R1 T1) ?_⟩
    rw [sizeLine_eq]; omega
theorem e_rgl2 {t : Bool} {pq pr : Pos} (hc : X.calm = true) (hgl : Gl X (rglN t)) (hml : X.mg (rglN t) = none) (hg : Gl X "range") (hm : X.mg "range" = none) (ha : PE X a (tE X.K tb p)) (hb : PE X b (tE X.K tb q)) (hs : starEach [a, b] X.env = (false, eval a X.env) :: starEach [b] X.env) (hs2 : starEach [b] X.env = (false, eval b X.env) :: starEach [] X.env) (hpl : (backTo pos (starEach [b] X.env)).any (·.1) = false)
    (na : starEach [.Call (.Name "range" pp) [a, b] [] pos] X.env = (false, eval (.Call (.Name "range" pp) [a, b] [] pos) X.env) :: starEach [] X.env) :
    PE X (.Call (.Name (rglN t) pq) [.Call (.Name "range" pp) [a, b] [] pos] [] pr) (tE X.K tb (.rgl2 t p q)) :=
  (e_rgl hc hgl hml (prg_2 hg hm ha hb hs hs2 hpl) na).imp fun σ H Q ⟨env, F, E, w⟩ => s2 E w fun x y e1 v u F1 H1 R1 T1 r1 r2 g => by
    obtain ⟨i, j, e, e', h, g⟩ := rng2_of g
    rw [e] at r1
    rw [e'] at r2
    have := rp_int r1; subst this
    have := rp_int r2; subst this
    have hl : (LIM : Int) = 16777216 := rfl
    obtain ⟨h1, h2, h3, h4, h5⟩ := h
    refine ⟨i, j, rfl, rfl, ⟨h1, h2, h3, h4, by omega⟩, rgl_end (PoE.wt g R1 T1) ?_⟩
    rw [sizeLine_eq]; omega
/-! ### dicts -/
/-- the dict that comes is locked from now on -/
def tLk (t : TE) : TE := fun σ H Q => t σ H fun v H1 => ∃ d kvs, v = .ref d ∧ ((∃ o, H1 d = some (.frz o (.dK kvs)) ∧ Q v H1) ∨ (H1 d = some (.dK kvs) ∧ ∀ od, Q v (upd H1 d (.frz od (.dK kvs)))))
theorem pe_lk {e : Expr} {t : TE} (h : PE X e t) : PE X e (tLk t) := by
  refine ⟨fun pins s σ H Q I q => ?_⟩
  refine thn (h.run pins s σ H _ I q) fun v s1 ⟨x, H1, I1, r, d, kvs, ex, q1⟩ => ?_
  rcases q1 with ⟨o, _, q1⟩ | ⟨hd, q1⟩
  · exact ⟨x, H1, I1, r, q1⟩
  · obtain ⟨od, I2⟩ := I1.lock hd trivial
    exact ⟨x, _, I2, r, q1 od⟩
theorem rpDk_at {K : PySem.W.Frag} {F : Hp} : ∀ {kvs : List (Key × V)} {es : List (D × D)} {i : Nat} {k : Key} {v : V}, RpDk K F kvs es → kvs[i]? = some (k, v) → ∃ d, es[i]? = some (kD k, d) ∧ Rp K F v d
  | _, _, _, _, _, .nil, h => by simp at h
  | _, _, 0, _, _, .cons a _, h => by
    simp at h
    obtain ⟨rfl, rfl⟩ := h
    exact ⟨_, rfl, a⟩
  | _, _, i + 1, _, _, .cons _ b, h => by
    obtain ⟨d, e, r⟩ := rpDk_at (i := i) b (by simpa using h)
    exact ⟨d, by simpa using e, r⟩
theorem rp_kD {K : PySem.W.Frag} {F : Hp} (k : Key) : Rp K F (kV k) (kD k) := by
  cases k with
  | inl i => exact .int i
  | inr x => exact .str x
theorem frz_sam {F H : Hp} (s : Sam F H) {a : Addr} {o : Obj} {u : HO} (h : F a = some (.frz o u)) : H a = some (.frz o u) := by
  obtain ⟨w, h1, p⟩ := s a _ h
  rw [h1, p.frz]
theorem wk_keys {K : PySem.W.Frag} {F0 : Hp} {a : Addr} {o : Obj} {kvs : List (Key × V)} {es : List (D × D)} (h : F0 a = some (.frz o (.dK kvs))) (r : RpDk K F0 kvs es) : Wk K (Itk a o kvs) F0 (es.map (·.1)) where
  goes := fun i H s hi => ⟨frz_sam s h, by rw [rpDk_len r]; simpa using hi⟩
  stops := fun H s => ⟨frz_sam s h, by rw [rpDk_len r]; simp⟩
  yields := fun i H x H' d s e y => by
    obtain ⟨h1, k, v, hk, rfl⟩ := y
    obtain ⟨z, hz, _⟩ := rpDk_at r hk
    rw [List.getElem?_map, hz] at e
    cases e
    exact .inl ⟨h1, rp_kD k⟩
theorem wk_items {K : PySem.W.Frag} {F0 : Hp} {a : Addr} {o : Obj} {kvs : List (Key × V)} {es : List (D × D)} (h : F0 a = some (.frz o (.dK kvs))) (r : RpDk K F0 kvs es) : Wk K (Iti a o kvs) F0 (es.map fun e => .tuple [e.1, e.2]) where
  goes := fun i H s hi => ⟨frz_sam s h, by rw [rpDk_len r]; simpa using hi⟩
  stops := fun H s => ⟨frz_sam s h, by rw [rpDk_len r]; simp⟩
  yields := fun i H x H' d s e y => by
    obtain ⟨T, k, v, hk, rfl, hT, rfl⟩ := y
    obtain ⟨z, hz, rz⟩ := rpDk_at r hk
    rw [List.getElem?_map, hz] at e
    cases e
    exact .inr ⟨T, _, _, _, _, rfl, hT, rfl, rfl, rp_kD k, rz⟩
theorem RpDk.up {K : PySem.W.Frag} {F H : Hp} (s : Sam F H) {kvs : List (Key × V)} {es : List (D × D)} (h : RpDk K F kvs es) : RpDk K H kvs es := RpDk.mono s h
/-- a frozen dict is locked -/
theorem lock_ok {K : PySem.W.Frag} {F H : Hp} {σ : L2.St} {env : Ev} {a : Addr} {kvs : List (Key × V)} (od : Obj) (R : ER K F σ H env) (h : F a = some (.dK kvs)) (hH : H a = some (.dK kvs) ∨ H a = some (.frz od (.dK kvs))) :
    ER K (upd F a (.frz od (.dK kvs))) σ (upd H a (.frz od (.dK kvs))) env ∧ Tr env F σ H env (upd F a (.frz od (.dK kvs))) σ (upd H a (.frz od (.dK kvs))) ∧ Sam F (upd F a (.frz od (.dK kvs))) := by
  have s : Sam F (upd F a (.frz od (.dK kvs))) := fun b u e => by
    by_cases q : b = a
    · subst q
      rw [h] at e; cases e
      exact ⟨_, upd_same, .inr (.inl ⟨od, kvs, rfl, rfl⟩)⟩
    · exact ⟨u, by rw [upd_ne q]; exact e, .refl u⟩
  refine ⟨⟨fun b u e => ?_, R.len, fun i d z => let ⟨v, e, r⟩ := R.sh i d z; ⟨v, e, r.mono s⟩, fun i d z => ?_, R.inj⟩, ⟨s, fun b o e n => ?_, fun b e => ?_, fun b e => ?_, fun b e => .inl e, fun i d z => ⟨rfl, d, z⟩⟩, s⟩
  · by_cases q : b = a
    · subst q
      rw [upd_same] at e; cases e
      exact ⟨_, upd_same, .refl _⟩
    · rw [upd_ne q] at e ⊢
      exact R.sub _ _ e
  · obtain ⟨c, ho, e, h1, h2, h3⟩ := R.ob i d z
    have q : c ≠ a := fun q => by rw [q, h] at h2; cases h2
    exact ⟨c, ho, e, by rw [upd_ne q]; exact h1, by rw [upd_ne q]; exact h2, h3.mono s⟩
  · by_cases q : b = a
    · subst q
      refine .inr ⟨by rw [upd_same]; simp, _, upd_same, ?_⟩
      rcases hH with hH | hH
      · rw [hH] at e; cases e
        exact .inr (.inl ⟨od, kvs, rfl, rfl⟩)
      · rw [hH] at e; cases e
        exact .refl _
    · exact .inl (by rw [upd_ne q]; exact e)
  · by_cases q : b = a
    · subst q; rw [upd_same] at e; cases e
    · rwa [upd_ne q] at e
  · by_cases q : b = a
    · subst q; exact .inl (by rw [h]; simp)
    · rw [upd_ne q] at e; exact .inl e
theorem upd_id {H : Hp} {a : Addr} {u : HO} (h : H a = some u) : upd H a u = H := by
  funext b
  by_cases q : b = a
  · subst q; rw [upd_same, h]
  · rw [upd_ne q]
/-- a frozen dict that comes: locked, and what follows -/
theorem lk_of {K : PySem.W.Frag} {F F1 H H1 : Hp} {σ : L2.St} {env e1 : Ev} {v : V} {es : List (D × D)} (R1 : ER K F1 σ H1 e1) (T1 : Tr env F σ H e1 F1 σ H1) (r1 : Rp K F1 v (.dict es)) {Q : V → Hp → Prop}
    (q : ∀ a od kvs F' H', v = .ref a → ER K F' σ H' e1 → Tr env F σ H e1 F' σ H' → F' a = some (.frz od (.dK kvs)) → H' a = some (.frz od (.dK kvs)) → RpDk K F' kvs es → Q v H') :
    ∃ d kvs, v = .ref d ∧ ((∃ o, H1 d = some (.frz o (.dK kvs)) ∧ Q v H1) ∨ (H1 d = some (.dK kvs) ∧ ∀ od, Q v (upd H1 d (.frz od (.dK kvs))))) := by
  obtain ⟨a, kvs, rfl, hr, hz, c⟩ := rp_dict r1
  refine ⟨a, kvs, rfl, ?_⟩
  rcases hr with hr | ⟨o, hr⟩
  · obtain ⟨w, hw, p⟩ := R1.sub _ _ hr
    rcases p with rfl | ⟨o, kvs', e, rfl⟩ | ⟨o, kvs', e, rfl⟩
    · refine .inr ⟨hw, fun od => ?_⟩
      obtain ⟨R2, T2, s2⟩ := lock_ok od R1 hr (.inl hw)
      exact q a od kvs _ _ rfl R2 (T1.trans T2) upd_same upd_same (c.up s2)
    · cases e
      obtain ⟨R2, T2, s2⟩ := lock_ok o R1 hr (.inr hw)
      rw [upd_id hw] at R2 T2
      exact .inl ⟨o, hw, q a o kvs _ _ rfl R2 (T1.trans T2) upd_same hw (c.up s2)⟩
    · cases e
  · have hw := frz_sam R1.sub hr
    exact .inl ⟨o, hw, q a o kvs _ _ rfl R1 T1 hr hw c⟩
theorem i_keys (ha : PE X a (tE X.K tb p)) : PI X tg a (tI X.K tb (.keys p)) := (pi_keys (pe_lk ha)).imp fun σ H R ⟨env, F, E, w⟩ => s1f E w fun x e1 v F1 H1 R1 T1 r1 g => by
  revert g
  unfold keysS
  split
  · rename_i es e
    intro g
    rw [e] at r1
    exact lk_of (Q := fun x H1 => ∃ d o, x = V.ref d ∧ ((∃ kvs, H1 d = some (.frz o (.dK kvs)) ∧ R (Itk d o kvs) H1) ∨ ∃ kvs, H1 d = some (.frz o (.dT kvs)) ∧ R (Itkt d o kvs) H1)) R1 T1 r1 fun l od kvs F' H' ev R2 T2 f1 f2 c => ⟨l, od, ev, .inl ⟨kvs, f2, g _ F' H' R2 T2 (wk_keys f1 c)⟩⟩
  · exact fun g => g.elim
theorem i_items {apos : Pos} (ha : PE X a (tE X.K tb p)) (hbase : attributeBase a "items" X.env (eval a X.env) = eval a X.env) (hline : (apos.endLine == pos.line) = true) : PI X (.Tuple elts kk tpos) (.Call (.Attribute a "items" apos) [] [] pos) (tI X.K tb (.items p)) :=
  (pi_items (pe_lk ha) hbase hline).imp fun σ H R ⟨env, F, E, w⟩ => s1f E w fun x e1 v F1 H1 R1 T1 r1 g => by
  revert g
  unfold itemsS
  split
  · rename_i es e
    intro g
    rw [e] at r1
    exact lk_of (Q := fun x H1 => ∃ d o kvs, x = V.ref d ∧ H1 d = some (.frz o (.dK kvs)) ∧ R (Iti d o kvs) H1) R1 T1 r1 fun l od kvs F' H' ev R2 T2 f1 f2 c => ⟨l, od, kvs, ev, f2, g _ F' H' R2 T2 (wk_items f1 c)⟩
  · exact fun g => g.elim
end
end PL
end

section
set_option Elab.async false
set_option linter.all false
set_option autoImplicit false
set_option maxRecDepth 100000
set_option maxHeartbeats 1000000
/-! PLo: targets; comprehensions. -/
namespace PL
open PySem PySem.Spec PyProof.Rows L2

/-! ### targets -/
def gNames : List Nat → TGs
  | [] => gNil
  | i :: is => gCons (gName i) (gNames is)
/-- (a, b, ..) = a tuple or a list of that length -/
def gSeq (K : PySem.W.Frag) (n : Nat) (t : TGs) : TG := fun v σ H Q => ∃ a xs, v = .ref a ∧ (SqT K H a xs ∨ SqL K H a xs) ∧ xs.length = n ∧ t xs σ H Q
theorem assign_Tuple_list {prog : Program} {w : World} {A : Around} {E : Value → Shared → Prop} {s : Shared} {env : Env} {elts : List Expr} {x1 : Nat} {pos : Pos} {t : Addr} {items : Array Value} {Q : Unit → Shared → Prop} (hh : A.handled = none) (ht : s.heap.IsList t items)
    (hn : (assignEach elts env).length = items.size) (hstar : (assignEach elts env).findIdx? (·.1) = none)
    (h : ∀ h', Heap.ExtBut s.heap.objs.size s.heap h' → wpAny (model prog w) A (assignInOrder ((assignEach elts env).map (·.2)) items.toList) Q E { s with heap := h' }) :
    wpAny (model prog w) A (assign (.Tuple elts x1 pos) env (.ref t)) Q E s := by
  rw [assign_Tuple]
  refine wpAny_bind (wpAny_standAt ?_)
  unfold unpack
  rw [hn, hstar]
  exact wpAny_bind (wpAny_holding (PySem.W.kun_itemsOf hh ht h))
theorem pg_seq {X : Cx} {pos : Pos} {es : List Expr} {k : Nat} {t : TGs} {n : Nat} (hc : X.calm = true) (h : PGs X es t)
    (hn : (assignEach es X.env).length = n) (hst : (assignEach es X.env).findIdx? (·.1) = none) : PG X (.Tuple es k pos) (gSeq X.K n t) := by
  refine ⟨fun pins s σ H v u Q I r hw => ?_⟩
  obtain ⟨a, xs, e1, hq, hl, hw⟩ := hw
  subst e1
  cases r
  rcases hq with hq | hq
  · obtain ⟨its, rv, ht, hz⟩ := I.tuple hq
    refine assign_Tuple_tuple (I.ok.hd hc) ht (by simp [hn, ← hl, rv.length]) hst fun h' hx => ?_
    have I1 : Inv X pins σ H { s with heap := h' } := I.kept (t' := s.toks) fun b o e => hx b o (Nat.ne_of_lt (Heap.lt_size e)) e
    exact h.run pins _ σ H xs _ Q I1 (by simpa using rv) hw
  · obtain ⟨its, rv, pl, hz⟩ := I.list hq
    refine assign_Tuple_list (I.ok.hd hc) pl.isList (by simp [hn, ← hl, rv.length]) hst fun h' hx => ?_
    have I1 : Inv X pins σ H { s with heap := h' } := I.kept (t' := s.toks) fun b o e => hx b o (Nat.ne_of_lt (Heap.lt_size e)) e
    exact h.run pins _ σ H xs _ Q I1 (by simpa using rv) hw
def gOf (K : PySem.W.Frag) : G → TG
  | .name i => gName i
  | .tup is => gSeq K is.length (gNames is)
def G.sl : G → List Nat
  | .name i => [i]
  | .tup is => is
theorem gNames_mono {Q Q' : L2.St → Hp → Prop} (h : ∀ σ H, Q σ H → Q' σ H) : ∀ {is : List Nat} {vs : List V} {σ : L2.St} {H : Hp}, gNames is vs σ H Q → gNames is vs σ H Q'
  | [], _, _, _, q => ⟨q.1, h _ _ q.2⟩
  | i :: is, _, _, _, ⟨v, r, e, q⟩ => ⟨v, r, e, gNames_mono h q⟩
theorem gOf_mono {K : PySem.W.Frag} {Q Q' : L2.St → Hp → Prop} (h : ∀ σ H, Q σ H → Q' σ H) : ∀ {g : G} {v : V} {σ : L2.St} {H : Hp}, gOf K g v σ H Q → gOf K g v σ H Q'
  | .name _, _, _, _, q => h _ _ q
  | .tup _, _, _, _, ⟨a, xs, h1, h2, h3, q⟩ => ⟨a, xs, h1, h2, h3, gNames_mono h q⟩
theorem wipe_get {σ : L2.St} : ∀ {vs : List Nat} {i : Nat}, (wipe σ vs)[i]? = if i ∈ vs ∧ i < σ.length then some none else σ[i]?
  | [], i => by simp [wipe]
  | v :: vs, i => by
    unfold wipe
    by_cases h : i = v
    · subst h
      by_cases hl : i < σ.length
      · rw [List.getElem?_set_self (by rw [wipe_length]; exact hl), if_pos ⟨by simp, hl⟩]
      · rw [if_neg fun z => hl z.2, List.getElem?_eq_none (by rw [List.length_set, wipe_length]; omega), List.getElem?_eq_none (by omega)]
    · rw [List.getElem?_set_ne (Ne.symm h), wipe_get]
      simp [h]
theorem wipe_set {σ : L2.St} {vs : List Nat} {i : Nat} {x : Option V} (hi : i ∈ vs) : wipe (σ.set i x) vs = wipe σ vs := by
  apply List.ext_getElem?
  intro j
  rw [wipe_get, wipe_get, List.length_set]
  by_cases h : j ∈ vs ∧ j < σ.length
  · rw [if_pos h, if_pos h]
  · rw [if_neg h, if_neg h]
    by_cases e : j = i
    · subst e
      have : ¬ j < σ.length := fun z => h ⟨hi, z⟩
      rw [List.getElem?_eq_none (by rw [List.length_set]; omega), List.getElem?_eq_none (by omega)]
    · rw [List.getElem?_set_ne (Ne.symm e)]
theorem wipeE_length (env : Ev) : ∀ vs : List Nat, (wipeE env vs).length = env.length
  | [] => rfl
  | v :: vs => by unfold wipeE; rw [List.length_set, wipeE_length env vs]
theorem wipeE_get {env : Ev} : ∀ {vs : List Nat} {i : Nat}, (wipeE env vs)[i]? = if i ∈ vs ∧ i < env.length then some Sl.un else env[i]?
  | [], i => by simp [wipeE]
  | v :: vs, i => by
    unfold wipeE
    by_cases h : i = v
    · subst h
      by_cases hl : i < env.length
      · rw [List.getElem?_set_self (by rw [wipeE_length]; exact hl), if_pos ⟨by simp, hl⟩]
      · rw [if_neg fun z => hl z.2, List.getElem?_eq_none (by rw [List.length_set, wipeE_length]; omega), List.getElem?_eq_none (by omega)]
    · rw [List.getElem?_set_ne (Ne.symm h), wipeE_get]
      simp [h]
theorem backE_length (e0 env : Ev) : ∀ vs : List Nat, (backE e0 env vs).length = env.length
  | [] => rfl
  | v :: vs => by unfold backE; rw [List.length_set, backE_length e0 env vs]
theorem backE_get {e0 env : Ev} : ∀ {vs : List Nat} {i : Nat}, (backE e0 env vs)[i]? = if i ∈ vs ∧ i < env.length then some (e0.getD i .un) else env[i]?
  | [], i => by simp [backE]
  | v :: vs, i => by
    unfold backE
    by_cases h : i = v
    · subst h
      by_cases hl : i < env.length
      · rw [List.getElem?_set_self (by rw [backE_length]; exact hl), if_pos ⟨by simp, hl⟩]
      · rw [if_neg fun z => hl z.2, List.getElem?_eq_none (by rw [List.length_set, backE_length]; omega), List.getElem?_eq_none (by omega)]
    · rw [List.getElem?_set_ne (Ne.symm h), backE_get]
      simp [h]
section
variable {K : PySem.W.Frag} {F F0 F1 H H0 H1 : Hp} {σ σ0 σ1 : L2.St} {env env0 env1 : Ev} {Q : Ev → Prop}
/-- what a store reaches -/
def GK (K : PySem.W.Frag) (is : List Nat) (env0 : Ev) (F0 : Hp) (σ0 : L2.St) (H0 : Hp) (σs : L2.St) (F H : Hp) (Q : Ev → Prop) : L2.St → Hp → Prop := fun σ' H' => H' = H ∧ (∀ vs, (∀ i ∈ is, i ∈ vs) → wipe σ' vs = wipe σs vs) ∧ ∃ env', Q env' ∧ ER K F σ' H env' ∧ Tr env0 F0 σ0 H0 env' F σ' H
theorem gs_ok : ∀ {is : List Nat} {ds : List D} {xs : List V} {σ : L2.St} {env : Ev}, ER K F σ H env → Tr env0 F0 σ0 H0 env F σ H → RpAll K F xs ds → wrs env is (ds.map Sl.sh) Q → gNames is xs σ H (GK K is env0 F0 σ0 H0 σ F H Q)
  | [], [], [], σ, env, R, T, .nil, w => ⟨rfl, rfl, fun _ _ => rfl, env, w, R, T⟩
  | [], _ :: _, _, _, _, _, _, _, w => w.elim
  | _ :: _, [], _, _, _, _, _, _, w => w.elim
  | i :: is, d :: ds, x :: xs, σ, env, R, T, .cons r rr, w => by
    obtain ⟨q, R2, T2⟩ := wr_ok R T (v := x) (r := .sh d) r rfl w
    refine ⟨x, xs, rfl, gNames_mono (fun σ' H' ⟨h1, h2, h3⟩ => ⟨h1, fun vs hv => ?_, h3⟩) (gs_ok R2 T2 rr q)⟩
    rw [h2 vs fun j hj => hv j (List.mem_cons_of_mem _ hj)]
    exact wipe_set (hv i (List.mem_cons_self ..))
theorem wrs_len : ∀ {is : List Nat} {rs : List Sl} {env : Ev}, wrs env is rs Q → is.length = rs.length
  | [], [], _, _ => rfl
  | [], _ :: _, _, w => w.elim
  | _ :: _, [], _, w => w.elim
  | i :: is, r :: rs, env, w => by
    unfold wrs wr at w
    split at w
    · exact w.elim
    · exact w.elim
    · simp [wrs_len w]
theorem g_ok {g : G} {d : D} {v : V} (R : ER K F σ H env) (T : Tr env0 F0 σ0 H0 env F σ H) (r : Rp K F v d) (w : wpG g d env Q) : gOf K g v σ H (GK K g.sl env0 F0 σ0 H0 σ F H Q) := by
  cases g with
  | name i =>
    obtain ⟨q, R2, T2⟩ := wr_ok R T (v := v) (r := .sh d) r rfl w
    exact ⟨rfl, fun vs hv => wipe_set (hv i (List.mem_cons_self ..)), _, q, R2, T2⟩
  | tup is =>
    cases d with
    | tuple ds =>
      obtain ⟨a, xs, rfl, rd, z, c⟩ := rp_tup r
      have w : wrs env is (ds.map Sl.sh) Q := w
      exact ⟨a, xs, rfl, .inl (sqT_same R.sub rd), by rw [c.length]; have := wrs_len w; rw [List.length_map] at this; exact this.symm, gs_ok R T c w⟩
    | list ds =>
      obtain ⟨a, xs, rfl, rd, z, c⟩ := rp_list r
      have w : wrs env is (ds.map Sl.sh) Q := w
      exact ⟨a, xs, rfl, .inr (sqL_same R.sub (.inl rd)), by rw [c.length]; have := wrs_len w; rw [List.length_map] at this; exact this.symm, gs_ok R T c w⟩
    | _ => exact w.elim
/-! ### an item has come -/
theorem yield_ok {J : L2.It} {ds : List D} {i : Nat} {d : D} {x : V} {H' : Hp} (wk : Wk K J F1 ds) (R : ER K F σ H env) (T : Tr env0 F0 σ0 H0 env F σ H) (s : Sam F1 F) (e : ds[i]? = some d) (y : J.yld i H x H') :
    ∃ F', ER K F' σ H' env ∧ Tr env0 F0 σ0 H0 env F' σ H' ∧ Rp K F' x d ∧ Sam F F' := by
  rcases wk.yields i H x H' d (s.trans R.sub) e y with ⟨rfl, r⟩ | ⟨p, u, v, a, b, rfl, hp, rfl, rfl, ra, rb⟩
  · exact ⟨F, R, T, r.mono s, Sam.refl _⟩
  · obtain ⟨R2, T2, r2⟩ := R.newT (xs := [u, v]) (ds := [a, b]) hp (.cons (ra.mono s) (.cons (rb.mono s) .nil)) (by show 2 ≤ sizeLine; decide)
    exact ⟨_, R2, T.trans T2, r2, T2.fs⟩
/-! ### own names forgotten, and back -/
theorem owns_wipe {vs : List Nat} {i : Nat} {d : D} (h : Owns (wipeE env vs) i d) : i ∉ vs ∧ Owns env i d := by
  unfold Owns at h
  rw [wipeE_get] at h
  by_cases hi : i ∈ vs ∧ i < env.length
  · rw [if_pos hi] at h
    rcases h with h | h <;> cases h
  · rw [if_neg hi] at h
    refine ⟨fun z => ?_, h⟩
    have hl : i < env.length := by rcases h with h | h <;> exact lt_of_get h
    exact hi ⟨z, hl⟩
theorem wipe_out {vs : List Nat} {i : Nat} (h : i ∉ vs) : (wipe σ vs)[i]? = σ[i]? := by rw [wipe_get, if_neg fun z => h z.1]
theorem wipeE_out {vs : List Nat} {i : Nat} (h : i ∉ vs) : (wipeE env vs)[i]? = env[i]? := by rw [wipeE_get, if_neg fun z => h z.1]
theorem oa_wipe {vs : List Nat} {a : Addr} (h : OA (wipeE env vs) (wipe σ vs) a) : OA env σ a := by
  obtain ⟨i, d, ow, e⟩ := h
  obtain ⟨hi, ow⟩ := owns_wipe ow
  rw [wipe_out hi] at e
  exact ⟨i, d, ow, e⟩
theorem ER.wiped (R : ER K F σ H env) (vs : List Nat) : ER K F (wipe σ vs) H (wipeE env vs) where
  sub := R.sub
  len := by rw [wipe_length, wipeE_length]; exact R.len
  sh := fun i d h => by
    have hi : i ∉ vs := fun z => by
      rw [wipeE_get] at h
      by_cases hl : i < env.length
      · rw [if_pos ⟨z, hl⟩] at h; cases h
      · rw [if_neg fun q => hl q.2, List.getElem?_eq_none (by omega)] at h; cases h
    rw [wipeE_out hi] at h
    rw [wipe_out hi]
    exact R.sh i d h
  ob := fun i d h => by
    obtain ⟨hi, h⟩ := owns_wipe h
    rw [wipe_out hi]
    exact R.ob i d h
  inj := fun i j d d' a h h' e e' => by
    obtain ⟨hi, h⟩ := owns_wipe h
    obtain ⟨hj, h'⟩ := owns_wipe h'
    rw [wipe_out hi] at e
    rw [wipe_out hj] at e'
    exact R.inj i j d d' a h h' e e'
theorem Tr.wiped {vs : List Nat} (T : Tr (wipeE env0 vs) F0 σ0 H0 env F σ H) : Tr (wipeE env0 vs) F0 σ0 H0 (wipeE env vs) F (wipe σ vs) H where
  fs := T.fs
  keep := T.keep
  live := T.live
  newF := T.newF
  newO := fun a h => T.newO a (oa_wipe h)
  io := fun i d h => by
    have hi : i ∉ vs := (owns_wipe (.inr h)).1
    rw [wipe_out hi, wipeE_out hi]
    exact T.io i d h
/-- an object of nobody's, new since the start, is changed -/
theorem Tr.updN {p : Addr} {o : HO} (T : Tr env0 F0 σ0 H0 env F σ H) (hp : H0 p = none) : Tr env0 F0 σ0 H0 env F σ (upd H p o) where
  fs := T.fs
  keep := fun a x h n => by
    have ne : a ≠ p := ne_of_none h hp
    rw [upd_ne ne]; exact T.keep a x h n
  live := fun a h => by
    by_cases e : a = p
    · subst e; rw [upd_same] at h; cases h
    · rw [upd_ne e] at h; exact T.live a h
  newF := T.newF
  newO := T.newO
  io := T.io
theorem ER.updN {p : Addr} {o : HO} (R : ER K F σ H env) (hF : F p = none) (hO : ¬ OA env σ p) : ER K F σ (upd H p o) env where
  sub := fun b x e => by
    have ne : b ≠ p := ne_of_none e hF
    rw [upd_ne ne]; exact R.sub _ _ e
  len := R.len
  sh := R.sh
  ob := fun i d h => by
    obtain ⟨a, ho, e, h1, h2, h3⟩ := R.ob i d h
    have ne : a ≠ p := fun z => hO ⟨i, d, h, by rw [← z]; exact e⟩
    exact ⟨a, ho, e, by rw [upd_ne ne]; exact h1, h2, h3⟩
  inj := R.inj
/-- the own names stand as before -/
theorem back_ok {vs : List Nat} (R1 : ER K F1 σ H1 env1) (Rn : ER K F (wipe σ vs) H (wipeE env vs)) (Tn : Tr (wipeE env1 vs) F1 (wipe σ vs) H1 (wipeE env vs) F (wipe σ vs) H) :
    ER K F σ H (backE env1 env vs) ∧ Tr env1 F1 σ H1 (backE env1 env vs) F σ H ∧ ∀ a, OA (backE env1 env vs) σ a → OA env1 σ a ∨ OA (wipeE env vs) (wipe σ vs) a := by
  have len : env.length = env1.length := by
    have := Rn.len
    rw [wipe_length, wipeE_length, R1.len] at this
    exact this.symm
  have inn : ∀ {i : Nat}, i ∈ vs → (backE env1 env vs)[i]? = env1[i]? := fun {i} hi => by
    rw [backE_get]
    by_cases hl : i < env.length
    · rw [if_pos ⟨hi, hl⟩, List.getD_eq_getElem?_getD, List.getElem?_eq_getElem (by omega : i < env1.length)]; rfl
    · rw [if_neg fun z => hl z.2, List.getElem?_eq_none (by omega), List.getElem?_eq_none (by omega)]
  have out : ∀ {i : Nat}, i ∉ vs → (backE env1 env vs)[i]? = (wipeE env vs)[i]? := fun {i} hi => by
    rw [backE_get, if_neg fun z => hi z.1, wipeE_out hi]
  have ow : ∀ {i : Nat} {d : D}, Owns (backE env1 env vs) i d → (i ∈ vs ∧ Owns env1 i d) ∨ (i ∉ vs ∧ Owns (wipeE env vs) i d) := fun {i d} h => by
    by_cases hi : i ∈ vs
    · unfold Owns at h; rw [inn hi] at h; exact .inl ⟨hi, h⟩
    · unfold Owns at h; rw [out hi] at h; exact .inr ⟨hi, h⟩
  -- an object of an own name
  have held : ∀ {i : Nat} {d : D} {a : Addr}, i ∈ vs → Owns env1 i d → σ[i]? = some (some (.ref a)) → ¬ OA (wipeE env1 vs) (wipe σ vs) a := fun {i d a} hi h e ⟨j, d', hj, ej⟩ => by
    obtain ⟨nj, hj⟩ := owns_wipe hj
    rw [wipe_out nj] at ej
    have := R1.inj i j d d' a h hj e ej
    subst this
    exact nj hi
  have mix : ∀ {i j : Nat} {d d' : D} {a : Addr}, i ∈ vs → Owns env1 i d → σ[i]? = some (some (.ref a)) → j ∉ vs → Owns (wipeE env vs) j d' → σ[j]? = some (some (.ref a)) → False := fun {i j d d' a} hi h e hj h' e' => by
    have oa : OA (wipeE env vs) (wipe σ vs) a := ⟨j, d', h', by rw [wipe_out hj]; exact e'⟩
    rcases Tn.newO a oa with z | z
    · exact held hi h e z
    · obtain ⟨b, ho, eb, k1, _⟩ := R1.ob i d h
      rw [e] at eb; cases eb
      rw [k1] at z; cases z
  refine ⟨⟨Rn.sub, by rw [backE_length, len]; exact R1.len, fun i d h => ?_, fun i d h => ?_, fun i j d d' a h h' e e' => ?_⟩, ⟨Tn.fs, fun a o h n => Tn.keep a o h fun z => n (oa_wipe z), Tn.live, fun a h => (Tn.newF a h).imp id (Or.imp id oa_wipe), fun a h => ?_, fun i d h => ?_⟩, fun a h => ?_⟩
  · by_cases hi : i ∈ vs
    · rw [inn hi] at h
      obtain ⟨v, e, r⟩ := R1.sh i d h
      exact ⟨v, e, r.mono Tn.fs⟩
    · rw [out hi] at h
      obtain ⟨v, e, r⟩ := Rn.sh i d h
      rw [wipe_out hi] at e
      exact ⟨v, e, r⟩
  · rcases ow h with ⟨hi, h⟩ | ⟨hi, h⟩
    · obtain ⟨a, ho, e, k1, k2, k3⟩ := R1.ob i d h
      refine ⟨a, ho, e, Tn.keepN k1 (held hi h e) k2, ?_, k3.mono Tn.fs⟩
      cases q : F a with
      | none => rfl
      | some o =>
        rcases Tn.newF a (by rw [q]; simp) with z | z | z
        · exact (z k2).elim
        · rw [k1] at z; cases z
        · exact (held hi h e z).elim
    · obtain ⟨a, ho, e, k⟩ := Rn.ob i d h
      rw [wipe_out hi] at e
      exact ⟨a, ho, e, k⟩
  · rcases ow h with ⟨hi, h⟩ | ⟨hi, h⟩
    · rcases ow h' with ⟨hj, h'⟩ | ⟨hj, h'⟩
      · exact R1.inj i j d d' a h h' e e'
      · exact (mix hi h e hj h' e').elim
    · rcases ow h' with ⟨hj, h'⟩ | ⟨hj, h'⟩
      · exact (mix hj h' e' hi h e).elim
      · exact Rn.inj i j d d' a h h' (by rw [wipe_out hi]; exact e) (by rw [wipe_out hj]; exact e')
  · obtain ⟨i, d, h, e⟩ := h
    rcases ow h with ⟨hi, h⟩ | ⟨hi, h⟩
    · exact .inl ⟨i, d, h, e⟩
    · exact (Tn.newO a ⟨i, d, h, by rw [wipe_out hi]; exact e⟩).imp oa_wipe id
  · by_cases hi : i ∈ vs
    · exact ⟨rfl, d, by rw [inn hi]; exact h⟩
    · obtain ⟨_, d', h'⟩ := Tn.io i d (by rw [wipeE_out hi]; exact h)
      exact ⟨rfl, d', by rw [out hi]; exact h'⟩
  · obtain ⟨i, d, h, e⟩ := h
    rcases ow h with ⟨hi, h⟩ | ⟨hi, h⟩
    · exact .inl ⟨i, d, h, e⟩
    · exact .inr ⟨i, d, h, by rw [wipe_out hi]; exact e⟩
end
end PL
end

section
set_option Elab.async false
set_option linter.all false
set_option autoImplicit false
set_option maxRecDepth 100000
set_option maxHeartbeats 1000000
/-! PLp: comprehensions and loops. -/
namespace PL
open PySem PySem.Spec PyProof.Rows L2

section
variable {X : Cx} {tb : Tab}
def tTs (K : PySem.W.Frag) (tb : Tab) (ts : Ts) : TT := fun σ H Q => ∃ env F, ER K F σ H env ∧ wpTs tb ts env (PoT K env F σ H Q)
theorem _root_.L2.PTs.imp {X : Cx} {es : List Expr} {t t' : TT} (h : PTs X es t) (i : ∀ σ H Q, t' σ H Q → t σ H Q) : PTs X es t' := ⟨fun pins s σ H Q I q => h.run pins s σ H Q I (i _ _ _ q)⟩
theorem ts_nil : PTs X [] (tTs X.K tb .nil) := pts_nil.imp fun σ H Q ⟨env, F, R, w⟩ => w F H R (Tr.refl _ _ _ _)
theorem ts_one {c : Expr} {t : T} (h : PT X c (tT X.K tb t)) : PTs X [c] (tTs X.K tb (.one t)) := (pts_one h).imp fun σ H Q q => q
theorem iteF {p q : Prop} (h : q) : if false = true then p else q := by rw [if_neg Bool.false_ne_true]; exact h
theorem iteT {p q : Prop} (h : p) : if true = true then p else q := by rw [if_pos rfl]; exact h
/-- the comprehension's meaning -/
theorem lc_imp {K : PySem.W.Frag} {own : List Nat} {it : It} {g : G} {ts : Ts} {e : P} (hg : ∀ i ∈ g.sl, i ∈ own) {σ : L2.St} {H0 : Hp} {Q : VK} (q : tE K tb (.lc own it g ts e) σ H0 Q) :
    tLc (tI K tb it) (gOf K g) (tTs K tb ts) (tE K tb e) own σ H0 Q := by
  obtain ⟨env0, F0, R0, w⟩ := q
  refine ⟨env0, F0, R0, wpI_mono it (fun ds env1 w J F1 H1 R1 T1 wk p hp => ?_) w⟩
  obtain ⟨hlim, w⟩ := w
  -- the state at a turn
  let Pv : Nat → Hp → Prop := fun i H => ∃ env F acc accv, ER K F (wipe σ own) H (wipeE env own) ∧ Tr (wipeE env1 own) F1 (wipe σ own) H1 (wipeE env own) F (wipe σ own) H ∧ H p = some (.lst accv) ∧ F p = none ∧ ¬ OA (wipeE env own) (wipe σ own) p ∧
    RpAll K F accv acc ∧ acc.length ≤ i ∧ loopC (wpG g) (fun v R => wpTs tb ts v R) (fun v R => wpE tb e v R) own (ds.drop i) env acc (fun acc env2 => PoE K env0 F0 σ H0 Q (.ow (.list acc)) (backE env1 env2 own))
  have hW : ∀ i H, i ≤ ds.length → Pv i H → (J.stop i H ∧ Q (.ref p) H ∧ i = ds.length) ∨ (i < ds.length ∧ J.go i H ∧ ∀ x H', J.yld i H x H' → gOf K g x (wipe σ own) H' fun σ2 H2 => wipe σ2 own = wipe σ own ∧ tTs K tb ts σ2 H2 fun b H3 =>
      if b = true then tE K tb e σ2 H3 fun y H4 => ∃ acc, H4 p = some (.lst acc) ∧ acc.length < sizeLine ∧ Pv (i + 1) (upd H4 p (.lst (acc ++ [y]))) else Pv (i + 1) H3) := by
    rintro i H hi ⟨env, F, acc, accv, R, T, e1, e2, e3, ra, hl, w⟩
    by_cases hlt : i < ds.length
    · refine .inr ⟨hlt, wk.goes i H (T.fs.trans R.sub) hlt, fun x H' y => ?_⟩
      have ed : ds[i]? = some ds[i] := List.getElem?_eq_getElem hlt
      rw [List.drop_eq_getElem_cons hlt] at w
      obtain ⟨F', R', T', rx, sF⟩ := yield_ok wk R (Tr.refl _ _ _ _) T.fs ed y
      have w : wpG g ds[i] (wipeE env own) _ := w
      refine gOf_mono (fun σ2 H2 hk => ?_) (g_ok R' (Tr.refl _ _ _ _) rx w)
      obtain ⟨rfl, hw2, env2, w, R2, T2⟩ := hk
      have hw3 : wipe σ2 own = wipe σ own := by
        rw [hw2 own hg]
        apply List.ext_getElem?
        intro j
        rw [wipe_get, wipe_length, wipe_get]
        by_cases h : j ∈ own ∧ j < σ.length
        · rw [if_pos h, if_pos h]
        · rw [if_neg h]
      refine ⟨hw3, env2, F', R2, wpTs_mono ts (fun c env3 w F3 H3 R3 T3 => ?_) w⟩
      have T23 := (T'.trans T2).trans T3
      -- what holds of the new list still
      have kp : ∀ {env' : Ev} {F' H' : Hp} {σ' : L2.St}, Tr (wipeE env own) F (wipe σ own) H env' F' σ' H' → H' p = some (.lst accv) ∧ F' p = none ∧ ¬ OA env' σ' p := fun {env' F' H' σ'} t => by
        refine ⟨(by obtain ⟨w, h, u⟩ := t.keepU e1 e3; rw [h, u.lst]), ?_, fun z => ?_⟩
        · cases q : F' p with
          | none => rfl
          | some o =>
            rcases t.newF p (by rw [q]; simp) with z | z | z
            · exact (z e2).elim
            · rw [e1] at z; cases z
            · exact (e3 z).elim
        · rcases t.newO p z with z | z
          · exact e3 z
          · rw [e1] at z; cases z
      cases c with
      | false =>
        refine iteF ?_
        obtain ⟨k1, k2, k3⟩ := kp T23
        refine ⟨env3, F3, acc, accv, ?_, ?_, k1, k2, fun z => k3 (oa_wipe (σ := σ2) (by rw [hw3]; exact z)), RpAll.mono T23.fs ra, by omega, w⟩
        · rw [← hw3]; exact R3.wiped own
        · rw [← hw3]
          have := (T.trans T23).wiped
          rw [← hw3] at this
          exact this
      | true =>
        refine iteT ?_
        refine ⟨env3, F3, R3, wpE_mono e (fun r env4 w y F4 H4 R4 T4 r4 => ?_) w⟩
        obtain ⟨F5, R5, T5, r5, _⟩ := fz R4 T4 r4
        obtain ⟨k1, k2, k3⟩ := kp (T23.trans T5)
        have hll := ra.length
        refine ⟨accv, k1, by rw [← LIM_eq]; omega, env4, F5, acc ++ [r.d], accv ++ [y], ?_, ?_, upd_same, k2, fun z => k3 (oa_wipe (σ := σ2) (by rw [hw3]; exact z)), (RpAll.mono (T23.trans T5).fs ra).append (.cons r5 .nil), by simp; omega, w⟩
        · rw [← hw3]; exact (R5.updN k2 k3).wiped own
        · have := ((T.trans (T23.trans T5)).updN (o := .lst (accv ++ [y])) hp).wiped
          rw [hw3] at this
          exact this
    · have e : i = ds.length := by omega
      subst e
      refine .inl ⟨wk.stops H (T.fs.trans R.sub), ?_, rfl⟩
      rw [List.drop_length] at w
      obtain ⟨Rb, Tb, hO⟩ := back_ok R1 R T
      have hll := ra.length
      exact w (.ref p) F H Rb (T1.trans Tb) ⟨p, .lst accv, rfl, e1, e2, fun z => (hO p z).elim (fun q => R1.notOA hp q) e3, .inl (T1.live p hp), ⟨by rw [← LIM_eq]; omega, ra⟩⟩
  have hF1 : F1 p = none := R1.sub.free hp
  refine ⟨fun i m H => m = ds.length - i ∧ i ≤ ds.length ∧ Pv i H, ⟨ds.length, rfl, Nat.zero_le _, env1, F1, [], [], (R1.updN hF1 (R1.notOA hp)).wiped own, (Tr.refl _ _ _ _).updN hp, upd_same, hF1, fun z => R1.notOA hp (oa_wipe z), .nil, Nat.le_refl _, w⟩, ?_⟩
  rintro i m H ⟨rfl, hi, pv⟩
  rcases hW i H hi pv with ⟨h1, h2, _⟩ | ⟨hlt, h1, h2⟩
  · exact .inl ⟨h1, h2⟩
  · exact .inr ⟨h1, Pv (i + 1), fun H' p' => ⟨ds.length - (i + 1), by omega, rfl, hlt, p'⟩, h2⟩
theorem e_lc {own : List (Str × Nat)} {it : It} {g : G} {ts : Ts} {e : P} {elt tg iter : Expr} {ifs : List Expr} {scope : Scope} {pos : Pos} (hc : X.calm = true) (hN : X.N.Nodup) (hi : PI X tg iter (tI X.K tb it)) (ok : BlkOk X.N X.env.scope scope own) (hgo : ∀ i ∈ g.sl, i ∈ own.map (·.2))
    (hg : ∀ (s : Shared) (H : Hp) (C : Addr) (cl : List (Str × Addr)) (fp : List Addr), PG (X.blk s H scope (compEnvC scope cl C X.env) fp) tg (gOf X.K g)) (ht : ∀ (s : Shared) (H : Hp) (C : Addr) (cl : List (Str × Addr)) (fp : List Addr), PTs (X.blk s H scope (compEnvC scope cl C X.env) fp) ifs (tTs X.K tb ts))
    (he : ∀ (s : Shared) (H : Hp) (C : Addr) (cl : List (Str × Addr)) (fp : List Addr), PE (X.blk s H scope (compEnvC scope cl C X.env) fp) elt (tE X.K tb e)) (hs : ∀ x, foldedSetIterable iter X.env x = pure x) :
    PE X (.ListComp elt [⟨tg, iter, ifs, 0⟩] scope pos) (tE X.K tb (.lc (own.map (·.2)) it g ts e)) :=
  (pe_lc hc hN hi ok hg ht he hs).imp fun σ H Q q => lc_imp hgo q
end
end PL
end

section
set_option Elab.async false
set_option linter.all false
set_option autoImplicit false
set_option maxRecDepth 100000
set_option maxHeartbeats 1000000
/-! PLq: statements. -/
namespace PL
open PySem PySem.Spec PyProof.Rows L2

def PoS (K : PySem.W.Frag) (D : Ends) (env : Ev) (F : Hp) (σ : L2.St) (H : Hp) : Out → Prop
  | .nx e => ∀ F' σ' H', ER K F' σ' H' e → Tr env F σ H e F' σ' H' → D.nx σ' H'
  | .bk e => ∀ F' σ' H', ER K F' σ' H' e → Tr env F σ H e F' σ' H' → D.bk σ' H'
  | .ct e => ∀ F' σ' H', ER K F' σ' H' e → Tr env F σ H e F' σ' H' → D.ct σ' H'
  | .rt r e => ∀ v F' σ' H', ER K F' σ' H' e → Tr env F σ H e F' σ' H' → RR K F' H' e σ' (NwOf env σ H) v r → D.rt v H'
def tS (K : PySem.W.Frag) (tb : Tab) (s : S) : TS := fun D σ H => ∃ env F, ER K F σ H env ∧ wpS tb s env (PoS K D env F σ H)
theorem _root_.L2.PS.imp {X : Cx} {s : Stmt} {t t' : TS} (h : PS X s t) (i : ∀ D σ H, t' D σ H → t D σ H) : PS X s t' := ⟨fun pins s σ H D I q => h.run pins s σ H D I (i _ _ _ q)⟩
theorem _root_.L2.PSs.imp {X : Cx} {s : List Stmt} {t t' : TS} (h : PSs X s t) (i : ∀ D σ H, t' D σ H → t D σ H) : PSs X s t' := ⟨fun pins s σ H D I q => h.run pins s σ H D I (i _ _ _ q)⟩
section
variable {K : PySem.W.Frag} {tb : Tab} {F F0 F1 H H0 H1 : Hp} {σ σ0 σ1 : L2.St} {env env0 env1 : Ev} {D : Ends}
theorem PoS.on {o : Out} (w : PoS K D env0 F0 σ0 H0 o) (t : Tr env0 F0 σ0 H0 env1 F1 σ1 H1) : PoS K D env1 F1 σ1 H1 o := by
  cases o with
  | nx e => exact fun F' σ' H' R T => w F' σ' H' R (t.trans T)
  | bk e => exact fun F' σ' H' R T => w F' σ' H' R (t.trans T)
  | ct e => exact fun F' σ' H' R T => w F' σ' H' R (t.trans T)
  | rt r e => exact fun v F' σ' H' R T rr => w v F' σ' H' R (t.trans T) (rr.early fun a h => NwOf.trans t h)
theorem seq_imp {a b : S} (q : tS K tb (.seq a b) D σ H) : tSeq (tS K tb a) (tS K tb b) D σ H := by
  obtain ⟨env, F, R, w⟩ := q
  refine ⟨env, F, R, wpS_mono a (fun o w => ?_) w⟩
  cases o with
  | nx e => exact fun F' σ' H' R' T => ⟨e, F', R', wpS_mono b (fun o w => w.on T) w⟩
  | bk e => exact w
  | ct e => exact w
  | rt r e => exact w
theorem set_imp {i : Nat} {e : P} (q : tS K tb (.set i e) D σ H) : tAsg (tE K tb e) (gName i) D σ H := by
  obtain ⟨env, F, R, w⟩ := q
  refine s1 R w fun x e1 v F1 H1 R1 T1 r1 g => ?_
  obtain ⟨F2, R2, T2, r2, est, _⟩ := stz R1 T1 r1
  obtain ⟨q, R3, T3⟩ := wr_ok R2 T2 r2 est g
  exact q F2 _ H1 R3 T3
theorem setF_imp {i : Nat} {e : P} (q : tS K tb (.setF i e) D σ H) : tAsg (tE K tb e) (gName i) D σ H := by
  obtain ⟨env, F, R, w⟩ := q
  refine s1f R w fun x e1 v F1 H1 R1 T1 r1 g => ?_
  obtain ⟨q, R3, T3⟩ := wr_ok R1 T1 (v := v) (r := .sh x.d) r1 rfl g
  exact q F1 _ H1 R3 T3
/-! ### several stores -/
def setAll (σ : L2.St) : List Nat → List V → L2.St
  | i :: is, v :: vs => setAll (σ.set i (some v)) is vs
  | _, _ => σ
theorem rr_set {Nw : Addr → Prop} {v v' : V} {r r' : Sl} {i : Nat} (h : RR K F H env σ Nw v' r') (hs' : r'.st = r') (hs : r.st = r) (hr : RR K F H env σ Nw v r) (hd : ∀ a d, r = .ow d → v = .ref a → ∀ d', r' = .ow d' → v' ≠ .ref a) (hi : i < env.length) (hl : σ.length = env.length) :
    RR K F H (env.set i r) (σ.set i (some v)) Nw v' r' := by
  cases r' with
  | un => exact h.elim
  | io d => exact h.elim
  | tp x d => cases hs'
  | sh d => exact h
  | ow d' =>
    obtain ⟨a, ho, rfl, h1, h2, h3, h4, h5⟩ := h
    refine ⟨a, ho, rfl, h1, h2, fun q => ?_, h4, h5⟩
    obtain ⟨j, d, ow, e⟩ := q
    rcases owns_set ow with ⟨rfl, z⟩ | ⟨ne, ow⟩
    · rw [List.getElem?_set_self (by rw [hl]; exact hi)] at e
      have e := Option.some.inj (Option.some.inj e)
      rcases z with z | z
      · exact hd a d z e d' rfl rfl
      · subst z; exact hr.elim
    · rw [List.getElem?_set_ne (Ne.symm ne)] at e
      exact h3 ⟨j, d, ow, e⟩
theorem wr_lt {i : Nat} {r : Sl} {Q : Ev → Prop} (w : wr env i r Q) : i < env.length := by
  unfold wr at w
  split at w
  · exact w.elim
  · exact w.elim
  · rename_i e; exact lt_of_get e
theorem rrs_set {Nw : Addr → Prop} {v : V} {r : Sl} {i : Nat} (hs : r.st = r) (hr : RR K F H env σ Nw v r) (hi : i < env.length) (hl : σ.length = env.length) : ∀ {vs : List V} {rs : List Sl}, RRs K F H env σ Nw vs rs →
    (∀ a d, r = .ow d → v = .ref a → ∀ (j : Nat) (d' : PyData), rs[j]? = some (Sl.ow d') → vs[j]? ≠ some (V.ref a)) → RRs K F H (env.set i r) (σ.set i (some v)) Nw vs rs
  | [], [], _, _ => trivial
  | v' :: vs, r' :: rs, h, hd => ⟨rr_set h.1 h.2.1 hs hr (fun a d e1 e2 d' e3 e4 => hd a d e1 e2 0 d' (by simp [e3]) (by simp [e4])) hi hl, h.2.1, rrs_set hs hr hi hl h.2.2.1 (fun a d e1 e2 j d' e3 => by simpa using hd a d e1 e2 (j + 1) d' (by simpa using e3)), h.2.2.2⟩
  | [], _ :: _, h, _ => h.elim
  | _ :: _, [], h, _ => h.elim
theorem wrs_ok {Q : Ev → Prop} : ∀ {is : List Nat} {rs : List Sl} {vs : List V} {σ : L2.St} {env : Ev}, ER K F σ H env → Tr env0 F0 σ0 H0 env F σ H → RRs K F H env σ (NwOf env0 σ0 H0) vs rs → wrs env is rs Q →
    ∃ env', Q env' ∧ ER K F (setAll σ is vs) H env' ∧ Tr env0 F0 σ0 H0 env' F (setAll σ is vs) H
  | [], [], [], σ, env, R, T, _, w => ⟨env, w, R, T⟩
  | [], _ :: _, _, _, _, _, _, _, w => w.elim
  | _ :: _, [], _, _, _, _, _, _, w => w.elim
  | _ :: _, _ :: _, [], _, _, _, _, h, _ => h.elim
  | i :: is, r :: rs, v :: vs, σ, env, R, T, h, w => by
    have hi := wr_lt w
    obtain ⟨q, R2, T2⟩ := wr_ok R T h.1 h.2.1 w
    exact wrs_ok (σ := σ.set i (some v)) R2 T2 (rrs_set h.2.1 h.1 hi R.len h.2.2.1 h.2.2.2) q
  | [], [], _ :: _, _, _, _, _, h, _ => h.elim
theorem gNames_all {Q : L2.St → Hp → Prop} : ∀ {is : List Nat} {vs : List V} {σ : L2.St}, is.length = vs.length → Q (setAll σ is vs) H → gNames is vs σ H Q
  | [], [], _, _, q => ⟨rfl, q⟩
  | i :: is, v :: vs, σ, h, q => ⟨v, vs, rfl, gNames_all (by simpa using h) q⟩
  | [], _ :: _, _, h, _ => by simp at h
  | _ :: _, [], _, h, _ => by simp at h
theorem RRs.mono {Nw : Addr → Prop} (t : Tr env F σ H env1 F1 σ1 H1) : ∀ {vs : List V} {rs : List Sl}, RRs K F H env σ Nw vs rs → RRs K F1 H1 env1 σ1 Nw vs rs
  | [], [], _ => trivial
  | _ :: _, _ :: _, h => ⟨h.1.mono t, h.2.1, RRs.mono t h.2.2.1, h.2.2.2⟩
  | [], _ :: _, h => h.elim
  | _ :: _, [], h => h.elim
/-- a, b = x, y (stores from the right) -/
theorem par2_imp {i j : Nat} {as : As} (q : tS K tb (.par [i, j] as) D σ H) : tPar i j (tA K tb as) D σ H := by
  obtain ⟨env, F, R, w⟩ := q
  refine ⟨env, F, R, wpA_mono as (fun rs e1 w vs F1 H1 R1 T1 rr => ?_) w⟩
  have hl := rr.length
  have hw := wrs_len w
  obtain ⟨env', q, R2, T2⟩ := wrs_ok R1 T1 rr w
  match vs, hl with
  | [v, u], _ => exact ⟨v, u, rfl, q F1 _ H1 R2 T2⟩
  | [], h => rw [← hw] at h; simp at h
  | [_], h => rw [← hw] at h; simp at h
  | _ :: _ :: _ :: _, h => rw [← hw] at h; simp at h
theorem par3_imp {i j l : Nat} {as : As} (q : tS K tb (.par [i, j, l] as) D σ H) : tPar3 i j l (tA K tb as) D σ H := by
  obtain ⟨env, F, R, w⟩ := q
  refine ⟨env, F, R, wpA_mono as (fun rs e1 w vs F1 H1 R1 T1 rr => ?_) w⟩
  have hl := rr.length
  have hw := wrs_len w
  obtain ⟨env', q, R2, T2⟩ := wrs_ok R1 T1 rr w
  match vs, hl with
  | [v, u, z], _ => exact ⟨v, u, z, rfl, q F1 _ H1 R2 T2⟩
  | [], h => rw [← hw] at h; simp at h
  | [_], h => rw [← hw] at h; simp at h
  | [_, _], h => rw [← hw] at h; simp at h
  | _ :: _ :: _ :: _ :: _, h => rw [← hw] at h; simp at h
/-- .. by a tuple -/
theorem parG_imp {is : List Nat} {as : As} (hn : is.length ≤ 1000) (q : tS K tb (.par is as) D σ H) : tAsg (fun σ H Q => tA K tb as σ H fun vs H1 => vs.length ≤ sizeLine ∧ ∀ t, H1 t = none → Q (.ref t) (upd H1 t (.tup vs))) (gSeq K is.length (gNames is)) D σ H := by
  obtain ⟨env, F, R, w⟩ := q
  refine ⟨env, F, R, wpA_mono as (fun rs e1 w vs F1 H1 R1 T1 rr => ?_) w⟩
  have hl := rr.length
  have hw := wrs_len w
  refine ⟨by rw [sizeLine_eq]; omega, fun t ht => ?_⟩
  have hF := R1.sub.free ht
  have T1' := T1.trans ((Tr.refl e1 F1 σ H1).updN (o := .tup vs) ht)
  obtain ⟨env', q, R2, T2⟩ := wrs_ok (R1.updN (o := .tup vs) hF (R1.notOA ht)) T1' (RRs.mono ((Tr.refl e1 F1 σ H1).updN (o := .tup vs) ht) rr) w
  exact ⟨t, vs, rfl, .inl (.inl (.inl upd_same)), by omega, gNames_all (by omega) (q F1 _ _ R2 T2)⟩
theorem unp_imp {is : List Nat} {e : P} (q : tS K tb (.unp is e) D σ H) : tAsg (tE K tb e) (gSeq K is.length (gNames is)) D σ H := by
  obtain ⟨env, F, R, w⟩ := q
  refine s1 R w fun x e1 v F1 H1 R1 T1 r1 g => ?_
  have key : wpG (.tup is) x.d e1 (fun env2 => PoS K D env F σ H (.nx env2)) → gSeq K is.length (gNames is) v σ H1 D.nx := fun g => by
    obtain ⟨F2, R2, T2, r2, _⟩ := fz R1 T1 r1
    refine gOf_mono (g := .tup is) (fun σ2 H2 hk => ?_) (g_ok (g := .tup is) R2 T2 r2 g)
    obtain ⟨rfl, _, env2, q, R3, T3⟩ := hk
    exact q F2 σ2 H2 R3 T3
  cases x with
  | un => exact r1.elim
  | io d => exact r1.elim
  | sh d => exact key g
  | ow d => exact key g
  | tp x d =>
    have g : wrs e1 is [.sh x, .ow d] _ := g
    obtain ⟨a, v0, v1, rfl, g1, g2, g3, g4, g5⟩ := r1
    have hw := wrs_len g
    obtain ⟨env', q, R2, T2⟩ := wrs_ok (vs := [v0, v1]) (rs := [.sh x, .ow d]) R1 T1 ⟨g4, rfl, ⟨g5, rfl, trivial, fun a d _ _ j d' h => by simp at h⟩, fun a d h => by cases h⟩ g
    have hl2 : is.length = 2 := hw
    exact ⟨a, [v0, v1], rfl, .inl (.inl (.inl g1)), by rw [hl2]; rfl, gNames_all (by rw [hl2]; rfl) (q F1 _ H1 R2 T2)⟩
theorem ite_imp {t : T} {a b : S} (q : tS K tb (.ite t a b) D σ H) : tIfS (tT K tb t) (tS K tb a) (tS K tb b) D σ H := by
  obtain ⟨env, F, R, w⟩ := q
  exact st1 R w fun c e1 F1 H1 R1 T1 g => by
    cases c with
    | true => rw [if_pos rfl]; exact ⟨e1, F1, R1, wpS_mono a (fun o w => w.on T1) g⟩
    | false => rw [if_neg Bool.false_ne_true]; exact ⟨e1, F1, R1, wpS_mono b (fun o w => w.on T1) g⟩
theorem ret_imp {e : P} (q : tS K tb (.ret e) D σ H) : tRet (tE K tb e) D σ H := by
  obtain ⟨env, F, R, w⟩ := q
  exact s1 R w fun x e1 v F1 H1 R1 T1 r1 g => g v F1 σ H1 R1 T1 r1
theorem retN_imp (q : tS K tb (.ret .non) D σ H) : tRetN D σ H := by
  obtain ⟨env, F, R, w⟩ := q
  exact w .non F σ H R (Tr.refl _ _ _ _) .non
theorem expr_imp {e : P} (q : tS K tb (.expr e) D σ H) : tDrop (tE K tb e) D σ H := by
  obtain ⟨env, F, R, w⟩ := q
  exact s1 R w fun x e1 v F1 H1 R1 T1 r1 g => g F1 σ H1 R1 T1
theorem skip_imp (q : tS K tb .skip D σ H) : tNext D σ H := by
  obtain ⟨env, F, R, w⟩ := q
  exact w F σ H R (Tr.refl _ _ _ _)
theorem brk_imp (q : tS K tb .brk D σ H) : tBreak D σ H := by
  obtain ⟨env, F, R, w⟩ := q
  exact w F σ H R (Tr.refl _ _ _ _)
theorem cnt_imp (q : tS K tb .cnt D σ H) : tCont D σ H := by
  obtain ⟨env, F, R, w⟩ := q
  exact w F σ H R (Tr.refl _ _ _ _)
theorem never_imp (q : tS K tb .never D σ H) : tNever D σ H := by
  obtain ⟨env, F, R, w⟩ := q
  exact w
/-! ### loops -/
theorem whl_imp {t : T} {b : S} (q : tS K tb (.whl t b) D σ H) : tWhile (tT K tb t) (tS K tb b) D σ H := by
  obtain ⟨env0, F0, R0, n0, w0⟩ := q
  refine ⟨fun m σ1 H1 => ∃ env F, ER K F σ1 H1 env ∧ Tr env0 F0 σ H env F σ1 H1 ∧ loopW (fun v R => wpT tb t v R) (fun v R => wpS tb b v R) m env (PoS K D env0 F0 σ H), ⟨n0, env0, F0, R0, Tr.refl _ _ _ _, w0⟩, ?_⟩
  rintro m σ1 H1 ⟨env, F, R, T0, w⟩
  cases m with
  | zero => exact w.elim
  | succ m =>
    have w : wpT tb t env _ := w
    refine st1 R w fun c e1 F1 H2 R1 T1 g => ?_
    cases c with
    | false => exact iteF (g F1 σ1 H2 R1 (T0.trans T1))
    | true =>
      refine iteT ⟨fun σ' H' => ∃ env F, ER K F σ' H' env ∧ Tr env0 F0 σ H env F σ' H' ∧ loopW (fun v R => wpT tb t v R) (fun v R => wpS tb b v R) m env (PoS K D env0 F0 σ H), fun σ' H' h => ⟨m, Nat.lt_succ_self m, h⟩, e1, F1, R1, wpS_mono b (fun o w => ?_) g⟩
      have T01 := T0.trans T1
      cases o with
      | nx e => exact fun F' σ' H' R' T' => ⟨e, F', R', T01.trans T', w⟩
      | ct e => exact fun F' σ' H' R' T' => ⟨e, F', R', T01.trans T', w⟩
      | bk e => exact fun F' σ' H' R' T' => w F' σ' H' R' (T01.trans T')
      | rt r e => exact fun v F' σ' H' R' T' rr => w v F' σ' H' R' (T01.trans T') (rr.early fun a h => NwOf.trans T01 h)
theorem for_imp {g : G} {it : It} {b : S} (q : tS K tb (.for_ g it b) D σ H) : tFor (tI K tb it) (gOf K g) (tS K tb b) D σ H := by
  obtain ⟨env0, F0, R0, w0⟩ := q
  refine ⟨env0, F0, R0, wpI_mono it (fun ds env1 w J F1 H1 R1 T1 wk => ?_) w0⟩
  let Pv : Nat → L2.St → Hp → Prop := fun i σ1 H1 => ∃ env F, ER K F σ1 H1 env ∧ Tr env0 F0 σ H env F σ1 H1 ∧ Sam F1 F ∧ loopF (wpG g) (fun v R => wpS tb b v R) (ds.drop i) env (PoS K D env0 F0 σ H)
  refine ⟨fun i m σ H => m = ds.length - i ∧ i ≤ ds.length ∧ Pv i σ H, ⟨ds.length, rfl, Nat.zero_le _, env1, F1, R1, T1, Sam.refl _, w⟩, ?_⟩
  rintro i m σ1 H2 ⟨rfl, hi, env, F, R, T, sF, w⟩
  by_cases hlt : i < ds.length
  · refine .inr ⟨wk.goes i H2 (sF.trans R.sub) hlt, Pv (i + 1), fun σ' H' p' => ⟨ds.length - (i + 1), by omega, rfl, hlt, p'⟩, fun x H' y => ?_⟩
    have ed : ds[i]? = some ds[i] := List.getElem?_eq_getElem hlt
    rw [List.drop_eq_getElem_cons hlt] at w
    obtain ⟨F', R', T', rx, sF'⟩ := yield_ok wk R T sF ed y
    have w : wpG g ds[i] env _ := w
    refine gOf_mono (fun σ2 H3 hk => ?_) (g_ok R' T' rx w)
    obtain ⟨rfl, _, env2, w, R2, T2⟩ := hk
    refine ⟨env2, F', R2, wpS_mono b (fun o w => ?_) w⟩
    cases o with
    | nx e => exact fun F3 σ3 H4 R3 T3 => ⟨e, F3, R3, T2.trans T3, (sF.trans sF').trans T3.fs, w⟩
    | ct e => exact fun F3 σ3 H4 R3 T3 => ⟨e, F3, R3, T2.trans T3, (sF.trans sF').trans T3.fs, w⟩
    | bk e => exact fun F' σ' H' R' T' => w F' σ' H' R' (T2.trans T')
    | rt r e => exact fun v F' σ' H' R' T' rr => w v F' σ' H' R' (T2.trans T') (rr.early fun a h => NwOf.trans T2 h)
  · have e : i = ds.length := by omega
    subst e
    rw [List.drop_length] at w
    exact .inl ⟨wk.stops H2 (sF.trans R.sub), w F σ1 H2 R T⟩
end
end PL
end

section
set_option Elab.async false
set_option linter.all false
set_option autoImplicit false
set_option maxRecDepth 100000
set_option maxHeartbeats 1000000
/-! PLr: statements that change owned lists. -/
namespace PL
open PySem PySem.Spec PyProof.Rows L2

section
variable {K : PySem.W.Frag} {tb : Tab} {F F0 F1 H H0 H1 : Hp} {σ σ0 σ1 : L2.St} {env env0 env1 : Ev} {D : Ends} {i : Nat}
theorem ownL_ok (R : ER K F σ H env) (h : ownL env i) : ∃ a xs ds, σ[i]? = some (some (.ref a)) ∧ H a = some (.lst xs) ∧ Owns env i (.list ds) ∧ xs.length ≤ sizeLine ∧ RpAll K F xs ds := by
  have key : ∀ ds, Owns env i (.list ds) → ∃ a xs ds, σ[i]? = some (some (.ref a)) ∧ H a = some (.lst xs) ∧ Owns env i (.list ds) ∧ xs.length ≤ sizeLine ∧ RpAll K F xs ds := fun ds ow => by
    obtain ⟨a, ho, e, h1, h2, h3⟩ := R.ob i _ ow
    cases ho with
    | lst xs => exact ⟨a, xs, ds, e, h1, ow, h3.1, h3.2⟩
    | _ => exact h3.elim
  unfold ownL at h
  split at h
  · rename_i ds e; exact key ds (.inl e)
  · rename_i ds e; exact key ds (.inr e)
  · exact h.elim
/-- the object of slot i is a list that is changed -/
theorem md_ok {f : PyData → (PyData → Prop) → Prop} {Q : Ev → Prop} (R : ER K F σ H env) (h : md env i f Q) (hf : ∀ d R, f d R → ∃ ds, d = .list ds) :
    ∃ a xs ds, σ[i]? = some (some (.ref a)) ∧ H a = some (.lst xs) ∧ xs.length ≤ sizeLine ∧ RpAll K F xs ds ∧
      ∃ mk : PyData → Sl, f (.list ds) (fun d' => Q (env.set i (mk d'))) ∧ ∀ d' xs', xs'.length ≤ sizeLine → RpAll K F xs' d' → ER K F σ (upd H a (.lst xs')) (env.set i (mk (.list d'))) ∧ Tr env F σ H (env.set i (mk (.list d'))) F σ (upd H a (.lst xs')) := by
  unfold md at h
  split at h
  · rename_i d e
    obtain ⟨ds, rfl⟩ := hf _ _ h
    obtain ⟨a, ho, ea, h1, h2, h3⟩ := R.ob i _ (.inl e)
    cases ho with
    | lst xs => exact ⟨a, xs, ds, ea, h1, h3.1, h3.2, .ow, h, fun d' xs' z c => upd_ok R ea _ (.inl ⟨e, rfl⟩) ⟨z, c⟩⟩
    | _ => exact h3.elim
  · rename_i d e
    obtain ⟨ds, rfl⟩ := hf _ _ h
    obtain ⟨a, ho, ea, h1, h2, h3⟩ := R.ob i _ (.inr e)
    cases ho with
    | lst xs => exact ⟨a, xs, ds, ea, h1, h3.1, h3.2, .io, h, fun d' xs' z c => upd_ok R ea _ (.inr ⟨e, rfl⟩) ⟨z, c⟩⟩
    | _ => exact h3.elim
  · exact h.elim
theorem appS_list {y d : PyData} {R : PyData → Prop} (h : appS y d R) : ∃ ds, d = .list ds := by
  cases d <;> first | exact ⟨_, rfl⟩ | exact h.elim
theorem extS_list {y d : PyData} {R : PyData → Prop} (h : extS y d R) : ∃ ds, d = .list ds := by
  unfold extS at h
  split at h
  · exact ⟨_, rfl⟩
  · exact h.elim
/-- .. a dict that is changed -/
theorem ownD_ok (R : ER K F σ H env) (h : ownD env i) : ∃ a kvs es, σ[i]? = some (some (.ref a)) ∧ H a = some (.dK kvs) ∧ Owns env i (.dict es) ∧ kvs.length ≤ sizeLine ∧ RpDk K F kvs es := by
  have key : ∀ es, Owns env i (.dict es) → ∃ a kvs es, σ[i]? = some (some (.ref a)) ∧ H a = some (.dK kvs) ∧ Owns env i (.dict es) ∧ kvs.length ≤ sizeLine ∧ RpDk K F kvs es := fun es ow => by
    obtain ⟨a, ho, e, h1, h2, h3⟩ := R.ob i _ ow
    cases ho with
    | dK kvs => exact ⟨a, kvs, es, e, h1, ow, h3.1, h3.2⟩
    | _ => exact h3.elim
  unfold ownD at h
  split at h
  · rename_i ds e; exact key ds (.inl e)
  · rename_i ds e; exact key ds (.inr e)
  · exact h.elim
/-- the slot's object, a list or a dict, is changed -/
theorem md_any {f : PyData → (PyData → Prop) → Prop} {Q : Ev → Prop} (R : ER K F σ H env) (h : md env i f Q) :
    ∃ a ho d, σ[i]? = some (some (.ref a)) ∧ H a = some ho ∧ RpO K F ho d ∧ ∃ mk : PyData → Sl, f d (fun d' => Q (env.set i (mk d'))) ∧ ∀ d' ho', RpO K F ho' d' → ER K F σ (upd H a ho') (env.set i (mk d')) ∧ Tr env F σ H (env.set i (mk d')) F σ (upd H a ho') := by
  unfold md at h
  split at h
  · rename_i d e
    obtain ⟨a, ho, ea, h1, h2, h3⟩ := R.ob i _ (.inl e)
    exact ⟨a, ho, d, ea, h1, h3, .ow, h, fun d' ho' c => upd_ok R ea _ (.inl ⟨e, rfl⟩) c⟩
  · rename_i d e
    obtain ⟨a, ho, ea, h1, h2, h3⟩ := R.ob i _ (.inr e)
    exact ⟨a, ho, d, ea, h1, h3, .io, h, fun d' ho' c => upd_ok R ea _ (.inr ⟨e, rfl⟩) c⟩
  · exact h.elim
theorem md_notF {f : PyData → (PyData → Prop) → Prop} {Q : Ev → Prop} {a : Addr} (R : ER K F σ H env) (ea : σ[i]? = some (some (.ref a))) (h : md env i f Q) : F a = none := by
  have key : ∀ d, Owns env i d → F a = none := fun d ow => by
    obtain ⟨b, ho, eb, _, h2, _⟩ := R.ob i d ow
    rw [ea] at eb; cases eb
    exact h2
  unfold md at h
  split at h
  · rename_i d e; exact key d (.inl e)
  · rename_i d e; exact key d (.inr e)
  · exact h.elim
def rSetD : V → V → V → Hp → (Hp → Prop) → Prop := fun o i v H Q => ∃ a H', o = .ref a ∧ DPut H a i v H' ∧ Q H'
theorem set_dict {X : Cx} (hu : X.A.units + 65 < cLine) : PSet X rSetD := by
  intro pins s σ H o i v ov iv u Q I ro ri rv h
  obtain ⟨a, H', rfl, g, q⟩ := h
  obtain rfl : ov = Value.ref a := ro
  exact d_setItem (by omega) I g ri rv fun s' I' => ⟨H', I', q⟩
def rSet : V → V → V → Hp → (Hp → Prop) → Prop := fun o i v H Q => rSetL o i v H Q ∨ rSetD o i v H Q
theorem set_both {X : Cx} (hu : X.A.units + 65 < cLine) : PSet X rSet := by
  intro pins s σ H o i v ov iv u Q I ro ri rv h
  rcases h with h | h
  · exact set_list pins s σ H o i v ov iv u Q I ro ri rv h
  · exact set_dict hu pins s σ H o i v ov iv u Q I ro ri rv h
theorem app_imp {e : P} (q : tS K tb (.app i e) D σ H) : tDrop (tBM K "list" rAppend (tVar i) (tCons (tE K tb e) tNil)) D σ H := by
  obtain ⟨env, F, R, w0, w⟩ := q
  obtain ⟨a, xs, ds, ea, h1, ow, _, _⟩ := ownL_ok R w0
  refine ⟨_, ea, .inl ⟨rfl, xs, .inl (.inl h1)⟩, cons_one (s1f R w fun x e1 v F1 H1 R1 T1 r1 g => ?_)⟩
  obtain ⟨a', xs', ds', ea', k1, k2, k3, mk, g, fin⟩ := md_ok R1 g fun _ _ => appS_list
  rw [ea] at ea'; cases ea'
  obtain ⟨hl, g⟩ := g
  have hlen : xs'.length < sizeLine := by rw [k3.length, ← LIM_eq]; exact hl
  obtain ⟨R2, T2⟩ := fin (ds' ++ [x.d]) (xs' ++ [v]) (by simp; omega) (k3.append (.cons r1 .nil))
  exact ⟨a, xs', v, rfl, rfl, k1, hlen, g F1 σ _ R2 (T1.trans T2)⟩
theorem ext_imp {e : P} (q : tS K tb (.ext i e) D σ H) : tDrop (tBM K "list" rExtend (tVar i) (tCons (tE K tb e) tNil)) D σ H := by
  obtain ⟨env, F, R, w0, w⟩ := q
  obtain ⟨a, xs, ds, ea, h1, ow, _, _⟩ := ownL_ok R w0
  refine ⟨_, ea, .inl ⟨rfl, xs, .inl (.inl h1)⟩, cons_one (s1 R w fun x e1 v F1 H1 R1 T1 r1 g => ?_)⟩
  cases x with
  | un => exact g.elim
  | sh d => exact g.elim
  | io d => exact g.elim
  | tp x d => exact g.elim
  | ow d =>
    obtain ⟨b, ho, rfl, b1, b2, b3, b4, b5⟩ := r1
    obtain ⟨R1', T1', sF⟩ := fz1 R1 T1 b1 b2 b3 b4
    obtain ⟨a', xs', ds', ea', k1, k2, k3, mk, g, fin⟩ := md_ok R1' g fun _ _ => extS_list
    rw [ea] at ea'; cases ea'
    unfold extS at g
    split at g
    · rename_i ds1 es1 e1' e2'
      cases e1'
      obtain ⟨hl, g⟩ := g
      cases ho with
      | lst zs =>
        have l1 := k3.length
        have l2 := b5.2.length
        have hlen : xs'.length + zs.length ≤ sizeLine := by rw [← LIM_eq]; omega
        obtain ⟨R2, T2⟩ := fin (ds' ++ es1) (xs' ++ zs) (by simp; omega) (k3.append (RpAll.mono sF b5.2))
        exact ⟨a, b, xs', zs, rfl, rfl, k1, b1, hlen, g _ σ _ R2 (T1'.trans T2)⟩
      | _ => exact b5.elim
    · exact g.elim
theorem setIx_imp {k e : P} (q : tS K tb (.setIx i k e) D σ H) : tAsg (tE K tb e) (gSub (tVar i) (tE K tb k) rSet) D σ H := by
  obtain ⟨env, F, R, w⟩ := q
  refine s1f R w fun x e1 v F1 H1 R1 T1 r1 g => ?_
  obtain ⟨w0, w⟩ := g
  have hv : ∃ a, σ[i]? = some (some (.ref a)) := by
    rcases w0 with w0 | w0
    · obtain ⟨a, _, _, ea, _⟩ := ownL_ok R1 w0; exact ⟨a, ea⟩
    · obtain ⟨a, _, _, ea, _⟩ := ownD_ok R1 w0; exact ⟨a, ea⟩
  obtain ⟨a, ea⟩ := hv
  refine ⟨_, ea, s1f R1 w fun y e2 u F2 H2 R2 T2 r2 g => ?_⟩
  obtain ⟨a', ho, d, ea', k1, k3, mk, g, fin⟩ := md_any R2 g
  rw [ea] at ea'; cases ea'
  unfold setS at g
  split at g
  · rename_i d0 k0 es
    obtain ⟨hk, hl, g⟩ := g
    obtain ⟨k', rfl, ek⟩ := rp_key hk r2
    cases ho with
    | dK kvs =>
      have hlen := rpDk_len k3.2
      rw [ek] at g
      have hl2 : kvs.length < sizeLine := by rw [hlen, ← LIM_eq]; exact hl
      obtain ⟨R3, T3⟩ := fin (.dict (dPut es (kD k') x.d)) (.dK (putK kvs k' v)) ⟨by have := length_putK kvs k' v; omega, rpDk_put k' (r1.mono T2.fs) k3.2⟩
      exact .inr ⟨a, _, rfl, .inl ⟨kvs, k', k1, rfl, hl2, rfl⟩, g F2 σ _ R3 ((T1.trans T2).trans T3)⟩
    | _ => exact k3.elim
  · rename_i d0 k0 ds1 j e2'
    rw [e2'] at r2
    have := rp_int r2; subst this
    obtain ⟨m, hm, g⟩ := g
    cases ho with
    | lst xs' =>
      obtain ⟨z, c⟩ := k3
      obtain ⟨R3, T3⟩ := fin (.list (ds1.set m x.d)) (.lst (xs'.set m v)) ⟨by rw [List.length_set]; exact z, c.set m (r1.mono T2.fs)⟩
      exact .inl ⟨a, xs', j, m, rfl, rfl, k1, by rw [c.length]; exact hm, g F2 σ _ R3 ((T1.trans T2).trans T3)⟩
    | _ => exact k3.elim
  · exact g.elim
end
end PL
end

section
set_option Elab.async false
set_option linter.all false
set_option autoImplicit false
set_option maxRecDepth 100000
set_option maxHeartbeats 1000000
/-! PLpa: dicts made, read, gone through; pop; d.update. -/
namespace PL
open PySem PySem.Spec PyProof.Rows L2
section
variable {X : Cx} {tb : Tab} {a b c : Expr} {p q r : P} {pos apos : Pos} {i : Nat}
theorem e_dnew : PE X (.Dict [] [] pos) (tE X.K tb .dnew) := pe_dnewK.imp fun σ H Q ⟨env, F, R, w⟩ => fun l hl => (PoE.wt w R (Tr.refl _ _ _ _)) _ _ _ (ext_obj hl ⟨Nat.zero_le _, .nil⟩)
/-- what get tells of a dict -/
theorem get_of {K : PySem.W.Frag} {F H : Hp} {l : Addr} {kvs : List (Key × V)} {es : List (D × D)} {k : Key} {t : V} {z : PyData} (hr : Rd H l (.dK kvs)) (c : RpDk K F kvs es) (rt : Rp K F t z) : ∃ o, DGet H l (kV k) o ∧ Rp K F (o.getD t) ((dGet es (kD k)).getD z) := by
  refine ⟨valV kvs k, .inl ⟨kvs, k, hr, rfl, rfl⟩, ?_⟩
  rcases rpDk_get k c with ⟨v', d', h1, h2, h3⟩ | ⟨h1, h2⟩
  · rw [h1, h2]; exact h3
  · rw [h1, h2]; exact rt
theorem e_dget (hu : X.A.units + 65 < cLine) (ha : PE X a (tE X.K tb p)) (hb : PE X b (tE X.K tb q)) (hc : PE X c (tE X.K tb r)) (m : M2 X a "get" apos b c pos) : PE X (.Call (.Attribute a "get" apos) [b, c] [] pos) (tE X.K tb (.dget p q r)) :=
  (pe_dget2 (by omega) ha hb hc m).imp fun σ H Q ⟨env, F, R, w⟩ => s1f R w fun x e1 v F1 H1 R1 T1 r1 g => by
    obtain ⟨⟨es, ed⟩, g⟩ := g
    rw [ed] at r1
    obtain ⟨l, kvs, rfl, hr, hz, cc⟩ := rp_dict r1
    refine ⟨l, rfl, .inl ⟨kvs, Rd.same R1.sub hr⟩, s1f R1 g fun y e2 u F2 H2 R2 T2 r2 g => s1f R2 g fun z e3 t F3 H3 R3 T3 r3 g => ?_⟩
    rw [ed] at g
    obtain ⟨hk, g⟩ := g
    obtain ⟨k, rfl, ek⟩ := rp_key hk r2
    rw [ek] at g
    have s13 := T2.fs.trans T3.fs
    obtain ⟨o, gd, ro⟩ := get_of (k := k) (Rd.same (s13.trans R3.sub) hr) (cc.up s13) r3
    exact ⟨o, gd, (PoE.wt g R3 ((T1.trans T2).trans T3)).val ro⟩
theorem e_dgetB (hu : X.A.units + 65 < cLine) (ha : PE X a (tVar i)) (hb : PE X b (tE X.K tb q)) (hc : PE X c (tE X.K tb r)) (m : M2 X a "get" apos b c pos) : PE X (.Call (.Attribute a "get" apos) [b, c] [] pos) (tE X.K tb (.dgetB i q r)) :=
  (pe_dget2 (by omega) ha hb hc m).imp fun σ H Q ⟨env, F, R, w⟩ => by
    obtain ⟨w0, w⟩ := w
    obtain ⟨d, v, ⟨es, ed⟩, ev, rb⟩ := pk_okB R w0
    rw [ed] at rb
    obtain ⟨l, kvs, rfl, hr, hz, cc⟩ := rp_dictB R.sub rb
    refine ⟨_, ev, l, rfl, .inl ⟨kvs, hr⟩, s1f R w fun y e2 u F2 H2 R2 T2 r2 g => s1f R2 g fun z e3 t F3 H3 R3 T3 r3 g => ?_⟩
    obtain ⟨d3, v3, g, ev3, rb3⟩ := pk_okB R3 g
    rw [ev] at ev3; cases ev3
    unfold getS at g
    split at g
    · rename_i es3
      obtain ⟨hk, g⟩ := g
      obtain ⟨k, rfl, ek⟩ := rp_key hk r2
      rw [ek] at g
      obtain ⟨l3, kvs3, e3', hr3, hz3, cc3⟩ := rp_dictB R3.sub rb3
      cases e3'
      obtain ⟨o, gd, ro⟩ := get_of (k := k) hr3 cc3 r3
      exact ⟨o, gd, (PoE.wt g R3 (T2.trans T3)).val ro⟩
    · exact g.elim
/-- l.pop(k) -/
theorem e_pop {K : PySem.W.Frag} {σ : L2.St} {H : Hp} {Q : VK} {k : P} (w : tE K tb (.pop i k) σ H Q) : tBM K "list" rPopAt (tVar i) (tCons (tE K tb k) tNil) σ H Q := by
  obtain ⟨env, F, R, w0, w⟩ := w
  obtain ⟨l, xs, ds, ea, h1, ow, _, _⟩ := ownL_ok R w0
  refine ⟨_, ea, .inl ⟨rfl, xs, .inl (.inl h1)⟩, cons_one (s1f R w fun y e1 v F1 H1 R1 T1 r1 g => ?_)⟩
  have fin : ∀ (mk : PyData → Sl) (ds : List PyData) (xs : List V), H1 l = some (.lst xs) → xs.length ≤ sizeLine → RpAll K F1 xs ds → (∀ d' xs', xs'.length ≤ sizeLine → RpAll K F1 xs' d' → ER K F1 σ (upd H1 l (.lst xs')) (e1.set i (mk (.list d'))) ∧ Tr e1 F1 σ H1 (e1.set i (mk (.list d'))) F1 σ (upd H1 l (.lst xs'))) →
      (popS ds y.d fun v ds' => PoE K env F σ H Q (.sh v) (e1.set i (mk (.list ds')))) → rPopAt (.ref l) [v] H1 Q := by
    intro mk ds xs hl hz cc up g
    unfold popS at g
    split at g
    · rename_i j ej
      rw [ej] at r1
      have := rp_int r1; subst this
      obtain ⟨m, z, hm, hz2, g⟩ := g
      obtain ⟨x, hx, rx⟩ := cc.get hz2
      rw [← cc.length] at hm
      obtain ⟨q1, q2, q3, q4⟩ := ixN_seq hm
      have hn := line63
      obtain ⟨R2, T2⟩ := up (ds.eraseIdx m) (xs.eraseIdx m) (Nat.le_trans (List.length_eraseIdx_le _ _) hz) (cc.eraseIdx m)
      refine ⟨l, xs, j, m, x, rfl, rfl, hl, ?_, ?_, q1, hx, ?_⟩
      · omega
      · omega
      · exact g x F1 _ R2 (T1.trans T2) rx
    · exact g.elim
  revert g
  show (match e1[i]? with | some (.ow (.list ds)) => _ | some (.io (.list ds)) => _ | _ => False) → _
  split
  · rename_i ds e
    intro g
    obtain ⟨a', ho, ea', k1, k2, k3⟩ := R1.ob i _ (.inl e)
    rw [ea] at ea'; cases ea'
    cases ho with
    | lst xs => exact fin .ow ds xs k1 k3.1 k3.2 (fun d' xs' z c => upd_ok R1 ea _ (.inl ⟨e, rfl⟩) ⟨z, c⟩) g
    | _ => exact k3.elim
  · rename_i ds e
    intro g
    obtain ⟨a', ho, ea', k1, k2, k3⟩ := R1.ob i _ (.inr e)
    rw [ea] at ea'; cases ea'
    cases ho with
    | lst xs => exact fin .io ds xs k1 k3.1 k3.2 (fun d' xs' z c => upd_ok R1 ea _ (.inr ⟨e, rfl⟩) ⟨z, c⟩) g
    | _ => exact k3.elim
  · exact fun g => g.elim
/-! ### d.update(e), two dicts -/
def rDUp : V → List V → Hp → VK → Prop := fun x vs H Q => ∃ (l m : Addr) (kvs more : List (Key × V)), x = .ref l ∧ vs = [.ref m] ∧ H l = some (.dK kvs) ∧ Rd H m (.dK more) ∧ l ≠ m ∧ kvs.length + more.length ≤ sizeLine ∧ Q .non (upd H l (.dK (mergeK kvs more)))
theorem mt_dup : MtR X "dict.update" rDUp := by
  intro pins s σ H x vs v us Q I rx rv h
  obtain ⟨l, m, kvs, more, rfl, rfl, hl, hm, ne, hz, q⟩ := h
  cases rx
  obtain ⟨u, rfl, ru⟩ := rv.one
  obtain rfl : u = Value.ref m := ru
  obtain ⟨z1, d1, vs1, k1, dd1⟩ := dk_of I.hok hl
  obtain ⟨z2, d2, vs2, k2, dd2⟩ := dk_rd I.hok hm
  refine call_meetsIn PySem.F.slot_dict_update dd1.typeIs PySem.F.entry_dict_update (PySem.F.args_dict_update_2 _ _) (meets_dict_update (mixKind X.prog X.w) l m ne d2) ⟨vs1, vs2, dd1, dd2, by rw [← k1.length, ← k2.length]; exact hz, fun h' dd' _ hs => ?_⟩
  have he : ∃ q, h'.get? l = some q := let ⟨q, _, _, hq, _⟩ := dd'; ⟨q, hq⟩
  refine ⟨.non, _, d_write (t' := s.toks) I (by rw [hl]; exact True.intro) hs he (dk_new (Nat.le_trans (length_mergeK more kvs) hz) d1 (k2.merge k1) dd'), rfl, q⟩
end
end PL
end

section
set_option Elab.async false
set_option linter.all false
set_option autoImplicit false
set_option maxRecDepth 100000
set_option maxHeartbeats 1000000
/-! PLpb: comprehensions of dicts, of two loops; update. -/
namespace PL
open PySem PySem.Spec PyProof.Rows L2
section
variable {X : Cx} {tb : Tab}
theorem wipe_same {σ σ2 : L2.St} {own : List Nat} {f : L2.St} (h : wipe f own = wipe (wipe σ own) own) : wipe f own = wipe σ own := by
  rw [h]
  apply List.ext_getElem?
  intro j
  rw [wipe_get, wipe_length, wipe_get]
  by_cases h : j ∈ own ∧ j < σ.length
  · rw [if_pos h, if_pos h]
  · rw [if_neg h]
/-- an object that no text names stays as it is -/
theorem held_ok {K : PySem.W.Frag} {F F' H H' : Hp} {σ σ' : L2.St} {env env' : Ev} {p : Addr} {ho : HO} (e1 : H p = some ho) (e2 : F p = none) (e3 : ¬ OA env σ p) (t : Tr env F σ H env' F' σ' H') : H' p = some ho ∧ F' p = none ∧ ¬ OA env' σ' p := by
  refine ⟨t.keepN e1 e3 e2, ?_, fun z => ?_⟩
  · cases q : F' p with
    | none => rfl
    | some o =>
      rcases t.newF p (by rw [q]; simp) with z | z | z
      · exact (z e2).elim
      · rw [e1] at z; cases z
      · exact (e3 z).elim
  · rcases t.newO p z with z | z
    · exact e3 z
    · rw [e1] at z; cases z
/-- the dict comprehension's meaning -/
theorem dc_imp {K : PySem.W.Frag} {own : List Nat} {it : It} {g : G} {ts : Ts} {ke ve : P} (hg : ∀ i ∈ g.sl, i ∈ own) {σ : L2.St} {H0 : Hp} {Q : VK} (q : tE K tb (.dc own it g ts ke ve) σ H0 Q) :
    tDc (tI K tb it) (gOf K g) (tTs K tb ts) (tE K tb ke) (tE K tb ve) own σ H0 Q := by
  obtain ⟨env0, F0, R0, w⟩ := q
  refine ⟨env0, F0, R0, wpI_mono it (fun ds env1 w J F1 H1 R1 T1 wk p hp => ?_) w⟩
  obtain ⟨hlim, w⟩ := w
  let Pv : Nat → Hp → Prop := fun i H => ∃ env F acc accv, ER K F (wipe σ own) H (wipeE env own) ∧ Tr (wipeE env1 own) F1 (wipe σ own) H1 (wipeE env own) F (wipe σ own) H ∧ H p = some (.dK accv) ∧ F p = none ∧ ¬ OA (wipeE env own) (wipe σ own) p ∧
    RpDk K F accv acc ∧ acc.length ≤ i ∧ loopD (wpG g) (fun v R => wpTs tb ts v R) (fun v R => wpE tb ke v R) (fun v R => wpE tb ve v R) own (ds.drop i) env acc (fun acc env2 => PoE K env0 F0 σ H0 Q (.ow (.dict acc)) (backE env1 env2 own))
  have hW : ∀ i H, i ≤ ds.length → Pv i H → (J.stop i H ∧ Q (.ref p) H) ∨ (i < ds.length ∧ J.go i H ∧ ∀ x H', J.yld i H x H' → gOf K g x (wipe σ own) H' fun σ2 H2 => wipe σ2 own = wipe σ own ∧ tTs K tb ts σ2 H2 fun b H3 =>
      if b = true then tE K tb ke σ2 H3 fun y H4 => tE K tb ve σ2 H4 fun z H5 => ∃ kvs k, y = kV k ∧ H5 p = some (.dK kvs) ∧ kvs.length < sizeLine ∧ Pv (i + 1) (upd H5 p (.dK (putK kvs k z))) else Pv (i + 1) H3) := by
    rintro i H hi ⟨env, F, acc, accv, R, T, e1, e2, e3, ra, hl, w⟩
    by_cases hlt : i < ds.length
    · refine .inr ⟨hlt, wk.goes i H (T.fs.trans R.sub) hlt, fun x H' y => ?_⟩
      have ed : ds[i]? = some ds[i] := List.getElem?_eq_getElem hlt
      rw [List.drop_eq_getElem_cons hlt] at w
      obtain ⟨F', R', T', rx, sF⟩ := yield_ok wk R (Tr.refl _ _ _ _) T.fs ed y
      have w : wpG g ds[i] (wipeE env own) _ := w
      refine gOf_mono (fun σ2 H2 hk => ?_) (g_ok R' (Tr.refl _ _ _ _) rx w)
      obtain ⟨rfl, hw2, env2, w, R2, T2⟩ := hk
      have hw3 : wipe σ2 own = wipe σ own := wipe_same (σ2 := σ2) (hw2 own hg)
      refine ⟨hw3, env2, F', R2, wpTs_mono ts (fun c env3 w F3 H3 R3 T3 => ?_) w⟩
      have T23 := (T'.trans T2).trans T3
      cases c with
      | false =>
        refine iteF ?_
        obtain ⟨k1, k2, k3⟩ := held_ok (K := K) e1 e2 e3 T23
        refine ⟨env3, F3, acc, accv, ?_, ?_, k1, k2, fun z => k3 (oa_wipe (σ := σ2) (by rw [hw3]; exact z)), ra.up T23.fs, by omega, w⟩
        · rw [← hw3]; exact R3.wiped own
        · rw [← hw3]
          have := (T.trans T23).wiped
          rw [← hw3] at this
          exact this
      | true =>
        refine iteT ?_
        refine ⟨env3, F3, R3, wpE_mono ke (fun r env4 w y F4 H4 R4 T4 r4 => ?_) w⟩
        obtain ⟨F5, R5, T5, r5, _⟩ := fz R4 T4 r4
        refine ⟨env4, F5, R5, wpE_mono ve (fun s env6 w z F6 H6 R6 T6 r6 => ?_) w⟩
        obtain ⟨F7, R7, T7, r7, _⟩ := fz R6 T6 r6
        obtain ⟨hk, w⟩ := w
        have TT := T5.trans T7
        obtain ⟨k1, k2, k3⟩ := held_ok (K := K) e1 e2 e3 (T23.trans TT)
        obtain ⟨kk, rfl, ek⟩ := rp_key hk r5
        rw [ek] at w
        have hll := rpDk_len ra
        have cc := (ra.up (T23.trans TT).fs)
        have hlp := rpDk_len (rpDk_put kk r7 cc)
        have hlk := length_putK accv kk z
        refine ⟨accv, kk, rfl, k1, by rw [← LIM_eq]; omega, env6, F7, dPut acc (kD kk) s.d, putK accv kk z, ?_, ?_, upd_same, k2, fun z => k3 (oa_wipe (σ := σ2) (by rw [hw3]; exact z)), rpDk_put kk r7 cc, by omega, w⟩
        · rw [← hw3]; exact (R7.updN k2 k3).wiped own
        · have := ((T.trans (T23.trans TT)).updN (o := .dK (putK accv kk z)) hp).wiped
          rw [hw3] at this
          exact this
    · have e : i = ds.length := by omega
      subst e
      refine .inl ⟨wk.stops H (T.fs.trans R.sub), ?_⟩
      rw [List.drop_length] at w
      obtain ⟨Rb, Tb, hO⟩ := back_ok R1 R T
      have hll := rpDk_len ra
      exact w (.ref p) F H Rb (T1.trans Tb) ⟨p, .dK accv, rfl, e1, e2, fun z => (hO p z).elim (fun q => R1.notOA hp q) e3, .inl (T1.live p hp), ⟨by rw [← LIM_eq]; omega, ra⟩⟩
  have hF1 : F1 p = none := R1.sub.free hp
  refine ⟨fun i m H => m = ds.length - i ∧ i ≤ ds.length ∧ Pv i H, ⟨ds.length, rfl, Nat.zero_le _, env1, F1, [], [], (R1.updN hF1 (R1.notOA hp)).wiped own, (Tr.refl _ _ _ _).updN hp, upd_same, hF1, fun z => R1.notOA hp (oa_wipe z), .nil, Nat.le_refl _, w⟩, ?_⟩
  rintro i m H ⟨rfl, hi, pv⟩
  rcases hW i H hi pv with h | ⟨hlt, h1, h2⟩
  · exact .inl h
  · exact .inr ⟨h1, Pv (i + 1), fun H' p' => ⟨ds.length - (i + 1), by omega, rfl, hlt, p'⟩, h2⟩
theorem e_dc {own : List (Str × Nat)} {it : It} {g : G} {ts : Ts} {ke ve : P} {kx vx tg iter : Expr} {ifs : List Expr} {scope : Scope} {pos : Pos} (hc : X.calm = true) (hN : X.N.Nodup) (hi : PI X tg iter (tI X.K tb it)) (ok : BlkOk X.N X.env.scope scope own) (hgo : ∀ i ∈ g.sl, i ∈ own.map (·.2))
    (hg : ∀ (s : Shared) (H : Hp) (C : Addr) (cl : List (Str × Addr)) (fp : List Addr), PG (X.blk s H scope (compEnvC scope cl C X.env) fp) tg (gOf X.K g)) (ht : ∀ (s : Shared) (H : Hp) (C : Addr) (cl : List (Str × Addr)) (fp : List Addr), PTs (X.blk s H scope (compEnvC scope cl C X.env) fp) ifs (tTs X.K tb ts))
    (hk : ∀ (s : Shared) (H : Hp) (C : Addr) (cl : List (Str × Addr)) (fp : List Addr), PE (X.blk s H scope (compEnvC scope cl C X.env) fp) kx (tE X.K tb ke)) (hv : ∀ (s : Shared) (H : Hp) (C : Addr) (cl : List (Str × Addr)) (fp : List Addr), PE (X.blk s H scope (compEnvC scope cl C X.env) fp) vx (tE X.K tb ve)) (hs : ∀ x, foldedSetIterable iter X.env x = pure x) :
    PE X (.DictComp kx vx [⟨tg, iter, ifs, 0⟩] scope pos) (tE X.K tb (.dc (own.map (·.2)) it g ts ke ve)) :=
  (pe_dc hc hN hi ok hg ht hk hv hs).imp fun σ H Q q => dc_imp hgo q
/-! ### d.update(e) -/
theorem rpDk_merge {K : PySem.W.Frag} {F : Hp} : ∀ {more : List (Key × V)} {fs : List (PyData × PyData)} {kvs : List (Key × V)} {es : List (PyData × PyData)}, RpDk K F more fs → RpDk K F kvs es → RpDk K F (mergeK kvs more) (dUpd es fs)
  | _, _, _, _, .nil, h => h
  | _, _, kvs, es, .cons (k := k) (v := v) (vs := vs) (d := d) (ds := ds) a b, h => by
    show RpDk K F (mergeK (putK kvs k v) vs) (dUpd (dPut es (kD k) d) ds)
    exact rpDk_merge b (rpDk_put k a h)
theorem upd_imp {K : PySem.W.Frag} {D : Ends} {σ : L2.St} {H : Hp} {i : Nat} {e : P} (q : tS K tb (.upd i e) D σ H) : tDrop (tBM K "dict" rDUp (tVar i) (tCons (tE K tb e) tNil)) D σ H := by
  obtain ⟨env, F, R, w0, w⟩ := q
  obtain ⟨a, kvs0, es0, ea, h1, ow, _, _⟩ := ownD_ok R w0
  refine ⟨_, ea, .inr (.inr (.inl ⟨rfl, .inl ⟨kvs0, h1⟩⟩)), cons_one (s1f R w fun x e1 v F1 H1 R1 T1 r1 g => ?_)⟩
  obtain ⟨a', ho, d, ea', k1, k3, mk, g, fin⟩ := md_any R1 g
  rw [ea] at ea'; cases ea'
  unfold updS at g
  split at g
  · rename_i d0 y0 es fs ex
    obtain ⟨hl, g⟩ := g
    rw [ex] at r1
    obtain ⟨m, more, rfl, hr, hz, cc⟩ := rp_dict r1
    cases ho with
    | dK kvs =>
      have l1 := rpDk_len k3.2
      have l2 := rpDk_len cc
      have hlen : kvs.length + more.length ≤ sizeLine := by rw [← LIM_eq]; omega
      obtain ⟨R2, T2⟩ := fin (.dict (dUpd es fs)) (.dK (mergeK kvs more)) ⟨Nat.le_trans (length_mergeK more kvs) hlen, rpDk_merge cc k3.2⟩
      have ne : a ≠ m := fun z => by
        subst z
        have oaa : ∃ w, F1 a = some w := by
          rcases hr with hr | ⟨o, hr⟩
          · exact ⟨_, hr⟩
          · exact ⟨_, hr⟩
        obtain ⟨w, hw⟩ := oaa
        have hn : F1 a = none := by
          have := md_notF R1 ea ‹md e1 i (updS x.d) _›
          exact this
        rw [hw] at hn; cases hn
      exact ⟨a, m, kvs, more, rfl, rfl, k1, Rd.same R1.sub hr, ne, hlen, g F1 σ _ R2 (T1.trans T2)⟩
    | _ => exact k3.elim
  · exact g.elim
end
end PL
end

section
set_option Elab.async false
set_option linter.all false
set_option autoImplicit false
set_option maxRecDepth 100000
set_option maxHeartbeats 1000000
/-! PLpc: comprehensions of two loops. -/
namespace PL
open PySem PySem.Spec PyProof.Rows L2
section
variable {X : Cx} {tb : Tab}
theorem wipe_wipe {σ : L2.St} {vs ws : List Nat} (h : ∀ i ∈ ws, i ∈ vs) : wipe (wipe σ ws) vs = wipe σ vs := by
  apply List.ext_getElem?
  intro j
  rw [wipe_get, wipe_length, wipe_get, wipe_get]
  by_cases hj : j < σ.length
  · by_cases hv : j ∈ vs
    · rw [if_pos ⟨hv, hj⟩, if_pos ⟨hv, hj⟩]
    · rw [if_neg (fun z => hv z.1), if_neg (fun z => hv (h j z.1)), if_neg (fun z => hv z.1)]
  · rw [if_neg (fun z => hj z.2), if_neg (fun z => hj z.2), if_neg (fun z => hj z.2)]
theorem wipeE_wipeE {env : Ev} {vs ws : List Nat} (h : ∀ i ∈ ws, i ∈ vs) : wipeE (wipeE env ws) vs = wipeE env vs := by
  apply List.ext_getElem?
  intro j
  rw [wipeE_get, wipeE_length, wipeE_get, wipeE_get]
  by_cases hj : j < env.length
  · by_cases hv : j ∈ vs
    · rw [if_pos ⟨hv, hj⟩, if_pos ⟨hv, hj⟩]
    · rw [if_neg (fun z => hv z.1), if_neg (fun z => hv (h j z.1)), if_neg (fun z => hv z.1)]
  · rw [if_neg (fun z => hj z.2), if_neg (fun z => hj z.2), if_neg (fun z => hj z.2)]
/-- slots that no caller owns are forgotten -/
theorem Tr.forget {F H : Hp} {σ : L2.St} {env : Ev} {vs : List Nat} (h : noIo env vs = true) : Tr env F σ H (wipeE env vs) F (wipe σ vs) H where
  fs := .refl _
  keep := fun _ _ e _ => .inl e
  live := fun _ e => e
  newF := fun _ e => .inl e
  newO := fun _ e => .inl (oa_wipe e)
  io := fun i d e => by
    have hi : i ∉ vs := fun hi => by
      have q := List.all_eq_true.mp h i hi
      rw [e] at q; cases q
    exact ⟨wipe_out hi, d, by rw [wipeE_out hi]; exact e⟩
/-- the turns of one loop of a comprehension: what is told behind is Fin's -/
theorem turns {K : PySem.W.Frag} {own : List Nat} {g : G} {ts : Ts} {e : P} (hg : ∀ i ∈ g.sl, i ∈ own) {σ : L2.St} {F1 : Hp} {ds : List PyData} {J : L2.It} (wk : Wk K J F1 ds) {p : Addr} {n0 : Nat} (hn : n0 + ds.length ≤ LIM) {Fin : List PyData → Ev → Prop} {e0 : Ev} {F0 H0 : Hp} {σ0 : L2.St} {i : Nat} {H : Hp} (hi : i ≤ ds.length)
    (pv : ∃ env F acc accv, ER K F (wipe σ own) H (wipeE env own) ∧ Tr e0 F0 σ0 H0 (wipeE env own) F (wipe σ own) H ∧ Sam F1 F ∧ H p = some (.lst accv) ∧ F p = none ∧ ¬ OA (wipeE env own) (wipe σ own) p ∧
      RpAll K F accv acc ∧ acc.length ≤ n0 + i ∧ loopC (wpG g) (fun v R => wpTs tb ts v R) (fun v R => wpE tb e v R) own (ds.drop i) env acc Fin) (hp : H0 p = none) :
    (i = ds.length ∧ J.stop i H ∧ ∃ env F acc accv, ER K F (wipe σ own) H (wipeE env own) ∧ Tr e0 F0 σ0 H0 (wipeE env own) F (wipe σ own) H ∧ Sam F1 F ∧ H p = some (.lst accv) ∧ F p = none ∧ ¬ OA (wipeE env own) (wipe σ own) p ∧ RpAll K F accv acc ∧ acc.length ≤ n0 + ds.length ∧ Fin acc env) ∨
    (i < ds.length ∧ J.go i H ∧ ∀ x H', J.yld i H x H' → gOf K g x (wipe σ own) H' fun σ2 H2 => wipe σ2 own = wipe σ own ∧ tTs K tb ts σ2 H2 fun b H3 =>
      let Nx : Hp → Prop := fun H => ∃ env F acc accv, ER K F (wipe σ own) H (wipeE env own) ∧ Tr e0 F0 σ0 H0 (wipeE env own) F (wipe σ own) H ∧ Sam F1 F ∧ H p = some (.lst accv) ∧ F p = none ∧ ¬ OA (wipeE env own) (wipe σ own) p ∧
        RpAll K F accv acc ∧ acc.length ≤ n0 + (i + 1) ∧ loopC (wpG g) (fun v R => wpTs tb ts v R) (fun v R => wpE tb e v R) own (ds.drop (i + 1)) env acc Fin
      if b = true then tE K tb e σ2 H3 fun y H4 => ∃ acc, H4 p = some (.lst acc) ∧ acc.length < sizeLine ∧ Nx (upd H4 p (.lst (acc ++ [y]))) else Nx H3) := by
  obtain ⟨env, F, acc, accv, R, T, hS, e1, e2, e3, ra, hl, w⟩ := pv
  by_cases hlt : i < ds.length
  · refine .inr ⟨hlt, wk.goes i H (hS.trans R.sub) hlt, fun x H' y => ?_⟩
    have ed : ds[i]? = some ds[i] := List.getElem?_eq_getElem hlt
    rw [List.drop_eq_getElem_cons hlt] at w
    obtain ⟨F', R', T', rx, sF⟩ := yield_ok wk R (Tr.refl _ _ _ _) hS ed y
    have w : wpG g ds[i] (wipeE env own) _ := w
    refine gOf_mono (fun σ2 H2 hk => ?_) (g_ok R' (Tr.refl _ _ _ _) rx w)
    obtain ⟨rfl, hw2, env2, w, R2, T2⟩ := hk
    have hw3 : wipe σ2 own = wipe σ own := wipe_same (σ2 := σ2) (hw2 own hg)
    refine ⟨hw3, env2, F', R2, wpTs_mono ts (fun c env3 w F3 H3 R3 T3 => ?_) w⟩
    have T23 := (T'.trans T2).trans T3
    have wiped : ∀ {env4 : Ev} {F4 H4 : Hp}, Tr (wipeE env own) F (wipe σ own) H env4 F4 σ2 H4 → noIo env4 own = true → Tr e0 F0 σ0 H0 (wipeE env4 own) F4 (wipe σ own) H4 := fun {env4 F4 H4} t hn => by
      have := t.trans (Tr.forget hn)
      rw [hw3] at this
      exact T.trans this
    have wiped' : ∀ {env4 : Ev} {F4 H4 : Hp}, Tr (wipeE env own) F (wipe σ own) H env4 F4 σ2 H4 → Tr e0 F0 σ0 H0 (wipeE env4 own) F4 (wipe σ own) H4 := fun {env4 F4 H4} t => by
      have := t.wiped
      rw [hw3] at this
      exact T.trans this
    cases c with
    | false =>
      refine iteF ?_
      obtain ⟨k1, k2, k3⟩ := held_ok (K := K) e1 e2 e3 T23
      refine ⟨env3, F3, acc, accv, ?_, wiped' T23, hS.trans T23.fs, k1, k2, fun z => k3 (oa_wipe (σ := σ2) (by rw [hw3]; exact z)), RpAll.mono T23.fs ra, by omega, w⟩
      rw [← hw3]; exact R3.wiped own
    | true =>
      refine iteT ?_
      refine ⟨env3, F3, R3, wpE_mono e (fun r env4 w y F4 H4 R4 T4 r4 => ?_) w⟩
      obtain ⟨F5, R5, T5, r5, _⟩ := fz R4 T4 r4
      obtain ⟨k1, k2, k3⟩ := held_ok (K := K) e1 e2 e3 (T23.trans T5)
      have hll := ra.length
      refine ⟨accv, k1, by rw [← LIM_eq]; omega, env4, F5, acc ++ [r.d], accv ++ [y], ?_, ?_, hS.trans (T23.trans T5).fs, upd_same, k2, fun z => k3 (oa_wipe (σ := σ2) (by rw [hw3]; exact z)), (RpAll.mono (T23.trans T5).fs ra).append (.cons r5 .nil), by simp; omega, w⟩
      · rw [← hw3]; exact (R5.updN k2 k3).wiped own
      · exact (wiped' (T23.trans T5)).updN (o := .lst (accv ++ [y])) hp
  · have e : i = ds.length := by omega
    subst e
    rw [List.drop_length] at w
    exact .inl ⟨rfl, wk.stops H (hS.trans R.sub), env, F, acc, accv, R, T, hS, e1, e2, e3, ra, hl, w⟩
/-- the meaning of a comprehension of two loops -/
theorem lc2_imp {K : PySem.W.Frag} {own own1 : List Nat} {it it1 : It} {g g1 : G} {ts ts1 : Ts} {e : P} (hg : ∀ i ∈ g.sl, i ∈ own) (hg1 : ∀ i ∈ g1.sl, i ∈ own1) (hoo : ∀ i ∈ own1, i ∈ own) {σ : L2.St} {H0 : Hp} {Q : VK} (q : tE K tb (.lc2 own own1 it g ts it1 g1 ts1 e) σ H0 Q) :
    tLc2 (tI K tb it) (gOf K g) (tTs K tb ts) (tI K tb it1) (gOf K g1) (tTs K tb ts1) (tE K tb e) own own1 σ H0 Q := by
  obtain ⟨env0, F0, R0, w⟩ := q
  refine ⟨env0, F0, R0, wpI_mono it (fun ds env1 w J F1 H1 R1 T1 wk p hp => ?_) w⟩
  let Fin : List PyData → Ev → Prop := fun acc env2 => PoE K env0 F0 σ H0 Q (.ow (.list acc)) (backE env1 env2 own)
  let Pv : Nat → Hp → Prop := fun i H => ∃ env F acc accv, ER K F (wipe σ own) H (wipeE env own) ∧ Tr (wipeE env1 own) F1 (wipe σ own) H1 (wipeE env own) F (wipe σ own) H ∧ H p = some (.lst accv) ∧ F p = none ∧ ¬ OA (wipeE env own) (wipe σ own) p ∧
    RpAll K F accv acc ∧ acc.length ≤ LIM ∧ loopC2 (wpG g) (fun v R => wpTs tb ts v R) (fun v R => wpI tb it1 v R) (wpG g1) (fun v R => wpTs tb ts1 v R) (fun v R => wpE tb e v R) own own1 (ds.drop i) env acc Fin
  have hF1 : F1 p = none := R1.sub.free hp
  refine ⟨fun i m H => m = ds.length - i ∧ i ≤ ds.length ∧ Pv i H, ⟨ds.length, rfl, Nat.zero_le _, env1, F1, [], [], (R1.updN hF1 (R1.notOA hp)).wiped own, (Tr.refl _ _ _ _).updN hp, upd_same, hF1, fun z => R1.notOA hp (oa_wipe z), .nil, Nat.zero_le _, w⟩, ?_⟩
  rintro i m H ⟨rfl, hi, env, F, acc, accv, R, T, e1, e2, e3, ra, hl, w⟩
  by_cases hlt : i < ds.length
  · refine .inr ⟨wk.goes i H (T.fs.trans R.sub) hlt, Pv (i + 1), fun H' p' => ⟨ds.length - (i + 1), by omega, rfl, hlt, p'⟩, fun x H' y => ?_⟩
    have ed : ds[i]? = some ds[i] := List.getElem?_eq_getElem hlt
    rw [List.drop_eq_getElem_cons hlt] at w
    obtain ⟨F', R', T', rx, sF⟩ := yield_ok wk R (Tr.refl _ _ _ _) T.fs ed y
    have w : wpG g ds[i] (wipeE env own) _ := w
    refine gOf_mono (fun σ2 H2 hk => ?_) (g_ok R' (Tr.refl _ _ _ _) rx w)
    obtain ⟨rfl, hw2, env2, w, R2, T2⟩ := hk
    have hw3 : wipe σ2 own = wipe σ own := wipe_same (σ2 := σ2) (hw2 own hg)
    refine ⟨hw3, env2, F', R2, wpTs_mono ts (fun c env3 w F3 H3 R3 T3 => ?_) w⟩
    have T23 := (T'.trans T2).trans T3
    cases c with
    | false =>
      refine iteF ?_
      obtain ⟨k1, k2, k3⟩ := held_ok (K := K) e1 e2 e3 T23
      refine ⟨env3, F3, acc, accv, ?_, ?_, k1, k2, fun z => k3 (oa_wipe (σ := σ2) (by rw [hw3]; exact z)), RpAll.mono T23.fs ra, hl, w⟩
      · rw [← hw3]; exact R3.wiped own
      · have := (T.trans T23).wiped
        rw [hw3] at this
        exact this
    | true =>
      refine iteT ?_
      refine ⟨env3, F3, R3, wpI_mono it1 (fun ys env4 w J1 F4 H4 R4 T4 wk1 => ?_) w⟩
      obtain ⟨⟨hlen, hno⟩, w⟩ := w
      have T24 := T23.trans T4
      obtain ⟨k1, k2, k3⟩ := held_ok (K := K) e1 e2 e3 T24
      let PI : Nat → Hp → Prop := fun j H => ∃ env F acc' accv, ER K F (wipe σ2 own1) H (wipeE env own1) ∧ Tr (wipeE env1 own) F1 (wipe σ own) H1 (wipeE env own1) F (wipe σ2 own1) H ∧ Sam F4 F ∧ H p = some (.lst accv) ∧ F p = none ∧ ¬ OA (wipeE env own1) (wipe σ2 own1) p ∧
        RpAll K F accv acc' ∧ acc'.length ≤ acc.length + j ∧ loopC (wpG g1) (fun v R => wpTs tb ts1 v R) (fun v R => wpE tb e v R) own1 (ys.drop j) env acc' (fun acc env4 => loopC2 (wpG g) (fun v R => wpTs tb ts v R) (fun v R => wpI tb it1 v R) (wpG g1) (fun v R => wpTs tb ts1 v R) (fun v R => wpE tb e v R) own own1 (ds.drop (i + 1)) env4 acc Fin)
      have pi0 : PI 0 H4 := ⟨env4, F4, acc, accv, R4.wiped own1, (T.trans T24).trans (Tr.forget hno), Sam.refl _, k1, k2, fun z => k3 (oa_wipe z), RpAll.mono T24.fs ra, Nat.le_refl _, w⟩
      refine ⟨fun j k H => k = ys.length - j ∧ j ≤ ys.length ∧ PI j H, ⟨ys.length, rfl, Nat.zero_le _, pi0⟩, ?_⟩
      rintro j k H5 ⟨rfl, hj, pv⟩
      rcases turns (n0 := acc.length) hg1 wk1 hlen hj pv hp with ⟨_, h1, env5, F5, acc5, accv5, R5, T5, _, m1, m2, m3, m4, m5, m6⟩ | ⟨hjl, h1, h2⟩
      · refine .inl ⟨h1, env5, F5, acc5, accv5, ?_, ?_, m1, m2, fun z => m3 ?_, m4, by omega, m6⟩
        · have := R5.wiped own
          rw [wipe_wipe hoo, wipeE_wipeE hoo, hw3] at this
          exact this
        · have := T5.wiped
          rw [wipe_wipe hoo, wipeE_wipeE hoo, hw3] at this
          exact this
        · refine oa_wipe (vs := own) ?_
          rw [wipe_wipe hoo, wipeE_wipeE hoo, hw3]
          exact z
      · exact .inr ⟨h1, PI (j + 1), fun H' p' => ⟨ys.length - (j + 1), by omega, rfl, hjl, p'⟩, h2⟩
  · have e : i = ds.length := by omega
    subst e
    refine .inl ⟨wk.stops H (T.fs.trans R.sub), ?_⟩
    rw [List.drop_length] at w
    obtain ⟨Rb, Tb, hO⟩ := back_ok R1 R T
    have hll := ra.length
    exact w (.ref p) F H Rb (T1.trans Tb) ⟨p, .lst accv, rfl, e1, e2, fun z => (hO p z).elim (fun q => R1.notOA hp q) e3, .inl (T1.live p hp), ⟨by rw [← LIM_eq]; omega, ra⟩⟩
theorem e_lc2 {own : List (Str × Nat)} {own1 : List Nat} {it it1 : It} {g g1 : G} {ts ts1 : Ts} {e : P} {elt tg iter tg1 iter1 : Expr} {ifs ifs1 : List Expr} {scope : Scope} {pos : Pos} (hc : X.calm = true) (hN : X.N.Nodup) (hi : PI X tg iter (tI X.K tb it)) (ok : BlkOk X.N X.env.scope scope own) (hoo : ∀ i ∈ own1, i ∈ own.map (·.2)) (hgo : ∀ i ∈ g.sl, i ∈ own.map (·.2)) (hgo1 : ∀ i ∈ g1.sl, i ∈ own1)
    (hg : ∀ (s : Shared) (H : Hp) (C : Addr) (cl : List (Str × Addr)) (fp : List Addr), PG (X.blk s H scope (compEnvC scope cl C X.env) fp) tg (gOf X.K g)) (ht : ∀ (s : Shared) (H : Hp) (C : Addr) (cl : List (Str × Addr)) (fp : List Addr), PTs (X.blk s H scope (compEnvC scope cl C X.env) fp) ifs (tTs X.K tb ts))
    (hi1 : ∀ (s : Shared) (H : Hp) (C : Addr) (cl : List (Str × Addr)) (fp : List Addr), PI (X.blk s H scope (compEnvC scope cl C X.env) fp) tg1 iter1 (tI X.K tb it1))
    (hg1 : ∀ (s : Shared) (H : Hp) (C : Addr) (cl : List (Str × Addr)) (fp : List Addr), PG (X.blk s H scope (compEnvC scope cl C X.env) fp) tg1 (gOf X.K g1)) (ht1 : ∀ (s : Shared) (H : Hp) (C : Addr) (cl : List (Str × Addr)) (fp : List Addr), PTs (X.blk s H scope (compEnvC scope cl C X.env) fp) ifs1 (tTs X.K tb ts1))
    (he : ∀ (s : Shared) (H : Hp) (C : Addr) (cl : List (Str × Addr)) (fp : List Addr), PE (X.blk s H scope (compEnvC scope cl C X.env) fp) elt (tE X.K tb e)) (hs : ∀ x, foldedSetIterable iter X.env x = pure x) (hs1 : ∀ env x, foldedSetIterable iter1 env x = pure x) :
    PE X (.ListComp elt [⟨tg, iter, ifs, 0⟩, ⟨tg1, iter1, ifs1, 0⟩] scope pos) (tE X.K tb (.lc2 (own.map (·.2)) own1 it g ts it1 g1 ts1 e)) :=
  (pe_lc2 hc hN hi ok hoo hg ht hi1 hg1 ht1 he hs hs1).imp fun σ H Q q => lc2_imp hgo hgo1 hoo q
end
end PL
end

section
set_option Elab.async false
set_option linter.all false
set_option autoImplicit false
set_option maxRecDepth 100000
set_option maxHeartbeats 1000000
/-! PLs: a told pair, its list changed by hand. -/
namespace PL
open PySem PySem.Spec PyProof.Rows L2

section
variable {K : PySem.W.Frag} {tb : Tab} {F F0 F1 H H0 H1 : Hp} {σ σ0 σ1 : L2.St} {env env0 env1 : Ev} {D : Ends} {i : Nat}
theorem fzP {a : Addr} {v0 v1 : V} {x d : PyData} (R : ER K F σ H env) (t : Tr env0 F0 σ0 H0 env F σ H) (g1 : H a = some (.tup [v0, v1])) (g2 : ¬ OA env σ a) (g3 : F a = none → NwOf env0 σ0 H0 a) (g4 : Rp K F v0 x) (g5 : Fo K F H env σ (NwOf env0 σ0 H0) v1 d) :
    ∃ l ho F', v1 = .ref l ∧ NwOf env0 σ0 H0 l ∧ F l = none ∧ RpO K F ho d ∧ ER K F' σ H env ∧ Tr env0 F0 σ0 H0 env F' σ H ∧ Rp K F' (.ref a) (.tuple [x, d]) ∧ Sam F F' ∧ F' l = some ho ∧ F' a = some (.tup [v0, v1]) := by
  obtain ⟨l, ho, rfl, h1, h2, h3, h4, h5⟩ := g5
  obtain ⟨R', t', s⟩ := fz1 R t h1 h2 h3 h4
  have rl : Rp K (upd F l ho) (.ref l) d := (h5.mono s).rp upd_same
  have hz : [v0, V.ref l].length ≤ sizeLine := by show 2 ≤ sizeLine; decide
  cases e : (upd F l ho) a with
  | some o =>
    obtain ⟨w, hw, uw⟩ := R'.sub _ _ e
    rw [g1] at hw
    cases hw
    obtain rfl := uw.toTup
    exact ⟨l, ho, _, rfl, h4, h2, h5, R', t', .tup (.inl (.inl e)) hz (.cons (g4.mono s) (.cons rl .nil)), s, upd_same, e⟩
  | none =>
    have e0 : F a = none := s.free e
    obtain ⟨R2, t2, s2⟩ := fz1 R' t' g1 e g2 (g3 e0)
    exact ⟨l, ho, _, rfl, h4, h2, h5, R2, t2, .tup (.inl (.inl upd_same)) hz (.cons ((g4.mono s).mono s2) (.cons (rl.mono s2) .nil)), s.trans s2, by rw [upd_ne (fun z => by rw [← z, upd_same] at e; cases e)]; exact upd_same, upd_same⟩
theorem atom_any {F F' : Hp} {v : V} {d : PyData} (h : atomD d = true) (r : Rp K F v d) : Rp K F' v d := by
  cases r with
  | non => exact .non
  | bl b => exact .bl b
  | int i => exact .int i
  | str x => exact .str x
  | _ => cases h
theorem atoms_any {F F' : Hp} : ∀ {vs : List V} {ds : List PyData}, ds.all atomD = true → RpAll K F vs ds → RpAll K F' vs ds
  | _, _, _, .nil => .nil
  | _, _, h, .cons a b => by
    rw [List.all_cons, Bool.and_eq_true] at h
    exact .cons (atom_any h.1 a) (atoms_any h.2 b)
theorem flat_any {F F' : Hp} {ho : HO} {d : PyData} (h : flatD d = true) (r : RpO K F ho d) : RpO K F' ho d := by
  unfold flatD at h
  split at h
  · cases ho with
    | lst xs => exact ⟨r.1, atoms_any h r.2⟩
    | _ => exact r.elim
  · cases h
theorem flatO_at {j : Nat} {d : PyData} (h : flatO env = true) (ow : Owns env j d) : flatD d = true := by
  unfold flatO at h
  rw [List.all_eq_true] at h
  rcases ow with e | e
  · exact h _ (List.mem_of_getElem? e)
  · exact h _ (List.mem_of_getElem? e)
theorem tmp_imp {e r : P} {t : T} {b : S} (q : tS K tb (.seq (.tmp i e t r) b) D σ H) :
    tSeq (tAsg (tE K tb e) (gName i)) (tSeq (tIfS (tT K tb t) (tRet (tE K tb r)) tNext) (tSeq (tDrop (tBM K "list" rAppend (tOp (rIxT K) (tVar i) (tC (.int 1))) (tCons (tC .non) tNil))) (tS K tb b))) D σ H := by
  obtain ⟨env, F, R, w⟩ := q
  refine s1 R w fun y e1 v F1 H1 R1 T1 r1 g => ?_
  cases y with
  | un => exact g.elim
  | sh d => exact g.elim
  | io d => exact g.elim
  | ow d => exact g.elim
  | tp x d =>
    obtain ⟨a, v0, v1, rfl, g1, g2, g3, g4, g5⟩ := r1
    obtain ⟨hfl, g⟩ := g
    obtain ⟨l, ho, F3, rfl, nwl, hFl, rO, R3, T3, rp3, s3, fl, fa⟩ := fzP R1 T1 g1 g2 g3 g4 g5
    have hi := wr_lt g
    obtain ⟨q, R4, T4⟩ := wr_ok R3 T3 (v := .ref a) (r := .sh (.tuple [x, d])) rp3 rfl g
    have hiσ : i < σ.length := by rw [R1.len]; exact hi
    refine ⟨_, F3, R4, wpT_mono t (fun c env3 w F5 H5 R5 T5 => ?_) q⟩
    have T45 := T4.trans T5
    cases c with
    | true => exact iteT ⟨env3, F5, R5, wpE_mono r (fun z env4 w v F6 H6 R6 T6 rr => w v F6 _ H6 R6 (T45.trans T6) (rr.early fun a h => NwOf.trans T45 h)) w⟩
    | false =>
      obtain ⟨rfl, ⟨ds, rfl, hl⟩, w⟩ := w
      cases ho with
      | lst xs =>
        have k5 : H5 l = some (.lst xs) := R5.sub.lst (T5.fs.lst fl)
        have ka : H5 a = some (.tup [v0, .ref l]) := R5.sub.tup (T5.fs.tup fa)
        have hlen : xs.length < sizeLine := by rw [rO.2.length, ← LIM_eq]; exact hl
        refine iteF ⟨_, List.getElem?_set_self hiσ, a, [v0, .ref l], 1, .ref l, rfl, rfl, .inl (.inl ka), rfl, .inl ⟨rfl, xs, .inl (.inl k5)⟩, l, xs, .non, rfl, rfl, k5, hlen, ?_⟩
        have ne : ∀ {j : Nat} {x y : Sl} , j ≠ i → (((e1.set i x).set i y))[j]? = e1[j]? := fun {j x y} h => by
          rw [List.getElem?_set_ne (Ne.symm h), List.getElem?_set_ne (Ne.symm h)]
        have ow1 : ∀ {j : Nat} {d' : PyData}, Owns ((e1.set i (.sh (.tuple [x, .list ds]))).set i .un) j d' → j ≠ i ∧ Owns e1 j d' := fun {j d'} h => by
          rcases owns_set h with ⟨_, z | z⟩ | ⟨n, h⟩
          · cases z
          · cases z
          rcases owns_set h with ⟨_, z | z⟩ | ⟨n, h⟩
          · cases z
          · cases z
          exact ⟨n, h⟩
        have Re : ER K F1 (σ.set i (some (.ref a))) (upd H5 l (.lst (xs ++ [.non]))) ((e1.set i (.sh (.tuple [x, .list ds]))).set i .un) := by
          refine ⟨fun b o q => ?_, by simp only [List.length_set]; exact R1.len, fun j d' h => ?_, fun j d' h => ?_, fun j m d1 d2 b h h' ej em => ?_⟩
          · have nb : b ≠ l := fun z => by rw [z, hFl] at q; cases q
            rw [upd_ne nb]
            exact ((s3.trans T5.fs).trans R5.sub) _ _ q
          · have nj : j ≠ i := fun z => by
              subst z
              rw [List.getElem?_set_self (by rw [List.length_set]; exact hi)] at h
              cases h
            rw [ne nj] at h
            rw [List.getElem?_set_ne (Ne.symm nj)]
            exact R1.sh j d' h
          · obtain ⟨nj, h⟩ := ow1 h
            obtain ⟨b, hb, eb, k1, k2, k3⟩ := R5.ob j d' (owns_set_ne nj h)
            obtain ⟨b', hb', eb', m1, m2, m3⟩ := R1.ob j d' h
            have eb2 := eb
            rw [List.getElem?_set_ne (Ne.symm nj), eb'] at eb2
            cases eb2
            have nb : b ≠ l := fun z => by
              have := T5.fs.lst fl
              rw [z, this] at k2
              cases k2
            exact ⟨b, hb, eb, by rw [upd_ne nb]; exact k1, m2, flat_any (flatO_at hfl h) k3⟩
          · obtain ⟨nj, h⟩ := ow1 h
            obtain ⟨nm, h'⟩ := ow1 h'
            rw [List.getElem?_set_ne (Ne.symm nj)] at ej
            rw [List.getElem?_set_ne (Ne.symm nm)] at em
            exact R1.inj j m d1 d2 b h h' ej em
        have Te : Tr env F σ H ((e1.set i (.sh (.tuple [x, .list ds]))).set i .un) F1 (σ.set i (some (.ref a))) (upd H5 l (.lst (xs ++ [.non]))) := by
          refine ⟨T1.fs, fun b o q n => ?_, fun b q => ?_, T1.newF, fun b q => ?_, fun j d' q => ?_⟩
          · have nb : b ≠ l := fun z => by
              subst z
              rcases nwl with z | z
              · rw [q] at z; cases z
              · exact n z
            rw [upd_ne nb]
            exact (T45.keep b o q n).imp id fun z => ⟨fun e => by
              rcases T45.newF b z.1 with y | y | y
              · exact y (T1.fs.free e)
              · rw [q] at y; cases y
              · exact n y, z.2⟩
          · by_cases e' : b = l
            · subst e'; rw [upd_same] at q; cases q
            · rw [upd_ne e'] at q; exact T45.live b q
          · obtain ⟨j, d', h, e⟩ := q
            obtain ⟨nj, h⟩ := ow1 h
            rw [List.getElem?_set_ne (Ne.symm nj)] at e
            exact T1.newO b ⟨j, d', h, e⟩
          · obtain ⟨h1, d2, h2⟩ := T45.io j d' q
            have nj : j ≠ i := fun z => by
              subst z
              rw [List.getElem?_set_self hi] at h2
              cases h2
            refine ⟨h1, d2, ?_⟩
            rw [List.getElem?_set_ne (Ne.symm nj)]
            exact h2
        exact ⟨_, F1, Re, wpS_mono b (fun o w => w.on Te) w⟩
      | _ => exact rO.elim
end
end PL
end

section
set_option Elab.async false
set_option linter.all false
set_option autoImplicit false
set_option maxRecDepth 100000
set_option maxHeartbeats 1000000
/-! PLt: the check of a text against the program. -/
namespace PL
open PySem PySem.Spec PyProof.Rows L2

/-! ### views -/
def vName : Expr → Option Str
  | .Name x _ => some x
  | _ => none
def vConst : Expr → Option Const
  | .Constant c _ _ => some c
  | _ => none
def vBin : Expr → Option (Operator × Expr × Expr)
  | .BinOp a o b _ => some (o, a, b)
  | _ => none
def vUn : Expr → Option (UnaryOp × Expr)
  | .UnaryOp o a _ => some (o, a)
  | _ => none
def vCmp : Expr → Option (Expr × List CmpOp × List Expr)
  | .Compare a os es _ => some (a, os, es)
  | _ => none
def vBool : Expr → Option (BoolOp × List Expr × Pos)
  | .BoolOp o es p => some (o, es, p)
  | _ => none
def vIf : Expr → Option (Expr × Expr × Expr)
  | .IfExp c a b _ => some (c, a, b)
  | _ => none
def vTup : Expr → Option (List Expr)
  | .Tuple es _ _ => some es
  | _ => none
def vLst : Expr → Option (List Expr)
  | .List es _ => some es
  | _ => none
def vSub : Expr → Option (Expr × Expr)
  | .Subscript a b _ => some (a, b)
  | _ => none
def vSlice : Expr → Option (Option Expr × Option Expr × Option Expr)
  | .Slice a b c _ => some (a, b, c)
  | _ => none
def vCall : Expr → Option (Expr × List Expr × List Keyword × Pos)
  | .Call f es ks p => some (f, es, ks, p)
  | _ => none
def vAttr : Expr → Option (Expr × Str × Pos)
  | .Attribute o x p => some (o, x, p)
  | _ => none
def vDC : Expr → Option (Expr × Expr × List Comprehension × Scope)
  | .DictComp k v gs s _ => some (k, v, gs, s)
  | _ => none
def isD0 : Expr → Bool
  | .Dict [] [] _ => true
  | _ => false
def vLC : Expr → Option (Expr × List Comprehension × Scope)
  | .ListComp e gs s _ => some (e, gs, s)
  | _ => none
theorem vName_eq {e : Expr} {x : Str} (h : vName e = some x) : ∃ p, e = .Name x p := by
  unfold vName at h; split at h <;> simp at h; subst h; exact ⟨_, rfl⟩
theorem vConst_eq {e : Expr} {x : Const} (h : vConst e = some x) : ∃ k p, e = .Constant x k p := by
  unfold vConst at h; split at h <;> simp at h; subst h; exact ⟨_, _, rfl⟩
theorem vBin_eq {e : Expr} {o a b} (h : vBin e = some (o, a, b)) : ∃ p, e = .BinOp a o b p := by
  unfold vBin at h; split at h <;> simp at h; obtain ⟨rfl, rfl, rfl⟩ := h; exact ⟨_, rfl⟩
theorem vUn_eq {e : Expr} {o a} (h : vUn e = some (o, a)) : ∃ p, e = .UnaryOp o a p := by
  unfold vUn at h; split at h <;> simp at h; obtain ⟨rfl, rfl⟩ := h; exact ⟨_, rfl⟩
theorem vCmp_eq {e : Expr} {a os es} (h : vCmp e = some (a, os, es)) : ∃ p, e = .Compare a os es p := by
  unfold vCmp at h; split at h <;> simp at h; obtain ⟨rfl, rfl, rfl⟩ := h; exact ⟨_, rfl⟩
theorem vBool_eq {e : Expr} {o es p} (h : vBool e = some (o, es, p)) : e = .BoolOp o es p := by
  unfold vBool at h; split at h <;> simp at h; obtain ⟨rfl, rfl, rfl⟩ := h; rfl
theorem vIf_eq {e : Expr} {c a b} (h : vIf e = some (c, a, b)) : ∃ p, e = .IfExp c a b p := by
  unfold vIf at h; split at h <;> simp at h; obtain ⟨rfl, rfl, rfl⟩ := h; exact ⟨_, rfl⟩
theorem vTup_eq {e : Expr} {es} (h : vTup e = some es) : ∃ k p, e = .Tuple es k p := by
  unfold vTup at h; split at h <;> simp at h; subst h; exact ⟨_, _, rfl⟩
theorem vLst_eq {e : Expr} {es} (h : vLst e = some es) : ∃ p, e = .List es p := by
  unfold vLst at h; split at h <;> simp at h; subst h; exact ⟨_, rfl⟩
theorem vSub_eq {e : Expr} {a b} (h : vSub e = some (a, b)) : ∃ p, e = .Subscript a b p := by
  unfold vSub at h; split at h <;> simp at h; obtain ⟨rfl, rfl⟩ := h; exact ⟨_, rfl⟩
theorem vSlice_eq {e : Expr} {a b c} (h : vSlice e = some (a, b, c)) : ∃ p, e = .Slice a b c p := by
  unfold vSlice at h; split at h <;> simp at h; obtain ⟨rfl, rfl, rfl⟩ := h; exact ⟨_, rfl⟩
theorem vCall_eq {e : Expr} {f es ks p} (h : vCall e = some (f, es, ks, p)) : e = .Call f es ks p := by
  unfold vCall at h; split at h <;> simp at h; obtain ⟨rfl, rfl, rfl, rfl⟩ := h; rfl
theorem vAttr_eq {e : Expr} {o x p} (h : vAttr e = some (o, x, p)) : e = .Attribute o x p := by
  unfold vAttr at h; split at h <;> simp at h; obtain ⟨rfl, rfl, rfl⟩ := h; rfl
theorem vDC_eq {e : Expr} {k v gs s} (h : vDC e = some (k, v, gs, s)) : ∃ p, e = .DictComp k v gs s p := by
  unfold vDC at h; split at h <;> simp at h; obtain ⟨rfl, rfl, rfl, rfl⟩ := h; exact ⟨_, rfl⟩
theorem isD0_eq {e : Expr} (h : isD0 e = true) : ∃ p, e = .Dict [] [] p := by
  unfold isD0 at h; split at h
  · exact ⟨_, rfl⟩
  · cases h
theorem vLC_eq {e : Expr} {x gs s} (h : vLC e = some (x, gs, s)) : ∃ p, e = .ListComp x gs s p := by
  unfold vLC at h; split at h <;> simp at h; obtain ⟨rfl, rfl, rfl⟩ := h; exact ⟨_, rfl⟩

/-! ### forms that have rules of their own -/
def isStar : Expr → Bool
  | .Starred _ _ => true
  | _ => false
def isSlice : Expr → Bool
  | .Slice .. => true
  | _ => false
def isSetD : Expr → Bool
  | .Set .. => true
  | _ => false
/-- a test of its own -/
def isTst : Expr → Bool
  | .UnaryOp .Not _ _ => true
  | .BoolOp .. => true
  | .IfExp .. => true
  | .Compare .. => true
  | _ => false
def isCp : Expr → Bool
  | .ListComp .. => true
  | .SetComp .. => true
  | .DictComp .. => true
  | _ => false
def isCall : Expr → Bool
  | .Call .. => true
  | _ => false
section
variable {env : Env} {e : Expr} {es : List Expr}
theorem star_cons (h : isStar e = false) : starEach (e :: es) env = (false, eval e env) :: starEach es env := by
  cases e <;> first | rfl | cases h
theorem star_any {pos : Pos} : ∀ {es : List Expr}, es.any isStar = false → (backTo pos (starEach es env)).any (·.1) = false
  | [], _ => rfl
  | e :: es, h => by
    rw [List.any_cons, Bool.or_eq_false_iff] at h
    rw [star_cons h.1]
    show (false || (backTo pos (starEach es env)).any (·.1)) = false
    rw [star_any h.2]; rfl
theorem plain_ix (h : isSlice e = false) : PlainIx e := fun o i => by
  cases e <;> first | rfl | cases h
theorem plain_set (h : isSetD e = false) (x : Value) : foldedSetIterable e env x = pure x := by
  cases e <;> first | rfl | cases h
theorem plain_tst (h : isTst e = false) (whole : Sem Value) : isTrue e env whole = (do let v ← whole; standAt e.pos; holding [v] (truthy v)) := by
  cases e with
  | UnaryOp o a p => cases o <;> first | rfl | cases h
  | BoolOp o a p => cases h
  | IfExp a b c p => cases h
  | Compare a b c p => cases h
  | _ => rfl
theorem plain_swap (h : isCp e = false) (t : Option Expr) (l : Nat) : swapsWith e t l env = pure false := by
  cases e <;> first | rfl | cases h
theorem plain_base (h : isCall e = false) (x : Str) (w : Sem Value) : attributeBase e x env w = w := by
  cases e <;> first | rfl | cases h
theorem assign_cons (h : isStar e = false) : assignEach (e :: es) env = (false, assign e env) :: assignEach es env := by
  cases e <;> first | rfl | cases h
end
end PL
end

section
set_option Elab.async false
set_option linter.all false
set_option autoImplicit false
set_option maxRecDepth 100000
set_option maxHeartbeats 4000000
/-! PLu: the check of expressions, and that it suffices. -/
namespace PL
open PySem PySem.Spec PyProof.Rows L2

def visB (sc : Scope) (x : Str) : Bool :=
  match sc.names.lookup x with
  | some .local => true
  | some .cell => true
  | some .free => true
  | _ => false
def nameIx (I : Inf) (i : Nat) (e : Expr) : Bool :=
  match vName e with
  | some x => decide (I.N[i]? = some x) && visB I.sc x && !(x == ("__debug__" : Str)) && !(x == ("__classdict__" : Str))
  | none => false
def glB (I : Inf) (e : Expr) (x : Str) : Bool :=
  match vName e with
  | some y => decide (y = x) && decide (I.sc.names.lookup x = some .globalImplicit) && !(x == ("__debug__" : Str))
  | none => false
/-- a name that is stored -/
def tgtIx (I : Inf) (i : Nat) (e : Expr) : Bool :=
  match vName e with
  | some x => decide (I.N[i]? = some x) && (decide (I.sc.names.lookup x = some .local) || (decide (I.sc.names.lookup x = some .cell) && I.fw x))
  | none => false
def tgtsIx (I : Inf) : List Nat → List Expr → Bool
  | [], [] => true
  | i :: is, e :: es => tgtIx I i e && tgtsIx I is es
  | _, _ => false
def chkG (g : G) (I : Inf) (e : Expr) : Bool :=
  match g with
  | .name i => tgtIx I i e
  | .tup is => match vTup e with
    | some es => tgtsIx I is es
    | none => false
def ksB (I : Inf) : List Kd → List Expr → Bool
  | [], [] => true
  | k :: ks, e :: es => glB I e (kdN k) && ksB I ks es
  | _, _ => false
def chkKs (ks : List Kd) (I : Inf) (e : Expr) : Bool :=
  match vTup e with
  | some es => ksB I ks es && decide (ks.length ≤ 6)
  | none => match ks with
    | [k] => glB I e (kdN k)
    | _ => false
def ownP (I : Inf) (own : List Nat) : List (Str × Nat) := own.map fun i => (I.N.getD i "", i)
def blkB (I : Inf) (scope : Scope) (own : List Nat) : Bool :=
  decide (scope.kind = .function) && scope.names.all (fun y => decide (scope.names.lookup y.1 = some y.2)) && own.all (fun i => decide (i < I.N.length)) &&
  scope.names.all (fun y => !decide (y.2 = .free) || decide (I.sc.names.lookup y.1 = some .cell) || decide (I.sc.names.lookup y.1 = some .free)) &&
  scope.names.all (fun y => !(decide (y.2 = .local) || decide (y.2 = .cell)) || decide (y.1 ∈ (ownP I own).map (·.1)) || decide (y.1 ∉ I.N))
def Inf.blk (I : Inf) (scope : Scope) : Inf := { N := I.N, sc := relS scope I.sc, fw := fun x => scope.names.lookup x == some .cell, gd := I.gd }
def As.isNil : As → Bool
  | .nil => true
  | _ => false
mutual
def chkE : P → Inf → Expr → Bool
  | .var i, I, e => nameIx I i e
  | .mv i, I, e => nameIx I i e
  | .pr a b, I, e => match vTup e with
    | some [x, y] => !isStar x && !isStar y && chkE a I x && chkE b I y
    | _ => false
  | .int n, _, e => decide (vConst e = some (.int n))
  | .bl b, _, e => decide (vConst e = some (.bool b))
  | .non, _, e => decide (vConst e = some .none)
  | .str x, _, e => decide (vConst e = some (.str x))
  | .glob x, I, e => glB I e x
  | .bin o a b, I, e => match vBin e with
    | some (o', x, y) => decide (o' = o) && chkE a I x && chkE b I y
    | _ => false
  | .neg a, I, e => match vUn e with
    | some (.USub, x) => chkE a I x
    | _ => false
  | .cmp o a b, I, e => match vCmp e with
    | some (x, [o'], [y]) => decide (o' = o) && !isSetD y && chkE a I x && chkE b I y
    | _ => false
  | .cmpB o a i, I, e => match vCmp e with
    | some (x, [o'], [y]) => decide (o' = o) && !isSetD y && chkE a I x && nameIx I i y
    | _ => false
  | .cmpL o i b, I, e => match vCmp e with
    | some (x, [o'], [y]) => decide (o' = o) && !isSetD y && nameIx I i x && chkE b I y
    | _ => false
  | .chain o o2 a b c, I, e => match vCmp e with
    | some (x, [o', o2'], [y, z]) => decide (o' = o) && decide (o2' = o2) && !isSetD z && chkE a I x && chkE b I y && chkE c I z
    | _ => false
  | .and a b, I, e => match vBool e with
    | some (.And, [x, y], _) => chkE a I x && chkE b I y
    | some (.And, x :: y :: z :: r, p) => chkE a I x && chkE b I (.BoolOp .And (y :: z :: r) p)
    | _ => false
  | .or a b, I, e => match vBool e with
    | some (.Or, [x, y], _) => chkE a I x && chkE b I y
    | some (.Or, x :: y :: z :: r, p) => chkE a I x && chkE b I (.BoolOp .Or (y :: z :: r) p)
    | _ => false
  | .not a, I, e => match vUn e with
    | some (.Not, x) => chkE a I x
    | _ => false
  | .ife t a b, I, e => match vIf e with
    | some (c, x, y) => chkT t I c && chkE a I x && chkE b I y
    | _ => false
  | .tup as, I, e => match vTup e with
    | some es => decide (as.len ≤ 1000) && chkA as I es
    | _ => false
  | .lst as, I, e => match vLst e with
    | some es => decide (as.len ≤ 1000) && chkA as I es
    | _ => false
  | .ix a b, I, e => match vSub e with
    | some (x, y) => !isSlice y && chkE a I x && chkE b I y
    | _ => false
  | .ixB i b, I, e => match vSub e with
    | some (x, y) => !isSlice y && nameIx I i x && chkE b I y
    | _ => false
  | .slc a lo hi, I, e => match vSub e with
    | some (x, y) => match vSlice y with
      | some (l, h, none) => chkE a I x && chkO lo I l && chkO hi I h
      | _ => false
    | _ => false
  | .rev a, I, e => match vSub e with
    | some (x, y) => match vSlice y with
      | some (none, none, some z) => match vUn z with
        | some (.USub, w) => decide (vConst w = some (.int 1)) && chkE a I x
        | _ => false
      | _ => false
    | _ => false
  | .call x _ as, I, e => match vCall e with
    | some (f, es, [], _) => glB I f x && chkA as I es
    | _ => false
  | .callK x ks as, I, e => match vCall e with
    | some (f, [], kws, _) => glB I f x && decide (kws.map (·.arg) = ks.map some) && decide (as.len = ks.length) && chkA as I (kws.map (·.value))
    | _ => false
  | .callW x i as, I, e => match vCall e with
    | some (f, y :: es, [], _) => glB I f x && !isStar y && nameIx I i y && chkA as I es
    | _ => false
  | .bi b as, I, e => match vCall e with
    | some (f, y :: es, [], _) => glB I f (biN b) && (!decide (b = .repr) || I.gd) && chkA as I (y :: es)
    | _ => false
  | .lenB i, I, e => match vCall e with
    | some (f, [y], [], _) => glB I f "len" && !isStar y && nameIx I i y
    | _ => false
  | .isi ks a, I, e => match vCall e with
    | some (f, [x, k], [], _) => glB I f "isinstance" && !isStar x && !isStar k && chkE a I x && chkKs ks I k
    | _ => false
  | .lc own it g ts e', I, e => match vLC e with
    | some (elt, [⟨tg, iter, ifs, as⟩], scope) => decide (as = 0) && !isSetD iter && blkB I scope own && chkI it I tg iter && g.sl.all (fun i => decide (i ∈ own)) && chkG g (I.blk scope) tg && chkTs ts (I.blk scope) ifs && chkE e' (I.blk scope) elt
    | _ => false
  | .index a b, I, e => match vCall e with
    | some (f, [y], [], p) => match vAttr f with
      | some (o, n, q) => decide (n = "index") && (q.endLine == p.line) && !isCall o && !isStar y && chkE a I o && chkE b I y
      | _ => false
    | _ => false
  | .fz a, I, e => chkE a I e
  | .dnew, _, e => isD0 e
  | .dget a k x, I, e => match vCall e with
    | some (f, [y, z], [], p) => match vAttr f with
      | some (o, n, q) => decide (n = "get") && (q.endLine == p.line) && !isCall o && !isStar y && !isStar z && chkE a I o && chkE k I y && chkE x I z
      | _ => false
    | _ => false
  | .dgetB i k x, I, e => match vCall e with
    | some (f, [y, z], [], p) => match vAttr f with
      | some (o, n, q) => decide (n = "get") && (q.endLine == p.line) && !isCall o && !isStar y && !isStar z && nameIx I i o && chkE k I y && chkE x I z
      | _ => false
    | _ => false
  | .dc own it g ts k v, I, e => match vDC e with
    | some (kx, vx, [⟨tg, iter, ifs, as⟩], scope) => decide (as = 0) && !isSetD iter && blkB I scope own && chkI it I tg iter && g.sl.all (fun i => decide (i ∈ own)) && chkG g (I.blk scope) tg && chkTs ts (I.blk scope) ifs && chkE k (I.blk scope) kx && chkE v (I.blk scope) vx
    | _ => false
  | .lc2 own own1 it g ts it1 g1 ts1 e', I, e => match vLC e with
    | some (elt, [⟨tg, iter, ifs, as⟩, ⟨tg1, iter1, ifs1, as1⟩], scope) => decide (as = 0) && decide (as1 = 0) && !isSetD iter && !isSetD iter1 && blkB I scope own && chkI it I tg iter && own1.all (fun i => decide (i ∈ own)) && g.sl.all (fun i => decide (i ∈ own)) && g1.sl.all (fun i => decide (i ∈ own1)) &&
        chkG g (I.blk scope) tg && chkTs ts (I.blk scope) ifs && chkI it1 (I.blk scope) tg1 iter1 && chkG g1 (I.blk scope) tg1 && chkTs ts1 (I.blk scope) ifs1 && chkE e' (I.blk scope) elt
    | _ => false
  | .pop i k, I, e => match vCall e with
    | some (f, [y], [], p) => match vAttr f with
      | some (o, n, q) => decide (n = "pop") && (q.endLine == p.line) && !isCall o && !isStar y && nameIx I i o && chkE k I y
      | _ => false
    | _ => false
  | .rgl1 t a, I, e => match vCall e with
    | some (f, [y], [], _) => glB I f (rglN t) && !isStar y && (match vCall y with
      | some (g, [x], [], _) => glB I g "range" && !isStar x && chkE a I x
      | _ => false)
    | _ => false
  | .rgl2 t a b, I, e => match vCall e with
    | some (f, [y], [], _) => glB I f (rglN t) && !isStar y && (match vCall y with
      | some (g, [x, z], [], _) => glB I g "range" && !isStar x && !isStar z && chkE a I x && chkE b I z
      | _ => false)
    | _ => false
def chkT : T → Inf → Expr → Bool
  | .val a, I, e => !isTst e && chkE a I e
  | .cmp o a b, I, e => match vCmp e with
    | some (x, [o'], [y]) => decide (o' = o) && !isSetD y && chkE a I x && chkE b I y
    | _ => false
  | .cmpB o a i, I, e => match vCmp e with
    | some (x, [o'], [y]) => decide (o' = o) && !isSetD y && chkE a I x && nameIx I i y
    | _ => false
  | .cmpL o i b, I, e => match vCmp e with
    | some (x, [o'], [y]) => decide (o' = o) && !isSetD y && nameIx I i x && chkE b I y
    | _ => false
  | .chain o o2 a b c, I, e => match vCmp e with
    | some (x, [o', o2'], [y, z]) => decide (o' = o) && decide (o2' = o2) && !isSetD z && chkE a I x && chkE b I y && chkE c I z
    | _ => false
  | .and a b, I, e => match vBool e with
    | some (.And, [x, y], _) => chkT a I x && chkT b I y
    | some (.And, x :: y :: z :: r, p) => chkT a I x && chkT b I (.BoolOp .And (y :: z :: r) p)
    | _ => false
  | .or a b, I, e => match vBool e with
    | some (.Or, [x, y], _) => chkT a I x && chkT b I y
    | some (.Or, x :: y :: z :: r, p) => chkT a I x && chkT b I (.BoolOp .Or (y :: z :: r) p)
    | _ => false
  | .not a, I, e => match vUn e with
    | some (.Not, x) => chkT a I x
    | _ => false
def chkA : As → Inf → List Expr → Bool
  | .nil, _, es => es.isEmpty
  | .cons a r, I, es => match es with
    | x :: xs => !isStar x && chkE a I x && chkA r I xs
    | [] => false
def chkO : As → Inf → Option Expr → Bool
  | .nil, _, o => o.isNone
  | .cons a r, I, o => match o with
    | some x => chkE a I x && r.isNil
    | none => false
def chkTs : Ts → Inf → List Expr → Bool
  | .nil, _, es => es.isEmpty
  | .one t, I, es => match es with
    | [c] => chkT t I c
    | _ => false
def chkI : It → Inf → Expr → Expr → Bool
  | .seq a, I, _, e => chkE a I e
  | .rng1 a, I, _, e => match vCall e with
    | some (f, [x], [], _) => glB I f "range" && !isStar x && chkE a I x
    | _ => false
  | .rng2 a b, I, _, e => match vCall e with
    | some (f, [x, y], [], _) => glB I f "range" && !isStar x && !isStar y && chkE a I x && chkE b I y
    | _ => false
  | .rng3 a b c, I, _, e => match vCall e with
    | some (f, [x, y, z], [], _) => glB I f "range" && !isStar x && !isStar y && !isStar z && chkE a I x && chkE b I y && chkE c I z
    | _ => false
  | .enum a, I, tg, e => match vCall e with
    | some (f, [x], [], _) => (vTup tg).isSome && glB I f "enumerate" && !isStar x && chkE a I x
    | _ => false
  | .zip a b, I, tg, e => match vCall e with
    | some (f, [x, y], [], _) => (vTup tg).isSome && glB I f "zip" && !isStar x && !isStar y && chkE a I x && chkE b I y
    | _ => false
  | .keys a, I, _, e => chkE a I e
  | .items a, I, tg, e => match vCall e with
    | some (f, [], [], p) => match vAttr f with
      | some (o, n, q) => (vTup tg).isSome && decide (n = "items") && (q.endLine == p.line) && !isCall o && chkE a I o
      | _ => false
    | _ => false
end
section
variable {tb : Tab} {lv : Nat} {X : Cx} {I : Inf} {e : Expr}
theorem vis_ok (C : Cg tb lv I X) {x : Str} (h : visB I.sc x = true) : Vis X.env.scope x := by
  rw [C.hsc]
  unfold visB at h
  split at h
  · exact .inl (by assumption)
  · exact .inr (.inl (by assumption))
  · exact .inr (.inr (by assumption))
  · cases h
theorem name_ok (C : Cg tb lv I X) {i : Nat} (h : nameIx I i e = true) : PE X e (tVar i) := by
  unfold nameIx at h
  split at h
  · rename_i x hv
    simp only [Bool.and_eq_true, decide_eq_true_eq, Bool.not_eq_true'] at h
    obtain ⟨⟨⟨h1, h2⟩, h3⟩, h4⟩ := h
    obtain ⟨p, rfl⟩ := vName_eq hv
    exact pe_var (by rw [C.hN]; exact h1) (vis_ok C h2) h3 h4
  · cases h
theorem gl_ok (C : Cg tb lv I X) {x : Str} (h : glB I e x = true) : ∃ p, e = .Name x p ∧ Gl X x ∧ (x == ("__debug__" : Str)) = false := by
  unfold glB at h
  split at h
  · rename_i y hv
    simp only [Bool.and_eq_true, decide_eq_true_eq, Bool.not_eq_true'] at h
    obtain ⟨⟨rfl, h2⟩, h3⟩ := h
    obtain ⟨p, rfl⟩ := vName_eq hv
    exact ⟨p, rfl, by show X.env.scope.names.lookup _ = _; rw [C.hsc]; exact h2, h3⟩
  · cases h
theorem tgt_ok (C : Cg tb lv I X) {i : Nat} (h : tgtIx I i e = true) : PG X e (gName i) ∧ isStar e = false := by
  unfold tgtIx at h
  split at h
  · rename_i x hv
    simp only [Bool.and_eq_true, decide_eq_true_eq, Bool.or_eq_true] at h
    obtain ⟨h1, h2⟩ := h
    obtain ⟨p, rfl⟩ := vName_eq hv
    refine ⟨?_, rfl⟩
    have hN := C.nd
    rw [← C.hN] at hN
    rw [← C.hN] at h1
    rw [← C.hsc] at h2
    rcases h2 with h2 | ⟨h2, h3⟩
    · exact pg_name hN h1 (.inl h2) (.inr h2)
    · exact pg_name hN h1 (.inr h2) (.inl (C.fnc x h3))
  · cases h
theorem tgts_ok (C : Cg tb lv I X) : ∀ {is : List Nat} {es : List Expr}, tgtsIx I is es = true → PGs X es (gNames is) ∧ (assignEach es X.env).length = is.length ∧ (assignEach es X.env).findIdx? (·.1) = none
  | [], [], _ => ⟨pgs_nil, rfl, rfl⟩
  | i :: is, e :: es, h => by
    simp only [tgtsIx, Bool.and_eq_true] at h
    obtain ⟨p1, s1⟩ := tgt_ok C h.1
    obtain ⟨p2, l2, f2⟩ := tgts_ok C h.2
    have ea := assign_cons (env := X.env) (es := es) s1
    refine ⟨pgs_cons p1 p2 (by rw [ea]; rfl), by rw [ea]; simp [l2], ?_⟩
    rw [ea]
    rw [List.findIdx?_cons]
    simp [f2]
  | [], _ :: _, h => by simp [tgtsIx] at h
  | _ :: _, [], h => by simp [tgtsIx] at h
theorem g_okC (C : Cg tb lv I X) {g : G} (h : chkG g I e = true) : PG X e (gOf X.K g) := by
  unfold chkG at h
  split at h
  · exact (tgt_ok C h).1
  · rename_i is
    split at h
    · rename_i es hv
      obtain ⟨k, p, rfl⟩ := vTup_eq hv
      obtain ⟨p1, l1, f1⟩ := tgts_ok C h
      exact pg_seq C.calm p1 l1 f1
    · cases h
theorem bi_no (C : Cg tb lv I X) {x : Str} (h : x ∈ biNames) : X.mg x = none := C.tk.bi x h
theorem biN_mem (b : Bi) : biN b ∈ biNames := by cases b <;> decide
theorem kdN_mem (k : Kd) : Str.ofString (kdN k) ∈ biNames := by cases k <;> decide
theorem ks_ok (C : Cg tb lv I X) : ∀ {ks : List Kd} {es : List Expr}, ksB I ks es = true → PA X es (tKs ks)
  | [], [], _ => pa_nil
  | k :: ks, e :: es, h => by
    simp only [ksB, Bool.and_eq_true] at h
    obtain ⟨p, rfl, hg, _⟩ := gl_ok C h.1
    exact pa_cons (pe_kd hg (bi_no C (kdN_mem k))) (ks_ok C h.2) (star_cons rfl)
  | [], _ :: _, h => by simp [ksB] at h
  | _ :: _, [], h => by simp [ksB] at h
theorem units_ok (C : Cg tb lv I X) : X.A.units + 65 < cLine := by
  have := C.room.un
  omega
theorem blk_ok (C : Cg tb lv I X) {scope : Scope} {own : List Nat} (h : blkB I scope own = true) : BlkOk X.N X.env.scope scope (ownP I own) := by
  unfold blkB at h
  simp only [Bool.and_eq_true, decide_eq_true_eq, List.all_eq_true, Bool.or_eq_true, Bool.not_eq_true', decide_eq_false_iff_not, Bool.or_eq_false_iff] at h
  obtain ⟨⟨⟨⟨h1, h2⟩, h3⟩, h4⟩, h5⟩ := h
  rw [C.hN, C.hsc]
  refine ⟨h1, h2, fun p hp => ?_, fun y hy e => ?_, fun y hy e => ?_⟩
  · unfold ownP at hp
    obtain ⟨i, hi, rfl⟩ := List.mem_map.mp hp
    show I.N[i]? = some (I.N.getD i "")
    rw [List.getD_eq_getElem?_getD, List.getElem?_eq_getElem (h3 i hi)]
    rfl
  · rcases h4 y hy with (q | q) | q
    · exact (q e).elim
    · exact .inl q
    · exact .inr q
  · rcases h5 y hy with (q | q) | q
    · rcases e with e | e
      · exact (q.1 e).elim
      · exact (q.2 e).elim
    · exact .inl q
    · exact .inr q
theorem blkC (C : Cg tb lv I X) {scope : Scope} (hk : scope.kind = .function) (s : Shared) (H : Hp) (Ca : Addr) (cl : List (Str × Addr)) (fp : List Addr) : Cg tb lv (I.blk scope) (X.blk s H scope (compEnvC scope cl Ca X.env) fp) where
  hN := C.hN
  nd := C.nd
  hsc := by
    show relS scope X.env.scope = relS scope I.sc
    rw [C.hsc]
  kind := hk
  calm := C.calm
  room := C.room
  fnc := fun x h => h
  gds := C.gds
  tk := C.tk
  xe := PassesOwn.never
end
end PL
end

section
set_option Elab.async false
set_option linter.all false
set_option autoImplicit false
set_option maxRecDepth 100000
set_option maxHeartbeats 4000000
/-! PLv: a checked expression means what it says. -/
namespace PL
open PySem PySem.Spec PyProof.Rows L2

theorem isSet_marks {op : CmpOp} {e : Expr} (h : isSetD e = false) : behindInMarks op e = false := by
  cases e <;> first | rfl | cases h
theorem blk_kind {I : Inf} {scope : Scope} {own : List Nat} (h : blkB I scope own = true) : scope.kind = .function := by
  unfold blkB at h
  simp only [Bool.and_eq_true, decide_eq_true_eq] at h
  exact h.1.1.1.1
theorem own_snd (I : Inf) (own : List Nat) : (ownP I own).map (·.2) = own := by
  unfold ownP
  rw [List.map_map]
  show own.map (fun i => i) = own
  simp
theorem star_of {tb : Tab} {X : Cx} : ∀ {as : As} {I : Inf} {es : List Expr}, chkA as I es = true → es.any isStar = false
  | .nil, I, es, h => by
    simp only [chkA, List.isEmpty_iff] at h
    subst h; rfl
  | .cons a r, I, es, h => by
    simp only [chkA] at h
    split at h
    · simp only [Bool.and_eq_true, Bool.not_eq_true'] at h
      rw [List.any_cons, h.1.1, star_of (tb := tb) (X := X) h.2]; rfl
    · cases h
theorem kw_ok {env : Env} {pos : Pos} : ∀ {kws : List Keyword} {ks : List Str}, kws.map (·.arg) = ks.map some → (backToKw pos (keywordEach kws env)).all (·.1.isSome) = true ∧ (backToKw pos (keywordEach kws env)).filterMap (·.1) = ks ∧
    ((backTo pos (starEach [] env)).any (·.1) || (backToKw pos (keywordEach kws env)).any (·.1.isNone)) = false
  | [], [], _ => ⟨rfl, rfl, rfl⟩
  | [], _ :: _, h => by simp at h
  | _ :: _, [], h => by simp at h
  | ⟨nm, v, kp⟩ :: kws, k :: ks, h => by
    simp only [List.map_cons, List.cons.injEq] at h
    obtain ⟨h1, h2⟩ := h
    obtain ⟨q1, q2, q3⟩ := kw_ok (env := env) (pos := pos) h2
    have q3 : (false || (backToKw pos (keywordEach kws env)).any (·.1.isNone)) = false := q3
    subst h1
    have e : backToKw pos (keywordEach (⟨some k, v, kp⟩ :: kws) env) = (some k, do let w ← eval v env; standAt pos; pure w) :: backToKw pos (keywordEach kws env) := rfl
    rw [e]
    refine ⟨by rw [List.all_cons, q1]; rfl, by simp only [List.filterMap_cons]; rw [q2], ?_⟩
    show (false || ((Option.isNone (some k)) || (backToKw pos (keywordEach kws env)).any (·.1.isNone))) = false
    rw [Bool.false_or] at q3
    rw [q3]; rfl
def isBoolE : Expr → Bool
  | .BoolOp .. => true
  | _ => false
section
variable {tb : Tab} {lv : Nat}
theorem m2_ok {X : Cx} {o y z : Expr} {m : Str} {q p : Pos} (h1 : isCall o = false) (h2 : (q.endLine == p.line) = true) (h3 : isStar y = false) (h4 : isStar z = false) : M2 X o m q y z p where
  base := plain_base h1 _ _
  few := by rw [star_cons h3, star_cons h4]; rfl
  line := h2
  trees := by rw [star_cons h3, star_cons h4]; rfl
mutual
theorem sE : ∀ (p : P) {I : Inf} {X : Cx} {e : Expr}, Cg tb lv I X → chkE p I e = true → PE X e (tE X.K tb p)
  | .var i, I, X, e, C, h => e_var (name_ok C (by simpa only [chkE] using h))
  | .mv i, I, X, e, C, h => e_mv (name_ok C (by simpa only [chkE] using h))
  | .pr a b, I, X, e, C, h => by
    simp only [chkE] at h
    split at h
    · rename_i x y hv
      simp only [Bool.and_eq_true, Bool.not_eq_true'] at h
      obtain ⟨⟨⟨h1, h2⟩, h3⟩, h4⟩ := h
      obtain ⟨k, p, rfl⟩ := vTup_eq hv
      exact e_pr (sE a C h3) (sE b C h4) (star_cons h1) (star_cons h2)
    · cases h
  | .int n, I, X, e, C, h => by
    simp only [chkE, decide_eq_true_eq] at h
    obtain ⟨k, p, rfl⟩ := vConst_eq h
    exact e_const pe_int (fun _ _ w => w) (fun _ => .int _)
  | .bl b, I, X, e, C, h => by
    simp only [chkE, decide_eq_true_eq] at h
    obtain ⟨k, p, rfl⟩ := vConst_eq h
    exact e_const pe_bl (fun _ _ w => w) (fun _ => .bl _)
  | .non, I, X, e, C, h => by
    simp only [chkE, decide_eq_true_eq] at h
    obtain ⟨k, p, rfl⟩ := vConst_eq h
    exact e_const pe_non (fun _ _ w => w) (fun _ => .non)
  | .str x, I, X, e, C, h => by
    simp only [chkE, decide_eq_true_eq] at h
    obtain ⟨k, p, rfl⟩ := vConst_eq h
    exact e_const pe_str (fun _ _ w => w) (fun _ => .str _)
  | .glob x, I, X, e, C, h => by
    simp only [chkE] at h
    obtain ⟨p, rfl, hg, hd⟩ := gl_ok C h
    refine ⟨fun pins s σ H Q Iv q => ?_⟩
    obtain ⟨env, F, R, d, hd', w⟩ := q
    obtain ⟨v, u, hm, rv, rp⟩ := C.tk.gl x d hd'
    exact (pe_glob hg hm rv hd).run pins s σ H Q Iv (w v F H R (Tr.refl _ _ _ _) (rp F))
  | .bin o a b, I, X, e, C, h => by
    simp only [chkE] at h
    split at h
    · rename_i o' x y hv
      simp only [Bool.and_eq_true, decide_eq_true_eq] at h
      obtain ⟨⟨rfl, h1⟩, h2⟩ := h
      obtain ⟨p, rfl⟩ := vBin_eq hv
      exact e_bin (sE a C h1) (sE b C h2)
    · cases h
  | .neg a, I, X, e, C, h => by
    simp only [chkE] at h
    split at h
    · rename_i x hv
      obtain ⟨p, rfl⟩ := vUn_eq hv
      exact e_neg (sE a C h)
    · cases h
  | .cmp o a b, I, X, e, C, h => by
    simp only [chkE] at h
    split at h
    · rename_i x o' y hv
      simp only [Bool.and_eq_true, decide_eq_true_eq, Bool.not_eq_true'] at h
      obtain ⟨⟨⟨rfl, h0⟩, h1⟩, h2⟩ := h
      obtain ⟨p, rfl⟩ := vCmp_eq hv
      exact e_cmp (units_ok C) (sE a C h1) (sE b C h2) (isSet_marks h0)
    · cases h
  | .cmpB o a i, I, X, e, C, h => by
    simp only [chkE] at h
    split at h
    · rename_i x o' y hv
      simp only [Bool.and_eq_true, decide_eq_true_eq, Bool.not_eq_true'] at h
      obtain ⟨⟨⟨rfl, h0⟩, h1⟩, h2⟩ := h
      obtain ⟨p, rfl⟩ := vCmp_eq hv
      exact e_cmpB (units_ok C) (sE a C h1) (name_ok C h2) (isSet_marks h0)
    · cases h
  | .cmpL o i b, I, X, e, C, h => by
    simp only [chkE] at h
    split at h
    · rename_i x o' y hv
      simp only [Bool.and_eq_true, decide_eq_true_eq, Bool.not_eq_true'] at h
      obtain ⟨⟨⟨rfl, h0⟩, h1⟩, h2⟩ := h
      obtain ⟨p, rfl⟩ := vCmp_eq hv
      exact e_cmpL (units_ok C) (name_ok C h1) (sE b C h2) (isSet_marks h0)
    · cases h
  | .chain o o2 a b c, I, X, e, C, h => by
    simp only [chkE] at h
    split at h
    · rename_i x o' o2' y z hv
      simp only [Bool.and_eq_true, decide_eq_true_eq, Bool.not_eq_true'] at h
      obtain ⟨⟨⟨⟨⟨rfl, rfl⟩, h0⟩, h1⟩, h2⟩, h3⟩ := h
      obtain ⟨p, rfl⟩ := vCmp_eq hv
      exact e_chain (units_ok C) (sE a C h1) (sE b C h2) (sE c C h3) (isSet_marks h0)
    · cases h
  | .and a b, I, X, e, C, h => by
    simp only [chkE] at h
    split at h
    · rename_i x y p hv
      simp only [Bool.and_eq_true] at h
      have := vBool_eq hv; subst this
      exact e_and (sE a C h.1) (e_one (sE b C h.2))
    · rename_i x y z r p hv
      simp only [Bool.and_eq_true] at h
      have := vBool_eq hv; subst this
      exact e_and (sE a C h.1) (sE b C h.2)
    · cases h
  | .or a b, I, X, e, C, h => by
    simp only [chkE] at h
    split at h
    · rename_i x y p hv
      simp only [Bool.and_eq_true] at h
      have := vBool_eq hv; subst this
      exact e_or (sE a C h.1) (e_one (sE b C h.2))
    · rename_i x y z r p hv
      simp only [Bool.and_eq_true] at h
      have := vBool_eq hv; subst this
      exact e_or (sE a C h.1) (sE b C h.2)
    · cases h
  | .not a, I, X, e, C, h => by
    simp only [chkE] at h
    split at h
    · rename_i x hv
      obtain ⟨p, rfl⟩ := vUn_eq hv
      exact e_not (sE a C h)
    · cases h
  | .ife t a b, I, X, e, C, h => by
    simp only [chkE] at h
    split at h
    · rename_i c x y hv
      simp only [Bool.and_eq_true] at h
      obtain ⟨p, rfl⟩ := vIf_eq hv
      exact e_ife (sT t C h.1.1).1 (sE a C h.1.2) (sE b C h.2)
    · cases h
  | .tup as, I, X, e, C, h => by
    simp only [chkE] at h
    split at h
    · rename_i es hv
      simp only [Bool.and_eq_true, decide_eq_true_eq] at h
      obtain ⟨k, p, rfl⟩ := vTup_eq hv
      exact e_tup h.1 (sAs as C h.2)
    · cases h
  | .lst as, I, X, e, C, h => by
    simp only [chkE] at h
    split at h
    · rename_i es hv
      simp only [Bool.and_eq_true, decide_eq_true_eq] at h
      obtain ⟨p, rfl⟩ := vLst_eq hv
      exact e_lst h.1 (sAs as C h.2)
    · cases h
  | .ix a b, I, X, e, C, h => by
    simp only [chkE] at h
    split at h
    · rename_i x y hv
      simp only [Bool.and_eq_true, Bool.not_eq_true'] at h
      obtain ⟨p, rfl⟩ := vSub_eq hv
      exact e_ix (units_ok C) (plain_ix h.1.1) (sE a C h.1.2) (sE b C h.2)
    · cases h
  | .ixB i b, I, X, e, C, h => by
    simp only [chkE] at h
    split at h
    · rename_i x y hv
      simp only [Bool.and_eq_true, Bool.not_eq_true'] at h
      obtain ⟨p, rfl⟩ := vSub_eq hv
      exact e_ixB (units_ok C) (plain_ix h.1.1) (name_ok C h.1.2) (sE b C h.2)
    · cases h
  | .slc a lo hi, I, X, e, C, h => by
    simp only [chkE] at h
    split at h
    · rename_i x y hv
      split at h
      · rename_i l u hs
        simp only [Bool.and_eq_true] at h
        obtain ⟨p, rfl⟩ := vSub_eq hv
        obtain ⟨p2, rfl⟩ := vSlice_eq hs
        exact e_slc (sE a C h.1.1) (sO lo C h.1.2) (sO hi C h.2)
      · cases h
    · cases h
  | .rev a, I, X, e, C, h => by
    simp only [chkE] at h
    split at h
    · rename_i x y hv
      split at h
      · rename_i z hs
        split at h
        · rename_i w hu
          simp only [Bool.and_eq_true, decide_eq_true_eq] at h
          obtain ⟨p, rfl⟩ := vSub_eq hv
          obtain ⟨p2, rfl⟩ := vSlice_eq hs
          obtain ⟨p3, rfl⟩ := vUn_eq hu
          obtain ⟨k, p4, rfl⟩ := vConst_eq h.1
          exact e_rev (sE a C h.2)
        · cases h
      · cases h
    · cases h
  | .call x nd as, I, X, e, C, h => by
    simp only [chkE] at h
    split at h
    · rename_i f es p hv
      simp only [Bool.and_eq_true] at h
      have := vCall_eq hv; subst this
      obtain ⟨p2, rfl, hg, hd⟩ := gl_ok C h.1
      have hs := star_of (tb := tb) (X := X) h.2
      cases es with
      | nil =>
        cases as with
        | nil => exact e_call0 C.room (fun en he => C.tk.fn x en he) hg hd
        | cons a r =>
          have h2 := h.2
          simp only [chkA] at h2
          cases h2
      | cons y ys =>
        rw [List.any_cons, Bool.or_eq_false_iff] at hs
        exact e_call C.room (fun en he => C.tk.fn x en he) hg (sAs as C h.2) hd (star_cons hs.1) (star_any hs.2)
    · cases h
  | .callK x ks as, I, X, e, C, h => by
    simp only [chkE] at h
    split at h
    · rename_i f kws p hv
      simp only [Bool.and_eq_true, decide_eq_true_eq] at h
      obtain ⟨⟨⟨h1, h2⟩, h3⟩, h4⟩ := h
      have := vCall_eq hv; subst this
      obtain ⟨p2, rfl, hg, hd⟩ := gl_ok C h1
      obtain ⟨q1, q2, q3⟩ := kw_ok (env := X.env) (pos := p) h2
      exact e_callK C.room (fun en he => C.tk.fn x en he) hg h3 (sK as C h4) hd q1 q2 q3
    · cases h
  | .callW x i as, I, X, e, C, h => by
    simp only [chkE] at h
    split at h
    · rename_i f y es p hv
      simp only [Bool.and_eq_true, Bool.not_eq_true'] at h
      obtain ⟨⟨⟨h1, h2⟩, h3⟩, h4⟩ := h
      have := vCall_eq hv; subst this
      obtain ⟨p2, rfl, hg, hd⟩ := gl_ok C h1
      exact e_callW C.room (fun en he => C.tk.fn x en he) hg (name_ok C h3) (sAs as C h4) hd (star_cons h2) (star_any (star_of (tb := tb) (X := X) h4))
    · cases h
  | .bi b as, I, X, e, C, h => by
    simp only [chkE] at h
    split at h
    · rename_i f y es p hv
      simp only [Bool.and_eq_true, Bool.or_eq_true, Bool.not_eq_true', decide_eq_false_iff_not] at h
      obtain ⟨⟨h1, h2⟩, h4⟩ := h
      have := vCall_eq hv; subst this
      obtain ⟨p2, rfl, hg, hd⟩ := gl_ok C h1
      have hs := star_of (tb := tb) (X := X) h4
      rw [List.any_cons, Bool.or_eq_false_iff] at hs
      exact e_bi C.calm (units_ok C) (fun hb => C.gds (h2.elim (fun z => (z hb).elim) id)) rfl hg (bi_no C (biN_mem b)) (sAs as C h4) (star_cons hs.1) (star_any hs.2)
    · cases h
  | .lenB i, I, X, e, C, h => by
    simp only [chkE] at h
    split at h
    · rename_i f y p hv
      simp only [Bool.and_eq_true, Bool.not_eq_true'] at h
      have := vCall_eq hv; subst this
      obtain ⟨p2, rfl, hg, hd⟩ := gl_ok C h.1.1
      exact e_lenB hg (bi_no C (by decide)) (name_ok C h.2) (star_cons h.1.2)
    · cases h
  | .isi ks a, I, X, e, C, h => by
    simp only [chkE] at h
    split at h
    · rename_i f x k p hv
      simp only [Bool.and_eq_true, Bool.not_eq_true'] at h
      obtain ⟨⟨⟨⟨h1, h2⟩, h3⟩, h4⟩, h5⟩ := h
      have := vCall_eq hv; subst this
      obtain ⟨p2, rfl, hg, hd⟩ := gl_ok C h1
      have hm := bi_no C (x := "isinstance") (by decide)
      have hst : (backTo p (starEach [k] X.env)).any (·.1) = false := star_any (by simp [h3])
      unfold chkKs at h5
      split at h5
      · rename_i es ht
        simp only [Bool.and_eq_true, decide_eq_true_eq] at h5
        obtain ⟨m, p3, rfl⟩ := vTup_eq ht
        exact e_isiT hg hm (ks_ok C h5.1) h5.2 (sE a C h4) (star_cons h2) (star_cons h3) hst
      · split at h5
        · rename_i k0
          obtain ⟨p3, rfl, hgk, _⟩ := gl_ok C h5
          exact e_isi1 hg hm hgk (bi_no C (kdN_mem k0)) (sE a C h4) (star_cons h2) (star_cons h3) hst
        · cases h5
    · cases h
  | .lc own it g ts e', I, X, e, C, h => by
    simp only [chkE] at h
    split at h
    · rename_i elt tg iter ifs as scope hv
      simp only [Bool.and_eq_true, Bool.not_eq_true', decide_eq_true_eq, List.all_eq_true] at h
      obtain ⟨⟨⟨⟨⟨⟨⟨rfl, h1⟩, h2⟩, h3⟩, h4⟩, h5⟩, h6⟩, h7⟩ := h
      obtain ⟨p, rfl⟩ := vLC_eq hv
      have bk := blk_kind h2
      have key := e_lc (X := X) (tb := tb) (own := ownP I own) (it := it) (g := g) (ts := ts) (e := e') (pos := p) C.calm (by rw [C.hN]; exact C.nd) (sI it C h3) (blk_ok C h2) (by rw [own_snd]; exact h4)
        (fun s H Ca cl fp => g_okC (blkC C bk s H Ca cl fp) h5) (fun s H Ca cl fp => sTs ts (blkC C bk s H Ca cl fp) h6) (fun s H Ca cl fp => sE e' (blkC C bk s H Ca cl fp) h7) (plain_set h1)
      rw [own_snd] at key
      exact key
    · cases h
  | .index a b, I, X, e, C, h => by
    simp only [chkE] at h
    split at h
    · rename_i f y p hv
      split at h
      · rename_i o n q ha
        simp only [Bool.and_eq_true, Bool.not_eq_true', decide_eq_true_eq] at h
        obtain ⟨⟨⟨⟨⟨rfl, h1⟩, h2⟩, h3⟩, h4⟩, h5⟩ := h
        have := vCall_eq hv; subst this
        have := vAttr_eq ha; subst this
        exact e_index (units_ok C) (sE a C h4) (sE b C h5) (plain_base h2 _ _) (by rw [star_cons h3]; rfl) h1 (star_cons h3)
      · cases h
    · cases h
  | .fz a, I, X, e, C, h => e_fz (sE a C (by simpa only [chkE] using h))
  | .dnew, I, X, e, C, h => by
    obtain ⟨p, rfl⟩ := isD0_eq (show isD0 e = true by simpa only [chkE] using h)
    exact e_dnew
  | .dget a k x, I, X, e, C, h => by
    simp only [chkE] at h
    split at h
    · rename_i f y z p hv
      split at h
      · rename_i o n q ha
        simp only [Bool.and_eq_true, Bool.not_eq_true', decide_eq_true_eq] at h
        obtain ⟨⟨⟨⟨⟨⟨⟨rfl, h1⟩, h2⟩, h3⟩, h3'⟩, h4⟩, h5⟩, h6⟩ := h
        have := vCall_eq hv; subst this
        have := vAttr_eq ha; subst this
        exact e_dget (units_ok C) (sE a C h4) (sE k C h5) (sE x C h6) (m2_ok h2 h1 h3 h3')
      · cases h
    · cases h
  | .dgetB i k x, I, X, e, C, h => by
    simp only [chkE] at h
    split at h
    · rename_i f y z p hv
      split at h
      · rename_i o n q ha
        simp only [Bool.and_eq_true, Bool.not_eq_true', decide_eq_true_eq] at h
        obtain ⟨⟨⟨⟨⟨⟨⟨rfl, h1⟩, h2⟩, h3⟩, h3'⟩, h4⟩, h5⟩, h6⟩ := h
        have := vCall_eq hv; subst this
        have := vAttr_eq ha; subst this
        exact e_dgetB (units_ok C) (name_ok C h4) (sE k C h5) (sE x C h6) (m2_ok h2 h1 h3 h3')
      · cases h
    · cases h
  | .dc own it g ts k v, I, X, e, C, h => by
    simp only [chkE] at h
    split at h
    · rename_i kx vx tg iter ifs as scope hv
      simp only [Bool.and_eq_true, Bool.not_eq_true', decide_eq_true_eq, List.all_eq_true] at h
      obtain ⟨⟨⟨⟨⟨⟨⟨⟨rfl, h1⟩, h2⟩, h3⟩, h4⟩, h5⟩, h6⟩, h7⟩, h8⟩ := h
      obtain ⟨p, rfl⟩ := vDC_eq hv
      have bk := blk_kind h2
      have key := e_dc (X := X) (tb := tb) (own := ownP I own) (it := it) (g := g) (ts := ts) (ke := k) (ve := v) (pos := p) C.calm (by rw [C.hN]; exact C.nd) (sI it C h3) (blk_ok C h2) (by rw [own_snd]; exact h4)
        (fun s H Ca cl fp => g_okC (blkC C bk s H Ca cl fp) h5) (fun s H Ca cl fp => sTs ts (blkC C bk s H Ca cl fp) h6) (fun s H Ca cl fp => sE k (blkC C bk s H Ca cl fp) h7) (fun s H Ca cl fp => sE v (blkC C bk s H Ca cl fp) h8) (plain_set h1)
      rw [own_snd] at key
      exact key
    · cases h
  | .lc2 own own1 it g ts it1 g1 ts1 e', I, X, e, C, h => by
    simp only [chkE] at h
    split at h
    · rename_i elt tg iter ifs as tg1 iter1 ifs1 as1 scope hv
      simp only [Bool.and_eq_true, Bool.not_eq_true', decide_eq_true_eq, List.all_eq_true] at h
      obtain ⟨⟨⟨⟨⟨⟨⟨⟨⟨⟨⟨⟨⟨⟨rfl, rfl⟩, h1⟩, h1'⟩, h2⟩, h3⟩, ho⟩, h4⟩, h4'⟩, h5⟩, h6⟩, h7⟩, h8⟩, h9⟩, h10⟩ := h
      obtain ⟨p, rfl⟩ := vLC_eq hv
      have bk := blk_kind h2
      have key := e_lc2 (X := X) (tb := tb) (own := ownP I own) (own1 := own1) (it := it) (it1 := it1) (g := g) (g1 := g1) (ts := ts) (ts1 := ts1) (e := e') (pos := p) C.calm (by rw [C.hN]; exact C.nd) (sI it C h3) (blk_ok C h2) (by rw [own_snd]; exact ho) (by rw [own_snd]; exact h4) h4'
        (fun s H Ca cl fp => g_okC (blkC C bk s H Ca cl fp) h5) (fun s H Ca cl fp => sTs ts (blkC C bk s H Ca cl fp) h6) (fun s H Ca cl fp => sI it1 (blkC C bk s H Ca cl fp) h7) (fun s H Ca cl fp => g_okC (blkC C bk s H Ca cl fp) h8) (fun s H Ca cl fp => sTs ts1 (blkC C bk s H Ca cl fp) h9) (fun s H Ca cl fp => sE e' (blkC C bk s H Ca cl fp) h10) (plain_set h1) (fun env => plain_set (env := env) h1')
      rw [own_snd] at key
      exact key
    · cases h
  | .pop i k, I, X, e, C, h => by
    simp only [chkE] at h
    split at h
    · rename_i f y p hv
      split at h
      · rename_i o n q ha
        simp only [Bool.and_eq_true, Bool.not_eq_true', decide_eq_true_eq] at h
        obtain ⟨⟨⟨⟨⟨rfl, h1⟩, h2⟩, h3⟩, h4⟩, h5⟩ := h
        have := vCall_eq hv; subst this
        have := vAttr_eq ha; subst this
        exact (pe_bm (X := X) PySem.F.plainAttrs_list PySem.F.slot_list_pop PySem.F.type_list_pop mt_popAt (name_ok C h4) (pa_cons (sE k C h5) pa_nil (star_cons h3)) (plain_base h2 _ _) (by rw [star_cons h3]; rfl) h1 (star_cons h3) rfl).imp fun σ H Q w => e_pop w
      · cases h
    · cases h
  | .rgl1 t a, I, X, e, C, h => by
    simp only [chkE] at h
    split at h
    · rename_i f y p hv
      split at h
      · rename_i g x p2 hv2
        simp only [Bool.and_eq_true, Bool.not_eq_true'] at h
        obtain ⟨⟨h1, h2⟩, ⟨h3, h4⟩, h5⟩ := h
        have := vCall_eq hv; subst this
        have := vCall_eq hv2; subst this
        obtain ⟨p3, rfl, hg, hd⟩ := gl_ok C h1
        obtain ⟨p4, rfl, hg2, hd2⟩ := gl_ok C h3
        exact e_rgl1 C.calm hg (bi_no C (by cases t <;> decide)) hg2 (bi_no C (by decide)) (sE a C h5) (star_cons h4) (star_cons h2)
      · rw [Bool.and_false] at h; cases h
    · cases h
  | .rgl2 t a b, I, X, e, C, h => by
    simp only [chkE] at h
    split at h
    · rename_i f y p hv
      split at h
      · rename_i g x z p2 hv2
        simp only [Bool.and_eq_true, Bool.not_eq_true'] at h
        obtain ⟨⟨h1, h2⟩, ⟨⟨⟨h3, h4⟩, h5⟩, h6⟩, h7⟩ := h
        have := vCall_eq hv; subst this
        have := vCall_eq hv2; subst this
        obtain ⟨p3, rfl, hg, hd⟩ := gl_ok C h1
        obtain ⟨p4, rfl, hg2, hd2⟩ := gl_ok C h3
        exact e_rgl2 C.calm hg (bi_no C (by cases t <;> decide)) hg2 (bi_no C (by decide)) (sE a C h6) (sE b C h7) (star_cons h4) (star_cons h5) (by rw [star_cons h5]; rfl) (star_cons h2)
      · rw [Bool.and_false] at h; cases h
    · cases h
theorem sT : ∀ (p : T) {I : Inf} {X : Cx} {e : Expr}, Cg tb lv I X → chkT p I e = true → PT X e (tT X.K tb p) ∧ (isBoolE e = true → PW X e (tT X.K tb p))
  | .val a, I, X, e, C, h => by
    simp only [chkT, Bool.and_eq_true, Bool.not_eq_true'] at h
    refine ⟨t_val (sE a C h.2) (plain_tst h.1), fun z => ?_⟩
    obtain ⟨h1, _⟩ := h
    cases e with
    | BoolOp o es p => cases h1
    | _ => cases z
  | .cmp o a b, I, X, e, C, h => by
    simp only [chkT] at h
    split at h
    · rename_i x o' y hv
      simp only [Bool.and_eq_true, decide_eq_true_eq, Bool.not_eq_true'] at h
      obtain ⟨⟨⟨rfl, h0⟩, h1⟩, h2⟩ := h
      obtain ⟨p, rfl⟩ := vCmp_eq hv
      exact ⟨t_cmp (units_ok C) (sE a C h1) (sE b C h2) (isSet_marks h0), fun z => by cases z⟩
    · cases h
  | .cmpB o a i, I, X, e, C, h => by
    simp only [chkT] at h
    split at h
    · rename_i x o' y hv
      simp only [Bool.and_eq_true, decide_eq_true_eq, Bool.not_eq_true'] at h
      obtain ⟨⟨⟨rfl, h0⟩, h1⟩, h2⟩ := h
      obtain ⟨p, rfl⟩ := vCmp_eq hv
      exact ⟨t_cmpB (units_ok C) (sE a C h1) (name_ok C h2) (isSet_marks h0), fun z => by cases z⟩
    · cases h
  | .cmpL o i b, I, X, e, C, h => by
    simp only [chkT] at h
    split at h
    · rename_i x o' y hv
      simp only [Bool.and_eq_true, decide_eq_true_eq, Bool.not_eq_true'] at h
      obtain ⟨⟨⟨rfl, h0⟩, h1⟩, h2⟩ := h
      obtain ⟨p, rfl⟩ := vCmp_eq hv
      exact ⟨t_cmpL (units_ok C) (name_ok C h1) (sE b C h2) (isSet_marks h0), fun z => by cases z⟩
    · cases h
  | .chain o o2 a b c, I, X, e, C, h => by
    simp only [chkT] at h
    split at h
    · rename_i x o' o2' y z hv
      simp only [Bool.and_eq_true, decide_eq_true_eq, Bool.not_eq_true'] at h
      obtain ⟨⟨⟨⟨⟨rfl, rfl⟩, h0⟩, h1⟩, h2⟩, h3⟩ := h
      obtain ⟨p, rfl⟩ := vCmp_eq hv
      exact ⟨t_chain (units_ok C) (sE a C h1) (sE b C h2) (sE c C h3) (isSet_marks h0), fun z => by cases z⟩
    · cases h
  | .and a b, I, X, e, C, h => by
    simp only [chkT] at h
    split at h
    · rename_i x y p hv
      simp only [Bool.and_eq_true] at h
      have := vBool_eq hv; subst this
      have key := t_and (pos := p) (sT a C h.1).1 (pw_and1 (sT b C h.2).1)
      exact ⟨key.pt, fun _ => key⟩
    · rename_i x y z r p hv
      simp only [Bool.and_eq_true] at h
      have := vBool_eq hv; subst this
      have key := t_and (pos := p) (sT a C h.1).1 ((sT b C h.2).2 rfl)
      exact ⟨key.pt, fun _ => key⟩
    · cases h
  | .or a b, I, X, e, C, h => by
    simp only [chkT] at h
    split at h
    · rename_i x y p hv
      simp only [Bool.and_eq_true] at h
      have := vBool_eq hv; subst this
      have key := t_or (pos := p) (sT a C h.1).1 (pw_or1 (sT b C h.2).1)
      exact ⟨key.pt, fun _ => key⟩
    · rename_i x y z r p hv
      simp only [Bool.and_eq_true] at h
      have := vBool_eq hv; subst this
      have key := t_or (pos := p) (sT a C h.1).1 ((sT b C h.2).2 rfl)
      exact ⟨key.pt, fun _ => key⟩
    · cases h
  | .not a, I, X, e, C, h => by
    simp only [chkT] at h
    split at h
    · rename_i x hv
      obtain ⟨p, rfl⟩ := vUn_eq hv
      exact ⟨t_not (sT a C h).1, fun z => by cases z⟩
    · cases h
theorem sAs : ∀ (as : As) {I : Inf} {X : Cx} {es : List Expr}, Cg tb lv I X → chkA as I es = true → PA X es (tA X.K tb as)
  | .nil, I, X, es, C, h => by
    simp only [chkA, List.isEmpty_iff] at h
    subst h; exact a_nil
  | .cons a r, I, X, es, C, h => by
    simp only [chkA] at h
    split at h
    · simp only [Bool.and_eq_true, Bool.not_eq_true'] at h
      exact a_cons (sE a C h.1.2) (sAs r C h.2) (star_cons h.1.1)
    · cases h
theorem sK : ∀ (as : As) {I : Inf} {X : Cx} {kws : List Keyword}, Cg tb lv I X → chkA as I (kws.map (·.value)) = true → PK X kws (tA X.K tb as)
  | .nil, I, X, kws, C, h => by
    simp only [chkA, List.isEmpty_iff, List.map_eq_nil_iff] at h
    subst h; exact k_nil
  | .cons a r, I, X, kws, C, h => by
    cases kws with
    | nil => simp [chkA] at h
    | cons k ks =>
      obtain ⟨nm, v, kp⟩ := k
      simp only [List.map_cons, chkA, Bool.and_eq_true, Bool.not_eq_true'] at h
      exact k_cons (sE a C h.1.2) (sK r C h.2)
theorem sO : ∀ (as : As) {I : Inf} {X : Cx} {o : Option Expr}, Cg tb lv I X → chkO as I o = true → PO X o (tO X.K tb as)
  | .nil, I, X, o, C, h => by
    simp only [chkO, Option.isNone_iff_eq_none] at h
    subst h; exact o_nil
  | .cons a r, I, X, o, C, h => by
    simp only [chkO] at h
    split at h
    · simp only [Bool.and_eq_true] at h
      cases r with
      | nil => exact o_cons (sE a C h.1)
      | cons _ _ => cases h.2
    · cases h
theorem sTs : ∀ (ts : Ts) {I : Inf} {X : Cx} {es : List Expr}, Cg tb lv I X → chkTs ts I es = true → PTs X es (tTs X.K tb ts)
  | .nil, I, X, es, C, h => by
    simp only [chkTs, List.isEmpty_iff] at h
    subst h; exact ts_nil
  | .one t, I, X, es, C, h => by
    simp only [chkTs] at h
    split at h
    · exact ts_one (sT t C h).1
    · cases h
theorem sI : ∀ (it : It) {I : Inf} {X : Cx} {tg e : Expr}, Cg tb lv I X → chkI it I tg e = true → PI X tg e (tI X.K tb it)
  | .seq a, I, X, tg, e, C, h => i_seq (sE a C (by simpa only [chkI] using h))
  | .rng1 a, I, X, tg, e, C, h => by
    simp only [chkI] at h
    split at h
    · rename_i f x p hv
      simp only [Bool.and_eq_true, Bool.not_eq_true'] at h
      have := vCall_eq hv; subst this
      obtain ⟨p2, rfl, hg, hd⟩ := gl_ok C h.1.1
      exact i_rng1 hg (bi_no C (by decide)) (sE a C h.2) (star_cons h.1.2)
    · cases h
  | .rng2 a b, I, X, tg, e, C, h => by
    simp only [chkI] at h
    split at h
    · rename_i f x y p hv
      simp only [Bool.and_eq_true, Bool.not_eq_true'] at h
      obtain ⟨⟨⟨⟨h1, h2⟩, h3⟩, h4⟩, h5⟩ := h
      have := vCall_eq hv; subst this
      obtain ⟨p2, rfl, hg, hd⟩ := gl_ok C h1
      exact i_rng2 hg (bi_no C (by decide)) (sE a C h4) (sE b C h5) (by rw [star_cons h2, star_cons h3]; rfl) (star_cons h3)
    · cases h
  | .rng3 a b c, I, X, tg, e, C, h => by
    simp only [chkI] at h
    split at h
    · rename_i f x y z p hv
      simp only [Bool.and_eq_true, Bool.not_eq_true'] at h
      obtain ⟨⟨⟨⟨⟨⟨h1, h2⟩, h3⟩, h3'⟩, h4⟩, h5⟩, h6⟩ := h
      have := vCall_eq hv; subst this
      obtain ⟨p2, rfl, hg, hd⟩ := gl_ok C h1
      exact i_rng3 hg (bi_no C (by decide)) (sE a C h4) (sE b C h5) (sE c C h6) (star_cons h2) (star_cons h3) (star_cons h3') (star_any (by simp [h3, h3']))
    · cases h
  | .enum a, I, X, tg, e, C, h => by
    simp only [chkI] at h
    split at h
    · rename_i f x p hv
      simp only [Bool.and_eq_true, Bool.not_eq_true'] at h
      obtain ⟨⟨⟨h0, h1⟩, h2⟩, h3⟩ := h
      have := vCall_eq hv; subst this
      obtain ⟨es, ht⟩ := Option.isSome_iff_exists.mp h0
      obtain ⟨k, pt, rfl⟩ := vTup_eq ht
      obtain ⟨p2, rfl, hg, hd⟩ := gl_ok C h1
      exact i_enum hg (bi_no C (by decide)) (sE a C h3) (star_cons h2)
    · cases h
  | .zip a b, I, X, tg, e, C, h => by
    simp only [chkI] at h
    split at h
    · rename_i f x y p hv
      simp only [Bool.and_eq_true, Bool.not_eq_true'] at h
      obtain ⟨⟨⟨⟨⟨h0, h1⟩, h2⟩, h3⟩, h4⟩, h5⟩ := h
      have := vCall_eq hv; subst this
      obtain ⟨es, ht⟩ := Option.isSome_iff_exists.mp h0
      obtain ⟨k, pt, rfl⟩ := vTup_eq ht
      obtain ⟨p2, rfl, hg, hd⟩ := gl_ok C h1
      exact i_zip hg (bi_no C (by decide)) (sE a C h4) (sE b C h5) (star_cons h2) (star_cons h3) (star_any (by simp [h3]))
    · cases h
  | .keys a, I, X, tg, e, C, h => i_keys (sE a C (by simpa only [chkI] using h))
  | .items a, I, X, tg, e, C, h => by
    simp only [chkI] at h
    split at h
    · rename_i f p hv
      split at h
      · rename_i o n q ha
        simp only [Bool.and_eq_true, Bool.not_eq_true', decide_eq_true_eq] at h
        obtain ⟨⟨⟨⟨h0, rfl⟩, h1⟩, h2⟩, h3⟩ := h
        have := vCall_eq hv; subst this
        have := vAttr_eq ha; subst this
        obtain ⟨es, ht⟩ := Option.isSome_iff_exists.mp h0
        obtain ⟨k, pt, rfl⟩ := vTup_eq ht
        exact i_items (sE a C h3) (plain_base h2 _ _) h1
      · cases h
    · cases h
end
end
end PL
end

section
set_option Elab.async false
set_option linter.all false
set_option autoImplicit false
set_option maxRecDepth 100000
set_option maxHeartbeats 4000000
/-! PLw: the check of statements. -/
namespace PL
open PySem PySem.Spec PyProof.Rows L2

def swN (sc : Scope) (ts : List Expr) : List Str := ts.filterMap fun
  | .Name id pos => if sc.names.lookup id == some .local && pos.line == ((ts.head?.map (·.pos.line)).getD 0) then some id else none
  | _ => none
def swNo (sc : Scope) (ts vs : List Expr) : Bool :=
  !(ts.length == 2 || ts.length == 3) || ((!(vs.any isStar)) && vs.length == ts.length && ((swN sc ts).length != ts.length || (((swN sc ts).eraseDups.length == (swN sc ts).length) && vs.all (foldedForSure 8))))
def swYes (sc : Scope) (ts vs : List Expr) : Bool :=
  (ts.length == 2 || ts.length == 3) && (!(vs.any isStar)) && vs.length == ts.length && (swN sc ts).length == ts.length && (swN sc ts).eraseDups.length == (swN sc ts).length && !(vs.all (foldedForSure 8)) && !(vs.all (constantsAlone 8))
section
variable {env : Env} {ts vs : List Expr} {k k2 : Nat} {p p2 : Pos}
theorem any_star (h : vs.any isStar = false) : (vs.any fun | .Starred .. => true | _ => false) = false := by
  induction vs with
  | nil => rfl
  | cons v vs ih =>
    rw [List.any_cons, Bool.or_eq_false_iff] at h
    rw [List.any_cons, ih h.2, Bool.or_false]
    cases v <;> first | rfl | cases h.1
theorem sw_no (hk : env.scope.kind = .function) (h : swNo env.scope ts vs = true) : swappedStores [.Tuple ts k p] (.Tuple vs k2 p2) env = pure none := by
  have hb : env.blockKind = .function := by unfold Env.blockKind; rw [hk]; rfl
  unfold swNo at h
  by_cases h1 : (ts.length == 2 || ts.length == 3) = true
  · rw [h1] at h
    simp only [Bool.not_true, Bool.false_or, Bool.and_eq_true, Bool.not_eq_true', Bool.or_eq_true] at h
    obtain ⟨⟨h2, h3⟩, h4⟩ := h
    have h2' := any_star h2
    unfold swappedStores
    have hc : (!(ts.length == 2 || ts.length == 3) || vs.length != ts.length || env.blockKind != .function) = false := by
      rw [h1, hb]; simp only [bne, h3]; rfl
    show (if (!(ts.length == 2 || ts.length == 3) || vs.length != ts.length || env.blockKind != .function) = true then _ else _) = _
    rw [if_neg (by rw [hc]; exact Bool.false_ne_true)]
    show (if (vs.any fun | .Starred .. => true | _ => false) = true then _ else _) = _
    rw [if_neg (by rw [h2']; exact Bool.false_ne_true)]
    show (if ((swN env.scope ts).length != ts.length || (swN env.scope ts).eraseDups.length != (swN env.scope ts).length) = true then _ else _) = _
    rcases h4 with h4 | ⟨h4, h5⟩
    · rw [if_pos (by rw [h4]; rfl)]
    · by_cases h6 : ((swN env.scope ts).length != ts.length) = true
      · rw [if_pos (by rw [h6]; rfl)]
      · rw [if_neg (by simp only [Bool.not_eq_true] at h6; rw [h6]; simp only [bne, h4]; decide)]
        show (if (vs.all (foldedForSure 8)) = true then _ else _) = _
        rw [if_pos h5]
  · unfold swappedStores
    show (if (!(ts.length == 2 || ts.length == 3) || vs.length != ts.length || env.blockKind != .function) = true then _ else _) = _
    rw [if_pos (by simp only [Bool.not_eq_true] at h1; rw [h1]; rfl)]
theorem sw_yes (hk : env.scope.kind = .function) (h : swYes env.scope ts vs = true) : swappedStores [.Tuple ts k p] (.Tuple vs k2 p2) env = pure (some (swN env.scope ts)) := by
  have hb : env.blockKind = .function := by unfold Env.blockKind; rw [hk]; rfl
  unfold swYes at h
  simp only [Bool.and_eq_true, Bool.not_eq_true'] at h
  obtain ⟨⟨⟨⟨⟨⟨h1, h2⟩, h3⟩, h4⟩, h5⟩, h6⟩, h7⟩ := h
  have h2' := any_star h2
  unfold swappedStores
  have hc : (!(ts.length == 2 || ts.length == 3) || vs.length != ts.length || env.blockKind != .function) = false := by
    rw [h1, hb]; simp only [bne, h3]; rfl
  show (if (!(ts.length == 2 || ts.length == 3) || vs.length != ts.length || env.blockKind != .function) = true then _ else _) = _
  rw [if_neg (by rw [hc]; exact Bool.false_ne_true)]
  show (if (vs.any fun | .Starred .. => true | _ => false) = true then _ else _) = _
  rw [if_neg (by rw [h2']; exact Bool.false_ne_true)]
  show (if ((swN env.scope ts).length != ts.length || (swN env.scope ts).eraseDups.length != (swN env.scope ts).length) = true then _ else _) = _
  rw [if_neg (by simp only [bne, h4, h5]; decide)]
  show (if (vs.all (foldedForSure 8)) = true then _ else _) = _
  rw [if_neg (by rw [h6]; exact Bool.false_ne_true)]
  show (if (vs.all (constantsAlone 8)) = true then _ else _) = _
  rw [if_neg (by rw [h7]; exact Bool.false_ne_true)]
  rfl
/-- not a tuple display: nothing is swapped -/
theorem sw_plain {tg e : Expr} (h : vTup e = none) : swappedStores [tg] e env = pure none := by
  unfold swappedStores
  cases e with
  | Tuple es k p => simp [vTup] at h
  | _ => cases tg <;> rfl
theorem sw_eq {elt : Expr} {gs : List Comprehension} {scope : Scope} {pos py : Pos} {y : Str} {l : Nat} (hk : env.scope.kind = .function) :
    swapsWith (.ListComp elt gs scope pos) (some (.Name y py)) l env = pure (decide (env.scope.names.lookup y = some .local) && (py.line == pos.line) && !(scope.names.any fun (n, k) => n == y && (k == .local || k == .cell))) := by
  have hb : env.blockKind = .function := by unfold Env.blockKind; rw [hk]; rfl
  unfold swapsWith
  show (pure (env.blockKind == .function && env.kindOf y == some .local && py.line == pos.line && !(scope.names.any fun (n, k) => n == y && (k == .local || k == .cell))) : Sem Bool) = _
  rw [hb]
  congr 1
  have e : (env.kindOf y == some NameKind.local) = decide (env.scope.names.lookup y = some .local) := by
    show (env.scope.names.lookup y == some NameKind.local) = _
    rw [Bool.eq_iff_iff]
    simp
  rw [e]
  simp
theorem sw_eqD {kx vx : Expr} {gs : List Comprehension} {scope : Scope} {pos py : Pos} {y : Str} {l : Nat} (hk : env.scope.kind = .function) :
    swapsWith (.DictComp kx vx gs scope pos) (some (.Name y py)) l env = pure (decide (env.scope.names.lookup y = some .local) && (py.line == pos.line) && !(scope.names.any fun (n, k) => n == y && (k == .local || k == .cell))) := by
  have hb : env.blockKind = .function := by unfold Env.blockKind; rw [hk]; rfl
  unfold swapsWith
  show (pure (env.blockKind == .function && env.kindOf y == some .local && py.line == pos.line && !(scope.names.any fun (n, k) => n == y && (k == .local || k == .cell))) : Sem Bool) = _
  rw [hb]
  congr 1
  have e : (env.kindOf y == some NameKind.local) = decide (env.scope.names.lookup y = some .local) := by
    show (env.scope.names.lookup y == some NameKind.local) = _
    rw [Bool.eq_iff_iff]
    simp
  rw [e]
  simp
end
def vAsg : Stmt → Option (Expr × Expr)
  | .Assign [t] e _ => some (t, e)
  | _ => none
def vIfS : Stmt → Option (Expr × List Stmt × List Stmt)
  | .If c a b _ => some (c, a, b)
  | _ => none
def vWhl : Stmt → Option (Expr × List Stmt)
  | .While c b [] _ => some (c, b)
  | _ => none
def vFor : Stmt → Option (Expr × Expr × List Stmt)
  | .For t i b [] _ => some (t, i, b)
  | _ => none
def vRet : Stmt → Option (Option Expr)
  | .Return o _ => some o
  | _ => none
def vEx : Stmt → Option Expr
  | .Expr e _ => some e
  | _ => none
theorem vAsg_eq {st : Stmt} {t e} (h : vAsg st = some (t, e)) : ∃ p, st = .Assign [t] e p := by
  unfold vAsg at h; split at h <;> simp at h; obtain ⟨rfl, rfl⟩ := h; exact ⟨_, rfl⟩
theorem vIfS_eq {st : Stmt} {c a b} (h : vIfS st = some (c, a, b)) : ∃ p, st = .If c a b p := by
  unfold vIfS at h; split at h <;> simp at h; obtain ⟨rfl, rfl, rfl⟩ := h; exact ⟨_, rfl⟩
theorem vWhl_eq {st : Stmt} {c b} (h : vWhl st = some (c, b)) : ∃ p, st = .While c b [] p := by
  unfold vWhl at h; split at h <;> simp at h; obtain ⟨rfl, rfl⟩ := h; exact ⟨_, rfl⟩
theorem vFor_eq {st : Stmt} {t i b} (h : vFor st = some (t, i, b)) : ∃ p, st = .For t i b [] p := by
  unfold vFor at h; split at h <;> simp at h; obtain ⟨rfl, rfl, rfl⟩ := h; exact ⟨_, rfl⟩
theorem vRet_eq {st : Stmt} {o} (h : vRet st = some o) : ∃ p, st = .Return o p := by
  unfold vRet at h; split at h <;> simp at h; subst h; exact ⟨_, rfl⟩
theorem vEx_eq {st : Stmt} {e} (h : vEx st = some e) : ∃ p, st = .Expr e p := by
  unfold vEx at h; split at h <;> simp at h; subst h; exact ⟨_, rfl⟩
def isPass : Stmt → Bool
  | .Pass _ => true
  | _ => false
def isBrk : Stmt → Bool
  | .Break _ => true
  | _ => false
def isCnt : Stmt → Bool
  | .Continue _ => true
  | _ => false
def isNonP : P → Bool
  | .non => true
  | _ => false
/-- a comprehension and its text -/
def cpOk (v : Expr) : P → Bool
  | .lc _ _ _ _ _ => (vLC v).isSome
  | .lc2 _ _ _ _ _ _ _ _ _ => (vLC v).isSome
  | .dc _ _ _ _ _ _ => (vDC v).isSome
  | _ => false
def isOne : S → Bool
  | .seq _ _ => false
  | .tmp _ _ _ _ => false
  | _ => true
/-- o.m(y) on one line -/
def methB (I : Inf) (m : Str) (e : Expr) : Option (Expr × Expr) :=
  match vCall e with
  | some (f, [y], [], p) => match vAttr f with
    | some (o, n, q) => if decide (n = m) && (q.endLine == p.line) && !isCall o && !isStar y then some (o, y) else none
    | _ => none
  | _ => none
theorem methB_eq {I : Inf} {m : Str} {e o y : Expr} (h : methB I m e = some (o, y)) : ∃ q p, e = .Call (.Attribute o m q) [y] [] p ∧ (q.endLine == p.line) = true ∧ isCall o = false ∧ isStar y = false := by
  unfold methB at h
  split at h
  · rename_i f y' p hv
    split at h
    · rename_i o' n q ha
      split at h
      · rename_i hc
        simp only [Bool.and_eq_true, decide_eq_true_eq, Bool.not_eq_true'] at hc
        obtain ⟨⟨⟨rfl, h1⟩, h2⟩, h3⟩ := hc
        simp only [Option.some.injEq, Prod.mk.injEq] at h
        obtain ⟨rfl, rfl⟩ := h
        have := vCall_eq hv; subst this
        have := vAttr_eq ha; subst this
        exact ⟨q, p, rfl, h1, h2, h3⟩
      · cases h
    · cases h
  · cases h
def chkTmp (i : Nat) (e : P) (t : T) (r : P) (I : Inf) (s1 s2 s3 : Stmt) : Bool :=
  (match vAsg s1 with
  | some (tg, v) => tgtIx I i tg && !isCp v && chkE e I v
  | _ => false) &&
  (match vIfS s2 with
  | some (c, [a], []) => chkT t I c && (match vRet a with
    | some (some x) => chkE r I x
    | _ => false)
  | _ => false) &&
  (match vEx s3 with
  | some x => match methB I "append" x with
    | some (o, y) => decide (vConst y = some .none) && !isStar o && (match vSub o with
      | some (n, j) => nameIx I i n && decide (vConst j = some (.int 1))
      | _ => false)
    | _ => false
  | _ => false)
def chkS : S → Inf → List Stmt → Bool
  | .skip, _, sts => match sts with
    | [] => true
    | [st] => isPass st
    | _ => false
  | .seq (.tmp i e t r) b, I, sts => match sts with
    | s1 :: s2 :: s3 :: rest => chkTmp i e t r I s1 s2 s3 && chkS b I rest
    | _ => false
  | .seq a b, I, sts => match sts with
    | st :: rest => isOne a && chkS a I [st] && chkS b I rest
    | _ => false
  | .set i e, I, sts => match sts with
    | [st] => match vAsg st with
      | some (tg, v) => tgtIx I i tg && (!isCp v || cpOk v e) && chkE e I v
      | _ => false
    | _ => false
  | .setF i e, I, sts => match sts with
    | [st] => match vAsg st with
      | some (tg, v) => tgtIx I i tg && (!isCp v || cpOk v e) && chkE e I v
      | _ => false
    | _ => false
  | .par is as, I, sts => match sts with
    | [st] => match vAsg st with
      | some (tg, v) => match vTup tg, vTup v with
        | some ts, some vs => tgtsIx I is ts && chkA as I vs && decide (is.length ≤ 1000) && (swNo I.sc ts vs || (swYes I.sc ts vs && decide is.Nodup))
        | _, _ => false
      | _ => false
    | _ => false
  | .unp is e, I, sts => match sts with
    | [st] => match vAsg st with
      | some (tg, v) => match vTup tg, vTup v with
        | some ts, none => tgtsIx I is ts && !isCp v && chkE e I v
        | _, _ => false
      | _ => false
    | _ => false
  | .ite t a b, I, sts => match sts with
    | [st] => match vIfS st with
      | some (c, x, y) => chkT t I c && chkS a I x && chkS b I y
      | _ => false
    | _ => false
  | .whl t b, I, sts => match sts with
    | [st] => match vWhl st with
      | some (c, x) => chkT t I c && chkS b I x
      | _ => false
    | _ => false
  | .for_ g it b, I, sts => match sts with
    | [st] => match vFor st with
      | some (tg, i, x) => !isSetD i && chkI it I tg i && chkG g I tg && chkS b I x
      | _ => false
    | _ => false
  | .ret e, I, sts => match sts with
    | [st] => match vRet st with
      | some (some x) => chkE e I x
      | some none => isNonP e
      | _ => false
    | _ => false
  | .expr e, I, sts => match sts with
    | [st] => match vEx st with
      | some x => !isCp x && chkE e I x
      | _ => false
    | _ => false
  | .app i e, I, sts => match sts with
    | [st] => match vEx st with
      | some x => match methB I "append" x with
        | some (o, y) => nameIx I i o && chkE e I y
        | _ => false
      | _ => false
    | _ => false
  | .ext i e, I, sts => match sts with
    | [st] => match vEx st with
      | some x => match methB I "extend" x with
        | some (o, y) => nameIx I i o && chkE e I y
        | _ => false
      | _ => false
    | _ => false
  | .upd i e, I, sts => match sts with
    | [st] => match vEx st with
      | some x => match methB I "update" x with
        | some (o, y) => nameIx I i o && chkE e I y
        | _ => false
      | _ => false
    | _ => false
  | .setIx i k e, I, sts => match sts with
    | [st] => match vAsg st with
      | some (tg, v) => match vSub tg with
        | some (o, x) => nameIx I i o && !isSlice x && chkE k I x && chkE e I v
        | _ => false
      | _ => false
    | _ => false
  | .tmp _ _ _ _, _, _ => false
  | .brk, _, sts => match sts with
    | [st] => isBrk st
    | _ => false
  | .cnt, _, sts => match sts with
    | [st] => isCnt st
    | _ => false
  | .never, _, _ => true
end PL
end

section
set_option Elab.async false
set_option linter.all false
set_option autoImplicit false
set_option maxRecDepth 100000
set_option maxHeartbeats 4000000
/-! PLx: a checked statement does what it says. -/
namespace PL
open PySem PySem.Spec PyProof.Rows L2

theorem swN2 {sc : Scope} {x y : Str} {px py : Pos} (h : (swN sc [.Name x px, .Name y py]).length = 2) : sc.names.lookup x = some .local ∧ sc.names.lookup y = some .local ∧ swN sc [.Name x px, .Name y py] = [x, y] := by
  unfold swN at h ⊢
  simp only [List.filterMap_cons, List.filterMap_nil] at h ⊢
  generalize e1 : (sc.names.lookup x == some .local && px.line == (([Expr.Name x px, Expr.Name y py].head?.map (·.pos.line)).getD 0)) = b1 at h ⊢
  generalize e2 : (sc.names.lookup y == some .local && py.line == (([Expr.Name x px, Expr.Name y py].head?.map (·.pos.line)).getD 0)) = b2 at h ⊢
  cases b1 <;> cases b2 <;> first
    | (simp only [Bool.and_eq_true, beq_iff_eq] at e1 e2
       exact ⟨e1.1, e2.1, rfl⟩)
    | (exfalso; revert h; simp)
theorem swN3 {sc : Scope} {x y z : Str} {px py pz : Pos} (h : (swN sc [.Name x px, .Name y py, .Name z pz]).length = 3) : sc.names.lookup x = some .local ∧ sc.names.lookup y = some .local ∧ sc.names.lookup z = some .local ∧ swN sc [.Name x px, .Name y py, .Name z pz] = [x, y, z] := by
  unfold swN at h ⊢
  simp only [List.filterMap_cons, List.filterMap_nil] at h ⊢
  generalize e1 : (sc.names.lookup x == some .local && px.line == (([Expr.Name x px, Expr.Name y py, Expr.Name z pz].head?.map (·.pos.line)).getD 0)) = b1 at h ⊢
  generalize e2 : (sc.names.lookup y == some .local && py.line == (([Expr.Name x px, Expr.Name y py, Expr.Name z pz].head?.map (·.pos.line)).getD 0)) = b2 at h ⊢
  generalize e3 : (sc.names.lookup z == some .local && pz.line == (([Expr.Name x px, Expr.Name y py, Expr.Name z pz].head?.map (·.pos.line)).getD 0)) = b3 at h ⊢
  cases b1 <;> cases b2 <;> cases b3 <;> first
    | (simp only [Bool.and_eq_true, beq_iff_eq] at e1 e2 e3
       exact ⟨e1.1, e2.1, e3.1, rfl⟩)
    | (exfalso; revert h; simp)
section
variable {tb : Tab} {lv : Nat} {X : Cx} {I : Inf}
theorem kindX (C : Cg tb lv I X) : X.env.scope.kind = .function := by rw [C.hsc]; exact C.kind
theorem tgt_name {i : Nat} {e : Expr} (h : tgtIx I i e = true) : ∃ x p, e = .Name x p ∧ I.N[i]? = some x := by
  unfold tgtIx at h
  split at h
  · rename_i x hv
    simp only [Bool.and_eq_true, decide_eq_true_eq] at h
    obtain ⟨p, rfl⟩ := vName_eq hv
    exact ⟨x, p, rfl, h.1⟩
  · cases h
theorem sw_name {x : Str} {p : Pos} {e : Expr} {env : Env} : swappedStores [.Name x p] e env = pure none := by
  unfold swappedStores
  cases e <;> rfl
theorem sw_sub {o x : Expr} {p : Pos} {e : Expr} {env : Env} : swappedStores [.Subscript o x p] e env = pure none := by
  unfold swappedStores
  cases e <;> rfl
theorem sub_sole {o x v : Expr} {p : Pos} {l : Nat} {env : Env} : swapsWithSole [.Subscript o x p] v l env = pure false := by
  show swapsWith v (some (.Subscript o x p)) l env = pure false
  unfold swapsWith
  cases v <;> rfl
theorem plain_sole {tg v : Expr} {l : Nat} {env : Env} (h : isCp v = false) : swapsWithSole [tg] v l env = pure false := plain_swap h (some tg) l
theorem asg_one {tg : Expr} {env : Env} (h : isStar tg = false) : (assignEach [tg] env).map (·.2) = [assign tg env] := by
  rw [assign_cons h]; rfl
theorem lc_parts (C : Cg tb lv I X) {own : List Nat} {it : It} {g : G} {ts : Ts} {e' : P} {e : Expr} (h : chkE (.lc own it g ts e') I e = true) :
    ∃ elt tg iter ifs scope pos, e = .ListComp elt [⟨tg, iter, ifs, 0⟩] scope pos ∧ isSetD iter = false ∧ PI X tg iter (tI X.K tb it) ∧ BlkOk X.N X.env.scope scope (ownP I own) ∧ (∀ i ∈ g.sl, i ∈ own) ∧
      (∀ (s : Shared) (H : Hp) (Ca : Addr) (cl : List (Str × Addr)) (fp : List Addr), PG (X.blk s H scope (compEnvC scope cl Ca X.env) fp) tg (gOf X.K g)) ∧
      (∀ (s : Shared) (H : Hp) (Ca : Addr) (cl : List (Str × Addr)) (fp : List Addr), PTs (X.blk s H scope (compEnvC scope cl Ca X.env) fp) ifs (tTs X.K tb ts)) ∧
      (∀ (s : Shared) (H : Hp) (Ca : Addr) (cl : List (Str × Addr)) (fp : List Addr), PE (X.blk s H scope (compEnvC scope cl Ca X.env) fp) elt (tE X.K tb e')) := by
  simp only [chkE] at h
  split at h
  · rename_i elt tg iter ifs as scope hv
    simp only [Bool.and_eq_true, Bool.not_eq_true', decide_eq_true_eq, List.all_eq_true] at h
    obtain ⟨⟨⟨⟨⟨⟨⟨rfl, h1⟩, h2⟩, h3⟩, h4⟩, h5⟩, h6⟩, h7⟩ := h
    obtain ⟨p, rfl⟩ := vLC_eq hv
    have bk := blk_kind h2
    exact ⟨elt, tg, iter, ifs, scope, p, rfl, h1, sI it C h3, blk_ok C h2, h4, fun s H Ca cl fp => g_okC (blkC C bk s H Ca cl fp) h5, fun s H Ca cl fp => sTs ts (blkC C bk s H Ca cl fp) h6, fun s H Ca cl fp => sE e' (blkC C bk s H Ca cl fp) h7⟩
  · cases h
theorem lc2_parts (C : Cg tb lv I X) {own own1 : List Nat} {it it1 : It} {g g1 : G} {ts ts1 : Ts} {e' : P} {e : Expr} (h : chkE (.lc2 own own1 it g ts it1 g1 ts1 e') I e = true) :
    ∃ elt tg iter ifs tg1 iter1 ifs1 scope pos, e = .ListComp elt [⟨tg, iter, ifs, 0⟩, ⟨tg1, iter1, ifs1, 0⟩] scope pos ∧ isSetD iter = false ∧ isSetD iter1 = false ∧ PI X tg iter (tI X.K tb it) ∧ BlkOk X.N X.env.scope scope (ownP I own) ∧ (∀ i ∈ own1, i ∈ own) ∧ (∀ i ∈ g.sl, i ∈ own) ∧ (∀ i ∈ g1.sl, i ∈ own1) ∧
      (∀ (s : Shared) (H : Hp) (Ca : Addr) (cl : List (Str × Addr)) (fp : List Addr), PG (X.blk s H scope (compEnvC scope cl Ca X.env) fp) tg (gOf X.K g)) ∧
      (∀ (s : Shared) (H : Hp) (Ca : Addr) (cl : List (Str × Addr)) (fp : List Addr), PTs (X.blk s H scope (compEnvC scope cl Ca X.env) fp) ifs (tTs X.K tb ts)) ∧
      (∀ (s : Shared) (H : Hp) (Ca : Addr) (cl : List (Str × Addr)) (fp : List Addr), PI (X.blk s H scope (compEnvC scope cl Ca X.env) fp) tg1 iter1 (tI X.K tb it1)) ∧
      (∀ (s : Shared) (H : Hp) (Ca : Addr) (cl : List (Str × Addr)) (fp : List Addr), PG (X.blk s H scope (compEnvC scope cl Ca X.env) fp) tg1 (gOf X.K g1)) ∧
      (∀ (s : Shared) (H : Hp) (Ca : Addr) (cl : List (Str × Addr)) (fp : List Addr), PTs (X.blk s H scope (compEnvC scope cl Ca X.env) fp) ifs1 (tTs X.K tb ts1)) ∧
      (∀ (s : Shared) (H : Hp) (Ca : Addr) (cl : List (Str × Addr)) (fp : List Addr), PE (X.blk s H scope (compEnvC scope cl Ca X.env) fp) elt (tE X.K tb e')) := by
  simp only [chkE] at h
  split at h
  · rename_i elt tg iter ifs as tg1 iter1 ifs1 as1 scope hv
    simp only [Bool.and_eq_true, Bool.not_eq_true', decide_eq_true_eq, List.all_eq_true] at h
    obtain ⟨⟨⟨⟨⟨⟨⟨⟨⟨⟨⟨⟨⟨⟨rfl, rfl⟩, h1⟩, h1'⟩, h2⟩, h3⟩, ho⟩, h4⟩, h4'⟩, h5⟩, h6⟩, h7⟩, h8⟩, h9⟩, h10⟩ := h
    obtain ⟨p, rfl⟩ := vLC_eq hv
    have bk := blk_kind h2
    exact ⟨elt, tg, iter, ifs, tg1, iter1, ifs1, scope, p, rfl, h1, h1', sI it C h3, blk_ok C h2, ho, h4, h4', fun s H Ca cl fp => g_okC (blkC C bk s H Ca cl fp) h5, fun s H Ca cl fp => sTs ts (blkC C bk s H Ca cl fp) h6, fun s H Ca cl fp => sI it1 (blkC C bk s H Ca cl fp) h7, fun s H Ca cl fp => g_okC (blkC C bk s H Ca cl fp) h8, fun s H Ca cl fp => sTs ts1 (blkC C bk s H Ca cl fp) h9, fun s H Ca cl fp => sE e' (blkC C bk s H Ca cl fp) h10⟩
  · cases h
theorem dc_parts (C : Cg tb lv I X) {own : List Nat} {it : It} {g : G} {ts : Ts} {k' v' : P} {e : Expr} (h : chkE (.dc own it g ts k' v') I e = true) :
    ∃ kx vx tg iter ifs scope pos, e = .DictComp kx vx [⟨tg, iter, ifs, 0⟩] scope pos ∧ isSetD iter = false ∧ PI X tg iter (tI X.K tb it) ∧ BlkOk X.N X.env.scope scope (ownP I own) ∧ (∀ i ∈ g.sl, i ∈ own) ∧
      (∀ (s : Shared) (H : Hp) (Ca : Addr) (cl : List (Str × Addr)) (fp : List Addr), PG (X.blk s H scope (compEnvC scope cl Ca X.env) fp) tg (gOf X.K g)) ∧
      (∀ (s : Shared) (H : Hp) (Ca : Addr) (cl : List (Str × Addr)) (fp : List Addr), PTs (X.blk s H scope (compEnvC scope cl Ca X.env) fp) ifs (tTs X.K tb ts)) ∧
      (∀ (s : Shared) (H : Hp) (Ca : Addr) (cl : List (Str × Addr)) (fp : List Addr), PE (X.blk s H scope (compEnvC scope cl Ca X.env) fp) kx (tE X.K tb k')) ∧
      (∀ (s : Shared) (H : Hp) (Ca : Addr) (cl : List (Str × Addr)) (fp : List Addr), PE (X.blk s H scope (compEnvC scope cl Ca X.env) fp) vx (tE X.K tb v')) := by
  simp only [chkE] at h
  split at h
  · rename_i kx vx tg iter ifs as scope hv
    simp only [Bool.and_eq_true, Bool.not_eq_true', decide_eq_true_eq, List.all_eq_true] at h
    obtain ⟨⟨⟨⟨⟨⟨⟨⟨rfl, h1⟩, h2⟩, h3⟩, h4⟩, h5⟩, h6⟩, h7⟩, h8⟩ := h
    obtain ⟨p, rfl⟩ := vDC_eq hv
    have bk := blk_kind h2
    exact ⟨kx, vx, tg, iter, ifs, scope, p, rfl, h1, sI it C h3, blk_ok C h2, h4, fun s H Ca cl fp => g_okC (blkC C bk s H Ca cl fp) h5, fun s H Ca cl fp => sTs ts (blkC C bk s H Ca cl fp) h6, fun s H Ca cl fp => sE k' (blkC C bk s H Ca cl fp) h7, fun s H Ca cl fp => sE v' (blkC C bk s H Ca cl fp) h8⟩
  · cases h
/-- y = {k: v for ..}, the dict stored within the comprehension's own frame -/
theorem ps_setDc {i : Nat} {y : Str} {py : Pos} {kx vx tg iter : Expr} {ifs : List Expr} {scope : Scope} {own : List (Str × Nat)} {pos spos : Pos} {wi : TI} {g : TG} {tt : TT} {tk tv : TE} (calm : X.calm = true) (nodup : X.N.Nodup) (hy : X.N[i]? = some y) (loc : X.env.scope.names.lookup y = some .local)
    (hsw : swapsWith (.DictComp kx vx [⟨tg, iter, ifs, 0⟩] scope pos) (some (.Name y py)) spos.line X.env = pure true) (hi : PI X tg iter wi) (blk : BlkOk X.N X.env.scope scope own)
    (pg : ∀ (s : Shared) (H : Hp) (Ca : Addr) (cl : List (Str × Addr)) (fp : List Addr), PG (X.blk s H scope (compEnvC scope cl Ca X.env) fp) tg g) (pts : ∀ (s : Shared) (H : Hp) (Ca : Addr) (cl : List (Str × Addr)) (fp : List Addr), PTs (X.blk s H scope (compEnvC scope cl Ca X.env) fp) ifs tt)
    (pk : ∀ (s : Shared) (H : Hp) (Ca : Addr) (cl : List (Str × Addr)) (fp : List Addr), PE (X.blk s H scope (compEnvC scope cl Ca X.env) fp) kx tk) (pv : ∀ (s : Shared) (H : Hp) (Ca : Addr) (cl : List (Str × Addr)) (fp : List Addr), PE (X.blk s H scope (compEnvC scope cl Ca X.env) fp) vx tv) (fo : ∀ x, foldedSetIterable iter X.env x = pure x) :
    PS X (.Assign [.Name y py] (.DictComp kx vx [⟨tg, iter, ifs, 0⟩] scope pos) spos) (tAsg (tDc wi g tt tk tv (own.map (·.2))) (gName i)) := by
  refine ⟨fun pins s σ H D I h => ?_⟩
  rw [exec_Assign_Name_used y py (.DictComp kx vx [⟨tg, iter, ifs, 0⟩] scope pos) spos hsw]
  refine wpAny_bind (wpAny_standAt (wpAny_bind ?_))
  show wpAny _ X.A (do let _ ← comprehension (.DictComp kx vx [⟨tg, iter, ifs, 0⟩] scope pos) scope X.env (firstIterPos [⟨tg, iter, ifs, 0⟩] pos) newDict false (eval iter X.env) (some (assign (.Name y py) X.env))) _ _ s
  have hq : tDc wi g tt tk tv (own.map (·.2)) σ H (fun x H1 => gName i x σ H1 D.nx) := h
  refine wpAny_bind (thn (dc_core (Qf := fun _ s' => SP X pins D .next s') calm nodup I hi blk pg pts pk pv fo hq fun L Cc s' m H' I' q ns fpo => ?_) fun _ s' z => wpAny_pure (wpAny_pure z))
  show wpAny _ _ (assign (.Name y py) X.env (.ref L)) _ _ _
  refine wpAny_assign_Name (store_ok2 (v := V.ref L) I' nodup hy (.inl loc) rfl (fun s2 I2 ⟨a, sb, ha⟩ => ?_) (.inr loc))
  obtain ⟨q0, q1, q2, q3, q4, q5⟩ := fpo
  have ne : Cc ≠ a := by
    rcases ha with z | z
    · subst z; exact q1
    · intro e; exact q4 y a z e.symm
  exact ⟨m, ns.sameBut sb ne, fun h3 sb3 => ⟨_, H', I2.turned (t' := s2.toks) (fun b o hb e => (sb3.2 b hb).trans e) q0 q1 q3 q4 q5, q⟩⟩
/-- name = a comprehension -/
theorem comp_asg (C : Cg tb lv I X) {i : Nat} {e : P} {v : Expr} {x : Str} {px pos : Pos} (h1 : tgtIx I i (.Name x px) = true) (hN : I.N[i]? = some x) (h2 : cpOk v e = true) (h3 : chkE e I v = true) : PS X (.Assign [.Name x px] v pos) (tAsg (tE X.K tb e) (gName i)) := by
  obtain ⟨pg, hs⟩ := tgt_ok C h1
  have pe := sE e C h3
  have nd : X.N.Nodup := by rw [C.hN]; exact C.nd
  have hx : X.N[i]? = some x := by rw [C.hN]; exact hN
  cases e with
  | lc own it g ts e' =>
    obtain ⟨elt, tg', iter, ifs, scope, p, rfl, k1, k2, k3, k4, k5, k6, k7⟩ := lc_parts C h3
    have sw := sw_eq (elt := elt) (gs := [⟨tg', iter, ifs, 0⟩]) (scope := scope) (pos := p) (py := px) (y := x) (l := pos.line) (kindX C)
    cases hb : (decide (X.env.scope.names.lookup x = some .local) && (px.line == p.line) && !(scope.names.any fun (n, k) => n == x && (k == .local || k == .cell))) with
    | false =>
      rw [hb] at sw
      exact ps_asg pe pg sw sw_name (asg_one hs)
    | true =>
      rw [hb] at sw
      simp only [Bool.and_eq_true, decide_eq_true_eq] at hb
      have key := ps_setLc (X := X) (i := i) (y := x) (py := px) (pos := p) (spos := pos) (own := ownP I own) C.calm nd hx hb.1.1 sw k2 k3 k5 k6 k7 (plain_set k1)
      rw [own_snd] at key
      exact key.imp fun D σ H q => lc_imp k4 q
  | lc2 own own1 it g ts it1 g1 ts1 e' =>
    obtain ⟨elt, tg', iter, ifs, tg1, iter1, ifs1, scope, p, rfl, k1, k1', k2, k3, ko, k4, k4', k5, k6, k7, k8, k9, k10⟩ := lc2_parts C h3
    have sw := sw_eq (elt := elt) (gs := [⟨tg', iter, ifs, 0⟩, ⟨tg1, iter1, ifs1, 0⟩]) (scope := scope) (pos := p) (py := px) (y := x) (l := pos.line) (kindX C)
    cases hb : (decide (X.env.scope.names.lookup x = some .local) && (px.line == p.line) && !(scope.names.any fun (n, k) => n == x && (k == .local || k == .cell))) with
    | false =>
      rw [hb] at sw
      exact ps_asg pe pg sw sw_name (asg_one hs)
    | true =>
      rw [hb] at sw
      simp only [Bool.and_eq_true, decide_eq_true_eq] at hb
      have key := ps_setLc2 (X := X) (i := i) (y := x) (py := px) (pos := p) (spos := pos) (own := ownP I own) (vs1 := own1) C.calm nd hx hb.1.1 sw k2 k3 (by rw [own_snd]; exact ko) k5 k6 k7 k8 k9 k10 (plain_set k1) (fun env => plain_set (env := env) k1')
      rw [own_snd] at key
      exact key.imp fun D σ H q => lc2_imp k4 k4' ko q
  | dc own it g ts k' v' =>
    obtain ⟨kx, vx, tg', iter, ifs, scope, p, rfl, k1, k2, k3, k4, k5, k6, k7, k8⟩ := dc_parts C h3
    have sw := sw_eqD (kx := kx) (vx := vx) (gs := [⟨tg', iter, ifs, 0⟩]) (scope := scope) (pos := p) (py := px) (y := x) (l := pos.line) (kindX C)
    cases hb : (decide (X.env.scope.names.lookup x = some .local) && (px.line == p.line) && !(scope.names.any fun (n, k) => n == x && (k == .local || k == .cell))) with
    | false =>
      rw [hb] at sw
      exact ps_asg pe pg sw sw_name (asg_one hs)
    | true =>
      rw [hb] at sw
      simp only [Bool.and_eq_true, decide_eq_true_eq] at hb
      have key := ps_setDc (i := i) (y := x) (py := px) (pos := p) (spos := pos) (own := ownP I own) C.calm nd hx hb.1.1 sw k2 k3 k5 k6 k7 k8 (plain_set k1)
      rw [own_snd] at key
      exact key.imp fun D σ H q => dc_imp k4 q
  | _ => exact absurd h2 Bool.false_ne_true
theorem s_set (C : Cg tb lv I X) {i : Nat} {e : P} {tg v : Expr} {pos : Pos} (h1 : tgtIx I i tg = true) (h2 : (!isCp v || cpOk v e) = true) (h3 : chkE e I v = true) : PS X (.Assign [tg] v pos) (tS X.K tb (.set i e)) := by
  obtain ⟨pg, hs⟩ := tgt_ok C h1
  obtain ⟨x, px, rfl, hN⟩ := tgt_name h1
  by_cases hc : isCp v = false
  · exact (ps_asg (sE e C h3) pg (plain_sole hc) sw_name (asg_one hs)).imp fun D σ H q => set_imp q
  · rw [Bool.not_eq_false] at hc
    rw [hc, Bool.not_true, Bool.false_or] at h2
    exact (comp_asg C h1 hN h2 h3).imp fun D σ H q => set_imp q
theorem s_setF (C : Cg tb lv I X) {i : Nat} {e : P} {tg v : Expr} {pos : Pos} (h1 : tgtIx I i tg = true) (h2 : (!isCp v || cpOk v e) = true) (h3 : chkE e I v = true) : PS X (.Assign [tg] v pos) (tS X.K tb (.setF i e)) := by
  obtain ⟨pg, hs⟩ := tgt_ok C h1
  obtain ⟨x, px, rfl, hN⟩ := tgt_name h1
  by_cases hc : isCp v = false
  · exact (ps_asg (sE e C h3) pg (plain_sole hc) sw_name (asg_one hs)).imp fun D σ H q => setF_imp q
  · rw [Bool.not_eq_false] at hc
    rw [hc, Bool.not_true, Bool.false_or] at h2
    exact (comp_asg C h1 hN h2 h3).imp fun D σ H q => setF_imp q
theorem s_par (C : Cg tb lv I X) {is : List Nat} {as : As} {ts vs : List Expr} {k k2 : Nat} {p p2 pos : Pos} (h1 : tgtsIx I is ts = true) (h2 : chkA as I vs = true) (h3 : is.length ≤ 1000) (h4 : (swNo I.sc ts vs || (swYes I.sc ts vs && decide is.Nodup)) = true) :
    PS X (.Assign [.Tuple ts k p] (.Tuple vs k2 p2) pos) (tS X.K tb (.par is as)) := by
  have hk := kindX C
  rw [← C.hsc] at h4
  rw [Bool.or_eq_true] at h4
  have hN : X.N.Nodup := by rw [C.hN]; exact C.nd
  rcases h4 with h4 | h4
  · obtain ⟨p1, l1, f1⟩ := tgts_ok C h1
    exact (ps_asg (pe_tup (sAs as C h2)) (pg_seq C.calm p1 l1 f1) rfl (sw_no hk h4) (asg_one rfl)).imp fun D σ H q => parG_imp h3 q
  · simp only [Bool.and_eq_true, decide_eq_true_eq] at h4
    obtain ⟨h4, hnd⟩ := h4
    have h5 := h4
    unfold swYes at h5
    simp only [Bool.and_eq_true, Bool.or_eq_true, beq_iff_eq] at h5
    obtain ⟨⟨⟨⟨⟨⟨hl, _⟩, hvl⟩, hn⟩, _⟩, _⟩, _⟩ := h5
    match is, ts, h1 with
    | [], [], _ => simp at hl
    | [_], [_], _ => simp at hl
    | [i, j], [tx, ty], h1 =>
      simp only [tgtsIx, Bool.and_eq_true] at h1
      obtain ⟨x, px, rfl, nx⟩ := tgt_name h1.1
      obtain ⟨y, py, rfl, ny⟩ := tgt_name h1.2.1
      obtain ⟨lx, ly, e⟩ := swN2 hn
      have hw := sw_yes (k := k) (k2 := k2) (p := p) (p2 := p2) hk h4
      rw [e] at hw
      match vs, hvl, h2 with
      | [a, b], _, h2 =>
        refine (ps_par (pos := pos) C.calm hN (by rw [C.hN]; exact nx) (by rw [C.hN]; exact ny) ?_ lx ly (sAs as C h2) hw rfl).imp fun D σ H q => par2_imp q
        simp only [List.nodup_cons, List.mem_singleton] at hnd
        exact hnd.1
      | [], hvl, _ => simp at hvl
      | [_], hvl, _ => simp at hvl
      | _ :: _ :: _ :: _, hvl, _ => simp at hvl
    | [i, j, l], [tx, ty, tz], h1 =>
      simp only [tgtsIx, Bool.and_eq_true] at h1
      obtain ⟨x, px, rfl, nx⟩ := tgt_name h1.1
      obtain ⟨y, py, rfl, ny⟩ := tgt_name h1.2.1
      obtain ⟨z, pz, rfl, nz⟩ := tgt_name h1.2.2.1
      obtain ⟨lx, ly, lz, e⟩ := swN3 hn
      have hw := sw_yes (k := k) (k2 := k2) (p := p) (p2 := p2) hk h4
      rw [e] at hw
      simp only [List.nodup_cons, List.mem_cons, List.mem_singleton, not_or, List.not_mem_nil] at hnd
      match vs, hvl, h2 with
      | [a, b, c], _, h2 => exact (ps_par3 (pos := pos) C.calm hN (by rw [C.hN]; exact nx) (by rw [C.hN]; exact ny) (by rw [C.hN]; exact nz) hnd.1.1 hnd.1.2.1 hnd.2.1.1 lx ly lz (sAs as C h2) hw rfl).imp fun D σ H q => par3_imp q
      | [], hvl, _ => simp at hvl
      | [_], hvl, _ => simp at hvl
      | [_, _], hvl, _ => simp at hvl
      | _ :: _ :: _ :: _ :: _, hvl, _ => simp at hvl
    | _ :: _ :: _ :: _ :: _, [], h1 => simp [tgtsIx] at h1
    | [], _ :: _, h1 => simp [tgtsIx] at h1
    | _ :: _, [], h1 => simp [tgtsIx] at h1
    | [_], _ :: _ :: _, h1 => simp [tgtsIx] at h1
    | _ :: _ :: _, [_], h1 => simp [tgtsIx] at h1
    | [_, _], _ :: _ :: _ :: _, h1 => simp [tgtsIx] at h1
    | _ :: _ :: _ :: _, [_, _], h1 => simp [tgtsIx] at h1
    | [_, _, _], _ :: _ :: _ :: _ :: _, h1 => simp [tgtsIx] at h1
    | _ :: _ :: _ :: _ :: _, [_, _, _], h1 => simp [tgtsIx] at h1
    | _ :: _ :: _ :: _ :: _, _ :: _ :: _ :: _ :: _, h1 => simp at hl
theorem s_tmp (C : Cg tb lv I X) {i : Nat} {e r : P} {t : T} {b : S} {s1 s2 s3 : Stmt} {rest : List Stmt} (h : chkTmp i e t r I s1 s2 s3 = true) (hb : PSs X rest (tS X.K tb b)) : PSs X (s1 :: s2 :: s3 :: rest) (tS X.K tb (.seq (.tmp i e t r) b)) := by
  unfold chkTmp at h
  simp only [Bool.and_eq_true] at h
  obtain ⟨⟨h1, h2⟩, h3⟩ := h
  split at h1
  · rename_i tg v hv
    simp only [Bool.and_eq_true, Bool.not_eq_true'] at h1
    obtain ⟨p1, rfl⟩ := vAsg_eq hv
    obtain ⟨pg, hs⟩ := tgt_ok C h1.1.1
    obtain ⟨x, px, rfl, hN⟩ := tgt_name h1.1.1
    have a1 := ps_asg (pos := p1) (sE e C h1.2) pg (plain_sole h1.1.2) sw_name (asg_one hs)
    split at h2
    · rename_i c a hv2
      simp only [Bool.and_eq_true] at h2
      obtain ⟨p2, rfl⟩ := vIfS_eq hv2
      obtain ⟨ht, h2⟩ := h2
      split at h2
      · rename_i y hv3
        obtain ⟨p3, rfl⟩ := vRet_eq hv3
        have a2 := ps_if (pos := p2) (sT t C ht).1 (pss_one (ps_ret (pos := p3) (sE r C h2))) pss_nil
        split at h3
        · rename_i z hv4
          obtain ⟨p4, rfl⟩ := vEx_eq hv4
          split at h3
          · rename_i o y2 hm
            simp only [Bool.and_eq_true, decide_eq_true_eq, Bool.not_eq_true'] at h3
            obtain ⟨⟨h4, h5⟩, h6⟩ := h3
            obtain ⟨q, p5, rfl, hl, hcl, hst⟩ := methB_eq hm
            obtain ⟨k6, p6, rfl⟩ := vConst_eq h4
            split at h6
            · rename_i n j hsb
              simp only [Bool.and_eq_true, decide_eq_true_eq] at h6
              obtain ⟨p7, rfl⟩ := vSub_eq hsb
              obtain ⟨k8, p8, rfl⟩ := vConst_eq h6.2
              have a3 : PS X (.Expr (.Call (.Attribute (.Subscript n (.Constant (.int 1) k8 p8) p7) "append" q) [.Constant .none k6 p6] [] p5) p4) (tDrop (tBM X.K "list" rAppend (tOp (rIxT X.K) (tVar i) (tC (.int 1))) (tCons (tC .non) tNil))) := ps_expr (pos := p4) (pe_bm (X := X) PySem.F.plainAttrs_list PySem.F.slot_list_append PySem.F.type_list_append mt_append (pe_ix ix_tup (name_ok C h6.1) pe_int (plain_ix rfl)) (pa_cons pe_non pa_nil (star_cons rfl)) (plain_base rfl _ _) rfl hl (star_cons rfl) rfl) (plain_swap rfl _ _)
              exact (pss_cons a1 (pss_cons a2 (pss_cons a3 hb))).imp fun D σ H q => tmp_imp q
            · cases h6
          · cases h3
        · cases h3
      · cases h2
    · cases h2
  · cases h1
theorem tmp_or (a : S) : (∃ i e t r, a = .tmp i e t r) ∨ ∀ i e t r, a ≠ .tmp i e t r := by
  cases a <;> first
    | exact .inl ⟨_, _, _, _, rfl⟩
    | exact .inr fun _ _ _ _ h => by cases h
theorem chkS_seq {a b : S} {I : Inf} {sts : List Stmt} (h : ∀ i e t r, a ≠ .tmp i e t r) : chkS (.seq a b) I sts = match sts with
    | st :: rest => isOne a && chkS a I [st] && chkS b I rest
    | _ => false := by
  cases a <;> first
    | exact (h _ _ _ _ rfl).elim
    | (cases sts <;> rfl)
theorem sub_asg {o i : Expr} {pos : Pos} {env : Env} (h : isSlice i = false) (v : Value) : assign (.Subscript o i pos) env v = (do
      let ov ← holding [v] (eval o env)
      let iv ← holding [v, ov] (eval i env)
      standAt pos
      holding [v, ov, iv] (setItem ov iv v)
      release [v, ov, iv] []) := by
  cases i <;> first | rfl | cases h
theorem sS : ∀ (s : S) {I : Inf} {X : Cx} {sts : List Stmt}, Cg tb lv I X → chkS s I sts = true → PSs X sts (tS X.K tb s) ∧ ∀ st, sts = [st] → isOne s = true → PS X st (tS X.K tb s)
  | .skip, I, X, sts, C, h => by
    simp only [chkS] at h
    split at h
    · exact ⟨pss_nil.imp fun D σ H q => skip_imp q, fun st e => by cases e⟩
    · rename_i st
      have key : PS X st (tS X.K tb .skip) := by
        cases st <;> first
          | exact ps_pass.imp fun D σ H q => skip_imp q
          | cases h
      exact ⟨pss_one key, fun st' e _ => by cases e; exact key⟩
    · cases h
  | .seq a b, I, X, sts, C, h => by
    rcases tmp_or a with ⟨i, e, t, r, ha⟩ | hn
    · rw [ha] at h ⊢
      simp only [chkS] at h
      split at h
      · simp only [Bool.and_eq_true] at h
        exact ⟨s_tmp C h.1 (sS b C h.2).1, fun st e => by cases e⟩
      · cases h
    · rw [chkS_seq hn] at h
      split at h
      · simp only [Bool.and_eq_true] at h
        obtain ⟨⟨h1, h2⟩, h3⟩ := h
        refine ⟨(pss_cons ((sS a C h2).2 _ rfl h1) (sS b C h3).1).imp fun D σ H q => seq_imp q, fun st _ z => by cases z⟩
      · cases h
  | .set i e, I, X, sts, C, h => by
    simp only [chkS] at h
    split at h
    · rename_i st
      split at h
      · rename_i tg v hv
        simp only [Bool.and_eq_true] at h
        obtain ⟨pos, rfl⟩ := vAsg_eq hv
        have key := s_set (pos := pos) C h.1.1 h.1.2 h.2
        exact ⟨pss_one key, fun st' e _ => by cases e; exact key⟩
      · cases h
    · cases h
  | .setF i e, I, X, sts, C, h => by
    simp only [chkS] at h
    split at h
    · rename_i st
      split at h
      · rename_i tg v hv
        simp only [Bool.and_eq_true] at h
        obtain ⟨pos, rfl⟩ := vAsg_eq hv
        have key := s_setF (pos := pos) C h.1.1 h.1.2 h.2
        exact ⟨pss_one key, fun st' e _ => by cases e; exact key⟩
      · cases h
    · cases h
  | .par is as, I, X, sts, C, h => by
    simp only [chkS] at h
    split at h
    · rename_i st
      split at h
      · rename_i tg v hv
        split at h
        · rename_i ts vs ht hvs
          simp only [Bool.and_eq_true, decide_eq_true_eq] at h
          obtain ⟨pos, rfl⟩ := vAsg_eq hv
          obtain ⟨k, p, rfl⟩ := vTup_eq ht
          obtain ⟨k2, p2, rfl⟩ := vTup_eq hvs
          have key := s_par (k := k) (p := p) (k2 := k2) (p2 := p2) (pos := pos) C h.1.1.1 h.1.1.2 h.1.2 (by simpa only [Bool.or_eq_true, Bool.and_eq_true, decide_eq_true_eq] using h.2)
          exact ⟨pss_one key, fun st' e _ => by cases e; exact key⟩
        · cases h
      · cases h
    · cases h
  | .unp is e, I, X, sts, C, h => by
    simp only [chkS] at h
    split at h
    · rename_i st
      split at h
      · rename_i tg v hv
        split at h
        · rename_i ts ht hvs
          simp only [Bool.and_eq_true, Bool.not_eq_true'] at h
          obtain ⟨pos, rfl⟩ := vAsg_eq hv
          obtain ⟨k, p, rfl⟩ := vTup_eq ht
          obtain ⟨p1, l1, f1⟩ := tgts_ok C h.1.1
          have key : PS X (.Assign [.Tuple ts k p] v pos) (tS X.K tb (.unp is e)) := (ps_asg (sE e C h.2) (pg_seq C.calm p1 l1 f1) (plain_sole h.1.2) (sw_plain hvs) (asg_one rfl)).imp fun D σ H q => unp_imp q
          exact ⟨pss_one key, fun st' e _ => by cases e; exact key⟩
        · cases h
      · cases h
    · cases h
  | .ite t a b, I, X, sts, C, h => by
    simp only [chkS] at h
    split at h
    · rename_i st
      split at h
      · rename_i c x y hv
        simp only [Bool.and_eq_true] at h
        obtain ⟨pos, rfl⟩ := vIfS_eq hv
        have key : PS X (.If c x y pos) (tS X.K tb (.ite t a b)) := (ps_if (sT t C h.1.1).1 (sS a C h.1.2).1 (sS b C h.2).1).imp fun D σ H q => ite_imp q
        exact ⟨pss_one key, fun st' e _ => by cases e; exact key⟩
      · cases h
    · cases h
  | .whl t b, I, X, sts, C, h => by
    simp only [chkS] at h
    split at h
    · rename_i st
      split at h
      · rename_i c x hv
        simp only [Bool.and_eq_true] at h
        obtain ⟨pos, rfl⟩ := vWhl_eq hv
        have key : PS X (.While c x [] pos) (tS X.K tb (.whl t b)) := (ps_while C.xe (sT t C h.1).1 (sS b C h.2).1).imp fun D σ H q => whl_imp q
        exact ⟨pss_one key, fun st' e _ => by cases e; exact key⟩
      · cases h
    · cases h
  | .for_ g it b, I, X, sts, C, h => by
    simp only [chkS] at h
    split at h
    · rename_i st
      split at h
      · rename_i tg i x hv
        simp only [Bool.and_eq_true, Bool.not_eq_true'] at h
        obtain ⟨pos, rfl⟩ := vFor_eq hv
        have key : PS X (.For tg i x [] pos) (tS X.K tb (.for_ g it b)) := (ps_for C.xe C.calm (sI it C h.1.1.2) (g_okC C h.1.2) (sS b C h.2).1 (plain_set h.1.1.1)).imp fun D σ H q => for_imp q
        exact ⟨pss_one key, fun st' e _ => by cases e; exact key⟩
      · cases h
    · cases h
  | .ret e, I, X, sts, C, h => by
    simp only [chkS] at h
    split at h
    · rename_i st
      split at h
      · rename_i x hv
        obtain ⟨pos, rfl⟩ := vRet_eq hv
        have key : PS X (.Return (some x) pos) (tS X.K tb (.ret e)) := (ps_ret (sE e C h)).imp fun D σ H q => ret_imp q
        exact ⟨pss_one key, fun st' e _ => by cases e; exact key⟩
      · rename_i hv
        obtain ⟨pos, rfl⟩ := vRet_eq hv
        have key : PS X (.Return none pos) (tS X.K tb (.ret e)) := by
          cases e <;> first
            | exact ps_retN.imp fun D σ H q => retN_imp q
            | cases h
        exact ⟨pss_one key, fun st' e _ => by cases e; exact key⟩
      · cases h
    · cases h
  | .expr e, I, X, sts, C, h => by
    simp only [chkS] at h
    split at h
    · rename_i st
      split at h
      · rename_i x hv
        simp only [Bool.and_eq_true, Bool.not_eq_true'] at h
        obtain ⟨pos, rfl⟩ := vEx_eq hv
        have key : PS X (.Expr x pos) (tS X.K tb (.expr e)) := (ps_expr (sE e C h.2) (plain_swap h.1 _ _)).imp fun D σ H q => expr_imp q
        exact ⟨pss_one key, fun st' e _ => by cases e; exact key⟩
      · cases h
    · cases h
  | .app i e, I, X, sts, C, h => by
    simp only [chkS] at h
    split at h
    · rename_i st
      split at h
      · rename_i x hv
        split at h
        · rename_i o y hm
          simp only [Bool.and_eq_true] at h
          obtain ⟨pos, rfl⟩ := vEx_eq hv
          obtain ⟨q, p, rfl, hl, hc, hst⟩ := methB_eq hm
          have key : PS X (.Expr (.Call (.Attribute o "append" q) [y] [] p) pos) (tS X.K tb (.app i e)) :=
            (ps_expr (pe_bm (X := X) PySem.F.plainAttrs_list PySem.F.slot_list_append PySem.F.type_list_append mt_append (name_ok C h.1) (pa_cons (sE e C h.2) pa_nil (star_cons hst)) (plain_base hc _ _) (by rw [star_cons hst]; rfl) hl (star_cons hst) rfl) (plain_swap rfl _ _)).imp fun D σ H q => app_imp q
          exact ⟨pss_one key, fun st' e _ => by cases e; exact key⟩
        · cases h
      · cases h
    · cases h
  | .ext i e, I, X, sts, C, h => by
    simp only [chkS] at h
    split at h
    · rename_i st
      split at h
      · rename_i x hv
        split at h
        · rename_i o y hm
          simp only [Bool.and_eq_true] at h
          obtain ⟨pos, rfl⟩ := vEx_eq hv
          obtain ⟨q, p, rfl, hl, hc, hst⟩ := methB_eq hm
          have key : PS X (.Expr (.Call (.Attribute o "extend" q) [y] [] p) pos) (tS X.K tb (.ext i e)) :=
            (ps_expr (pe_bm (X := X) PySem.F.plainAttrs_list PySem.F.slot_list_extend PySem.F.type_list_extend mt_extend (name_ok C h.1) (pa_cons (sE e C h.2) pa_nil (star_cons hst)) (plain_base hc _ _) (by rw [star_cons hst]; rfl) hl (star_cons hst) rfl) (plain_swap rfl _ _)).imp fun D σ H q => ext_imp q
          exact ⟨pss_one key, fun st' e _ => by cases e; exact key⟩
        · cases h
      · cases h
    · cases h
  | .upd i e, I, X, sts, C, h => by
    simp only [chkS] at h
    split at h
    · rename_i st
      split at h
      · rename_i x hv
        split at h
        · rename_i o y hm
          simp only [Bool.and_eq_true] at h
          obtain ⟨pos, rfl⟩ := vEx_eq hv
          obtain ⟨q, p, rfl, hl, hc, hst⟩ := methB_eq hm
          have key : PS X (.Expr (.Call (.Attribute o "update" q) [y] [] p) pos) (tS X.K tb (.upd i e)) :=
            (ps_expr (pe_bm (X := X) PySem.F.plainAttrs_dict PySem.F.slot_dict_update PySem.F.type_dict_update mt_dup (name_ok C h.1) (pa_cons (sE e C h.2) pa_nil (star_cons hst)) (plain_base hc _ _) (by rw [star_cons hst]; rfl) hl (star_cons hst) rfl) (plain_swap rfl _ _)).imp fun D σ H q => upd_imp q
          exact ⟨pss_one key, fun st' e _ => by cases e; exact key⟩
        · cases h
      · cases h
    · cases h
  | .setIx i k e, I, X, sts, C, h => by
    simp only [chkS] at h
    split at h
    · rename_i st
      split at h
      · rename_i tg v hv
        split at h
        · rename_i o x hs
          simp only [Bool.and_eq_true, Bool.not_eq_true'] at h
          obtain ⟨⟨⟨h1, h2⟩, h5⟩, h6⟩ := h
          obtain ⟨pos, rfl⟩ := vAsg_eq hv
          obtain ⟨p, rfl⟩ := vSub_eq hs
          have key : PS X (.Assign [.Subscript o x p] v pos) (tS X.K tb (.setIx i k e)) := (ps_asg (sE e C h6) (pg_sub (name_ok C h1) (sE k C h5) (set_both (units_ok C)) (sub_asg h2)) sub_sole sw_sub (asg_one rfl)).imp fun D σ H q => setIx_imp q
          exact ⟨pss_one key, fun st' e _ => by cases e; exact key⟩
        · cases h
      · cases h
    · cases h
  | .tmp _ _ _ _, _, _, _, _, h => by simp only [chkS] at h; cases h
  | .brk, I, X, sts, C, h => by
    simp only [chkS] at h
    split at h
    · rename_i st
      have key : PS X st (tS X.K tb .brk) := by
        cases st <;> first
          | exact ps_break.imp fun D σ H q => brk_imp q
          | cases h
      exact ⟨pss_one key, fun st' e _ => by cases e; exact key⟩
    · cases h
  | .cnt, I, X, sts, C, h => by
    simp only [chkS] at h
    split at h
    · rename_i st
      have key : PS X st (tS X.K tb .cnt) := by
        cases st <;> first
          | exact ps_continue.imp fun D σ H q => cnt_imp q
          | cases h
      exact ⟨pss_one key, fun st' e _ => by cases e; exact key⟩
    · cases h
  | .never, I, X, sts, C, h => by
    refine ⟨pss_never.imp fun D σ H q => never_imp q, fun st _ _ => ⟨fun pins s σ H D Iv q => (never_imp q).elim⟩⟩
end
end PL
end

section
set_option Elab.async false
set_option linter.all false
set_option autoImplicit false
set_option maxRecDepth 100000
set_option maxHeartbeats 4000000
/-! PLy: a def whose body is checked keeps its promise. -/
namespace PL
open PySem PySem.Spec PyProof.Rows L2

/-- args' are the arguments behind: those handed in to be written as they stand in e -/
structure Aft (args : List Sl) (e : Ev) (args' : List Sl) : Prop where
  get : ∀ {i : Nat} {x : Sl}, args'[i]? = some x → ∃ y, args[i]? = some y ∧ ((∃ d, y = .io d) ∧ e[i]? = some x ∨ (∀ d, y ≠ .io d) ∧ x = y)
  len : args'.length = args.length
  io : ∀ {i : Nat} {d : PyData}, args[i]? = some (.io d) → args'[i]? = e[i]?
def Argk (args : List Sl) : Prop := ∀ (i : Nat) (x : Sl), args[i]? = some x → (∃ d, x = .sh d) ∨ ∃ d, x = .io d
theorem argk_sh (ds : List PyData) : Argk (ds.map Sl.sh) := fun i x h => by
  rw [List.getElem?_map] at h
  cases e : ds[i]? with
  | none => rw [e] at h; cases h
  | some d => rw [e] at h; cases h; exact .inl ⟨d, rfl⟩
theorem argk_mk : ∀ (w : Bool) (ds : List PyData), Argk (mkA w ds)
  | true, d :: ds => fun i x h => by
    cases i with
    | zero => simp [mkA] at h; exact .inr ⟨d, h.symm⟩
    | succ i => exact argk_sh ds i x (by simpa [mkA] using h)
  | true, [] => argk_sh []
  | false, ds => argk_sh ds
theorem aft_sh {ds : List PyData} {e : Ev} : Aft (ds.map Sl.sh) e (ds.map Sl.sh) := by
  have no : ∀ {i : Nat} {d : PyData}, (ds.map Sl.sh)[i]? ≠ some (Sl.io d) := fun {i d} h => by
    rw [List.getElem?_map] at h
    cases q : ds[i]? with
    | none => rw [q] at h; cases h
    | some d => rw [q] at h; cases h
  exact ⟨fun {i x} h => ⟨x, h, .inr ⟨fun d z => no (i := i) (d := d) (h.trans (congrArg some z)), rfl⟩⟩, rfl, fun h => (no h).elim⟩
/-- what is behind: K of the result and, where the first argument is written, of it -/
def FinA (w : Bool) (e : Ev) (K : PyData → Prop) : Prop :=
  match w with
  | false => K .none
  | true => ∃ d', e[0]? = some (.io d') ∧ K d'
theorem fin_aft {w : Bool} {ds : List PyData} {e : Ev} {K : PyData → Prop} (h : FinA w e K) : ∃ d', K d' ∧ Aft (mkA w ds) e (aftA w ds d') := by
  cases w with
  | false => exact ⟨.none, h, aft_sh⟩
  | true =>
    obtain ⟨d', e0, h⟩ := h
    refine ⟨d', h, ?_⟩
    cases ds with
    | nil => exact aft_sh
    | cons d ds =>
      refine ⟨fun {i x} hx => ?_, by simp [mkA, aftA], fun {i d0} hx => ?_⟩
      · cases i with
        | zero =>
          have : x = .io d' := by simpa [aftA] using hx.symm
          subst this
          exact ⟨.io d, rfl, .inl ⟨⟨d, rfl⟩, e0⟩⟩
        | succ i =>
          obtain ⟨y, h1, h2⟩ := (aft_sh (ds := ds) (e := e.drop 1)).get (i := i) (x := x) (by simpa [aftA] using hx)
          refine ⟨y, by simpa [mkA] using h1, ?_⟩
          rcases h2 with ⟨k, h2⟩ | h2
          · exact .inl ⟨k, by rw [List.getElem?_drop] at h2; rw [Nat.add_comm]; exact h2⟩
          · exact .inr h2
      · cases i with
        | zero => rw [e0]; rfl
        | succ i =>
          have := (aft_sh (ds := ds) (e := e.drop 1)).io (i := i) (d := d0) (by simpa [mkA] using hx)
          rw [List.getElem?_drop] at this
          rw [show i + 1 = 1 + i from Nat.add_comm _ _, ← this]
          rw [Nat.add_comm]; rfl
section
variable {K : PySem.W.Frag} {F F' H H' : Hp} {vs : List V} {args args' : List Sl} {N : List Str} {m : Nat}
theorem owns_app {i : Nat} {d : PyData} : Owns (args ++ List.replicate m Sl.un) i d ↔ Owns args i d := by
  have key : ∀ x : Sl, x ≠ .un → ((args ++ List.replicate m Sl.un)[i]? = some x ↔ args[i]? = some x) := fun x hx => by
    by_cases hi : i < args.length
    · rw [List.getElem?_append_left hi]
    · rw [List.getElem?_append_right (by omega), List.getElem?_eq_none (by omega : args.length ≤ i)]
      constructor
      · intro h
        rw [List.getElem?_replicate] at h
        split at h
        · exact absurd (Option.some.inj h).symm hx
        · cases h
      · intro h; cases h
  unfold Owns
  rw [key _ (by simp), key _ (by simp)]
theorem start_get {i : Nat} (hi : i < vs.length) : (L2.start N vs)[i]? = (vs.map some)[i]? := by
  unfold L2.start
  rw [List.getElem?_append_left (by simpa using hi)]
theorem er_start (R : ER K F (vs.map some) H args) (hm : m = N.length - vs.length) : ER K F (L2.start N vs) H (args ++ List.replicate m .un) where
  sub := R.sub
  len := by
    have := R.len
    unfold L2.start
    simp only [List.length_append, List.length_map, List.length_replicate] at this ⊢
    omega
  sh := fun i d h => by
    by_cases hi : i < args.length
    · rw [List.getElem?_append_left hi] at h
      obtain ⟨v, e, r⟩ := R.sh i d h
      have hv : i < vs.length := by have := R.len; rw [List.length_map] at this; omega
      exact ⟨v, by rw [start_get hv]; exact e, r⟩
    · rw [List.getElem?_append_right (by omega), List.getElem?_replicate] at h
      split at h <;> cases h
  ob := fun i d h => by
    rw [owns_app] at h
    obtain ⟨a, ho, e, k⟩ := R.ob i d h
    have hi : i < vs.length := by
      have := (List.getElem?_eq_some_iff.mp e).1
      simpa using this
    exact ⟨a, ho, by rw [start_get hi]; exact e, k⟩
  inj := fun i j d d' a h h' e e' => by
    rw [owns_app] at h h'
    have lt : ∀ {i d}, Owns args i d → i < vs.length := fun {i d} h => by
      have := R.len
      rw [List.length_map] at this
      rw [this]
      rcases h with h | h <;> exact lt_of_get h
    rw [start_get (lt h)] at e
    rw [start_get (lt h')] at e'
    exact R.inj i j d d' a h h' e e'
theorem oa_app (hl : vs.length = args.length) {a : Addr} : OA (args ++ List.replicate m .un) (L2.start N vs) a ↔ OA args (vs.map some) a := by
  have lt : ∀ {i d}, Owns args i d → i < vs.length := fun {i d} h => by
    rw [hl]; rcases h with h | h <;> exact lt_of_get h
  constructor
  · rintro ⟨i, d, h, e⟩
    rw [owns_app] at h
    rw [start_get (lt h)] at e
    exact ⟨i, d, h, e⟩
  · rintro ⟨i, d, h, e⟩
    exact ⟨i, d, owns_app.mpr h, by rw [start_get (lt h)]; exact e⟩
/-- what the body reached, told to the caller -/
theorem er_back {σ' : L2.St} {e : Ev} (hk : Argk args) (hl : vs.length = args.length) (R : ER K F (vs.map some) H args) (Re : ER K F' σ' H' e) (T : Tr (args ++ List.replicate m .un) F (L2.start N vs) H e F' σ' H') (A : Aft args e args') :
    ER K F' (vs.map some) H' args' ∧ Tr args F (vs.map some) H args' F' (vs.map some) H' ∧ (∀ a, OA args' (vs.map some) a → OA e σ' a) ∧ ∀ a, OA args (vs.map some) a → OA e σ' a := by
  have io : ∀ {i : Nat} {d : PyData}, args[i]? = some (Sl.io d) → σ'[i]? = (vs.map some)[i]? ∧ ∃ d' : PyData, e[i]? = some (Sl.io d') := fun {i d} h => by
    have hi := lt_of_get h
    obtain ⟨h1, h2⟩ := T.io i d (by rw [List.getElem?_append_left hi]; exact h)
    exact ⟨by rw [h1, start_get (by omega)], h2⟩
  have ow : ∀ {i d}, Owns args' i d → (∃ d0, args[i]? = some (.io d0)) ∧ Owns e i d := fun {i d} h => by
    have : ∀ x : Sl, (x = .ow d ∨ x = .io d) → args'[i]? = some x → (∃ d0, args[i]? = some (.io d0)) ∧ Owns e i d := fun x hx h => by
      obtain ⟨y, h1, h2⟩ := A.get h
      rcases h2 with ⟨⟨d0, rfl⟩, h2⟩ | ⟨h2, rfl⟩
      · exact ⟨⟨d0, h1⟩, by rcases hx with rfl | rfl; exact .inl h2; exact .inr h2⟩
      · rcases hk i x h1 with ⟨d1, rfl⟩ | ⟨d1, rfl⟩
        · rcases hx with z | z <;> cases z
        · exact absurd rfl (h2 d1)
    rcases h with h | h
    · exact this _ (.inl rfl) h
    · exact this _ (.inr rfl) h
  have oaE : ∀ a, OA args' (vs.map some) a → OA e σ' a := fun a ⟨i, d, h, ea⟩ => by
    obtain ⟨⟨d0, h0⟩, h⟩ := ow h
    exact ⟨i, d, h, by rw [(io h0).1]; exact ea⟩
  have oaA : ∀ a, OA args (vs.map some) a → OA e σ' a := fun a ⟨i, d, h, ea⟩ => by
    have h0 : ∃ d0, args[i]? = some (.io d0) := by
      rcases h with h | h
      · rcases hk i _ h with ⟨d1, z⟩ | ⟨d1, z⟩ <;> cases z
      · exact ⟨d, h⟩
    obtain ⟨d0, h0⟩ := h0
    obtain ⟨h1, d', h2⟩ := io h0
    exact ⟨i, d', .inr h2, by rw [h1]; exact ea⟩
  refine ⟨⟨Re.sub, by rw [List.length_map, A.len]; exact hl, fun i d h => ?_, fun i d h => ?_, fun i j d d' a h h' ea ea' => ?_⟩, ⟨T.fs, fun a o h n => T.keep a o h fun z => n ((oa_app hl).mp z), T.live, fun a h => (T.newF a h).imp id (Or.imp id (oa_app hl).mp), fun a h => (T.newO a (oaE a h)).imp (oa_app hl).mp id, fun i d h => ?_⟩, oaE, oaA⟩
  · obtain ⟨y, h1, h2⟩ := A.get h
    rcases h2 with ⟨⟨d0, rfl⟩, h2⟩ | ⟨h2, rfl⟩
    · obtain ⟨_, d', h3⟩ := io h1
      rw [h2] at h3; cases h3
    · obtain ⟨v, ev, rv⟩ := R.sh i d h1
      exact ⟨v, ev, rv.mono T.fs⟩
  · obtain ⟨⟨d0, h0⟩, h⟩ := ow h
    obtain ⟨a, ho, ea, k⟩ := Re.ob i d h
    exact ⟨a, ho, by rw [← (io h0).1]; exact ea, k⟩
  · obtain ⟨⟨d0, h0⟩, h⟩ := ow h
    obtain ⟨⟨d1, h1⟩, h'⟩ := ow h'
    exact Re.inj i j d d' a h h' (by rw [(io h0).1]; exact ea) (by rw [(io h1).1]; exact ea')
  · obtain ⟨_, d', h2⟩ := io h
    exact ⟨rfl, d', by rw [A.io h]; exact h2⟩
theorem rr_back {σ' : L2.St} {e : Ev} {v : V} {r : Sl} (hl : vs.length = args.length) (hE : ∀ a, OA args' (vs.map some) a → OA e σ' a) (hA : ∀ a, OA args (vs.map some) a → OA e σ' a) (rr : RR K F' H' e σ' (NwOf (args ++ List.replicate m .un) (L2.start N vs) H) v r) :
    RR K F' H' args' (vs.map some) (fun a => H a = none) v r := by
  have nw : ∀ {a}, ¬ OA e σ' a → NwOf (args ++ List.replicate m .un) (L2.start N vs) H a → H a = none := fun {a} n h => h.elim id fun z => (n (hA a ((oa_app hl).mp z))).elim
  have fo : ∀ {v d}, Fo K F' H' e σ' (NwOf (args ++ List.replicate m .un) (L2.start N vs) H) v d → Fo K F' H' args' (vs.map some) (fun a => H a = none) v d := fun {v d} h => by
    obtain ⟨a, ho, e1, h1, h2, h3, h4, h5⟩ := h
    exact ⟨a, ho, e1, h1, h2, fun z => h3 (hE a z), nw h3 h4, h5⟩
  cases r with
  | un => exact rr.elim
  | io d => exact rr.elim
  | sh d => exact rr
  | ow d => exact fo rr
  | tp x d =>
    obtain ⟨a, v0, v1, e1, g1, g2, g3, g4, g5⟩ := rr
    exact ⟨a, v0, v1, e1, g1, fun z => g2 (hE a z), fun z => nw g2 (g3 z), g4, fo g5⟩
end
/-- what a body does, as a def's promise: the arguments ahead of it, the other names unset -/
def Does (tb : Tab) (s : S) (n : Nat) (w : Bool) (R : FSem) : Prop := ∀ ds L, R ds L → wpS tb s (mkA w ds ++ List.replicate (n - ds.length) .un) fun o => match o with
  | .rt r e => FinA w e (L r)
  | .nx e => FinA w e (L (.sh .none))
  | _ => False
theorem mkA_len (w : Bool) (ds : List PyData) : (mkA w ds).length = ds.length := by
  cases w <;> cases ds <;> simp [mkA]
theorem body_ok {K : PySem.W.Frag} {tb : Tab} {s : S} {N : List Str} {wr : Bool} {R : FSem} {np : Nat} (hd : Does tb s N.length wr R) {vs : List V} {H : Hp} {Q : VK} {E : XK} (h : spG K wr np R vs H Q E) : tS K tb s { nx := fun _ H' => Q .non H', rt := Q } (L2.start N vs) H := by
  obtain ⟨F, ds, RA, hl, hR⟩ := h
  have hk := argk_mk wr ds
  have hvl : vs.length = (mkA wr ds).length := by have := RA.len; rw [List.length_map] at this; exact this
  refine ⟨_, F, er_start (m := N.length - ds.length) RA (by rw [hvl, mkA_len]), wpS_mono s (fun o w => ?_) (hd ds _ hR)⟩
  cases o with
  | nx e =>
    obtain ⟨d', hQ, A⟩ := fin_aft (ds := ds) w
    intro F' σ' H' Re T
    obtain ⟨R2, T2, hE, hA⟩ := er_back hk hvl RA Re T A
    exact hQ .non F' H' R2 T2 .non
  | rt r' e =>
    obtain ⟨d', hQ, A⟩ := fin_aft (ds := ds) w
    intro v F' σ' H' Re T rr
    obtain ⟨R2, T2, hE, hA⟩ := er_back hk hvl RA Re T A
    exact hQ v F' H' R2 T2 (rr_back hvl hE hA rr)
  | bk e => exact w.elim
  | ct e => exact w.elim
section
variable {P : Program} {w : World} {K : PySem.W.Frag} {mg : Str → Option Value} {base : Heap} {tb : Tab} {lv : Nat}
/-- a look at the names of a def's scope -/
def scOk (N ps : List Str) (sc : Scope) : Bool :=
  decide (sc.kind = .function) && !sc.isCoroutine && !sc.isGenerator && decide N.Nodup && decide (N.take ps.length = ps) && ps.all (fun x => decide (sc.names.lookup x = some .local) || decide (sc.names.lookup x = some .cell)) && sc.names.all (fun y => !decide (y.2 = .free))
theorem scOk_ok {N ps : List Str} {sc : Scope} (h : scOk N ps sc = true) : FnScope N ps sc := by
  unfold scOk at h
  simp only [Bool.and_eq_true, Bool.not_eq_true', decide_eq_true_eq, List.all_eq_true, Bool.or_eq_true, decide_eq_false_iff_not] at h
  obtain ⟨⟨⟨⟨⟨⟨h1, h2⟩, h3⟩, h4⟩, h5⟩, h6⟩, h7⟩ := h
  exact ⟨h1, h2, h3, h4, h5, h6, h7⟩
/-- the info of a def -/
def infOf (N : List Str) (sc : Scope) : Inf := { N := N, sc := sc, fw := fun _ => true, gd := false }
theorem fn_ok {x qual : Str} {params : Arguments} {body : List Stmt} {scope : Scope} {dvs : List V} {kws : List (Str × V)} {f : Addr} {fd : FuncData} {N ps : List Str} {s : S} {wr : Bool} {R : FSem} (F : FunD K x qual params body scope dvs kws f fd)
    (hsc : scOk N ps scope = true) (hc : chkS s (infOf N scope) body = true) (hd : Does tb s N.length wr R) (tk : Tk tb lv P w K mg base) : FnOk P w K mg base CX0 (lv + 1) f fd ps (spG K wr ps.length R) := by
  have S0 : FnScope N ps scope := scOk_ok hsc
  refine F.ok S0 (fun vs H Q E h => ?_) fun cdv A outer s0 H vs Q E hr h => ⟨tS K tb s, PSs.nox ?_, body_ok hd h⟩
  · obtain ⟨F0, ds, RA, hl, _⟩ := h
    have := RA.len
    rw [List.length_map, mkA_len] at this
    omega
  · have C : Cg tb lv (infOf N scope) (cxOf CX0 P w K mg base N qual scope f cdv A outer s0 H E).nox := ⟨rfl, S0.nd, rfl, S0.kind, rfl, hr, fun _ _ => rfl, fun z => (by cases z), tk, PassesOwn.never⟩
    exact (sS s C hc).1
end
end PL
end

section
set_option Elab.async false
set_option linter.all false
set_option autoImplicit false
set_option maxRecDepth 100000
set_option maxHeartbeats 4000000
/-! PLz: tables of defs; the law's end. -/
namespace PL
open PySem PySem.Spec PyProof.Rows L2

def tabOf (fs : List (Str × Ent)) (gs : List (Str × PyData)) : Tab := ⟨fun x => fs.lookup x, fun x => gs.lookup x⟩
section
variable {P : Program} {w : World} {K : PySem.W.Frag} {mg : Str → Option Value} {base : Heap} {lv lv' : Nat} {fs : List (Str × Ent)} {gs : List (Str × PyData)}
theorem Cb.mono {x : Str} {en : Ent} (c : Cb lv P w K mg base x en) (h : lv ≤ lv') : Cb lv' P w K mg base x en := by
  obtain ⟨f, fd, ps, k, hk, r⟩ := c.ex
  exact ⟨f, fd, ps, k, Nat.le_trans hk h, r⟩
theorem Tk.more {x : Str} {en : Ent} (T : Tk (tabOf fs gs) lv P w K mg base) (c : Cb lv' P w K mg base x en) (h : lv ≤ lv') : Tk (tabOf ((x, en) :: fs) gs) lv' P w K mg base where
  fn := fun y en' e => by
    have e : List.lookup y ((x, en) :: fs) = some en' := e
    rw [List.lookup_cons] at e
    cases q : (y == x) with
    | true =>
      rw [q] at e
      have hy := beq_iff_eq.mp q
      have e2 : some en = some en' := e
      cases e2
      rw [hy]; exact c
    | false =>
      rw [q] at e
      exact (T.fn y en' e).mono h
  gl := T.gl
  bi := T.bi
theorem Tk.lift {tb : Tab} (T : Tk tb lv P w K mg base) (h : lv ≤ lv') : Tk tb lv' P w K mg base := ⟨fun x en e => (T.fn x en e).mono h, T.gl, T.bi⟩
/-- the values of defaults that are None -/
theorem vals_nones : ∀ {n : Nat} {ds : List Value}, Vals (List.replicate n V.non) ds → ds = List.replicate n Value.none
  | 0, [], _ => rfl
  | n + 1, _, .cons r t => by
    have := vals_nones (n := n) t
    rw [this, List.replicate_succ]
    congr 1
theorem kb_ok {x qual : Str} {params : Arguments} {body : List Stmt} {scope : Scope} {kws : List (Str × V)} {f : Addr} {fd : FuncData} {ps ks : List Str} {pm : List Nat} (F : FunD K x qual params body scope [] kws f fd) (hp : ps ≠ [])
    (h : ∀ (kV doc pm' : Value) (an : Option Addr) (cdv ct : Value) (ws : List Value), ws.length = ks.length → bindArgs (PySem.W.fnOf x qual params body scope .none kV doc pm' an cdv ct) ⟨[], ks.zip ws⟩ = pure (ps.zip (pm.map fun j => ws.getD j Value.none))) :
    KBinds K fd ps ks (gK ks.length pm) (gKV ks.length pm) := by
  obtain ⟨oc, od, dV, kV, doc, pm', an, cdv, ct, osl, rfl, lk, hcd, hD, hK⟩ := F.ex
  have e : dV = .none := by
    rcases hD with ⟨_, e⟩ | ⟨e, _⟩
    · exact e
    · exact absurd rfl e
  subst e
  refine ⟨fun s us ws X hl => ?_, fun {vs us zs ws} r1 r2 => ?_⟩
  · unfold gK at hl ⊢
    by_cases c : us.length = 0 ∧ ws.length = ks.length
    · rw [if_pos c] at hl ⊢
      have : us = [] := List.length_eq_zero_iff.mp c.1
      subst this
      exact .of_eq (h kV doc pm' an cdv ct ws c.2)
    · rw [if_neg c] at hl
      exact absurd (List.length_eq_zero_iff.mp hl.symm) hp
  · unfold gK gKV
    have l1 := r1.length
    have l2 := r2.length
    by_cases c : us.length = 0 ∧ ws.length = ks.length
    · rw [if_pos c, if_pos ⟨by omega, by omega⟩]
      clear h
      induction pm with
      | nil => exact .nil
      | cons j pm ih =>
        refine .cons ?_ ih
        show RelV (zs.getD j V.non) (ws.getD j Value.none)
        rw [List.getD_eq_getElem?_getD, List.getD_eq_getElem?_getD]
        cases q : zs[j]? with
        | some v =>
          obtain ⟨u, e, r⟩ := r2.get q
          rw [e]; exact r
        | none =>
          have : ws[j]? = none := by
            rw [List.getElem?_eq_none_iff] at q ⊢
            omega
          rw [this]; rfl
    · rw [if_neg c, if_neg fun z => c ⟨by omega, by omega⟩]
      exact .nil
/-- a def of the module, every parameter given -/
theorem cb_ok {x qual : Str} {params : Arguments} {body : List Stmt} {scope : Scope} {kws : List (Str × V)} {f : Addr} {fd : FuncData} {N ps : List Str} {s : S} {en : Ent} (F : FunD K x qual params body scope [] kws f fd) (hm : mg x = some (.ref f))
    (hc : (scOk N ps scope && chkS s (infOf N scope) body) = true) (hd : Does (tabOf fs gs) s N.length en.w en.R) (tk : Tk (tabOf fs gs) lv P w K mg base) (hl : ∀ a L, en.R a L → a.length = ps.length) (hn : en.nd = 0)
    (hb : ∀ (kV doc pm : Value) (an : Option Addr) (cdv ct : Value) (us : List Value), us.length = ps.length → bindArgs (PySem.W.fnOf x qual params body scope .none kV doc pm an cdv ct) ⟨us, []⟩ = pure (ps.zip us))
    (hk : ∀ ks pm, (ks, pm) ∈ en.kw → KBinds K fd ps ks (gK ks.length pm) (gKV ks.length pm)) : Cb (lv + 1) P w K mg base x en := by
  rw [Bool.and_eq_true] at hc
  refine ⟨f, fd, ps, lv + 1, Nat.le_refl _, hm, F.kp, fn_ok F hc.1 hc.2 hd tk, hl, fun nd h => ?_, hk⟩
  have : nd = 0 := by omega
  subst this
  exact F.bindsN hb
end
/-! ### the law -/
theorem deeper_guards (A : Around) (env : Env) : (A.deeper env).guards = A.guards := rfl
section
variable {P : Program} {w : World} {K : PySem.W.Frag} {mg : Str → Option Value} {base : Heap} {tb : Tab} {lv : Nat}
/-- a def of one parameter that is called by the law's caller -/
theorem run_at {x qual y : Str} {params : Arguments} {body : List Stmt} {scope : Scope} {dvs : List V} {kws : List (Str × V)} {f a : Addr} {fd : FuncData} {N : List Str} {s : S} {A : Around} {d : PyData} {H : Hp} {s0 : Shared} (F : FunD K x qual params body scope dvs kws f fd)
    (hc : (scOk N [y] scope && chkS s { N := N, sc := scope, fw := fun _ => true, gd := true } body) = true) (hg : A.guards = some []) (hr : Room (lv + 1) A) (tk : Tk tb lv P w K mg base) (e0 : Env0 P w K mg base A [] s0 H)
    (hb : BindsTo s0 fd ⟨[.ref a], []⟩ [(y, .ref a)]) (ha : Rp K H (.ref a) d)
    (hw : wpS tb s (.sh d :: List.replicate (N.length - 1) .un) fun o => match o with
      | .rt r _ => r = .sh (.bool true)
      | _ => False) :
    codeAny (model P w) A (.call (.ref f) ⟨[.ref a], []⟩) (CR CX0 [] P w H s0 (fun v _ => v = .bl true) E0) s0 := by
  rw [Bool.and_eq_true] at hc
  obtain ⟨oc, od, dV, kV, doc, pm, an, cdv, ct, osl, rfl, lk, hcd, _, _⟩ := F.ex
  have S0 : FnScope N [y] scope := scOk_ok hc.1
  have KX : K.In s0.heap := e0.mod.kin.keeps fun b o e => (e0.bs b o e).1
  have lim : s0.heap.NoLimit := e0.mod.nolimit.keeps fun b o e => (e0.bs b o e).1
  have hpar := S0.par y (List.mem_cons_self ..)
  have hkind : ∀ z ∈ ([y].zip [Value.ref a]), scope.names.lookup z.1 = some .local ∨ (scope.names.lookup z.1 = some .cell ∧ ((cellsFrom (s0.heap.objs.size + 1) scope.names []).lookup z.1).isSome = true) := fun z hz => by
    have : z = (y, Value.ref a) := by simpa using hz
    subst this
    rcases hpar with q | q
    · exact .inl q
    · exact .inr ⟨q, PySem.W.cellsFrom_some _ _ _ (.inl q)⟩
  refine codeAny_call_function hr.depth (KX _ _ lk) rfl S0.co S0.gen rfl (PySem.W.codeRec_of KX hcd) (hb _ _ _ _ ?_)
  refine wpAny_newFunctionEnv_cells S0.kind hkind fun env he s1 x1 => ?_
  subst he
  refine ⟨lim.keeps x1.toInCall.keep, codeAny_func ?_⟩
  have hv : Vals [V.ref a] [Value.ref a] := .cons rfl .nil
  have I : Inv (cxOf CX0 P w K mg base N qual scope f cdv A [] s0 H E0) [] (L2.start N [V.ref a]) H s1 := inv_start S0 hr.hd e0 rfl hv x1
  have C : Cg tb lv { N := N, sc := scope, fw := fun _ => true, gd := true } (cxOf CX0 P w K mg base N qual scope f cdv A [] s0 H E0).nox := ⟨rfl, S0.nd, rfl, S0.kind, rfl, hr.deeper _, fun _ _ => rfl, fun _ => hg, tk, PassesOwn.never⟩
  have pss := PSs.nox (sS s C hc.2).1
  have RA : ER K H ([V.ref a].map some) H (mkA false [d]) := er_args (Sam.refl _) (.cons ha .nil)
  have key : tS K tb s { nx := fun _ _ => False, rt := fun v _ => v = .bl true } (L2.start N [V.ref a]) H := by
    refine ⟨_, H, er_start (N := N) (m := N.length - 1) RA rfl, wpS_mono s (fun o q => ?_) hw⟩
    cases o with
    | rt r e =>
      intro v F' σ' H' Re T rr
      have q : r = .sh (.bool true) := q
      subst q
      exact rp_bool rr
    | nx e => exact q.elim
    | bk e => exact q.elim
    | ct e => exact q.elim
  refine wpAny_mono (pss.run [] s1 (L2.start N [V.ref a]) H _ I key) (fun fl s' hs => ?_) fun e s' hs => hs
  have fin : ∀ {σ' : L2.St} {H' : Hp} {v : V} {u : Value}, Inv (cxOf CX0 P w K mg base N qual scope f cdv A [] s0 H E0) [] σ' H' s' → RelV v u → v = .bl true → CE [] P w H s0 (fun v _ => v = .bl true) u s' :=
    fun {σ' H' v u} J rv q => ⟨v, H', J.os, J.bare, J.base, J.hok, rv, q⟩
  cases fl with
  | ret u =>
    obtain ⟨v, σ', H', J, rv, q⟩ := hs
    exact fin J rv q
  | next =>
    obtain ⟨σ', H', J, q⟩ := hs
    exact False.elim q
  | brk =>
    obtain ⟨_, _, _, q⟩ := hs
    exact False.elim q
  | cont =>
    obtain ⟨_, _, _, q⟩ := hs
    exact False.elim q
end
end PL
end

section
set_option Elab.async false
set_option linter.all false
set_option autoImplicit false
set_option maxRecDepth 100000
set_option maxHeartbeats 4000000
/-! PM: the law's end, the head's facts. -/
namespace PL
open PySem PySem.Spec PyProof.Rows L2

/-- what the law's def is to do from the heap H where the script stands -/
def RunAt (P : Program) (w : World) (K : PySem.W.Frag) (mg : Str → Option Value) (base : Heap) (f a : Addr) (H : Hp) : Prop :=
  ∀ s0 : Shared, Env0 P w K mg base callerA [] s0 H → codeAny (model P w) callerA (.call (.ref f) ⟨[.ref a], []⟩) (CR CX0 [] P w H s0 (fun v _ => v = .bl true) E0) s0
theorem law_run {P : Program} {w : World} {K : PySem.W.Frag} {mg mb : Str → Option Value} {fa a : Addr} {s1 : Shared} {vs : List Value} {ns : List Int}
    (KX : K.In s1.heap) (hns : s1.heap.Ns mainGlobals mg) (hb : s1.heap.Ns builtinsNs mb) (hbb : ∀ x : Str, x ≠ "__name__" → mb x = bootBuiltins x) (hlim : s1.heap.NoLimit) (hg : s1.gens = #[])
    (ha : s1.heap.get? a = some { cls := .type "list", data := .seq vs.toArray }) (hi : IntsAre vs ns) (hl : ns.length ≤ sizeLine)
    (F : ∀ (base : Heap) (H : Hp), K.In base → base.Ns mainGlobals mg → Rd H a (.lst (ns.map V.int)) → RunAt P w K mg base fa a H)
    (hk : K.lookup a = none) :
    codeAny (model P w) callerA (.call (.ref fa) ⟨[.ref a], []⟩) (fun r s' => r = .ok (.ret (.bool true)) ∧ OldK s1.heap s'.heap ∧ s'.os = s1.os ∧ AllBare s'.gens) s1 := by
  have rv := vals_ints hi
  -- the script alone is tracked, as an object whose parts are known
  let H : Hp := fun b => if b = a then some (.frz { cls := .type "list", data := .seq vs.toArray } (.lst (ns.map V.int))) else none
  have Ha : H a = some (.frz { cls := .type "list", data := .seq vs.toArray } (.lst (ns.map V.int))) := if_pos rfl
  have Hn : ∀ {b : Addr}, b ≠ a → H b = none := fun {b} hb => if_neg hb
  have hok : HOk P w H s1.heap := fun b u z => by
    by_cases hb : b = a
    · subst hb
      rw [Ha] at z
      cases z
      exact ⟨ha, by rw [List.length_map]; exact hl, vs, _, rv, ha⟩
    · rw [Hn hb] at z; cases z
  have only : ∀ {b : Addr}, H b ≠ none → b = a := fun {b} z => by
    by_cases hb : b = a
    · exact hb
    · exact absurd (Hn hb) z
  have base_of : ∀ {b : Addr} {o : Obj}, s1.heap.get? b = some o → H b = none → (hidT s1.heap H).get? b = some o := fun e n => hidT_get e n
  have noA : ∀ {b : Addr} {o : Obj} {es : Array DictEntry} {ep : Nat}, s1.heap.get? b = some o → o.data = .dict es ep → H b = none := fun {b o es ep} e d => by
    by_cases hb : b = a
    · subst hb
      rw [ha] at e; cases e
      have d' : Data.seq vs.toArray _ = Data.dict es ep := d
      cases d'
    · exact Hn hb
  have nsK : ∀ {b : Addr} {m : Str → Option Value}, s1.heap.Ns b m → (hidT s1.heap H).Ns b m := fun {b m} ⟨o, es, ep, e, d, r⟩ => ⟨o, es, ep, base_of e (noA e d), d, r⟩
  have hKb : K.In (hidT s1.heap H) := fun b o e => base_of (KX b o e) (by
    by_cases hb : b = a
    · subst hb; rw [hk] at e; cases e
    · exact Hn hb)
  have hM : Mod K mg (hidT s1.heap H) := ⟨hKb, nsK hns, ⟨mb, nsK hb, hbb⟩, let ⟨mc, h1, h2⟩ := hlim; ⟨mc, nsK h1, h2⟩⟩
  have e0 : Env0 P w K mg (hidT s1.heap H) callerA [] s1 H := ⟨rfl, hM, fun b o e => of_hidT e, Nat.le_of_eq (hidT_size _ _), trivial, fun b hb => absurd (show b ∈ ([] : List Addr) from hb) (by simp), hok, .of_eq hg⟩
  refine codeAny_mono (F _ H hKb (nsK hns) (.inr ⟨_, Ha⟩) s1 e0) fun r s' h => ?_
  cases r with
  | error e => exact False.elim h
  | ok fl =>
    cases fl with
    | next => exact False.elim h
    | brk => exact False.elim h
    | cont => exact False.elim h
    | ret u =>
      obtain ⟨v, H', os, bare, un, hok', r', q⟩ := h
      have q' : v = .bl true := q
      subst q'
      obtain rfl : u = Value.bool true := r'
      refine ⟨rfl, OldK.of_keep fun b o e => ?_, os, bare⟩
      by_cases hb : b = a
      · subst hb
        have z2 := un.frzs b _ _ Ha
        obtain ⟨e1, _⟩ := hok b _ Ha
        obtain ⟨e2, _⟩ := hok' b _ z2
        rw [e] at e1; cases e1
        exact e2
      · exact un.keep b o e (Hn hb) (by intro z; exact absurd (show b ∈ ([] : List Addr) from z) (by simp)) (by simp)
/-! ### the facts -/
/-- no object of the part is a list -/
def noList (K : PySem.W.Frag) : Bool := K.all fun p => match p.2.cls with
  | .type c => !decide (c = "list")
  | _ => true
theorem lookup_mem {K : PySem.W.Frag} {a : Addr} {o : Obj} (h : K.lookup a = some o) : (a, o) ∈ K := by
  induction K with
  | nil => cases h
  | cons p r ih =>
    obtain ⟨b, ob⟩ := p
    have h : (match a == b with | true => some ob | false => r.lookup a) = some o := h
    cases q : (a == b) with
    | true =>
      rw [q] at h
      have h : ob = o := Option.some.inj h
      rw [beq_iff_eq.mp q, h]
      exact List.mem_cons_self ..
    | false =>
      rw [q] at h
      exact List.mem_cons_of_mem _ (ih h)
theorem noList_ok {K : PySem.W.Frag} {a : Addr} {o : Obj} (h : noList K = true) (e : K.lookup a = some o) : o.cls ≠ .type "list" := fun z => by
  unfold noList at h
  have := List.all_eq_true.mp h _ (lookup_mem e)
  rw [z] at this
  simp at this
abbrev AlP : Type := He.AlD × Bool
def obsP (fa : List He.Fa) (fn : List He.DefD) (ts : List (Str × List He.Dv)) (K : PySem.W.Frag) : AlP := (He.obsD fa fn K, noList K && ts.all fun t => He.tupB K t.1 t.2)
def valP (fn : List He.DefD) : AlP := (He.valD fn, true)
def SaysP (fa : List He.Fa) (fn : List He.DefD) (ts : List (Str × List He.Dv)) (K : PySem.W.Frag) : Prop := obsP fa fn ts K = valP fn
def obsPG (n : Nat) (fa : List He.Fa) (fn : List He.DefD) (ts : List (Str × List He.Dv)) (g : Addr → Option Obj) : AlP := obsP fa fn ts (He.frG g (He.asD g n))
def hookP (n : Nat) (fa : List He.Fa) (fn : List He.DefD) (ts : List (Str × List He.Dv)) : PySem.W.Hook where
  α := AlP
  obs := fun s => obsPG n fa fn ts s.heap.get?
  val := fun _ => valP fn
  says := fun _ h => ∃ K : PySem.W.Frag, K.In h ∧ SaysP fa fn ts K
  of := fun _ _ e => ⟨_, He.frG_in, e⟩
  keeps := fun _ _ _ ⟨K, hK, c⟩ k => ⟨K, PySem.W.Frag.In.keeps hK k, c⟩
theorem obsPG_eq {n : Nat} {fa : List He.Fa} {fn : List He.DefD} {ts : List (Str × List He.Dv)} {g : Addr → Option Obj} {s : Shared} (h : ∀ a, g a = s.heap.get? a) : obsPG n fa fn ts g = (hookP n fa fn ts).obs s := by
  have e : g = s.heap.get? := funext h
  rw [e] <;> rfl
section
variable {fa : List He.Fa} {fn : List He.DefD} {ts : List (Str × List He.Dv)} {K : PySem.W.Frag}
theorem SaysP.d (c : SaysP fa fn ts K) : He.SaysD fa fn K := congrArg (fun z : AlP => z.1) c
theorem SaysP.nl (c : SaysP fa fn ts K) : noList K = true := (He.ba (congrArg (fun z : AlP => z.2) c)).1
theorem SaysP.tup (c : SaysP fa fn ts K) {x : Str} {vs : List He.Dv} (h : (x, vs) ∈ ts) : He.tupB K x vs = true := List.all_eq_true.mp (He.ba (congrArg (fun z : AlP => z.2) c)).2 _ h
theorem SaysP.fact (c : SaysP fa fn ts K) {f : He.Fa} (h : f ∈ fa) : f.ok K = true := by
  have c1 := (He.ba (show ((fa.all fun f => f.ok K) && fn.all fun d => d.ok K) = true from congrArg (fun z : He.AlD => z.1) c.d)).1
  exact List.all_eq_true.mp c1 f h
end
/-- from the law's run -/
theorem walk_P {l : PySem.W.OpenLaw} {n : Nat} {q : Program} {loose : List Str} {XP : (Str → Option Value) → Heap → Prop} {YP : World → Heap → Prop} {d : DefRec}
    (hn : l.most = some n) (hn2 : n ≤ sizeLine) (hdf : d.params.defaults = [])
    (F : ∀ (w : World) (mg : Str → Option Value) (fa : Addr) (h : Heap), YP w h → h.Ns mainGlobals mg → mg d.name = some (.ref fa) →
      ∃ K : PySem.W.Frag, K.In h ∧ noList K = true ∧ ∀ (a : Addr) (ns : List Int), ns.length ≤ n → (∀ z ∈ ns, Builtin.Int.intBits z ≤ 1048576) → ∀ (base : Heap) (H : Hp), K.In base → base.Ns mainGlobals mg → Rd H a (.lst (ns.map V.int)) → RunAt l.prog w K mg base fa a H) :
    PySem.W.WalkO q loose XP YP l.row.toRowW d [] (fun f vs => PySem.call f vs) := by
  refine Att.attach_callB hn hdf fun w s₀ s₁ mg mb fa o pm cd doc a vs ns G Y ho hd hcd hmg hobj hints hlen hbits hg => ?_
  obtain ⟨K, KX, nl, hF⟩ := F w mg fa _ Y G.T.g hmg
  refine law_run KX G.T.g G.T.b G.T.builtins G.T.nolimit hg hobj hints (Nat.le_trans hlen hn2) (fun base H k1 k2 k3 => hF a ns hlen hbits base H k1 k2 k3) ?_
  cases q : K.lookup a with
  | none => rfl
  | some ob =>
    have e := KX a ob q
    rw [hobj] at e
    cases e
    exact absurd rfl (noList_ok nl q)
end PL
end

section
set_option Elab.async false
set_option linter.all false
set_option autoImplicit false
set_option maxRecDepth 100000
set_option maxHeartbeats 4000000
/-! PT: the table of a program's defs, from the head's facts. -/
namespace PL
open PySem PySem.Spec PyProof.Rows L2
section
variable {P : Program} {w : World} {K : PySem.W.Frag} {mg : Str → Option Value} {base : Heap} {lv : Nat} {fa : List He.Fa} {fn : List He.DefD} {ts : List (Str × List He.Dv)} {fs : List (Str × Ent)} {gs : List (Str × PyData)}
/-- a constant as the heap has it -/
def GlOk (K : PySem.W.Frag) (mg : Str → Option Value) (gs : List (Str × PyData)) : Prop := ∀ p ∈ gs, ∃ v u, mg p.1 = some u ∧ RelV v u ∧ ∀ F : Hp, Rp K F v p.2
theorem lookup_mem' {α : Type} {x : Str} {d : α} : ∀ {gs : List (Str × α)}, gs.lookup x = some d → (x, d) ∈ gs
  | [], h => by cases h
  | (y, e) :: gs, h => by
    rw [List.lookup_cons] at h
    cases q : (x == y) with
    | true =>
      rw [q] at h
      have h : e = d := Option.some.inj h
      rw [beq_iff_eq.mp q, h]; exact List.mem_cons_self ..
    | false =>
      rw [q] at h
      exact List.mem_cons_of_mem _ (lookup_mem' h)
theorem tk_nil (hg : GlOk K mg gs) (hb : ∀ x, x ∈ biNames → mg x = none) : Tk (tabOf [] gs) 0 P w K mg base :=
  ⟨fun x en e => (by cases e), fun x d e => hg _ (lookup_mem' (gs := gs) e), hb⟩
theorem gl_int (X : K.In base) (G : base.Ns mainGlobals mg) (c : SaysP fa fn ts K) {x : Str} {i : Int} (h : He.Fa.int x i ∈ fa) : ∃ v u, mg x = some u ∧ RelV v u ∧ ∀ F : Hp, Rp K F v (.int i) := by
  obtain ⟨t, e⟩ := He.int_ok X G (c.fact h)
  exact ⟨.int i, _, e, ⟨t, rfl⟩, fun F => .int i⟩
def dvD : He.Dv → PyData
  | .bl b => .bool b
  | .int i => .int i
  | .str x => .str x
  | _ => .none
def dvOk : He.Dv → Bool
  | .non => true
  | .bl _ => true
  | .int _ => true
  | .str _ => true
  | _ => false
theorem rp_dvs (F : Hp) : ∀ {vs : List He.Dv}, (∀ v ∈ vs, dvOk v = true) → RpAll K F (vs.map (He.Dv.v K)) (vs.map dvD)
  | [], _ => .nil
  | v :: vs, h => by
    refine .cons ?_ (rp_dvs F fun z hz => h z (List.mem_cons_of_mem _ hz))
    have := h v (List.mem_cons_self ..)
    cases v <;> first
      | exact .non
      | exact .bl _
      | exact .int _
      | exact .str _
      | cases this
theorem gl_tup (X : K.In base) (G : base.Ns mainGlobals mg) (c : SaysP fa fn ts K) {x : Str} {vs : List He.Dv} (h : He.Fa.glo x ∈ fa) (h2 : (x, vs) ∈ ts) (h3 : vs.all dvOk = true) (h4 : decide (vs.length ≤ sizeLine) = true) : ∃ v u, mg x = some u ∧ RelV v u ∧ ∀ F : Hp, Rp K F v (.tuple (vs.map dvD)) :=
  ⟨.ref (He.ga K x), _, He.glo_ok X G (c.fact h), rfl, fun F => .tup (He.tupB_ok (c.tup h2) F) (by rw [List.length_map]; exact of_decide_eq_true h4) (rp_dvs F (List.all_eq_true.mp h3))⟩
theorem SaysP.funD (c : SaysP fa fn ts K) {d : He.DefD} (h : d ∈ fn) : ∃ fd, FunD K d.name d.qual d.params d.body d.scope (d.dvs K) (d.kws K) (He.fAd K d.at_) fd := by
  obtain ⟨i, hi⟩ := List.mem_iff_getElem?.mp h
  exact c.d.def_ i hi
/-- a def all of whose parameters are written -/
theorem cb_g (X : K.In base) (G : base.Ns mainGlobals mg) (c : SaysP fa fn ts K) (tk : Tk (tabOf fs gs) lv P w K mg base) {d : He.DefD} (hin : d ∈ fn) {x : Str} (hx : d.at_ = (x, none)) (hname : d.name = x) (hdf : d.dfl = []) (hf : He.Fa.glo x ∈ fa) {N ps : List Str} {s : S} {en : Ent}
    (hc : (scOk N ps d.scope && chkS s (infOf N d.scope) d.body) = true) (hd : Does (tabOf fs gs) s N.length en.w en.R) (hl : ∀ a L, en.R a L → a.length = ps.length) (hn : en.nd = 0)
    (hb : ∀ (kV doc pm : Value) (an : Option Addr) (cdv ct : Value) (us : List Value), us.length = ps.length → bindArgs (PySem.W.fnOf d.name d.qual d.params d.body d.scope .none kV doc pm an cdv ct) ⟨us, []⟩ = pure (ps.zip us))
    (hk : ∀ ks pm, (ks, pm) ∈ en.kw → ps ≠ [] ∧ ∀ (kV doc pm' : Value) (an : Option Addr) (cdv ct : Value) (ws : List Value), ws.length = ks.length → bindArgs (PySem.W.fnOf d.name d.qual d.params d.body d.scope .none kV doc pm' an cdv ct) ⟨[], ks.zip ws⟩ = pure (ps.zip (pm.map fun j => ws.getD j Value.none))) : Cb (lv + 1) P w K mg base x en := by
  obtain ⟨fd, F⟩ := c.funD hin
  have ed : d.dvs K = [] := by unfold He.DefD.dvs; rw [hdf]; rfl
  rw [ed] at F
  have hm : mg x = some (.ref (He.fAd K d.at_)) := by
    rw [hx]; exact He.glo_ok X G (c.fact hf)
  have c0 := cb_ok (x := d.name) F (by rw [hname]; exact hm) hc hd tk hl hn hb fun ks pm h => kb_ok F (hk ks pm h).1 (hk ks pm h).2
  rwa [hname] at c0
/-- a def whose last parameters have the default None -/
theorem cb_d (X : K.In base) (G : base.Ns mainGlobals mg) (c : SaysP fa fn ts K) (tk : Tk (tabOf fs gs) lv P w K mg base) {d : He.DefD} (hin : d ∈ fn) {x : Str} (hx : d.at_ = (x, none)) (hname : d.name = x) {m : Nat} (hdf : d.dfl = List.replicate m .non) (hf : He.Fa.glo x ∈ fa) {N ps : List Str} {s : S} {en : Ent}
    (hc : (scOk N ps d.scope && chkS s (infOf N d.scope) d.body) = true) (hd : Does (tabOf fs gs) s N.length en.w en.R) (hl : ∀ a L, en.R a L → a.length = ps.length) (hn : en.nd ≤ m) (hm0 : 0 < m) (hps : m ≤ ps.length)
    (hb : ∀ nd, nd ≤ en.nd → ∀ (T : Addr) (kV doc pm : Value) (an : Option Addr) (cdv ct : Value) (us its : List Value), us.length = ps.length - nd → its.length = m →
      ∃ k, bindArgs (PySem.W.fnOf d.name d.qual d.params d.body d.scope (.ref T) kV doc pm an cdv ct) ⟨us, []⟩ = seqItems? (.ref T) >>= k ∧ k (some its.toArray) = pure (ps.zip (us ++ its.drop (m - nd))))
    (hk : en.kw = []) : Cb (lv + 1) P w K mg base x en := by
  obtain ⟨fd, F⟩ := c.funD hin
  have ed : d.dvs K = List.replicate m V.non := by unfold He.DefD.dvs; rw [hdf, List.map_replicate]; rfl
  rw [ed] at F
  have hm : mg x = some (.ref (He.fAd K d.at_)) := by
    rw [hx]; exact He.glo_ok X G (c.fact hf)
  rw [Bool.and_eq_true] at hc
  refine ⟨_, fd, ps, lv + 1, Nat.le_refl _, hm, F.kp, fn_ok F hc.1 hc.2 hd tk, hl, fun nd h => ?_, fun ks pm h => by rw [hk] at h; cases h⟩
  obtain ⟨ds, hv, hB⟩ := F.binds1 (ps := ps) (ps.length - nd) (m - nd) (by
    cases m with
    | zero => omega
    | succ m => simp [List.replicate_succ]) (by rw [List.length_replicate]; omega) fun T kV doc pm an cdv ct us its h1 h2 => hb nd h T kV doc pm an cdv ct us its h1 (by rwa [List.length_replicate] at h2)
  rw [List.drop_replicate, show m - (m - nd) = nd by omega] at hv
  rw [vals_nones hv] at hB
  exact hB
end
theorem bits_small {z : Int} (h : Builtin.Int.intBits z ≤ 1048576) : z.natAbs < 2 ^ 1048576 := by
  unfold Builtin.Int.intBits at h
  by_cases h0 : z = 0
  · subst h0
    exact Nat.two_pow_pos _
  · rw [if_neg (by simpa using h0)] at h
    exact Nat.log2_lt (by omega) |>.mp (by omega)
end PL
end

section
set_option Elab.async false
set_option linter.all false
set_option autoImplicit false
set_option maxRecDepth 100000
set_option maxHeartbeats 4000000
/-! PN: the meaning of a text, construct by construct, for rewriting. -/
namespace PL
open PySem L2

/-- a comprehension over xs -/
def lcK (tb : Tab) (own : List Nat) (g : G) (ts : Ts) (p : P) (xs : List PyData) (env : Ev) (Q : List PyData → Ev → Prop) : Prop := loopC (wpG g) (wpTs tb ts) (wpE tb p) own xs env [] fun acc e2 => Q acc (backE env e2 own)
/-- a dict comprehension over xs -/
def dcK (tb : Tab) (own : List Nat) (g : G) (ts : Ts) (p q : P) (xs : List PyData) (env : Ev) (Q : List (PyData × PyData) → Ev → Prop) : Prop := loopD (wpG g) (wpTs tb ts) (wpE tb p) (wpE tb q) own xs env [] fun acc e2 => Q acc (backE env e2 own)
/-- a comprehension of two loops -/
def lc2K (tb : Tab) (own own1 : List Nat) (g : G) (ts : Ts) (it1 : It) (g1 : G) (ts1 : Ts) (p : P) (xs : List PyData) (env : Ev) (Q : List PyData → Ev → Prop) : Prop := loopC2 (wpG g) (wpTs tb ts) (wpI tb it1) (wpG g1) (wpTs tb ts1) (wpE tb p) own own1 xs env [] fun acc e2 => Q acc (backE env e2 own)
section
variable {tb : Tab} {env : Ev} {i : Nat} {d : PyData} {r : Sl}
/-! ### slots -/
theorem wipeE_n : wipeE env [] = env := rfl
theorem wipeE_c {v : Nat} {vs : List Nat} : wipeE env (v :: vs) = (wipeE env vs).set v .un := rfl
def rdK (x : Option Sl) (i : Nat) (env : Ev) (Q : Sl → Ev → Prop) : Prop := match x with
  | some (.sh d) => Q (.sh d) env
  | some (.ow d) => Q (.sh d) (env.set i (.sh d))
  | _ => False
def mvK (x : Option Sl) (i : Nat) (env : Ev) (Q : Sl → Ev → Prop) : Prop := match x with
  | some (.ow d) => Q (.ow d) (env.set i .un)
  | _ => False
def pkK (x : Option Sl) (Q : PyData → Prop) : Prop := match x with
  | some (.sh d) => Q d
  | some (.ow d) => Q d
  | some (.io d) => Q d
  | _ => False
def wrK (x : Option Sl) (i : Nat) (env : Ev) (r : Sl) (Q : Ev → Prop) : Prop := match x with
  | none => False
  | some (.io _) => False
  | some _ => Q (env.set i r)
def mdK (x : Option Sl) (i : Nat) (env : Ev) (f : PyData → (PyData → Prop) → Prop) (Q : Ev → Prop) : Prop := match x with
  | some (.ow d) => f d fun d' => Q (env.set i (.ow d'))
  | some (.io d) => f d fun d' => Q (env.set i (.io d'))
  | _ => False
def owK (x : Option Sl) : Prop := match x with
  | some (.ow (.list _)) => True
  | some (.io (.list _)) => True
  | _ => False
def odK (x : Option Sl) : Prop := match x with
  | some (.ow (.dict _)) => True
  | some (.io (.dict _)) => True
  | _ => False
/-- a list or a dict of one's own -/
def oxK (x : Option Sl) : Prop := owK x ∨ odK x
def popK (x : Option Sl) (i : Nat) (e : Ev) (y : PyData) (Q : Sl → Ev → Prop) : Prop := match x with
  | some (.ow (.list ds)) => popS ds y fun v ds' => Q (.sh v) (e.set i (.ow (.list ds')))
  | some (.io (.list ds)) => popS ds y fun v ds' => Q (.sh v) (e.set i (.io (.list ds')))
  | _ => False
theorem K_od : ownD env i = odK env[i]? := rfl
theorem K_ox : (ownL env i ∨ ownD env i) = oxK env[i]? := rfl
theorem K_rd {Q : Sl → Ev → Prop} : rd env i Q = rdK env[i]? i env Q := rfl
theorem K_mv {Q : Sl → Ev → Prop} : mvS env i Q = mvK env[i]? i env Q := rfl
theorem K_pk {Q : PyData → Prop} : pk env i Q = pkK env[i]? Q := rfl
theorem K_wr {Q : Ev → Prop} : wr env i r Q = wrK env[i]? i env r Q := rfl
theorem K_md {f : PyData → (PyData → Prop) → Prop} {Q : Ev → Prop} : md env i f Q = mdK env[i]? i env f Q := rfl
theorem K_ow : ownL env i = owK env[i]? := rfl
theorem rdK_sh {Q : Sl → Ev → Prop} : rdK (some (.sh d)) i env Q = Q (.sh d) env := rfl
theorem rdK_ow {Q : Sl → Ev → Prop} : rdK (some (.ow d)) i env Q = Q (.sh d) (env.set i (.sh d)) := rfl
theorem mvK_ow {Q : Sl → Ev → Prop} : mvK (some (.ow d)) i env Q = Q (.ow d) (env.set i .un) := rfl
theorem pkK_sh {Q : PyData → Prop} : pkK (some (.sh d)) Q = Q d := rfl
theorem pkK_ow {Q : PyData → Prop} : pkK (some (.ow d)) Q = Q d := rfl
theorem pkK_io {Q : PyData → Prop} : pkK (some (.io d)) Q = Q d := rfl
theorem wrK_un {Q : Ev → Prop} : wrK (some .un) i env r Q = Q (env.set i r) := rfl
theorem wrK_sh {Q : Ev → Prop} : wrK (some (.sh d)) i env r Q = Q (env.set i r) := rfl
theorem wrK_ow {Q : Ev → Prop} : wrK (some (.ow d)) i env r Q = Q (env.set i r) := rfl
theorem mdK_ow {f : PyData → (PyData → Prop) → Prop} {Q : Ev → Prop} : mdK (some (.ow d)) i env f Q = f d fun d' => Q (env.set i (.ow d')) := rfl
theorem mdK_io {f : PyData → (PyData → Prop) → Prop} {Q : Ev → Prop} : mdK (some (.io d)) i env f Q = f d fun d' => Q (env.set i (.io d')) := rfl
theorem odK_ow {es : List (PyData × PyData)} : odK (some (.ow (.dict es))) = True := rfl
theorem odK_io {es : List (PyData × PyData)} : odK (some (.io (.dict es))) = True := rfl
theorem oxK_owL {ds : List PyData} : oxK (some (.ow (.list ds))) = True := eq_true (.inl trivial)
theorem oxK_ioL {ds : List PyData} : oxK (some (.io (.list ds))) = True := eq_true (.inl trivial)
theorem oxK_owD {es : List (PyData × PyData)} : oxK (some (.ow (.dict es))) = True := eq_true (.inr trivial)
theorem oxK_ioD {es : List (PyData × PyData)} : oxK (some (.io (.dict es))) = True := eq_true (.inr trivial)
theorem popK_ow {ds : List PyData} {e : Ev} {y : PyData} {Q : Sl → Ev → Prop} : popK (some (.ow (.list ds))) i e y Q = popS ds y fun v ds' => Q (.sh v) (e.set i (.ow (.list ds'))) := rfl
theorem popK_io {ds : List PyData} {e : Ev} {y : PyData} {Q : Sl → Ev → Prop} : popK (some (.io (.list ds))) i e y Q = popS ds y fun v ds' => Q (.sh v) (e.set i (.io (.list ds'))) := rfl
theorem owK_ow {ds : List PyData} : owK (some (.ow (.list ds))) = True := rfl
theorem owK_io {ds : List PyData} : owK (some (.io (.list ds))) = True := rfl
theorem d_sh : Sl.d (.sh d) = d := rfl
theorem d_ow : Sl.d (.ow d) = d := rfl
theorem d_io : Sl.d (.io d) = d := rfl
theorem d_tp {x : PyData} : Sl.d (.tp x d) = .tuple [x, d] := rfl
theorem st_sh : Sl.st (.sh d) = .sh d := rfl
theorem st_ow : Sl.st (.ow d) = .ow d := rfl
theorem st_tp {x : PyData} : Sl.st (.tp x d) = .sh (.tuple [x, d]) := rfl
theorem wrs_nil {Q : Ev → Prop} : wrs env [] [] Q = Q env := rfl
theorem wrs_cons {is : List Nat} {rs : List Sl} {Q : Ev → Prop} : wrs env (i :: is) (r :: rs) Q = wr env i r fun e => wrs e is rs Q := rfl
theorem G_name {Q : Ev → Prop} : wpG (.name i) d env Q = wr env i (.sh d) Q := rfl
theorem G_tupL {is : List Nat} {ds : List PyData} {Q : Ev → Prop} : wpG (.tup is) (.list ds) env Q = wrs env is (ds.map Sl.sh) Q := rfl
theorem G_tup {is : List Nat} {ds : List PyData} {Q : Ev → Prop} : wpG (.tup is) (.tuple ds) env Q = wrs env is (ds.map Sl.sh) Q := rfl
/-! ### expressions -/
variable {Q : Sl → Ev → Prop} {o o2 : CmpOp} {op : Operator} {a b c : P} {t : T} {as lo hi : As} {x : Str}
theorem E_var : wpE tb (.var i) env Q = rd env i Q := rfl
theorem E_mv : wpE tb (.mv i) env Q = mvS env i Q := rfl
theorem E_int {n : Int} : wpE tb (.int n) env Q = Q (.sh (.int n)) env := rfl
theorem E_bl {k : Bool} : wpE tb (.bl k) env Q = Q (.sh (.bool k)) env := rfl
theorem E_non : wpE tb .non env Q = Q (.sh .none) env := rfl
theorem E_str : wpE tb (.str x) env Q = Q (.sh (.str x)) env := rfl
theorem E_glob : wpE tb (.glob x) env Q = ∃ d, tb.gl x = some d ∧ Q (.sh d) env := rfl
theorem E_bin : wpE tb (.bin op a b) env Q = wpE tb a env fun x e => wpE tb b e fun y e => binS op x.d y.d fun r => Q r e := rfl
theorem E_neg : wpE tb (.neg a) env Q = wpE tb a env fun x e => match x.d with | .int i => Q (.sh (.int (-i))) e | _ => False := rfl
theorem E_cmp : wpE tb (.cmp o a b) env Q = wpE tb a env fun x e => wpE tb b e fun y e => cmpS o x.d y.d fun c => Q (.sh (.bool c)) e := rfl
theorem E_cmpB : wpE tb (.cmpB o a i) env Q = wpE tb a env fun x e => pk e i fun y => cmpS o x.d y fun c => Q (.sh (.bool c)) e := rfl
theorem E_cmpL : wpE tb (.cmpL o i b) env Q = (pk env i (fun _ => True) ∧ wpE tb b env fun y e => pk e i fun x => cmpS o x y.d fun c => Q (.sh (.bool c)) e) := rfl
theorem E_chain : wpE tb (.chain o o2 a b c) env Q = wpE tb a env fun x e => wpE tb b e fun y e => cmpS o x.d y.d fun k => if k = true then wpE tb c e (fun z e => cmpS o2 y.d z.d fun k => Q (.sh (.bool k)) e) else Q (.sh (.bool false)) e := by
  show wpE tb a env _ = _
  congr 1; funext x e; congr 1; funext y e; congr 1; funext k; cases k <;> simp
theorem E_and : wpE tb (.and a b) env Q = wpE tb a env fun x e => match x.d with | .bool k => if k = true then wpE tb b e Q else Q (.sh (.bool false)) e | _ => False := by
  show wpE tb a env _ = _
  congr 1; funext x e; cases x.d <;> try rfl
  rename_i k; cases k <;> simp
theorem E_or : wpE tb (.or a b) env Q = wpE tb a env fun x e => match x.d with | .bool k => if k = true then Q (.sh (.bool true)) e else wpE tb b e Q | _ => False := by
  show wpE tb a env _ = _
  congr 1; funext x e; cases x.d <;> try rfl
  rename_i k; cases k <;> simp
theorem E_not : wpE tb (.not a) env Q = wpE tb a env fun x e => match x.d with | .bool k => Q (.sh (.bool (!k))) e | _ => False := rfl
theorem E_ife : wpE tb (.ife t a b) env Q = wpT tb t env fun k e => if k = true then wpE tb a e Q else wpE tb b e Q := by
  show wpT tb t env _ = _
  congr 1; funext k e; cases k <;> simp
theorem E_tup : wpE tb (.tup as) env Q = wpA tb as env fun rs e => Q (.sh (.tuple (rs.map Sl.d))) e := rfl
theorem E_lst : wpE tb (.lst as) env Q = wpA tb as env fun rs e => Q (.ow (.list (rs.map Sl.d))) e := rfl
theorem E_pr : wpE tb (.pr a b) env Q = wpE tb a env fun x e => wpE tb b e fun y e => match y with | .ow d => Q (.tp x.d d) e | _ => False := rfl
theorem E_ix : wpE tb (.ix a b) env Q = wpE tb a env fun x e => wpE tb b e fun y e => ixS x.d y.d fun r => Q r e := rfl
theorem E_ixB : wpE tb (.ixB i b) env Q = (pk env i (fun _ => True) ∧ wpE tb b env fun y e => pk e i fun x => ixS x y.d fun r => Q r e) := rfl
theorem E_slc : wpE tb (.slc a lo hi) env Q = wpE tb a env fun x e => wpA tb lo e fun ls e => partS (ls.map Sl.d) fun l => wpA tb hi e fun hs e => partS (hs.map Sl.d) fun h => slcS x.d l h fun r => Q r e := rfl
theorem E_rev : wpE tb (.rev a) env Q = wpE tb a env fun x e => revS x.d fun r => Q r e := rfl
theorem E_call {nd : Nat} : wpE tb (.call x nd as) env Q = ∃ en, tb.fn x = some en ∧ en.w = false ∧ nd ≤ en.nd ∧ wpA tb as env fun rs e => en.R (rs.map Sl.d ++ List.replicate nd .none) fun r _ => Q r e := rfl
theorem E_callK {ks : List Str} : wpE tb (.callK x ks as) env Q = ∃ en pm, tb.fn x = some en ∧ en.w = false ∧ (ks, pm) ∈ en.kw ∧ wpA tb as env fun rs e => en.R (pm.map fun j => (rs.map Sl.d).getD j .none) fun r _ => Q r e := rfl
theorem E_callW : wpE tb (.callW x i as) env Q = ∃ en, tb.fn x = some en ∧ en.w = true ∧ pk env i (fun _ => True) ∧ wpA tb as env fun rs e => match e[i]? with
    | some (.io d) => en.R (d :: rs.map Sl.d) fun r d' => Q r (e.set i (.io d'))
    | some (.ow d) => en.R (d :: rs.map Sl.d) fun r d' => Q r (e.set i (.ow d'))
    | _ => False := rfl
theorem E_bi {k : Bi} : wpE tb (.bi k as) env Q = wpA tb as env fun rs e => biS k (rs.map Sl.d) fun r => Q r e := rfl
theorem E_lenB : wpE tb (.lenB i) env Q = pk env i fun x => lenS x fun r => Q r env := rfl
theorem E_isi {ks : List Kd} : wpE tb (.isi ks a) env Q = wpE tb a env fun x e => noDict x.d = true ∧ Q (.sh (.bool (ks.any fun k => isKd k x.d))) e := rfl
theorem E_lc {own : List Nat} {it : It} {g : G} {ts : Ts} {p : P} : wpE tb (.lc own it g ts p) env Q = wpI tb it env fun xs e => xs.length ≤ LIM ∧ lcK tb own g ts p xs e fun acc e => Q (.ow (.list acc)) e := rfl
theorem E_index : wpE tb (.index a b) env Q = wpE tb a env fun x e => (∃ ds, x.d = .list ds) ∧ wpE tb b e fun y e => indexS x.d y.d fun r => Q r e := rfl
theorem E_fz : wpE tb (.fz a) env Q = wpE tb a env fun x e => Q (.sh x.d) e := rfl
theorem E_dnew : wpE tb .dnew env Q = Q (.ow (.dict [])) env := rfl
theorem E_dget : wpE tb (.dget a b c) env Q = wpE tb a env fun y e => (∃ es, y.d = .dict es) ∧ wpE tb b e fun u e => wpE tb c e fun z e => getS y.d u.d z.d fun r => Q r e := rfl
theorem E_dgetB : wpE tb (.dgetB i b c) env Q = (pk env i (fun d => ∃ es, d = .dict es) ∧ wpE tb b env fun u e => wpE tb c e fun z e => pk e i fun y => getS y u.d z.d fun r => Q r e) := rfl
theorem E_dc {own : List Nat} {it : It} {g : G} {ts : Ts} {p q : P} : wpE tb (.dc own it g ts p q) env Q = wpI tb it env fun xs e => xs.length ≤ LIM ∧ dcK tb own g ts p q xs e fun acc e => Q (.ow (.dict acc)) e := rfl
theorem E_lc2 {own own1 : List Nat} {it it1 : It} {g g1 : G} {ts ts1 : Ts} {p : P} : wpE tb (.lc2 own own1 it g ts it1 g1 ts1 p) env Q = wpI tb it env fun xs e => lc2K tb own own1 g ts it1 g1 ts1 p xs e fun acc e => Q (.ow (.list acc)) e := rfl
theorem E_rgl1 {k : Bool} : wpE tb (.rgl1 k a) env Q = wpE tb a env fun x e => rngS [x.d] fun ds => Q (rglR k ds) e := rfl
theorem E_rgl2 {k : Bool} : wpE tb (.rgl2 k a b) env Q = wpE tb a env fun x e => wpE tb b e fun y e => rngS [x.d, y.d] fun ds => Q (rglR k ds) e := rfl
theorem rglR_t {ds : List PyData} : rglR true ds = .sh (.tuple ds) := rfl
theorem rglR_f {ds : List PyData} : rglR false ds = .ow (.list ds) := rfl
theorem E_pop : wpE tb (.pop i a) env Q = (ownL env i ∧ wpE tb a env fun y e => popK e[i]? i e y.d Q) := rfl
theorem A_nil {Q : List Sl → Ev → Prop} : wpA tb .nil env Q = Q [] env := rfl
theorem A_cons {Q : List Sl → Ev → Prop} : wpA tb (.cons a as) env Q = wpE tb a env fun x e => wpA tb as e fun xs e => Q (x.st :: xs) e := rfl
/-! ### tests -/
section
variable {Q : Bool → Ev → Prop} {t u : T}
theorem T_val : wpT tb (.val a) env Q = wpE tb a env fun x e => match x.d with | .bool k => Q k e | _ => False := rfl
theorem T_cmp : wpT tb (.cmp o a b) env Q = wpE tb a env fun x e => wpE tb b e fun y e => cmpS o x.d y.d fun c => Q c e := rfl
theorem T_cmpB : wpT tb (.cmpB o a i) env Q = wpE tb a env fun x e => pk e i fun y => cmpS o x.d y fun c => Q c e := rfl
theorem T_cmpL : wpT tb (.cmpL o i b) env Q = (pk env i (fun _ => True) ∧ wpE tb b env fun y e => pk e i fun x => cmpS o x y.d fun c => Q c e) := rfl
theorem T_chain : wpT tb (.chain o o2 a b c) env Q = wpE tb a env fun x e => wpE tb b e fun y e => cmpS o x.d y.d fun k => if k = true then wpE tb c e (fun z e => cmpS o2 y.d z.d fun k => Q k e) else Q false e := by
  show wpE tb a env _ = _
  congr 1; funext x e; congr 1; funext y e; congr 1; funext k; cases k <;> simp
theorem T_and : wpT tb (.and t u) env Q = wpT tb t env fun k e => if k = true then wpT tb u e Q else Q false e := by
  show wpT tb t env _ = _
  congr 1; funext k e; cases k <;> simp
theorem T_or : wpT tb (.or t u) env Q = wpT tb t env fun k e => if k = true then Q true e else wpT tb u e Q := by
  show wpT tb t env _ = _
  congr 1; funext k e; cases k <;> simp
theorem T_not : wpT tb (.not t) env Q = wpT tb t env fun k e => Q (!k) e := rfl
theorem Ts_nil : wpTs tb .nil env Q = Q true env := rfl
theorem Ts_one : wpTs tb (.one t) env Q = wpT tb t env Q := rfl
end
/-! ### iterators -/
section
variable {Q : List PyData → Ev → Prop}
theorem I_seq : wpI tb (.seq a) env Q = wpE tb a env fun x e => itemsOf x.d fun ds => Q ds e := rfl
theorem I_rng1 : wpI tb (.rng1 a) env Q = wpE tb a env fun x e => rngS [x.d] fun ds => Q ds e := rfl
theorem I_rng2 : wpI tb (.rng2 a b) env Q = wpE tb a env fun x e => wpE tb b e fun y e => rngS [x.d, y.d] fun ds => Q ds e := rfl
theorem I_rng3 : wpI tb (.rng3 a b c) env Q = wpE tb a env fun x e => wpE tb b e fun y e => wpE tb c e fun z e => rngS [x.d, y.d, z.d] fun ds => Q ds e := rfl
theorem I_enum : wpI tb (.enum a) env Q = wpE tb a env fun x e => seqOf x.d fun ds => Q (enumL ds) e := rfl
theorem I_zip : wpI tb (.zip a b) env Q = wpE tb a env fun x e => wpE tb b e fun y e => sameKind x.d y.d = true ∧ seqOf x.d fun ds => seqOf y.d fun es => Q (zipL ds es) e := rfl
theorem I_keys : wpI tb (.keys a) env Q = wpE tb a env fun x e => keysS x.d fun ds => Q ds e := rfl
theorem I_items : wpI tb (.items a) env Q = wpE tb a env fun x e => itemsS x.d fun ds => Q ds e := rfl
end
/-! ### statements -/
section
variable {Q : Out → Prop} {s u : S} {is : List Nat} {t : T}
theorem S_skip : wpS tb .skip env Q = Q (.nx env) := rfl
theorem S_seq : wpS tb (.seq s u) env Q = wpS tb s env fun o => match o with | .nx e => wpS tb u e Q | o => Q o := rfl
theorem S_set : wpS tb (.set i a) env Q = wpE tb a env fun r e => wr e i r.st fun e => Q (.nx e) := rfl
theorem S_setF : wpS tb (.setF i a) env Q = wpE tb a env fun r e => wr e i (.sh r.d) fun e => Q (.nx e) := rfl
theorem S_par : wpS tb (.par is as) env Q = wpA tb as env fun rs e => wrs e is rs fun e => Q (.nx e) := rfl
theorem S_unp : wpS tb (.unp is a) env Q = wpE tb a env fun r e => match r with
    | .tp x d => wrs e is [.sh x, .ow d] fun e => Q (.nx e)
    | r => wpG (.tup is) r.d e fun e => Q (.nx e) := rfl
theorem S_ite : wpS tb (.ite t s u) env Q = wpT tb t env fun k e => if k = true then wpS tb s e Q else wpS tb u e Q := by
  show wpT tb t env _ = _
  congr 1; funext k e; cases k <;> simp
theorem S_whl : wpS tb (.whl t s) env Q = ∃ n, loopW (wpT tb t) (wpS tb s) n env Q := rfl
theorem S_for {g : G} {it : It} : wpS tb (.for_ g it s) env Q = wpI tb it env fun xs e => loopF (wpG g) (wpS tb s) xs e Q := rfl
theorem S_ret : wpS tb (.ret a) env Q = wpE tb a env fun r e => Q (.rt r e) := rfl
theorem S_expr : wpS tb (.expr a) env Q = wpE tb a env fun _ e => Q (.nx e) := rfl
theorem S_app : wpS tb (.app i a) env Q = (ownL env i ∧ wpE tb a env fun r e => md e i (appS r.d) fun e => Q (.nx e)) := rfl
theorem S_ext : wpS tb (.ext i a) env Q = (ownL env i ∧ wpE tb a env fun r e => match r with | .ow d => md e i (extS d) (fun e => Q (.nx e)) | _ => False) := rfl
theorem S_setIx : wpS tb (.setIx i a b) env Q = wpE tb b env fun r e => oxK e[i]? ∧ wpE tb a e fun k e => md e i (setS k.d r.d) fun e => Q (.nx e) := by
  show (wpE tb b env fun r e => (ownL e i ∨ ownD e i) ∧ _) = _
  rfl
theorem S_upd : wpS tb (.upd i a) env Q = (odK env[i]? ∧ wpE tb a env fun r e => md e i (updS r.d) fun e => Q (.nx e)) := rfl
theorem S_tmp : wpS tb (.tmp i a t b) env Q = wpE tb a env fun y e => match y with
    | .tp x d => flatO e = true ∧ wr e i (.sh (.tuple [x, d])) fun e2 => wpT tb t e2 fun c e3 => if c = true then wpE tb b e3 (fun z e => Q (.rt z e)) else (e3 = e2 ∧ (∃ ds, d = .list ds ∧ ds.length < LIM) ∧ Q (.nx (e2.set i .un)))
    | _ => False := by
  show wpE tb a env _ = _
  congr 1; funext y e; cases y <;> try rfl
  show (_ ∧ _) = (_ ∧ _)
  congr 1; congr 1; funext e2; congr 1; funext c e3; cases c <;> simp
theorem S_brk : wpS tb .brk env Q = Q (.bk env) := rfl
theorem S_cnt : wpS tb .cnt env Q = Q (.ct env) := rfl
theorem S_never : wpS tb .never env Q = False := rfl
end
end
/-! ### operators, on values -/
section
variable {Q : Sl → Prop} {B : Bool → Prop} {i j : Int} {k : Bool} {x y : PyData} {ds es : List PyData} {z u : Str}
theorem V_add : binS .Add (.int i) (.int j) Q = Q (.sh (.int (i + j))) := rfl
theorem V_addS : binS .Add (.str z) (.str u) Q = (z.length + u.length ≤ LIM ∧ Q (.sh (.str (z ++ u)))) := rfl
theorem V_addT : binS .Add (.tuple ds) (.tuple es) Q = (ds.length + es.length ≤ LIM ∧ Q (.sh (.tuple (ds ++ es)))) := rfl
theorem V_addL : binS .Add (.list ds) (.list es) Q = (ds.length + es.length ≤ LIM ∧ Q (.ow (.list (ds ++ es)))) := rfl
theorem V_sub : binS .Sub (.int i) (.int j) Q = Q (.sh (.int (i - j))) := rfl
theorem V_mul : binS .Mult (.int i) (.int j) Q = (MulOk i j ∧ Q (.sh (.int (i * j)))) := rfl
theorem V_mulL : binS .Mult (.list ds) (.int j) Q = ((-1000 ≤ j ∧ j ≤ 1000) ∧ ds.length ≤ 1000 ∧ Q (.ow (.list (List.replicate j.toNat ds).flatten))) := rfl
theorem V_mulT : binS .Mult (.tuple ds) (.int j) Q = ((-1000 ≤ j ∧ j ≤ 1000) ∧ ds.length ≤ 1000 ∧ Q (.sh (.tuple (List.replicate j.toNat ds).flatten))) := rfl
theorem V_div : binS .FloorDiv (.int i) (.int j) Q = (DivOk i j ∧ Q (.sh (.int (i.fdiv j)))) := rfl
theorem V_mod : binS .Mod (.int i) (.int j) Q = (j ≠ 0 ∧ Q (.sh (.int (i.fmod j)))) := rfl
theorem V_pow : binS .Pow (.int i) (.int j) Q = ((0 ≤ j ∧ j ≤ 1000000 ∧ i.natAbs < 2 ^ 64) ∧ Q (.sh (.int (i ^ j.toNat)))) := rfl
theorem C_lt : cmpS .Lt (.int i) (.int j) B = B (decide (i < j)) := rfl
theorem C_le : cmpS .LtE (.int i) (.int j) B = B (decide (i ≤ j)) := rfl
theorem C_gt : cmpS .Gt (.int i) (.int j) B = B (decide (j < i)) := rfl
theorem C_ge : cmpS .GtE (.int i) (.int j) B = B (decide (j ≤ i)) := rfl
theorem C_ltT : cmpS .Lt (.tuple ds) (.tuple es) B = (tupOk ds es = true ∧ B (tupLt ds es)) := rfl
theorem eqv_int : PyData.eqv (.int i) (.int j) = decide (i = j) := by
  rw [Bool.eq_iff_iff]; simp [PyData.eqv]
theorem shaped_int : SeqAt.shaped (.int i) = true := by simp [SeqAt.shaped, PyData.canLay0, PyData.depth]
theorem C_eqI : cmpS .Eq (.int i) (.int j) B = B (decide (i = j)) := by
  show (_ ∧ _ ∧ _) = _
  rw [shaped_int, shaped_int, eqv_int]; simp
theorem C_neI : cmpS .NotEq (.int i) (.int j) B = B (!decide (i = j)) := by
  show (_ ∧ _ ∧ _) = _
  rw [shaped_int, shaped_int, eqv_int]; simp
theorem C_eq : cmpS .Eq x y B = (SeqAt.shaped x = true ∧ SeqAt.shaped y = true ∧ B (PyData.eqv x y)) := rfl
theorem C_ne : cmpS .NotEq x y B = (SeqAt.shaped x = true ∧ SeqAt.shaped y = true ∧ B (!PyData.eqv x y)) := rfl
theorem C_inL : cmpS .In x (.list ds) B = (SeqAt.shaped x = true ∧ SeqAt.shaped (.list ds) = true ∧ B (ds.any fun z => PyData.eqv z x)) := rfl
theorem C_inT : cmpS .In x (.tuple ds) B = (SeqAt.shaped x = true ∧ SeqAt.shaped (.tuple ds) = true ∧ B (ds.any fun z => PyData.eqv z x)) := rfl
theorem C_niL : cmpS .NotIn x (.list ds) B = (SeqAt.shaped x = true ∧ SeqAt.shaped (.list ds) = true ∧ B (!ds.any fun z => PyData.eqv z x)) := rfl
theorem C_niT : cmpS .NotIn x (.tuple ds) B = (SeqAt.shaped x = true ∧ SeqAt.shaped (.tuple ds) = true ∧ B (!ds.any fun z => PyData.eqv z x)) := rfl
theorem C_is : cmpS .Is x .none B = B (isNon x) := rfl
theorem C_isN : cmpS .IsNot x .none B = B (!isNon x) := rfl
theorem X_l : ixS (.list ds) (.int i) Q = ∃ d, atI ds i = some d ∧ Q (.sh d) := rfl
theorem X_t : ixS (.tuple ds) (.int i) Q = ∃ d, atI ds i = some d ∧ Q (.sh d) := rfl
theorem X_s : ixS (.str z) (.int i) Q = (z.length ≤ LIM ∧ ∃ c, atI z.cps.toList i = some c ∧ Q (.sh (.str ⟨#[c]⟩))) := rfl
theorem L_l : lenS (.list ds) Q = Q (.sh (.int ds.length)) := rfl
theorem L_t : lenS (.tuple ds) Q = Q (.sh (.int ds.length)) := rfl
theorem L_s : lenS (.str z) Q = (z.length ≤ LIM ∧ Q (.sh (.int z.length))) := rfl
theorem R_l : revS (.list ds) Q = Q (.ow (.list ds.reverse)) := rfl
theorem R_s : revS (.str z) Q = (z.length ≤ LIM ∧ Q (.sh (.str ⟨z.cps.reverse⟩))) := rfl
theorem P_n {Q : Option Int → Prop} : partS [] Q = Q none := rfl
theorem P_i {Q : Option Int → Prop} : partS [.int i] Q = Q (some i) := rfl
theorem U_l {lo hi : Option Int} : slcS (.list ds) lo hi Q = Q (.ow (.list (cutD ds lo hi))) := rfl
theorem U_t {lo hi : Option Int} : slcS (.tuple ds) lo hi Q = Q (.sh (.tuple (cutD ds lo hi))) := rfl
theorem B_abs : biS .abs [.int i] Q = Q (.sh (.int (if i < 0 then -i else i))) := rfl
theorem B_min : biS .min2 [.int i, .int j] Q = Q (.sh (.int (if j < i then j else i))) := rfl
theorem B_max : biS .max2 [.int i, .int j] Q = Q (.sh (.int (if j > i then j else i))) := rfl
theorem B_sum : biS .sum [.list ds] Q = ∃ ns, allInts ds = some ns ∧ Q (.sh (.int ns.sum)) := rfl
theorem B_listL : biS .list [.list ds] Q = Q (.ow (.list ds)) := rfl
theorem B_listT : biS .list [.tuple ds] Q = Q (.ow (.list ds)) := rfl
theorem B_tupL : biS .tuple [.list ds] Q = Q (.sh (.tuple ds)) := rfl
theorem B_tupT : biS .tuple [.tuple ds] Q = Q (.sh (.tuple ds)) := rfl
theorem B_int : biS .int [.int i] Q = Q (.sh (.int i)) := rfl
theorem B_intB : biS .int [.bool k] Q = Q (.sh (.int (if k then 1 else 0))) := rfl
theorem B_repr : biS .repr [x] Q = ((isDisp x = true ∧ SeqAt.shaped x = true ∧ x.showable = true ∧ x.shown.length ≤ LIM) ∧ Q (.sh (.str x.shown))) := rfl
theorem B_sorted : biS .sorted [.list ds] Q = ((PySem.W.AllAlike ds ∧ PySem.W.Sortable ds ∧ ∀ d, d ∈ ds → SeqAt.shaped d = true ∧ d.depth ≤ 60) ∧ Q (.ow (.list (sortD ds)))) := rfl
theorem B_all : biS .all [.list ds] Q = ∃ ns, allBools ds = some ns ∧ Q (.sh (.bool (ns.all id))) := rfl
theorem B_any : biS .any [.list ds] Q = ∃ ns, allBools ds = some ns ∧ Q (.sh (.bool (ns.any id))) := rfl
theorem B_len : biS .len [x] Q = lenS x Q := rfl
theorem M_l {Q : List PyData → Prop} : itemsOf (.list ds) Q = Q ds := rfl
theorem M_t {Q : List PyData → Prop} : itemsOf (.tuple ds) Q = Q ds := rfl
theorem M_s {Q : List PyData → Prop} : itemsOf (.str z) Q = Q (chars z) := rfl
theorem M_ql {Q : List PyData → Prop} : seqOf (.list ds) Q = Q ds := rfl
theorem M_qt {Q : List PyData → Prop} : seqOf (.tuple ds) Q = Q ds := rfl
theorem M_r1 {Q : List PyData → Prop} : rngS [.int j] Q = ((-(2 ^ 62) ≤ j ∧ j ≤ LIM) ∧ Q (rangeL 0 1 j.toNat)) := rfl
theorem M_r2 {Q : List PyData → Prop} : rngS [.int i, .int j] Q = ((-(2 ^ 62) ≤ i ∧ i < 2 ^ 62 ∧ -(2 ^ 62) ≤ j ∧ j < 2 ^ 62 ∧ j - i ≤ LIM) ∧ Q (rangeL i 1 (j - i).toNat)) := rfl
theorem M_r3 {Q : List PyData → Prop} : rngS [.int i, .int j, .int (-1)] Q = ((-(2 ^ 62) ≤ i ∧ i < 2 ^ 62 ∧ -(2 ^ 62) ≤ j ∧ j < 2 ^ 62 ∧ i - j ≤ LIM) ∧ Q (rangeL i (-1) (i - j).toNat)) := rfl
theorem M_app {Q : PyData → Prop} : appS y (.list ds) Q = (ds.length < LIM ∧ Q (.list (ds ++ [y]))) := rfl
theorem M_ext {Q : PyData → Prop} : extS (.list es) (.list ds) Q = (ds.length + es.length ≤ LIM ∧ Q (.list (ds ++ es))) := rfl
theorem M_set {Q : PyData → Prop} : setS (.int i) y (.list ds) Q = ∃ j, ixN ds.length i = some j ∧ Q (.list (ds.set j y)) := rfl
theorem X_d {kvs : List (PyData × PyData)} : ixS (.dict kvs) y Q = (isKey y = true ∧ ∃ v, dGet kvs y = some v ∧ Q (.sh v)) := by cases y <;> rfl
theorem C_inD {kvs : List (PyData × PyData)} : cmpS .In x (.dict kvs) B = (isKey x = true ∧ B (dGet kvs x).isSome) := rfl
theorem C_niD {kvs : List (PyData × PyData)} : cmpS .NotIn x (.dict kvs) B = (isKey x = true ∧ B (!(dGet kvs x).isSome)) := rfl
theorem M_upd {kvs fs : List (PyData × PyData)} {Q : PyData → Prop} : updS (.dict fs) (.dict kvs) Q = (kvs.length + fs.length ≤ LIM ∧ Q (.dict (dUpd kvs fs))) := rfl
theorem M_setD {kvs : List (PyData × PyData)} {Q : PyData → Prop} : setS x y (.dict kvs) Q = (isKey x = true ∧ kvs.length < LIM ∧ Q (.dict (dPut kvs x y))) := rfl
theorem M_get {kvs : List (PyData × PyData)} : getS (.dict kvs) x y Q = (isKey x = true ∧ Q (.sh ((dGet kvs x).getD y))) := rfl
theorem M_keys {kvs : List (PyData × PyData)} {Q : List PyData → Prop} : keysS (.dict kvs) Q = Q (kvs.map (·.1)) := rfl
theorem M_items {kvs : List (PyData × PyData)} {Q : List PyData → Prop} : itemsS (.dict kvs) Q = Q (kvs.map fun e => .tuple [e.1, e.2]) := rfl
theorem M_pop {Q : PyData → List PyData → Prop} : popS ds (.int i) Q = ∃ j v, ixN ds.length i = some j ∧ ds[j]? = some v ∧ Q v (ds.eraseIdx j) := rfl
theorem M_isD {kvs : List (PyData × PyData)} : (∃ es, PyData.dict kvs = .dict es) = True := eq_true ⟨_, rfl⟩
theorem isKey_i : isKey (.int i) = true := rfl
theorem isKey_s : isKey (.str z) = true := rfl
theorem M_kLL : sameKind (.list ds) (.list es) = true := rfl
theorem M_kTT : sameKind (.tuple ds) (.tuple es) = true := rfl
theorem mk_f : mkA false ds = ds.map Sl.sh := rfl
theorem mk_t : mkA true (x :: ds) = .io x :: ds.map Sl.sh := rfl
theorem fin_f {e : Ev} {L : PyData → Prop} : FinA false e L = L .none := rfl
theorem fin_t {e : Ev} {L : PyData → Prop} : FinA true e L = ∃ d', e[0]? = some (.io d') ∧ L d' := rfl
theorem isNon_n : isNon .none = true := rfl
theorem isNon_i : isNon (.int i) = false := rfl
theorem isNon_b : isNon (.bool k) = false := rfl
theorem isNon_s : isNon (.str z) = false := rfl
theorem isNon_t : isNon (.tuple ds) = false := rfl
theorem isNon_l : isNon (.list ds) = false := rfl
end
/-! ### loops -/
theorem loopF_nil {g : PyData → Ev → (Ev → Prop) → Prop} {b : Ev → (Out → Prop) → Prop} {e : Ev} {Q : Out → Prop} : loopF g b [] e Q = Q (.nx e) := rfl
theorem loopF_cons {g : PyData → Ev → (Ev → Prop) → Prop} {b : Ev → (Out → Prop) → Prop} {x : PyData} {xs : List PyData} {e : Ev} {Q : Out → Prop} : loopF g b (x :: xs) e Q = g x e fun e1 => b e1 fun o => match o with
    | .nx e => loopF g b xs e Q
    | .ct e => loopF g b xs e Q
    | .bk e => Q (.nx e)
    | .rt r e => Q (.rt r e) := rfl
theorem loopC_nil {g : PyData → Ev → (Ev → Prop) → Prop} {t : Ev → (Bool → Ev → Prop) → Prop} {p : Ev → (Sl → Ev → Prop) → Prop} {own : List Nat} {e : Ev} {acc : List PyData} {Q : List PyData → Ev → Prop} : loopC g t p own [] e acc Q = Q acc e := rfl
theorem loopC_cons {g : PyData → Ev → (Ev → Prop) → Prop} {t : Ev → (Bool → Ev → Prop) → Prop} {p : Ev → (Sl → Ev → Prop) → Prop} {own : List Nat} {x : PyData} {xs : List PyData} {e : Ev} {acc : List PyData} {Q : List PyData → Ev → Prop} : loopC g t p own (x :: xs) e acc Q = g x (wipeE e own) fun e1 => t e1 fun c e2 => if c = true then p e2 (fun r e3 => loopC g t p own xs e3 (acc ++ [r.d]) Q) else loopC g t p own xs e2 acc Q := by
  show g x _ _ = _
  congr 1; funext e1; congr 1; funext c e2; cases c <;> simp
theorem loopW_succ {t : Ev → (Bool → Ev → Prop) → Prop} {b : Ev → (Out → Prop) → Prop} {n : Nat} {e : Ev} {Q : Out → Prop} : loopW t b (n + 1) e Q = t e fun c e1 => if c = true then b e1 (fun o => match o with
      | .nx e => loopW t b n e Q
      | .ct e => loopW t b n e Q
      | .bk e => Q (.nx e)
      | .rt r e => Q (.rt r e)) else Q (.nx e1) := by
  show t e _ = _
  congr 1; funext c e1
  cases c with
  | false => simp
  | true => first
    | (simp only [if_true]; done)
    | (simp only [if_true]; congr 1)
/-! ### rules for loops -/
section
variable {tb : Tab}
theorem loopW_le {t : T} {b : S} {Q : Out → Prop} : ∀ {n : Nat} {e : Ev}, loopW (wpT tb t) (wpS tb b) n e Q → loopW (wpT tb t) (wpS tb b) (n + 1) e Q
  | 0, _, h => h.elim
  | n + 1, e, h => by
    rw [loopW_succ] at h ⊢
    refine wpT_mono t (fun c e1 w => ?_) h
    cases c with
    | false => exact w
    | true =>
      rw [if_pos rfl] at w ⊢
      refine wpS_mono b (fun o w => ?_) w
      cases o with
      | nx e2 => exact loopW_le w
      | ct e2 => exact loopW_le w
      | bk e2 => exact w
      | rt r e2 => exact w
theorem loopW_ge {t : T} {b : S} {Q : Out → Prop} {n m : Nat} {e : Ev} (h : loopW (wpT tb t) (wpS tb b) n e Q) (hm : n ≤ m) : loopW (wpT tb t) (wpS tb b) m e Q := by
  induction hm with
  | refl => exact h
  | step _ ih => exact loopW_le ih
theorem whl_ok {t : T} {b : S} {Q : Out → Prop} {env : Ev} (W : Nat → Ev → Prop) (h : ∀ m e, W m e → wpT tb t e fun c e1 => if c = true then wpS tb b e1 (fun o => match o with
    | .nx e2 => ∃ m', m' < m ∧ W m' e2
    | .ct e2 => ∃ m', m' < m ∧ W m' e2
    | .bk e2 => Q (.nx e2)
    | .rt r e2 => Q (.rt r e2)) else Q (.nx e1)) {m : Nat} (w0 : W m env) : ∃ n, loopW (wpT tb t) (wpS tb b) n env Q := by
  have key : ∀ m e, W m e → loopW (wpT tb t) (wpS tb b) (m + 1) e Q := by
    intro m
    induction m using Nat.strongRecOn with
    | ind m ih =>
      intro e w
      rw [loopW_succ]
      refine wpT_mono t (fun c e1 q => ?_) (h m e w)
      cases c with
      | false => exact q
      | true =>
        rw [if_pos rfl] at q ⊢
        refine wpS_mono b (fun o q => ?_) q
        cases o with
        | nx e2 => obtain ⟨m', hm, w'⟩ := q; exact loopW_ge (ih m' hm e2 w') hm
        | ct e2 => obtain ⟨m', hm, w'⟩ := q; exact loopW_ge (ih m' hm e2 w') hm
        | bk e2 => exact q
        | rt r e2 => exact q
  exact ⟨m + 1, key m env w0⟩
theorem for_ok {g : G} {b : S} {xs : List PyData} {env : Ev} {Q : Out → Prop} (I : Nat → Ev → Prop) (h0 : I 0 env) (hs : ∀ i x e, xs[i]? = some x → I i e → wpG g x e fun e1 => wpS tb b e1 fun o => match o with
    | .nx e2 => I (i + 1) e2
    | .ct e2 => I (i + 1) e2
    | .bk e2 => Q (.nx e2)
    | .rt r e2 => Q (.rt r e2)) (hd : ∀ e, I xs.length e → Q (.nx e)) : loopF (wpG g) (wpS tb b) xs env Q := by
  have key : ∀ (n i : Nat) (e : Ev), n = xs.length - i → i ≤ xs.length → I i e → loopF (wpG g) (wpS tb b) (xs.drop i) e Q := by
    intro n
    induction n with
    | zero =>
      intro i e hn hi w
      have : i = xs.length := by omega
      subst this
      rw [List.drop_length]
      exact hd e w
    | succ n ih =>
      intro i e hn hi w
      have hlt : i < xs.length := by omega
      rw [List.drop_eq_getElem_cons hlt]
      show wpG g xs[i] e _
      refine wpG_mono (fun e1 w => wpS_mono b (fun o w => ?_) w) (hs i xs[i] e (List.getElem?_eq_getElem hlt) w)
      cases o with
      | nx e2 => exact ih (i + 1) e2 (by omega) hlt w
      | ct e2 => exact ih (i + 1) e2 (by omega) hlt w
      | bk e2 => exact w
      | rt r e2 => exact w
  have := key xs.length 0 env (by omega) (Nat.zero_le _) h0
  rwa [List.drop_zero] at this
theorem lc_ok {own : List Nat} {g : G} {ts : Ts} {p : P} {xs : List PyData} {env : Ev} {Q : List PyData → Ev → Prop} (I : Nat → Ev → List PyData → Prop) (h0 : I 0 env []) (hs : ∀ i x e acc, xs[i]? = some x → I i e acc → wpG g x (wipeE e own) fun e1 => wpTs tb ts e1 fun c e2 => if c = true then wpE tb p e2 (fun r e3 => I (i + 1) e3 (acc ++ [r.d])) else I (i + 1) e2 acc)
    (hd : ∀ e acc, I xs.length e acc → Q acc e) : loopC (wpG g) (wpTs tb ts) (wpE tb p) own xs env [] Q := by
  have key : ∀ (n i : Nat) (e : Ev) (acc : List PyData), n = xs.length - i → i ≤ xs.length → I i e acc → loopC (wpG g) (wpTs tb ts) (wpE tb p) own (xs.drop i) e acc Q := by
    intro n
    induction n with
    | zero =>
      intro i e acc hn hi w
      have : i = xs.length := by omega
      subst this
      rw [List.drop_length]
      exact hd e acc w
    | succ n ih =>
      intro i e acc hn hi w
      have hlt : i < xs.length := by omega
      rw [List.drop_eq_getElem_cons hlt, loopC_cons]
      refine wpG_mono (fun e1 w => wpTs_mono ts (fun c e2 w => ?_) w) (hs i xs[i] e acc (List.getElem?_eq_getElem hlt) w)
      cases c with
      | false => exact ih (i + 1) e2 acc (by omega) hlt w
      | true =>
        rw [if_pos rfl] at w ⊢
        exact wpE_mono p (fun r e3 w => ih (i + 1) e3 _ (by omega) hlt w) w
  have := key xs.length 0 env [] (by omega) (Nat.zero_le _) h0
  rwa [List.drop_zero] at this
/-- a comprehension that leaves all but its own names as they are: f of each item -/
theorem lc_map {own : List Nat} {g : G} {p : P} {xs : List PyData} {env : Ev} {Q : List PyData → Ev → Prop} (f : Nat → PyData → PyData) (hs : ∀ i x e, xs[i]? = some x → wipeE e own = wipeE env own → wpG g x (wipeE env own) fun e1 => wpE tb p e1 fun r e2 => wipeE e2 own = wipeE env own ∧ r.d = f i x)
    (hd : Q (xs.mapIdx f) env) : loopC (wpG g) (wpTs tb .nil) (wpE tb p) own xs env [] fun acc e2 => Q acc (backE env e2 own) := by
  refine lc_ok (fun i e acc => wipeE e own = wipeE env own ∧ acc = (xs.take i).mapIdx f) ⟨rfl, by simp⟩ (fun i x e acc hx hI => ?_) fun e acc hI => ?_
  · obtain ⟨h1, rfl⟩ := hI
    rw [h1]
    refine wpG_mono (fun e1 w => ?_) (hs i x e hx h1)
    show wpTs tb .nil e1 _
    rw [Ts_nil, if_pos rfl]
    refine wpE_mono p (fun r e2 w => ⟨w.1, ?_⟩) w
    rw [w.2]
    obtain ⟨hi, rfl⟩ := List.getElem?_eq_some_iff.mp hx
    have e0 : xs.take (i + 1) = xs.take i ++ [xs[i]] := List.take_succ_eq_append_getElem hi
    rw [e0, List.mapIdx_append, List.length_take, Nat.min_eq_left (Nat.le_of_lt hi)]
    simp only [List.mapIdx_cons, List.mapIdx_nil, Nat.zero_add]
  · obtain ⟨h1, rfl⟩ := hI
    rw [List.take_length]
    have : backE env e own = env := by
      apply List.ext_getElem?
      intro j
      have hl : e.length = env.length := by
        have := congrArg List.length h1
        rwa [wipeE_length, wipeE_length] at this
      rw [backE_get]
      by_cases hj : j ∈ own ∧ j < e.length
      · rw [if_pos hj, List.getD_eq_getElem?_getD, List.getElem?_eq_getElem (by omega : j < env.length)]; rfl
      · rw [if_neg hj]
        have q := congrArg (fun l : Ev => l[j]?) h1
        simp only [wipeE_get] at q
        rw [if_neg hj, if_neg (by rw [← hl]; exact hj)] at q
        exact q
    rw [this]; exact hd
end
/-- a comprehension that leaves all but its own names as they are: f of each item that c lets by -/
theorem lcK_map {tb : Tab} {own : List Nat} {g : G} {ts : Ts} {p : P} {xs : List PyData} {env : Ev} {Q : List PyData → Ev → Prop} (c : PyData → Bool) (f : PyData → PyData)
    (hs : ∀ x, x ∈ xs → wpG g x (wipeE env own) fun e1 => wpTs tb ts e1 fun k e2 => if k = true then wpE tb p e2 (fun r e3 => wipeE e3 own = wipeE env own ∧ c x = true ∧ r.d = f x) else wipeE e2 own = wipeE env own ∧ c x = false)
    (hd : Q ((xs.filter c).map f) env) : lcK tb own g ts p xs env Q := by
  refine lc_ok (fun i e acc => wipeE e own = wipeE env own ∧ acc = ((xs.take i).filter c).map f) ⟨rfl, by simp⟩ (fun i x e acc hx hI => ?_) fun e acc hI => ?_
  · obtain ⟨h1, rfl⟩ := hI
    rw [h1]
    have hm : x ∈ xs := List.mem_of_getElem? hx
    obtain ⟨hi, rfl⟩ := List.getElem?_eq_some_iff.mp hx
    have e0 : xs.take (i + 1) = xs.take i ++ [xs[i]] := List.take_succ_eq_append_getElem hi
    refine wpG_mono (fun e1 w => wpTs_mono ts (fun k e2 w => ?_) w) (hs _ hm)
    cases k with
    | true =>
      rw [if_pos rfl] at w ⊢
      refine wpE_mono p (fun r e3 w => ⟨w.1, ?_⟩) w
      rw [e0, List.filter_append, List.map_append, w.2.2]
      congr 1
      rw [List.filter_cons_of_pos w.2.1]; rfl
    | false =>
      rw [if_neg Bool.false_ne_true] at w ⊢
      refine ⟨w.1, ?_⟩
      rw [e0, List.filter_append, List.map_append, List.filter_cons_of_neg (by rw [w.2]; exact Bool.false_ne_true)]
      simp
  · obtain ⟨h1, rfl⟩ := hI
    rw [List.take_length]
    have : backE env e own = env := by
      apply List.ext_getElem?
      intro j
      have hl : e.length = env.length := by
        have := congrArg List.length h1
        rwa [wipeE_length, wipeE_length] at this
      rw [backE_get]
      by_cases hj : j ∈ own ∧ j < e.length
      · rw [if_pos hj, List.getD_eq_getElem?_getD, List.getElem?_eq_getElem (by omega : j < env.length)]; rfl
      · rw [if_neg hj]
        have q := congrArg (fun l : Ev => l[j]?) h1
        simp only [wipeE_get] at q
        rw [if_neg hj, if_neg (by rw [← hl]; exact hj)] at q
        exact q
    rw [this]; exact hd
theorem lcK_map1 {tb : Tab} {own : List Nat} {g : G} {p : P} {xs : List PyData} {env : Ev} {Q : List PyData → Ev → Prop} (f : PyData → PyData)
    (hs : ∀ x, x ∈ xs → wpG g x (wipeE env own) fun e1 => wpE tb p e1 fun r e3 => wipeE e3 own = wipeE env own ∧ r.d = f x)
    (hd : Q (xs.map f) env) : lcK tb own g .nil p xs env Q := by
  refine lcK_map (fun _ => true) f (fun x hx => wpG_mono (fun e1 w => ?_) (hs x hx)) (by rw [List.filter_eq_self.mpr (fun _ _ => rfl)]; exact hd)
  rw [Ts_nil, if_pos rfl]
  exact wpE_mono p (fun r e w => ⟨w.1, rfl, w.2⟩) w
/-- the same by a list that the items stand for -/
theorem lcK_list {tb : Tab} {own : List Nat} {g : G} {p : P} {α : Type} {as : List α} {inp : α → PyData} {env : Ev} {Q : List PyData → Ev → Prop} (f : α → PyData)
    (hs : ∀ a, a ∈ as → wpG g (inp a) (wipeE env own) fun e1 => wpE tb p e1 fun r e3 => wipeE e3 own = wipeE env own ∧ r.d = f a)
    (hd : Q (as.map f) env) : lcK tb own g .nil p (as.map inp) env Q := by
  refine lc_ok (fun i e acc => wipeE e own = wipeE env own ∧ acc = (as.take i).map f) ⟨rfl, by simp⟩ (fun i x e acc hx hI => ?_) fun e acc hI => ?_
  · obtain ⟨h1, rfl⟩ := hI
    rw [h1]
    rw [List.getElem?_map] at hx
    obtain ⟨a, ha, rfl⟩ := Option.map_eq_some_iff.mp hx
    have hm : a ∈ as := List.mem_of_getElem? ha
    obtain ⟨hi, rfl⟩ := List.getElem?_eq_some_iff.mp ha
    have e0 : as.take (i + 1) = as.take i ++ [as[i]] := List.take_succ_eq_append_getElem hi
    refine wpG_mono (fun e1 w => ?_) (hs _ hm)
    rw [Ts_nil, if_pos rfl]
    refine wpE_mono p (fun r e3 w => ⟨w.1, ?_⟩) w
    rw [e0, List.map_append, w.2]; rfl
  · obtain ⟨h1, rfl⟩ := hI
    rw [List.length_map, List.take_length]
    have : backE env e own = env := by
      apply List.ext_getElem?
      intro j
      have hl : e.length = env.length := by
        have := congrArg List.length h1
        rwa [wipeE_length, wipeE_length] at this
      rw [backE_get]
      by_cases hj : j ∈ own ∧ j < e.length
      · rw [if_pos hj, List.getD_eq_getElem?_getD, List.getElem?_eq_getElem (by omega : j < env.length)]; rfl
      · rw [if_neg hj]
        have q := congrArg (fun l : Ev => l[j]?) h1
        simp only [wipeE_get] at q
        rw [if_neg hj, if_neg (by rw [← hl]; exact hj)] at q
        exact q
    rw [this]; exact hd
/-! ### calls of known defs -/
theorem call_of {tb : Tab} {x : Str} {en : Ent} {nd : Nat} {as : As} {env : Ev} {Q : Sl → Ev → Prop} (h : tb.fn x = some en) (hw : en.w = false) (hn : nd ≤ en.nd) : wpE tb (.call x nd as) env Q = wpA tb as env fun rs e => en.R (rs.map Sl.d ++ List.replicate nd .none) fun r _ => Q r e := by
  rw [E_call, eq_iff_iff]
  constructor
  · rintro ⟨en', e, h1, h2, w⟩
    rw [h] at e; cases e; exact w
  · exact fun w => ⟨en, h, hw, hn, w⟩
theorem call0_of {tb : Tab} {x : Str} {en : Ent} {as : As} {env : Ev} {Q : Sl → Ev → Prop} (h : tb.fn x = some en) (hw : en.w = false) : wpE tb (.call x 0 as) env Q = wpA tb as env fun rs e => en.R (rs.map Sl.d) fun r _ => Q r e := by
  rw [call_of h hw (Nat.zero_le _)]; simp only [List.replicate_zero, List.append_nil]
theorem callW_of {tb : Tab} {x : Str} {en : Ent} {i : Nat} {as : As} {env : Ev} {Q : Sl → Ev → Prop} (h : tb.fn x = some en) (hw : en.w = true) : wpE tb (.callW x i as) env Q = (pk env i (fun _ => True) ∧ wpA tb as env fun rs e => match e[i]? with
    | some (.io d) => en.R (d :: rs.map Sl.d) fun r d' => Q r (e.set i (.io d'))
    | some (.ow d) => en.R (d :: rs.map Sl.d) fun r d' => Q r (e.set i (.ow d'))
    | _ => False) := by
  rw [E_callW, eq_iff_iff]
  constructor
  · rintro ⟨en', e, h1, h2, w⟩
    rw [h] at e; cases e; exact ⟨h2, w⟩
  · exact fun ⟨w1, w2⟩ => ⟨en, h, hw, w1, w2⟩
/-- inputs, a condition, the result as data -/
def fnR {α : Type} (inp : α → List PyData) (pre : α → Prop) (out : α → PyData) : FSem := fun ds L => ∃ a, ds = inp a ∧ pre a ∧ L (.sh (out a)) .none
def fnE {α : Type} (inp : α → List PyData) (pre : α → Prop) (out : α → PyData) : Ent := ⟨fnR inp pre out, false, 0, [], fun h ⟨a, e, p, w⟩ => ⟨a, e, p, h _ _ w⟩⟩
theorem fnE_R {α : Type} {inp : α → List PyData} {pre : α → Prop} {out : α → PyData} {ds : List PyData} {L : Sl → PyData → Prop} : (fnE inp pre out).R ds L = ∃ a, ds = inp a ∧ pre a ∧ L (.sh (out a)) .none := rfl
theorem at10 {x : PyData} : atI [x] 0 = some x := rfl
theorem at20 {x y : PyData} : atI [x, y] 0 = some x := rfl
theorem at21 {x y : PyData} : atI [x, y] 1 = some y := rfl
theorem at30 {x y z : PyData} : atI [x, y, z] 0 = some x := rfl
theorem at31 {x y z : PyData} : atI [x, y, z] 1 = some y := rfl
theorem at32 {x y z : PyData} : atI [x, y, z] 2 = some z := rfl
theorem ex_some {α : Type} {x : α} {p : α → Prop} : (∃ d, some x = some d ∧ p d) = p x := by
  rw [eq_iff_iff]
  constructor
  · rintro ⟨d, e, h⟩; cases e; exact h
  · exact fun h => ⟨x, rfl, h⟩
theorem nd_non  : noDict .none = true := rfl
theorem kd_bool_non  : isKd .bool .none = false := rfl
theorem kd_int_non  : isKd .int .none = false := rfl
theorem kd_str_non  : isKd .str .none = false := rfl
theorem kd_list_non  : isKd .list .none = false := rfl
theorem kd_tuple_non  : isKd .tuple .none = false := rfl
theorem kd_dict_non  : isKd .dict .none = false := rfl
theorem nd_bool {k : Bool} : noDict (.bool k) = true := rfl
theorem kd_bool_bool {k : Bool} : isKd .bool (.bool k) = true := rfl
theorem kd_int_bool {k : Bool} : isKd .int (.bool k) = true := rfl
theorem kd_str_bool {k : Bool} : isKd .str (.bool k) = false := rfl
theorem kd_list_bool {k : Bool} : isKd .list (.bool k) = false := rfl
theorem kd_tuple_bool {k : Bool} : isKd .tuple (.bool k) = false := rfl
theorem kd_dict_bool {k : Bool} : isKd .dict (.bool k) = false := rfl
theorem nd_int {i : Int} : noDict (.int i) = true := rfl
theorem kd_bool_int {i : Int} : isKd .bool (.int i) = false := rfl
theorem kd_int_int {i : Int} : isKd .int (.int i) = true := rfl
theorem kd_str_int {i : Int} : isKd .str (.int i) = false := rfl
theorem kd_list_int {i : Int} : isKd .list (.int i) = false := rfl
theorem kd_tuple_int {i : Int} : isKd .tuple (.int i) = false := rfl
theorem kd_dict_int {i : Int} : isKd .dict (.int i) = false := rfl
theorem nd_str {z : Str} : noDict (.str z) = true := rfl
theorem kd_bool_str {z : Str} : isKd .bool (.str z) = false := rfl
theorem kd_int_str {z : Str} : isKd .int (.str z) = false := rfl
theorem kd_str_str {z : Str} : isKd .str (.str z) = true := rfl
theorem kd_list_str {z : Str} : isKd .list (.str z) = false := rfl
theorem kd_tuple_str {z : Str} : isKd .tuple (.str z) = false := rfl
theorem kd_dict_str {z : Str} : isKd .dict (.str z) = false := rfl
theorem nd_list {ds : List PyData} : noDict (.list ds) = true := rfl
theorem kd_bool_list {ds : List PyData} : isKd .bool (.list ds) = false := rfl
theorem kd_int_list {ds : List PyData} : isKd .int (.list ds) = false := rfl
theorem kd_str_list {ds : List PyData} : isKd .str (.list ds) = false := rfl
theorem kd_list_list {ds : List PyData} : isKd .list (.list ds) = true := rfl
theorem kd_tuple_list {ds : List PyData} : isKd .tuple (.list ds) = false := rfl
theorem kd_dict_list {ds : List PyData} : isKd .dict (.list ds) = false := rfl
theorem nd_tuple {ds : List PyData} : noDict (.tuple ds) = true := rfl
theorem kd_bool_tuple {ds : List PyData} : isKd .bool (.tuple ds) = false := rfl
theorem kd_int_tuple {ds : List PyData} : isKd .int (.tuple ds) = false := rfl
theorem kd_str_tuple {ds : List PyData} : isKd .str (.tuple ds) = false := rfl
theorem kd_list_tuple {ds : List PyData} : isKd .list (.tuple ds) = false := rfl
theorem kd_tuple_tuple {ds : List PyData} : isKd .tuple (.tuple ds) = true := rfl
theorem kd_dict_tuple {ds : List PyData} : isKd .dict (.tuple ds) = false := rfl
theorem glob_of {tb : Tab} {x : Str} {d : PyData} {env : Ev} {Q : Sl → Ev → Prop} (h : tb.gl x = some d) : wpE tb (.glob x) env Q = Q (.sh d) env := by
  rw [E_glob, eq_iff_iff]
  constructor
  · rintro ⟨d', e, w⟩; rw [h] at e; cases e; exact w
  · exact fun w => ⟨d, h, w⟩
theorem fnE_nd {α : Type} {inp : α → List PyData} {pre : α → Prop} {out : α → PyData} : (fnE inp pre out).R = fnR inp pre out := rfl
/-- the same with defaults that are None -/
def fnEd {α : Type} (nd : Nat) (inp : α → List PyData) (pre : α → Prop) (out : α → PyData) : Ent := { fnE inp pre out with nd := nd }
theorem fnEd_R {α : Type} {nd : Nat} {inp : α → List PyData} {pre : α → Prop} {out : α → PyData} {ds : List PyData} {L : Sl → PyData → Prop} : (fnEd nd inp pre out).R ds L = ∃ a, ds = inp a ∧ pre a ∧ L (.sh (out a)) .none := rfl
theorem allBools_map {α : Type} (f : α → Bool) : ∀ l : List α, allBools (l.map fun a => .bool (f a)) = some (l.map f)
  | [] => rfl
  | a :: l => by
    show (allBools (l.map fun a => .bool (f a))).map (f a :: ·) = _
    rw [allBools_map f l]; rfl
theorem atI_nat {α : Type} {xs : List α} {k : Nat} (h : k < xs.length) : atI xs (k : Int) = xs[k]? := by
  have e : ixN xs.length (k : Int) = some k := by
    unfold ixN
    split <;> first
      | (split <;> first | rfl | omega)
      | omega
  unfold atI
  rw [e]
  rfl
theorem cut3_2 {x y z : PyData} : cutD [x, y, z] none (some 2) = [x, y] := rfl
end PL
end

set_option maxRecDepth 100000
local macro_rules
  | `(tactic| simp_arith) => `(tactic| simp only [PL.wipeE_n, PL.wipeE_c, PL.K_od, PL.K_ox, PL.K_rd, PL.K_mv, PL.K_pk, PL.K_wr, PL.K_md, PL.K_ow, PL.rdK_sh, PL.rdK_ow, PL.mvK_ow, PL.pkK_sh, PL.pkK_ow, PL.pkK_io, PL.wrK_un, PL.wrK_sh, PL.wrK_ow, PL.mdK_ow, PL.mdK_io, PL.odK_ow, PL.odK_io, PL.oxK_owL, PL.oxK_ioL, PL.oxK_owD, PL.oxK_ioD, PL.popK_ow, PL.popK_io, PL.owK_ow, PL.owK_io, PL.d_sh, PL.d_ow, PL.d_io, PL.d_tp, PL.st_sh, PL.st_ow, PL.st_tp, PL.wrs_nil, PL.wrs_cons, PL.G_name, PL.G_tupL, PL.G_tup, PL.E_var, PL.E_mv, PL.E_int, PL.E_bl, PL.E_non, PL.E_str, PL.E_bin, PL.E_neg, PL.E_cmp, PL.E_cmpB, PL.E_cmpL, PL.E_chain, PL.E_and, PL.E_or, PL.E_not, PL.E_ife, PL.E_tup, PL.E_lst, PL.E_pr, PL.E_ix, PL.E_ixB, PL.E_slc, PL.E_rev, PL.E_bi, PL.E_lenB, PL.E_isi, PL.E_lc, PL.E_index, PL.E_fz, PL.E_dnew, PL.E_dget, PL.E_dgetB, PL.E_dc, PL.E_lc2, PL.E_rgl1, PL.E_rgl2, PL.rglR_t, PL.rglR_f, PL.E_pop, PL.A_nil, PL.A_cons, PL.T_val, PL.T_cmp, PL.T_cmpB, PL.T_cmpL, PL.T_chain, PL.T_and, PL.T_or, PL.T_not, PL.Ts_nil, PL.Ts_one, PL.I_seq, PL.I_rng1, PL.I_rng2, PL.I_rng3, PL.I_enum, PL.I_zip, PL.I_keys, PL.I_items, PL.S_skip, PL.S_seq, PL.S_set, PL.S_setF, PL.S_par, PL.S_unp, PL.S_ite, PL.S_whl, PL.S_for, PL.S_ret, PL.S_expr, PL.S_app, PL.S_ext, PL.S_setIx, PL.S_upd, PL.S_tmp, PL.S_brk, PL.S_cnt, PL.S_never, PL.V_add, PL.V_addS, PL.V_addT, PL.V_addL, PL.V_sub, PL.V_mul, PL.V_mulL, PL.V_mulT, PL.V_div, PL.V_mod, PL.V_pow, PL.C_lt, PL.C_le, PL.C_gt, PL.C_ge, PL.C_ltT, PL.C_eqI, PL.C_neI, PL.C_inL, PL.C_inT, PL.C_niL, PL.C_niT, PL.C_is, PL.C_isN, PL.X_l, PL.X_t, PL.X_s, PL.L_l, PL.L_t, PL.L_s, PL.R_l, PL.R_s, PL.P_n, PL.P_i, PL.U_l, PL.U_t, PL.B_abs, PL.B_min, PL.B_max, PL.B_sum, PL.B_listL, PL.B_listT, PL.B_tupL, PL.B_tupT, PL.B_int, PL.B_intB, PL.B_repr, PL.B_sorted, PL.B_all, PL.B_any, PL.B_len, PL.M_l, PL.M_t, PL.M_s, PL.M_ql, PL.M_qt, PL.M_r1, PL.M_r2, PL.M_r3, PL.M_app, PL.M_ext, PL.M_set, PL.X_d, PL.C_inD, PL.C_niD, PL.M_upd, PL.M_setD, PL.M_get, PL.M_keys, PL.M_items, PL.M_pop, PL.M_isD, PL.isKey_i, PL.isKey_s, PL.M_kLL, PL.M_kTT, PL.mk_f, PL.mk_t, PL.fin_f, PL.fin_t, PL.isNon_n, PL.isNon_i, PL.isNon_b, PL.isNon_s, PL.isNon_t, PL.isNon_l, PL.nd_non, PL.kd_bool_non, PL.kd_int_non, PL.kd_str_non, PL.kd_list_non, PL.kd_tuple_non, PL.kd_dict_non, PL.nd_bool, PL.kd_bool_bool, PL.kd_int_bool, PL.kd_str_bool, PL.kd_list_bool, PL.kd_tuple_bool, PL.kd_dict_bool, PL.nd_int, PL.kd_bool_int, PL.kd_int_int, PL.kd_str_int, PL.kd_list_int, PL.kd_tuple_int, PL.kd_dict_int, PL.nd_str, PL.kd_bool_str, PL.kd_int_str, PL.kd_str_str, PL.kd_list_str, PL.kd_tuple_str, PL.kd_dict_str, PL.nd_list, PL.kd_bool_list, PL.kd_int_list, PL.kd_str_list, PL.kd_list_list, PL.kd_tuple_list, PL.kd_dict_list, PL.nd_tuple, PL.kd_bool_tuple, PL.kd_int_tuple, PL.kd_str_tuple, PL.kd_list_tuple, PL.kd_tuple_tuple, PL.kd_dict_tuple, PL.fnE_R, PL.at10, PL.at20, PL.at21, PL.at30, PL.at31, PL.at32, PL.ex_some, PL.fnEd_R, PL.cut3_2, List.map_cons, List.map_nil, List.length_cons, List.length_nil, List.replicate_succ, List.replicate_zero, List.cons_append, List.nil_append, List.append_nil, List.getElem?_cons_zero, List.getElem?_cons_succ, List.set_cons_zero, List.set_cons_succ, Nat.add_zero, Nat.zero_add, Nat.sub_zero, Nat.reduceAdd, Nat.reduceSub, decide_eq_true_eq, Bool.false_eq_true, if_true, if_false, true_and, and_true, eq_self, List.any_cons, List.any_nil, Bool.or_false, Bool.or_true, Bool.false_or, Bool.true_or, Bool.and_true, Bool.true_and, Bool.not_true, Bool.not_false, reduceIte])
  | `(tactic| simp_arith [$xs,*]) => `(tactic| simp only [$xs,*, PL.wipeE_n, PL.wipeE_c, PL.K_od, PL.K_ox, PL.K_rd, PL.K_mv, PL.K_pk, PL.K_wr, PL.K_md, PL.K_ow, PL.rdK_sh, PL.rdK_ow, PL.mvK_ow, PL.pkK_sh, PL.pkK_ow, PL.pkK_io, PL.wrK_un, PL.wrK_sh, PL.wrK_ow, PL.mdK_ow, PL.mdK_io, PL.odK_ow, PL.odK_io, PL.oxK_owL, PL.oxK_ioL, PL.oxK_owD, PL.oxK_ioD, PL.popK_ow, PL.popK_io, PL.owK_ow, PL.owK_io, PL.d_sh, PL.d_ow, PL.d_io, PL.d_tp, PL.st_sh, PL.st_ow, PL.st_tp, PL.wrs_nil, PL.wrs_cons, PL.G_name, PL.G_tupL, PL.G_tup, PL.E_var, PL.E_mv, PL.E_int, PL.E_bl, PL.E_non, PL.E_str, PL.E_bin, PL.E_neg, PL.E_cmp, PL.E_cmpB, PL.E_cmpL, PL.E_chain, PL.E_and, PL.E_or, PL.E_not, PL.E_ife, PL.E_tup, PL.E_lst, PL.E_pr, PL.E_ix, PL.E_ixB, PL.E_slc, PL.E_rev, PL.E_bi, PL.E_lenB, PL.E_isi, PL.E_lc, PL.E_index, PL.E_fz, PL.E_dnew, PL.E_dget, PL.E_dgetB, PL.E_dc, PL.E_lc2, PL.E_rgl1, PL.E_rgl2, PL.rglR_t, PL.rglR_f, PL.E_pop, PL.A_nil, PL.A_cons, PL.T_val, PL.T_cmp, PL.T_cmpB, PL.T_cmpL, PL.T_chain, PL.T_and, PL.T_or, PL.T_not, PL.Ts_nil, PL.Ts_one, PL.I_seq, PL.I_rng1, PL.I_rng2, PL.I_rng3, PL.I_enum, PL.I_zip, PL.I_keys, PL.I_items, PL.S_skip, PL.S_seq, PL.S_set, PL.S_setF, PL.S_par, PL.S_unp, PL.S_ite, PL.S_whl, PL.S_for, PL.S_ret, PL.S_expr, PL.S_app, PL.S_ext, PL.S_setIx, PL.S_upd, PL.S_tmp, PL.S_brk, PL.S_cnt, PL.S_never, PL.V_add, PL.V_addS, PL.V_addT, PL.V_addL, PL.V_sub, PL.V_mul, PL.V_mulL, PL.V_mulT, PL.V_div, PL.V_mod, PL.V_pow, PL.C_lt, PL.C_le, PL.C_gt, PL.C_ge, PL.C_ltT, PL.C_eqI, PL.C_neI, PL.C_inL, PL.C_inT, PL.C_niL, PL.C_niT, PL.C_is, PL.C_isN, PL.X_l, PL.X_t, PL.X_s, PL.L_l, PL.L_t, PL.L_s, PL.R_l, PL.R_s, PL.P_n, PL.P_i, PL.U_l, PL.U_t, PL.B_abs, PL.B_min, PL.B_max, PL.B_sum, PL.B_listL, PL.B_listT, PL.B_tupL, PL.B_tupT, PL.B_int, PL.B_intB, PL.B_repr, PL.B_sorted, PL.B_all, PL.B_any, PL.B_len, PL.M_l, PL.M_t, PL.M_s, PL.M_ql, PL.M_qt, PL.M_r1, PL.M_r2, PL.M_r3, PL.M_app, PL.M_ext, PL.M_set, PL.X_d, PL.C_inD, PL.C_niD, PL.M_upd, PL.M_setD, PL.M_get, PL.M_keys, PL.M_items, PL.M_pop, PL.M_isD, PL.isKey_i, PL.isKey_s, PL.M_kLL, PL.M_kTT, PL.mk_f, PL.mk_t, PL.fin_f, PL.fin_t, PL.isNon_n, PL.isNon_i, PL.isNon_b, PL.isNon_s, PL.isNon_t, PL.isNon_l, PL.nd_non, PL.kd_bool_non, PL.kd_int_non, PL.kd_str_non, PL.kd_list_non, PL.kd_tuple_non, PL.kd_dict_non, PL.nd_bool, PL.kd_bool_bool, PL.kd_int_bool, PL.kd_str_bool, PL.kd_list_bool, PL.kd_tuple_bool, PL.kd_dict_bool, PL.nd_int, PL.kd_bool_int, PL.kd_int_int, PL.kd_str_int, PL.kd_list_int, PL.kd_tuple_int, PL.kd_dict_int, PL.nd_str, PL.kd_bool_str, PL.kd_int_str, PL.kd_str_str, PL.kd_list_str, PL.kd_tuple_str, PL.kd_dict_str, PL.nd_list, PL.kd_bool_list, PL.kd_int_list, PL.kd_str_list, PL.kd_list_list, PL.kd_tuple_list, PL.kd_dict_list, PL.nd_tuple, PL.kd_bool_tuple, PL.kd_int_tuple, PL.kd_str_tuple, PL.kd_list_tuple, PL.kd_tuple_tuple, PL.kd_dict_tuple, PL.fnE_R, PL.at10, PL.at20, PL.at21, PL.at30, PL.at31, PL.at32, PL.ex_some, PL.fnEd_R, PL.cut3_2, List.map_cons, List.map_nil, List.length_cons, List.length_nil, List.replicate_succ, List.replicate_zero, List.cons_append, List.nil_append, List.append_nil, List.getElem?_cons_zero, List.getElem?_cons_succ, List.set_cons_zero, List.set_cons_succ, Nat.add_zero, Nat.zero_add, Nat.sub_zero, Nat.reduceAdd, Nat.reduceSub, decide_eq_true_eq, Bool.false_eq_true, if_true, if_false, true_and, and_true, eq_self, List.any_cons, List.any_nil, Bool.or_false, Bool.or_true, Bool.false_or, Bool.true_or, Bool.and_true, Bool.true_and, Bool.not_true, Bool.not_false, reduceIte])
  | `(tactic| simp_arith at $h:ident) => `(tactic| simp only [PL.wipeE_n, PL.wipeE_c, PL.K_od, PL.K_ox, PL.K_rd, PL.K_mv, PL.K_pk, PL.K_wr, PL.K_md, PL.K_ow, PL.rdK_sh, PL.rdK_ow, PL.mvK_ow, PL.pkK_sh, PL.pkK_ow, PL.pkK_io, PL.wrK_un, PL.wrK_sh, PL.wrK_ow, PL.mdK_ow, PL.mdK_io, PL.odK_ow, PL.odK_io, PL.oxK_owL, PL.oxK_ioL, PL.oxK_owD, PL.oxK_ioD, PL.popK_ow, PL.popK_io, PL.owK_ow, PL.owK_io, PL.d_sh, PL.d_ow, PL.d_io, PL.d_tp, PL.st_sh, PL.st_ow, PL.st_tp, PL.wrs_nil, PL.wrs_cons, PL.G_name, PL.G_tupL, PL.G_tup, PL.E_var, PL.E_mv, PL.E_int, PL.E_bl, PL.E_non, PL.E_str, PL.E_bin, PL.E_neg, PL.E_cmp, PL.E_cmpB, PL.E_cmpL, PL.E_chain, PL.E_and, PL.E_or, PL.E_not, PL.E_ife, PL.E_tup, PL.E_lst, PL.E_pr, PL.E_ix, PL.E_ixB, PL.E_slc, PL.E_rev, PL.E_bi, PL.E_lenB, PL.E_isi, PL.E_lc, PL.E_index, PL.E_fz, PL.E_dnew, PL.E_dget, PL.E_dgetB, PL.E_dc, PL.E_lc2, PL.E_rgl1, PL.E_rgl2, PL.rglR_t, PL.rglR_f, PL.E_pop, PL.A_nil, PL.A_cons, PL.T_val, PL.T_cmp, PL.T_cmpB, PL.T_cmpL, PL.T_chain, PL.T_and, PL.T_or, PL.T_not, PL.Ts_nil, PL.Ts_one, PL.I_seq, PL.I_rng1, PL.I_rng2, PL.I_rng3, PL.I_enum, PL.I_zip, PL.I_keys, PL.I_items, PL.S_skip, PL.S_seq, PL.S_set, PL.S_setF, PL.S_par, PL.S_unp, PL.S_ite, PL.S_whl, PL.S_for, PL.S_ret, PL.S_expr, PL.S_app, PL.S_ext, PL.S_setIx, PL.S_upd, PL.S_tmp, PL.S_brk, PL.S_cnt, PL.S_never, PL.V_add, PL.V_addS, PL.V_addT, PL.V_addL, PL.V_sub, PL.V_mul, PL.V_mulL, PL.V_mulT, PL.V_div, PL.V_mod, PL.V_pow, PL.C_lt, PL.C_le, PL.C_gt, PL.C_ge, PL.C_ltT, PL.C_eqI, PL.C_neI, PL.C_inL, PL.C_inT, PL.C_niL, PL.C_niT, PL.C_is, PL.C_isN, PL.X_l, PL.X_t, PL.X_s, PL.L_l, PL.L_t, PL.L_s, PL.R_l, PL.R_s, PL.P_n, PL.P_i, PL.U_l, PL.U_t, PL.B_abs, PL.B_min, PL.B_max, PL.B_sum, PL.B_listL, PL.B_listT, PL.B_tupL, PL.B_tupT, PL.B_int, PL.B_intB, PL.B_repr, PL.B_sorted, PL.B_all, PL.B_any, PL.B_len, PL.M_l, PL.M_t, PL.M_s, PL.M_ql, PL.M_qt, PL.M_r1, PL.M_r2, PL.M_r3, PL.M_app, PL.M_ext, PL.M_set, PL.X_d, PL.C_inD, PL.C_niD, PL.M_upd, PL.M_setD, PL.M_get, PL.M_keys, PL.M_items, PL.M_pop, PL.M_isD, PL.isKey_i, PL.isKey_s, PL.M_kLL, PL.M_kTT, PL.mk_f, PL.mk_t, PL.fin_f, PL.fin_t, PL.isNon_n, PL.isNon_i, PL.isNon_b, PL.isNon_s, PL.isNon_t, PL.isNon_l, PL.nd_non, PL.kd_bool_non, PL.kd_int_non, PL.kd_str_non, PL.kd_list_non, PL.kd_tuple_non, PL.kd_dict_non, PL.nd_bool, PL.kd_bool_bool, PL.kd_int_bool, PL.kd_str_bool, PL.kd_list_bool, PL.kd_tuple_bool, PL.kd_dict_bool, PL.nd_int, PL.kd_bool_int, PL.kd_int_int, PL.kd_str_int, PL.kd_list_int, PL.kd_tuple_int, PL.kd_dict_int, PL.nd_str, PL.kd_bool_str, PL.kd_int_str, PL.kd_str_str, PL.kd_list_str, PL.kd_tuple_str, PL.kd_dict_str, PL.nd_list, PL.kd_bool_list, PL.kd_int_list, PL.kd_str_list, PL.kd_list_list, PL.kd_tuple_list, PL.kd_dict_list, PL.nd_tuple, PL.kd_bool_tuple, PL.kd_int_tuple, PL.kd_str_tuple, PL.kd_list_tuple, PL.kd_tuple_tuple, PL.kd_dict_tuple, PL.fnE_R, PL.at10, PL.at20, PL.at21, PL.at30, PL.at31, PL.at32, PL.ex_some, PL.fnEd_R, PL.cut3_2, List.map_cons, List.map_nil, List.length_cons, List.length_nil, List.replicate_succ, List.replicate_zero, List.cons_append, List.nil_append, List.append_nil, List.getElem?_cons_zero, List.getElem?_cons_succ, List.set_cons_zero, List.set_cons_succ, Nat.add_zero, Nat.zero_add, Nat.sub_zero, Nat.reduceAdd, Nat.reduceSub, decide_eq_true_eq, Bool.false_eq_true, if_true, if_false, true_and, and_true, eq_self, List.any_cons, List.any_nil, Bool.or_false, Bool.or_true, Bool.false_or, Bool.true_or, Bool.and_true, Bool.true_and, Bool.not_true, Bool.not_false, reduceIte] at $h:ident)
  | `(tactic| simp_arith [$xs,*] at $h:ident) => `(tactic| simp only [$xs,*, PL.wipeE_n, PL.wipeE_c, PL.K_od, PL.K_ox, PL.K_rd, PL.K_mv, PL.K_pk, PL.K_wr, PL.K_md, PL.K_ow, PL.rdK_sh, PL.rdK_ow, PL.mvK_ow, PL.pkK_sh, PL.pkK_ow, PL.pkK_io, PL.wrK_un, PL.wrK_sh, PL.wrK_ow, PL.mdK_ow, PL.mdK_io, PL.odK_ow, PL.odK_io, PL.oxK_owL, PL.oxK_ioL, PL.oxK_owD, PL.oxK_ioD, PL.popK_ow, PL.popK_io, PL.owK_ow, PL.owK_io, PL.d_sh, PL.d_ow, PL.d_io, PL.d_tp, PL.st_sh, PL.st_ow, PL.st_tp, PL.wrs_nil, PL.wrs_cons, PL.G_name, PL.G_tupL, PL.G_tup, PL.E_var, PL.E_mv, PL.E_int, PL.E_bl, PL.E_non, PL.E_str, PL.E_bin, PL.E_neg, PL.E_cmp, PL.E_cmpB, PL.E_cmpL, PL.E_chain, PL.E_and, PL.E_or, PL.E_not, PL.E_ife, PL.E_tup, PL.E_lst, PL.E_pr, PL.E_ix, PL.E_ixB, PL.E_slc, PL.E_rev, PL.E_bi, PL.E_lenB, PL.E_isi, PL.E_lc, PL.E_index, PL.E_fz, PL.E_dnew, PL.E_dget, PL.E_dgetB, PL.E_dc, PL.E_lc2, PL.E_rgl1, PL.E_rgl2, PL.rglR_t, PL.rglR_f, PL.E_pop, PL.A_nil, PL.A_cons, PL.T_val, PL.T_cmp, PL.T_cmpB, PL.T_cmpL, PL.T_chain, PL.T_and, PL.T_or, PL.T_not, PL.Ts_nil, PL.Ts_one, PL.I_seq, PL.I_rng1, PL.I_rng2, PL.I_rng3, PL.I_enum, PL.I_zip, PL.I_keys, PL.I_items, PL.S_skip, PL.S_seq, PL.S_set, PL.S_setF, PL.S_par, PL.S_unp, PL.S_ite, PL.S_whl, PL.S_for, PL.S_ret, PL.S_expr, PL.S_app, PL.S_ext, PL.S_setIx, PL.S_upd, PL.S_tmp, PL.S_brk, PL.S_cnt, PL.S_never, PL.V_add, PL.V_addS, PL.V_addT, PL.V_addL, PL.V_sub, PL.V_mul, PL.V_mulL, PL.V_mulT, PL.V_div, PL.V_mod, PL.V_pow, PL.C_lt, PL.C_le, PL.C_gt, PL.C_ge, PL.C_ltT, PL.C_eqI, PL.C_neI, PL.C_inL, PL.C_inT, PL.C_niL, PL.C_niT, PL.C_is, PL.C_isN, PL.X_l, PL.X_t, PL.X_s, PL.L_l, PL.L_t, PL.L_s, PL.R_l, PL.R_s, PL.P_n, PL.P_i, PL.U_l, PL.U_t, PL.B_abs, PL.B_min, PL.B_max, PL.B_sum, PL.B_listL, PL.B_listT, PL.B_tupL, PL.B_tupT, PL.B_int, PL.B_intB, PL.B_repr, PL.B_sorted, PL.B_all, PL.B_any, PL.B_len, PL.M_l, PL.M_t, PL.M_s, PL.M_ql, PL.M_qt, PL.M_r1, PL.M_r2, PL.M_r3, PL.M_app, PL.M_ext, PL.M_set, PL.X_d, PL.C_inD, PL.C_niD, PL.M_upd, PL.M_setD, PL.M_get, PL.M_keys, PL.M_items, PL.M_pop, PL.M_isD, PL.isKey_i, PL.isKey_s, PL.M_kLL, PL.M_kTT, PL.mk_f, PL.mk_t, PL.fin_f, PL.fin_t, PL.isNon_n, PL.isNon_i, PL.isNon_b, PL.isNon_s, PL.isNon_t, PL.isNon_l, PL.nd_non, PL.kd_bool_non, PL.kd_int_non, PL.kd_str_non, PL.kd_list_non, PL.kd_tuple_non, PL.kd_dict_non, PL.nd_bool, PL.kd_bool_bool, PL.kd_int_bool, PL.kd_str_bool, PL.kd_list_bool, PL.kd_tuple_bool, PL.kd_dict_bool, PL.nd_int, PL.kd_bool_int, PL.kd_int_int, PL.kd_str_int, PL.kd_list_int, PL.kd_tuple_int, PL.kd_dict_int, PL.nd_str, PL.kd_bool_str, PL.kd_int_str, PL.kd_str_str, PL.kd_list_str, PL.kd_tuple_str, PL.kd_dict_str, PL.nd_list, PL.kd_bool_list, PL.kd_int_list, PL.kd_str_list, PL.kd_list_list, PL.kd_tuple_list, PL.kd_dict_list, PL.nd_tuple, PL.kd_bool_tuple, PL.kd_int_tuple, PL.kd_str_tuple, PL.kd_list_tuple, PL.kd_tuple_tuple, PL.kd_dict_tuple, PL.fnE_R, PL.at10, PL.at20, PL.at21, PL.at30, PL.at31, PL.at32, PL.ex_some, PL.fnEd_R, PL.cut3_2, List.map_cons, List.map_nil, List.length_cons, List.length_nil, List.replicate_succ, List.replicate_zero, List.cons_append, List.nil_append, List.append_nil, List.getElem?_cons_zero, List.getElem?_cons_succ, List.set_cons_zero, List.set_cons_succ, Nat.add_zero, Nat.zero_add, Nat.sub_zero, Nat.reduceAdd, Nat.reduceSub, decide_eq_true_eq, Bool.false_eq_true, if_true, if_false, true_and, and_true, eq_self, List.any_cons, List.any_nil, Bool.or_false, Bool.or_true, Bool.false_or, Bool.true_or, Bool.and_true, Bool.true_and, Bool.not_true, Bool.not_false, reduceIte] at $h:ident)

section
set_option Elab.async false
set_option linter.all false
set_option maxRecDepth 100000
/-! PO: loops over a list that the items stand for. -/
namespace PL
open PySem L2
theorem lcK_filt {tb : Tab} {own : List Nat} {g : G} {ts : Ts} {p : P} {α : Type} {as : List α} {inp : α → PyData} {env : Ev} {Q : List PyData → Ev → Prop} (c : α → Bool) (f : α → PyData)
    (hs : ∀ a, a ∈ as → wpG g (inp a) (wipeE env own) fun e1 => wpTs tb ts e1 fun k e2 => if k = true then wpE tb p e2 (fun r e3 => wipeE e3 own = wipeE env own ∧ c a = true ∧ r.d = f a) else wipeE e2 own = wipeE env own ∧ c a = false)
    (hd : Q ((as.filter c).map f) env) : lcK tb own g ts p (as.map inp) env Q := by
  refine lc_ok (fun i e acc => wipeE e own = wipeE env own ∧ acc = ((as.take i).filter c).map f) ⟨rfl, by simp⟩ (fun i x e acc hx hI => ?_) fun e acc hI => ?_
  · obtain ⟨h1, rfl⟩ := hI
    rw [h1]
    rw [List.getElem?_map] at hx
    obtain ⟨a, ha, rfl⟩ := Option.map_eq_some_iff.mp hx
    have hm : a ∈ as := List.mem_of_getElem? ha
    obtain ⟨hi, rfl⟩ := List.getElem?_eq_some_iff.mp ha
    have e0 : as.take (i + 1) = as.take i ++ [as[i]] := List.take_succ_eq_append_getElem hi
    refine wpG_mono (fun e1 w => wpTs_mono ts (fun k e2 w => ?_) w) (hs _ hm)
    cases k with
    | true =>
      rw [if_pos rfl] at w ⊢
      refine wpE_mono p (fun r e3 w => ⟨w.1, ?_⟩) w
      rw [e0, List.filter_append, List.map_append, w.2.2]
      congr 1
      rw [List.filter_cons_of_pos w.2.1]; rfl
    | false =>
      rw [if_neg Bool.false_ne_true] at w ⊢
      refine ⟨w.1, ?_⟩
      rw [e0, List.filter_append, List.map_append, List.filter_cons_of_neg (by rw [w.2]; exact Bool.false_ne_true)]
      simp
  · obtain ⟨h1, rfl⟩ := hI
    rw [List.length_map, List.take_length]
    have : backE env e own = env := by
      apply List.ext_getElem?
      intro j
      have hl : e.length = env.length := by
        have := congrArg List.length h1
        rwa [wipeE_length, wipeE_length] at this
      rw [backE_get]
      by_cases hj : j ∈ own ∧ j < e.length
      · rw [if_pos hj, List.getD_eq_getElem?_getD, List.getElem?_eq_getElem (by omega : j < env.length)]; rfl
      · rw [if_neg hj]
        have q := congrArg (fun l : Ev => l[j]?) h1
        simp only [wipeE_get] at q
        rw [if_neg hj, if_neg (by rw [← hl]; exact hj)] at q
        exact q
    rw [this]; exact hd
theorem for_list {tb : Tab} {g : G} {b : S} {α : Type} {as : List α} {inp : α → PyData} {env : Ev} {Q : Out → Prop} (I : Nat → Ev → Prop) (h0 : I 0 env) (hs : ∀ i (h : i < as.length) e, I i e → wpG g (inp as[i]) e fun e1 => wpS tb b e1 fun o => match o with
    | .nx e2 => I (i + 1) e2
    | .ct e2 => I (i + 1) e2
    | .bk e2 => Q (.nx e2)
    | .rt r e2 => Q (.rt r e2)) (hd : ∀ e, I as.length e → Q (.nx e)) : loopF (wpG g) (wpS tb b) (as.map inp) env Q := by
  refine for_ok I h0 (fun i x e hx hI => ?_) (fun e hI => hd e (by rwa [List.length_map] at hI))
  rw [List.getElem?_map] at hx
  obtain ⟨a, ha, rfl⟩ := Option.map_eq_some_iff.mp hx
  obtain ⟨hi, rfl⟩ := List.getElem?_eq_some_iff.mp ha
  exact hs i hi e hI
/-- the items of enumerate, by number -/
theorem enumL_map {α : Type} {as : List α} {inp : α → PyData} : enumL (as.map inp) = (List.range as.length).map fun k => .tuple [.int (k : Nat), (as.map inp).getD k .none] := by
  unfold enumL; rw [List.length_map]
theorem getD_map {α : Type} {as : List α} {inp : α → PyData} {k : Nat} (h : k < as.length) : (as.map inp).getD k .none = inp as[k] := by
  rw [List.getD_eq_getElem?_getD, List.getElem?_map, List.getElem?_eq_getElem h]; rfl
theorem for_enum {tb : Tab} {g : G} {b : S} {α : Type} {as : List α} {inp : α → PyData} {env : Ev} {Q : Out → Prop} (I : Nat → Ev → Prop) (h0 : I 0 env) (hs : ∀ i (h : i < as.length) e, I i e → wpG g (.tuple [.int (i : Nat), inp as[i]]) e fun e1 => wpS tb b e1 fun o => match o with
    | .nx e2 => I (i + 1) e2
    | .ct e2 => I (i + 1) e2
    | .bk e2 => Q (.nx e2)
    | .rt r e2 => Q (.rt r e2)) (hd : ∀ e, I as.length e → Q (.nx e)) : loopF (wpG g) (wpS tb b) (enumL (as.map inp)) env Q := by
  rw [enumL_map]
  refine for_list I h0 (fun i h e hI => ?_) (fun e hI => hd e (by rwa [List.length_range] at hI))
  have h' : i < as.length := by rwa [List.length_range] at h
  rw [List.getElem_range, getD_map h']
  exact hs i h' e hI
theorem atI_map {α β : Type} {as : List α} {inp : α → β} {k : Nat} (h : k < as.length) : atI (as.map inp) (k : Int) = some (inp as[k]) := by
  rw [atI_nat (by rwa [List.length_map]), List.getElem?_map, List.getElem?_eq_getElem h]; rfl
theorem C_eqT {ds es : List PyData} {B : Bool → Prop} : cmpS .Eq (.tuple ds) (.tuple es) B = (SeqAt.shaped (.tuple ds) = true ∧ SeqAt.shaped (.tuple es) = true ∧ B (PyData.eqv (.tuple ds) (.tuple es))) := rfl
theorem C_eqL {ds es : List PyData} {B : Bool → Prop} : cmpS .Eq (.list ds) (.list es) B = (SeqAt.shaped (.list ds) = true ∧ SeqAt.shaped (.list es) = true ∧ B (PyData.eqv (.list ds) (.list es))) := rfl
theorem C_neT {ds es : List PyData} {B : Bool → Prop} : cmpS .NotEq (.tuple ds) (.tuple es) B = (SeqAt.shaped (.tuple ds) = true ∧ SeqAt.shaped (.tuple es) = true ∧ B (!PyData.eqv (.tuple ds) (.tuple es))) := rfl
theorem C_neL {ds es : List PyData} {B : Bool → Prop} : cmpS .NotEq (.list ds) (.list es) B = (SeqAt.shaped (.list ds) = true ∧ SeqAt.shaped (.list es) = true ∧ B (!PyData.eqv (.list ds) (.list es))) := rfl
/-- a comprehension by an invariant -/
theorem lcK_inv {tb : Tab} {own : List Nat} {g : G} {ts : Ts} {p : P} {xs : List PyData} {env : Ev} {Q : List PyData → Ev → Prop} (I : Nat → Ev → List PyData → Prop) (h0 : I 0 env []) (hs : ∀ i x e acc, xs[i]? = some x → I i e acc → wpG g x (wipeE e own) fun e1 => wpTs tb ts e1 fun c e2 => if c = true then wpE tb p e2 (fun r e3 => I (i + 1) e3 (acc ++ [r.d])) else I (i + 1) e2 acc)
    (hd : ∀ e acc, I xs.length e acc → Q acc (backE env e own)) : lcK tb own g ts p xs env Q := lc_ok I h0 hs hd
end PL
end

section
set_option Elab.async false
set_option linter.all false
set_option maxRecDepth 100000
/-! PP: shapes of data. -/
namespace PL
open PySem
/-- no dict inside, at most n deep -/
def Shp (n : Nat) (d : PyData) : Prop := d.canLay0 = true ∧ d.depth ≤ n
theorem shp_all {n : Nat} : ∀ {l : List PyData}, (∀ d ∈ l, Shp n d) → PyData.canLayAll0 l = true ∧ PyData.depthAll l ≤ n
  | [], _ => by simp [PyData.canLayAll0, PyData.depthAll]
  | d :: l, h => by
    obtain ⟨h1, h2⟩ := shp_all (l := l) fun z hz => h z (List.mem_cons_of_mem _ hz)
    obtain ⟨h3, h4⟩ := h d (List.mem_cons_self ..)
    simp only [PyData.canLayAll0, PyData.depthAll, h1, h3, Bool.and_self, true_and]
    omega
theorem shp_list {n : Nat} {l : List PyData} (h : ∀ d ∈ l, Shp n d) : Shp (n + 1) (.list l) := by
  obtain ⟨h1, h2⟩ := shp_all h
  constructor
  · simpa [PyData.canLay0] using h1
  · simpa [PyData.depth] using h2
theorem shp_tup {n : Nat} {l : List PyData} (h : ∀ d ∈ l, Shp n d) : Shp (n + 1) (.tuple l) := by
  obtain ⟨h1, h2⟩ := shp_all h
  constructor
  · simpa [PyData.canLay0] using h1
  · simpa [PyData.depth] using h2
theorem shp_int {n : Nat} {i : Int} (hn : 1 ≤ n) : Shp n (.int i) := by
  simpa [Shp, PyData.canLay0, PyData.depth] using hn
theorem shp_shaped {n : Nat} {d : PyData} (h : Shp n d) (hn : n ≤ 64) : SeqAt.shaped d = true := by
  unfold SeqAt.shaped
  rw [h.1, Bool.true_and, decide_eq_true_eq]
  exact Nat.le_trans h.2 hn
end PL
end

section
set_option Elab.async false
set_option linter.all false
set_option maxRecDepth 100000
/-! PPx: how long a text of data is, and that it is made of signs. -/
namespace PL
open PySem
def Sz (n : Nat) (d : PyData) : Prop := d.showable = true ∧ d.shown.length ≤ n ∧ PyData.strOk d.shown = true
theorem Sz.mono {n m : Nat} {d : PyData} (h : Sz n d) (hm : n ≤ m) : Sz m d := ⟨h.1, Nat.le_trans h.2.1 hm, h.2.2⟩
theorem strOk_of (s : String) : PyData.strOk (Str.ofString s) = true := by
  rw [Str.ofString_eq_toList]
  unfold PyData.strOk
  simp only [List.all_toArray, List.all_map, List.all_eq_true, Function.comp, decide_eq_true_eq]
  intro c _
  have h : c.val.toNat < 0xd800 ∨ (0xdfff < c.val.toNat ∧ c.val.toNat < 0x110000) := c.valid
  show c.val.toNat < _
  omega
theorem strOk_app {a b : Str} (h1 : PyData.strOk a = true) (h2 : PyData.strOk b = true) : PyData.strOk (a ++ b) = true := by
  unfold PyData.strOk at *
  show (a.cps ++ b.cps).all _ = true
  rw [Array.all_append, h1, h2]; rfl
theorem strOk_join : ∀ {ts : List Str}, (∀ t ∈ ts, PyData.strOk t = true) → PyData.strOk (Str.join ", " ts) = true
  | [], _ => by decide +kernel
  | [x], h => h x (List.mem_cons_self ..)
  | x :: y :: r, h => by
    show PyData.strOk (x ++ ", " ++ Str.join ", " (y :: r)) = true
    exact strOk_app (strOk_app (h x (List.mem_cons_self ..)) (strOk_of _)) (strOk_join fun t ht => h t (List.mem_cons_of_mem _ ht))
theorem sz_int {i : Int} (h : i.natAbs < 10 ^ 7) : Sz 8 (.int i) := by
  refine ⟨?_, ?_, strOk_of _⟩
  · have : i.natAbs.log2 < 1920 := by
      by_cases h0 : i.natAbs = 0
      · rw [h0]; decide
      · rw [Nat.log2_lt h0]
        exact Nat.lt_trans h (by decide +kernel)
    simpa [PyData.showable] using this
  · have := int_text_length_le10 (a := i) (k := 7) (by decide) h
    have e : (PyData.int i).shown.length = (toString i).length := by
      show (Str.ofString (toString i)).length = _
      exact ofString_length _
    omega
theorem sz_all {n : Nat} : ∀ {l : List PyData}, (∀ d ∈ l, Sz n d) → PyData.showableAll l = true ∧ piled (PyData.shownAll l) ≤ l.length * (n + 2) ∧ (PyData.shownAll l).length = l.length ∧ ∀ t ∈ PyData.shownAll l, PyData.strOk t = true
  | [], _ => by simp [PyData.showableAll, PyData.shownAll, piled]
  | d :: l, h => by
    obtain ⟨h1, h2, h3, h6⟩ := sz_all (l := l) fun z hz => h z (List.mem_cons_of_mem _ hz)
    obtain ⟨h4, h5, h7⟩ := h d (List.mem_cons_self ..)
    refine ⟨by simp [PyData.showableAll, h1, h4], ?_, by simp [PyData.shownAll, h3], fun t ht => ?_⟩
    · simp only [PyData.shownAll, piled_cons, List.length_cons, Nat.add_mul]
      omega
    · rcases List.mem_cons.mp ht with rfl | ht
      · exact h7
      · exact h6 t ht
theorem sz_tup {n k : Nat} {l : List PyData} (h : ∀ d ∈ l, Sz n d) (hk : l.length ≤ k) : Sz (k * (n + 2) + 3) (.tuple l) := by
  obtain ⟨h1, h2, h3, h6⟩ := sz_all h
  have hm : l.length * (n + 2) ≤ k * (n + 2) := Nat.mul_le_mul_right _ hk
  refine ⟨by simpa [PyData.showable] using h1, ?_, ?_⟩
  · simp only [PyData.shown, tupleText]
    rw [strLen_append, strLen_append]
    have e1 : ((("(" : String) : Str)).length = 1 := rfl
    have e3 : (((if (PyData.shownAll l).length == 1 then ",)" else ")" : String) : Str)).length ≤ 2 := by split <;> decide
    rw [e1]
    by_cases hn : PyData.shownAll l = []
    · rw [hn]
      have : (Str.join ", " ([] : List Str)).length = 0 := rfl
      rw [this]
      have e4 : (((if ([] : List Str).length == 1 then ",)" else ")" : String) : Str)).length = 1 := by decide
      rw [e4]; omega
    · have := join_length_add _ hn
      omega
  · simp only [PyData.shown, tupleText]
    exact strOk_app (strOk_app (strOk_of _) (strOk_join h6)) (strOk_of _)
theorem strOk_textFrom : ∀ (ts : List Str) (k : Nat) (acc : Str), (∀ t ∈ ts, PyData.strOk t = true) → PyData.strOk acc = true → PyData.strOk (textFrom k acc ts) = true
  | [], _, _, _, h => h
  | t :: r, k, acc, h, ha => strOk_textFrom r (k + 1) _ (fun t ht => h t (List.mem_cons_of_mem _ ht)) (strOk_app (strOk_app ha (strOk_of _)) (h t (List.mem_cons_self ..)))
theorem sz_list {n k : Nat} {l : List PyData} (h : ∀ d ∈ l, Sz n d) (hk : l.length ≤ k) : Sz (k * (n + 2) + 3) (.list l) := by
  obtain ⟨h1, h2, h3, h6⟩ := sz_all h
  have hm : l.length * (n + 2) ≤ k * (n + 2) := Nat.mul_le_mul_right _ hk
  refine ⟨by simpa [PyData.showable] using h1, ?_, ?_⟩
  · simp only [PyData.shown, listText]
    rw [strLen_append]
    have e1 : ((("]" : String) : Str)).length = 1 := rfl
    have e2 : ((("[" : String) : Str)).length = 1 := rfl
    rw [e1]
    cases e : PyData.shownAll l with
    | nil =>
      show ((("[" : String) : Str)).length + 1 ≤ _
      rw [e2]; omega
    | cons t ts =>
      show (textFrom 1 (((("[" : String) : Str)) ++ ((if 0 > 0 then ", " else "" : String) : Str) ++ t) ts).length + 1 ≤ _
      rw [textFrom_length_pos _ _ _ (by decide), strLen_append, strLen_append, e2]
      have e3 : (((if 0 > 0 then ", " else "" : String) : Str)).length = 0 := rfl
      rw [e3]
      rw [e, piled_cons] at h2
      omega
  · simp only [PyData.shown, listText]
    exact strOk_app (strOk_textFrom _ _ _ h6 (strOk_of _)) (strOk_of _)
theorem Sz.shp {n : Nat} {d : PyData} (h : Sz n d) : SeqAt.shaped (.str d.shown) = true := by
  unfold SeqAt.shaped
  simp [PyData.canLay0, PyData.depth, h.2.2]
end PL
end

section
set_option Elab.async false
set_option linter.all false
set_option maxRecDepth 100000
/-! PD: dicts by whole numbers; dict comprehensions, comprehensions of two loops, by lists. -/
namespace PL
open PySem L2
theorem backE_eq {env e : Ev} {own : List Nat} (h1 : wipeE e own = wipeE env own) : backE env e own = env := by
  apply List.ext_getElem?
  intro j
  have hl : e.length = env.length := by
    have := congrArg List.length h1
    rwa [wipeE_length, wipeE_length] at this
  rw [backE_get]
  by_cases hj : j ∈ own ∧ j < e.length
  · rw [if_pos hj, List.getD_eq_getElem?_getD, List.getElem?_eq_getElem (by omega : j < env.length)]; rfl
  · rw [if_neg hj]
    have q := congrArg (fun l : Ev => l[j]?) h1
    simp only [wipeE_get] at q
    rw [if_neg hj, if_neg (by rw [← hl]; exact hj)] at q
    exact q
theorem wipeE_sub {e e' : Ev} {own own1 : List Nat} (hs : ∀ i ∈ own1, i ∈ own) (h : wipeE e own1 = wipeE e' own1) : wipeE e own = wipeE e' own := by
  have hl : e.length = e'.length := by
    have := congrArg List.length h
    rwa [wipeE_length, wipeE_length] at this
  apply List.ext_getElem?
  intro j
  rw [wipeE_get, wipeE_get, hl]
  by_cases hj : j ∈ own ∧ j < e'.length
  · rw [if_pos hj, if_pos hj]
  · rw [if_neg hj, if_neg hj]
    have q := congrArg (fun l : Ev => l[j]?) h
    simp only [wipeE_get] at q
    rw [hl] at q
    by_cases hk : j ∈ own1 ∧ j < e'.length
    · exact absurd ⟨hs j hk.1, hk.2⟩ hj
    · rwa [if_neg hk, if_neg hk] at q
section
variable {α : Type} {f : α → D}
/-- a dict by whole numbers -/
def dm (f : α → D) (l : List (Nat × α)) : List (D × D) := l.map fun x => (.int (x.1 : Nat), f x.2)
def look (l : List (Nat × α)) (k : Nat) : Option α := (l.find? fun x => decide (x.1 = k)).map (·.2)
def put (l : List (Nat × α)) (k : Nat) (v : α) : List (Nat × α) := if (look l k).isSome = true then l.map (fun x => if x.1 = k then (x.1, v) else x) else l ++ [(k, v)]
theorem atEq_int (i j : Nat) : atEq (.int i) (.int j) = decide (i = j) := by
  show decide ((i : Int) = j) = _
  rw [decide_eq_decide]; omega
theorem dGet_dm (l : List (Nat × α)) (k : Nat) : dGet (dm f l) (.int k) = (look l k).map f := by
  unfold dGet dm look
  rw [List.find?_map]
  have : ((fun e : D × D => atEq e.1 (.int (k : Nat))) ∘ fun x : Nat × α => (PyData.int (x.1 : Nat), f x.2)) = fun x => decide (x.1 = k) := by
    funext x
    exact atEq_int _ _
  rw [this]
  cases l.find? fun x => decide (x.1 = k) <;> rfl
theorem dPut_dm (l : List (Nat × α)) (k : Nat) (v : α) : dPut (dm f l) (.int k) (f v) = dm f (put l k v) := by
  unfold dPut put
  rw [dGet_dm]
  cases h : look l k with
  | none => simp [dm]
  | some u =>
    simp only [Option.map_some, Option.isSome_some, if_true]
    simp only [dm, List.map_map]
    apply List.map_congr_left
    intro x hx
    simp only [Function.comp]
    rw [atEq_int]
    by_cases e : x.1 = k
    · rw [if_pos (by simpa using e), if_pos e]
    · rw [if_neg (by simpa using e), if_neg e]
theorem look_nil (k : Nat) : look ([] : List (Nat × α)) k = none := rfl
theorem look_cons (x : Nat × α) (l : List (Nat × α)) (k : Nat) : look (x :: l) k = if x.1 = k then some x.2 else look l k := by
  unfold look
  by_cases h : x.1 = k
  · rw [List.find?_cons_of_pos (by simpa using h), if_pos h]; rfl
  · rw [List.find?_cons_of_neg (by simpa using h), if_neg h]
theorem look_none {l : List (Nat × α)} {k : Nat} : look l k = none ↔ k ∉ l.map (·.1) := by
  induction l with
  | nil => simp [look_nil]
  | cons x l ih =>
    rw [look_cons]
    by_cases h : x.1 = k
    · rw [if_pos h]; simp [h]
    · rw [if_neg h, ih]
      simp only [List.map_cons, List.mem_cons, not_or]
      exact ⟨fun q => ⟨fun e => h e.symm, q⟩, fun q => q.2⟩
theorem look_app (l m : List (Nat × α)) (k : Nat) : look (l ++ m) k = (look l k).or (look m k) := by
  induction l with
  | nil => simp [look_nil]
  | cons x l ih =>
    rw [List.cons_append, look_cons, look_cons]
    by_cases h : x.1 = k
    · rw [if_pos h, if_pos h]; rfl
    · rw [if_neg h, if_neg h, ih]
theorem look_put (l : List (Nat × α)) (k : Nat) (v : α) (j : Nat) : look (put l k v) j = if j = k then some v else look l j := by
  unfold put
  cases h : look l k with
  | none =>
    rw [if_neg (by simp), look_app, look_cons, look_nil]
    by_cases e : j = k
    · subst e; rw [if_pos rfl, if_pos rfl, h]; rfl
    · rw [if_neg e, if_neg (fun q => e q.symm)]; simp
  | some u =>
    rw [if_pos (by simp)]
    have key : ∀ l : List (Nat × α), look (l.map fun x => if x.1 = k then (x.1, v) else x) j = if j = k then (look l k).map (fun _ => v) else look l j := by
      intro l
      induction l with
      | nil => simp [look_nil]
      | cons x l ih =>
        rw [List.map_cons, look_cons, look_cons, look_cons, ih]
        by_cases e : x.1 = k
        · rw [if_pos e, if_pos e]
          by_cases d : j = k
          · subst d; rw [if_pos e, if_pos rfl]; rfl
          · rw [if_neg d, if_neg (by omega), if_neg d, if_neg (by omega)]
        · rw [if_neg e, if_neg e]
          by_cases d : j = k
          · subst d; rw [if_neg e, if_pos rfl, if_pos rfl]
          · rw [if_neg d, if_neg d]
    rw [key, h]
    rfl
theorem put_keys (l : List (Nat × α)) (k : Nat) (v : α) : (put l k v).map (·.1) = if k ∈ l.map (·.1) then l.map (·.1) else l.map (·.1) ++ [k] := by
  unfold put
  cases h : look l k with
  | none => rw [if_neg (by simp), if_neg (look_none.mp h)]; simp
  | some u =>
    have hk : k ∈ l.map (·.1) := Decidable.byContradiction fun q => by rw [look_none.mpr q] at h; cases h
    rw [if_pos (by simp), if_pos hk, List.map_map]
    apply List.map_congr_left
    intro x _
    simp only [Function.comp]
    split <;> rfl
theorem put_nodup {l : List (Nat × α)} (h : (l.map (·.1)).Nodup) (k : Nat) (v : α) : ((put l k v).map (·.1)).Nodup := by
  rw [put_keys]
  split
  · exact h
  · rename_i hk
    refine List.nodup_append.mpr ⟨h, by simp, fun a ha b hb => ?_⟩
    rw [List.mem_singleton] at hb
    subst hb
    exact fun e => hk (e ▸ ha)
theorem put_new {l : List (Nat × α)} {k : Nat} (v : α) (h : k ∉ l.map (·.1)) : put l k v = l ++ [(k, v)] := by
  unfold put
  rw [look_none.mpr h]; rfl
theorem put_len (l : List (Nat × α)) (k : Nat) (v : α) : (put l k v).length ≤ l.length + 1 := by
  unfold put
  split <;> simp
theorem look_mem {l : List (Nat × α)} {k : Nat} {v : α} (h : look l k = some v) : (k, v) ∈ l := by
  unfold look at h
  obtain ⟨x, hx, rfl⟩ := Option.map_eq_some_iff.mp h
  have := List.find?_some hx
  rw [decide_eq_true_eq] at this
  subst this
  exact List.mem_of_find?_eq_some hx
theorem look_of_mem {l : List (Nat × α)} (hn : (l.map (·.1)).Nodup) {k : Nat} {v : α} (h : (k, v) ∈ l) : look l k = some v := by
  induction l with
  | nil => cases h
  | cons x l ih =>
    rw [look_cons]
    rw [List.map_cons, List.nodup_cons] at hn
    cases h with
    | head => rw [if_pos rfl]
    | tail _ h =>
      rw [if_neg (fun e : x.1 = k => hn.1 (e ▸ List.mem_map_of_mem (f := fun y : Nat × α => y.1) h)), ih hn.2 h]
theorem dm_map {β : Type} (g : β → α) (l : List β) (k : β → Nat) : (dm f (l.map fun b => (k b, g b))) = l.map fun b => (.int (k b : Nat), f (g b)) := by
  unfold dm; rw [List.map_map]; rfl
theorem keys_dm (l : List (Nat × α)) : (dm f l).map (·.1) = (l.map (·.1)).map fun k => .int (k : Nat) := by
  unfold dm; rw [List.map_map, List.map_map]; rfl
theorem items_dm (l : List (Nat × α)) : (dm f l).map (fun e => PyData.tuple [e.1, e.2]) = l.map fun x => .tuple [.int (x.1 : Nat), f x.2] := by
  unfold dm; rw [List.map_map]; rfl
/-- .update of a dict by another one -/
def upds (l m : List (Nat × α)) : List (Nat × α) := m.foldl (fun acc x => put acc x.1 x.2) l
theorem dUpd_dm (l m : List (Nat × α)) : dUpd (dm f l) (dm f m) = dm f (upds l m) := by
  unfold dUpd upds
  induction m generalizing l with
  | nil => rfl
  | cons x m ih =>
    show List.foldl _ (dPut (dm f l) (.int x.1) (f x.2)) (dm f m) = _
    rw [dPut_dm, ih]; rfl
theorem look_upds (m l : List (Nat × α)) (hm : (m.map (·.1)).Nodup) (j : Nat) : look (upds l m) j = (look m j).or (look l j) := by
  unfold upds
  induction m generalizing l with
  | nil => simp [look_nil]
  | cons x m ih =>
    rw [List.map_cons, List.nodup_cons] at hm
    rw [List.foldl_cons, ih _ hm.2, look_put, look_cons]
    by_cases h : x.1 = j
    · rw [if_pos h, if_pos h.symm, look_none.mpr (h ▸ hm.1)]; rfl
    · rw [if_neg h, if_neg (fun e => h e.symm)]
end
/-! ### comprehensions -/
theorem dcK_list {tb : Tab} {own : List Nat} {g : G} {p q : P} {α : Type} {as : List α} {inp : α → PyData} {env : Ev} {Q : List (PyData × PyData) → Ev → Prop} (k : α → Nat) (f : α → PyData) (hn : (as.map k).Nodup)
    (hs : ∀ a, a ∈ as → wpG g (inp a) (wipeE env own) fun e1 => wpE tb p e1 fun r e2 => wpE tb q e2 fun s e3 => wipeE e3 own = wipeE env own ∧ r.d = .int (k a) ∧ s.d = f a)
    (hd : Q (as.map fun a => (.int (k a), f a)) env) : dcK tb own g .nil p q (as.map inp) env Q := by
  unfold dcK
  suffices H : ∀ (as : List α) (l : List (Nat × PyData)) (e : Ev), wipeE e own = wipeE env own → (∀ a, a ∈ as → wpG g (inp a) (wipeE env own) fun e1 => wpE tb p e1 fun r e2 => wpE tb q e2 fun s e3 => wipeE e3 own = wipeE env own ∧ r.d = .int (k a) ∧ s.d = f a) →
      (l.map (·.1) ++ as.map k).Nodup → (∀ e, wipeE e own = wipeE env own → Q (dm id (l ++ as.map fun a => (k a, f a))) (backE env e own)) → loopD (wpG g) (wpTs tb .nil) (wpE tb p) (wpE tb q) own (as.map inp) e (dm id l) fun acc e2 => Q acc (backE env e2 own) by
    refine H as [] env rfl hs (by simpa using hn) fun e he => ?_
    rw [backE_eq he, List.nil_append, dm_map]; exact hd
  intro as
  induction as with
  | nil => intro l e he _ _ hd; have := hd e he; simpa [loopD] using this
  | cons a as ih =>
    intro l e he hs hn hd
    show wpG g (inp a) (wipeE e own) _
    rw [he]
    refine wpG_mono (fun e1 w => ?_) (hs a (List.mem_cons_self ..))
    show wpE tb p e1 _
    refine wpE_mono p (fun r e2 w => wpE_mono q (fun s e3 w => ?_) w) w
    obtain ⟨w1, w2, w3⟩ := w
    rw [w2, w3]
    refine ⟨rfl, ?_⟩
    have hk : k a ∉ l.map (·.1) := fun h => by
      rw [List.map_cons, List.nodup_append] at hn
      exact hn.2.2 _ h _ (List.mem_cons_self ..) rfl
    have e0 : dPut (dm id l) (.int (k a)) (f a) = dm id (l ++ [(k a, f a)]) := by
      have := dPut_dm (f := id) l (k a) (f a)
      rw [put_new _ hk] at this
      exact this
    rw [e0]
    refine ih _ e3 w1 (fun b hb => hs b (List.mem_cons_of_mem _ hb)) (by simpa [List.append_assoc] using hn) fun e he => ?_
    have := hd e he
    simpa [List.append_assoc] using this
theorem loopC_map {tb : Tab} {own : List Nat} {g : G} {p : P} {β : Type} {f inp : β → PyData} {env : Ev} {Q : List PyData → Ev → Prop} : ∀ (bs : List β) (acc : List PyData) (e : Ev), wipeE e own = wipeE env own →
    (∀ b, b ∈ bs → wpG g (inp b) (wipeE env own) fun e1 => wpE tb p e1 fun r e2 => wipeE e2 own = wipeE env own ∧ r.d = f b) → (∀ e, wipeE e own = wipeE env own → Q (acc ++ bs.map f) e) → loopC (wpG g) (wpTs tb .nil) (wpE tb p) own (bs.map inp) e acc Q
  | [], acc, e, he, _, hd => by simpa [loopC] using hd e he
  | b :: bs, acc, e, he, hs, hd => by
    show wpG g (inp b) (wipeE e own) _
    rw [he]
    refine wpG_mono (fun e1 w => ?_) (hs b (List.mem_cons_self ..))
    show wpE tb p e1 _
    refine wpE_mono p (fun r e2 w => ?_) w
    rw [w.2]
    exact loopC_map bs _ e2 w.1 (fun c hc => hs c (List.mem_cons_of_mem _ hc)) fun e he => by have := hd e he; simpa [List.append_assoc] using this
theorem lc2K_flat {tb : Tab} {own own1 : List Nat} {g g1 : G} {it1 : It} {p : P} {α β : Type} {as : List α} {inp : α → PyData} {env : Ev} {Q : List PyData → Ev → Prop} (bs : α → List β) (inp2 f : α → β → PyData) (ho : ∀ i ∈ own1, i ∈ own)
    (hs : ∀ a, a ∈ as → wpG g (inp a) (wipeE env own) fun e1 => wpI tb it1 e1 fun ys e2 => (ys = (bs a).map (inp2 a) ∧ noIo e2 own1 = true ∧ wipeE e2 own = wipeE env own) ∧ ∀ b, b ∈ bs a → wpG g1 (inp2 a b) (wipeE e2 own1) fun e3 => wpE tb p e3 fun r e4 => wipeE e4 own1 = wipeE e2 own1 ∧ r.d = f a b)
    (hl : (as.flatMap fun a => (bs a).map (f a)).length ≤ LIM) (hd : Q (as.flatMap fun a => (bs a).map (f a)) env) : lc2K tb own own1 g .nil it1 g1 .nil p (as.map inp) env Q := by
  unfold lc2K
  suffices H : ∀ (as : List α) (acc : List PyData) (e : Ev), wipeE e own = wipeE env own → (∀ a, a ∈ as → wpG g (inp a) (wipeE env own) fun e1 => wpI tb it1 e1 fun ys e2 => (ys = (bs a).map (inp2 a) ∧ noIo e2 own1 = true ∧ wipeE e2 own = wipeE env own) ∧ ∀ b, b ∈ bs a → wpG g1 (inp2 a b) (wipeE e2 own1) fun e3 => wpE tb p e3 fun r e4 => wipeE e4 own1 = wipeE e2 own1 ∧ r.d = f a b) →
      (acc ++ as.flatMap fun a => (bs a).map (f a)).length ≤ LIM → (∀ e, wipeE e own = wipeE env own → Q (acc ++ as.flatMap fun a => (bs a).map (f a)) (backE env e own)) → loopC2 (wpG g) (wpTs tb .nil) (wpI tb it1) (wpG g1) (wpTs tb .nil) (wpE tb p) own own1 (as.map inp) e acc fun acc e2 => Q acc (backE env e2 own) by
    refine H as [] env rfl hs (by simpa using hl) fun e he => ?_
    rw [backE_eq he, List.nil_append]; exact hd
  intro as
  induction as with
  | nil => intro acc e he _ _ hd; have := hd e he; simpa [loopC2] using this
  | cons a as ih =>
    intro acc e he hs hl hd
    show wpG g (inp a) (wipeE e own) _
    rw [he]
    refine wpG_mono (fun e1 w => ?_) (hs a (List.mem_cons_self ..))
    show wpI tb it1 e1 _
    refine wpI_mono it1 (fun ys e2 w => ?_) w
    obtain ⟨⟨rfl, w2, w3⟩, w4⟩ := w
    rw [List.flatMap_cons] at hl hd
    refine ⟨⟨?_, w2⟩, loopC_map (f := f a) (env := e2) (bs a) acc e2 rfl w4 fun e4 h4 => ?_⟩
    · rw [← List.append_assoc, List.length_append, List.length_append, List.length_map] at hl
      rw [List.length_map]; omega
    · refine ih _ e4 ((wipeE_sub ho h4).trans w3) (fun b hb => hs b (List.mem_cons_of_mem _ hb)) (by rw [List.append_assoc]; exact hl) fun e he => ?_
      rw [List.append_assoc]; exact hd e he
end PL
end

section
set_option Elab.async false
set_option linter.all false
set_option maxRecDepth 100000
set_option maxHeartbeats 4000000
/-! the defs as texts of the pure layer, checked. -/
namespace K82
open PySem PySem.Spec PyProof.Rows L2 PL
def top (i : Nat) : Stmt := PySem.Challenge.pw_spokenalike_k85_whole_coming_to_a_lot_by.main.body.getD i (.Pass ⟨0, 0, 0, 0⟩)
/-! greatest_divisor(one, other) -/
def N_greatest_divisor : List Str := ["one", "other", "first", "second", "rest"]
def ps_greatest_divisor : List Str := ["one", "other"]
def b_greatest_divisor : S := (.seq (.setF 2 (.bi .abs (.cons (.var 0) .nil)))
 (.seq (.setF 3 (.bi .abs (.cons (.var 1) .nil)))
 (.seq (.whl (.cmp .Gt (.var 3) (.int 0)) (.seq (.set 4 (.bin .Sub (.var 2) (.bin .Mult (.bin .FloorDiv (.var 2) (.var 3)) (.var 3))))
 (.seq (.set 2 (.var 3))
 (.seq (.set 3 (.var 4))
 .skip))))
 (.seq (.ret (.var 2))
 .skip))))
abbrev st_greatest_divisor : Stmt := top 3
/-! least_multiple(one, other) -/
def N_least_multiple : List Str := ["one", "other"]
def ps_least_multiple : List Str := ["one", "other"]
def b_least_multiple : S := (.seq (.ret (.bin .Mult (.bin .FloorDiv (.var 0) (.call "greatest_divisor" 0 (.cons (.var 0) (.cons (.var 1) .nil)))) (.var 1)))
 .skip)
abbrev st_least_multiple : Stmt := top 4
/-! lowest(above, below) -/
def N_lowest : List Str := ["above", "below", "divisor"]
def ps_lowest : List Str := ["above", "below"]
def b_lowest : S := (.seq (.setF 2 (.call "greatest_divisor" 0 (.cons (.var 0) (.cons (.var 1) .nil))))
 (.seq (.ite (.cmp .Lt (.var 1) (.int 0)) (.seq (.set 2 (.neg (.var 2)))
 .skip) .skip)
 (.seq (.ret (.tup (.cons (.bin .FloorDiv (.var 0) (.var 2)) (.cons (.bin .FloorDiv (.var 1) (.var 2)) .nil))))
 .skip)))
abbrev st_lowest : Stmt := top 5
/-! minus(one, other) -/
def N_minus : List Str := ["one", "other"]
def ps_minus : List Str := ["one", "other"]
def b_minus : S := (.seq (.ret (.fz (.call "lowest" 0 (.cons (.bin .Sub (.bin .Mult (.ix (.var 0) (.int 0)) (.ix (.var 1) (.int 1))) (.bin .Mult (.ix (.var 1) (.int 0)) (.ix (.var 0) (.int 1)))) (.cons (.bin .Mult (.ix (.var 0) (.int 1)) (.ix (.var 1) (.int 1))) .nil)))))
 .skip)
abbrev st_minus : Stmt := top 6
/-! is_less(one, other) -/
def N_is_less : List Str := ["one", "other"]
def ps_is_less : List Str := ["one", "other"]
def b_is_less : S := (.seq (.ret (.cmp .Lt (.bin .Mult (.ix (.var 0) (.int 0)) (.ix (.var 1) (.int 1))) (.bin .Mult (.ix (.var 1) (.int 0)) (.ix (.var 0) (.int 1)))))
 .skip)
abbrev st_is_less : Stmt := top 7
/-! is_at_most(one, other) -/
def N_is_at_most : List Str := ["one", "other"]
def ps_is_at_most : List Str := ["one", "other"]
def b_is_at_most : S := (.seq (.ret (.cmp .LtE (.bin .Mult (.ix (.var 0) (.int 0)) (.ix (.var 1) (.int 1))) (.bin .Mult (.ix (.var 1) (.int 0)) (.ix (.var 0) (.int 1)))))
 .skip)
abbrev st_is_at_most : Stmt := top 8
/-! common_below(fractions) -/
def N_common_below : List Str := ["fractions", "below", "fraction"]
def ps_common_below : List Str := ["fractions"]
def b_common_below : S := (.seq (.set 1 (.int 1))
 (.seq (.for_ (.name 2) (.seq (.var 0)) (.seq (.ite (.cmp .NotEq (.ix (.var 2) (.int 1)) (.int 1)) (.seq (.setF 1 (.call "least_multiple" 0 (.cons (.var 1) (.cons (.ix (.var 2) (.int 1)) .nil))))
 .skip) .skip)
 .skip))
 (.seq (.ret (.var 1))
 .skip)))
abbrev st_common_below : Stmt := top 9
/-! numbers_of(fractions) -/
def N_numbers_of : List Str := ["fractions", "below", "fraction"]
def ps_numbers_of : List Str := ["fractions"]
def b_numbers_of : S := (.seq (.setF 1 (.call "common_below" 0 (.cons (.var 0) .nil)))
 (.seq (.ret (.fz (.lc [2] (.seq (.var 0)) (.name 2) .nil (.bin .Mult (.ix (.var 2) (.int 0)) (.bin .FloorDiv (.var 1) (.ix (.var 2) (.int 1)))))))
 .skip))
abbrev st_numbers_of : Stmt := top 10
/-! smallest(numbers) -/
def N_smallest : List Str := ["numbers", "divisor", "number"]
def ps_smallest : List Str := ["numbers"]
def b_smallest : S := (.seq (.set 1 (.int 0))
 (.seq (.for_ (.name 2) (.seq (.var 0)) (.seq (.setF 1 (.call "greatest_divisor" 0 (.cons (.var 1) (.cons (.var 2) .nil))))
 (.seq (.ite (.cmp .Eq (.var 1) (.int 1)) (.seq (.ret (.fz (.bi .list (.cons (.var 0) .nil))))
 .skip) .skip)
 .skip)))
 (.seq (.ite (.cmp .Eq (.var 1) (.int 0)) (.seq (.ret (.fz (.bi .list (.cons (.var 0) .nil))))
 .skip) .skip)
 (.seq (.ret (.fz (.lc [2] (.seq (.var 0)) (.name 2) .nil (.bin .FloorDiv (.var 2) (.var 1)))))
 .skip))))
abbrev st_smallest : Stmt := top 11
/-! total(fractions) -/
def N_total : List Str := ["fractions", "rows"]
def ps_total : List Str := ["fractions"]
def b_total : S := (.seq (.setF 1 (.bi .list (.cons (.var 0) .nil)))
 (.seq (.ret (.fz (.call "lowest" 0 (.cons (.bi .sum (.cons (.call "numbers_of" 0 (.cons (.var 1) .nil)) .nil)) (.cons (.call "common_below" 0 (.cons (.var 1) .nil)) .nil)))))
 .skip))
abbrev st_total : Stmt := top 12
/-! place_to_begin(lines, place) -/
def N_place_to_begin : List Str := ["lines", "place", "at"]
def ps_place_to_begin : List Str := ["lines", "place"]
def b_place_to_begin : S := (.seq (.for_ (.name 2) (.rng2 (.var 1) (.lenB 0)) (.seq (.ite (.cmp .NotEq (.ix (.ixB 0 (.var 2)) (.var 1)) (.int 0)) (.seq (.ret (.var 2))
 .skip) .skip)
 .skip))
 (.seq (.ret .non)
 .skip))
abbrev st_place_to_begin : Stmt := top 13
/-! without_place(line, other, place) -/
def N_without_place : List Str := ["line", "other", "place", "divisor", "one", "two", "number", "taken"]
def ps_without_place : List Str := ["line", "other", "place"]
def b_without_place : S := (.seq (.setF 3 (.call "greatest_divisor" 0 (.cons (.ix (.var 0) (.var 2)) (.cons (.ix (.var 1) (.var 2)) .nil))))
 (.seq (.set 4 (.bin .FloorDiv (.ix (.var 1) (.var 2)) (.var 3)))
 (.seq (.set 5 (.bin .FloorDiv (.ix (.var 0) (.var 2)) (.var 3)))
 (.seq (.ret (.fz (.call "smallest" 0 (.cons (.lc [6, 7] (.zip (.var 0) (.var 1)) (.tup [6, 7]) .nil (.bin .Sub (.bin .Mult (.var 4) (.var 6)) (.bin .Mult (.var 5) (.var 7)))) .nil))))
 .skip))))
abbrev st_without_place : Stmt := top 14
/-! solved(rows, rights) -/
def N_solved : List Str := ["rows", "rights", "many", "lines", "k", "place", "at", "taken", "number"]
def ps_solved : List Str := ["rows", "rights"]
def b_solved : S := (.seq (.setF 2 (.bi .len (.cons (.var 0) .nil)))
 (.seq (.set 3 (.lc [4] (.rng1 (.var 2)) (.name 4) .nil (.call "smallest" 0 (.cons (.call "numbers_of" 0 (.cons (.bin .Add (.bi .list (.cons (.ix (.var 0) (.var 4)) .nil)) (.bi .list (.cons (.ix (.var 1) (.var 4)) .nil))) .nil)) .nil))))
 (.seq (.for_ (.name 5) (.rng1 (.var 2)) (.seq (.setF 6 (.callW "place_to_begin" 3 (.cons (.var 5) .nil)))
 (.seq (.ite (.cmp .Is (.var 6) .non) (.seq (.ret .non)
 .skip) .skip)
 (.seq (.set 7 (.ixB 3 (.var 6)))
 (.seq (.setIx 3 (.var 6) (.ixB 3 (.var 5)))
 (.seq (.setIx 3 (.var 5) (.var 7))
 (.seq (.for_ (.name 4) (.rng1 (.var 2)) (.seq (.ite (.and (.cmp .NotEq (.var 4) (.var 5)) (.cmp .NotEq (.ix (.ixB 3 (.var 4)) (.var 5)) (.int 0))) (.seq (.setIx 3 (.var 4) (.call "without_place" 0 (.cons (.ixB 3 (.var 4)) (.cons (.var 7) (.cons (.var 5) .nil)))))
 .skip) .skip)
 .skip))
 .skip)))))))
 (.seq (.ret (.fz (.lc [4] (.rng1 (.var 2)) (.name 4) .nil (.lc [8] (.seq (.slc (.ixB 3 (.var 4)) (.cons (.var 2) .nil) .nil)) (.name 8) .nil (.call "lowest" 0 (.cons (.var 8) (.cons (.ix (.ixB 3 (.var 4)) (.var 4)) .nil)))))))
 .skip))))
abbrev st_solved : Stmt := top 15
/-! is_integer(thing, low, high) -/
def N_is_integer : List Str := ["thing", "low", "high"]
def ps_is_integer : List Str := ["thing", "low", "high"]
def b_is_integer : S := (.seq (.ite (.or (.not (.val (.isi [.int] (.var 0)))) (.val (.isi [.bool] (.var 0)))) (.seq (.ret (.bl false))
 .skip) .skip)
 (.seq (.ret (.and (.or (.cmp .Is (.var 1) .non) (.cmp .GtE (.var 0) (.var 1))) (.or (.cmp .Is (.var 2) .non) (.cmp .LtE (.var 0) (.var 2)))))
 .skip))
abbrev st_is_integer : Stmt := top 21
/-! is_fraction(thing) -/
def N_is_fraction : List Str := ["thing"]
def ps_is_fraction : List Str := ["thing"]
def b_is_fraction : S := (.seq (.ret (.and (.isi [.tuple] (.var 0)) (.and (.cmp .Eq (.bi .len (.cons (.var 0) .nil)) (.int 2)) (.and (.call "is_integer" 2 (.cons (.ix (.var 0) (.int 0)) .nil)) (.call "is_integer" 1 (.cons (.ix (.var 0) (.int 1)) (.cons (.int 1) .nil)))))))
 .skip)
abbrev st_is_fraction : Stmt := top 22
/-! is_small_fraction(thing) -/
def N_is_small_fraction : List Str := ["thing"]
def ps_is_small_fraction : List Str := ["thing"]
def b_is_small_fraction : S := (.seq (.ret (.and (.call "is_fraction" 0 (.cons (.var 0) .nil)) (.and (.cmp .GtE (.ix (.var 0) (.int 0)) (.int 0)) (.and (.cmp .LtE (.ix (.var 0) (.int 1)) (.glob "MOST_BELOW")) (.call "is_at_most" 0 (.cons (.var 0) (.cons (.glob "ONE") .nil)))))))
 .skip)
abbrev st_is_small_fraction : Stmt := top 28
/-! is_letter(thing) -/
def N_is_letter : List Str := ["thing"]
def ps_is_letter : List Str := ["thing"]
def b_is_letter : S := (.seq (.ret (.and (.isi [.str] (.var 0)) (.cmp .In (.var 0) (.glob "LETTERS"))))
 .skip)
abbrev st_is_letter : Stmt := top 29
/-! is_move(many, thing) -/
def N_is_move : List Str := ["many", "thing"]
def ps_is_move : List Str := ["many", "thing"]
def b_is_move : S := (.seq (.ite (.or (.not (.val (.isi [.tuple] (.var 1)))) (.or (.cmp .NotEq (.bi .len (.cons (.var 1) .nil)) (.int 3)) (.not (.val (.call "is_letter" 0 (.cons (.ix (.var 1) (.int 0)) .nil)))))) (.seq (.ret (.bl false))
 .skip) .skip)
 (.seq (.ret (.and (.call "is_integer" 0 (.cons (.ix (.var 1) (.int 1)) (.cons (.int 0) (.cons (.bin .Sub (.var 0) (.int 1)) .nil)))) (.and (.call "is_small_fraction" 0 (.cons (.ix (.var 1) (.int 2)) .nil)) (.cmp .Gt (.ix (.ix (.var 1) (.int 2)) (.int 0)) (.int 0)))))
 .skip))
abbrev st_is_move : Stmt := top 30
/-! are_moves(many, thing) -/
def N_are_moves : List Str := ["many", "thing", "move", "ends", "k"]
def ps_are_moves : List Str := ["many", "thing"]
def b_are_moves : S := (.seq (.ite (.or (.not (.val (.isi [.tuple] (.var 1)))) (.or (.cmp .Gt (.bi .len (.cons (.var 1) .nil)) (.glob "MOST_MOVES")) (.not (.val (.bi .all (.cons (.lc [2] (.seq (.var 1)) (.name 2) .nil (.call "is_move" 0 (.cons (.var 0) (.cons (.var 2) .nil)))) .nil)))))) (.seq (.ret (.bl false))
 .skip) .skip)
 (.seq (.setF 3 (.lc [2] (.seq (.var 1)) (.name 2) .nil (.slc (.var 2) .nil (.cons (.int 2) .nil))))
 (.seq (.ite (.not (.val (.bi .all (.cons (.lc [4] (.rng1 (.bin .Sub (.bi .len (.cons (.var 3) .nil)) (.int 1))) (.name 4) .nil (.cmp .Lt (.ix (.var 3) (.var 4)) (.ix (.var 3) (.bin .Add (.var 4) (.int 1))))) .nil)))) (.seq (.ret (.bl false))
 .skip) .skip)
 (.seq (.ret (.fz (.call "is_at_most" 0 (.cons (.call "total" 0 (.cons (.lc [2] (.seq (.var 1)) (.name 2) .nil (.ix (.var 2) (.int 2))) .nil)) (.cons (.glob "ONE") .nil)))))
 .skip))))
abbrev st_are_moves : Stmt := top 31
/-! lowest_moves(moves) -/
def N_lowest_moves : List Str := ["moves", "word", "state", "fraction"]
def ps_lowest_moves : List Str := ["moves"]
def b_lowest_moves : S := (.seq (.ret (.fz (.bi .tuple (.cons (.lc [1, 2, 3] (.seq (.var 0)) (.tup [1, 2, 3]) .nil (.tup (.cons (.var 1) (.cons (.var 2) (.cons (.call "lowest" 0 (.cons (.ix (.var 3) (.int 0)) (.cons (.ix (.var 3) (.int 1)) .nil))) .nil))))) .nil))))
 .skip)
abbrev st_lowest_moves : Stmt := top 32
/-! leading_to(edges, goals) -/
def N_leading_to : List Str := ["edges", "goals", "found", "is_new", "place", "ends", "end"]
def ps_leading_to : List Str := ["edges", "goals"]
def b_leading_to : S := (.seq (.par [2, 3] (.cons (.dc [4] (.seq (.var 1)) (.name 4) .nil (.var 4) (.bl true)) (.cons (.bl true) .nil)))
 (.seq (.whl (.val (.var 3)) (.seq (.set 3 (.bl false))
 (.seq (.for_ (.tup [4, 5]) (.items (.var 0)) (.seq (.ite (.and (.cmpB .NotIn (.var 4) 2) (.val (.bi .any (.cons (.lc [6] (.seq (.var 5)) (.name 6) .nil (.cmpB .In (.var 6) 2)) .nil)))) (.seq (.setIx 2 (.var 4) (.bl true))
 (.seq (.set 3 (.bl true))
 .skip)) .skip)
 .skip))
 .skip)))
 (.seq (.ret (.var 2))
 .skip)))
abbrev st_leading_to : Stmt := top 34
/-! least_solution(places, moves, rights) -/
def N_least_solution : List Str := ["places", "moves", "rights", "edges", "end", "fraction", "place", "inside", "some", "spots", "spot", "rows", "sides", "row", "found", "line"]
def ps_least_solution : List Str := ["places", "moves", "rights"]
def b_least_solution : S := (.seq (.setF 3 (.dc [6] (.seq (.var 0)) (.name 6) .nil (.var 6) (.lc [4, 5] (.seq (.ix (.var 1) (.var 6))) (.tup [4, 5]) .nil (.var 4))))
 (.seq (.setF 7 (.call "leading_to" 0 (.cons (.var 3) (.cons (.lc [6] (.seq (.var 0)) (.name 6) (.one (.cmp .NotEq (.ix (.var 2) (.var 6)) (.glob "ZERO"))) (.var 6)) .nil))))
 (.seq (.setF 8 (.lc [6] (.seq (.var 0)) (.name 6) (.one (.cmp .In (.var 6) (.var 7))) (.var 6)))
 (.seq (.setF 9 (.dc [10, 6] (.enum (.var 8)) (.tup [10, 6]) .nil (.var 6) (.var 10)))
 (.seq (.par [11, 12] (.cons (.lst .nil) (.cons (.lst .nil) .nil)))
 (.seq (.for_ (.name 6) (.seq (.var 8)) (.seq (.set 13 (.bin .Mult (.lst (.cons (.glob "ZERO") .nil)) (.bi .len (.cons (.var 8) .nil))))
 (.seq (.setIx 13 (.ix (.var 9) (.var 6)) (.glob "ONE"))
 (.seq (.for_ (.tup [4, 5]) (.seq (.ix (.var 1) (.var 6))) (.seq (.ite (.cmp .In (.var 4) (.var 9)) (.seq (.setIx 13 (.ix (.var 9) (.var 4)) (.call "minus" 0 (.cons (.ixB 13 (.ix (.var 9) (.var 4))) (.cons (.var 5) .nil))))
 .skip) .skip)
 .skip))
 (.seq (.app 11 (.var 13))
 (.seq (.app 12 (.lst (.cons (.ix (.var 2) (.var 6)) .nil)))
 .skip))))))
 (.seq (.set 14 (.dc [6] (.seq (.var 0)) (.name 6) .nil (.var 6) (.glob "ZERO")))
 (.seq (.upd 14 (.dc [6, 15] (.zip (.var 8) (.call "solved" 0 (.cons (.var 11) (.cons (.var 12) .nil)))) (.tup [6, 15]) .nil (.var 6) (.ix (.var 15) (.int 0))))
 (.seq (.ret (.var 14))
 .skip)))))))))
abbrev st_least_solution : Stmt := top 35
/-! is_choice(many, thing) -/
def N_is_choice : List Str := ["many", "thing", "deed"]
def ps_is_choice : List Str := ["many", "thing"]
def b_is_choice : S := (.seq (.ite (.or (.not (.val (.isi [.tuple] (.var 1)))) (.not (.chain .LtE .LtE (.int 1) (.bi .len (.cons (.var 1) .nil)) (.glob "MOST_CHOICES")))) (.seq (.ret (.bl false))
 .skip) .skip)
 (.seq (.ret (.fz (.bi .all (.cons (.lc [2] (.seq (.var 1)) (.name 2) .nil (.call "are_moves" 0 (.cons (.var 0) (.cons (.var 2) .nil)))) .nil))))
 .skip))
abbrev st_is_choice : Stmt := top 38
/-! is_chooser(thing) -/
def N_is_chooser : List Str := ["thing", "deeds"]
def ps_is_chooser : List Str := ["thing"]
def b_is_chooser : S := (.seq (.ite (.or (.not (.val (.isi [.tuple] (.var 0)))) (.not (.chain .LtE .LtE (.int 1) (.bi .len (.cons (.var 0) .nil)) (.glob "MOST_SPEAKER_STATES")))) (.seq (.ret (.bl false))
 .skip) .skip)
 (.seq (.ret (.fz (.bi .all (.cons (.lc [1] (.seq (.var 0)) (.name 1) .nil (.call "is_choice" 0 (.cons (.bi .len (.cons (.var 0) .nil)) (.cons (.var 1) .nil)))) .nil))))
 .skip))
abbrev st_is_chooser : Stmt := top 39
/-! plain_chooser(chooser) -/
def N_plain_chooser : List Str := ["chooser", "deed", "deeds"]
def ps_plain_chooser : List Str := ["chooser"]
def b_plain_chooser : S := (.seq (.ret (.fz (.bi .tuple (.cons (.lc [2] (.seq (.var 0)) (.name 2) .nil (.bi .tuple (.cons (.lc [1] (.seq (.var 2)) (.name 1) .nil (.call "lowest_moves" 0 (.cons (.var 1) .nil))) .nil))) .nil))))
 .skip)
abbrev st_plain_chooser : Stmt := top 40
/-! all_deeds(chooser) -/
def N_all_deeds : List Str := ["chooser", "found", "deeds", "row", "one"]
def ps_all_deeds : List Str := ["chooser"]
def b_all_deeds : S := (.seq (.setF 1 (.lst (.cons (.tup .nil) .nil)))
 (.seq (.for_ (.name 2) (.seq (.var 0)) (.seq (.setF 1 (.lc2 [3, 4] [4] (.seq (.var 1)) (.name 3) .nil (.rng1 (.bi .len (.cons (.var 2) .nil))) (.name 4) .nil (.bin .Add (.var 3) (.tup (.cons (.var 4) .nil)))))
 .skip))
 (.seq (.ret (.var 1))
 .skip)))
abbrev st_all_deeds : Stmt := top 41
/-! is_better(one, other, sign) -/
def N_is_better : List Str := ["one", "other", "sign"]
def ps_is_better : List Str := ["one", "other", "sign"]
def b_is_better : S := (.seq (.ret (.fz (.ife (.cmp .Gt (.var 2) (.int 0)) (.call "is_less" 0 (.cons (.var 1) (.cons (.var 0) .nil))) (.call "is_less" 0 (.cons (.var 0) (.cons (.var 1) .nil))))))
 .skip)
abbrev st_is_better : Stmt := top 42
/-! coming_by(chooser, deeds, lot) -/
def N_coming_by : List Str := ["chooser", "deeds", "lot", "places", "moves", "place", "index", "word", "state", "part"]
def ps_coming_by : List Str := ["chooser", "deeds", "lot"]
def b_coming_by : S := (.seq (.setF 3 (.rgl1 false (.bi .len (.cons (.var 0) .nil))))
 (.seq (.set 4 .dnew)
 (.seq (.for_ (.tup [5, 6]) (.enum (.var 1)) (.seq (.setIx 4 (.var 5) (.ife (.cmp .In (.var 5) (.var 2)) (.lst .nil) (.lc [7, 8, 9] (.seq (.ix (.ix (.var 0) (.var 5)) (.var 6))) (.tup [7, 8, 9]) .nil (.tup (.cons (.var 8) (.cons (.var 9) .nil))))))
 .skip))
 (.seq (.ret (.fz (.call "least_solution" 0 (.cons (.var 3) (.cons (.var 4) (.cons (.dc [5] (.seq (.var 3)) (.name 5) .nil (.var 5) (.ife (.cmp .In (.var 5) (.var 2)) (.glob "ONE") (.glob "ZERO"))) .nil))))))
 .skip))))
abbrev st_coming_by : Stmt := top 43
/-! best_coming(chooser, lot, sign) -/
def N_best_coming : List Str := ["chooser", "lot", "sign", "best", "deeds", "chance"]
def ps_best_coming : List Str := ["chooser", "lot", "sign"]
def b_best_coming : S := (.seq (.set 3 .non)
 (.seq (.for_ (.name 4) (.seq (.call "all_deeds" 0 (.cons (.var 0) .nil))) (.seq (.set 5 (.ix (.call "coming_by" 0 (.cons (.var 0) (.cons (.var 4) (.cons (.var 1) .nil)))) (.int 0)))
 (.seq (.ite (.or (.cmp .Is (.var 3) .non) (.val (.call "is_better" 0 (.cons (.var 5) (.cons (.ix (.var 3) (.int 0)) (.cons (.var 2) .nil)))))) (.seq (.set 3 (.tup (.cons (.var 5) (.cons (.var 4) .nil))))
 .skip) .skip)
 .skip)))
 (.seq (.ret (.var 3))
 .skip)))
abbrev st_best_coming : Stmt := top 44
/-! greatest_values(chooser, lot) -/
def N_greatest_values : List Str := ["chooser", "lot", "found", "deeds", "values", "place", "one"]
def ps_greatest_values : List Str := ["chooser", "lot"]
def b_greatest_values : S := (.seq (.setF 2 (.bin .Mult (.lst (.cons (.glob "ZERO") .nil)) (.bi .len (.cons (.var 0) .nil))))
 (.seq (.for_ (.name 3) (.seq (.call "all_deeds" 0 (.cons (.var 0) .nil))) (.seq (.setF 4 (.call "coming_by" 0 (.cons (.var 0) (.cons (.var 3) (.cons (.var 1) .nil)))))
 (.seq (.setF 2 (.lc [5, 6] (.enum (.var 2)) (.tup [5, 6]) .nil (.ife (.val (.call "is_less" 0 (.cons (.var 6) (.cons (.ix (.var 4) (.var 5)) .nil)))) (.ix (.var 4) (.var 5)) (.var 6))))
 .skip)))
 (.seq (.ret (.var 2))
 .skip)))
abbrev st_greatest_values : Stmt := top 45
/-! is_ascending_lot(thing, many) -/
def N_is_ascending_lot : List Str := ["thing", "many", "one", "k"]
def ps_is_ascending_lot : List Str := ["thing", "many"]
def b_is_ascending_lot : S := (.seq (.ite (.or (.not (.val (.isi [.tuple] (.var 0)))) (.not (.val (.bi .all (.cons (.lc [2] (.seq (.var 0)) (.name 2) .nil (.call "is_integer" 0 (.cons (.var 2) (.cons (.int 0) (.cons (.bin .Sub (.var 1) (.int 1)) .nil))))) .nil))))) (.seq (.ret (.bl false))
 .skip) .skip)
 (.seq (.ret (.fz (.bi .all (.cons (.lc [3] (.rng1 (.bin .Sub (.bi .len (.cons (.var 0) .nil)) (.int 1))) (.name 3) .nil (.cmp .Lt (.ix (.var 0) (.var 3)) (.ix (.var 0) (.bin .Add (.var 3) (.int 1))))) .nil))))
 .skip))
abbrev st_is_ascending_lot : Stmt := top 47
/-! need_chooser(chooser) -/
def N_need_chooser : List Str := ["chooser"]
def ps_need_chooser : List Str := ["chooser"]
def b_need_chooser : S := (.seq (.ite (.not (.val (.call "is_chooser" 0 (.cons (.var 0) .nil)))) (.seq .never
 .skip) .skip)
 (.seq (.ret (.fz (.call "plain_chooser" 0 (.cons (.var 0) .nil))))
 .skip))
abbrev st_need_chooser : Stmt := top 49
/-! need_lot(chooser, lot) -/
def N_need_lot : List Str := ["chooser", "lot", "plain"]
def ps_need_lot : List Str := ["chooser", "lot"]
def b_need_lot : S := (.seq (.setF 2 (.call "need_chooser" 0 (.cons (.var 0) .nil)))
 (.seq (.ite (.or (.not (.val (.call "is_ascending_lot" 0 (.cons (.var 1) (.cons (.bi .len (.cons (.var 2) .nil)) .nil))))) (.cmp .Eq (.var 1) (.tup .nil))) (.seq .never
 .skip) .skip)
 (.seq (.ret (.var 2))
 .skip)))
abbrev st_need_lot : Stmt := top 50
/-! greatest_come(chooser, lot) -/
def N_greatest_come : List Str := ["chooser", "lot"]
def ps_greatest_come : List Str := ["chooser", "lot"]
def b_greatest_come : S := (.seq (.ret (.fz (.call "best_coming" 0 (.cons (.call "need_lot" 0 (.cons (.var 0) (.cons (.var 1) .nil))) (.cons (.var 1) (.cons (.int 1) .nil))))))
 .skip)
abbrev st_greatest_come : Stmt := top 51
/-! least_come(chooser, lot) -/
def N_least_come : List Str := ["chooser", "lot"]
def ps_least_come : List Str := ["chooser", "lot"]
def b_least_come : S := (.seq (.ret (.fz (.call "best_coming" 0 (.cons (.call "need_lot" 0 (.cons (.var 0) (.cons (.var 1) .nil))) (.cons (.var 1) (.cons (.neg (.int 1)) .nil))))))
 .skip)
abbrev st_least_come : Stmt := top 52
/-! come_paper(chooser, lot) -/
def N_come_paper : List Str := ["chooser", "lot"]
def ps_come_paper : List Str := ["chooser", "lot"]
def b_come_paper : S := (.seq (.ret (.fz (.bi .tuple (.cons (.call "greatest_values" 0 (.cons (.call "need_lot" 0 (.cons (.var 0) (.cons (.var 1) .nil))) (.cons (.var 1) .nil))) .nil))))
 .skip)
abbrev st_come_paper : Stmt := top 53
/-! _law_well(script, k) -/
def N_law_well : List Str := ["script", "k", "cell"]
def ps_law_well : List Str := ["script", "k"]
def b_law_well : S := (.seq (.setF 2 (.bin .Add (.bin .Mult (.int 6151) (.var 1)) (.bin .Mult (.int 29) (.bi .sum (.cons (.slc (.var 0) .nil (.cons (.int 2) .nil)) .nil)))))
 (.seq (.ite (.cmp .Lt (.var 1) (.bi .len (.cons (.var 0) .nil))) (.seq (.set 2 (.ix (.var 0) (.var 1)))
 .skip) .skip)
 (.seq (.ret (.lst (.cons (.bi .max2 (.cons (.int 0) (.cons (.bin .Sub (.var 2) (.bin .Pow (.int 10) (.int 18))) .nil))) (.cons (.bin .Mod (.bi .int (.cons (.bin .Add (.bin .Mult (.var 2) (.int 17)) (.bin .Mult (.int 811) (.var 1))) .nil)) (.bin .Add (.bin .Pow (.int 10) (.int 37)) (.int 61))) (.cons (.bin .Mult (.int 2) (.var 1)) .nil)))))
 .skip)))
abbrev st_law_well : Stmt := top 55
/-! _law_dip(well, many) -/
def N_law_dip : List Str := ["well", "many", "got", "mix"]
def ps_law_dip : List Str := ["well", "many"]
def b_law_dip : S := (.seq (.ite (.cmp .Gt (.ixB 0 (.int 0)) (.int 0)) (.seq (.set 2 (.bin .Mod (.bi .int (.cons (.ixB 0 (.int 0)) .nil)) (.var 1)))
 (.seq (.setIx 0 (.int 0) (.bin .FloorDiv (.ixB 0 (.int 0)) (.var 1)))
 (.seq (.ret (.var 2))
 .skip))) .skip)
 (.seq (.setIx 0 (.int 2) (.bin .Add (.ixB 0 (.int 2)) (.int 1)))
 (.seq (.set 3 (.bin .Add (.bin .Mult (.ixB 0 (.int 1)) (.bin .Add (.bin .Mult (.int 46189) (.ixB 0 (.int 2))) (.int 3))) (.bin .Mult (.int 15485863) (.ixB 0 (.int 2)))))
 (.seq (.set 3 (.bin .Mod (.bi .int (.cons (.bin .Add (.bin .Mult (.var 3) (.var 3)) (.bin .Mult (.int 99991) (.ixB 0 (.int 2)))) .nil)) (.bin .Add (.bin .Pow (.int 10) (.int 39)) (.int 133))))
 (.seq (.set 3 (.bin .Mod (.bi .int (.cons (.bin .Add (.bin .Mult (.bin .Mult (.var 3) (.var 3)) (.var 3)) (.int 7919)) .nil)) (.bin .Add (.bin .Pow (.int 10) (.int 41)) (.int 61))))
 (.seq (.ret (.bin .Mod (.bi .int (.cons (.bin .FloorDiv (.var 3) (.bin .Pow (.int 10) (.int 8))) .nil)) (.var 1)))
 .skip))))))
abbrev st_law_dip : Stmt := top 56
/-! _law_one(well, things) -/
def N_law_one : List Str := ["well", "things"]
def ps_law_one : List Str := ["well", "things"]
def b_law_one : S := (.seq (.ret (.ix (.var 1) (.callW "_law_dip" 0 (.cons (.bi .len (.cons (.var 1) .nil)) .nil))))
 .skip)
abbrev st_law_one : Stmt := top 57
/-! _law_mixed(well, things) -/
def N_law_mixed : List Str := ["well", "things", "left", "got", "turn"]
def ps_law_mixed : List Str := ["well", "things"]
def b_law_mixed : S := (.seq (.par [2, 3] (.cons (.bi .list (.cons (.var 1) .nil)) (.cons (.lst .nil) .nil)))
 (.seq (.for_ (.name 4) (.rng1 (.bi .len (.cons (.var 1) .nil))) (.seq (.app 3 (.pop 2 (.callW "_law_dip" 0 (.cons (.lenB 2) .nil))))
 .skip))
 (.seq (.ret (.var 3))
 .skip)))
abbrev st_law_mixed : Stmt := top 58
/-! _law_low(above, below) -/
def N_law_low : List Str := ["above", "below", "one", "two"]
def ps_law_low : List Str := ["above", "below"]
def b_law_low : S := (.seq (.par [2, 3] (.cons (.fz (.bi .abs (.cons (.var 0) .nil))) (.cons (.var 1) .nil)))
 (.seq (.whl (.cmp .Gt (.var 3) (.int 0)) (.seq (.par [2, 3] (.cons (.var 3) (.cons (.bin .Sub (.var 2) (.bin .Mult (.bin .FloorDiv (.var 2) (.var 3)) (.var 3))) .nil)))
 .skip))
 (.seq (.ret (.tup (.cons (.bin .FloorDiv (.var 0) (.var 2)) (.cons (.bin .FloorDiv (.var 1) (.var 2)) .nil))))
 .skip)))
abbrev st_law_low : Stmt := top 59
/-! _law_plus(one, two) -/
def N_law_plus : List Str := ["one", "two"]
def ps_law_plus : List Str := ["one", "two"]
def b_law_plus : S := (.seq (.ret (.fz (.call "_law_low" 0 (.cons (.bin .Add (.bin .Mult (.ix (.var 0) (.int 0)) (.ix (.var 1) (.int 1))) (.bin .Mult (.ix (.var 1) (.int 0)) (.ix (.var 0) (.int 1)))) (.cons (.bin .Mult (.ix (.var 0) (.int 1)) (.ix (.var 1) (.int 1))) .nil)))))
 .skip)
abbrev st_law_plus : Stmt := top 60
/-! _law_times(one, two) -/
def N_law_times : List Str := ["one", "two"]
def ps_law_times : List Str := ["one", "two"]
def b_law_times : S := (.seq (.ret (.fz (.call "_law_low" 0 (.cons (.bin .Mult (.ix (.var 0) (.int 0)) (.ix (.var 1) (.int 0))) (.cons (.bin .Mult (.ix (.var 0) (.int 1)) (.ix (.var 1) (.int 1))) .nil)))))
 .skip)
abbrev st_law_times : Stmt := top 61
/-! _law_sum(parts) -/
def N_law_sum : List Str := ["parts", "got", "part"]
def ps_law_sum : List Str := ["parts"]
def b_law_sum : S := (.seq (.set 1 (.tup (.cons (.int 0) (.cons (.int 1) .nil))))
 (.seq (.for_ (.name 2) (.seq (.var 0)) (.seq (.setF 1 (.call "_law_plus" 0 (.cons (.var 1) (.cons (.var 2) .nil))))
 .skip))
 (.seq (.ret (.var 1))
 .skip)))
abbrev st_law_sum : Stmt := top 62
/-! _law_below(one, two) -/
def N_law_below : List Str := ["one", "two"]
def ps_law_below : List Str := ["one", "two"]
def b_law_below : S := (.seq (.ret (.cmp .Lt (.bin .Mult (.ix (.var 0) (.int 0)) (.ix (.var 1) (.int 1))) (.bin .Mult (.ix (.var 1) (.int 0)) (.ix (.var 0) (.int 1)))))
 .skip)
abbrev st_law_below : Stmt := top 63
/-! _law_same(told, due) -/
def N_law_same : List Str := ["told", "due", "one", "two"]
def ps_law_same : List Str := ["told", "due"]
def b_law_same : S := (.seq (.ite (.cmp .Is (.var 1) .non) (.seq (.ret (.cmp .Is (.var 0) .non))
 .skip) .skip)
 (.seq (.ite (.val (.isi [.bool] (.var 1))) (.seq (.ret (.and (.isi [.bool] (.var 0)) (.cmp .Eq (.var 0) (.var 1))))
 .skip) .skip)
 (.seq (.ite (.val (.isi [.int] (.var 1))) (.seq (.ret (.and (.isi [.int] (.var 0)) (.and (.not (.isi [.bool] (.var 0))) (.cmp .Eq (.var 0) (.var 1)))))
 .skip) .skip)
 (.seq (.ite (.val (.isi [.str] (.var 1))) (.seq (.ret (.and (.isi [.str] (.var 0)) (.cmp .Eq (.var 0) (.var 1))))
 .skip) .skip)
 (.seq (.ite (.or (.cmp .NotEq (.isi [.list] (.var 0)) (.isi [.list] (.var 1))) (.or (.not (.val (.isi [.list, .tuple] (.var 0)))) (.cmp .NotEq (.bi .len (.cons (.var 0) .nil)) (.bi .len (.cons (.var 1) .nil))))) (.seq (.ret (.bl false))
 .skip) .skip)
 (.seq (.ret (.cmp .Eq (.lc [2, 3] (.zip (.var 0) (.var 1)) (.tup [2, 3]) (.one (.not (.val (.call "_law_same" 0 (.cons (.var 2) (.cons (.var 3) .nil)))))) (.int 1)) (.lst .nil)))
 .skip))))))
abbrev st_law_same : Stmt := top 64
/-! _law_moves(well, many, great) -/
def N_law_moves : List Str := ["well", "many", "great", "ends", "turn", "end", "weights", "whole", "much", "weight"]
def ps_law_moves : List Str := ["well", "many", "great"]
def b_law_moves : S := (.seq (.set 3 (.lst .nil))
 (.seq (.for_ (.name 4) (.rng1 (.callW "_law_one" 0 (.cons (.lst (.cons (.int 0) (.cons (.int 1) (.cons (.int 1) (.cons (.int 2) (.cons (.int 2) (.cons (.int 3) (.cons (.int 3) (.cons (.int 4) (.cons (.int 12) .nil)))))))))) .nil))) (.seq (.set 5 (.tup (.cons (.ix (.str "abc") (.callW "_law_dip" 0 (.cons (.int 3) .nil))) (.cons (.callW "_law_dip" 0 (.cons (.var 1) .nil)) .nil))))
 (.seq (.ite (.cmpB .NotIn (.var 5) 3) (.seq (.app 3 (.var 5))
 .skip) .skip)
 .skip)))
 (.seq (.setF 6 (.lc [5] (.seq (.var 3)) (.name 5) .nil (.bin .Add (.int 1) (.callW "_law_dip" 0 (.cons (.callW "_law_one" 0 (.cons (.lst (.cons (.int 1) (.cons (.int 2) (.cons (.int 2) (.cons (.int 3) (.cons (.int 9) .nil)))))) .nil)) .nil)))))
 (.seq (.par [7, 8] (.cons (.fz (.bin .Add (.bi .sum (.cons (.var 6) .nil)) (.callW "_law_one" 0 (.cons (.lst (.cons (.int 0) (.cons (.int 0) (.cons (.int 0) (.cons (.int 1) (.cons (.int 1) (.cons (.int 2) (.cons (.int 7) .nil)))))))) .nil)))) (.cons (.fz (.callW "_law_one" 0 (.cons (.lst (.cons (.int 1) (.cons (.int 1) (.cons (.int 1) (.cons (.int 2) (.cons (.int 3) .nil)))))) .nil))) .nil)))
 (.seq (.ite (.val (.var 2)) (.seq (.par [6, 7, 8] (.cons (.fz (.lc [5] (.seq (.var 3)) (.name 5) .nil (.bin .Add (.int 1) (.callW "_law_dip" 0 (.cons (.int 80000) .nil))))) (.cons (.bin .Sub (.bin .Pow (.int 10) (.int 6)) (.callW "_law_dip" 0 (.cons (.int 40000) .nil))) (.cons (.int 1) .nil))))
 .skip) .skip)
 (.seq (.ret (.fz (.bi .tuple (.cons (.lc [5, 9] (.zip (.bi .sorted (.cons (.var 3) .nil)) (.var 6)) (.tup [5, 9]) .nil (.bin .Add (.var 5) (.tup (.cons (.tup (.cons (.bin .Mult (.var 9) (.var 8)) (.cons (.bin .Mult (.var 7) (.var 8)) .nil))) .nil)))) .nil))))
 .skip))))))
abbrev st_law_moves : Stmt := top 65
/-! _law_doubled(deed) -/
def N_law_doubled : List Str := ["deed", "sign", "end", "part"]
def ps_law_doubled : List Str := ["deed"]
def b_law_doubled : S := (.seq (.ite (.cmp .NotEq (.lc [1, 2, 3] (.seq (.var 0)) (.tup [1, 2, 3]) (.one (.cmp .Gt (.ix (.var 3) (.int 1)) (.int 1000))) (.int 1)) (.lst .nil)) (.seq (.ret (.var 0))
 .skip) .skip)
 (.seq (.ret (.fz (.bi .tuple (.cons (.lc [1, 2, 3] (.seq (.var 0)) (.tup [1, 2, 3]) .nil (.tup (.cons (.var 1) (.cons (.var 2) (.cons (.tup (.cons (.bin .Mult (.int 2) (.ix (.var 3) (.int 0))) (.cons (.bin .Mult (.int 2) (.ix (.var 3) (.int 1))) .nil))) .nil))))) .nil))))
 .skip))
abbrev st_law_doubled : Stmt := top 66
/-! _law_chooser(well, most, cap) -/
def N_law_chooser : List Str := ["well", "most", "cap", "many", "great", "states", "all_tuples", "state", "deeds", "turn", "fresh"]
def ps_law_chooser : List Str := ["well", "most", "cap"]
def b_law_chooser : S := (.seq (.par [3, 4, 5, 6] (.cons (.fz (.bin .Add (.int 1) (.callW "_law_dip" 0 (.cons (.var 1) .nil)))) (.cons (.cmp .Eq (.callW "_law_dip" 0 (.cons (.int 12) .nil)) (.int 0)) (.cons (.lst .nil) (.cons (.int 1) .nil)))))
 (.seq (.for_ (.name 7) (.rng1 (.var 3)) (.seq (.set 8 (.lst (.cons (.callW "_law_moves" 0 (.cons (.var 3) (.cons (.var 4) .nil))) .nil)))
 (.seq (.for_ (.name 9) (.rng1 (.callW "_law_one" 0 (.cons (.lst (.cons (.int 0) (.cons (.int 1) (.cons (.int 1) (.cons (.int 2) (.cons (.int 2) .nil)))))) .nil))) (.seq (.setF 10 (.callW "_law_moves" 0 (.cons (.var 3) (.cons (.var 4) .nil))))
 (.seq (.ite (.cmp .LtE (.bin .Mult (.var 6) (.bin .Add (.lenB 8) (.int 1))) (.var 2)) (.seq (.app 8 (.callW "_law_one" 0 (.cons (.lst (.cons (.var 10) (.cons (.var 10) (.cons (.var 10) (.cons (.ixB 8 (.int 0)) (.cons (.call "_law_doubled" 0 (.cons (.ixB 8 (.int 0)) .nil)) .nil)))))) .nil)))
 .skip) .skip)
 .skip)))
 (.seq (.app 5 (.bi .tuple (.cons (.var 8) .nil)))
 (.seq (.setF 6 (.bin .Mult (.var 6) (.lenB 8)))
 .skip)))))
 (.seq (.ret (.fz (.bi .tuple (.cons (.var 5) .nil))))
 .skip)))
abbrev st_law_chooser : Stmt := top 67
/-! _law_lot(well, many) -/
def N_law_lot : List Str := ["well", "many", "often", "lot", "state"]
def ps_law_lot : List Str := ["well", "many"]
def b_law_lot : S := (.seq (.setF 2 (.callW "_law_one" 0 (.cons (.lst (.cons (.int 2) (.cons (.int 2) (.cons (.int 3) (.cons (.int 6) .nil))))) .nil)))
 (.seq (.setF 3 (.lc [4] (.rng1 (.var 1)) (.name 4) (.one (.cmp .Eq (.callW "_law_dip" 0 (.cons (.var 2) .nil)) (.int 0))) (.var 4)))
 (.seq (.ret (.fz (.ife (.cmp .NotEq (.var 3) (.lst .nil)) (.bi .tuple (.cons (.var 3) .nil)) (.tup (.cons (.callW "_law_dip" 0 (.cons (.var 1) .nil)) .nil)))))
 .skip)))
abbrev st_law_lot : Stmt := top 68
/-! _law_tuples(chooser) -/
def N_law_tuples : List Str := ["chooser", "found", "deeds", "more", "one", "at"]
def ps_law_tuples : List Str := ["chooser"]
def b_law_tuples : S := (.seq (.setF 1 (.lst (.cons (.tup .nil) .nil)))
 (.seq (.for_ (.name 2) (.seq (.var 0)) (.seq (.set 3 (.lst .nil))
 (.seq (.for_ (.name 4) (.seq (.var 1)) (.seq (.ext 3 (.lc [5] (.rng1 (.bi .len (.cons (.var 2) .nil))) (.name 5) .nil (.bin .Add (.var 4) (.tup (.cons (.var 5) .nil)))))
 .skip))
 (.seq (.set 1 (.var 3))
 .skip))))
 (.seq (.ret (.var 1))
 .skip)))
abbrev st_law_tuples : Stmt := top 69
/-! _law_least(places, moves, rights) -/
def N_law_least : List Str := ["places", "moves", "rights", "rows", "place", "row", "end", "part", "right", "stay", "much", "lean", "other", "wide", "values"]
def ps_law_least : List Str := ["places", "moves", "rights"]
def b_law_least : S := (.seq (.set 3 .dnew)
 (.seq (.for_ (.name 4) (.seq (.var 0)) (.seq (.set 5 .dnew)
 (.seq (.for_ (.tup [6, 7]) (.seq (.ix (.var 1) (.var 4))) (.seq (.setIx 5 (.var 6) (.call "_law_plus" 0 (.cons (.dgetB 5 (.var 6) (.tup (.cons (.int 0) (.cons (.int 1) .nil)))) (.cons (.var 7) .nil))))
 .skip))
 (.seq (.setIx 3 (.var 4) (.lst (.cons (.var 5) (.cons (.ix (.var 2) (.var 4)) .nil))))
 .skip))))
 (.seq (.for_ (.name 4) (.seq (.var 0)) (.seq (.unp [5, 8] (.ixB 3 (.var 4)))
 (.seq (.setF 9 (.dgetB 5 (.var 4) (.tup (.cons (.int 0) (.cons (.int 1) .nil)))))
 (.seq (.ite (.cmp .Eq (.var 9) (.tup (.cons (.int 1) (.cons (.int 1) .nil)))) (.seq (.setIx 3 (.var 4) (.lst (.cons .dnew (.cons (.tup (.cons (.int 0) (.cons (.int 1) .nil))) .nil))))
 .skip) (.seq (.par [10, 11] (.cons (.fz (.call "_law_low" 0 (.cons (.ix (.var 9) (.int 1)) (.cons (.bin .Sub (.ix (.var 9) (.int 1)) (.ix (.var 9) (.int 0))) .nil)))) (.cons .dnew .nil)))
 (.seq (.for_ (.name 6) (.keys (.var 5)) (.seq (.ite (.cmp .NotEq (.var 6) (.var 4)) (.seq (.setIx 11 (.var 6) (.call "_law_times" 0 (.cons (.var 10) (.cons (.ixB 5 (.var 6)) .nil))))
 .skip) .skip)
 .skip))
 (.seq (.setIx 3 (.var 4) (.lst (.cons (.var 11) (.cons (.call "_law_times" 0 (.cons (.var 10) (.cons (.var 8) .nil))) .nil))))
 .skip))))
 (.seq (.unp [5, 8] (.ixB 3 (.var 4)))
 (.seq (.for_ (.name 12) (.seq (.var 0)) (.seq (.setF 7 (.dget (.ix (.ixB 3 (.var 12)) (.int 0)) (.var 4) (.tup (.cons (.int 0) (.cons (.int 1) .nil)))))
 (.seq (.ite (.and (.cmp .NotEq (.var 12) (.var 4)) (.cmp .Gt (.ix (.var 7) (.int 0)) (.int 0))) (.seq (.set 13 .dnew)
 (.seq (.for_ (.name 6) (.keys (.ix (.ixB 3 (.var 12)) (.int 0))) (.seq (.ite (.cmp .NotEq (.var 6) (.var 4)) (.seq (.setIx 13 (.var 6) (.ix (.ix (.ixB 3 (.var 12)) (.int 0)) (.var 6)))
 .skip) .skip)
 .skip))
 (.seq (.for_ (.name 6) (.keys (.var 5)) (.seq (.setIx 13 (.var 6) (.call "_law_plus" 0 (.cons (.dgetB 13 (.var 6) (.tup (.cons (.int 0) (.cons (.int 1) .nil)))) (.cons (.call "_law_times" 0 (.cons (.var 7) (.cons (.ixB 5 (.var 6)) .nil))) .nil))))
 .skip))
 (.seq (.setIx 3 (.var 12) (.lst (.cons (.var 13) (.cons (.call "_law_plus" 0 (.cons (.ix (.ixB 3 (.var 12)) (.int 1)) (.cons (.call "_law_times" 0 (.cons (.var 7) (.cons (.var 8) .nil))) .nil))) .nil))))
 .skip)))) .skip)
 .skip)))
 .skip))))))
 (.seq (.set 14 .dnew)
 (.seq (.for_ (.name 4) (.seq (.var 0)) (.seq (.setIx 14 (.var 4) (.ix (.ixB 3 (.var 4)) (.int 1)))
 .skip))
 (.seq (.ret (.var 14))
 .skip))))))
abbrev st_law_least : Stmt := top 70
/-! _law_comes(chooser, chosen, lot) -/
def N_law_comes : List Str := ["chooser", "chosen", "lot", "moves", "rights", "state", "deeds", "sign", "end", "part", "values"]
def ps_law_comes : List Str := ["chooser", "chosen", "lot"]
def b_law_comes : S := (.seq (.par [3, 4] (.cons .dnew (.cons .dnew .nil)))
 (.seq (.for_ (.tup [5, 6]) (.enum (.var 0)) (.seq (.setIx 4 (.var 5) (.tup (.cons (.bi .int (.cons (.cmp .In (.var 5) (.var 2)) .nil)) (.cons (.int 1) .nil))))
 (.seq (.setIx 3 (.var 5) (.lst .nil))
 (.seq (.ite (.cmp .NotIn (.var 5) (.var 2)) (.seq (.setIx 3 (.var 5) (.lc [7, 8, 9] (.seq (.ix (.var 6) (.ix (.var 1) (.var 5)))) (.tup [7, 8, 9]) .nil (.tup (.cons (.var 8) (.cons (.call "_law_low" 0 (.cons (.ix (.var 9) (.int 0)) (.cons (.ix (.var 9) (.int 1)) .nil))) .nil)))))
 .skip) .skip)
 .skip))))
 (.seq (.setF 10 (.call "_law_least" 0 (.cons (.rgl1 false (.bi .len (.cons (.var 0) .nil))) (.cons (.var 3) (.cons (.var 4) .nil)))))
 (.seq (.ret (.fz (.lc [5] (.rng1 (.bi .len (.cons (.var 0) .nil))) (.name 5) .nil (.ix (.var 10) (.var 5)))))
 .skip))))
abbrev st_law_comes : Stmt := top 71
/-! _law_dues(chooser, lot) -/
def N_law_dues : List Str := ["chooser", "lot", "great", "small", "paper", "chosen", "values", "one", "two"]
def ps_law_dues : List Str := ["chooser", "lot"]
def b_law_dues : S := (.seq (.par [2, 3, 4] (.cons .non (.cons .non (.cons (.fz (.bin .Mult (.lst (.cons (.tup (.cons (.int 0) (.cons (.int 1) .nil))) .nil)) (.bi .len (.cons (.var 0) .nil)))) .nil))))
 (.seq (.for_ (.name 5) (.seq (.call "_law_tuples" 0 (.cons (.var 0) .nil))) (.seq (.setF 6 (.call "_law_comes" 0 (.cons (.var 0) (.cons (.var 5) (.cons (.var 1) .nil)))))
 (.seq (.ite (.or (.cmp .Is (.var 2) .non) (.val (.call "_law_below" 0 (.cons (.ix (.var 2) (.int 0)) (.cons (.ix (.var 6) (.int 0)) .nil))))) (.seq (.set 2 (.tup (.cons (.ix (.var 6) (.int 0)) (.cons (.var 5) .nil))))
 .skip) .skip)
 (.seq (.ite (.or (.cmp .Is (.var 3) .non) (.val (.call "_law_below" 0 (.cons (.ix (.var 6) (.int 0)) (.cons (.ix (.var 3) (.int 0)) .nil))))) (.seq (.set 3 (.tup (.cons (.ix (.var 6) (.int 0)) (.cons (.var 5) .nil))))
 .skip) .skip)
 (.seq (.setF 4 (.lc [7, 8] (.zip (.var 6) (.var 4)) (.tup [7, 8]) .nil (.ife (.val (.call "_law_below" 0 (.cons (.var 8) (.cons (.var 7) .nil)))) (.var 7) (.var 8))))
 .skip)))))
 (.seq (.ret (.fz (.lst (.cons (.var 2) (.cons (.var 3) (.cons (.bi .tuple (.cons (.var 4) .nil)) .nil))))))
 .skip)))
abbrev st_law_dues : Stmt := top 72
/-! _law_told(way, chooser, lot, named) -/
def N_law_told : List Str := ["way", "chooser", "lot", "named"]
def ps_law_told : List Str := ["way", "chooser", "lot", "named"]
def b_law_told : S := (.seq (.ite (.cmp .Eq (.var 0) (.int 0)) (.seq (.ret (.ife (.val (.var 3)) (.callK "greatest_come" ["lot", "chooser"] (.cons (.var 2) (.cons (.var 1) .nil))) (.call "greatest_come" 0 (.cons (.var 1) (.cons (.var 2) .nil)))))
 .skip) .skip)
 (.seq (.ite (.cmp .Eq (.var 0) (.int 1)) (.seq (.ret (.ife (.val (.var 3)) (.callK "least_come" ["lot", "chooser"] (.cons (.var 2) (.cons (.var 1) .nil))) (.call "least_come" 0 (.cons (.var 1) (.cons (.var 2) .nil)))))
 .skip) .skip)
 (.seq (.ret (.ife (.val (.var 3)) (.callK "come_paper" ["lot", "chooser"] (.cons (.var 2) (.cons (.var 1) .nil))) (.call "come_paper" 0 (.cons (.var 1) (.cons (.var 2) .nil)))))
 .skip)))
abbrev st_law_told : Stmt := top 73
/-! law(script) -/
def N_law : List Str := ["script", "k", "well", "chooser", "turn", "lot", "held", "dues", "named", "way"]
def ps_law : List Str := ["script"]
def b_law : S := (.seq (.for_ (.name 1) (.rng1 (.bi .max2 (.cons (.int 2) (.cons (.bi .min2 (.cons (.bi .len (.cons (.var 0) .nil)) (.cons (.int 4) .nil))) .nil)))) (.seq (.set 2 (.call "_law_well" 0 (.cons (.var 0) (.cons (.var 1) .nil))))
 (.seq (.setF 3 (.callW "_law_chooser" 2 (.cons (.callW "_law_one" 2 (.cons (.lst (.cons (.int 2) (.cons (.int 3) (.cons (.int 3) (.cons (.int 4) (.cons (.int 4) (.cons (.int 6) .nil))))))) .nil)) (.cons (.callW "_law_one" 2 (.cons (.lst (.cons (.int 8) (.cons (.int 16) (.cons (.int 36) .nil)))) .nil)) .nil))))
 (.seq (.for_ (.name 4) (.rng1 (.int 3)) (.seq (.setF 5 (.callW "_law_lot" 2 (.cons (.bi .len (.cons (.var 3) .nil)) .nil)))
 (.seq (.par [6, 7] (.cons (.fz (.bi .repr (.cons (.lst (.cons (.var 3) (.cons (.var 5) .nil))) .nil))) (.cons (.fz (.call "_law_dues" 0 (.cons (.var 3) (.cons (.var 5) .nil)))) .nil)))
 (.seq (.for_ (.name 8) (.seq (.tup (.cons (.bl false) (.cons (.bl true) .nil)))) (.seq (.for_ (.name 9) (.seq (.callW "_law_mixed" 2 (.cons (.lst (.cons (.int 0) (.cons (.int 1) (.cons (.int 2) .nil)))) .nil))) (.seq (.ite (.not (.val (.call "_law_same" 0 (.cons (.call "_law_told" 0 (.cons (.var 9) (.cons (.var 3) (.cons (.var 5) (.cons (.var 8) .nil))))) (.cons (.ix (.var 7) (.var 9)) .nil))))) (.seq (.ret (.bl false))
 .skip) .skip)
 .skip))
 .skip))
 (.seq (.ite (.cmp .NotEq (.bi .repr (.cons (.lst (.cons (.var 3) (.cons (.var 5) .nil))) .nil)) (.var 6)) (.seq (.ret (.bl false))
 .skip) .skip)
 .skip)))))
 .skip))))
 (.seq (.ret (.bl true))
 .skip))
abbrev st_law : Stmt := top 74
theorem ck_greatest_divisor : (scOk N_greatest_divisor ps_greatest_divisor (defScope st_greatest_divisor) && chkS b_greatest_divisor { N := N_greatest_divisor, sc := defScope st_greatest_divisor, fw := fun _ => true, gd := false } (defBody st_greatest_divisor)) = true := by decide +kernel
theorem ck_least_multiple : (scOk N_least_multiple ps_least_multiple (defScope st_least_multiple) && chkS b_least_multiple { N := N_least_multiple, sc := defScope st_least_multiple, fw := fun _ => true, gd := false } (defBody st_least_multiple)) = true := by decide +kernel
theorem ck_lowest : (scOk N_lowest ps_lowest (defScope st_lowest) && chkS b_lowest { N := N_lowest, sc := defScope st_lowest, fw := fun _ => true, gd := false } (defBody st_lowest)) = true := by decide +kernel
theorem ck_minus : (scOk N_minus ps_minus (defScope st_minus) && chkS b_minus { N := N_minus, sc := defScope st_minus, fw := fun _ => true, gd := false } (defBody st_minus)) = true := by decide +kernel
theorem ck_is_less : (scOk N_is_less ps_is_less (defScope st_is_less) && chkS b_is_less { N := N_is_less, sc := defScope st_is_less, fw := fun _ => true, gd := false } (defBody st_is_less)) = true := by decide +kernel
theorem ck_is_at_most : (scOk N_is_at_most ps_is_at_most (defScope st_is_at_most) && chkS b_is_at_most { N := N_is_at_most, sc := defScope st_is_at_most, fw := fun _ => true, gd := false } (defBody st_is_at_most)) = true := by decide +kernel
theorem ck_common_below : (scOk N_common_below ps_common_below (defScope st_common_below) && chkS b_common_below { N := N_common_below, sc := defScope st_common_below, fw := fun _ => true, gd := false } (defBody st_common_below)) = true := by decide +kernel
theorem ck_numbers_of : (scOk N_numbers_of ps_numbers_of (defScope st_numbers_of) && chkS b_numbers_of { N := N_numbers_of, sc := defScope st_numbers_of, fw := fun _ => true, gd := false } (defBody st_numbers_of)) = true := by decide +kernel
theorem ck_smallest : (scOk N_smallest ps_smallest (defScope st_smallest) && chkS b_smallest { N := N_smallest, sc := defScope st_smallest, fw := fun _ => true, gd := false } (defBody st_smallest)) = true := by decide +kernel
theorem ck_total : (scOk N_total ps_total (defScope st_total) && chkS b_total { N := N_total, sc := defScope st_total, fw := fun _ => true, gd := false } (defBody st_total)) = true := by decide +kernel
theorem ck_place_to_begin : (scOk N_place_to_begin ps_place_to_begin (defScope st_place_to_begin) && chkS b_place_to_begin { N := N_place_to_begin, sc := defScope st_place_to_begin, fw := fun _ => true, gd := false } (defBody st_place_to_begin)) = true := by decide +kernel
theorem ck_without_place : (scOk N_without_place ps_without_place (defScope st_without_place) && chkS b_without_place { N := N_without_place, sc := defScope st_without_place, fw := fun _ => true, gd := false } (defBody st_without_place)) = true := by decide +kernel
theorem ck_solved : (scOk N_solved ps_solved (defScope st_solved) && chkS b_solved { N := N_solved, sc := defScope st_solved, fw := fun _ => true, gd := false } (defBody st_solved)) = true := by decide +kernel
theorem ck_is_integer : (scOk N_is_integer ps_is_integer (defScope st_is_integer) && chkS b_is_integer { N := N_is_integer, sc := defScope st_is_integer, fw := fun _ => true, gd := false } (defBody st_is_integer)) = true := by decide +kernel
theorem ck_is_fraction : (scOk N_is_fraction ps_is_fraction (defScope st_is_fraction) && chkS b_is_fraction { N := N_is_fraction, sc := defScope st_is_fraction, fw := fun _ => true, gd := false } (defBody st_is_fraction)) = true := by decide +kernel
theorem ck_is_small_fraction : (scOk N_is_small_fraction ps_is_small_fraction (defScope st_is_small_fraction) && chkS b_is_small_fraction { N := N_is_small_fraction, sc := defScope st_is_small_fraction, fw := fun _ => true, gd := false } (defBody st_is_small_fraction)) = true := by decide +kernel
theorem ck_is_letter : (scOk N_is_letter ps_is_letter (defScope st_is_letter) && chkS b_is_letter { N := N_is_letter, sc := defScope st_is_letter, fw := fun _ => true, gd := false } (defBody st_is_letter)) = true := by decide +kernel
theorem ck_is_move : (scOk N_is_move ps_is_move (defScope st_is_move) && chkS b_is_move { N := N_is_move, sc := defScope st_is_move, fw := fun _ => true, gd := false } (defBody st_is_move)) = true := by decide +kernel
theorem ck_are_moves : (scOk N_are_moves ps_are_moves (defScope st_are_moves) && chkS b_are_moves { N := N_are_moves, sc := defScope st_are_moves, fw := fun _ => true, gd := false } (defBody st_are_moves)) = true := by decide +kernel
theorem ck_lowest_moves : (scOk N_lowest_moves ps_lowest_moves (defScope st_lowest_moves) && chkS b_lowest_moves { N := N_lowest_moves, sc := defScope st_lowest_moves, fw := fun _ => true, gd := false } (defBody st_lowest_moves)) = true := by decide +kernel
theorem ck_leading_to : (scOk N_leading_to ps_leading_to (defScope st_leading_to) && chkS b_leading_to { N := N_leading_to, sc := defScope st_leading_to, fw := fun _ => true, gd := false } (defBody st_leading_to)) = true := by decide +kernel
theorem ck_least_solution : (scOk N_least_solution ps_least_solution (defScope st_least_solution) && chkS b_least_solution { N := N_least_solution, sc := defScope st_least_solution, fw := fun _ => true, gd := false } (defBody st_least_solution)) = true := by decide +kernel
theorem ck_is_choice : (scOk N_is_choice ps_is_choice (defScope st_is_choice) && chkS b_is_choice { N := N_is_choice, sc := defScope st_is_choice, fw := fun _ => true, gd := false } (defBody st_is_choice)) = true := by decide +kernel
theorem ck_is_chooser : (scOk N_is_chooser ps_is_chooser (defScope st_is_chooser) && chkS b_is_chooser { N := N_is_chooser, sc := defScope st_is_chooser, fw := fun _ => true, gd := false } (defBody st_is_chooser)) = true := by decide +kernel
theorem ck_plain_chooser : (scOk N_plain_chooser ps_plain_chooser (defScope st_plain_chooser) && chkS b_plain_chooser { N := N_plain_chooser, sc := defScope st_plain_chooser, fw := fun _ => true, gd := false } (defBody st_plain_chooser)) = true := by decide +kernel
theorem ck_all_deeds : (scOk N_all_deeds ps_all_deeds (defScope st_all_deeds) && chkS b_all_deeds { N := N_all_deeds, sc := defScope st_all_deeds, fw := fun _ => true, gd := false } (defBody st_all_deeds)) = true := by decide +kernel
theorem ck_is_better : (scOk N_is_better ps_is_better (defScope st_is_better) && chkS b_is_better { N := N_is_better, sc := defScope st_is_better, fw := fun _ => true, gd := false } (defBody st_is_better)) = true := by decide +kernel
theorem ck_coming_by : (scOk N_coming_by ps_coming_by (defScope st_coming_by) && chkS b_coming_by { N := N_coming_by, sc := defScope st_coming_by, fw := fun _ => true, gd := false } (defBody st_coming_by)) = true := by decide +kernel
theorem ck_best_coming : (scOk N_best_coming ps_best_coming (defScope st_best_coming) && chkS b_best_coming { N := N_best_coming, sc := defScope st_best_coming, fw := fun _ => true, gd := false } (defBody st_best_coming)) = true := by decide +kernel
theorem ck_greatest_values : (scOk N_greatest_values ps_greatest_values (defScope st_greatest_values) && chkS b_greatest_values { N := N_greatest_values, sc := defScope st_greatest_values, fw := fun _ => true, gd := false } (defBody st_greatest_values)) = true := by decide +kernel
theorem ck_is_ascending_lot : (scOk N_is_ascending_lot ps_is_ascending_lot (defScope st_is_ascending_lot) && chkS b_is_ascending_lot { N := N_is_ascending_lot, sc := defScope st_is_ascending_lot, fw := fun _ => true, gd := false } (defBody st_is_ascending_lot)) = true := by decide +kernel
theorem ck_need_chooser : (scOk N_need_chooser ps_need_chooser (defScope st_need_chooser) && chkS b_need_chooser { N := N_need_chooser, sc := defScope st_need_chooser, fw := fun _ => true, gd := false } (defBody st_need_chooser)) = true := by decide +kernel
theorem ck_need_lot : (scOk N_need_lot ps_need_lot (defScope st_need_lot) && chkS b_need_lot { N := N_need_lot, sc := defScope st_need_lot, fw := fun _ => true, gd := false } (defBody st_need_lot)) = true := by decide +kernel
theorem ck_greatest_come : (scOk N_greatest_come ps_greatest_come (defScope st_greatest_come) && chkS b_greatest_come { N := N_greatest_come, sc := defScope st_greatest_come, fw := fun _ => true, gd := false } (defBody st_greatest_come)) = true := by decide +kernel
theorem ck_least_come : (scOk N_least_come ps_least_come (defScope st_least_come) && chkS b_least_come { N := N_least_come, sc := defScope st_least_come, fw := fun _ => true, gd := false } (defBody st_least_come)) = true := by decide +kernel
theorem ck_come_paper : (scOk N_come_paper ps_come_paper (defScope st_come_paper) && chkS b_come_paper { N := N_come_paper, sc := defScope st_come_paper, fw := fun _ => true, gd := false } (defBody st_come_paper)) = true := by decide +kernel
theorem ck_law_well : (scOk N_law_well ps_law_well (defScope st_law_well) && chkS b_law_well { N := N_law_well, sc := defScope st_law_well, fw := fun _ => true, gd := false } (defBody st_law_well)) = true := by decide +kernel
theorem ck_law_dip : (scOk N_law_dip ps_law_dip (defScope st_law_dip) && chkS b_law_dip { N := N_law_dip, sc := defScope st_law_dip, fw := fun _ => true, gd := false } (defBody st_law_dip)) = true := by decide +kernel
theorem ck_law_one : (scOk N_law_one ps_law_one (defScope st_law_one) && chkS b_law_one { N := N_law_one, sc := defScope st_law_one, fw := fun _ => true, gd := false } (defBody st_law_one)) = true := by decide +kernel
theorem ck_law_mixed : (scOk N_law_mixed ps_law_mixed (defScope st_law_mixed) && chkS b_law_mixed { N := N_law_mixed, sc := defScope st_law_mixed, fw := fun _ => true, gd := false } (defBody st_law_mixed)) = true := by decide +kernel
theorem ck_law_low : (scOk N_law_low ps_law_low (defScope st_law_low) && chkS b_law_low { N := N_law_low, sc := defScope st_law_low, fw := fun _ => true, gd := false } (defBody st_law_low)) = true := by decide +kernel
theorem ck_law_plus : (scOk N_law_plus ps_law_plus (defScope st_law_plus) && chkS b_law_plus { N := N_law_plus, sc := defScope st_law_plus, fw := fun _ => true, gd := false } (defBody st_law_plus)) = true := by decide +kernel
theorem ck_law_times : (scOk N_law_times ps_law_times (defScope st_law_times) && chkS b_law_times { N := N_law_times, sc := defScope st_law_times, fw := fun _ => true, gd := false } (defBody st_law_times)) = true := by decide +kernel
theorem ck_law_sum : (scOk N_law_sum ps_law_sum (defScope st_law_sum) && chkS b_law_sum { N := N_law_sum, sc := defScope st_law_sum, fw := fun _ => true, gd := false } (defBody st_law_sum)) = true := by decide +kernel
theorem ck_law_below : (scOk N_law_below ps_law_below (defScope st_law_below) && chkS b_law_below { N := N_law_below, sc := defScope st_law_below, fw := fun _ => true, gd := false } (defBody st_law_below)) = true := by decide +kernel
theorem ck_law_same : (scOk N_law_same ps_law_same (defScope st_law_same) && chkS b_law_same { N := N_law_same, sc := defScope st_law_same, fw := fun _ => true, gd := false } (defBody st_law_same)) = true := by decide +kernel
theorem ck_law_moves : (scOk N_law_moves ps_law_moves (defScope st_law_moves) && chkS b_law_moves { N := N_law_moves, sc := defScope st_law_moves, fw := fun _ => true, gd := false } (defBody st_law_moves)) = true := by decide +kernel
theorem ck_law_doubled : (scOk N_law_doubled ps_law_doubled (defScope st_law_doubled) && chkS b_law_doubled { N := N_law_doubled, sc := defScope st_law_doubled, fw := fun _ => true, gd := false } (defBody st_law_doubled)) = true := by decide +kernel
theorem ck_law_chooser : (scOk N_law_chooser ps_law_chooser (defScope st_law_chooser) && chkS b_law_chooser { N := N_law_chooser, sc := defScope st_law_chooser, fw := fun _ => true, gd := false } (defBody st_law_chooser)) = true := by decide +kernel
theorem ck_law_lot : (scOk N_law_lot ps_law_lot (defScope st_law_lot) && chkS b_law_lot { N := N_law_lot, sc := defScope st_law_lot, fw := fun _ => true, gd := false } (defBody st_law_lot)) = true := by decide +kernel
theorem ck_law_tuples : (scOk N_law_tuples ps_law_tuples (defScope st_law_tuples) && chkS b_law_tuples { N := N_law_tuples, sc := defScope st_law_tuples, fw := fun _ => true, gd := false } (defBody st_law_tuples)) = true := by decide +kernel
theorem ck_law_least : (scOk N_law_least ps_law_least (defScope st_law_least) && chkS b_law_least { N := N_law_least, sc := defScope st_law_least, fw := fun _ => true, gd := false } (defBody st_law_least)) = true := by decide +kernel
theorem ck_law_comes : (scOk N_law_comes ps_law_comes (defScope st_law_comes) && chkS b_law_comes { N := N_law_comes, sc := defScope st_law_comes, fw := fun _ => true, gd := false } (defBody st_law_comes)) = true := by decide +kernel
theorem ck_law_dues : (scOk N_law_dues ps_law_dues (defScope st_law_dues) && chkS b_law_dues { N := N_law_dues, sc := defScope st_law_dues, fw := fun _ => true, gd := false } (defBody st_law_dues)) = true := by decide +kernel
theorem ck_law_told : (scOk N_law_told ps_law_told (defScope st_law_told) && chkS b_law_told { N := N_law_told, sc := defScope st_law_told, fw := fun _ => true, gd := false } (defBody st_law_told)) = true := by decide +kernel
theorem ck_law : (scOk N_law ps_law (defScope st_law) && chkS b_law { N := N_law, sc := defScope st_law, fw := fun _ => true, gd := true } (defBody st_law)) = true := by decide +kernel
end K82
end

section
set_option Elab.async false
set_option linter.all false
set_option maxRecDepth 100000
set_option maxHeartbeats 4000000
/-! K82c: fractions. -/
namespace K82
open PySem PL
def Small (n : Nat) (i : Int) : Prop := i.natAbs < 2 ^ n
theorem Small.mono {n m : Nat} {i : Int} (h : Small n i) (hm : n ≤ m) : Small m i := Nat.lt_of_lt_of_le h (Nat.pow_le_pow_right (by decide) hm)
theorem Small.log2 {n : Nat} {i : Int} (h : Small n i) (hn : 0 < n) : i.natAbs.log2 < n := by
  by_cases h0 : i.natAbs = 0
  · rw [h0]; simpa using hn
  · exact (Nat.log2_lt h0).mpr h
theorem Small.mul {n m : Nat} {i j : Int} (h : Small n i) (h' : Small m j) : Small (n + m) (i * j) := by
  unfold Small at *
  rw [Int.natAbs_mul, Nat.pow_add]
  exact Nat.mul_lt_mul'' h h'
theorem Small.le {n : Nat} {i j : Int} (h : Small n j) (h' : i.natAbs ≤ j.natAbs) : Small n i := Nat.lt_of_le_of_lt h' h
theorem mulOk {n : Nat} {i j : Int} (h : Small n i) (h' : Small n j) (hn : 0 < n) (hn' : n ≤ 50000000) : PL.MulOk i j := by
  have := h.log2 hn
  have := h'.log2 hn
  unfold PL.MulOk
  omega
theorem divOk {i j : Int} (h : Small 9000 j) (h0 : j ≠ 0) : PL.DivOk i j := ⟨h0, PyProof.noPylong_of_log2 (h.log2 (by decide))⟩
/-! ### greatest_divisor -/
def eGd : Ent := fnE (fun p : Int × Int => [.int p.1, .int p.2]) (fun p => Small 9000 p.1 ∧ Small 9000 p.2) (fun p => .int (Int.gcd p.1 p.2))
theorem abs_if (a : Int) : (if a < 0 then -a else a) = (a.natAbs : Int) := by split <;> omega
theorem small_abs {n : Nat} {a : Int} (h : Small n a) : Small n (a.natAbs : Int) := by unfold Small at *; rw [Int.natAbs_natCast]; exact h
theorem fdiv_mod (x y : Nat) (hy : 0 < y) : (x : Int) - (Int.fdiv x y) * y = ((x % y : Nat) : Int) := by
  rw [Int.fdiv_eq_ediv_of_nonneg _ (by omega)]
  have := Int.emod_add_mul_ediv (x : Int) y
  have e : ((x : Int) / y) * y = y * (x / y) := Int.mul_comm _ _
  rw [e, Int.natCast_emod]
  omega
theorem small_fdiv {n : Nat} {x : Nat} {y : Nat} (h : Small n (x : Int)) : Small n (Int.fdiv x y) := by
  rw [Int.fdiv_eq_ediv_of_nonneg _ (by omega)]
  refine h.le ?_
  rw [← Int.natCast_ediv, Int.natAbs_natCast, Int.natAbs_natCast]
  exact Nat.div_le_self _ _
theorem gd_does (tb : Tab) : Does tb b_greatest_divisor N_greatest_divisor.length false eGd.R := by
  rintro ds L ⟨⟨a, b⟩, rfl, ⟨ha, hb⟩, hL⟩
  simp_arith [b_greatest_divisor, N_greatest_divisor]
  rw [abs_if, abs_if]
  refine whl_ok (fun m e => ∃ (x y : Nat) (s : Sl), e = [.sh (.int a), .sh (.int b), .sh (.int x), .sh (.int y), s] ∧ (s = .un ∨ ∃ z, s = .sh (.int z)) ∧ Nat.gcd x y = Int.gcd a b ∧ m = y ∧ Small 9000 x ∧ Small 9000 y) (fun m e hW => ?_) ⟨a.natAbs, b.natAbs, .un, rfl, .inl rfl, rfl, rfl, small_abs ha, small_abs hb⟩
  obtain ⟨x, y, s, rfl, hs, hg, hm, hx, hy⟩ := hW
  simp_arith
  by_cases hy0 : (0 : Int) < y
  · rw [if_pos hy0]
    have hy0' : 0 < y := by omega
    have next : ∀ s', ∃ m', m' < m ∧ ∃ (x1 y1 : Nat) (s1 : Sl), [Sl.sh (.int a), .sh (.int b), .sh (.int y), .sh (.int ((x % y : Nat) : Int)), .sh (.int s')] = [.sh (.int a), .sh (.int b), .sh (.int x1), .sh (.int y1), s1] ∧ (s1 = .un ∨ ∃ z, s1 = .sh (.int z)) ∧ Nat.gcd x1 y1 = Int.gcd a b ∧ m' = y1 ∧ Small 9000 x1 ∧ Small 9000 y1 := fun s' => by
      refine ⟨x % y, by rw [hm]; exact Nat.mod_lt _ hy0', y, x % y, .sh (.int s'), rfl, .inr ⟨s', rfl⟩, ?_, rfl, hy, ?_⟩
      · rw [← hg, Nat.gcd_comm x y, Nat.gcd_rec y x, Nat.gcd_comm]
      · exact hy.le (by rw [Int.natAbs_natCast, Int.natAbs_natCast]; exact Nat.le_of_lt (Nat.mod_lt _ hy0'))
    refine ⟨divOk hy (by omega), mulOk (n := 9000) (small_fdiv hx) hy (by decide) (by decide), ?_⟩
    rw [fdiv_mod x y hy0']
    rcases hs with rfl | ⟨z, rfl⟩
    · simp_arith
      exact next _
    · simp_arith
      exact next _
  · rw [if_neg hy0]
    have : y = 0 := by omega
    subst this
    rw [Nat.gcd_zero_right] at hg
    rw [hg]
    exact hL
/-! ### pairs of ints -/
abbrev pr (a : Int) (b : Nat) : PyData := .tuple [.int a, .int b]
abbrev fr (q : Rat) : PyData := pr q.num q.den
def eLcm : Ent := fnE (fun p : Nat × Nat => [.int p.1, .int p.2]) (fun p => (0 < p.1 ∧ 0 < p.2) ∧ Small 4500 p.1 ∧ Small 4500 p.2) (fun p => .int (Nat.lcm p.1 p.2))
theorem gcd_cast (a b : Nat) : Int.gcd (a : Int) (b : Int) = Nat.gcd a b := rfl
theorem fdiv_cast (a b : Nat) : Int.fdiv (a : Int) (b : Int) = ((a / b : Nat) : Int) := by
  rw [Int.fdiv_eq_ediv_of_nonneg _ (by omega)]; rfl
theorem small_gcd {n : Nat} {a : Int} {b : Nat} (h : Small n (b : Int)) (hb : 0 < b) : Small n (Int.gcd a b : Int) := by
  refine h.le ?_
  rw [Int.natAbs_natCast, Int.natAbs_natCast]
  exact Nat.le_of_dvd hb (Nat.gcd_dvd_right _ _)
theorem gcd_pos {a : Int} {b : Nat} (hb : 0 < b) : 0 < Int.gcd a b := Nat.gcd_pos_of_pos_right _ hb
theorem lcm_does {tb : Tab} (h : tb.fn "greatest_divisor" = some eGd) : Does tb b_least_multiple N_least_multiple.length false eLcm.R := by
  rintro ds L ⟨⟨a, b⟩, rfl, ⟨⟨ha0, hb0⟩, ha, hb⟩, hL⟩
  dsimp only at ha0 hb0 ha hb hL
  simp_arith [b_least_multiple, N_least_multiple, call0_of h rfl, eGd]
  refine ⟨⟨a, b⟩, rfl, ⟨ha.mono (by decide), hb.mono (by decide)⟩, ?_⟩
  simp_arith
  have g0 : 0 < Nat.gcd a b := Nat.gcd_pos_of_pos_right _ hb0
  rw [gcd_cast, fdiv_cast]
  have sd : Small 4500 ((a / Nat.gcd a b : Nat) : Int) := ha.le (by rw [Int.natAbs_natCast, Int.natAbs_natCast]; exact Nat.div_le_self _ _)
  refine ⟨divOk ((small_gcd (a := a) hb hb0).mono (by decide)) (by omega), mulOk sd hb (by decide) (by decide), ?_⟩
  have e : ((a / Nat.gcd a b : Nat) : Int) * b = (Nat.lcm a b : Nat) := by
    rw [← Int.natCast_mul]
    congr 1
    rw [Nat.lcm, Nat.div_mul_right_comm (Nat.gcd_dvd_left a b)]
  rw [e]
  exact hL
def eLow : Ent := fnE (fun p : Int × Nat => [.int p.1, .int p.2]) (fun p => 0 < p.2 ∧ Small 9000 p.1 ∧ Small 9000 p.2) (fun p => fr (mkRat p.1 p.2))
theorem fr_mk (a : Int) (b : Nat) (hb : 0 < b) : fr (mkRat a b) = .tuple [.int (a / (Int.gcd a b : Int)), .int ((b / Int.gcd a b : Nat) : Int)] := by
  show PyData.tuple [.int (mkRat a b).num, .int (mkRat a b).den] = _
  rw [Rat.num_mkRat, Rat.den_mkRat, if_neg (by omega), if_neg (by omega)]
  have e : b.gcd a.natAbs = Int.gcd a b := by rw [Nat.gcd_comm]; rfl
  rw [e]
theorem low_does {tb : Tab} (h : tb.fn "greatest_divisor" = some eGd) : Does tb b_lowest N_lowest.length false eLow.R := by
  rintro ds L ⟨⟨a, b⟩, rfl, ⟨hb0, ha, hb⟩, hL⟩
  dsimp only at hb0 ha hb hL
  simp_arith [b_lowest, N_lowest, call0_of h rfl, eGd]
  refine ⟨⟨a, b⟩, rfl, ⟨ha, hb⟩, ?_⟩
  simp_arith
  rw [if_neg (by omega)]
  have g0 := gcd_pos (a := a) hb0
  have dg := divOk (i := a) (small_gcd (a := a) hb hb0) (by omega)
  refine ⟨dg, divOk (small_gcd (a := a) hb hb0) (by omega), ?_⟩
  rw [fr_mk a b hb0] at hL
  rw [fdiv_cast, Int.fdiv_eq_ediv_of_nonneg _ (by omega)]
  exact hL
/-! ### times, comparing -/
abbrev PP := (Int × Nat) × (Int × Nat)
def eTimes : Ent := fnE (fun p : PP => [pr p.1.1 p.1.2, pr p.2.1 p.2.2]) (fun p => (0 < p.1.2 ∧ 0 < p.2.2) ∧ (Small 4500 p.1.1 ∧ Small 4500 p.1.2) ∧ Small 4500 p.2.1 ∧ Small 4500 p.2.2) (fun p => fr (mkRat p.1.1 p.1.2 * mkRat p.2.1 p.2.2))
def eLess : Ent := fnE (fun p : PP => [pr p.1.1 p.1.2, pr p.2.1 p.2.2]) (fun p => (0 < p.1.2 ∧ 0 < p.2.2) ∧ (Small 9000 p.1.1 ∧ Small 9000 p.1.2) ∧ Small 9000 p.2.1 ∧ Small 9000 p.2.2) (fun p => .bool (decide (mkRat p.1.1 p.1.2 < mkRat p.2.1 p.2.2)))
def eAtMost : Ent := fnE (fun p : PP => [pr p.1.1 p.1.2, pr p.2.1 p.2.2]) (fun p => (0 < p.1.2 ∧ 0 < p.2.2) ∧ (Small 9000 p.1.1 ∧ Small 9000 p.1.2) ∧ Small 9000 p.2.1 ∧ Small 9000 p.2.2) (fun p => .bool (decide (mkRat p.1.1 p.1.2 ≤ mkRat p.2.1 p.2.2)))
theorem mk_lt {a c : Int} {b d : Nat} (hb : 0 < b) (hd : 0 < d) : mkRat a b < mkRat c d ↔ a * d < c * b := by
  have pb : (0 : Rat) < b := Rat.natCast_pos.mpr hb
  have pd : (0 : Rat) < d := Rat.natCast_pos.mpr hd
  rw [Rat.mkRat_eq_div, Rat.mkRat_eq_div, Rat.div_lt_iff pb]
  have e : (c : Rat) / d * b = (c * b) / d := by
    rw [Rat.div_def, Rat.div_def, Rat.mul_assoc, Rat.mul_assoc, Rat.mul_comm _ (b : Rat)]
  rw [e, Rat.lt_div_iff pd]
  rw [show (a : Rat) * d = ((a * d : Int) : Rat) by push_cast; rfl, show (c : Rat) * b = ((c * b : Int) : Rat) by push_cast; rfl]
  exact Rat.intCast_lt_intCast
theorem mk_le {a c : Int} {b d : Nat} (hb : 0 < b) (hd : 0 < d) : mkRat a b ≤ mkRat c d ↔ a * d ≤ c * b := by
  rw [← Rat.not_lt, mk_lt hd hb, Int.not_lt]
theorem less_does {tb : Tab} : Does tb b_is_less N_is_less.length false eLess.R := by
  rintro ds L ⟨⟨⟨a, b⟩, c, d⟩, rfl, ⟨⟨hb0, hd0⟩, ⟨ha, hb⟩, hc, hd⟩, hL⟩
  dsimp only at hb0 hd0 ha hb hc hd hL
  simp_arith [b_is_less, N_is_less]
  refine ⟨mulOk ha hd (by decide) (by decide), mulOk hc hb (by decide) (by decide), ?_⟩
  rw [decide_eq_decide.mpr (mk_lt hb0 hd0)] at hL
  exact hL
theorem atMost_does {tb : Tab} : Does tb b_is_at_most N_is_at_most.length false eAtMost.R := by
  rintro ds L ⟨⟨⟨a, b⟩, c, d⟩, rfl, ⟨⟨hb0, hd0⟩, ⟨ha, hb⟩, hc, hd⟩, hL⟩
  dsimp only at hb0 hd0 ha hb hc hd hL
  simp_arith [b_is_at_most, N_is_at_most]
  refine ⟨mulOk ha hd (by decide) (by decide), mulOk hc hb (by decide) (by decide), ?_⟩
  rw [decide_eq_decide.mpr (mk_le hb0 hd0)] at hL
  exact hL
/-! ### sums -/
abbrev Pa := Int × Nat
def prs (ps : List Pa) : List PyData := ps.map fun p => pr p.1 p.2
def lcmA (ps : List Pa) : Nat := ps.foldl (fun m p => Nat.lcm m p.2) 1
def eCb : Ent := fnE (fun p : List Pa × Nat => [.list (prs p.1)]) (fun p => 0 < p.2 ∧ Small 4500 p.2 ∧ ∀ q ∈ p.1, 0 < q.2 ∧ q.2 ∣ p.2) (fun p => .int (lcmA p.1))
theorem lcm_inv {ps : List Pa} {M : Nat} (hM : 0 < M) (h : ∀ q ∈ ps, 0 < q.2 ∧ q.2 ∣ M) : ∀ i, 0 < lcmA (ps.take i) ∧ lcmA (ps.take i) ∣ M := fun i => by
  have key : ∀ (l : List Pa) (m : Nat), (∀ q ∈ l, 0 < q.2 ∧ q.2 ∣ M) → 0 < m → m ∣ M → 0 < l.foldl (fun m p => Nat.lcm m p.2) m ∧ l.foldl (fun m p => Nat.lcm m p.2) m ∣ M := by
    intro l
    induction l with
    | nil => exact fun m _ h1 h2 => ⟨h1, h2⟩
    | cons q l ih =>
      intro m hl h1 h2
      have hq := hl q (List.mem_cons_self ..)
      exact ih _ (fun z hz => hl z (List.mem_cons_of_mem _ hz)) (Nat.lcm_pos h1 hq.1) (Nat.lcm_dvd h2 hq.2)
  exact key _ 1 (fun q hq => h q (List.mem_of_mem_take hq)) (by decide) (Nat.one_dvd _)
theorem lcmA_succ {ps : List Pa} {i : Nat} (hi : i < ps.length) : lcmA (ps.take (i + 1)) = Nat.lcm (lcmA (ps.take i)) ps[i].2 := by
  unfold lcmA
  rw [List.take_succ_eq_append_getElem hi, List.foldl_append]; rfl
theorem small_dvd {n a M : Nat} (h : Small n M) (hM : 0 < M) (hd : a ∣ M) : Small n a := h.le (by rw [Int.natAbs_natCast, Int.natAbs_natCast]; exact Nat.le_of_dvd hM hd)
theorem cb_does {tb : Tab} (h : tb.fn "least_multiple" = some eLcm) : Does tb b_common_below N_common_below.length false eCb.R := by
  rintro ds L ⟨⟨ps, M⟩, rfl, ⟨hM, sM, hp⟩, hL⟩
  dsimp only at hM sM hp hL
  simp_arith [b_common_below, N_common_below]
  refine for_ok (fun i e => ∃ s, e = [.sh (.list (prs ps)), .sh (.int (lcmA (ps.take i))), s] ∧ (s = .un ∨ ∃ z, s = .sh z)) ⟨.un, rfl, .inl rfl⟩ (fun i x e hx hI => ?_) fun e hI => ?_
  · obtain ⟨s, rfl, hs⟩ := hI
    unfold prs at hx
    rw [List.getElem?_map] at hx
    obtain ⟨p, hp1, rfl⟩ := Option.map_eq_some_iff.mp hx
    obtain ⟨hi, rfl⟩ := List.getElem?_eq_some_iff.mp hp1
    obtain ⟨q1, q2⟩ := hp _ (List.getElem_mem hi)
    obtain ⟨l1, l2⟩ := lcm_inv hM hp i
    have fin : ∀ e, e = [Sl.sh (.list (prs ps)), .sh (.int (lcmA (ps.take (i + 1)))), .sh (pr ps[i].1 ps[i].2)] → ∃ s, e = [.sh (.list (prs ps)), .sh (.int (lcmA (ps.take (i + 1)))), s] ∧ (s = .un ∨ ∃ z, s = .sh z) := fun e he => ⟨_, he, .inr ⟨_, rfl⟩⟩
    have body : if (!decide (((ps[i].2 : Nat) : Int) = 1)) = true then eLcm.R [.int (lcmA (ps.take i)), .int ps[i].2] fun r _ => ∃ s, [Sl.sh (.list (prs ps)), .sh r.d, .sh (pr ps[i].1 ps[i].2)] = [.sh (.list (prs ps)), .sh (.int (lcmA (ps.take (i + 1)))), s] ∧ (s = .un ∨ ∃ z, s = .sh z)
        else ∃ s, [Sl.sh (.list (prs ps)), .sh (.int (lcmA (ps.take i))), .sh (pr ps[i].1 ps[i].2)] = [.sh (.list (prs ps)), .sh (.int (lcmA (ps.take (i + 1)))), s] ∧ (s = .un ∨ ∃ z, s = .sh z) := by
      split
      · refine ⟨⟨lcmA (ps.take i), ps[i].2⟩, rfl, ⟨⟨l1, q1⟩, small_dvd sM hM l2, small_dvd sM hM q2⟩, fin _ ?_⟩
        rw [lcmA_succ hi]
        rfl
      · rename_i hc
        refine fin _ ?_
        have : ((ps[i].2 : Nat) : Int) = 1 := by simpa using hc
        have : ps[i].2 = 1 := by omega
        rw [lcmA_succ hi, this, Nat.lcm_one_right]
    rcases hs with rfl | ⟨z, rfl⟩
    · simp_arith [call0_of h rfl]
      exact body
    · simp_arith [call0_of h rfl]
      exact body
  · obtain ⟨s, rfl, hs⟩ := hI
    have : (prs ps).length = ps.length := by simp [prs]
    rw [this, List.take_length]
    simp_arith
    exact hL
def eNum : Ent := fnE (fun p : List Pa × Nat => [.list (prs p.1)]) (fun p => 0 < p.2 ∧ Small 4500 p.2 ∧ p.1.length ≤ LIM ∧ ∀ q ∈ p.1, (0 < q.2 ∧ q.2 ∣ p.2) ∧ Small 4500 q.1) (fun p => .list (p.1.map fun q => .int (q.1 * ((lcmA p.1 / q.2 : Nat) : Int))))
theorem num_does {tb : Tab} (h : tb.fn "common_below" = some eCb) : Does tb b_numbers_of N_numbers_of.length false eNum.R := by
  rintro ds L ⟨⟨ps, M⟩, rfl, ⟨hM, sM, hlen, hp⟩, hL⟩
  dsimp only at hM sM hlen hp hL
  have hp' : ∀ q ∈ ps, 0 < q.2 ∧ q.2 ∣ M := fun q hq => (hp q hq).1
  have lM := (lcm_inv hM hp' ps.length)
  rw [List.take_length] at lM
  simp_arith [b_numbers_of, N_numbers_of, call0_of h rfl, eCb]
  refine ⟨⟨ps, M⟩, rfl, ⟨hM, sM, hp'⟩, ?_⟩
  simp_arith
  refine ⟨by simpa [prs] using hlen, lcK_list (fun q => .int (q.1 * ((lcmA ps / q.2 : Nat) : Int))) (fun q hq => ?_) hL⟩
  obtain ⟨⟨q1, q2⟩, q3⟩ := hp q hq
  simp_arith
  have sl : Small 4500 (lcmA ps : Nat) := small_dvd sM hM lM.2
  rw [fdiv_cast]
  refine ⟨divOk ((small_dvd sM hM q2).mono (by decide)) (by omega), mulOk q3 (sl.le ?_) (by decide) (by decide), rfl⟩
  rw [Int.natAbs_natCast, Int.natAbs_natCast]
  exact Nat.div_le_self _ _
/-- the sum of such pairs, exactly -/
def qv (p : Pa) : Rat := mkRat p.1 p.2
def qsum (ps : List Pa) : Rat := (ps.map qv).sum
theorem sum_num {M : Nat} (hM : 0 < M) : ∀ {ps : List Pa}, (∀ q ∈ ps, 0 < q.2 ∧ q.2 ∣ M) → mkRat ((ps.map fun q => q.1 * ((M / q.2 : Nat) : Int)).sum) M = qsum ps
  | [], _ => by simp [qsum]
  | q :: ps, h => by
    obtain ⟨q1, q2⟩ := h q (List.mem_cons_self ..)
    have ih := sum_num hM (ps := ps) fun z hz => h z (List.mem_cons_of_mem _ hz)
    have hM' : M ≠ 0 := by omega
    rw [List.map_cons, List.sum_cons]
    have e : mkRat (q.1 * ((M / q.2 : Nat) : Int) + (ps.map fun q => q.1 * ((M / q.2 : Nat) : Int)).sum) M = mkRat (q.1 * ((M / q.2 : Nat) : Int)) M + mkRat ((ps.map fun q => q.1 * ((M / q.2 : Nat) : Int)).sum) M := by
      rw [Rat.mkRat_eq_div, Rat.mkRat_eq_div, Rat.mkRat_eq_div, Rat.div_def, Rat.div_def, Rat.div_def, ← Rat.add_mul]
      congr 1
      push_cast
      rfl
    rw [e, ih]
    show _ = (List.map qv (q :: ps)).sum
    rw [List.map_cons, List.sum_cons]
    congr 1
    obtain ⟨k, rfl⟩ := q2
    rw [Nat.mul_div_cancel_left k q1]
    have hk : k ≠ 0 := by rintro rfl; simp at hM
    unfold qv
    rw [Nat.mul_comm q.2 k, Int.mul_comm q.1 (k : Int), Rat.mkRat_mul_left hk]
theorem allInts_map {α : Type} (f : α → Int) : ∀ l : List α, allInts (l.map fun a => .int (f a)) = some (l.map f)
  | [] => rfl
  | a :: l => by
    show (allInts (l.map fun a => .int (f a))).map (f a :: ·) = _
    rw [allInts_map f l]; rfl
theorem sum_abs {B : Nat} : ∀ {l : List Int}, (∀ x ∈ l, x.natAbs ≤ B) → l.sum.natAbs ≤ l.length * B
  | [], _ => by simp
  | x :: l, h => by
    have h1 := h x (List.mem_cons_self ..)
    have h2 := sum_abs (l := l) fun y hy => h y (List.mem_cons_of_mem _ hy)
    rw [List.sum_cons, List.length_cons, Nat.add_mul, Nat.one_mul]
    have := Int.natAbs_add_le x l.sum
    omega
def eTot : Ent := fnE (fun p : List Pa × Nat => [.list (prs p.1)]) (fun p => 0 < p.2 ∧ Small 4400 p.2 ∧ p.1.length ≤ LIM ∧ ∀ q ∈ p.1, (0 < q.2 ∧ q.2 ∣ p.2) ∧ q.1.natAbs ≤ q.2) (fun p => fr (qsum p.1))
theorem tot_does {tb : Tab} (h1 : tb.fn "numbers_of" = some eNum) (h2 : tb.fn "common_below" = some eCb) (h3 : tb.fn "lowest" = some eLow) : Does tb b_total N_total.length false eTot.R := by
  rintro ds L ⟨⟨ps, M⟩, rfl, ⟨hM, sM, hlen, hp⟩, hL⟩
  dsimp only at hM sM hlen hp hL
  have hp' : ∀ q ∈ ps, 0 < q.2 ∧ q.2 ∣ M := fun q hq => (hp q hq).1
  have lM := (lcm_inv hM hp' ps.length)
  rw [List.take_length] at lM
  have sl : Small 4400 (lcmA ps : Nat) := small_dvd sM hM lM.2
  have hq : ∀ q ∈ ps, 0 < q.2 ∧ q.2 ∣ lcmA ps := fun q hq => ⟨(hp' q hq).1, by
    have : ∀ (l : List Pa) (m : Nat), (m ∣ l.foldl (fun m p => Nat.lcm m p.2) m) ∧ ∀ z ∈ l, z.2 ∣ l.foldl (fun m p => Nat.lcm m p.2) m := by
      intro l
      induction l with
      | nil => exact fun m => ⟨Nat.dvd_refl _, fun z hz => by cases hz⟩
      | cons y l ih =>
        intro m
        obtain ⟨i1, i2⟩ := ih (Nat.lcm m y.2)
        refine ⟨Nat.dvd_trans (Nat.dvd_lcm_left _ _) i1, fun z hz => ?_⟩
        rcases List.mem_cons.mp hz with rfl | hz
        · exact Nat.dvd_trans (Nat.dvd_lcm_right _ _) i1
        · exact i2 z hz
    exact (this ps 1).2 q hq⟩
  have sz : Small 9000 (ps.map fun q => q.1 * ((lcmA ps / q.2 : Nat) : Int)).sum := by
    have b := sum_abs (l := ps.map fun q => q.1 * ((lcmA ps / q.2 : Nat) : Int)) (B := lcmA ps) fun x hx => by
      obtain ⟨q, hq1, rfl⟩ := List.mem_map.mp hx
      rw [Int.natAbs_mul, Int.natAbs_natCast]
      refine Nat.le_trans (Nat.mul_le_mul_right _ (hp q hq1).2) ?_
      exact Nat.mul_div_le _ _
    have b2 : (ps.map fun q => q.1 * ((lcmA ps / q.2 : Nat) : Int)).length * lcmA ps ≤ LIM * lcmA ps := Nat.mul_le_mul_right _ (by rw [List.length_map]; exact hlen)
    have s2 : Small (25 + 4400) ((LIM : Nat) * (lcmA ps : Nat) : Int) := Small.mul (by unfold Small; rw [Int.natAbs_natCast]; decide) sl
    exact (s2.le (by rw [← Int.natCast_mul, Int.natAbs_natCast]; omega)).mono (by decide)
  simp_arith [b_total, N_total, call0_of h1 rfl, call0_of h2 rfl, call0_of h3 rfl]
  refine ⟨⟨ps, M⟩, rfl, ⟨hM, sM.mono (by decide), hlen, fun q hq1 => ⟨hp' q hq1, (sM.mono (by decide)).le ?_⟩⟩, ?_⟩
  · rw [Int.natAbs_natCast]
    exact Nat.le_trans (hp q hq1).2 (Nat.le_of_dvd hM (hp' q hq1).2)
  simp_arith
  refine ⟨_, allInts_map _ _, ?_⟩
  refine ⟨⟨ps, M⟩, rfl, ⟨hM, sM.mono (by decide), hp'⟩, ?_⟩
  simp_arith
  refine ⟨⟨_, lcmA ps⟩, rfl, ⟨lM.1, sz, sl.mono (by decide)⟩, ?_⟩
  rw [← sum_num lM.1 hq] at hL
  simp_arith
  exact hL
end K82
end

section
set_option Elab.async false
set_option linter.all false
set_option maxRecDepth 100000
set_option maxHeartbeats 4000000
/-! K82d: forms of choosers. -/
namespace K82
open PySem PL
def oi : Option Int → PyData
  | none => .none
  | some i => .int i
def geO (a : Int) : Option Int → Bool
  | none => true
  | some l => decide (l ≤ a)
def leO (a : Int) : Option Int → Bool
  | none => true
  | some l => decide (a ≤ l)
def eInt : Ent := fnEd 2 (fun p : Int × Option Int × Option Int => [.int p.1, oi p.2.1, oi p.2.2]) (fun _ => True) (fun p => .bool (geO p.1 p.2.1 && leO p.1 p.2.2))
theorem int_does {tb : Tab} : Does tb b_is_integer N_is_integer.length false eInt.R := by
  rintro ds L ⟨⟨a, lo, hi⟩, rfl, _, hL⟩
  cases lo <;> cases hi <;> (
    dsimp only [geO, leO, oi] at hL ⊢
    simp_arith [b_is_integer, N_is_integer]
    first | (simpa using hL) | (split <;> simp_all))
def eFrac : Ent := fnE (fun p : Pa => [pr p.1 p.2]) (fun p => 0 < p.2) (fun _ => .bool true)
theorem frac_does {tb : Tab} (h : tb.fn "is_integer" = some eInt) : Does tb b_is_fraction N_is_fraction.length false eFrac.R := by
  rintro ds L ⟨⟨a, b⟩, rfl, hb, hL⟩
  dsimp only at hb hL
  simp_arith [b_is_fraction, N_is_fraction, call_of (nd := 2) h rfl (by decide), call_of (nd := 1) h rfl (by decide), eInt]
  refine ⟨⟨a, none, none⟩, rfl, ?_⟩
  simp_arith
  refine ⟨⟨b, some 1, none⟩, rfl, ?_⟩
  have : decide ((1 : Int) ≤ b) = true := by simp; omega
  simpa [geO, leO, this] using hL
/-- the module's constants -/
structure Gl (tb : Tab) : Prop where
  zero : tb.gl "ZERO" = some (pr 0 1)
  one : tb.gl "ONE" = some (pr 1 1)
  letters : tb.gl "LETTERS" = some (.tuple [.str "a", .str "b", .str "c"])
  states : tb.gl "MOST_SPEAKER_STATES" = some (.int 6)
  moves : tb.gl "MOST_MOVES" = some (.int 12)
  below : tb.gl "MOST_BELOW" = some (.int 1000000)
  choices : tb.gl "MOST_CHOICES" = some (.int 3)
/-- a part: a fraction between 0 and 1, the number below at most 10 ** 6 -/
def OkPa (p : Pa) : Prop := 0 < p.2 ∧ p.2 ≤ 1000000 ∧ 0 ≤ p.1 ∧ p.1 ≤ p.2
theorem OkPa.small {p : Pa} (h : OkPa p) : Small 20 p.1 ∧ Small 20 p.2 := by
  obtain ⟨h1, h2, h3, h4⟩ := h
  have e : (2 : Nat) ^ 20 = 1048576 := by decide
  constructor
  · unfold Small; rw [e]; omega
  · unfold Small; rw [e, Int.natAbs_natCast]; omega
theorem OkPa.le1 {p : Pa} (h : OkPa p) : qv p ≤ 1 := by
  have : (1 : Rat) = mkRat 1 1 := rfl
  unfold qv
  rw [this, mk_le h.1 (by decide)]
  have := h.2.2.2
  omega
theorem OkPa.nonneg {p : Pa} (h : OkPa p) : 0 ≤ qv p := by
  have : (0 : Rat) = mkRat 0 1 := rfl
  unfold qv
  rw [this, mk_le (by decide) h.1]
  have := h.2.2.1
  omega
theorem small1 : Small 9000 (1 : Int) := by
  unfold Small
  exact Nat.one_lt_two_pow (by decide)
def eSmF : Ent := fnE (fun p : Pa => [pr p.1 p.2]) OkPa (fun _ => .bool true)
theorem smF_does {tb : Tab} (g : Gl tb) (h : tb.fn "is_fraction" = some eFrac) (h2 : tb.fn "is_at_most" = some eAtMost) : Does tb b_is_small_fraction N_is_small_fraction.length false eSmF.R := by
  rintro ds L ⟨⟨a, b⟩, rfl, hp, hL⟩
  dsimp only at hp hL
  obtain ⟨h3, h4, h5, h6⟩ := id hp
  obtain ⟨s1, s2⟩ := hp.small
  dsimp only at h3 h4 h5 h6 s1 s2
  simp_arith [b_is_small_fraction, N_is_small_fraction, call0_of h rfl, call0_of h2 rfl, glob_of g.one, glob_of g.below, eFrac, eAtMost]
  refine ⟨⟨a, b⟩, rfl, h3, ?_⟩
  rw [if_pos h5, if_pos (by omega)]
  refine ⟨⟨⟨a, b⟩, 1, 1⟩, rfl, ⟨⟨h3, Nat.one_pos⟩, ⟨s1.mono (by decide), s2.mono (by decide)⟩, small1, small1⟩, ?_⟩
  have : decide (mkRat a b ≤ mkRat 1 1) = true := by
    rw [decide_eq_true_eq]; exact hp.le1
  rw [this]
  exact hL
/-! ### letters -/
def ltr (c : Nat) : Str := ⟨#[97 + c]⟩
def eLet : Ent := fnE (fun c : Nat => [.str (ltr c)]) (fun c => c < 3) (fun _ => .bool true)
theorem let_does {tb : Tab} (g : Gl tb) : Does tb b_is_letter N_is_letter.length false eLet.R := by
  rintro ds L ⟨c, rfl, hc, hL⟩
  simp_arith [b_is_letter, N_is_letter, glob_of g.letters]
  have hT : SeqAt.shaped (.tuple [.str "a", .str "b", .str "c"]) = true := by decide +kernel
  have e : SeqAt.shaped (.str (ltr c)) = true ∧ ([.str "a", .str "b", .str "c"].any fun z => PyData.eqv z (.str (ltr c))) = true := by
    match c, hc with
    | 0, _ => exact ⟨by decide +kernel, by decide +kernel⟩
    | 1, _ => exact ⟨by decide +kernel, by decide +kernel⟩
    | 2, _ => exact ⟨by decide +kernel, by decide +kernel⟩
  refine ⟨e.1, hT, ?_⟩
  have e2 := e.2
  simp only [List.any_cons, List.any_nil, Bool.or_false] at e2
  rw [e2]
  exact hL
/-! ### moves, deeds, choosers -/
structure Mv where
  c : Nat
  s : Nat
  p : Pa
def Mv.D (m : Mv) : PyData := .tuple [.str (ltr m.c), .int m.s, pr m.p.1 m.p.2]
abbrev Deed := List Mv
def deedD (d : Deed) : PyData := .tuple (d.map Mv.D)
def choiceD (ds : List Deed) : PyData := .tuple (ds.map deedD)
abbrev Chooser := List (List Deed)
def chooserD (C : Chooser) : PyData := .tuple (C.map choiceD)
def OkMv (n : Nat) (m : Mv) : Prop := m.c < 3 ∧ m.s < n ∧ OkPa m.p ∧ 0 < m.p.1
def keyLt (a b : Mv) : Prop := a.c < b.c ∨ a.c = b.c ∧ a.s < b.s
/-- a deed: W a common number below -/
structure OkDeed (n W : Nat) (d : Deed) : Prop where
  len : d.length ≤ 12
  mv : ∀ m ∈ d, OkMv n m
  srt : ∀ i (h : i + 1 < d.length), keyLt d[i] d[i + 1]
  W0 : 0 < W
  W1 : W ≤ 1000000
  dvd : ∀ m ∈ d, m.p.2 ∣ W
  le1 : qsum (d.map (·.p)) ≤ 1
def eMove : Ent := fnE (fun p : Nat × Mv => [.int p.1, p.2.D]) (fun p => OkMv p.1 p.2) (fun _ => .bool true)
theorem move_does {tb : Tab} (h1 : tb.fn "is_letter" = some eLet) (h2 : tb.fn "is_integer" = some eInt) (h3 : tb.fn "is_small_fraction" = some eSmF) : Does tb b_is_move N_is_move.length false eMove.R := by
  rintro ds L ⟨⟨n, c, s, a, b⟩, rfl, hm, hL⟩
  obtain ⟨hc, hs, hp, ha⟩ := hm
  dsimp only at hc hs hp ha hL
  simp_arith [b_is_move, N_is_move, Mv.D, call0_of h1 rfl, call0_of h2 rfl, call0_of h3 rfl, eLet, eInt, eSmF]
  rw [if_neg (by simp)]
  refine ⟨c, rfl, hc, ?_⟩
  refine ⟨⟨s, some 0, some (n - 1)⟩, rfl, ?_⟩
  have e : (geO (s : Int) (some 0) && leO (s : Int) (some ((n : Int) - 1))) = true := by
    simp only [geO, leO, Bool.and_eq_true, decide_eq_true_eq]; omega
  rw [e]
  refine ⟨⟨a, b⟩, rfl, hp, ?_⟩
  have e2 : decide (0 < a) = true := by simpa using ha
  rw [e2]
  exact hL
theorem den_dvd {a : Int} {b : Nat} (hb : 0 < b) : (mkRat a b).den ∣ b := by
  rw [Rat.den_mkRat, if_neg (by omega)]
  exact Nat.div_dvd_of_dvd (Nat.gcd_dvd_left _ _)
theorem qsum_den {ps : List Pa} {M : Nat} (hM : 0 < M) (h : ∀ q ∈ ps, 0 < q.2 ∧ q.2 ∣ M) : (qsum ps).den ∣ M := by
  rw [← sum_num hM h]
  exact den_dvd hM
theorem qsum_nonneg : ∀ {ps : List Pa}, (∀ q ∈ ps, 0 ≤ qv q) → 0 ≤ qsum ps
  | [], _ => by simp [qsum]
  | q :: ps, h => by
    show 0 ≤ ((q :: ps).map qv).sum
    rw [List.map_cons, List.sum_cons]
    exact Rat.add_nonneg (h q (List.mem_cons_self ..)) (qsum_nonneg fun z hz => h z (List.mem_cons_of_mem _ hz))
theorem num_small {n : Nat} {q : Rat} (h0 : 0 ≤ q) (h1 : q ≤ 1) (hs : Small n (q.den : Int)) : Small n q.num := by
  refine hs.le ?_
  have a := Rat.num_nonneg.mpr h0
  rw [Rat.le_iff] at h1
  simp at h1
  rw [Int.natAbs_natCast]
  omega
theorem ltr_inj {a b : Nat} (h : ltr a = ltr b) : a = b := by
  unfold ltr at h
  have := congrArg (fun z : Str => z.cps.toList) h
  simp at this
  exact this
theorem ltr_lt {a b : Nat} (h : a < b) : (ltr a).cps.toList < (ltr b).cps.toList := by
  show [97 + a] < [97 + b]
  rw [List.cons_lt_cons_iff]
  exact .inl (by omega)
def endD (m : Mv) : PyData := .tuple [.str (ltr m.c), .int m.s]
theorem key_ok (a b : Mv) : tupOk [.str (ltr a.c), .int a.s] [.str (ltr b.c), .int b.s] = true := rfl
theorem key_lt {a b : Mv} (h : keyLt a b) : tupLt [.str (ltr a.c), .int a.s] [.str (ltr b.c), .int b.s] = true := by
  unfold tupLt
  simp only [atomEq, atomLt, Option.getD_some, decide_eq_true_eq]
  rcases h with h | ⟨h1, h2⟩
  · rw [if_neg (fun z => by have := ltr_inj z; omega)]
    exact decide_eq_true (ltr_lt h)
  · rw [if_pos (by rw [h1])]
    unfold tupLt
    simp only [atomEq, atomLt, Option.getD_some, decide_eq_true_eq]
    rw [if_neg (by omega)]
    exact decide_eq_true (by omega)
def eMoves : Ent := fnE (fun p : Nat × Nat × Deed => [.int p.1, deedD p.2.2]) (fun p => OkDeed p.1 p.2.1 p.2.2) (fun _ => .bool true)
theorem moves_does {tb : Tab} (g : Gl tb) (h1 : tb.fn "is_move" = some eMove) (h2 : tb.fn "is_at_most" = some eAtMost) (h3 : tb.fn "total" = some eTot) : Does tb b_are_moves N_are_moves.length false eMoves.R := by
  rintro ds L ⟨⟨n, W, d⟩, rfl, hd, hL⟩
  dsimp only at hd hL
  simp_arith [b_are_moves, N_are_moves, deedD, call0_of h1 rfl, call0_of h2 rfl, call0_of h3 rfl, glob_of g.moves, glob_of g.one, eMove]
  have hl : d.length ≤ LIM := Nat.le_trans hd.len (by decide)
  rw [if_neg (by have := hd.len; rw [List.length_map]; omega)]
  refine ⟨by rw [List.length_map]; exact hl, lcK_list (fun _ => .bool true) (fun m hm => ?_) ?_⟩
  · simp_arith [call0_of h1 rfl, eMove]
    exact ⟨⟨n, m⟩, rfl, hd.mv m hm⟩
  refine ⟨_, allBools_map (fun _ => true) d, ?_⟩
  rw [if_neg (by simp)]
  simp_arith
  refine ⟨by rw [List.length_map]; exact hl, lcK_list endD (fun m hm => ?_) ?_⟩
  · simp_arith [Mv.D]
    rfl
  simp_arith
  rw [List.length_map]
  refine ⟨⟨by omega, by have e : (LIM : Int) = 16777216 := rfl; have := hd.len; omega⟩, by simp [rangeL]; have e : LIM = 16777216 := rfl; have := hd.len; omega, ?_⟩
  unfold rangeL
  refine lcK_list (fun _ => .bool true) (fun k hk => ?_) ?_
  · have hk : k < ((d.length : Int) - 1).toNat := by simpa using hk
    have hk1 : k + 1 < d.length := by omega
    simp_arith
    have e1 : (0 : Int) + (k : Int) * 1 = (k : Int) := by omega
    have e2 : (k : Int) + 1 = ((k + 1 : Nat) : Int) := by omega
    rw [e1, e2]
    refine ⟨endD d[k], ?_, endD d[k + 1], ?_, ?_⟩
    · rw [atI_nat (by rw [List.length_map]; omega), List.getElem?_map, List.getElem?_eq_getElem (by omega)]; rfl
    · rw [atI_nat (by rw [List.length_map]; omega), List.getElem?_map, List.getElem?_eq_getElem hk1]; rfl
    · refine ⟨key_ok _ _, ?_⟩
      rw [key_lt (hd.srt k hk1)]
  refine ⟨_, allBools_map (fun _ => true) _, ?_⟩
  rw [if_neg (by simp)]
  simp_arith
  refine ⟨by rw [List.length_map]; exact hl, lcK_list (fun m => pr m.p.1 m.p.2) (fun m hm => ?_) ?_⟩
  · simp_arith [Mv.D]
  simp_arith [eTot]
  have eP : (d.map fun m => pr m.p.1 m.p.2) = prs (d.map (·.p)) := by simp [prs]
  have hdv : ∀ q ∈ d.map (·.p), 0 < q.2 ∧ q.2 ∣ W := fun q hq => by
    obtain ⟨m, hm, rfl⟩ := List.mem_map.mp hq
    exact ⟨(hd.mv m hm).2.2.1.1, hd.dvd m hm⟩
  have sW : Small 20 (W : Int) := by
    unfold Small
    have e : (2 : Nat) ^ 20 = 1048576 := by decide
    have := hd.W1
    rw [e, Int.natAbs_natCast]; omega
  refine ⟨⟨d.map (·.p), W⟩, by rw [eP], ⟨hd.W0, sW.mono (by decide), by rw [List.length_map]; exact hl, fun q hq => ⟨hdv q hq, ?_⟩⟩, ?_⟩
  · obtain ⟨m, hm, rfl⟩ := List.mem_map.mp hq
    have := (hd.mv m hm).2.2.1
    obtain ⟨_, _, q3, q4⟩ := this
    omega
  have n0 : 0 ≤ qsum (d.map (·.p)) := qsum_nonneg fun q hq => by
    obtain ⟨m, hm, rfl⟩ := List.mem_map.mp hq
    exact (hd.mv m hm).2.2.1.nonneg
  have sd := small_dvd sW hd.W0 (qsum_den hd.W0 hdv)
  refine ⟨⟨⟨_, _⟩, 1, 1⟩, rfl, ⟨⟨Rat.den_pos _, Nat.one_pos⟩, ⟨(num_small n0 hd.le1 sd).mono (by decide), sd.mono (by decide)⟩, small1, small1⟩, ?_⟩
  have : decide (mkRat (qsum (d.map (·.p))).num (qsum (d.map (·.p))).den ≤ mkRat 1 1) = true := by
    rw [decide_eq_true_eq, Rat.mkRat_self]; exact hd.le1
  dsimp only
  rw [this]
  exact hL
/-! ### lowered -/
def low (m : Mv) : Mv := { m with p := ((qv m.p).num, (qv m.p).den) }
def lowC (C : Chooser) : Chooser := C.map fun ds => ds.map fun d => d.map low
def eLowM : Ent := fnE (fun d : Deed => [deedD d]) (fun d => d.length ≤ LIM ∧ ∀ m ∈ d, OkPa m.p) (fun d => deedD (d.map low))
theorem lowM_does {tb : Tab} (h : tb.fn "lowest" = some eLow) : Does tb b_lowest_moves N_lowest_moves.length false eLowM.R := by
  rintro ds L ⟨d, rfl, ⟨hl, hd⟩, hL⟩
  simp_arith [b_lowest_moves, N_lowest_moves, deedD]
  refine ⟨by rw [List.length_map]; exact hl, lcK_list (fun m => (low m).D) (fun m hm => ?_) ?_⟩
  · simp_arith [Mv.D, call0_of h rfl, eLow]
    obtain ⟨s1, s2⟩ := (hd m hm).small
    exact ⟨⟨m.p.1, m.p.2⟩, rfl, ⟨(hd m hm).1, s1.mono (by decide), s2.mono (by decide)⟩, rfl⟩
  · have e : d.map (fun m => (low m).D) = (d.map low).map Mv.D := by rw [List.map_map]; rfl
    rw [e]
    exact hL
/-! ### choices -/
def OkD (n : Nat) (d : Deed) : Prop := ∃ W, OkDeed n W d
structure OkC (C : Chooser) : Prop where
  l0 : 1 ≤ C.length
  l1 : C.length ≤ 6
  ch : ∀ ds ∈ C, (1 ≤ ds.length ∧ ds.length ≤ 3) ∧ ∀ d ∈ ds, OkD C.length d
def eChoice : Ent := fnE (fun p : Nat × List Deed => [.int p.1, choiceD p.2]) (fun p => (1 ≤ p.2.length ∧ p.2.length ≤ 3) ∧ ∀ d ∈ p.2, OkD p.1 d) (fun _ => .bool true)
theorem choice_does {tb : Tab} (g : Gl tb) (h : tb.fn "are_moves" = some eMoves) : Does tb b_is_choice N_is_choice.length false eChoice.R := by
  rintro ds L ⟨⟨n, c⟩, rfl, ⟨⟨l0, l1⟩, hc⟩, hL⟩
  dsimp only at l0 l1 hc hL
  simp_arith [b_is_choice, N_is_choice, choiceD, glob_of g.choices]
  rw [List.length_map, if_pos (by omega), if_neg (by simp; omega)]
  refine ⟨Nat.le_trans l1 (by decide), lcK_list (fun _ => .bool true) (fun d hd => ?_) ?_⟩
  · simp_arith [call0_of h rfl, eMoves]
    obtain ⟨W, hW⟩ := hc d hd
    exact ⟨⟨n, W, d⟩, rfl, hW⟩
  · refine ⟨_, allBools_map (fun _ => true) _, ?_⟩
    have : (c.map fun _ => true).all id = true := by simp
    rw [this]
    exact hL
def eChooser : Ent := fnE (fun C : Chooser => [chooserD C]) OkC (fun _ => .bool true)
theorem chooser_does {tb : Tab} (g : Gl tb) (h : tb.fn "is_choice" = some eChoice) : Does tb b_is_chooser N_is_chooser.length false eChooser.R := by
  rintro ds L ⟨C, rfl, hC, hL⟩
  have l0 := hC.l0
  have l1 := hC.l1
  simp_arith [b_is_chooser, N_is_chooser, chooserD, glob_of g.states]
  rw [List.length_map, if_pos (by omega), if_neg (by simp; omega)]
  refine ⟨Nat.le_trans l1 (by decide), lcK_list (fun _ => .bool true) (fun ds hd => ?_) ?_⟩
  · simp_arith [call0_of h rfl, eChoice]
    rw [List.length_map]
    exact ⟨⟨C.length, ds⟩, rfl, hC.ch ds hd⟩
  · refine ⟨_, allBools_map (fun _ => true) _, ?_⟩
    have : (C.map fun _ => true).all id = true := by simp
    rw [this]
    exact hL
def OkC0 (C : Chooser) : Prop := C.length ≤ LIM ∧ ∀ ds ∈ C, ds.length ≤ LIM ∧ ∀ d ∈ ds, d.length ≤ LIM ∧ ∀ m ∈ d, OkPa m.p
theorem OkC.ok0 {C : Chooser} (h : OkC C) : OkC0 C := ⟨Nat.le_trans h.l1 (by decide), fun ds hd => ⟨Nat.le_trans (h.ch ds hd).1.2 (by decide), fun d hd2 => by
  obtain ⟨W, hW⟩ := (h.ch ds hd).2 d hd2
  exact ⟨Nat.le_trans hW.len (by decide), fun m hm => (hW.mv m hm).2.2.1⟩⟩⟩
def ePlain : Ent := fnE (fun C : Chooser => [chooserD C]) OkC0 (fun C => chooserD (lowC C))
theorem plain_does {tb : Tab} (h : tb.fn "lowest_moves" = some eLowM) : Does tb b_plain_chooser N_plain_chooser.length false ePlain.R := by
  rintro ds L ⟨C, rfl, hC, hL⟩
  simp_arith [b_plain_chooser, N_plain_chooser, chooserD]
  refine ⟨by rw [List.length_map]; exact hC.1, lcK_list (fun ds => choiceD (ds.map fun d => d.map low)) (fun ds hd => ?_) ?_⟩
  · obtain ⟨h1, h2⟩ := hC.2 ds hd
    simp_arith [choiceD]
    refine ⟨by rw [List.length_map]; exact h1, lcK_list (fun d => deedD (d.map low)) (fun d hd2 => ?_) ?_⟩
    · simp_arith [call0_of h rfl, eLowM]
      exact ⟨d, rfl, h2 d hd2, rfl⟩
    · simp_arith
      rw [List.map_map]; rfl
  · have e : C.map (fun ds => choiceD (ds.map fun d => d.map low)) = (lowC C).map choiceD := by unfold lowC; rw [List.map_map]; rfl
    rw [e]
    exact hL
def eNeed : Ent := fnE (fun C : Chooser => [chooserD C]) OkC (fun C => chooserD (lowC C))
theorem need_does {tb : Tab} (h1 : tb.fn "is_chooser" = some eChooser) (h2 : tb.fn "plain_chooser" = some ePlain) : Does tb b_need_chooser N_need_chooser.length false eNeed.R := by
  rintro ds L ⟨C, rfl, hC, hL⟩
  simp_arith [b_need_chooser, N_need_chooser, call0_of h1 rfl, call0_of h2 rfl, eChooser, ePlain]
  exact ⟨C, rfl, hC, C, rfl, hC.ok0, hL⟩
end K82
end

section
set_option Elab.async false
set_option linter.all false
set_option maxRecDepth 100000
set_option maxHeartbeats 4000000
/-! K82e: what a deed tells; the best by layers. -/
namespace K82
open PySem PL
def bet (up : Bool) (a b : Rat) : Bool := if up then decide (b < a) else decide (a < b)
def sgn (up : Bool) : Int := if up then 1 else -1
/-- a fraction between 0 and 1 whose number below divides M -/
def Qok (M : Nat) (q : Rat) : Prop := 0 ≤ q ∧ q ≤ 1 ∧ q.den ∣ M
theorem Qok.den {n M : Nat} {q : Rat} (h : Qok M q) (hM : 0 < M) (sM : Small n M) : Small n (q.den : Int) := small_dvd sM hM h.2.2
theorem Qok.num {n M : Nat} {q : Rat} (h : Qok M q) (hM : 0 < M) (sM : Small n M) : Small n q.num := num_small h.1 h.2.1 (h.den hM sM)
theorem Qok.one {M : Nat} : Qok M 1 := ⟨by decide, by decide, Nat.one_dvd _⟩
theorem Qok.zero {M : Nat} : Qok M 0 := ⟨by decide, by decide, Nat.one_dvd _⟩
theorem Qok.mono {M N : Nat} {q : Rat} (h : Qok M q) (hd : M ∣ N) : Qok N q := ⟨h.1, h.2.1, Nat.dvd_trans h.2.2 hd⟩
def eBet : Ent := fnE (fun p : Rat × Rat × Bool × Nat => [fr p.1, fr p.2.1, .int (sgn p.2.2.1)]) (fun p => 0 < p.2.2.2 ∧ Small 4400 p.2.2.2 ∧ Qok p.2.2.2 p.1 ∧ Qok p.2.2.2 p.2.1) (fun p => .bool (bet p.2.2.1 p.1 p.2.1))
theorem bet_does {tb : Tab} (h : tb.fn "is_less" = some eLess) : Does tb b_is_better N_is_better.length false eBet.R := by
  rintro ds L ⟨⟨a, b, up, M⟩, rfl, ⟨hM, sM, ha, hb⟩, hL⟩
  dsimp only at hM sM ha hb hL
  have sa := (ha.num hM sM).mono (m := 9000) (by decide)
  have sa' := (ha.den hM sM).mono (m := 9000) (by decide)
  have sb := (hb.num hM sM).mono (m := 9000) (by decide)
  have sb' := (hb.den hM sM).mono (m := 9000) (by decide)
  cases up
  · simp_arith [b_is_better, N_is_better, call0_of h rfl, eLess, sgn, bet]
    rw [if_neg (by decide)]
    refine ⟨⟨⟨a.num, a.den⟩, b.num, b.den⟩, rfl, ⟨⟨a.den_pos, b.den_pos⟩, ⟨sa, sa'⟩, sb, sb'⟩, ?_⟩
    dsimp only
    rw [Rat.mkRat_self, Rat.mkRat_self]
    exact hL
  · simp_arith [b_is_better, N_is_better, call0_of h rfl, eLess, sgn, bet]
    rw [if_pos (by decide)]
    refine ⟨⟨⟨b.num, b.den⟩, a.num, a.den⟩, rfl, ⟨⟨b.den_pos, a.den_pos⟩, ⟨sb, sb'⟩, sa, sa'⟩, ?_⟩
    dsimp only
    rw [Rat.mkRat_self, Rat.mkRat_self]
    exact hL
/-! ### what a deed tells -/
def tl (d : Deed) (c : Nat) (vs : List Rat) : List Rat := (d.filter fun m => decide (m.c = c)).map fun m => qv m.p * vs.getD m.s 0
def tell (d : Deed) (c : Nat) (vs : List Rat) : Rat := (tl d c vs).sum
structure Vals (n M : Nat) (vs : List Rat) : Prop where
  len : vs.length = n
  M0 : 0 < M
  ok : ∀ v ∈ vs, Qok M v
theorem Vals.at {n M : Nat} {vs : List Rat} (h : Vals n M vs) {s : Nat} (hs : s < n) : Qok M (vs.getD s 0) := by
  have := h.len
  rw [List.getD_eq_getElem?_getD, List.getElem?_eq_getElem (by omega)]
  exact h.ok _ (List.getElem_mem _)
theorem mul_den {W M : Nat} {p : Pa} {v : Rat} (hp : 0 < p.2) (hW : p.2 ∣ W) (hv : v.den ∣ M) : (qv p * v).den ∣ W * M := by
  have e : qv p * v = mkRat (p.1 * v.num) (p.2 * v.den) := by
    have e1 := Rat.mkRat_mul_mkRat p.1 v.num p.2 v.den
    rw [Rat.mkRat_self] at e1
    exact e1
  rw [e]
  exact Nat.dvd_trans (den_dvd (Nat.mul_pos hp v.den_pos)) (Nat.mul_dvd_mul hW hv)
theorem add_le {a b c d : Rat} (h1 : a ≤ b) (h2 : c ≤ d) : a + c ≤ b + d :=
  Rat.le_trans (Rat.add_le_add_left.mpr h2) (Rat.add_le_add_right.mpr h1)
theorem tell_bnd {n M : Nat} {vs : List Rat} (hv : Vals n M vs) (c : Nat) : ∀ d : Deed, (∀ m ∈ d, OkMv n m) → 0 ≤ tell d c vs ∧ tell d c vs ≤ qsum (d.map (·.p))
  | [], _ => by simp [tell, tl, qsum]
  | m :: d, h => by
    obtain ⟨i1, i2⟩ := tell_bnd hv c d fun z hz => h z (List.mem_cons_of_mem _ hz)
    obtain ⟨_, hs, hp, _⟩ := h m (List.mem_cons_self ..)
    have n0 := hp.nonneg
    have q := hv.at hs
    have e2 : qsum ((m :: d).map (·.p)) = qv m.p + qsum (d.map (·.p)) := by simp [qsum]
    rw [e2]
    unfold tell tl at *
    by_cases hc : m.c = c
    · rw [List.filter_cons_of_pos (by simpa using hc), List.map_cons, List.sum_cons]
      refine ⟨Rat.add_nonneg (Rat.mul_nonneg n0 q.1) i1, add_le ?_ i2⟩
      have := Rat.mul_le_mul_of_nonneg_left q.2.1 n0
      rwa [Rat.mul_one] at this
    · rw [List.filter_cons_of_neg (by simpa using hc)]
      refine ⟨i1, ?_⟩
      have := add_le n0 i2
      rwa [Rat.zero_add] at this
def nd (q : Rat) : Pa := (q.num, q.den)
theorem qv_nd (q : Rat) : qv (nd q) = q := Rat.mkRat_self q
theorem qsum_nd (l : List Rat) : qsum (l.map nd) = l.sum := by
  unfold qsum
  rw [List.map_map]
  have : l.map (qv ∘ nd) = l := by
    have : (qv ∘ nd) = id := funext fun q => qv_nd q
    rw [this, List.map_id]
  rw [this]
theorem tl_ok {n W M : Nat} {d : Deed} {vs : List Rat} (hd : OkDeed n W d) (hv : Vals n M vs) (c : Nat) : ∀ q ∈ tl d c vs, Qok (W * M) q := fun q hq => by
  unfold tl at hq
  obtain ⟨m, hm, rfl⟩ := List.mem_map.mp hq
  have hm := (List.mem_filter.mp hm).1
  obtain ⟨_, hs, hp, _⟩ := hd.mv m hm
  have v := hv.at hs
  refine ⟨Rat.mul_nonneg hp.nonneg v.1, ?_, mul_den hp.1 (hd.dvd m hm) v.2.2⟩
  have := Rat.mul_le_mul_of_nonneg_left v.2.1 hp.nonneg
  rw [Rat.mul_one] at this
  exact Rat.le_trans this hp.le1
theorem nd_ok {M : Nat} {q : Rat} (h : Qok M q) : (0 < (nd q).2 ∧ (nd q).2 ∣ M) ∧ (nd q).1.natAbs ≤ (nd q).2 := by
  refine ⟨⟨q.den_pos, h.2.2⟩, ?_⟩
  have a := Rat.num_nonneg.mpr h.1
  have b := h.2.1
  rw [Rat.le_iff] at b
  simp at b
  show q.num.natAbs ≤ q.den
  omega
theorem tell_ok {n W M : Nat} {d : Deed} {vs : List Rat} (hd : OkDeed n W d) (hv : Vals n M vs) (c : Nat) : Qok (W * M) (tell d c vs) := by
  obtain ⟨h1, h2⟩ := tell_bnd hv c d hd.mv
  refine ⟨h1, Rat.le_trans h2 hd.le1, ?_⟩
  unfold tell
  rw [← qsum_nd]
  refine qsum_den (Nat.mul_pos hd.W0 hv.M0) fun q hq => ?_
  obtain ⟨r, hr, rfl⟩ := List.mem_map.mp hq
  exact (nd_ok (tl_ok hd hv c r hr)).1
theorem ltr_eq : ∀ a b : Nat, a < 3 → b < 3 → SeqAt.shaped (.str (ltr a)) = true ∧ PyData.eqv (.str (ltr a)) (.str (ltr b)) = decide (a = b) := by
  intro a b ha hb
  match a, ha, b, hb with
  | 0, _, 0, _ => exact ⟨by decide +kernel, by decide +kernel⟩
  | 0, _, 1, _ => exact ⟨by decide +kernel, by decide +kernel⟩
  | 0, _, 2, _ => exact ⟨by decide +kernel, by decide +kernel⟩
  | 1, _, 0, _ => exact ⟨by decide +kernel, by decide +kernel⟩
  | 1, _, 1, _ => exact ⟨by decide +kernel, by decide +kernel⟩
  | 1, _, 2, _ => exact ⟨by decide +kernel, by decide +kernel⟩
  | 2, _, 0, _ => exact ⟨by decide +kernel, by decide +kernel⟩
  | 2, _, 1, _ => exact ⟨by decide +kernel, by decide +kernel⟩
  | 2, _, 2, _ => exact ⟨by decide +kernel, by decide +kernel⟩
structure TellIn where
  n : Nat
  W : Nat
  M : Nat
  d : Deed
  c : Nat
  vs : List Rat
structure TellOk (p : TellIn) : Prop where
  d : OkDeed p.n p.W p.d
  v : Vals p.n p.M p.vs
  c : p.c < 3
  s : Small 4300 (p.W * p.M : Nat)
theorem TellOk.s0 {p : TellIn} (h : TellOk p) : 0 < p.W * p.M := Nat.mul_pos h.d.W0 h.v.M0
theorem TellOk.sM {p : TellIn} (h : TellOk p) : Small 4300 (p.M : Nat) := small_dvd h.s h.s0 (Nat.dvd_mul_left _ _)
def eTell : Ent := fnE (fun p : TellIn => [deedD p.d, .str (ltr p.c), .list (p.vs.map fr)]) TellOk (fun p => fr (tell p.d p.c p.vs))
end K82
end

section
set_option Elab.async false
set_option linter.all false
set_option maxRecDepth 100000
set_option maxHeartbeats 4000000
/-! K82f: the best by layers. -/
namespace K82
open PySem PL
/-- a place that may be written -/
def Wk : Sl → Prop
  | .io _ => False
  | _ => True
theorem wk_sh {d : PyData} : Wk (.sh d) := trivial
theorem wk_ow {d : PyData} : Wk (.ow d) := trivial
theorem wk_un : Wk .un := trivial
theorem wrK_wk {s r : Sl} {i : Nat} {env : Ev} {Q : Ev → Prop} (h : Wk s) : wrK (some s) i env r Q = Q (env.set i r) := by
  cases s <;> first | rfl | exact h.elim
def bestN (up : Bool) (qs : List Rat) : Nat → Rat × Nat
  | 0 => (qs.getD 0 0, 0)
  | i + 1 => if bet up (qs.getD i 0) (bestN up qs i).1 = true then (qs.getD i 0, i) else bestN up qs i
def best (up : Bool) (qs : List Rat) : Rat × Nat := bestN up qs qs.length
theorem bestN_mem {up : Bool} {qs : List Rat} (h : 0 < qs.length) : ∀ i, i ≤ qs.length → (bestN up qs i).2 < qs.length ∧ (bestN up qs i).1 = qs.getD (bestN up qs i).2 0
  | 0, _ => ⟨h, rfl⟩
  | i + 1, hi => by
    unfold bestN
    split
    · exact ⟨by dsimp only; omega, rfl⟩
    · exact bestN_mem h i (by omega)
def tls (ds : List Deed) (c : Nat) (vs : List Rat) : List Rat := ds.map fun d => tell d c vs
def lay (up : Bool) (C : Chooser) (c : Nat) (vs : List Rat) : List (Rat × Nat) := C.map fun ds => best up (tls ds c vs)
def st (up : Bool) (C : Chooser) : List Nat → List Rat × List (List Nat)
  | [] => (List.replicate C.length 1, [])
  | c :: w => ((lay up C c (st up C w).1).map (·.1), (lay up C c (st up C w).1).map (·.2) :: (st up C w).2)
structure OkB (B : Nat) (C : Chooser) : Prop where
  oc : OkC C
  b20 : B ≤ 20
  ch : ∀ ds ∈ C, ∀ d ∈ ds, ∃ W, OkDeed C.length W d ∧ W ≤ 2 ^ B
theorem best_mem {up : Bool} {ds : List Deed} {c : Nat} {vs : List Rat} (h : 0 < ds.length) : ∃ k, ∃ h : k < ds.length, (best up (tls ds c vs)).2 = k ∧ (best up (tls ds c vs)).1 = tell ds[k] c vs := by
  have e : (tls ds c vs).length = ds.length := by simp [tls]
  obtain ⟨h1, h2⟩ := bestN_mem (up := up) (qs := tls ds c vs) (by omega) _ (Nat.le_refl _)
  refine ⟨_, by rw [← e]; exact h1, rfl, ?_⟩
  show (bestN up (tls ds c vs) _).1 = _
  rw [h2, List.getD_eq_getElem?_getD, List.getElem?_eq_getElem h1]
  simp [tls, best]
theorem lay_vals {up : Bool} {B M c : Nat} {C : Chooser} {vs : List Rat} (hC : OkB B C) (hv : Vals C.length M vs) : ∃ P, 0 < P ∧ P ≤ 2 ^ (B * C.length) ∧ Vals C.length (P * M) ((lay up C c vs).map (·.1)) := by
  have key : ∀ l : Chooser, (∀ ds ∈ l, ds ∈ C) → ∃ P, 0 < P ∧ P ≤ 2 ^ (B * l.length) ∧ ∀ ds ∈ l, Qok (P * M) (best up (tls ds c vs)).1 := by
    intro l
    induction l with
    | nil => exact fun _ => ⟨1, by decide, by simp, fun _ h => by cases h⟩
    | cons ds l ih =>
      intro hl
      obtain ⟨P, p0, p1, p2⟩ := ih fun z hz => hl z (List.mem_cons_of_mem _ hz)
      have hm := hl ds (List.mem_cons_self ..)
      have l0 := (hC.oc.ch ds hm).1.1
      obtain ⟨k, hk, _, e⟩ := best_mem (up := up) (ds := ds) (c := c) (vs := vs) (by omega)
      obtain ⟨W, hW, w1⟩ := hC.ch ds hm _ (List.getElem_mem hk)
      refine ⟨W * P, Nat.mul_pos hW.W0 p0, ?_, fun z hz => ?_⟩
      · rw [List.length_cons, Nat.mul_add, Nat.mul_one, Nat.pow_add, Nat.mul_comm]
        exact Nat.mul_le_mul p1 w1
      · rcases List.mem_cons.mp hz with rfl | hz
        · rw [e]
          exact (tell_ok hW hv c).mono (by rw [Nat.mul_assoc]; exact Nat.mul_dvd_mul_left _ (Nat.dvd_mul_left _ _))
        · exact (p2 z hz).mono (by rw [Nat.mul_assoc]; exact Nat.dvd_mul_left _ _)
  obtain ⟨P, p0, p1, p2⟩ := key C fun _ h => h
  refine ⟨P, p0, p1, by simp [lay], Nat.mul_pos p0 hv.M0, fun v hv => ?_⟩
  simp only [lay, List.mem_map] at hv
  obtain ⟨_, ⟨ds, hds, rfl⟩, rfl⟩ := hv
  exact p2 ds hds
theorem st_vals {up : Bool} {B : Nat} {C : Chooser} (hC : OkB B C) : ∀ w : List Nat, ∃ M, M ≤ 2 ^ (6 * B * w.length) ∧ Vals C.length M (st up C w).1
  | [] => ⟨1, by simp, by simp [st], by decide, fun v hv => by
      simp only [st, List.mem_replicate] at hv
      rw [hv.2]; exact Qok.one⟩
  | c :: w => by
    obtain ⟨M, m1, hv⟩ := st_vals hC w
    obtain ⟨P, p0, p1, hv2⟩ := lay_vals (up := up) (c := c) hC hv
    refine ⟨P * M, ?_, hv2⟩
    rw [List.length_cons, Nat.mul_add, Nat.mul_one, Nat.pow_add, Nat.mul_comm (2 ^ _)]
    refine Nat.mul_le_mul (Nat.le_trans p1 (Nat.pow_le_pow_right (by decide) ?_)) m1
    rw [Nat.mul_comm 6 B]
    exact Nat.mul_le_mul_left _ hC.oc.l1
/-! ### words -/
def wd (w : List Nat) : Str := ⟨(w.map (97 + ·)).toArray⟩
theorem chars_wd (w : List Nat) : chars (wd w) = w.map fun c => .str (ltr c) := by
  simp [chars, wd, ltr]
theorem chars_rev (w : List Nat) : chars ⟨(wd w).cps.reverse⟩ = w.reverse.map fun c => .str (ltr c) := by
  simp [chars, wd, ltr]
theorem wd_len (w : List Nat) : (wd w).length = w.length := by
  simp [wd, Str.length]
def idxD (l : List Nat) : PyData := .tuple (l.map fun k => .int (k : Nat))
/-- a pair as result, its second part a list of its own -/
def fnP {α : Type} (inp : α → List PyData) (pre : α → Prop) (o1 o2 : α → PyData) : Ent := ⟨fun ds L => ∃ a, ds = inp a ∧ pre a ∧ L (.tp (o1 a) (o2 a)) .none, false, 0, [], fun h ⟨a, e, p, w⟩ => ⟨a, e, p, h _ _ w⟩⟩
structure LayIn where
  C : Chooser
  w : List Nat
  up : Bool
  B : Nat
structure LayOk (p : LayIn) : Prop where
  C : OkB p.B p.C
  w : p.w.length ≤ 60
  c : ∀ c ∈ p.w, c < 3
  s : 6 * p.B * p.w.length ≤ 3600
theorem LayOk.vals {p : LayIn} (h : LayOk p) (i : Nat) : ∃ M, Vals p.C.length M (st p.up p.C (p.w.drop i)).1 ∧ M ≤ 2 ^ 3600 := by
  obtain ⟨M, m1, hv⟩ := st_vals (up := p.up) h.C (p.w.drop i)
  refine ⟨M, hv, Nat.le_trans m1 (Nat.pow_le_pow_right (by decide) (Nat.le_trans (Nat.mul_le_mul_left _ ?_) h.s))⟩
  rw [List.length_drop]; omega
theorem OkB.deed {B : Nat} {C : Chooser} (h : OkB B C) {ds : List Deed} (hd : ds ∈ C) {d : Deed} (hm : d ∈ ds) : ∃ W, OkDeed C.length W d ∧ W ≤ 2 ^ 20 := by
  obtain ⟨W, hW, w1⟩ := h.ch ds hd d hm
  exact ⟨W, hW, Nat.le_trans w1 (Nat.pow_le_pow_right (by decide) h.b20)⟩
theorem small_of_le {n a : Nat} (h : a ≤ 2 ^ n) : Small (n + 1) (a : Int) := by
  unfold Small
  rw [Int.natAbs_natCast, Nat.pow_succ]
  have := Nat.two_pow_pos n
  omega
theorem small_WM {W M : Nat} (h1 : W ≤ 2 ^ 20) (h2 : M ≤ 2 ^ 3600) : Small 4300 ((W * M : Nat) : Int) := by
  rw [Int.natCast_mul]
  exact ((small_of_le h1).mul (small_of_le h2)).mono (by decide)
end K82
end

section
set_option Elab.async false
set_option linter.all false
set_option maxRecDepth 100000
set_option maxHeartbeats 4000000
set_option exponentiation.threshold 10000
/-! K82g: saying_layers. -/
namespace K82
open PySem PL
def eLayers : Ent := fnP (fun p : LayIn => [chooserD p.C, .str (wd p.w), .int (sgn p.up)]) LayOk (fun p => .list ((st p.up p.C p.w).1.map fr)) (fun p => .list ((st p.up p.C p.w).2.map idxD))
theorem tls_getD {ds : List Deed} {c : Nat} {vs : List Rat} {k : Nat} (h : k < ds.length) : (tls ds c vs).getD k 0 = tell ds[k] c vs := by
  unfold tls
  rw [List.getD_eq_getElem?_getD, List.getElem?_map, List.getElem?_eq_getElem h]; rfl
theorem fr_one : fr 1 = pr 1 1 := rfl
theorem ones (n : Nat) : (List.replicate n [pr 1 1]).flatten = (List.replicate n (1 : Rat)).map fr := by
  rw [List.flatten_replicate_singleton, List.map_replicate, fr_one]
theorem st_len {up : Bool} {C : Chooser} : ∀ w : List Nat, (st up C w).2.length = w.length
  | [] => rfl
  | c :: w => by
    show (st up C w).2.length + 1 = w.length + 1
    rw [st_len w]
theorem st_cons {up : Bool} {C : Chooser} {c : Nat} {w : List Nat} : st up C (c :: w) = ((lay up C c (st up C w).1).map (·.1), (lay up C c (st up C w).1).map (·.2) :: (st up C w).2) := rfl
end K82
end

section
set_option Elab.async false
set_option linter.all false
set_option maxRecDepth 100000
set_option maxHeartbeats 4000000
set_option exponentiation.threshold 10000
/-! K82h: rows, deeds, speaker_by, said_by. -/
namespace K82
open PySem PL
def eRow : Ent := fnE (fun w : List Nat => [.str (wd w)]) (fun w => w.length ≤ 60 ∧ ∀ c ∈ w, c < 3) (fun _ => .none)
structure DeedsIn where
  C : Chooser
  k : List Nat
structure DeedsOk (p : DeedsIn) : Prop where
  C : OkC p.C
  len : p.k.length = p.C.length
  lt : ∀ q ∈ p.k.zip p.C, q.1 < q.2.length
def eAre : Ent := fnE (fun p : DeedsIn => [chooserD p.C, idxD p.k]) DeedsOk (fun _ => .bool true)
theorem zipL_map {α β : Type} {as : List α} {bs : List β} {f : α → PyData} {g : β → PyData} : zipL (as.map f) (bs.map g) = (as.zip bs).map fun p => .tuple [f p.1, g p.2] := by
  unfold zipL
  rw [List.zip_map, List.map_map]; rfl
/-! ### lowered choosers -/
theorem lowC_len (C : Chooser) : (lowC C).length = C.length := by simp [lowC]
theorem qv_low (m : Mv) : qv (low m).p = qv m.p := Rat.mkRat_self _
theorem low_pa {p : Pa} (h : OkPa p) : OkPa ((qv p).num, (qv p).den) := by
  have n0 := h.nonneg
  have n1 := h.le1
  refine ⟨Rat.den_pos _, ?_, Rat.num_nonneg.mpr n0, ?_⟩
  · exact Nat.le_trans (Nat.le_of_dvd h.1 (den_dvd h.1)) h.2.1
  · rw [Rat.le_iff] at n1
    simp at n1
    exact n1
theorem low_mv {n : Nat} {m : Mv} (h : OkMv n m) : OkMv n (low m) := by
  obtain ⟨h1, h2, h3, h4⟩ := h
  refine ⟨h1, h2, low_pa h3, ?_⟩
  have n0 := h3.nonneg
  have a := Rat.num_nonneg.mpr n0
  have : (qv m.p).num ≠ 0 := fun z => by
    have z2 : qv m.p = 0 := Rat.num_eq_zero.mp z
    unfold qv at z2
    rw [Rat.mkRat_eq_zero (by have := h3.1; omega)] at z2
    omega
  show 0 < (qv m.p).num
  omega
theorem low_qsum (d : Deed) : qsum ((d.map low).map (·.p)) = qsum (d.map (·.p)) := by
  unfold qsum
  rw [List.map_map, List.map_map, List.map_map]
  congr 1
  exact List.map_congr_left fun m _ => qv_low m
theorem low_deed {n W : Nat} {d : Deed} (h : OkDeed n W d) : OkDeed n W (d.map low) where
  len := by rw [List.length_map]; exact h.len
  mv := fun m hm => by
    obtain ⟨m', h', rfl⟩ := List.mem_map.mp hm
    exact low_mv (h.mv m' h')
  srt := fun i hi => by
    rw [List.length_map] at hi
    rw [List.getElem_map, List.getElem_map]
    exact h.srt i hi
  W0 := h.W0
  W1 := h.W1
  dvd := fun m hm => by
    obtain ⟨m', h', rfl⟩ := List.mem_map.mp hm
    exact Nat.dvd_trans (den_dvd (h.mv m' h').2.2.1.1) (h.dvd m' h')
  le1 := by rw [low_qsum]; exact h.le1
theorem low_tell (d : Deed) (c : Nat) (vs : List Rat) : tell (d.map low) c vs = tell d c vs := by
  unfold tell tl
  rw [List.filter_map, List.map_map]
  congr 1
  refine List.map_congr_left fun m _ => ?_
  show qv (low m).p * _ = _
  rw [qv_low]; rfl
theorem low_st (up : Bool) (C : Chooser) : ∀ w, st up (lowC C) w = st up C w
  | [] => by unfold st; rw [lowC_len]
  | c :: w => by
    have : ∀ vs, lay up (lowC C) c vs = lay up C c vs := fun vs => by
      unfold lay lowC tls
      rw [List.map_map]
      refine List.map_congr_left fun ds _ => ?_
      show best up ((ds.map fun d => d.map low).map _) = _
      rw [List.map_map]
      congr 1
      exact List.map_congr_left fun d _ => low_tell d c vs
    rw [st_cons, st_cons, low_st up C w, this]
theorem low_okc {C : Chooser} (h : OkC C) : OkC (lowC C) where
  l0 := by rw [lowC_len]; exact h.l0
  l1 := by rw [lowC_len]; exact h.l1
  ch := fun ds hd => by
    obtain ⟨ds', h', rfl⟩ := List.mem_map.mp hd
    obtain ⟨a, b⟩ := h.ch ds' h'
    refine ⟨by rw [List.length_map]; exact a, fun d hm => ?_⟩
    obtain ⟨d', h2, rfl⟩ := List.mem_map.mp hm
    obtain ⟨W, hW⟩ := b d' h2
    rw [lowC_len]
    exact ⟨W, low_deed hW⟩
theorem low_okb {B : Nat} {C : Chooser} (h : OkB B C) : OkB B (lowC C) where
  oc := low_okc h.oc
  b20 := h.b20
  ch := fun ds hd d hm => by
    obtain ⟨ds', h', rfl⟩ := List.mem_map.mp hd
    obtain ⟨d', h2, rfl⟩ := List.mem_map.mp hm
    obtain ⟨W, hW, w1⟩ := h.ch ds' h' d' h2
    rw [lowC_len]
    exact ⟨W, low_deed hW, w1⟩
/-! ### speaker_by -/
def fnEk {α : Type} (kw : List (List Str × List Nat)) (inp : α → List PyData) (pre : α → Prop) (out : α → PyData) : Ent := { fnE inp pre out with kw := kw }
theorem fnEk_R {α : Type} {kw : List (List Str × List Nat)} {inp : α → List PyData} {pre : α → Prop} {out : α → PyData} {ds : List PyData} {L : Sl → PyData → Prop} : (fnEk kw inp pre out).R ds L = ∃ a, ds = inp a ∧ pre a ∧ L (.sh (out a)) .none := rfl
def spk (C : Chooser) (k : List Nat) : PyData := .tuple [.tuple (pr 1 1 :: List.replicate (C.length - 1) (pr 0 1)), .tuple ((C.zip k).map fun p => deedD (p.1.getD p.2 []))]
def eSpk : Ent := fnEk [(["deeds", "chooser"], [1, 0])] (fun p : DeedsIn => [chooserD p.C, idxD p.k]) DeedsOk (fun p => spk (lowC p.C) p.k)
theorem mem_zip_swap {α β : Type} : ∀ {as : List α} {bs : List β} {a : α} {b : β}, (a, b) ∈ as.zip bs → (b, a) ∈ bs.zip as
  | [], bs, a, b, h => by simp at h
  | x :: as, [], a, b, h => by simp at h
  | x :: as, y :: bs, a, b, h => by
    rw [List.zip_cons_cons] at h ⊢
    rcases List.mem_cons.mp h with h | h
    · cases h; exact List.mem_cons_self ..
    · exact List.mem_cons_of_mem _ (mem_zip_swap h)
theorem low_deeds {p : DeedsIn} (h : DeedsOk p) : DeedsOk ⟨lowC p.C, p.k⟩ where
  C := low_okc h.C
  len := by dsimp only; rw [lowC_len]; exact h.len
  lt := fun q hq => by
    unfold lowC at hq
    dsimp only at hq
    rw [List.zip_map_right] at hq
    obtain ⟨q', hq', rfl⟩ := List.mem_map.mp hq
    show q'.1 < (q'.2.map _).length
    rw [List.length_map]
    exact h.lt q' hq'
def eSaid : Ent := fnP (fun p : LayIn => [chooserD p.C, .str (wd p.w), .int (sgn p.up)]) LayOk (fun p => fr ((st p.up p.C p.w).1.getD 0 0)) (fun p => .list ((st p.up p.C p.w).2.map idxD))
theorem st_len1 {up : Bool} {C : Chooser} : ∀ w, (st up C w).1.length = C.length
  | [] => by simp [st]
  | c :: w => by simp [st, lay]
def fnPk {α : Type} (kw : List (List Str × List Nat)) (inp : α → List PyData) (pre : α → Prop) (o1 o2 : α → PyData) : Ent := { fnP inp pre o1 o2 with kw := kw }
def eSd (up : Bool) : Ent := fnPk [(["row", "chooser"], [1, 0])] (fun p : LayIn => [chooserD p.C, .str (wd p.w)]) (fun p => LayOk p ∧ p.up = up) (fun p => fr ((st p.up p.C p.w).1.getD 0 0)) (fun p => .list ((st p.up p.C p.w).2.map idxD))
end K82
end

section
set_option Elab.async false
set_option linter.all false
set_option maxRecDepth 100000
set_option maxHeartbeats 4000000
set_option exponentiation.threshold 10000
/-! K82i: the law's well. -/
namespace K82
open PySem PL
def wlD (a b c : Nat) : PyData := .list [.int a, .int b, .int c]
def OkWl (m : Nat) (d : PyData) : Prop := ∃ a b c : Nat, d = wlD a b c ∧ b < 10 ^ 38 ∧ c ≤ m
theorem OkWl.mono {m n : Nat} {d : PyData} (h : OkWl m d) (hm : m ≤ n) : OkWl n d := by
  obtain ⟨a, b, c, h1, h2, h3⟩ := h
  exact ⟨a, b, c, h1, h2, Nat.le_trans h3 hm⟩
def MM : Nat := 2 ^ 40
structure DipIn where
  m : Nat
  w : PyData
  k : Nat
structure DipOk (p : DipIn) : Prop where
  w : OkWl p.m p.w
  m : p.m < MM
  k0 : 0 < p.k
  k : p.k < 2 ^ 40
def eDip : Ent := ⟨fun ds L => ∃ p : DipIn, ds = [p.w, .int p.k] ∧ DipOk p ∧ ∀ (r : Nat) w', r < p.k → OkWl (p.m + 1) w' → L (.sh (.int r)) w', true, 0, [], fun h ⟨p, e, ok, g⟩ => ⟨p, e, ok, fun r w' h1 h2 => h _ _ (g r w' h1 h2)⟩⟩
theorem fmod_cast (a b : Nat) : Int.fmod (a : Int) (b : Int) = ((a % b : Nat) : Int) := by
  rw [Int.fmod_eq_emod_of_nonneg _ (by omega)]; rfl
theorem small_lit {n : Nat} {i : Int} (h : decide (i.natAbs < 2 ^ n) = true) : Small n i := (of_decide_eq_true h : i.natAbs < 2 ^ n)
theorem dip_does {tb : Tab} : Does tb b_law_dip N_law_dip.length true eDip.R := by
  rintro ds L ⟨⟨m, w, k⟩, rfl, ⟨⟨a, b, c, rfl, hb, hc⟩, hm, k0, k1⟩, hL⟩
  dsimp only at hm k0 k1 hL hc hb
  have i0 : L2.ixN 3 0 = some 0 := by decide +kernel
  have i2 : L2.ixN 3 2 = some 2 := by decide +kernel
  simp_arith [b_law_dip, N_law_dip, wlD, i0, i2]
  by_cases ha : 0 < a
  · rw [if_pos (by omega)]
    refine ⟨by omega, divOk (by unfold Small; rw [Int.natAbs_natCast]; exact Nat.lt_trans k1 (Nat.pow_lt_pow_right (by decide) (by decide))) (by omega), ?_⟩
    rw [fdiv_cast, fmod_cast]
    exact ⟨_, rfl, hL _ _ (Nat.mod_lt _ k0) ⟨_, b, c, rfl, hb, Nat.le_succ_of_le hc⟩⟩
  · rw [if_neg (by omega)]
    have hMM : MM = 2 ^ 40 := rfl
    rw [show ((c : Int) + 1) = ((c + 1 : Nat) : Int) from rfl]
    have sc : Small 41 ((c + 1 : Nat) : Int) := by
      unfold Small; rw [Int.natAbs_natCast]; rw [hMM] at hm; omega
    have sb : Small 127 (b : Int) := by
      unfold Small; rw [Int.natAbs_natCast]; exact Nat.lt_of_lt_of_le hb (by decide +kernel)
    have hcm : c + 1 ≤ m + 1 := by omega
    generalize c + 1 = c' at *
    have m1 : MulOk 46189 (c' : Int) := mulOk (n := 100) (small_lit (by decide +kernel)) (sc.mono (by decide)) (by decide) (by decide)
    have s1 : Small 127 (46189 * (c' : Int) + 3) := by
      unfold Small at sc ⊢
      rw [Int.natAbs_natCast] at sc
      omega
    have m2 := mulOk sb s1 (by decide) (by decide)
    have m3 : MulOk 15485863 (c' : Int) := mulOk (n := 100) (small_lit (by decide +kernel)) (sc.mono (by decide)) (by decide) (by decide)
    have m4 : MulOk 99991 (c' : Int) := mulOk (n := 100) (small_lit (by decide +kernel)) (sc.mono (by decide)) (by decide) (by decide)
    have s2 : Small 255 ((b : Int) * (46189 * (c' : Int) + 3) + 15485863 * (c' : Int)) := by
      have q := sb.mul s1
      unfold Small at sc q ⊢
      rw [Int.natAbs_natCast] at sc
      have e : (2 : Nat) ^ 255 = 2 * 2 ^ (127 + 127) := by decide +kernel
      have e2 : (2 : Nat) ^ 100 ≤ 2 ^ (127 + 127) := by decide +kernel
      have e3 : (2 : Nat) ^ 100 = 1267650600228229401496703205376 := by decide +kernel
      have := Int.natAbs_add_le ((b : Int) * (46189 * (c' : Int) + 3)) (15485863 * (c' : Int))
      have : (15485863 * (c' : Int)).natAbs < 2 ^ 100 := by omega
      omega
    obtain ⟨x, hx⟩ : ∃ x : Nat, (b : Int) * (46189 * (c' : Int) + 3) + 15485863 * (c' : Int) = x := ⟨b * (46189 * c' + 3) + 15485863 * c', rfl⟩
    rw [hx] at s2 ⊢
    have m5 := mulOk s2 s2 (by decide) (by decide)
    obtain ⟨y, hy, sy⟩ : ∃ y : Nat, Int.fmod ((x : Int) * x + 99991 * c') (10 ^ Int.toNat 39 + 133) = y ∧ Small 140 (y : Int) := by
      have e : ((x : Int) * x + 99991 * c') = ((x * x + 99991 * c' : Nat) : Int) := rfl
      have e2 : (10 ^ Int.toNat 39 + 133 : Int) = ((10 ^ 39 + 133 : Nat) : Int) := by decide +kernel
      rw [e, e2, fmod_cast]
      refine ⟨_, rfl, ?_⟩
      unfold Small
      rw [Int.natAbs_natCast]
      exact Nat.lt_trans (Nat.mod_lt _ (by decide +kernel)) (by decide +kernel)
    rw [hy]
    have m6 := mulOk sy sy (by decide) (by decide)
    have m7 := mulOk (sy.mul sy) (sy.mono (by decide)) (by decide) (by decide)
    obtain ⟨z, hz⟩ : ∃ z : Nat, Int.fmod ((y : Int) * y * y + 7919) (10 ^ Int.toNat 41 + 61) = z := by
      have e : ((y : Int) * y * y + 7919) = ((y * y * y + 7919 : Nat) : Int) := rfl
      have e2 : (10 ^ Int.toNat 41 + 61 : Int) = ((10 ^ 41 + 61 : Nat) : Int) := by decide +kernel
      rw [e, e2, fmod_cast]
      exact ⟨_, rfl⟩
    rw [hz]
    have e8 : (10 ^ Int.toNat 8 : Int) = ((10 ^ 8 : Nat) : Int) := by decide +kernel
    rw [e8, fdiv_cast, fmod_cast]
    exact ⟨m1, m2, m3, m5, m4, by decide, by decide +kernel, m6, m7, by decide, by decide +kernel, by decide, divOk (small_lit (by decide +kernel)) (by decide +kernel), by omega, _, rfl, hL _ _ (Nat.mod_lt _ k0) ⟨a, b, c', rfl, hb, hcm⟩⟩
end K82
end

section
set_option Elab.async false
set_option linter.all false
set_option maxRecDepth 100000
set_option maxHeartbeats 4000000
set_option exponentiation.threshold 10000
/-! K82j: well, one, the law's fractions. -/
namespace K82
open PySem PL
structure OneIn where
  m : Nat
  w : PyData
  xs : List PyData
structure OneOk (p : OneIn) : Prop where
  w : OkWl p.m p.w
  m : p.m < MM
  l0 : 0 < p.xs.length
  l1 : p.xs.length < 2 ^ 40
def eOne : Ent := ⟨fun ds L => ∃ p : OneIn, ds = [p.w, .list p.xs] ∧ OneOk p ∧ ∀ i (h : i < p.xs.length) w', OkWl (p.m + 1) w' → L (.sh p.xs[i]) w', true, 0, [], fun h ⟨p, e, ok, g⟩ => ⟨p, e, ok, fun r h0 w' h1 => h _ _ (g r h0 w' h1)⟩⟩
theorem one_does {tb : Tab} (h : tb.fn "_law_dip" = some eDip) : Does tb b_law_one N_law_one.length true eOne.R := by
  rintro ds L ⟨⟨m, w, xs⟩, rfl, ⟨hw, hm, l0, l1⟩, hL⟩
  dsimp only at hw hm l0 l1 hL
  simp_arith [b_law_one, N_law_one, callW_of h rfl, eDip]
  refine ⟨⟨m, w, xs.length⟩, rfl, ⟨hw, hm, l0, l1⟩, fun r w' hr hw' => ?_⟩
  dsimp only at hr
  refine ⟨xs[r], ?_, _, rfl, hL r hr w' hw'⟩
  rw [atI_nat hr, List.getElem?_eq_getElem hr]
structure WellIn where
  ns : List Int
  k : Nat
structure WellOk (p : WellIn) : Prop where
  len : p.ns.length ≤ 63
  k : p.k < 4
  b : ∀ z ∈ p.ns, Small 1048576 z
def eWell : Ent := ⟨fun ds L => ∃ p : WellIn, ds = [.list (p.ns.map .int), .int p.k] ∧ WellOk p ∧ ∀ w, OkWl 8 w → L (.ow w) .none, false, 0, [], fun h ⟨p, e, ok, g⟩ => ⟨p, e, ok, fun w h1 => h _ _ (g w h1)⟩⟩
theorem cutD_map {α β : Type} {f : α → β} {l : List α} {lo hi : Option Int} : cutD (l.map f) lo hi = (cutD l lo hi).map f := by
  unfold cutD
  rw [List.length_map, List.map_take, List.map_drop]
theorem sum_small {n : Nat} {l : List Int} (hl : l.length ≤ 64) (h : ∀ z ∈ l, Small n z) : Small (n + 7) l.sum := by
  have := sum_abs (l := l) (B := 2 ^ n) fun z hz => Nat.le_of_lt (h z hz)
  unfold Small
  have e : 2 ^ (n + 7) = 128 * 2 ^ n := by rw [Nat.pow_add, Nat.mul_comm]
  have e2 : l.length * 2 ^ n ≤ 64 * 2 ^ n := Nat.mul_le_mul_right _ hl
  have := Nat.two_pow_pos n
  omega
theorem allInts_id : ∀ l : List Int, allInts (l.map .int) = some l
  | [] => rfl
  | a :: l => by
    show (allInts (l.map .int)).map (a :: ·) = _
    rw [allInts_id l]; rfl
theorem small_add {n : Nat} {i j : Int} (h : Small n i) (h' : Small n j) : Small (n + 1) (i + j) := by
  unfold Small at *
  rw [Nat.pow_succ]
  omega
theorem well_does {tb : Tab} : Does tb b_law_well N_law_well.length false eWell.R := by
  rintro ds L ⟨⟨ns, k⟩, rfl, ⟨hl, hk, hb⟩, hL⟩
  dsimp only at hl hk hb hL
  have fin : ∀ cell : Int, Small 1048600 cell → ((0 : Int) ≤ 18 ∧ (18 : Int) ≤ 1000000 ∧ Int.natAbs 10 < 2 ^ 64) ∧ PL.MulOk cell 17 ∧ PL.MulOk 811 k ∧ ((0 : Int) ≤ 37 ∧ (37 : Int) ≤ 1000000 ∧ Int.natAbs 10 < 2 ^ 64) ∧ (10 ^ Int.toNat 37 + 61 : Int) ≠ 0 ∧ PL.MulOk 2 k ∧
      L (.ow (.list [.int (if cell - 10 ^ Int.toNat 18 > 0 then cell - 10 ^ Int.toNat 18 else 0), .int ((cell * 17 + 811 * k).fmod (10 ^ Int.toNat 37 + 61)), .int (2 * k)])) .none := fun cell sc => by
    have sk : Small 100 (k : Int) := by
      unfold Small
      rw [Int.natAbs_natCast]
      exact Nat.lt_trans hk (by decide +kernel)
    refine ⟨by decide, mulOk sc (small_lit (by decide +kernel : decide ((17 : Int).natAbs < 2 ^ 5) = true) |>.mono (by decide)) (by decide) (by decide), mulOk (n := 100) (small_lit (by decide +kernel)) sk (by decide) (by decide), by decide, by decide +kernel, mulOk (n := 100) (small_lit (by decide +kernel)) sk (by decide) (by decide), ?_⟩
    refine hL _ ⟨(if cell - 10 ^ Int.toNat 18 > 0 then cell - 10 ^ Int.toNat 18 else 0).toNat, ((cell * 17 + 811 * k).fmod (10 ^ Int.toNat 37 + 61)).toNat, 2 * k, ?_, ?_, by omega⟩
    · have h1 : 0 ≤ (if cell - 10 ^ Int.toNat 18 > 0 then cell - 10 ^ Int.toNat 18 else 0) := by split <;> omega
      have h2 : 0 ≤ (cell * 17 + 811 * k).fmod (10 ^ Int.toNat 37 + 61) := Int.fmod_nonneg_of_pos _ (by decide +kernel)
      unfold wlD
      rw [Int.toNat_of_nonneg h1, Int.toNat_of_nonneg h2]; rfl
    · have h2 : 0 ≤ (cell * 17 + 811 * k).fmod (10 ^ Int.toNat 37 + 61) := Int.fmod_nonneg_of_pos _ (by decide +kernel)
      have h3 : (cell * 17 + 811 * k).fmod (10 ^ Int.toNat 37 + 61) < 10 ^ Int.toNat 37 + 61 := Int.fmod_lt_of_pos _ (by decide +kernel)
      have h4 : (10 ^ Int.toNat 37 + 61 : Int) < 10 ^ 38 := by decide +kernel
      have h5 : ((10 ^ 38 : Nat) : Int) = 10 ^ 38 := by decide +kernel
      omega
  have b2 : ∀ z ∈ cutD ns none (some 2), Small 1048576 z := fun z hz => hb z (List.mem_of_mem_drop (List.mem_of_mem_take hz))
  have l2 : (cutD ns none (some 2)).length ≤ 64 := by
    unfold cutD
    rw [List.length_take, List.length_drop]; omega
  have sS := sum_small l2 b2
  have sk : Small 100 (k : Int) := by
    unfold Small
    rw [Int.natAbs_natCast]
    exact Nat.lt_trans hk (by decide +kernel)
  simp_arith [b_law_well, N_law_well]
  refine ⟨mulOk (n := 100) (small_lit (by decide +kernel)) sk (by decide) (by decide), cutD ns none (some 2), by rw [cutD_map]; exact allInts_id _, mulOk ((small_lit (by decide +kernel : decide ((29 : Int).natAbs < 2 ^ 5) = true)).mono (by decide)) sS (by decide) (by decide), ?_⟩
  rw [List.length_map]
  by_cases hkl : k < ns.length
  · rw [if_pos (by omega)]
    refine ⟨.int ns[k], atI_map hkl, ?_⟩
    simp_arith
    exact fin _ ((hb _ (List.getElem_mem hkl)).mono (by decide))
  · rw [if_neg (by omega)]
    refine fin _ ?_
    have s29 := (small_lit (by decide +kernel : decide ((29 : Int).natAbs < 2 ^ 5) = true)).mul sS
    have sk2 : Small 1048595 (6151 * (k : Int)) := by
      have : Small 20 (6151 * (k : Int)) := by
        unfold Small
        have : (2 : Nat) ^ 20 = 1048576 := by decide
        omega
      exact this.mono (by decide)
    have := small_add (sk2.mono (by decide : 1048595 ≤ 1048599)) (s29.mono (by decide : _ ≤ 1048599))
    exact this
end K82
end

section
set_option Elab.async false
set_option linter.all false
set_option maxRecDepth 100000
set_option maxHeartbeats 4000000
set_option exponentiation.threshold 10000
/-! K82k: the law's fractions. -/
namespace K82
open PySem PL
theorem llow_does {tb : Tab} : Does tb b_law_low N_law_low.length false eLow.R := by
  rintro ds L ⟨⟨a, b⟩, rfl, ⟨hb0, ha, hb⟩, hL⟩
  dsimp only at hb0 ha hb hL
  simp_arith [b_law_low, N_law_low]
  rw [abs_if]
  refine whl_ok (fun m e => ∃ (x y : Nat), e = [.sh (.int a), .sh (.int b), .sh (.int x), .sh (.int y)] ∧ Nat.gcd x y = Int.gcd a b ∧ m = y ∧ Small 9000 x ∧ Small 9000 y) (fun m e hW => ?_) ⟨a.natAbs, b, rfl, rfl, rfl, small_abs ha, hb⟩
  obtain ⟨x, y, rfl, hg, hm, hx, hy⟩ := hW
  simp_arith
  by_cases hy0 : (0 : Int) < y
  · rw [if_pos hy0]
    have hy0' : 0 < y := by omega
    refine ⟨divOk hy (by omega), mulOk (n := 9000) (small_fdiv hx) hy (by decide) (by decide), ?_⟩
    rw [fdiv_mod x y hy0']
    refine ⟨x % y, by rw [hm]; exact Nat.mod_lt _ hy0', y, x % y, rfl, ?_, rfl, hy, ?_⟩
    · rw [← hg, Nat.gcd_comm x y, Nat.gcd_rec y x, Nat.gcd_comm]
    · exact hy.le (by rw [Int.natAbs_natCast, Int.natAbs_natCast]; exact Nat.le_of_lt (Nat.mod_lt _ hy0'))
  · rw [if_neg hy0]
    have : y = 0 := by omega
    subst this
    rw [Nat.gcd_zero_right] at hg
    subst hg
    have g0 := gcd_pos (a := a) hb0
    refine ⟨divOk hx (by omega), divOk hx (by omega), ?_⟩
    rw [fr_mk a b hb0] at hL
    rw [fdiv_cast, Int.fdiv_eq_ediv_of_nonneg _ (by omega)]
    exact hL
theorem ltimes_does {tb : Tab} (h : tb.fn "_law_low" = some eLow) : Does tb b_law_times N_law_times.length false eTimes.R := by
  rintro ds L ⟨⟨⟨a, b⟩, c, d⟩, rfl, ⟨⟨hb0, hd0⟩, ⟨ha, hb⟩, hc, hd⟩, hL⟩
  dsimp only at hb0 hd0 ha hb hc hd hL
  simp_arith [b_law_times, N_law_times, call0_of h rfl, eLow]
  refine ⟨mulOk ha hc (by decide) (by decide), mulOk hb hd (by decide) (by decide), ⟨a * c, b * d⟩, rfl, ⟨Nat.mul_pos hb0 hd0, ha.mul hc, ?_⟩, ?_⟩
  · have := hb.mul hd
    rwa [← Int.natCast_mul] at this
  · rw [Rat.mkRat_mul_mkRat] at hL
    exact hL
def ePlus : Ent := fnE (fun p : PP => [pr p.1.1 p.1.2, pr p.2.1 p.2.2]) (fun p => (0 < p.1.2 ∧ 0 < p.2.2) ∧ (Small 4400 p.1.1 ∧ Small 4400 p.1.2) ∧ Small 4400 p.2.1 ∧ Small 4400 p.2.2) (fun p => fr (mkRat p.1.1 p.1.2 + mkRat p.2.1 p.2.2))
theorem lplus_does {tb : Tab} (h : tb.fn "_law_low" = some eLow) : Does tb b_law_plus N_law_plus.length false ePlus.R := by
  rintro ds L ⟨⟨⟨a, b⟩, c, d⟩, rfl, ⟨⟨hb0, hd0⟩, ⟨ha, hb⟩, hc, hd⟩, hL⟩
  dsimp only at hb0 hd0 ha hb hc hd hL
  simp_arith [b_law_plus, N_law_plus, call0_of h rfl, eLow]
  refine ⟨mulOk ha hd (by decide) (by decide), mulOk hc hb (by decide) (by decide), mulOk hb hd (by decide) (by decide), ⟨a * d + c * b, b * d⟩, rfl, ⟨Nat.mul_pos hb0 hd0, (small_add (ha.mul hd) (hc.mul hb)).mono (by decide), ?_⟩, ?_⟩
  · have := hb.mul hd
    rw [← Int.natCast_mul] at this
    exact this.mono (by decide)
  · have e := Rat.mkRat_add_mkRat a c (d₁ := b) (d₂ := d) (by omega) (by omega)
    dsimp only
    rw [← e]
    exact hL
def eBelow : Ent := fnE (fun p : Rat × Rat => [fr p.1, fr p.2]) (fun p => (Small 4500 p.1.num ∧ Small 4500 p.1.den) ∧ Small 4500 p.2.num ∧ Small 4500 p.2.den) (fun p => .bool (decide (p.1 < p.2)))
theorem lbelow_does {tb : Tab} : Does tb b_law_below N_law_below.length false eBelow.R := by
  rintro ds L ⟨⟨q, r⟩, rfl, ⟨⟨ha, hb⟩, hc, hd⟩, hL⟩
  dsimp only at ha hb hc hd hL
  simp_arith [b_law_below, N_law_below]
  refine ⟨mulOk ha hd (by decide) (by decide), mulOk hc hb (by decide) (by decide), ?_⟩
  have e : q < r ↔ q.num * (r.den : Int) < r.num * (q.den : Int) := by
    have e1 := mk_lt (a := q.num) (c := r.num) q.den_pos r.den_pos
    rwa [Rat.mkRat_self, Rat.mkRat_self] at e1
  rw [← decide_eq_decide.mpr e]
  exact hL
theorem sum_den {M : Nat} (hM : 0 < M) : ∀ {l : List Rat}, (∀ q ∈ l, Qok M q) → l.sum.den ∣ M := fun {l} h => by
  rw [← qsum_nd]
  refine qsum_den hM fun q hq => ?_
  obtain ⟨r, hr, rfl⟩ := List.mem_map.mp hq
  exact (nd_ok (h r hr)).1
theorem sum_bnd {M : Nat} : ∀ {l : List Rat}, (∀ q ∈ l, Qok M q) → 0 ≤ l.sum ∧ l.sum ≤ (l.length : Nat)
  | [], _ => by simp
  | q :: l, h => by
    obtain ⟨i1, i2⟩ := sum_bnd (l := l) fun z hz => h z (List.mem_cons_of_mem _ hz)
    have hq := h q (List.mem_cons_self ..)
    rw [List.sum_cons, List.length_cons]
    refine ⟨Rat.add_nonneg hq.1 i1, ?_⟩
    have := add_le hq.2.1 i2
    rw [Rat.add_comm 1] at this
    push_cast
    exact this
theorem num_le {q : Rat} {k : Nat} (h0 : 0 ≤ q) (h : q ≤ (k : Rat)) : q.num.natAbs ≤ k * q.den := by
  have a := Rat.num_nonneg.mpr h0
  rw [Rat.le_iff] at h
  simp at h
  have e : ((k * q.den : Nat) : Int) = k * q.den := by push_cast; rfl
  omega
structure SumIn where
  qs : List Rat
  M : Nat
structure SumOk (p : SumIn) : Prop where
  M0 : 0 < p.M
  s : Small 4300 (p.M : Int)
  q : ∀ q ∈ p.qs, Qok p.M q
  len : p.qs.length ≤ LIM
theorem SumOk.part {p : SumIn} (h : SumOk p) (i : Nat) : Small 4400 (p.qs.take i).sum.num ∧ Small 4400 (p.qs.take i).sum.den := by
  have hq : ∀ q ∈ p.qs.take i, Qok p.M q := fun q hq => h.q q (List.mem_of_mem_take hq)
  have d := sum_den h.M0 hq
  obtain ⟨b0, b1⟩ := sum_bnd hq
  have sd := small_dvd h.s h.M0 d
  refine ⟨?_, sd.mono (by decide)⟩
  have n := num_le b0 b1
  have s : Small (25 + 4300) ((LIM : Int) * (p.qs.take i).sum.den) := (small_lit (by decide +kernel)).mul sd
  refine (s.le ?_).mono (by decide)
  rw [← Int.natCast_mul, Int.natAbs_natCast]
  refine Nat.le_trans n (Nat.mul_le_mul_right _ ?_)
  rw [List.length_take]
  have := h.len
  omega
def eSum : Ent := fnE (fun p : SumIn => [.list (p.qs.map fr)]) SumOk (fun p => fr p.qs.sum)
theorem lsum_does {tb : Tab} (h : tb.fn "_law_plus" = some ePlus) : Does tb b_law_sum N_law_sum.length false eSum.R := by
  rintro ds L ⟨p, rfl, hp, hL⟩
  simp_arith [b_law_sum, N_law_sum]
  refine for_list (fun i e => ∃ s, Wk s ∧ e = [.sh (.list (p.qs.map fr)), .sh (fr (p.qs.take i).sum), s]) ⟨.un, trivial, rfl⟩ (fun i hi e hI => ?_) fun e hI => ?_
  · obtain ⟨s, k, rfl⟩ := hI
    simp_arith [wrK_wk k, call0_of h rfl, ePlus]
    have q := hp.q _ (List.getElem_mem hi)
    obtain ⟨s1, s2⟩ := hp.part i
    refine ⟨⟨⟨(p.qs.take i).sum.num, (p.qs.take i).sum.den⟩, p.qs[i].num, p.qs[i].den⟩, rfl, ⟨⟨Rat.den_pos _, Rat.den_pos _⟩, ⟨s1, s2⟩, (q.num hp.M0 hp.s).mono (by decide), (q.den hp.M0 hp.s).mono (by decide)⟩, ?_⟩
    dsimp only
    rw [Rat.mkRat_self, Rat.mkRat_self, List.take_succ_eq_append_getElem hi, List.sum_append]
    rw [List.sum_cons, List.sum_nil, Rat.add_zero]
    exact ⟨_, wk_sh, rfl⟩
  · obtain ⟨s, k, rfl⟩ := hI
    rw [List.take_length]
    simp_arith
    exact hL
end K82
end

section
set_option Elab.async false
set_option linter.all false
set_option maxRecDepth 100000
set_option maxHeartbeats 4000000
set_option exponentiation.threshold 10000
/-! K82n: _law_is_small, _law_told. -/
namespace K82
open PySem PL
theorem eqv_nil {α : Type} (l : List α) (f : α → PyData) : PyData.eqv (.list (l.map f)) (.list []) = l.isEmpty := by
  cases l <;> simp [PyData.eqv, PyData.eqvAll]
theorem shp_ones {α : Type} (l : List α) : Shp 2 (.list (l.map fun _ => .int 1)) := shp_list fun d hd => by
  obtain ⟨a, _, rfl⟩ := List.mem_map.mp hd
  exact shp_int (by decide)
def smD (d : Deed) : Bool := d.all fun m => decide (m.p.2 ≤ 1000)
def smC (C : Chooser) : Bool := C.all fun ds => ds.all smD
def eIsSm : Ent := fnE (fun C : Chooser => [chooserD C]) OkC0 (fun C => .bool (smC C))
end K82
end

section
set_option Elab.async false
set_option linter.all false
set_option maxRecDepth 100000
set_option maxHeartbeats 4000000
set_option exponentiation.threshold 10000
/-! K82o: _law_same: the same data at both sides. -/
namespace K82
open PySem PL
def Wd : Nat → PyData → Prop
  | 0, _ => False
  | _ + 1, .dict _ => False
  | k + 1, .list l => l.length ≤ LIM ∧ ∀ x ∈ l, Wd k x
  | k + 1, .tuple l => l.length ≤ LIM ∧ ∀ x ∈ l, Wd k x
  | _ + 1, .str s => PyData.strOk s = true
  | _ + 1, _ => True
theorem Wd.shp : ∀ {k : Nat} {d : PyData}, Wd k d → Shp k d
  | k + 1, .list l, h => shp_list fun x hx => Wd.shp (h.2 x hx)
  | k + 1, .tuple l, h => shp_tup fun x hx => Wd.shp (h.2 x hx)
  | k + 1, .none, _ => by simp [Shp, PyData.canLay0, PyData.depth]
  | k + 1, .bool _, _ => by simp [Shp, PyData.canLay0, PyData.depth]
  | k + 1, .int _, _ => by simp [Shp, PyData.canLay0, PyData.depth]
  | k + 1, .str _, h => by
    have h : PyData.strOk _ = true := h
    simp [Shp, PyData.canLay0, PyData.depth, h]
def eSame (k : Nat) : Ent := fnE (fun d : PyData => [d, d]) (Wd k) (fun _ => .bool true)
theorem same0_does {tb : Tab} : Does tb b_law_same N_law_same.length false (eSame 0).R := by
  rintro ds L ⟨d, rfl, h, hL⟩
  exact h.elim
theorem zip_self {l : List PyData} : zipL l l = l.map fun x => .tuple [x, x] := by
  unfold zipL
  induction l with
  | nil => rfl
  | cons a l ih => rw [List.zip_cons_cons, List.map_cons, ih, List.map_cons]
theorem same_tail {tb : Tab} {k : Nat} (hk : k < 60) (h : tb.fn "_law_same" = some (eSame k)) {l : List PyData} {a b : PyData} (hab : a = b) (h1 : l.length ≤ LIM) (h2 : ∀ x ∈ l, Wd k x) {L : Sl → PyData → Prop} (hL : L (.sh (.bool true)) .none) :
    (zipL l l).length ≤ LIM ∧ lcK tb [2, 3] (.tup [2, 3]) (.one (.not (.val (.call "_law_same" 0 (.cons (.var 2) (.cons (.var 3) .nil)))))) (.int 1) (zipL l l) [.sh a, .sh b, .un, .un] fun acc e => cmpS .Eq (.list acc) (.list []) fun c => L (.sh (.bool c)) .none := by
  rw [zip_self]
  refine ⟨by rw [List.length_map]; exact h1, lcK_filt (fun _ => false) (fun x => x) (fun x hx => ?_) ?_⟩
  · simp_arith [call0_of h rfl, eSame]
    exact ⟨x, rfl, h2 x hx⟩
  · have e : (l.filter fun _ => false).map (fun x => x) = ([] : List PyData) := by simp
    rw [e, C_eq]
    refine ⟨by decide +kernel, by decide +kernel, ?_⟩
    rw [show PyData.eqv (.list []) (.list []) = true by decide +kernel]
    exact hL
theorem same_does {tb : Tab} {k : Nat} (hk : k < 60) (h : tb.fn "_law_same" = some (eSame k)) : Does tb b_law_same N_law_same.length false (eSame (k + 1)).R := by
  rintro ds L ⟨d, rfl, hd, hL⟩
  have hs := shp_shaped hd.shp (by omega)
  have hr : PyData.eqv d d = true := SeqAt.eqv_refl d (SeqAt.canLay_of_shaped hs)
  match d, hd, hs, hr with
  | .none, hd, hs, hr =>
    simp_arith [b_law_same, N_law_same]
    exact hL
  | .bool b, hd, hs, hr =>
    simp_arith [b_law_same, N_law_same, C_eq]
    refine ⟨hs, hs, ?_⟩
    rw [hr]
    exact hL
  | .int i, hd, hs, hr =>
    simp_arith [b_law_same, N_law_same]
    simpa using hL
  | .str s, hd, hs, hr =>
    simp_arith [b_law_same, N_law_same, C_eq]
    refine ⟨hs, hs, ?_⟩
    rw [hr]
    exact hL
  | .list l, hd, hs, hr =>
    simp_arith [b_law_same, N_law_same]
    rw [C_ne]
    refine ⟨by decide +kernel, by decide +kernel, ?_⟩
    rw [show (!PyData.eqv (.bool true) (.bool true)) = false by decide +kernel]
    rw [if_neg (by decide), if_neg (by simp)]
    exact same_tail hk h rfl hd.1 hd.2 hL
  | .tuple l, hd, hs, hr =>
    simp_arith [b_law_same, N_law_same]
    rw [C_ne]
    refine ⟨by decide +kernel, by decide +kernel, ?_⟩
    rw [show (!PyData.eqv (.bool false) (.bool false)) = false by decide +kernel]
    rw [if_neg (by decide), if_neg (by simp)]
    exact same_tail hk h rfl hd.1 hd.2 hL
end K82
end

section
set_option Elab.async false
set_option linter.all false
set_option maxRecDepth 100000
set_option maxHeartbeats 4000000
set_option exponentiation.threshold 10000
/-! K82r: _law_tuples, _law_all_times: all choices. -/
namespace K82
open PySem PL
def OkK (C : Chooser) (k : List Nat) : Prop := k.length = C.length ∧ ∀ i (h : i < C.length), k.getD i 0 < C[i].length
def tpStep (acc : List (List Nat)) (n : Nat) : List (List Nat) := acc.flatMap fun one => (List.range n).map fun a => one ++ [a]
def tps (C : Chooser) : Nat → List (List Nat)
  | 0 => [[]]
  | i + 1 => tpStep (tps C i) (C.getD i []).length
theorem tps_mem {C : Chooser} : ∀ {i : Nat}, i ≤ C.length → ∀ k, k ∈ tps C i ↔ k.length = i ∧ ∀ j (h : j < C.length), j < i → k.getD j 0 < C[j].length
  | 0, _, k => by
    simp only [tps, List.mem_singleton]
    constructor
    · rintro rfl; exact ⟨rfl, fun j _ h => absurd h (Nat.not_lt_zero _)⟩
    · rintro ⟨h, _⟩; exact List.length_eq_zero_iff.mp h
  | i + 1, hi, k => by
    have ih := tps_mem (C := C) (i := i) (by omega)
    have hi' : i < C.length := hi
    have e : C.getD i [] = C[i] := by rw [List.getD_eq_getElem?_getD, List.getElem?_eq_getElem hi']; rfl
    simp only [tps, tpStep, e, List.mem_flatMap, List.mem_map, List.mem_range]
    constructor
    · rintro ⟨one, h1, a, ha, rfl⟩
      obtain ⟨l1, l2⟩ := (ih one).mp h1
      refine ⟨by simp [l1], fun j hj hji => ?_⟩
      by_cases q : j = i
      · subst q
        have : (one ++ [a]).getD j 0 = a := by
          rw [List.getD_eq_getElem?_getD, List.getElem?_append_right (by omega)]
          simp [l1]
        rw [this]; exact ha
      · have h := l2 j hj (by omega)
        rw [List.getD_eq_getElem?_getD] at h ⊢
        rw [List.getElem?_append_left (by omega)]
        exact h
    · rintro ⟨h1, h2⟩
      have hl : i < k.length := by omega
      refine ⟨k.take i, (ih _).mpr ⟨by rw [List.length_take]; omega, fun j hj hji => ?_⟩, k[i], ?_, ?_⟩
      · have h := h2 j hj (by omega)
        rw [List.getD_eq_getElem?_getD] at h ⊢
        rw [List.getElem?_take_of_lt hji]
        exact h
      · have h := h2 i hi' (by omega)
        rw [List.getD_eq_getElem?_getD, List.getElem?_eq_getElem hl] at h
        exact h
      · rw [← List.take_succ_eq_append_getElem hl, List.take_of_length_le (by omega)]
theorem tps_all {C : Chooser} (k : List Nat) : k ∈ tps C C.length ↔ OkK C k := by
  rw [tps_mem (Nat.le_refl _)]
  exact ⟨fun ⟨a, b⟩ => ⟨a, fun i h => b i h h⟩, fun ⟨a, b⟩ => ⟨a, fun i h _ => b i h⟩⟩
theorem tps_len {C : Chooser} (hC : OkC C) : ∀ i, i ≤ C.length → (tps C i).length ≤ 3 ^ i
  | 0, _ => by simp [tps]
  | i + 1, hi => by
    have ih := tps_len hC i (by omega)
    have hi' : i < C.length := hi
    have e : C.getD i [] = C[i] := by rw [List.getD_eq_getElem?_getD, List.getElem?_eq_getElem hi']; rfl
    have l3 := (hC.ch _ (List.getElem_mem hi')).1.2
    simp only [tps, tpStep, e, List.length_flatMap, List.length_map, List.length_range]
    have : ((tps C i).map fun _ => C[i].length).sum = (tps C i).length * C[i].length := by
      induction (tps C i) with
      | nil => simp
      | cons a l ih => simp [ih, Nat.add_mul]; omega
    rw [this, Nat.pow_succ]
    exact Nat.mul_le_mul ih l3
def tupD (ks : List (List Nat)) : PyData := .list (ks.map idxD)
def eTup : Ent := fnE (fun C : Chooser => [chooserD C]) (fun C => OkC C) (fun C => tupD (tps C C.length))
theorem idxD_app (k : List Nat) (a : Nat) : PyData.tuple ((k.map fun k => PyData.int (k : Nat)) ++ [.int (a : Nat)]) = idxD (k ++ [a]) := by simp [idxD]
theorem tuples_does {tb : Tab} : Does tb b_law_tuples N_law_tuples.length false eTup.R := by
  rintro ds L ⟨C, rfl, hC, hL⟩
  have l1 := hC.l1
  have eLIM : LIM = 16777216 := rfl
  have ln : ∀ i, i ≤ C.length → (tps C i).length ≤ 729 := fun i hi => Nat.le_trans (tps_len hC i hi) (by
    have : (3 : Nat) ^ i ≤ 3 ^ 6 := Nat.pow_le_pow_right (by decide) (by omega)
    exact this)
  simp_arith [b_law_tuples, N_law_tuples, chooserD]
  refine for_list (fun i e => ∃ s2 s3 s4 s5, (Wk s2 ∧ Wk s3 ∧ Wk s4 ∧ Wk s5) ∧ e = [Sl.sh (.tuple (C.map choiceD)), .sh (tupD (tps C i)), s2, s3, s4, s5]) ⟨.un, .un, .un, .un, ⟨trivial, trivial, trivial, trivial⟩, rfl⟩ (fun i hi e hI => ?_) fun e hI => ?_
  · obtain ⟨s2, s3, s4, s5, ⟨k2, k3, k4, k5⟩, rfl⟩ := hI
    have hCi := (hC.ch _ (List.getElem_mem hi)).1
    have eg : C.getD i [] = C[i] := by rw [List.getD_eq_getElem?_getD, List.getElem?_eq_getElem hi]; rfl
    have es : tps C (i + 1) = tpStep (tps C i) C[i].length := by rw [← eg]; rfl
    have l0 := ln i (by omega)
    simp_arith [wrK_wk k2, wrK_wk k3, choiceD, tupD]
    refine for_list (fun j e => ∃ s4 s5, (Wk s4 ∧ Wk s5) ∧ e = [Sl.sh (.tuple (C.map choiceD)), .sh (.list ((tps C i).map idxD)), .sh (.tuple (C[i].map deedD)), .ow (tupD (tpStep ((tps C i).take j) C[i].length)), s4, s5]) ⟨s4, s5, ⟨k4, k5⟩, by rw [List.take_zero]; rfl⟩ (fun j hj e hI => ?_) fun e hI => ?_
    · obtain ⟨s4, s5, ⟨k4, k5⟩, rfl⟩ := hI
      simp_arith [wrK_wk k4, wrK_wk k5, tupD]
      rw [List.length_map, Int.toNat_natCast]
      refine ⟨⟨by omega, by omega⟩, by simp [rangeL]; omega, ?_⟩
      unfold rangeL
      refine lcK_list (fun a => idxD ((tps C i)[j] ++ [a])) (fun a ha => ?_) ?_
      · simp_arith [idxD]
        have ha : a < C[i].length := List.mem_range.mp ha
        have hl := ((tps_mem (C := C) (i := i) (by omega) _).mp (List.getElem_mem hj)).1
        refine ⟨by rw [List.length_map]; omega, ?_⟩
        simp only [Int.zero_add, Int.mul_one, List.map_append, List.map_cons, List.map_nil]
      · simp_arith [wrK_wk k4, wrK_wk k5]
        have lt : (tpStep ((tps C i).take j) C[i].length).length ≤ 729 * 3 := by
          unfold tpStep
          simp only [List.length_flatMap, List.length_map, List.length_range]
          have : (((tps C i).take j).map fun _ => C[i].length).sum = ((tps C i).take j).length * C[i].length := by
            induction ((tps C i).take j) with
            | nil => simp
            | cons a l ih => simp [ih, Nat.add_mul]; omega
          rw [this]
          exact Nat.mul_le_mul (by rw [List.length_take]; omega) hCi.2
        refine ⟨by rw [List.length_map, List.length_map, List.length_range]; omega, ?_⟩
        have e : tpStep ((tps C i).take (j + 1)) C[i].length = tpStep ((tps C i).take j) C[i].length ++ (List.range C[i].length).map fun a => (tps C i)[j] ++ [a] := by
          unfold tpStep
          rw [List.take_succ_eq_append_getElem hj, List.flatMap_append]
          simp
        have e3 : (tpStep ((tps C i).take j) C[i].length).map idxD ++ (List.range C[i].length).map (fun a => idxD ((tps C i)[j] ++ [a])) = (tpStep ((tps C i).take (j + 1)) C[i].length).map idxD := by
          rw [e, List.map_append, List.map_map]; rfl
        rw [e3]
        exact ⟨_, _, ⟨wk_sh, k5⟩, rfl⟩
    · obtain ⟨s4, s5, ⟨k4, k5⟩, rfl⟩ := hI
      rw [List.take_length, ← es]
      simp_arith [tupD]
      exact ⟨_, _, _, _, ⟨wk_sh, wk_sh, k4, k5⟩, rfl⟩
  · obtain ⟨s2, s3, s4, s5, _, rfl⟩ := hI
    simp_arith
    exact hL

/-! ### all choices for all words -/
theorem shp_idx (k : List Nat) : Shp 2 (idxD k) := shp_tup fun d hd => by
  obtain ⟨a, _, rfl⟩ := List.mem_map.mp hd
  exact shp_int (by decide)
theorem shp_tupD (ks : List (List Nat)) : Shp 3 (tupD ks) := shp_list fun d hd => by
  obtain ⟨a, _, rfl⟩ := List.mem_map.mp hd
  exact shp_idx a
end K82
end

section
set_option Elab.async false
set_option linter.all false
set_option maxRecDepth 100000
set_option maxHeartbeats 4000000
set_option exponentiation.threshold 10000
/-! K82u: _law_doubled, _law_moves: deeds as they are drawn. -/
namespace K82
open PySem PL
/-- a deed all of whose fractions have one number below -/
def Uni (n : Nat) (d : Deed) : Prop := ∃ W, OkDeed n W d ∧ ∀ m ∈ d, m.p.2 = W
def dblM (m : Mv) : Mv := { m with p := (2 * m.p.1, 2 * m.p.2) }
def dbl (d : Deed) : Deed := if d.any (fun m => decide (1000 < m.p.2)) = true then d else d.map dblM
theorem qv_dbl (m : Mv) : qv (dblM m).p = qv m.p := by
  show mkRat (2 * m.p.1) (2 * m.p.2) = mkRat m.p.1 m.p.2
  exact Rat.mkRat_mul_left (by decide)
theorem dbl_uni {n : Nat} {d : Deed} (h : Uni n d) : Uni n (dbl d) := by
  unfold dbl
  split
  · exact h
  · rename_i hs
    obtain ⟨W, hW, hu⟩ := h
    have hs : ∀ m ∈ d, m.p.2 ≤ 1000 := by
      simp only [List.any_eq_true, decide_eq_true_eq, not_exists, not_and, Nat.not_lt] at hs
      exact hs
    by_cases hd : d = []
    · subst hd
      exact ⟨W, hW, fun m hm => by cases hm⟩
    · obtain ⟨m0, hm0⟩ := List.exists_mem_of_ne_nil d hd
      have hW1 : W ≤ 1000 := by rw [← hu m0 hm0]; exact hs m0 hm0
      refine ⟨2 * W, ⟨by rw [List.length_map]; exact hW.len, fun m hm => ?_, fun i hi => ?_, by have := hW.W0; omega, by omega, fun m hm => ?_, ?_⟩, fun m hm => ?_⟩
      · obtain ⟨m', hm', rfl⟩ := List.mem_map.mp hm
        obtain ⟨a, b, ⟨c1, c2, c3, c4⟩, e⟩ := hW.mv m' hm'
        have := hs m' hm'
        exact ⟨a, b, ⟨by show 0 < 2 * m'.p.2; omega, by show 2 * m'.p.2 ≤ _; omega, by show 0 ≤ 2 * m'.p.1; omega, by show 2 * m'.p.1 ≤ ((2 * m'.p.2 : Nat) : Int); omega⟩, by show 0 < 2 * m'.p.1; omega⟩
      · rw [List.length_map] at hi
        rw [List.getElem_map, List.getElem_map]
        exact hW.srt i hi
      · obtain ⟨m', hm', rfl⟩ := List.mem_map.mp hm
        show 2 * m'.p.2 ∣ _
        rw [hu m' hm']
        exact Nat.dvd_refl _
      · have : qsum ((d.map dblM).map (·.p)) = qsum (d.map (·.p)) := by
          unfold qsum
          rw [List.map_map, List.map_map, List.map_map]
          congr 1
          exact List.map_congr_left fun m _ => qv_dbl m
        rw [this]; exact hW.le1
      · obtain ⟨m', hm', rfl⟩ := List.mem_map.mp hm
        show 2 * m'.p.2 = _
        rw [hu m' hm']
def eDbl : Ent := fnE (fun d : Deed => [deedD d]) (fun d => d.length ≤ LIM ∧ ∀ m ∈ d, OkPa m.p) (fun d => deedD (dbl d))
theorem doubled_does {tb : Tab} : Does tb b_law_doubled N_law_doubled.length false eDbl.R := by
  rintro ds L ⟨d, rfl, ⟨hl, hd⟩, hL⟩
  have sm : ∀ m ∈ d, Small 21 m.p.1 ∧ Small 21 (m.p.2 : Int) := fun m hm => ⟨(hd m hm).small.1.mono (by decide), (hd m hm).small.2.mono (by decide)⟩
  simp_arith [b_law_doubled, N_law_doubled, deedD]
  refine ⟨by rw [List.length_map]; exact hl, lcK_filt (fun m => decide (1000 < m.p.2)) (fun _ => .int 1) (fun m hm => ?_) ?_⟩
  · simp_arith [Mv.D]
    by_cases hb : (1000 : Int) < m.p.2
    · have : 1000 < m.p.2 := by omega
      simp [hb, this]
    · have : ¬ 1000 < m.p.2 := by omega
      simp [hb, this]
  · simp_arith [C_ne]
    refine ⟨shp_shaped (shp_ones _) (by decide), by decide +kernel, ?_⟩
    rw [eqv_nil]
    dsimp only [dbl] at hL
    by_cases hs : d.any (fun m => decide (1000 < m.p.2)) = true
    · rw [if_pos hs] at hL
      obtain ⟨m, hm, hb⟩ := List.any_eq_true.mp hs
      have : ¬ (d.filter fun m => decide (1000 < m.p.2)) = [] := fun z => by
        rw [List.filter_eq_nil_iff] at z
        exact z m hm hb
      rw [if_pos (by simp [List.isEmpty_iff, this])]
      exact hL
    · rw [if_neg hs] at hL
      have : (d.filter fun m => decide (1000 < m.p.2)) = [] := by
        rw [List.filter_eq_nil_iff]
        intro m hm hb
        exact hs (List.any_eq_true.mpr ⟨m, hm, hb⟩)
      rw [if_neg (by simp [this])]
      refine ⟨by rw [List.length_map]; exact hl, lcK_list (fun m => (dblM m).D) (fun m hm => ?_) ?_⟩
      · simp_arith [Mv.D]
        obtain ⟨s1, s2⟩ := sm m hm
        exact ⟨mulOk (n := 100) (small_lit (by decide +kernel)) (s1.mono (by decide)) (by decide) (by decide), mulOk (n := 100) (small_lit (by decide +kernel)) (s2.mono (by decide)) (by decide) (by decide), rfl⟩
      · have e : d.map (fun m => (dblM m).D) = (d.map dblM).map Mv.D := by rw [List.map_map]; rfl
        rw [e]
        exact hL
/-! ### ends, sorted -/
abbrev End := Nat × Nat
def enD (e : End) : PyData := .tuple [.str (ltr e.1), .int (e.2 : Nat)]
def enLe (a b : End) : Bool := decide (a.1 < b.1 ∨ a.1 = b.1 ∧ a.2 ≤ b.2)
def OkEn (n : Nat) (e : End) : Prop := e.1 < 3 ∧ e.2 < n
theorem shp_en (e : End) (h : e.1 < 3) : Shp 2 (enD e) := shp_tup fun d hd => by
  simp only [List.mem_cons, List.not_mem_nil, or_false] at hd
  rcases hd with rfl | rfl
  · match e.1, h with
    | 0, _ => exact ⟨by decide +kernel, by decide +kernel⟩
    | 1, _ => exact ⟨by decide +kernel, by decide +kernel⟩
    | 2, _ => exact ⟨by decide +kernel, by decide +kernel⟩
  · exact shp_int (by decide)
theorem eqv_en {a b : End} (ha : a.1 < 3) (hb : b.1 < 3) : PyData.eqv (enD a) (enD b) = decide (a = b) := by
  have h := (ltr_eq a.1 b.1 ha hb).2
  simp only [enD, PyData.eqv, PyData.eqvAll, Bool.and_true]
  have h2 : PyData.eqv (.str (ltr a.1)) (.str (ltr b.1)) = (ltr a.1 == ltr b.1) := by simp only [PyData.eqv]
  rw [← h2, h, Bool.eq_iff_iff]
  simp only [Bool.and_eq_true, decide_eq_true_eq, beq_iff_eq, Prod.ext_iff]
  constructor
  · rintro ⟨h1, h2⟩; exact ⟨h1, by omega⟩
  · rintro ⟨h1, h2⟩; exact ⟨h1, by omega⟩
theorem le_en {a b : End} (ha : a.1 < 3) (hb : b.1 < 3) : enLe a b = PySem.W.dataLe false id (enD a) (enD b) := by
  show _ = !PySem.W.dataLt (enD b) (enD a)
  rw [enD, enD, PySem.W.dataLt_pair (by simp [PySem.W.alike]) (by simp [PySem.W.alike]), PySem.W.dataLt_int, PySem.W.dataLt_str, (ltr_eq b.1 a.1 hb ha).2, eqv_int]
  unfold enLe
  by_cases h1 : b.1 = a.1
  · by_cases h2 : (b.2 : Int) = a.2
    · have : a.2 ≤ b.2 := by omega
      simp [h1, h2, this]
    · by_cases h3 : (b.2 : Int) < a.2
      · have : ¬ a.2 ≤ b.2 := by omega
        simp [h1, h2, h3, this]
      · have : a.2 ≤ b.2 := by omega
        simp [h1, h2, h3, this]
  · rw [decide_eq_false h1, if_neg Bool.false_ne_true]
    by_cases h3 : a.1 < b.1
    · have q : ¬ (ltr b.1).cps.toList < (ltr a.1).cps.toList := fun z => absurd (ltr_lt h3) (by
        intro z2
        exact absurd (List.lt_trans z z2) (List.lt_irrefl _))
      simp [h3, q]
    · have h4 : b.1 < a.1 := by omega
      have q := ltr_lt h4
      have h5 : ¬ a.1 = b.1 := fun z => h1 z.symm
      simp [h3, h5, q]
theorem sort_en {es : List End} (h : ∀ e ∈ es, e.1 < 3) : sortD (es.map enD) = (es.mergeSort enLe).map enD := by
  unfold sortD
  exact (List.map_mergeSort (f := enD) (r := enLe) (s := PySem.W.dataLe false id) (fun a ha b hb => le_en (h a ha) (h b hb))).symm
theorem en_sorted {es : List End} (hn : es.Nodup) : (es.mergeSort enLe).Perm es ∧ ∀ i (h : i + 1 < (es.mergeSort enLe).length), (es.mergeSort enLe)[i].1 < (es.mergeSort enLe)[i + 1].1 ∨ (es.mergeSort enLe)[i].1 = (es.mergeSort enLe)[i + 1].1 ∧ (es.mergeSort enLe)[i].2 < (es.mergeSort enLe)[i + 1].2 := by
  have hp := List.mergeSort_perm es enLe
  have hs := List.pairwise_mergeSort (le := enLe) (fun a b c h1 h2 => by simp only [enLe, decide_eq_true_eq] at *; omega) (fun a b => by simp only [enLe, Bool.or_eq_true, decide_eq_true_eq]; omega) es
  refine ⟨hp, fun i h => ?_⟩
  have h1 := List.pairwise_iff_getElem.mp hs i (i + 1) (by omega) h (by omega)
  have h2 := List.pairwise_iff_getElem.mp (hp.nodup_iff.mpr hn) i (i + 1) (by omega) h (by omega)
  simp only [enLe, decide_eq_true_eq] at h1
  have h3 : ¬ ((es.mergeSort enLe)[i].1 = (es.mergeSort enLe)[i + 1].1 ∧ (es.mergeSort enLe)[i].2 = (es.mergeSort enLe)[i + 1].2) := fun z => h2 (Prod.ext z.1 z.2)
  omega
end K82
end

section
set_option Elab.async false
set_option linter.all false
set_option maxRecDepth 100000
set_option maxHeartbeats 4000000
set_option exponentiation.threshold 10000
/-! K82v: _law_moves. -/
namespace K82
open PySem PL
def nats (ns : List Nat) : List PyData := ns.map fun n => .int (n : Nat)
theorem one_nat {ns : List Nat} {i : Nat} (h : i < (nats ns).length) : ∃ v ∈ ns, (nats ns)[i] = .int (v : Nat) := by
  have h' : i < ns.length := by simpa [nats] using h
  exact ⟨ns[i], List.getElem_mem h', by simp [nats]⟩
theorem abc_at {r : Nat} (h : r < 3) : L2.atI ("abc" : Str).cps.toList (r : Int) = some (97 + r) := by
  match r, h with
  | 0, _ => decide +kernel
  | 1, _ => decide +kernel
  | 2, _ => decide +kernel
def mkDeed (es : List End) (ns : List Nat) (W k : Nat) : Deed := (es.zip ns).map fun q => ⟨q.1.1, q.1.2, (((q.2 * k : Nat) : Int), W)⟩
structure MkOk (n : Nat) (es : List End) (ns : List Nat) (w k : Nat) : Prop where
  en : ∀ e ∈ es, OkEn n e
  nd : es.Nodup
  len : ns.length = es.length
  l12 : es.length ≤ 12
  pos : ∀ x ∈ ns, 0 < x
  sum : ns.sum ≤ w
  k0 : 0 < k
  w0 : es = [] ∨ 0 < w
  kB : k ≤ 1000000
  W : w * k ≤ 1000000
theorem le_sum {l : List Nat} {x : Nat} (h : x ∈ l) : x ≤ l.sum := by
  induction l with
  | nil => cases h
  | cons a l ih =>
    rw [List.sum_cons]
    rcases List.mem_cons.mp h with rfl | h
    · omega
    · have := ih h; omega
theorem sum_mul_cast (k : Nat) : ∀ ns : List Nat, (ns.map fun x => ((x * k : Nat) : Int)).sum = ((ns.sum * k : Nat) : Int)
  | [] => by simp
  | a :: l => by
    rw [List.map_cons, List.sum_cons, List.sum_cons, Nat.add_mul, sum_mul_cast k l]
    push_cast; rfl
theorem mk_uni {n : Nat} {es : List End} {ns : List Nat} {w k : Nat} (h : MkOk n es ns w k) : Uni n (mkDeed (es.mergeSort enLe) ns (w * k) k) := by
  obtain ⟨hp, hs⟩ := en_sorted h.nd
  rcases h.w0 with hes | hw0
  · subst hes
    have : mkDeed (([] : List End).mergeSort enLe) ns (w * k) k = [] := by simp [mkDeed]
    rw [this]
    exact ⟨1, ⟨by simp, fun _ h => (by cases h), fun i hi => absurd hi (Nat.not_lt_zero _), by decide, by decide, fun _ h => (by cases h), by simp only [qsum, List.map_nil, List.sum_nil]; decide⟩, fun _ h => (by cases h)⟩
  have lz : ((es.mergeSort enLe).zip ns).length = es.length := by rw [List.length_zip, List.length_mergeSort, h.len, Nat.min_self]
  have ld : (mkDeed (es.mergeSort enLe) ns (w * k) k).length = es.length := by unfold mkDeed; rw [List.length_map, lz]
  have W0 : 0 < w * k := Nat.mul_pos hw0 h.k0
  have hu : ∀ m ∈ mkDeed (es.mergeSort enLe) ns (w * k) k, m.p.2 = w * k := fun m hm => by
    obtain ⟨q, hq, rfl⟩ := List.mem_map.mp hm
    rfl
  refine ⟨w * k, ⟨by rw [ld]; exact h.l12, fun m hm => ?_, fun i hi => ?_, W0, h.W, fun m hm => by rw [hu m hm]; exact Nat.dvd_refl _, ?_⟩, hu⟩
  · obtain ⟨q, hq, rfl⟩ := List.mem_map.mp hm
    obtain ⟨q1, q2⟩ := List.of_mem_zip hq
    obtain ⟨e1, e2⟩ := h.en _ (hp.mem_iff.mp q1)
    have x0 := h.pos _ q2
    have x1 : q.2 * k ≤ w * k := Nat.mul_le_mul_right _ (Nat.le_trans (le_sum q2) h.sum)
    exact ⟨e1, e2, ⟨W0, h.W, by show (0 : Int) ≤ ((q.2 * k : Nat) : Int); omega, by show ((q.2 * k : Nat) : Int) ≤ ((w * k : Nat) : Int); omega⟩, by
      have := Nat.mul_pos x0 h.k0
      show (0 : Int) < ((q.2 * k : Nat) : Int); omega⟩
  · rw [ld] at hi
    have h1 : i + 1 < (es.mergeSort enLe).length := by rw [List.length_mergeSort]; exact hi
    have := hs i h1
    simp only [mkDeed, List.getElem_map, List.getElem_zip]
    exact this
  · have hM : ∀ q ∈ (mkDeed (es.mergeSort enLe) ns (w * k) k).map (·.p), 0 < q.2 ∧ q.2 ∣ w * k := fun q hq => by
      obtain ⟨m, hm, rfl⟩ := List.mem_map.mp hq
      rw [hu m hm]
      exact ⟨W0, Nat.dvd_refl _⟩
    rw [← sum_num W0 hM]
    have e : (((mkDeed (es.mergeSort enLe) ns (w * k) k).map (·.p)).map fun q => q.1 * ((w * k / q.2 : Nat) : Int)) = (ns.map fun x => ((x * k : Nat) : Int)) := by
      refine List.ext_getElem (by rw [List.length_map, List.length_map, ld, List.length_map, h.len]) fun i h1 h2 => ?_
      rw [List.getElem_map, List.getElem_map, List.getElem_map]
      simp only [mkDeed, List.getElem_map, List.getElem_zip]
      show ((ns[i]'_ * k : Nat) : Int) * ((w * k / (w * k) : Nat) : Int) = _
      rw [Nat.div_self W0]
      simp
    rw [e, sum_mul_cast]
    have : (1 : Rat) = mkRat 1 1 := rfl
    rw [this, mk_le W0 (by decide)]
    have := Nat.mul_le_mul_right k h.sum
    push_cast at *
    omega
def bd_mv : S := match b_law_moves with
  | .seq _ (.seq _ (.seq _ (.seq _ (.seq _ s)))) => s
  | _ => .skip
theorem zipL_eq {α β : Type} (f : α → PyData) (g : β → PyData) (as : List α) (bs : List β) : zipL (as.map f) (bs.map g) = (as.zip bs).map fun q => .tuple [f q.1, g q.2] := by
  unfold zipL
  rw [List.zip_map, List.map_map]; rfl
theorem mv_tail {tb : Tab} {n : Nat} {es : List End} {ns : List Nat} {w k : Nat} (h : MkOk n es ns w k) {wl g : PyData} {s1 s4 s5 s9 : Sl} (k1 : Wk s1) {Q : Out → Prop} (hQ : ∀ d, Uni n d → ∀ e, e[0]? = some (.io wl) → Q (.rt (.sh (deedD d)) e)) :
    wpS tb bd_mv [.io wl, s1, .sh g, .sh (.list (es.map enD)), s4, s5, .sh (.list (nats ns)), .sh (.int (w : Nat)), .sh (.int (k : Nat)), s9] Q := by
  have l12 := h.l12
  have eLIM : LIM = 16777216 := rfl
  have h3 : ∀ e ∈ es, e.1 < 3 := fun e he => (h.en e he).1
  have hn9 : ∀ x ∈ ns, x * k ≤ 1000000 := fun x hx => Nat.le_trans (Nat.mul_le_mul_right _ (Nat.le_trans (le_sum hx) h.sum)) h.W
  have sx : ∀ x : Nat, x ≤ 1000000 → Small 20 (x : Int) := fun x hx => by
    have e : (2 : Nat) ^ 20 = 1048576 := by decide
    unfold Small; rw [e, Int.natAbs_natCast]; omega
  have hx0 : ∀ x, x * k ≤ 1000000 → x ≤ 1000000 := fun x hx => Nat.le_trans (Nat.le_mul_of_pos_right _ h.k0) hx
  have hk : k ≤ 1000000 := h.kB
  simp_arith [bd_mv, b_law_moves]
  refine ⟨⟨?_, ?_, ?_⟩, ?_⟩
  · intro a ha b hb
    obtain ⟨x, _, rfl⟩ := List.mem_map.mp ha
    obtain ⟨y, _, rfl⟩ := List.mem_map.mp hb
    simp [enD, PySem.W.alike, PySem.W.alikeAll]
  · refine .inl fun a ha => ?_
    obtain ⟨x, _, rfl⟩ := List.mem_map.mp ha
    exact ⟨_, _, rfl⟩
  · intro a ha
    obtain ⟨x, hx, rfl⟩ := List.mem_map.mp ha
    have := shp_en x (h3 x hx)
    exact ⟨shp_shaped this (by decide), Nat.le_trans this.2 (by decide)⟩
  rw [sort_en h3, nats, zipL_eq]
  refine ⟨by rw [List.length_map, List.length_zip, List.length_mergeSort]; omega, lcK_list (fun q => (Mv.mk q.1.1 q.1.2 (((q.2 * k : Nat) : Int), w * k)).D) (fun q hq => ?_) ?_⟩
  · obtain ⟨q1, q2⟩ := List.of_mem_zip hq
    simp_arith [enD]
    refine ⟨mulOk (sx _ (hx0 _ (hn9 _ q2))) (sx _ hk) (by decide) (by decide), mulOk (sx _ (hx0 _ h.W)) (sx _ hk) (by decide) (by decide), by decide, ?_⟩
    simp only [Mv.D]
    rw [← Int.natCast_mul, ← Int.natCast_mul]
  · have e : ((es.mergeSort enLe).zip ns).map (fun q => (Mv.mk q.1.1 q.1.2 (((q.2 * k : Nat) : Int), w * k)).D) = (mkDeed (es.mergeSort enLe) ns (w * k) k).map Mv.D := by
      unfold mkDeed; rw [List.map_map]; rfl
    rw [e]
    exact hQ _ (mk_uni h) _ rfl
end K82
end

section
set_option Elab.async false
set_option linter.all false
set_option maxRecDepth 100000
set_option maxHeartbeats 4000000
set_option exponentiation.threshold 10000
/-! K82w: _law_moves, the walk. -/
namespace K82
open PySem PL
structure MvIn where
  m : Nat
  w : PyData
  n : Nat
  g : Bool
structure MvOk (p : MvIn) : Prop where
  w : OkWl p.m p.w
  m : p.m + 100 < MM
  n0 : 0 < p.n
  n6 : p.n ≤ 6
def eMvs : Ent := ⟨fun ds L => ∃ p : MvIn, ds = [p.w, .int (p.n : Nat), .bool p.g] ∧ MvOk p ∧ ∀ d w', Uni p.n d → OkWl (p.m + 100) w' → L (.sh (deedD d)) w', true, 0, [], fun h ⟨p, e, ok, g⟩ => ⟨p, e, ok, fun d w' h1 h2 => h _ _ (g d w' h1 h2)⟩⟩
theorem shp_ens {es : List End} (h : ∀ e ∈ es, e.1 < 3) : Shp 3 (.list (es.map enD)) := shp_list fun d hd => by
  obtain ⟨a, ha, rfl⟩ := List.mem_map.mp hd
  exact shp_en a (h a ha)
theorem any_en {es : List End} {e : End} (h : ∀ e ∈ es, e.1 < 3) (he : e.1 < 3) : ((es.map enD).any fun z => PyData.eqv z (enD e)) = decide (e ∈ es) := by
  rw [Bool.eq_iff_iff, List.any_eq_true, decide_eq_true_eq]
  constructor
  · rintro ⟨z, hz, q⟩
    obtain ⟨a, ha, rfl⟩ := List.mem_map.mp hz
    rw [eqv_en (h a ha) he, decide_eq_true_eq] at q
    rw [← q]; exact ha
  · intro hm
    refine ⟨enD e, List.mem_map.mpr ⟨e, hm, rfl⟩, ?_⟩
    rw [eqv_en he he]; simp
theorem nats_ints (ns : List Nat) : allInts (nats ns) = some (ns.map fun n : Nat => (n : Int)) := by
  unfold nats; exact allInts_map _ _
theorem sum_cast : ∀ ns : List Nat, (ns.map fun n : Nat => (n : Int)).sum = (ns.sum : Nat)
  | [] => rfl
  | a :: l => by
    rw [List.map_cons, List.sum_cons, List.sum_cons, sum_cast l]
    push_cast; rfl
theorem sum_le {B : Nat} : ∀ {ns : List Nat}, (∀ x ∈ ns, x ≤ B) → ns.sum ≤ ns.length * B
  | [], _ => by simp
  | a :: l, h => by
    have h1 := h a (List.mem_cons_self ..)
    have h2 := sum_le (ns := l) fun y hy => h y (List.mem_cons_of_mem _ hy)
    rw [List.sum_cons, List.length_cons, Nat.add_mul]
    omega
theorem nats_app (ns : List Nat) (x : Nat) : nats ns ++ [PyData.int (x : Nat)] = nats (ns ++ [x]) := by simp [nats]
theorem one_at {m : Nat} {w : PyData} {ns : List Nat} {L : Sl → PyData → Prop} (hw : OkWl m w) (hm : m < MM) (h0 : 0 < ns.length) (h1 : ns.length < 2 ^ 40) (h : ∀ v ∈ ns, ∀ w', OkWl (m + 1) w' → L (.sh (.int (v : Nat))) w') : eOne.R [w, .list (nats ns)] L :=
  ⟨⟨m, w, nats ns⟩, rfl, ⟨hw, hm, by simpa [nats] using h0, by simpa [nats] using h1⟩, fun i hi w1 hw1 => by
    obtain ⟨v, hv, ev⟩ := one_nat hi
    dsimp only
    rw [ev]
    exact h v hv w1 hw1⟩
theorem dip_at {m k : Nat} {w : PyData} {L : Sl → PyData → Prop} (hw : OkWl m w) (hm : m < MM) (h0 : 0 < k) (h1 : k < 2 ^ 40) (h : ∀ r, r < k → ∀ w', OkWl (m + 1) w' → L (.sh (.int (r : Nat))) w') : eDip.R [w, .int (k : Nat)] L :=
  ⟨⟨m, w, k⟩, rfl, ⟨hw, hm, h0, h1⟩, fun r w' h2 h3 => h r h2 w' h3⟩
theorem lmoves_does {tb : Tab} (h1 : tb.fn "_law_one" = some eOne) (h2 : tb.fn "_law_dip" = some eDip) : Does tb b_law_moves N_law_moves.length true eMvs.R := by
  rintro ds L ⟨⟨m, w, n, g⟩, rfl, ⟨hw, hm, n0, n6⟩, hL⟩
  dsimp only at hw hm n0 n6 hL
  have hMM : MM = 2 ^ 40 := rfl
  have eLIM : LIM = 16777216 := rfl
  simp_arith [b_law_moves, N_law_moves, callW_of h1 rfl]
  refine one_at (ns := [0, 1, 1, 2, 2, 3, 3, 4, 12]) hw (by omega) (by decide) (by decide) fun v hv w1 hw1 => ?_
  have hv : v ≤ 12 := by
    simp only [List.mem_cons, List.not_mem_nil, or_false] at hv
    omega
  simp_arith
  rw [Int.toNat_natCast]
  refine ⟨⟨by omega, by omega⟩, ?_⟩
  unfold rangeL
  refine for_list (fun j e => ∃ wl es s4 s5, (Wk s4 ∧ Wk s5) ∧ OkWl (m + 1 + 2 * j) wl ∧ es.length ≤ j ∧ es.Nodup ∧ (∀ e ∈ es, OkEn n e) ∧ e = [Sl.io wl, .sh (.int (n : Nat)), .sh (.bool g), .ow (.list (es.map enD)), s4, s5, .un, .un, .un, .un])
    ⟨w1, [], .un, .un, ⟨trivial, trivial⟩, hw1, Nat.le_refl _, List.nodup_nil, fun _ h => (by cases h), rfl⟩ (fun j hj e hI => ?_) fun e hI => ?_
  · obtain ⟨wl, es, s4, s5, ⟨k4, k5⟩, hwl, hle, hnd, hen, rfl⟩ := hI
    rw [List.length_range] at hj
    rw [List.getElem_range]
    simp_arith [wrK_wk k4, wrK_wk k5, callW_of h2 rfl]
    refine dip_at (k := 3) hwl (by omega) (by decide) (by decide) fun r hr w2 hw2 => ?_
    refine ⟨by decide +kernel, 97 + r, abc_at hr, ?_⟩
    simp_arith [callW_of h2 rfl]
    refine dip_at hw2 (by omega) n0 (by omega) fun s hs w3 hw3 => ?_
    simp_arith [wrK_wk k4, wrK_wk k5]
    have h3 : ∀ e ∈ es, e.1 < 3 := fun e he => (hen e he).1
    have e5 : PyData.tuple [.str ⟨#[97 + r]⟩, .int (s : Nat)] = enD (r, s) := rfl
    simp only [e5, any_en h3 (e := (r, s)) hr]
    refine ⟨shp_shaped (shp_en (r, s) hr) (by decide), shp_shaped (shp_ens h3) (by decide), ?_⟩
    by_cases hin : (r, s) ∈ es
    · rw [if_neg (by simp [hin])]
      exact ⟨w3, es, _, _, ⟨wk_sh, wk_sh⟩, hw3, by omega, hnd, hen, rfl⟩
    · rw [if_pos (by simp [hin])]
      refine ⟨by rw [List.length_map]; omega, w3, es ++ [(r, s)], _, _, ⟨wk_sh, wk_sh⟩, hw3, by rw [List.length_append]; simp; omega, ?_, fun e he => ?_, by rw [List.map_append]; rfl⟩
      · rw [List.nodup_append]
        refine ⟨hnd, by simp, fun a ha b hb => ?_⟩
        rw [List.mem_singleton] at hb
        rintro rfl
        exact hin (hb ▸ ha)
      · rcases List.mem_append.mp he with he | he
        · exact hen e he
        · rw [List.mem_singleton] at he
          rw [he]; exact ⟨hr, hs⟩
  · rw [List.length_range] at hI
    obtain ⟨wl, es, s4, s5, ⟨k4, k5⟩, hwl, hle, hnd, hen, rfl⟩ := hI
    have hl12 : es.length ≤ 12 := by omega
    simp_arith [callW_of h1 rfl, callW_of h2 rfl]
    refine ⟨by rw [List.length_map]; omega, ?_⟩
    refine lcK_inv (fun j e acc => ∃ wl ns s5, Wk s5 ∧ OkWl (m + 1 + 2 * v + 2 * j) wl ∧ acc = nats ns ∧ ns.length = j ∧ (∀ x ∈ ns, 0 < x ∧ x ≤ 9) ∧ e = [Sl.io wl, .sh (.int (n : Nat)), .sh (.bool g), .sh (.list (es.map enD)), s4, s5, .un, .un, .un, .un])
      ⟨wl, [], s5, k5, hwl, rfl, rfl, fun _ h => (by cases h), rfl⟩ (fun j x e acc hx hI => ?_) fun e acc hI => ?_
    · obtain ⟨wl2, ns, s5', k5', hwl2, rfl, hnl, hns, rfl⟩ := hI
      have hj : j < es.length := by
        have := (List.getElem?_eq_some_iff.mp hx).1
        rwa [List.length_map] at this
      simp_arith [callW_of h1 rfl, callW_of h2 rfl]
      refine one_at (ns := [1, 2, 2, 3, 9]) hwl2 (by omega) (by decide) (by decide) fun v2 hv2 w2 hw2 => ?_
      have hv2 : 0 < v2 ∧ v2 ≤ 9 := by
        simp only [List.mem_cons, List.not_mem_nil, or_false] at hv2
        omega
      simp_arith
      refine dip_at hw2 (by omega) (by omega) (by omega) fun r hr w3 hw3 => ?_
      simp_arith
      rw [show (1 : Int) + (r : Nat) = ((1 + r : Nat) : Int) by omega, nats_app]
      exact ⟨w3, _, _, wk_sh, hw3, rfl, by rw [List.length_append, hnl]; rfl, fun x hx => by
        rcases List.mem_append.mp hx with h | h
        · exact hns x h
        · rw [List.mem_singleton] at h; omega, rfl⟩
    · obtain ⟨wl2, ns, s5', k5', hwl2, rfl, hnl, hns, rfl⟩ := hI
      rw [List.length_map] at hnl hwl2
      have hsum : ns.sum ≤ 108 := Nat.le_trans (sum_le (B := 9) fun x hx => (hns x hx).2) (by omega)
      simp only [backE, List.getD_cons_succ, List.getD_cons_zero]
      simp_arith [callW_of h1 rfl, callW_of h2 rfl]
      refine ⟨_, nats_ints ns, ?_⟩
      rw [sum_cast]
      refine one_at (ns := [0, 0, 0, 1, 1, 2, 7]) hwl2 (by omega) (by decide) (by decide) fun v3 hv3 w3 hw3 => ?_
      have hv3 : v3 ≤ 7 := by
        simp only [List.mem_cons, List.not_mem_nil, or_false] at hv3
        omega
      simp_arith
      refine one_at (ns := [1, 1, 1, 2, 3]) hw3 (by omega) (by decide) (by decide) fun v4 hv4 w4 hw4 => ?_
      have hv4 : 0 < v4 ∧ v4 ≤ 3 := by
        simp only [List.mem_cons, List.not_mem_nil, or_false] at hv4
        omega
      by_cases hg : g = true
      · rw [if_pos hg]
        refine ⟨by rw [List.length_map]; omega, ?_⟩
        refine lcK_inv (fun j e acc => ∃ wl ns' s5, Wk s5 ∧ OkWl (m + 27 + 2 * es.length + j) wl ∧ acc = nats ns' ∧ ns'.length = j ∧ (∀ x ∈ ns', 0 < x ∧ x ≤ 80000) ∧ e = [Sl.io wl, .sh (.int (n : Nat)), .sh (.bool g), .sh (.list (es.map enD)), s4, s5, .sh (.list (nats ns)), .sh (.int (ns.sum + v3 : Int)), .sh (.int (v4 : Nat)), .un])
          ⟨w4, [], s5, k5, hw4.mono (by omega), rfl, rfl, fun _ h => (by cases h), rfl⟩ (fun j x e acc hx hI => ?_) fun e acc hI => ?_
        · obtain ⟨wl2, ns', s5', k5', hwl2, rfl, hnl2, hns2, rfl⟩ := hI
          have hj : j < es.length := by
            have := (List.getElem?_eq_some_iff.mp hx).1
            rwa [List.length_map] at this
          simp_arith [callW_of h1 rfl, callW_of h2 rfl]
          refine dip_at (k := 80000) hwl2 (by omega) (by decide) (by decide) fun r hr w3 hw3 => ?_
          simp_arith
          rw [show (1 : Int) + (r : Nat) = ((1 + r : Nat) : Int) by omega, nats_app]
          exact ⟨w3, _, _, wk_sh, hw3, rfl, by rw [List.length_append, hnl2]; rfl, fun x hx => by
            rcases List.mem_append.mp hx with h | h
            · exact hns2 x h
            · rw [List.mem_singleton] at h; omega, rfl⟩
        · obtain ⟨wl2, ns', s5', k5', hwl2, rfl, hnl2, hns2, rfl⟩ := hI
          rw [List.length_map] at hnl2 hwl2
          have hsum2 : ns'.sum ≤ 960000 := Nat.le_trans (sum_le (B := 80000) fun x hx => (hns2 x hx).2) (by omega)
          simp only [backE, List.getD_cons_succ, List.getD_cons_zero]
          simp_arith
          refine ⟨by decide, ?_⟩
          refine dip_at (k := 40000) hwl2 (by omega) (by decide) (by decide) fun r hr w5 hw5 => ?_
          simp_arith
          have e6 : (10 ^ Int.toNat 6 - (r : Nat) : Int) = ((1000000 - r : Nat) : Int) := by
            have : (10 ^ Int.toNat 6 : Int) = 1000000 := by decide
            omega
          rw [e6]
          have mk : MkOk n es ns' (1000000 - r) 1 := ⟨hen, hnd, hnl2, hl12, fun x hx => (hns2 x hx).1, by omega, by decide, .inr (by omega), by decide, by omega⟩
          have t := mv_tail (tb := tb) mk (wl := w5) (g := .bool g) (s1 := .sh (.int (n : Nat))) (s4 := s4) (s5 := s5) (s9 := .un) wk_sh (Q := fun o => match o with
            | .rt r e => FinA true e (L r)
            | .nx e => FinA true e (L (.sh .none))
            | _ => False) fun d hd e he => ⟨w5, he, hL d w5 hd (hw5.mono (by omega))⟩
          simp_arith [bd_mv, b_law_moves] at t
          exact t
      · rw [if_neg hg]
        have w0 : es = [] ∨ 0 < ns.sum + v3 := by
          rcases ns with _ | ⟨x, l⟩
          · exact .inl (List.length_eq_zero_iff.mp (by simpa using hnl.symm))
          · refine .inr ?_
            have := (hns x (List.mem_cons_self ..)).1
            rw [List.sum_cons]; omega
        have mk : MkOk n es ns (ns.sum + v3) v4 := ⟨hen, hnd, hnl, hl12, fun x hx => (hns x hx).1, by omega, hv4.1, w0, by omega, by
          have : (ns.sum + v3) * v4 ≤ 115 * 3 := Nat.mul_le_mul (by omega) hv4.2
          omega⟩
        have t := mv_tail (tb := tb) mk (wl := w4) (g := .bool g) (s1 := .sh (.int (n : Nat))) (s4 := s4) (s5 := s5) (s9 := .un) wk_sh (Q := fun o => match o with
          | .rt r e => FinA true e (L r)
          | .nx e => FinA true e (L (.sh .none))
          | _ => False) fun d hd e he => ⟨w4, he, hL d w4 hd (hw4.mono (by omega))⟩
        simp_arith [bd_mv, b_law_moves] at t
        exact t
end K82
end

section
set_option Elab.async false
set_option linter.all false
set_option maxRecDepth 100000
set_option maxHeartbeats 4000000
set_option exponentiation.threshold 10000
/-! K82x: _law_chooser, _law_line. -/
namespace K82
open PySem PL
theorem at_c0 {α : Type} {x : α} {l : List α} : L2.atI (x :: l) (0 : Int) = some x := by
  have := atI_nat (xs := x :: l) (k := 0) (by simp)
  simpa using this
structure UniC (C : Chooser) : Prop where
  l0 : 1 ≤ C.length
  l1 : C.length ≤ 6
  ch : ∀ ds ∈ C, (1 ≤ ds.length ∧ ds.length ≤ 3) ∧ ∀ d ∈ ds, Uni C.length d
theorem UniC.okc {C : Chooser} (h : UniC C) : OkC C := ⟨h.l0, h.l1, fun ds hd => ⟨(h.ch ds hd).1, fun d hm => by
  obtain ⟨W, hW, _⟩ := (h.ch ds hd).2 d hm
  exact ⟨W, hW⟩⟩⟩
theorem UniC.b20 {C : Chooser} (h : UniC C) : OkB 20 C := ⟨h.okc, by decide, fun ds hd d hm => by
  obtain ⟨W, hW, _⟩ := (h.ch ds hd).2 d hm
  exact ⟨W, hW, Nat.le_trans hW.W1 (by decide)⟩⟩
theorem okDeed_nil {n : Nat} : OkDeed n 1 [] := ⟨by simp, fun _ h => (by cases h), fun i hi => absurd hi (Nat.not_lt_zero _), by decide, by decide, fun _ h => (by cases h), by simp only [qsum, List.map_nil, List.sum_nil]; decide⟩
theorem UniC.b10 {C : Chooser} (h : UniC C) (hs : smC C = true) : OkB 10 C := ⟨h.okc, by decide, fun ds hd d hm => by
  obtain ⟨W, hW, hu⟩ := (h.ch ds hd).2 d hm
  by_cases hn : d = []
  · subst hn
    exact ⟨1, okDeed_nil, by decide⟩
  · obtain ⟨m0, hm0⟩ := List.exists_mem_of_ne_nil d hn
    have h1 := List.all_eq_true.mp (List.all_eq_true.mp (List.all_eq_true.mp hs ds hd) d hm) m0 hm0
    rw [decide_eq_true_eq, hu m0 hm0] at h1
    exact ⟨W, hW, Nat.le_trans h1 (by decide)⟩⟩
structure ChsIn where
  m : Nat
  w : PyData
  k : Nat
structure ChsOk (p : ChsIn) : Prop where
  w : OkWl p.m p.w
  m : p.m + 4000 < MM
  k0 : 0 < p.k
  k6 : p.k ≤ 6
def eChs : Ent := ⟨fun ds L => ∃ p : ChsIn, ds = [p.w, .int (p.k : Nat)] ∧ ChsOk p ∧ ∀ C w', UniC C → OkWl (p.m + 4000) w' → L (.sh (chooserD C)) w', true, 0, [], fun h ⟨p, e, ok, g⟩ => ⟨p, e, ok, fun d w' h1 h2 => h _ _ (g d w' h1 h2)⟩⟩
theorem moves_at {m n : Nat} {w : PyData} {g : Bool} {L : Sl → PyData → Prop} (hw : OkWl m w) (hm : m + 100 < MM) (h0 : 0 < n) (h6 : n ≤ 6) (h : ∀ d, Uni n d → ∀ w', OkWl (m + 100) w' → L (.sh (deedD d)) w') : eMvs.R [w, .int (n : Nat), .bool g] L :=
  ⟨⟨m, w, n, g⟩, rfl, ⟨hw, hm, h0, h6⟩, fun d w' h1 h2 => h d h1 w' h2⟩
theorem one_of {α : Type} {m : Nat} {w : PyData} {xs : List α} {f : α → PyData} {L : Sl → PyData → Prop} (hw : OkWl m w) (hm : m < MM) (h0 : 0 < xs.length) (h1 : xs.length < 2 ^ 40) (h : ∀ v ∈ xs, ∀ w', OkWl (m + 1) w' → L (.sh (f v)) w') : eOne.R [w, .list (xs.map f)] L :=
  ⟨⟨m, w, xs.map f⟩, rfl, ⟨hw, hm, by simpa using h0, by simpa using h1⟩, fun i hi w1 hw1 => by
    have hi' : i < xs.length := by simpa using hi
    have := h xs[i] (List.getElem_mem hi') w1 hw1
    dsimp only
    rwa [List.getElem_map]⟩
theorem wd_app (w : List Nat) (c : Nat) : wd w ++ ltr c = wd (w ++ [c]) := by
  show (⟨(wd w).cps ++ (ltr c).cps⟩ : Str) = _
  simp [wd, ltr]
theorem eqv_nilT {α : Type} (l : List α) (f : α → PyData) : PyData.eqv (.tuple (l.map f)) (.tuple []) = l.isEmpty := by
  cases l <;> simp [PyData.eqv, PyData.eqvAll]
theorem shp_str {n : Nat} {c : Nat} (h : c < 3) (hn : 1 ≤ n) : Shp n (.str (ltr c)) := by
  have := shp_en (c, 0) h
  unfold Shp enD at this
  have q : (PyData.str (ltr c)).canLay0 = true := by
    match c, h with
    | 0, _ => decide +kernel
    | 1, _ => decide +kernel
    | 2, _ => decide +kernel
  exact ⟨q, by simpa [PyData.depth] using hn⟩
theorem shp_mv {n : Nat} {m : Mv} (h : OkMv n m) : Shp 3 m.D := shp_tup fun d hd => by
  simp only [List.mem_cons, List.not_mem_nil, or_false] at hd
  rcases hd with rfl | rfl | rfl
  · exact shp_str h.1 (by decide)
  · exact shp_int (by decide)
  · refine shp_tup fun d hd => ?_
    simp only [List.mem_cons, List.not_mem_nil, or_false] at hd
    rcases hd with rfl | rfl <;> exact shp_int (by decide)
theorem shp_deed {n : Nat} {d : Deed} (h : OkD n d) : Shp 4 (deedD d) := shp_tup fun x hx => by
  obtain ⟨m, hm, rfl⟩ := List.mem_map.mp hx
  obtain ⟨W, hW⟩ := h
  exact shp_mv (hW.mv m hm)
end K82
end

section
set_option Elab.async false
set_option linter.all false
set_option maxRecDepth 100000
/-! KEa: taking places out of v = b + A v, one after another. -/
namespace KE
/-- f 0 + .. + f (n - 1) -/
def sm : Nat → (Nat → Rat) → Rat
  | 0, _ => 0
  | n + 1, f => sm n f + f n
theorem sm_congr {f g : Nat → Rat} : ∀ {n : Nat}, (∀ i, i < n → f i = g i) → sm n f = sm n g
  | 0, _ => rfl
  | n + 1, h => by
    show sm n f + f n = sm n g + g n
    rw [sm_congr fun i hi => h i (Nat.lt_succ_of_lt hi), h n (Nat.lt_succ_self n)]
theorem sm_add {f g : Nat → Rat} : ∀ {n : Nat}, sm n (fun i => f i + g i) = sm n f + sm n g
  | 0 => by show (0 : Rat) = 0 + 0; grind
  | n + 1 => by
    show sm n (fun i => f i + g i) + (f n + g n) = sm n f + f n + (sm n g + g n)
    rw [sm_add]; grind
theorem sm_mul {c : Rat} {f : Nat → Rat} : ∀ {n : Nat}, sm n (fun i => c * f i) = c * sm n f
  | 0 => by show (0 : Rat) = c * 0; grind
  | n + 1 => by
    show sm n (fun i => c * f i) + c * f n = c * (sm n f + f n)
    rw [sm_mul]; grind
theorem sm_zero {f : Nat → Rat} : ∀ {n : Nat}, (∀ i, i < n → f i = 0) → sm n f = 0
  | 0, _ => rfl
  | n + 1, h => by
    show sm n f + f n = 0
    rw [sm_zero fun i hi => h i (Nat.lt_succ_of_lt hi), h n (Nat.lt_succ_self n)]; grind
theorem sm_nonneg {f : Nat → Rat} : ∀ {n : Nat}, (∀ i, i < n → 0 ≤ f i) → 0 ≤ sm n f
  | 0, _ => by show (0 : Rat) ≤ 0; grind
  | n + 1, h => by
    have h1 := sm_nonneg (n := n) fun i hi => h i (Nat.lt_succ_of_lt hi)
    have h2 := h n (Nat.lt_succ_self n)
    show 0 ≤ sm n f + f n
    grind
theorem sm_le {f g : Nat → Rat} : ∀ {n : Nat}, (∀ i, i < n → f i ≤ g i) → sm n f ≤ sm n g
  | 0, _ => by show (0 : Rat) ≤ 0; grind
  | n + 1, h => by
    have h1 := sm_le (n := n) fun i hi => h i (Nat.lt_succ_of_lt hi)
    have h2 := h n (Nat.lt_succ_self n)
    show sm n f + f n ≤ sm n g + g n
    grind
theorem sm_split {f : Nat → Rat} {p : Nat} : ∀ {n : Nat}, p < n → sm n f = f p + sm n (fun t => if t = p then 0 else f t)
  | n + 1, h => by
    show sm n f + f n = f p + (sm n (fun t => if t = p then 0 else f t) + if n = p then 0 else f n)
    by_cases e : n = p
    · subst e
      rw [if_pos rfl, sm_congr (n := n) (f := fun t => if t = n then 0 else f t) (g := f) fun i hi => if_neg (Nat.ne_of_lt hi)]
      grind
    · rw [if_neg e, sm_split (n := n) (p := p) (by omega)]; grind
theorem sm_one {f : Nat → Rat} {p n : Nat} (hp : p < n) (h : ∀ i, i < n → 0 ≤ f i) : f p ≤ sm n f := by
  rw [sm_split hp]
  have := sm_nonneg (n := n) (f := fun t => if t = p then 0 else f t) fun i hi => by
    by_cases e : i = p
    · simp [e]
    · simp only [if_neg e]; exact h i hi
  grind
/-- a system v = b + A v -/
structure Sy where
  A : Nat → Nat → Rat
  b : Nat → Rat
/-- the row of p, without p -/
def ra (S : Sy) (p t : Nat) : Rat := if S.A p p = 1 then 0 else if t = p then 0 else (1 / (1 - S.A p p)) * S.A p t
def rb (S : Sy) (p : Nat) : Rat := if S.A p p = 1 then 0 else (1 / (1 - S.A p p)) * S.b p
def step (S : Sy) (p : Nat) : Sy := ⟨fun q t => if q = p then ra S p t else (if t = p then 0 else S.A q t) + S.A q p * ra S p t, fun q => if q = p then rb S p else S.b q + S.A q p * rb S p⟩
structure Ok (n : Nat) (S : Sy) : Prop where
  nn : ∀ s t, s < n → t < n → 0 ≤ S.A s t
  bn : ∀ s, s < n → 0 ≤ S.b s
  rs : ∀ s, s < n → sm n (S.A s) + S.b s ≤ 1
variable {n : Nat} {S : Sy}
theorem Ok.le (h : Ok n S) {s t : Nat} (hs : s < n) (ht : t < n) : S.A s t ≤ 1 := by
  have h1 := h.rs s hs
  have h2 := h.bn s hs
  have h3 := sm_one ht fun i hi => h.nn s i hs hi
  grind
theorem Ok.ble (h : Ok n S) {s : Nat} (hs : s < n) : S.b s ≤ 1 := by
  have h1 := h.rs s hs
  have h3 := sm_nonneg (f := S.A s) fun i hi => h.nn s i hs hi
  grind
/-- the rest of a row that stays -/
theorem Ok.stay (h : Ok n S) {p : Nat} (hp : p < n) (e : S.A p p = 1) : S.b p = 0 ∧ ∀ t, t < n → t ≠ p → S.A p t = 0 := by
  have h1 := h.rs p hp
  have h2 := h.bn p hp
  rw [sm_split hp] at h1
  have hn : ∀ i, i < n → 0 ≤ (fun t => if t = p then 0 else S.A p t) i := fun i hi => by
    show 0 ≤ if i = p then 0 else S.A p i
    split
    · grind
    · exact h.nn p i hp hi
  have h3 := sm_nonneg hn
  refine ⟨by grind, fun t ht hne => ?_⟩
  have h4 := sm_one ht hn
  have h5 := h.nn p t hp ht
  simp only [if_neg hne] at h4
  grind
theorem inv_pos {s : Rat} (h : s < 1) : 0 < 1 / (1 - s) := by
  have : (0 : Rat) < 1 - s := by grind
  rw [Rat.div_def, Rat.one_mul]
  exact Rat.inv_pos.mpr this
theorem mul_inv {s : Rat} (h : s ≠ 1) : (1 - s) * (1 / (1 - s)) = 1 := by
  have : 1 - s ≠ 0 := by grind
  rw [Rat.div_def, Rat.one_mul, Rat.mul_inv_cancel _ this]
theorem Ok.lt (h : Ok n S) {p : Nat} (hp : p < n) (e : S.A p p ≠ 1) : S.A p p < 1 := by
  have := h.le hp hp
  grind
theorem ra_nonneg (h : Ok n S) {p t : Nat} (hp : p < n) (ht : t < n) : 0 ≤ ra S p t := by
  unfold ra
  split
  · grind
  · rename_i e
    split
    · grind
    · exact Rat.mul_nonneg (by have := inv_pos (h.lt hp e); grind) (h.nn p t hp ht)
theorem rb_nonneg (h : Ok n S) {p : Nat} (hp : p < n) : 0 ≤ rb S p := by
  unfold rb
  split
  · grind
  · rename_i e
    exact Rat.mul_nonneg (by have := inv_pos (h.lt hp e); grind) (h.bn p hp)
/-- (1 - s) times the row without p -/
theorem ra_sum (h : Ok n S) {p : Nat} (hp : p < n) (e : S.A p p ≠ 1) (v : Nat → Rat) : (1 - S.A p p) * (rb S p + sm n (fun t => ra S p t * v t)) = S.b p + sm n (fun t => if t = p then 0 else S.A p t * v t) := by
  have h1 := mul_inv e
  have e1 : sm n (fun t => ra S p t * v t) = (1 / (1 - S.A p p)) * sm n (fun t => if t = p then 0 else S.A p t * v t) := by
    rw [← sm_mul]
    apply sm_congr
    intro i _
    unfold ra
    rw [if_neg e]
    split <;> grind
  rw [e1]
  unfold rb
  rw [if_neg e]
  generalize 1 / (1 - S.A p p) = c at h1
  generalize sm n (fun t => if t = p then 0 else S.A p t * v t) = y
  have : (1 - S.A p p) * (c * S.b p + c * y) = ((1 - S.A p p) * c) * (S.b p + y) := by grind
  rw [this, h1]; grind
theorem ra_row (h : Ok n S) {p : Nat} (hp : p < n) : sm n (ra S p) + rb S p ≤ 1 := by
  by_cases e : S.A p p = 1
  · have e1 : sm n (ra S p) = 0 := sm_zero fun i _ => by unfold ra; rw [if_pos e]
    have e2 : rb S p = 0 := by unfold rb; rw [if_pos e]
    rw [e1, e2]; grind
  · have k := ra_sum h hp e fun _ => 1
    have e1 : sm n (fun t => ra S p t * 1) = sm n (ra S p) := sm_congr fun i _ => by grind
    have e2 : sm n (fun t => if t = p then 0 else S.A p t * 1) = sm n (fun t => if t = p then 0 else S.A p t) := sm_congr fun i _ => by split <;> grind
    rw [e1, e2] at k
    have h1 := h.rs p hp
    rw [sm_split hp] at h1
    have hl := h.lt hp e
    generalize hX : rb S p + sm n (ra S p) = X at k
    have : X ≤ 1 := by
      apply Decidable.byContradiction
      intro q
      have q : 1 < X := by grind
      have : (1 - S.A p p) * 1 < (1 - S.A p p) * X := Rat.mul_lt_mul_of_pos_left q (by grind)
      grind
    grind
theorem step_ok (h : Ok n S) {p : Nat} (hp : p < n) : Ok n (step S p) where
  nn s t hs ht := by
    show 0 ≤ if s = p then ra S p t else (if t = p then 0 else S.A s t) + S.A s p * ra S p t
    split
    · exact ra_nonneg h hp ht
    · have h1 := Rat.mul_nonneg (h.nn s p hs hp) (ra_nonneg h hp ht)
      have h2 := h.nn s t hs ht
      split <;> grind
  bn s hs := by
    show 0 ≤ if s = p then rb S p else S.b s + S.A s p * rb S p
    split
    · exact rb_nonneg h hp
    · have h1 := Rat.mul_nonneg (h.nn s p hs hp) (rb_nonneg h hp)
      have h2 := h.bn s hs
      grind
  rs s hs := by
    show sm n (fun t => if s = p then ra S p t else (if t = p then 0 else S.A s t) + S.A s p * ra S p t) + (if s = p then rb S p else S.b s + S.A s p * rb S p) ≤ 1
    by_cases e : s = p
    · simp only [if_pos e]
      exact ra_row h hp
    · simp only [if_neg e]
      rw [sm_add, sm_mul]
      have h1 := h.rs s hs
      rw [sm_split hp] at h1
      have h2 := ra_row h hp
      have h3 : S.A s p * (sm n (ra S p) + rb S p) ≤ S.A s p * 1 := Rat.mul_le_mul_of_nonneg_left h2 (h.nn s p hs hp)
      grind
def Sol (n : Nat) (S : Sy) (v : Nat → Rat) : Prop := ∀ s, s < n → v s = S.b s + sm n (fun t => S.A s t * v t)
theorem step_sol (h : Ok n S) {p : Nat} (hp : p < n) {v : Nat → Rat} (w : Sol n (step S p) v) : Sol n S v := by
  have wp : v p = rb S p + sm n (fun t => ra S p t * v t) := by
    have := w p hp
    simpa [step] using this
  have kp : v p = S.b p + sm n (fun t => S.A p t * v t) := by
    rw [sm_split hp]
    by_cases e : S.A p p = 1
    · obtain ⟨s1, s2⟩ := h.stay hp e
      have : sm n (fun t => if t = p then 0 else S.A p t * v t) = 0 := sm_zero fun i hi => by
        by_cases q : i = p
        · rw [if_pos q]
        · rw [if_neg q, s2 i hi q]; grind
      rw [this, s1, e]; grind
    · have k := ra_sum h hp e v
      rw [← wp] at k
      grind
  intro s hs
  by_cases e : s = p
  · subst e; exact kp
  · have ws : v s = S.b s + S.A s p * rb S p + sm n (fun t => ((if t = p then 0 else S.A s t) + S.A s p * ra S p t) * v t) := by
      have := w s hs
      simpa [step, if_neg e] using this
    have e1 : sm n (fun t => ((if t = p then 0 else S.A s t) + S.A s p * ra S p t) * v t) = sm n (fun t => if t = p then 0 else S.A s t * v t) + S.A s p * sm n (fun t => ra S p t * v t) := by
      rw [← sm_mul, ← sm_add]
      apply sm_congr
      intro i _
      split <;> grind
    rw [e1] at ws
    rw [sm_split hp, ws, wp]
    grind
/-! ### all places, one after another -/
def el (S : Sy) : Nat → Sy
  | 0 => S
  | k + 1 => step (el S k) k
theorem el_ok (h : Ok n S) : ∀ {k : Nat}, k ≤ n → Ok n (el S k)
  | 0, _ => h
  | k + 1, hk => step_ok (el_ok h (Nat.le_of_succ_le hk)) hk
theorem ra_self (S : Sy) (p : Nat) : ra S p p = 0 := by
  unfold ra
  split
  · rfl
  · rw [if_pos rfl]
theorem ra_zero {S : Sy} {p t : Nat} (h : S.A p t = 0) : ra S p t = 0 := by
  unfold ra
  split
  · rfl
  · split
    · rfl
    · rw [h]; grind
theorem el_cols : ∀ {k : Nat}, k ≤ n → ∀ s t, s < n → t < k → (el S k).A s t = 0
  | k + 1, hk, s, t, hs, ht => by
    show (if s = k then ra (el S k) k t else (if t = k then 0 else (el S k).A s t) + (el S k).A s k * ra (el S k) k t) = 0
    have e : ra (el S k) k t = 0 := by
      by_cases q : t = k
      · rw [q]; exact ra_self _ _
      · exact ra_zero (el_cols (Nat.le_of_succ_le hk) k t hk (by omega))
    rw [e]
    split
    · rfl
    · split
      · grind
      · rw [el_cols (Nat.le_of_succ_le hk) s t hs (by omega)]; grind
/-- the values -/
def val (n : Nat) (S : Sy) (s : Nat) : Rat := (el S n).b s
theorem val_nonneg (h : Ok n S) {s : Nat} (hs : s < n) : 0 ≤ val n S s := (el_ok h (Nat.le_refl n)).bn s hs
theorem val_le (h : Ok n S) {s : Nat} (hs : s < n) : val n S s ≤ 1 := (el_ok h (Nat.le_refl n)).ble hs
theorem val_sol (h : Ok n S) : Sol n S (val n S) := by
  have key : ∀ d k, k + d = n → Sol n (el S k) (val n S) := by
    intro d
    induction d with
    | zero =>
      intro k hk s hs
      have : k = n := by omega
      subst this
      rw [sm_zero fun t ht => by rw [el_cols (Nat.le_refl _) s t hs ht]; grind]
      show (el S k).b s = _
      grind
    | succ d ih =>
      intro k hk
      exact step_sol (el_ok h (by omega)) (by omega) (ih (k + 1) (by omega))
  exact key n 0 (by omega)
/-- what stays for ever has the value 0 -/
theorem val_stay (h : Ok n S) {p : Nat} (hp : p < n) (e : (el S p).A p p = 1) : val n S p = 0 := by
  have key : ∀ d k, p + 1 + d = k → k ≤ n → (el S k).b p = 0 ∧ ∀ t, t < n → (el S k).A p t = 0 := by
    intro d
    induction d with
    | zero =>
      intro k hk hkn
      subst hk
      constructor
      · show (if p = p then rb (el S p) p else _) = 0
        rw [if_pos rfl]; unfold rb; rw [if_pos e]
      · intro t _
        show (if p = p then ra (el S p) p t else _) = 0
        rw [if_pos rfl]; unfold ra; rw [if_pos e]
    | succ d ih =>
      intro k hk hkn
      obtain ⟨j, rfl⟩ : ∃ j, k = j + 1 := ⟨k - 1, by omega⟩
      obtain ⟨h1, h2⟩ := ih j (by omega) (by omega)
      have hne : p ≠ j := by omega
      have h3 := h2 j (by omega)
      constructor
      · show (if p = j then rb (el S j) j else (el S j).b p + (el S j).A p j * rb (el S j) j) = 0
        rw [if_neg hne, h1, h3]; grind
      · intro t ht
        show (if p = j then ra (el S j) j t else (if t = j then 0 else (el S j).A p t) + (el S j).A p j * ra (el S j) j t) = 0
        rw [if_neg hne, h3, h2 t ht]
        split <;> grind
  exact (key (n - (p + 1)) n (by omega) (Nat.le_refl n)).1
/-- what leads to a value above 0 -/
theorem val_pos (h : Ok n S) {s : Nat} (hs : s < n) (hp : 0 < S.b s ∨ ∃ t, t < n ∧ 0 < S.A s t ∧ 0 < val n S t) : 0 < val n S s := by
  rw [val_sol h s hs]
  have h0 : ∀ i, i < n → 0 ≤ (fun t => S.A s t * val n S t) i := fun i hi => Rat.mul_nonneg (h.nn s i hs hi) (val_nonneg h hi)
  have h1 := sm_nonneg h0
  have h2 := h.bn s hs
  rcases hp with hp | ⟨t, ht, h3, h4⟩
  · grind
  · have h5 := sm_one ht h0
    have h6 := Rat.mul_pos h3 h4
    have h5 : S.A s t * val n S t ≤ sm n (fun t => S.A s t * val n S t) := h5
    grind
/-! ### numbers below -/
theorem nat_ne {D : Nat} (hD : 0 < D) : (D : Rat) ≠ 0 := fun e => by
  have : (D : Rat) = ((0 : Nat) : Rat) := e
  rw [Rat.natCast_inj] at this
  omega
theorem num_eq (q : Rat) : q * (q.den : Rat) = (q.num : Rat) := by
  have h := Rat.mkRat_self q
  rw [Rat.mkRat_eq_div, Rat.div_def] at h
  have h2 : (q.num : Rat) * (q.den : Rat)⁻¹ * (q.den : Rat) = q.num := by
    rw [Rat.mul_assoc, Rat.inv_mul_cancel _ (nat_ne q.den_pos), Rat.mul_one]
  rw [h] at h2
  exact h2
theorem den_int {q : Rat} {D : Nat} (h : q.den ∣ D) : ∃ z : Int, q * D = z := by
  obtain ⟨k, rfl⟩ := h
  refine ⟨q.num * k, ?_⟩
  rw [Rat.natCast_mul, ← Rat.mul_assoc, num_eq, Rat.intCast_mul]
  rfl
theorem int_den {q : Rat} {D : Nat} (hD : 0 < D) {z : Int} (h : q * D = z) : q.den ∣ D := by
  have hq : q = mkRat z D := by
    have h0 : (D : Rat) ≠ 0 := nat_ne hD
    have : q = (z : Rat) * (D : Rat)⁻¹ := by
      rw [← h, Rat.mul_assoc, Rat.mul_inv_cancel _ h0, Rat.mul_one]
    rw [this, Rat.mkRat_eq_div, Rat.div_def]
  rw [hq, Rat.den_mkRat]
  split
  · exact Nat.one_dvd _
  · exact Nat.div_dvd_of_dvd (Nat.gcd_dvd_left _ _)
structure Dn (n N : Nat) (S : Sy) (s : Nat) (D : Nat) : Prop where
  pos : 0 < D
  le : D ≤ N
  A : ∀ t, t < n → (S.A s t).den ∣ D
  b : (S.b s).den ∣ D
theorem step_dn {N : Nat} (h : Ok n S) (hN : 1 ≤ N) {p : Nat} (hp : p < n) (hd : ∀ s, s < n → ∃ D, Dn n N S s D) : (∃ D, D ≤ N ∧ 0 < D ∧ (∀ t, t < n → (ra S p t).den ∣ D) ∧ (rb S p).den ∣ D) ∧ ∀ s, s < n → ∃ D, Dn n (N * N) (step S p) s D := by
  have hr : ∃ D, D ≤ N ∧ 0 < D ∧ (∀ t, t < n → (ra S p t).den ∣ D) ∧ (rb S p).den ∣ D := by
    by_cases e : S.A p p = 1
    · refine ⟨1, hN, by decide, fun t _ => ?_, ?_⟩
      · unfold ra; rw [if_pos e]; decide
      · unfold rb; rw [if_pos e]; decide
    · obtain ⟨D, hD⟩ := hd p hp
      obtain ⟨z, hz⟩ := den_int (hD.A p hp)
      have hl := h.lt hp e
      have h0 := h.nn p p hp hp
      have hDr : (0 : Rat) < (D : Rat) := by
        have := Rat.natCast_lt_natCast (a := 0) (b := D) |>.mpr hD.pos
        simpa using this
      have z0 : 0 ≤ z := by
        have : (0 : Rat) ≤ (z : Rat) := by rw [← hz]; exact Rat.mul_nonneg h0 (by grind)
        exact_mod_cast this
      have zD : z < (D : Int) := by
        have : (z : Rat) < ((D : Int) : Rat) := by
          rw [← hz]
          have := Rat.mul_lt_mul_of_pos_right hl hDr
          rw [Rat.one_mul] at this
          exact this
        exact_mod_cast this
      obtain ⟨m, hm⟩ : ∃ m : Nat, (m : Int) = (D : Int) - z := ⟨((D : Int) - z).toNat, by omega⟩
      have hmr : (m : Rat) = (D : Rat) * (1 - S.A p p) := by
        have : ((m : Int) : Rat) = ((D : Int) : Rat) - (z : Rat) := by rw [hm, Rat.intCast_sub]
        rw [← hz, Rat.intCast_natCast, Rat.intCast_natCast] at this
        rw [this]; grind
      have hi := mul_inv e
      have ent : ∀ q : Rat, q.den ∣ D → ((1 / (1 - S.A p p)) * q).den ∣ m := by
        intro q hq
        obtain ⟨y, hy⟩ := den_int hq
        refine int_den (by omega) (z := y) ?_
        rw [hmr, ← hy]
        generalize 1 / (1 - S.A p p) = c at hi
        have : c * q * ((D : Rat) * (1 - S.A p p)) = ((1 - S.A p p) * c) * (q * D) := by grind
        rw [this, hi]; grind
      refine ⟨m, by have := hD.le; omega, by omega, fun t ht => ?_, ?_⟩
      · unfold ra
        rw [if_neg e]
        split
        · exact Nat.one_dvd _
        · exact ent _ (hD.A t ht)
      · unfold rb
        rw [if_neg e]
        exact ent _ hD.b
  refine ⟨hr, fun s hs => ?_⟩
  obtain ⟨D, h1, h2, h3, h4⟩ := hr
  by_cases e : s = p
  · subst e
    refine ⟨D, h2, Nat.le_trans h1 (Nat.le_mul_of_pos_left _ (by omega)), fun t ht => ?_, ?_⟩
    · show (if s = s then ra S s t else _).den ∣ D
      rw [if_pos rfl]; exact h3 t ht
    · show (if s = s then rb S s else _).den ∣ D
      rw [if_pos rfl]; exact h4
  · obtain ⟨E, hE⟩ := hd s hs
    have mm : ∀ x y z : Rat, x.den ∣ E → y.den ∣ E → z.den ∣ D → (x + y * z).den ∣ E * D := by
      intro x y z hx hy hz
      obtain ⟨a, ha⟩ := den_int hx
      obtain ⟨c, hc⟩ := den_int hy
      obtain ⟨f, hf⟩ := den_int hz
      refine int_den (Nat.mul_pos hE.pos h2) (z := a * D + c * f) ?_
      have e1 : ((E * D : Nat) : Rat) = (E : Rat) * (D : Rat) := Rat.natCast_mul _ _
      have e2 : ((a * D + c * f : Int) : Rat) = (a : Rat) * (D : Rat) + (c : Rat) * (f : Rat) := by
        rw [Rat.intCast_add, Rat.intCast_mul, Rat.intCast_mul, Rat.intCast_natCast]
      rw [e1, e2, ← ha, ← hc, ← hf]; grind
    refine ⟨E * D, Nat.mul_pos hE.pos h2, Nat.mul_le_mul hE.le h1, fun t ht => ?_, ?_⟩
    · show (if s = p then ra S p t else (if t = p then 0 else S.A s t) + S.A s p * ra S p t).den ∣ E * D
      rw [if_neg e]
      apply mm
      · split
        · exact Nat.one_dvd _
        · exact hE.A t ht
      · exact hE.A p hp
      · exact h3 t ht
    · show (if s = p then rb S p else S.b s + S.A s p * rb S p).den ∣ E * D
      rw [if_neg e]
      exact mm _ _ _ hE.b (hE.A p hp) h4
theorem el_dn {N : Nat} (h : Ok n S) (hN : 1 ≤ N) (hd : ∀ s, s < n → ∃ D, Dn n N S s D) : ∀ {k : Nat}, k ≤ n → ∀ s, s < n → ∃ D, Dn n (N ^ 2 ^ k) (el S k) s D
  | 0, _, s, hs => by
    rw [Nat.pow_zero, Nat.pow_one]; exact hd s hs
  | k + 1, hk, s, hs => by
    have := (step_dn (el_ok h (Nat.le_of_succ_le hk)) (Nat.one_le_pow _ _ hN) hk (el_dn h hN hd (Nat.le_of_succ_le hk))).2 s hs
    rw [Nat.pow_succ, Nat.mul_two, Nat.pow_add]
    exact this
end KE
end

section
set_option Elab.async false
set_option linter.all false
set_option maxRecDepth 100000
/-! KEb: the places that lead to a goal, alone; lines of whole numbers. -/
namespace KE
def blk (S : Sy) (f : Nat → Nat) : Sy := ⟨fun i j => S.A (f i) (f j), fun i => S.b (f i)⟩
structure Eqv (m : Nat) (S T : Sy) : Prop where
  A : ∀ i j, i < m → j < m → S.A i j = T.A i j
  b : ∀ i, i < m → S.b i = T.b i
theorem Eqv.trans {m : Nat} {S T U : Sy} (h : Eqv m S T) (k : Eqv m T U) : Eqv m S U := ⟨fun i j a b => (h.A i j a b).trans (k.A i j a b), fun i a => (h.b i a).trans (k.b i a)⟩
theorem ra_eqv {m : Nat} {S T : Sy} (h : Eqv m S T) {p t : Nat} (hp : p < m) (ht : t < m) : ra S p t = ra T p t := by
  unfold ra
  rw [h.A p p hp hp, h.A p t hp ht]
theorem rb_eqv {m : Nat} {S T : Sy} (h : Eqv m S T) {p : Nat} (hp : p < m) : rb S p = rb T p := by
  unfold rb
  rw [h.A p p hp hp, h.b p hp]
theorem step_eqv {m : Nat} {S T : Sy} (h : Eqv m S T) {p : Nat} (hp : p < m) : Eqv m (step S p) (step T p) where
  A i j hi hj := by
    show (if i = p then ra S p j else (if j = p then 0 else S.A i j) + S.A i p * ra S p j) = (if i = p then ra T p j else (if j = p then 0 else T.A i j) + T.A i p * ra T p j)
    rw [ra_eqv h hp hj, h.A i j hi hj, h.A i p hi hp]
  b i hi := by
    show (if i = p then rb S p else S.b i + S.A i p * rb S p) = (if i = p then rb T p else T.b i + T.A i p * rb T p)
    rw [rb_eqv h hp, h.b i hi, h.A i p hi hp]
theorem step_blk {m : Nat} {S : Sy} {f : Nat → Nat} (hf : ∀ i j, i < m → j < m → f i = f j → i = j) {p : Nat} (hp : p < m) : Eqv m (blk (step S (f p)) f) (step (blk S f) p) := by
  have e : ∀ i, i < m → (f i = f p ↔ i = p) := fun i hi => ⟨hf i p hi hp, fun q => by rw [q]⟩
  have er : ∀ j, j < m → ra S (f p) (f j) = ra (blk S f) p j := fun j hj => by
    show (if S.A (f p) (f p) = 1 then 0 else if f j = f p then 0 else _) = if S.A (f p) (f p) = 1 then 0 else if j = p then 0 else _
    simp only [e j hj]
    rfl
  constructor
  · intro i j hi hj
    show (if f i = f p then ra S (f p) (f j) else (if f j = f p then 0 else S.A (f i) (f j)) + S.A (f i) (f p) * ra S (f p) (f j)) = (if i = p then ra (blk S f) p j else (if j = p then 0 else S.A (f i) (f j)) + S.A (f i) (f p) * ra (blk S f) p j)
    simp only [e i hi, e j hj, er j hj]
  · intro i hi
    show (if f i = f p then rb S (f p) else S.b (f i) + S.A (f i) (f p) * rb S (f p)) = (if i = p then rb (blk S f) p else S.b (f i) + S.A (f i) (f p) * rb (blk S f) p)
    simp only [e i hi]
    rfl
theorem step_off {m : Nat} {S : Sy} {f : Nat → Nat} {p : Nat} (h1 : ∀ j, j < m → S.A p (f j) = 0) (h2 : S.b p = 0) (h3 : ∀ j, j < m → f j ≠ p) : Eqv m (blk (step S p) f) (blk S f) where
  A i j hi hj := by
    show (if f i = p then ra S p (f j) else (if f j = p then 0 else S.A (f i) (f j)) + S.A (f i) p * ra S p (f j)) = S.A (f i) (f j)
    rw [if_neg (h3 i hi), if_neg (h3 j hj), ra_zero (h1 j hj)]; grind
  b i hi := by
    show (if f i = p then rb S p else S.b (f i) + S.A (f i) p * rb S p) = S.b (f i)
    have : rb S p = 0 := by
      unfold rb
      rw [h2]
      split <;> grind
    rw [if_neg (h3 i hi), this]; grind
/-- places that lead to no goal -/
structure Off (n : Nat) (ins : Nat → Bool) (S : Sy) : Prop where
  b : ∀ s, s < n → ins s = false → S.b s = 0
  A : ∀ s t, s < n → t < n → ins s = false → ins t = true → S.A s t = 0
theorem off_step {n : Nat} {ins : Nat → Bool} {S : Sy} (h : Off n ins S) {p : Nat} (hp : p < n) : Off n ins (step S p) where
  b s hs hi := by
    show (if s = p then rb S p else S.b s + S.A s p * rb S p) = 0
    have hr : ins p = false → rb S p = 0 := fun q => by
      unfold rb
      rw [h.b p hp q]
      split <;> grind
    split
    · rename_i e; subst e; exact hr hi
    · rw [h.b s hs hi]
      cases q : ins p with
      | false => rw [hr q]; grind
      | true => rw [h.A s p hs hp hi q]; grind
  A s t hs ht hi ht2 := by
    show (if s = p then ra S p t else (if t = p then 0 else S.A s t) + S.A s p * ra S p t) = 0
    split
    · rename_i e; subst e; exact ra_zero (h.A s t hs ht hi ht2)
    · rw [h.A s t hs ht hi ht2]
      cases q : ins p with
      | false =>
        rw [ra_zero (h.A p t hp ht q ht2)]
        split <;> grind
      | true =>
        rw [h.A s p hs hp hi q]
        split <;> grind
def som (n : Nat) (ins : Nat → Bool) : List Nat := (List.range n).filter ins
def cnt (ins : Nat → Bool) (k : Nat) : Nat := (som k ins).length
theorem som_succ {ins : Nat → Bool} (k : Nat) : som (k + 1) ins = som k ins ++ if ins k = true then [k] else [] := by
  unfold som
  rw [List.range_succ, List.filter_append]
  congr 1
  by_cases h : ins k = true
  · rw [if_pos h, List.filter_cons_of_pos h]; rfl
  · rw [if_neg h, List.filter_cons_of_neg h]; rfl
theorem som_pre {ins : Nat → Bool} {k : Nat} : ∀ {n : Nat}, k ≤ n → ∃ l, som n ins = som k ins ++ l ∧ ∀ x ∈ l, k ≤ x
  | n, h => by
    induction n with
    | zero => exact ⟨[], by rw [Nat.le_zero.mp h]; simp, by simp⟩
    | succ n ih =>
      by_cases e : k = n + 1
      · subst e; exact ⟨[], by simp, by simp⟩
      · obtain ⟨l, h1, h2⟩ := ih (by omega)
        refine ⟨l ++ if ins n = true then [n] else [], by rw [som_succ, h1, List.append_assoc], fun x hx => ?_⟩
        rw [List.mem_append] at hx
        rcases hx with hx | hx
        · exact h2 x hx
        · split at hx
          · rw [List.mem_singleton] at hx; omega
          · cases hx
theorem cnt_at {ins : Nat → Bool} {n k : Nat} (hk : k < n) (hi : ins k = true) : cnt ins k < (som n ins).length ∧ (som n ins).getD (cnt ins k) 0 = k := by
  obtain ⟨l, h1, _⟩ := som_pre (ins := ins) (k := k + 1) (n := n) hk
  rw [som_succ, if_pos hi] at h1
  rw [h1]
  unfold cnt
  constructor
  · simp only [List.length_append, List.length_singleton]; omega
  · rw [List.getD_eq_getElem?_getD, List.append_assoc, List.getElem?_append_right (Nat.le_refl _)]
    simp
theorem som_mem {n : Nat} {ins : Nat → Bool} {s : Nat} : s ∈ som n ins ↔ s < n ∧ ins s = true := by
  unfold som
  rw [List.mem_filter, List.mem_range]
theorem som_nodup (n : Nat) (ins : Nat → Bool) : (som n ins).Nodup := List.Pairwise.filter _ List.nodup_range
theorem som_at {n : Nat} {ins : Nat → Bool} {i : Nat} (h : i < (som n ins).length) : (som n ins).getD i 0 < n ∧ ins ((som n ins).getD i 0) = true := by
  rw [List.getD_eq_getElem?_getD, List.getElem?_eq_getElem h, Option.getD_some]
  exact som_mem.mp (List.getElem_mem h)
theorem nd_inj {l : List Nat} (h : l.Nodup) {i j : Nat} (hi : i < l.length) (hj : j < l.length) (e : l[i] = l[j]) : i = j := by
  have := List.pairwise_iff_getElem.mp h
  rcases Nat.lt_trichotomy i j with q | q | q
  · exact absurd e (this i j hi hj q)
  · exact q
  · exact absurd e.symm (this j i hj hi q)
theorem som_inj {n : Nat} {ins : Nat → Bool} {i j : Nat} (hi : i < (som n ins).length) (hj : j < (som n ins).length) (e : (som n ins).getD i 0 = (som n ins).getD j 0) : i = j := by
  rw [List.getD_eq_getElem?_getD, List.getElem?_eq_getElem hi, Option.getD_some, List.getD_eq_getElem?_getD, List.getElem?_eq_getElem hj, Option.getD_some] at e
  exact nd_inj (som_nodup n ins) hi hj e
theorem cnt_som {n : Nat} {ins : Nat → Bool} {i : Nat} (h : i < (som n ins).length) : cnt ins ((som n ins).getD i 0) = i := by
  obtain ⟨h1, h2⟩ := som_at h
  obtain ⟨h3, h4⟩ := cnt_at h1 h2
  exact som_inj h3 h h4
theorem som_len_le (n : Nat) (ins : Nat → Bool) : (som n ins).length ≤ n := by
  unfold som
  have := List.length_filter_le ins (List.range n)
  rwa [List.length_range] at this
/-- the block goes the same way -/
theorem el_blk {n : Nat} {ins : Nat → Bool} {S : Sy} (h : Off n ins S) : ∀ {k : Nat}, k ≤ n → Off n ins (el S k) ∧ Eqv (som n ins).length (blk (el S k) fun i => (som n ins).getD i 0) (el (blk S fun i => (som n ins).getD i 0) (cnt ins k))
  | 0, _ => ⟨h, ⟨fun _ _ _ _ => rfl, fun _ _ => rfl⟩⟩
  | k + 1, hk => by
    obtain ⟨h1, h2⟩ := el_blk h (Nat.le_of_succ_le hk)
    refine ⟨off_step h1 hk, ?_⟩
    by_cases e : ins k = true
    · obtain ⟨h3, h4⟩ := cnt_at hk e
      have e1 : cnt ins (k + 1) = cnt ins k + 1 := by
        unfold cnt
        rw [som_succ, if_pos e, List.length_append]; rfl
      rw [e1]
      show Eqv _ (blk (step (el S k) k) _) (step _ (cnt ins k))
      have := step_blk (S := el S k) (f := fun i => (som n ins).getD i 0) (fun i j hi hj q => som_inj hi hj q) h3
      simp only [h4] at this
      exact this.trans (step_eqv h2 h3)
    · have e1 : cnt ins (k + 1) = cnt ins k := by
        unfold cnt
        rw [som_succ, if_neg e, List.append_nil]
      rw [e1]
      have ef : ins k = false := by simpa using e
      refine Eqv.trans (step_off (fun j hj => ?_) (h1.b k hk ef) fun j hj q => ?_) h2
      · obtain ⟨a, b⟩ := som_at hj
        exact h1.A k _ hk a ef b
      · obtain ⟨a, b⟩ := som_at hj
        rw [q] at b
        exact e b
/-- bounds at a stage -/
structure Bd (m N : Nat) (S : Sy) : Prop where
  A : ∀ i j, i < m → j < m → 0 ≤ S.A i j ∧ S.A i j ≤ 1
  b : ∀ i, i < m → 0 ≤ S.b i ∧ S.b i ≤ 1
  D : ∀ i, i < m → ∃ D, Dn m N S i D
theorem blk_bd {n N : Nat} {ins : Nat → Bool} {S : Sy} (h : Off n ins S) (ok : Ok n S) (hN : 1 ≤ N) (hd : ∀ s, s < n → ∃ D, Dn n N S s D) {i : Nat} (hi : i ≤ (som n ins).length) : Bd (som n ins).length (N ^ 2 ^ n) (el (blk S fun i => (som n ins).getD i 0) i) := by
  have key : ∃ k, k ≤ n ∧ cnt ins k = i := by
    by_cases e : i = (som n ins).length
    · exact ⟨n, Nat.le_refl _, e.symm⟩
    · have hl : i < (som n ins).length := by omega
      exact ⟨_, Nat.le_of_lt (som_at hl).1, cnt_som hl⟩
  obtain ⟨k, hk, rfl⟩ := key
  obtain ⟨_, e⟩ := el_blk h hk
  have o := el_ok ok hk
  refine ⟨fun i j hi hj => ?_, fun i hi => ?_, fun i hi => ?_⟩
  · rw [← e.A i j hi hj]
    exact ⟨o.nn _ _ (som_at hi).1 (som_at hj).1, o.le (som_at hi).1 (som_at hj).1⟩
  · rw [← e.b i hi]
    exact ⟨o.bn _ (som_at hi).1, o.ble (som_at hi).1⟩
  · obtain ⟨D, d⟩ := el_dn ok hN hd hk _ (som_at hi).1
    refine ⟨D, d.pos, Nat.le_trans d.le (Nat.pow_le_pow_right hN (Nat.pow_le_pow_right (by decide) hk)), fun t ht => ?_, ?_⟩
    · rw [← e.A i t hi ht]
      exact d.A _ (som_at ht).1
    · rw [← e.b i hi]
      exact d.b
/-- each place that leads to a goal has a value above 0: none of them stays for ever -/
theorem blk_lt {n : Nat} {ins : Nat → Bool} {S : Sy} (h : Off n ins S) (ok : Ok n S) (hv : ∀ s, s < n → ins s = true → 0 < val n S s) {i : Nat} (hi : i < (som n ins).length) : (el (blk S fun i => (som n ins).getD i 0) i).A i i < 1 := by
  obtain ⟨h1, h2⟩ := som_at hi
  obtain ⟨_, e⟩ := el_blk h (Nat.le_of_lt h1)
  have := e.A i i (by rwa [cnt_som hi] at *) (by rwa [cnt_som hi] at *)
  rw [cnt_som hi] at this
  rw [← this]
  show (el S ((som n ins).getD i 0)).A ((som n ins).getD i 0) ((som n ins).getD i 0) < 1
  refine (el_ok ok (Nat.le_of_lt h1)).lt h1 fun q => ?_
  have := val_stay ok h1 q
  have := hv _ h1 h2
  grind
theorem blk_val {n : Nat} {ins : Nat → Bool} {S : Sy} (h : Off n ins S) {i : Nat} (hi : i < (som n ins).length) : (el (blk S fun i => (som n ins).getD i 0) (som n ins).length).b i = val n S ((som n ins).getD i 0) := by
  have e := (el_blk h (Nat.le_refl n)).2
  exact (e.b i hi).symm
theorem off_val {n : Nat} {ins : Nat → Bool} {S : Sy} (h : Off n ins S) {s : Nat} (hs : s < n) (hi : ins s = false) : val n S s = 0 := (el_blk h (Nat.le_refl n)).1.b s hs hi
/-! ### lines of whole numbers -/
def gl (z : List Int) : Nat := z.foldl (fun d x => Int.gcd d x) 0
theorem gl_gen : ∀ (z : List Int) (d : Nat), (z.foldl (fun d x => Int.gcd d x) d ∣ d ∧ ∀ x ∈ z, ((z.foldl (fun d x => Int.gcd d x) d : Nat) : Int) ∣ x) ∧ ∀ e : Nat, e ∣ d → (∀ x ∈ z, (e : Int) ∣ x) → e ∣ z.foldl (fun d x => Int.gcd d x) d
  | [], d => ⟨⟨Nat.dvd_refl _, by simp⟩, fun e h _ => h⟩
  | y :: z, d => by
    obtain ⟨⟨h1, h2⟩, h3⟩ := gl_gen z (Int.gcd d y)
    have g1 : Int.gcd d y ∣ d := by
      have := Int.gcd_dvd_left (d : Int) y
      exact Int.natCast_dvd_natCast.mp this
    refine ⟨⟨Nat.dvd_trans h1 g1, fun x hx => ?_⟩, fun e he hx => ?_⟩
    · rw [List.mem_cons] at hx
      rcases hx with rfl | hx
      · exact Int.dvd_trans (Int.natCast_dvd_natCast.mpr h1) (Int.gcd_dvd_right (d : Int) x)
      · exact h2 x hx
    · refine h3 e ?_ fun x hx' => hx x (List.mem_cons_of_mem _ hx')
      have := Int.dvd_coe_gcd (Int.natCast_dvd_natCast.mpr he) (hx y (List.mem_cons_self ..))
      exact Int.natCast_dvd_natCast.mp this
theorem gl_dvd {z : List Int} {x : Int} (h : x ∈ z) : ((gl z : Nat) : Int) ∣ x := (gl_gen z 0).1.2 x h
theorem dvd_gl {z : List Int} {e : Nat} (h : ∀ x ∈ z, (e : Int) ∣ x) : e ∣ gl z := (gl_gen z 0).2 e (Nat.dvd_zero _) h
theorem gl_zero {z : List Int} (h : gl z = 0) : ∀ x ∈ z, x = 0 := fun x hx => by
  have := gl_dvd hx
  rw [h] at this
  exact Int.zero_dvd.mp (by simpa using this)
/-- a line: c times row i of 1 - A, and b -/
structure Ln (m i : Nat) (a : Nat → Rat) (b : Rat) (z : List Int) : Prop where
  len : z.length = m + 1
  c : ∃ c : Rat, 0 < c ∧ (∀ j, j < m → ((z.getD j 0 : Int) : Rat) = c * ((if j = i then 1 else 0) - a j)) ∧ ((z.getD m 0 : Int) : Rat) = c * b
theorem ln_all {m : Nat} {z : List Int} (hl : z.length = m + 1) {p : Int → Prop} (h : ∀ j, j ≤ m → p (z.getD j 0)) : ∀ x ∈ z, p x := fun x hx => by
  obtain ⟨j, hj, rfl⟩ := List.getElem_of_mem hx
  have := h j (by omega)
  rwa [List.getD_eq_getElem?_getD, List.getElem?_eq_getElem hj, Option.getD_some] at this
/-- the numbers of a line without a common divisor are at most the number below -/
theorem ln_bnd {m i D : Nat} {a : Nat → Rat} {b : Rat} {z : List Int} (h : Ln m i a b z) (g : gl z ≤ 1) (hD : 0 < D) (ha : ∀ j, j < m → (0 ≤ a j ∧ a j ≤ 1) ∧ (a j).den ∣ D) (hb : (0 ≤ b ∧ b ≤ 1) ∧ b.den ∣ D) : ∀ x ∈ z, x.natAbs ≤ D := by
  obtain ⟨c, c0, h1, h2⟩ := h.c
  have hDr : (0 : Rat) < (D : Rat) := by
    have := Rat.natCast_lt_natCast (a := 0) (b := D) |>.mpr hD
    exact this
  have ent : ∀ j, j ≤ m → ∃ y : Int, ((z.getD j 0 : Int) : Rat) * D = c * y ∧ y.natAbs ≤ D := by
    intro j hj
    have bnd : ∀ y : Int, -(D : Rat) ≤ (y : Rat) → (y : Rat) ≤ D → y.natAbs ≤ D := fun y q1 q2 => by
      have q1 : ((-(D : Int) : Int) : Rat) ≤ (y : Rat) := by rw [Rat.intCast_neg]; exact q1
      have q2 : (y : Rat) ≤ ((D : Int) : Rat) := q2
      rw [Rat.intCast_le_intCast] at q1 q2
      omega
    by_cases e : j = m
    · obtain ⟨y, hy⟩ := den_int hb.2
      refine ⟨y, by rw [e, h2, ← hy, Rat.mul_assoc], bnd y ?_ ?_⟩
      · rw [← hy]
        have := Rat.mul_nonneg hb.1.1 (Rat.le_of_lt hDr)
        grind
      · rw [← hy]
        have := Rat.mul_le_mul_of_nonneg_right hb.1.2 (Rat.le_of_lt hDr)
        grind
    · obtain ⟨⟨a0, a1⟩, a2⟩ := ha j (by omega)
      obtain ⟨y, hy⟩ := den_int a2
      have p0 := Rat.mul_nonneg a0 (Rat.le_of_lt hDr)
      have p1 := Rat.mul_le_mul_of_nonneg_right a1 (Rat.le_of_lt hDr)
      rw [hy] at p0 p1
      refine ⟨(if j = i then (D : Int) else 0) - y, ?_, ?_⟩
      · rw [h1 j (by omega), Rat.intCast_sub, ← hy]
        split
        · rw [Rat.intCast_natCast]; grind
        · rw [Rat.intCast_zero]; grind
      · rw [Rat.one_mul] at p1
        have q0 : ((0 : Int) : Rat) ≤ (y : Rat) := p0
        have q1 : (y : Rat) ≤ ((D : Int) : Rat) := p1
        rw [Rat.intCast_le_intCast] at q0 q1
        split <;> omega
  by_cases g0 : gl z = 0
  · intro x hx
    rw [gl_zero g0 x hx]; simp
  have g1 : gl z = 1 := by omega
  -- (D / c) = u / w
  have cne : c ≠ 0 := by grind
  obtain ⟨w, w0, u, u0, cop, huw⟩ : ∃ w : Nat, 0 < w ∧ ∃ u : Int, 0 < u ∧ Int.gcd w u = 1 ∧ (u : Rat) * c = (w : Rat) * D := by
    refine ⟨((D : Rat) / c).den, Rat.den_pos _, ((D : Rat) / c).num, ?_, ?_, ?_⟩
    · have : (0 : Rat) < (D : Rat) / c := by
        rw [Rat.div_def]; exact Rat.mul_pos hDr (Rat.inv_pos.mpr c0)
      rw [Rat.lt_iff] at this
      simpa using this
    · rw [Int.gcd_comm]
      have := ((D : Rat) / c).reduced
      exact this
    · have e := num_eq ((D : Rat) / c)
      rw [← e]
      have e2 : (D : Rat) / c * c = D := by rw [Rat.div_def, Rat.mul_assoc, Rat.inv_mul_cancel _ cne, Rat.mul_one]
      generalize (((D : Rat) / c).den : Rat) = W
      generalize (D : Rat) / c = L at e2
      rw [← e2]; grind
  have eqn : ∀ j, j ≤ m → ∃ y : Int, u * z.getD j 0 = w * y ∧ y.natAbs ≤ D := by
    intro j hj
    obtain ⟨y, e, hy⟩ := ent j hj
    refine ⟨y, ?_, hy⟩
    rw [← Rat.intCast_inj, Rat.intCast_mul, Rat.intCast_mul, Rat.intCast_natCast]
    have e3 : c * ((u : Rat) * ((z.getD j 0 : Int) : Rat)) = c * ((w : Rat) * (y : Rat)) := by
      have : c * ((w : Rat) * (y : Rat)) = (w : Rat) * (c * (y : Rat)) := by grind
      rw [this, ← e]
      have : (w : Rat) * (((z.getD j 0 : Int) : Rat) * (D : Rat)) = ((w : Rat) * (D : Rat)) * ((z.getD j 0 : Int) : Rat) := by grind
      rw [this, ← huw]; grind
    have := congrArg (fun q => c⁻¹ * q) e3
    simp only [← Rat.mul_assoc, Rat.inv_mul_cancel _ cne, Rat.one_mul] at this
    exact this
  have wd : w ∣ gl z := by
    refine dvd_gl (ln_all h.len fun j hj => ?_)
    obtain ⟨y, e, _⟩ := eqn j hj
    have : (w : Int) ∣ u * z.getD j 0 := ⟨y, e⟩
    have := Int.dvd_gcd_mul_iff_dvd_mul.mpr this
    rw [cop] at this
    simpa using this
  rw [g1] at wd
  have w1 : w = 1 := Nat.dvd_one.mp wd
  subst w1
  refine ln_all h.len fun j hj => ?_
  obtain ⟨y, e, hy⟩ := eqn j hj
  have : y = u * z.getD j 0 := by rw [e]; simp
  rw [this, Int.natAbs_mul] at hy
  exact Nat.le_trans (Nat.le_mul_of_pos_left _ (by omega)) hy
/-- without the common divisor -/
def sml (z : List Int) : List Int := if gl z = 0 then z else z.map fun x => x / (gl z : Int)
theorem sml_gl (z : List Int) : gl (sml z) ≤ 1 := by
  unfold sml
  by_cases g0 : gl z = 0
  · rw [if_pos g0, g0]; decide
  · rw [if_neg g0]
    have key : gl (z.map fun x => x / (gl z : Int)) * gl z ∣ gl z := by
      refine dvd_gl fun x hx => ?_
      have h1 : ((gl (z.map fun x => x / (gl z : Int)) : Nat) : Int) ∣ x / (gl z : Int) := gl_dvd (List.mem_map_of_mem (f := fun x => x / (gl z : Int)) hx)
      have h2 := Int.mul_dvd_mul_right (gl z : Int) h1
      rw [Int.ediv_mul_cancel (gl_dvd hx)] at h2
      rw [Int.natCast_mul]
      exact h2
    have := Nat.le_of_dvd (by omega) key
    apply Decidable.byContradiction
    intro q
    have : 2 * gl z ≤ gl (z.map fun x => x / (gl z : Int)) * gl z := Nat.mul_le_mul_right _ (by omega)
    omega
theorem getD_map0 (z : List Int) (f : Int → Int) (h : f 0 = 0) (j : Nat) : (z.map f).getD j 0 = f (z.getD j 0) := by
  rw [List.getD_eq_getElem?_getD, List.getD_eq_getElem?_getD, List.getElem?_map]
  cases z[j]? with
  | none => exact h.symm
  | some x => rfl
theorem ln_sml {m i : Nat} {a : Nat → Rat} {b : Rat} {z : List Int} (h : Ln m i a b z) : Ln m i a b (sml z) := by
  unfold sml
  by_cases g0 : gl z = 0
  · rw [if_pos g0]; exact h
  · rw [if_neg g0]
    obtain ⟨c, c0, h1, h2⟩ := h.c
    have gr : (0 : Rat) < (gl z : Rat) := by
      have := Rat.natCast_lt_natCast (a := 0) (b := gl z) |>.mpr (by omega)
      exact this
    have gne : (gl z : Rat) ≠ 0 := nat_ne (by omega)
    have en : ∀ j, j ≤ m → (((z.map fun x => x / (gl z : Int)).getD j 0 : Int) : Rat) = (gl z : Rat)⁻¹ * ((z.getD j 0 : Int) : Rat) := by
      intro j hj
      rw [getD_map0 _ _ (by simp)]
      have hx : z.getD j 0 ∈ z := by
        rw [List.getD_eq_getElem?_getD, List.getElem?_eq_getElem (by rw [h.len]; omega), Option.getD_some]
        exact List.getElem_mem _
      obtain ⟨y, hy⟩ := gl_dvd hx
      rw [hy, Int.mul_ediv_cancel_left _ (by omega), Rat.intCast_mul, Rat.intCast_natCast, ← Rat.mul_assoc, Rat.inv_mul_cancel _ gne, Rat.one_mul]
    refine ⟨by rw [List.length_map]; exact h.len, (gl z : Rat)⁻¹ * c, Rat.mul_pos (Rat.inv_pos.mpr gr) c0, fun j hj => ?_, ?_⟩
    · rw [en j (by omega), h1 j hj, Rat.mul_assoc]
    · rw [en m (Nat.le_refl _), h2, Rat.mul_assoc]
/-- a line without place p, by the line of p -/
def wo (z y : List Int) (p : Nat) : List Int := sml ((z.zip y).map fun x => (y.getD p 0 / (Int.gcd (z.getD p 0) (y.getD p 0) : Int)) * x.1 - (z.getD p 0 / (Int.gcd (z.getD p 0) (y.getD p 0) : Int)) * x.2)
theorem zip_getD {z y : List Int} {j : Nat} (h1 : j < z.length) (h2 : j < y.length) (f : Int × Int → Int) : ((z.zip y).map f).getD j 0 = f (z.getD j 0, y.getD j 0) := by
  rw [List.getD_eq_getElem?_getD, List.getD_eq_getElem?_getD, List.getD_eq_getElem?_getD, List.getElem?_map, List.getElem?_zip_eq_some (z := (z[j], y[j])) |>.mpr ⟨List.getElem?_eq_getElem h1, List.getElem?_eq_getElem h2⟩, List.getElem?_eq_getElem h1, List.getElem?_eq_getElem h2]
  rfl
theorem ln_wo {m p k : Nat} {S : Sy} {z y : List Int} (hp : p < m) (hk : k ≠ p) (hs : S.A p p < 1) (hz : Ln m k (S.A k) (S.b k) z) (hy : Ln m p (S.A p) (S.b p) y) : Ln m k ((step S p).A k) ((step S p).b k) (wo z y p) := by
  refine ln_sml ?_
  obtain ⟨c, c0, h1, h2⟩ := hz.c
  obtain ⟨d, d0, h3, h4⟩ := hy.c
  have zp := h1 p hp
  have yp := h3 p hp
  rw [if_neg (fun e => hk e.symm)] at zp
  rw [if_pos rfl] at yp
  have ypos : 0 < y.getD p 0 := by
    have : (0 : Rat) < ((y.getD p 0 : Int) : Rat) := by
      rw [yp]; exact Rat.mul_pos d0 (by grind)
    have : ((0 : Int) : Rat) < ((y.getD p 0 : Int) : Rat) := this
    rwa [Rat.intCast_lt_intCast] at this
  generalize hg : Int.gcd (z.getD p 0) (y.getD p 0) = g
  have g0 : 0 < g := by
    rw [← hg]; exact Int.gcd_pos_of_ne_zero_right _ (by omega)
  have gd1 : (g : Int) ∣ z.getD p 0 := by rw [← hg]; exact Int.gcd_dvd_left _ _
  have gd2 : (g : Int) ∣ y.getD p 0 := by rw [← hg]; exact Int.gcd_dvd_right _ _
  have gr : (0 : Rat) < (g : Rat) := by
    have := Rat.natCast_lt_natCast (a := 0) (b := g) |>.mpr g0
    exact this
  have gne : (g : Rat) ≠ 0 := nat_ne g0
  have quo : ∀ x : Int, (g : Int) ∣ x → ((x / (g : Int) : Int) : Rat) = (g : Rat)⁻¹ * (x : Rat) := fun x hx => by
    obtain ⟨t, rfl⟩ := hx
    rw [Int.mul_ediv_cancel_left _ (by omega), Rat.intCast_mul, Rat.intCast_natCast, ← Rat.mul_assoc, Rat.inv_mul_cancel _ gne, Rat.one_mul]
  have en : ∀ j, j ≤ m → ((((z.zip y).map fun x => (y.getD p 0 / (g : Int)) * x.1 - (z.getD p 0 / (g : Int)) * x.2).getD j 0 : Int) : Rat) = (g : Rat)⁻¹ * (((y.getD p 0 : Int) : Rat) * ((z.getD j 0 : Int) : Rat) - ((z.getD p 0 : Int) : Rat) * ((y.getD j 0 : Int) : Rat)) := by
    intro j hj
    rw [zip_getD (by rw [hz.len]; omega) (by rw [hy.len]; omega), Rat.intCast_sub, Rat.intCast_mul, Rat.intCast_mul, quo _ gd1, quo _ gd2]
    grind
  have hi := mul_inv (s := S.A p p) (by grind)
  have hne : S.A p p ≠ 1 := by grind
  refine ⟨?_, (g : Rat)⁻¹ * (c * (d * (1 - S.A p p))), ?_, fun j hj => ?_, ?_⟩
  · rw [List.length_map, List.length_zip, hz.len, hy.len]; simp
  · exact Rat.mul_pos (Rat.inv_pos.mpr gr) (Rat.mul_pos c0 (Rat.mul_pos d0 (by grind)))
  · rw [en j (by omega), h1 j hj, h3 j hj, zp, yp]
    show _ = (g : Rat)⁻¹ * (c * (d * (1 - S.A p p))) * ((if j = k then 1 else 0) - (if k = p then ra S p j else (if j = p then 0 else S.A k j) + S.A k p * ra S p j))
    rw [if_neg hk]
    unfold ra
    rw [if_neg hne]
    generalize 1 / (1 - S.A p p) = r at hi
    by_cases e : j = p
    · subst e
      rw [if_neg (fun q => hk q.symm), if_pos rfl, if_pos rfl, if_pos rfl]
      grind
    · rw [if_neg e, if_neg e, if_neg e]
      generalize (if j = k then (1 : Rat) else 0) = dl
      have : (1 - S.A p p) * (dl - (S.A k j + S.A k p * (r * S.A p j))) = (1 - S.A p p) * (dl - S.A k j) - S.A k p * (((1 - S.A p p) * r) * S.A p j) := by grind
      have e2 : (g : Rat)⁻¹ * (c * (d * (1 - S.A p p))) * (dl - (S.A k j + S.A k p * (r * S.A p j))) = (g : Rat)⁻¹ * (c * d) * ((1 - S.A p p) * (dl - (S.A k j + S.A k p * (r * S.A p j)))) := by grind
      rw [e2, this, hi]
      grind
  · rw [en m (Nat.le_refl _), h2, h4, zp, yp]
    show _ = (g : Rat)⁻¹ * (c * (d * (1 - S.A p p))) * (if k = p then rb S p else S.b k + S.A k p * rb S p)
    rw [if_neg hk]
    unfold rb
    rw [if_neg hne]
    generalize 1 / (1 - S.A p p) = r at hi
    have : (g : Rat)⁻¹ * (c * (d * (1 - S.A p p))) * (S.b k + S.A k p * (r * S.b p)) = (g : Rat)⁻¹ * (c * d) * ((1 - S.A p p) * S.b k + S.A k p * (((1 - S.A p p) * r) * S.b p)) := by grind
    rw [this, hi]
    grind
/-- the line of p itself -/
theorem ln_self {m p : Nat} {S : Sy} {y : List Int} (hs : S.A p p < 1) (hy : Ln m p (S.A p) (S.b p) y) : Ln m p ((step S p).A p) ((step S p).b p) y := by
  obtain ⟨d, d0, h3, h4⟩ := hy.c
  have hi := mul_inv (s := S.A p p) (by grind)
  have hne : S.A p p ≠ 1 := by grind
  refine ⟨hy.len, d * (1 - S.A p p), Rat.mul_pos d0 (by grind), fun j hj => ?_, ?_⟩
  · rw [h3 j hj]
    show _ = d * (1 - S.A p p) * ((if j = p then 1 else 0) - (if p = p then ra S p j else _))
    rw [if_pos rfl]
    unfold ra
    rw [if_neg hne]
    generalize 1 / (1 - S.A p p) = r at hi
    by_cases e : j = p
    · subst e
      rw [if_pos rfl, if_pos rfl]; grind
    · rw [if_neg e, if_neg e]
      have : d * (1 - S.A p p) * (0 - r * S.A p j) = d * (0 - ((1 - S.A p p) * r) * S.A p j) := by grind
      rw [this, hi]; grind
  · rw [h4]
    show _ = d * (1 - S.A p p) * (if p = p then rb S p else _)
    rw [if_pos rfl]
    unfold rb
    rw [if_neg hne]
    generalize 1 / (1 - S.A p p) = r at hi
    have : d * (1 - S.A p p) * (r * S.b p) = d * (((1 - S.A p p) * r) * S.b p) := by grind
    rw [this, hi]; grind
/-- a line where p does not stand -/
theorem ln_keep {m p k : Nat} {S : Sy} {z : List Int} (hp : p < m) (hk : k ≠ p) (h0 : z.getD p 0 = 0) (hz : Ln m k (S.A k) (S.b k) z) : Ln m k ((step S p).A k) ((step S p).b k) z := by
  obtain ⟨c, c0, h1, h2⟩ := hz.c
  have zp := h1 p hp
  rw [if_neg (fun e => hk e.symm), h0] at zp
  have a0 : S.A k p = 0 := by
    have : c * (0 - S.A k p) = 0 := by rw [← zp]; rfl
    have := Rat.mul_eq_zero.mp this
    grind
  refine ⟨hz.len, c, c0, fun j hj => ?_, ?_⟩
  · rw [h1 j hj]
    show _ = c * ((if j = k then 1 else 0) - (if k = p then ra S p j else (if j = p then 0 else S.A k j) + S.A k p * ra S p j))
    rw [if_neg hk, a0]
    by_cases e : j = p
    · subst e; rw [if_pos rfl, a0]; grind
    · rw [if_neg e]; grind
  · rw [h2]
    show _ = c * (if k = p then rb S p else S.b k + S.A k p * rb S p)
    rw [if_neg hk, a0]; grind
/-- at the end -/
theorem ln_end {m k : Nat} {a : Nat → Rat} {b : Rat} {z : List Int} (hk : k < m) (h : Ln m k a b z) (h0 : ∀ j, j < m → a j = 0) : 0 < z.getD k 0 ∧ mkRat (z.getD m 0) (z.getD k 0).toNat = b := by
  obtain ⟨c, c0, h1, h2⟩ := h.c
  have e := h1 k hk
  rw [if_pos rfl, h0 k hk] at e
  have e : ((z.getD k 0 : Int) : Rat) = c := by rw [e]; grind
  have p0 : 0 < z.getD k 0 := by
    have : ((0 : Int) : Rat) < ((z.getD k 0 : Int) : Rat) := by rw [e]; exact c0
    rwa [Rat.intCast_lt_intCast] at this
  refine ⟨p0, ?_⟩
  rw [Rat.mkRat_eq_div, Rat.div_def, h2]
  have : (((z.getD k 0).toNat : Nat) : Rat) = c := by
    rw [← e, ← Rat.intCast_natCast, Int.toNat_of_nonneg (Int.le_of_lt p0)]
  rw [this]
  have : c * b * c⁻¹ = (c * c⁻¹) * b := by grind
  rw [this, Rat.mul_inv_cancel _ (by grind), Rat.one_mul]
end KE
end

section
set_option Elab.async false
set_option linter.all false
set_option maxRecDepth 100000
set_option maxHeartbeats 4000000
set_option exponentiation.threshold 10000
/-! K85a: lines of whole numbers: minus, smallest, place_to_begin, without_place. -/
namespace K82
open PySem PL KE
def eMinus : Ent := fnE (fun p : PP => [pr p.1.1 p.1.2, pr p.2.1 p.2.2]) (fun p => (0 < p.1.2 ∧ 0 < p.2.2) ∧ (Small 4400 p.1.1 ∧ Small 4400 p.1.2) ∧ Small 4400 p.2.1 ∧ Small 4400 p.2.2) (fun p => fr (mkRat p.1.1 p.1.2 - mkRat p.2.1 p.2.2))
theorem small_neg {n : Nat} {i : Int} (h : Small n i) : Small n (-i) := by
  unfold Small; rw [Int.natAbs_neg]; exact h
theorem small_sub {n : Nat} {i j : Int} (h : Small n i) (h' : Small n j) : Small (n + 1) (i - j) := by
  rw [Int.sub_eq_add_neg]; exact small_add h (small_neg h')
theorem minus_does {tb : Tab} (h : tb.fn "lowest" = some eLow) : Does tb b_minus N_minus.length false eMinus.R := by
  rintro ds L ⟨⟨⟨a, b⟩, c, d⟩, rfl, ⟨⟨hb0, hd0⟩, ⟨ha, hb⟩, hc, hd⟩, hL⟩
  dsimp only at hb0 hd0 ha hb hc hd hL
  simp_arith [b_minus, N_minus, call0_of h rfl, eLow]
  refine ⟨mulOk ha hd (by decide) (by decide), mulOk hc hb (by decide) (by decide), mulOk hb hd (by decide) (by decide), ⟨a * d - c * b, b * d⟩, rfl, ⟨Nat.mul_pos hb0 hd0, (small_sub (ha.mul hd) (hc.mul hb)).mono (by decide), ?_⟩, ?_⟩
  · have := hb.mul hd
    rw [← Int.natCast_mul] at this
    exact this.mono (by decide)
  · have e : mkRat a b - mkRat c d = mkRat (a * d - c * b) (b * d) := by
      have e1 := Rat.mkRat_add_mkRat a (-c) (d₁ := b) (d₂ := d) (by omega) (by omega)
      rw [Rat.sub_eq_add_neg, Rat.neg_mkRat, e1, Int.neg_mul, ← Int.sub_eq_add_neg]
    dsimp only
    rw [← e]
    exact hL
/-! ### lines -/
def intsD (z : List Int) : PyData := .list (z.map .int)
theorem small_gcd2 {n : Nat} {a b : Int} (ha : Small n a) (hb : Small n b) : Small n (Int.gcd a b : Int) := by
  unfold Small at *
  rw [Int.natAbs_natCast]
  by_cases h : b = 0
  · subst h; rw [Int.gcd_zero_right]; exact ha
  · exact Nat.lt_of_le_of_lt (Int.gcd_le_natAbs_right _ h) hb
theorem gl_succ {z : List Int} {i : Nat} (h : i < z.length) : gl (z.take (i + 1)) = Int.gcd (gl (z.take i)) z[i] := by
  unfold gl
  rw [List.take_succ_eq_append_getElem h, List.foldl_append]; rfl
theorem gl_small {n : Nat} {z : List Int} (h : ∀ x ∈ z, Small n x) : ∀ i, i ≤ z.length → Small n (gl (z.take i) : Int)
  | 0, _ => by
    rw [List.take_zero]
    show (0 : Int).natAbs < 2 ^ n
    exact Nat.pow_pos (by decide)
  | i + 1, hi => by
    rw [gl_succ hi]
    exact small_gcd2 (gl_small h i (by omega)) (h _ (List.getElem_mem _))
theorem sml_one {z : List Int} {i : Nat} (h : gl (z.take i) = 1) : sml z = z := by
  have h1 : gl z ∣ gl (z.take i) := dvd_gl fun x hx => gl_dvd (List.mem_of_mem_take hx)
  rw [h] at h1
  have h2 := Nat.dvd_one.mp h1
  unfold sml
  rw [h2, if_neg (by decide)]
  simp
def eSml : Ent := fnE (fun z : List Int => [intsD z]) (fun z => z.length ≤ LIM ∧ ∀ x ∈ z, Small 9000 x) (fun z => intsD (sml z))
theorem smallest_does {tb : Tab} (h : tb.fn "greatest_divisor" = some eGd) : Does tb b_smallest N_smallest.length false eSml.R := by
  rintro ds L ⟨z, rfl, ⟨hl, hz⟩, hL⟩
  dsimp only at hl hz hL
  simp_arith [b_smallest, N_smallest, call0_of h rfl, eGd, intsD]
  refine for_list (fun i e => ∃ s, Wk s ∧ e = [Sl.sh (intsD z), .sh (.int (gl (z.take i))), s]) ⟨.un, trivial, rfl⟩ (fun i hi e hI => ?_) fun e hI => ?_
  · obtain ⟨s, k, rfl⟩ := hI
    simp_arith [wrK_wk k, call0_of h rfl, eGd]
    refine ⟨⟨(gl (z.take i) : Int), z[i]⟩, rfl, ⟨gl_small hz i (by omega), hz _ (List.getElem_mem _)⟩, ?_⟩
    simp_arith
    rw [← gl_succ hi]
    by_cases e : gl (z.take (i + 1)) = 1
    · rw [if_pos (by omega)]
      rw [sml_one e] at hL
      simp_arith [intsD]
      exact hL
    · rw [if_neg (by omega)]
      exact ⟨_, wk_sh, rfl⟩
  · obtain ⟨s, k, rfl⟩ := hI
    rw [List.take_length]
    simp_arith [wrK_wk k, intsD]
    by_cases e : gl z = 0
    · rw [if_pos (by omega)]
      unfold sml at hL
      rw [if_pos e] at hL
      exact hL
    · rw [if_neg (by omega)]
      unfold sml at hL
      rw [if_neg e] at hL
      have g9 := gl_small hz z.length (Nat.le_refl _)
      rw [List.take_length] at g9
      refine ⟨by rw [List.length_map]; exact hl, lcK_list (fun x => .int (x / (gl z : Int))) (fun x hx => ?_) ?_⟩
      · simp_arith [wrK_wk k]
        refine ⟨divOk g9 (by omega), ?_⟩
        rw [Int.fdiv_eq_ediv_of_nonneg _ (by omega)]
      · rw [intsD, List.map_map] at hL
        exact hL
/-- what a call with a borrowed list is -/
def fnEw {α : Type} (inp : α → List PyData) (pre : α → Prop) (out : α → PyData) : Ent := ⟨fun ds L => ∃ a, ds = inp a ∧ pre a ∧ L (.sh (out a)) ((inp a).headD .none), true, 0, [], fun h ⟨a, e, p, w⟩ => ⟨a, e, p, h _ _ w⟩⟩
def linesD (zs : List (List Int)) : PyData := .list (zs.map intsD)
theorem atI_ints {z : List Int} {j : Nat} (h : j < z.length) : L2.atI (z.map PyData.int) (j : Int) = some (.int (z.getD j 0)) := by
  rw [atI_map h, List.getD_eq_getElem?_getD, List.getElem?_eq_getElem h]; rfl
structure BegIn where
  zs : List (List Int)
  p : Nat
structure BegOk (q : BegIn) : Prop where
  p : q.p < q.zs.length
  l : q.zs.length ≤ 1000
  z : ∀ z ∈ q.zs, q.p < z.length
  n0 : (q.zs.getD q.p []).getD q.p 0 ≠ 0
def eBeg : Ent := fnEw (fun q : BegIn => [linesD q.zs, .int (q.p : Nat)]) BegOk (fun q => .int (q.p : Nat))
theorem begin_does {tb : Tab} : Does tb b_place_to_begin N_place_to_begin.length true eBeg.R := by
  rintro ds L ⟨⟨zs, p⟩, rfl, ⟨hp, hl, hz, hn⟩, hL⟩
  dsimp only at hp hl hz hn hL
  have e0 : ∃ m, (zs.length : Int) - (p : Int) = ((m + 1 : Nat) : Int) := ⟨zs.length - p - 1, by omega⟩
  obtain ⟨m, hm⟩ := e0
  have hLIM : (LIM : Int) = 16777216 := rfl
  simp_arith [b_place_to_begin, N_place_to_begin, linesD]
  rw [List.length_map]
  refine ⟨by omega, ?_⟩
  rw [hm, Int.toNat_natCast]
  have er : rangeL (p : Int) 1 (m + 1) = .int (p : Int) :: (rangeL ((p : Int) + 1) 1 m) := by
    unfold rangeL
    rw [List.range_succ_eq_map, List.map_cons, List.map_map]
    refine congr (congrArg _ (by simp)) (List.map_congr_left fun k _ => ?_)
    show PyData.int _ = PyData.int _
    congr 1
    push_cast
    omega
  rw [er]
  show wpG _ _ _ _
  have hg : zs.getD p [] = zs[p] := by rw [List.getD_eq_getElem?_getD, List.getElem?_eq_getElem hp]; rfl
  rw [hg] at hn
  simp_arith [atI_map hp, intsD]
  refine ⟨_, atI_ints (hz _ (List.getElem_mem _)), ?_⟩
  simp_arith
  have : (!decide (zs[p].getD p 0 = 0)) = true := by simpa using hn
  rw [if_pos this]
  exact ⟨_, rfl, hL⟩
structure WoIn where
  z : List Int
  y : List Int
  p : Nat
structure WoOk (q : WoIn) : Prop where
  l : q.z.length = q.y.length
  l1 : q.z.length ≤ 1000
  p : q.p < q.z.length
  z : ∀ x ∈ q.z, Small 4400 x
  y : ∀ x ∈ q.y, Small 4400 x
  n0 : q.y.getD q.p 0 ≠ 0
def eWo : Ent := fnE (fun q : WoIn => [intsD q.z, intsD q.y, .int (q.p : Nat)]) WoOk (fun q => intsD (wo q.z q.y q.p))
theorem getD_mem {z : List Int} {j : Nat} (h : j < z.length) : z.getD j 0 ∈ z := by
  rw [List.getD_eq_getElem?_getD, List.getElem?_eq_getElem h]; exact List.getElem_mem _
theorem without_does {tb : Tab} (h : tb.fn "greatest_divisor" = some eGd) (h2 : tb.fn "smallest" = some eSml) : Does tb b_without_place N_without_place.length false eWo.R := by
  rintro ds L ⟨⟨z, y, p⟩, rfl, ⟨hl, l1, hp, hz, hy, hn⟩, hL⟩
  dsimp only at hl l1 hp hz hy hn hL
  have hLIM : LIM = 16777216 := rfl
  have hzp := hz _ (getD_mem hp)
  have hyp := hy _ (getD_mem (by omega : p < y.length))
  simp_arith [b_without_place, N_without_place, call0_of h rfl, call0_of h2 rfl, eGd, eSml, intsD]
  refine ⟨_, atI_ints hp, _, atI_ints (by omega), ?_⟩
  refine ⟨⟨z.getD p 0, y.getD p 0⟩, rfl, ⟨hzp.mono (by decide), hyp.mono (by decide)⟩, ?_⟩
  simp_arith
  refine ⟨_, atI_ints (by omega), ?_⟩
  simp_arith
  have g0 : 0 < Int.gcd (z.getD p 0) (y.getD p 0) := Int.gcd_pos_of_ne_zero_right _ hn
  have gs := small_gcd2 hzp hyp
  refine ⟨divOk (gs.mono (by decide)) (by omega), _, atI_ints hp, ?_⟩
  simp_arith
  refine ⟨divOk (gs.mono (by decide)) (by omega), ?_⟩
  rw [Int.fdiv_eq_ediv_of_nonneg _ (by omega), Int.fdiv_eq_ediv_of_nonneg _ (by omega), zipL_map]
  generalize hg : Int.gcd (z.getD p 0) (y.getD p 0) = g at *
  have q1 : Small 4400 (y.getD p 0 / (g : Int)) := hyp.le (Int.natAbs_ediv_le_natAbs _ _)
  have q2 : Small 4400 (z.getD p 0 / (g : Int)) := hzp.le (Int.natAbs_ediv_le_natAbs _ _)
  refine ⟨by rw [List.length_map, List.length_zip]; omega, lcK_list (fun x => .int ((y.getD p 0 / (g : Int)) * x.1 - (z.getD p 0 / (g : Int)) * x.2)) (fun x hx => ?_) ?_⟩
  · obtain ⟨a, b⟩ := x
    have ha := hz _ (List.of_mem_zip hx).1
    have hb := hy _ (List.of_mem_zip hx).2
    simp_arith
    exact ⟨mulOk q1 ha (by decide) (by decide), mulOk q2 hb (by decide) (by decide)⟩
  · refine ⟨(z.zip y).map fun x => (y.getD p 0 / (g : Int)) * x.1 - (z.getD p 0 / (g : Int)) * x.2, ?_, ⟨?_, fun x hx => ?_⟩, ?_⟩
    · simp only [intsD, List.map_map]; rfl
    · rw [List.length_map, List.length_zip]; omega
    · obtain ⟨⟨a, b⟩, hx', rfl⟩ := List.mem_map.mp hx
      have ha := hz _ (List.of_mem_zip hx').1
      have hb := hy _ (List.of_mem_zip hx').2
      exact (small_sub (q1.mul ha) (q2.mul hb)).mono (by decide)
    · unfold wo at hL
      rw [hg] at hL
      exact hL
end K82
end

section
set_option Elab.async false
set_option linter.all false
set_option maxRecDepth 100000
set_option maxHeartbeats 4000000
set_option exponentiation.threshold 10000
/-! K85b: solved. -/
namespace K82
open PySem PL KE
theorem ixN_nat {n k : Nat} (h : k < n) : L2.ixN n (k : Int) = some k := by
  unfold L2.ixN
  split <;> first
    | (split <;> first | rfl | omega)
    | omega
theorem lcmA_dvd : ∀ {ps : List Pa} {q : Pa}, q ∈ ps → q.2 ∣ lcmA ps := by
  have : ∀ (l : List Pa) (m : Nat), (m ∣ l.foldl (fun m p => Nat.lcm m p.2) m) ∧ ∀ z ∈ l, z.2 ∣ l.foldl (fun m p => Nat.lcm m p.2) m := by
    intro l
    induction l with
    | nil => exact fun m => ⟨Nat.dvd_refl _, fun z hz => by cases hz⟩
    | cons y l ih =>
      intro m
      obtain ⟨i1, i2⟩ := ih (Nat.lcm m y.2)
      refine ⟨Nat.dvd_trans (Nat.dvd_lcm_left _ _) i1, fun z hz => ?_⟩
      rcases List.mem_cons.mp hz with rfl | hz
      · exact Nat.dvd_trans (Nat.dvd_lcm_right _ _) i1
      · exact i2 z hz
  exact fun {ps} {q} h => (this ps 1).2 q h
theorem cut_last {z : List Int} {m : Nat} (h : z.length = m + 1) : cutD (z.map PyData.int) (some (m : Int)) none = [.int (z.getD m 0)] := by
  have e : HT.sIx (z.map PyData.int).length 0 (some (m : Int)) = m := by
    rw [List.length_map, h, HT.sIx_nat]
    omega
  have e2 : HT.sIx (z.map PyData.int).length (z.map PyData.int).length none = m + 1 := by
    rw [List.length_map, h]; rfl
  unfold cutD
  rw [e, e2, ← List.map_drop]
  have : z.drop m = [z.getD m 0] := by
    rw [List.drop_eq_getElem_cons (by omega), List.drop_eq_nil_of_le (by omega), List.getD_eq_getElem?_getD, List.getElem?_eq_getElem (by omega)]; rfl
  rw [this, show m + 1 - m = 1 by omega]; rfl
/-- row i of 1 - A -/
def dl (S : Sy) (i j : Nat) : Rat := (if j = i then 1 else 0) - S.A i j
def rowQ (S : Sy) (m i : Nat) : List Rat := ((List.range m).map fun j => dl S i j) ++ [S.b i]
def rowZ (S : Sy) (m i : Nat) : List Int := ((rowQ S m i).map nd).map fun q => q.1 * ((lcmA ((rowQ S m i).map nd) / q.2 : Nat) : Int)
theorem rowQ_ok {m N : Nat} {S : Sy} (h : Bd m N S) {i : Nat} (hi : i < m) : ∃ D, 0 < D ∧ D ≤ N ∧ ∀ q ∈ rowQ S m i, q.den ∣ D ∧ q.num.natAbs ≤ q.den := by
  obtain ⟨D, hD⟩ := h.D i hi
  refine ⟨D, hD.pos, hD.le, fun q hq => ?_⟩
  have bnd : ∀ q : Rat, -1 ≤ q → q ≤ 1 → q.num.natAbs ≤ q.den := fun q h1 h2 => by
    have d0 : (0 : Rat) < (q.den : Rat) := by
      have := Rat.natCast_lt_natCast (a := 0) (b := q.den) |>.mpr q.den_pos
      exact this
    have e := num_eq q
    have p1 := Rat.mul_le_mul_of_nonneg_right h1 (Rat.le_of_lt d0)
    have p2 := Rat.mul_le_mul_of_nonneg_right h2 (Rat.le_of_lt d0)
    rw [e] at p1 p2
    have p1 : ((-(q.den : Int) : Int) : Rat) ≤ (q.num : Rat) := by
      rw [Rat.intCast_neg, Rat.intCast_natCast]
      have : (-1 : Rat) * (q.den : Rat) = -(q.den : Rat) := by grind
      rw [← this]; exact p1
    have p2 : (q.num : Rat) ≤ ((q.den : Int) : Rat) := by
      rw [Rat.intCast_natCast]
      rw [Rat.one_mul] at p2; exact p2
    rw [Rat.intCast_le_intCast] at p1 p2
    omega
  unfold rowQ at hq
  rw [List.mem_append] at hq
  rcases hq with hq | hq
  · obtain ⟨j, hj, rfl⟩ := List.mem_map.mp hq
    have hj := List.mem_range.mp hj
    obtain ⟨a0, a1⟩ := h.A i j hi hj
    unfold dl
    constructor
    · obtain ⟨z, hz⟩ := den_int (hD.A j hj)
      refine int_den hD.pos (z := (if j = i then (D : Int) else 0) - z) ?_
      rw [Rat.intCast_sub, ← hz]
      split
      · rw [Rat.intCast_natCast]; grind
      · rw [Rat.intCast_zero]; grind
    · split
      · exact bnd _ (by grind) (by grind)
      · exact bnd _ (by grind) (by grind)
  · rw [List.mem_singleton] at hq
    subst hq
    obtain ⟨a0, a1⟩ := h.b i hi
    exact ⟨hD.b, bnd _ (by grind) (by grind)⟩
theorem rowQ_len (S : Sy) (m i : Nat) : (rowQ S m i).length = m + 1 := by simp [rowQ]
theorem rowQ_at (S : Sy) (m i : Nat) {j : Nat} (hj : j < m) : (rowQ S m i).getD j 0 = dl S i j := by
  unfold rowQ
  rw [List.getD_eq_getElem?_getD, List.getElem?_append_left (by simpa using hj), List.getElem?_map, List.getElem?_range hj]; rfl
theorem rowQ_last (S : Sy) (m i : Nat) : (rowQ S m i).getD m 0 = S.b i := by
  unfold rowQ
  rw [List.getD_eq_getElem?_getD, List.getElem?_append_right (by simp)]
  simp
theorem rowZ_ln {m N : Nat} {S : Sy} (h : Bd m N S) {i : Nat} (hi : i < m) : Ln m i (S.A i) (S.b i) (rowZ S m i) := by
  obtain ⟨D, D0, DN, hq⟩ := rowQ_ok h hi
  have hp : ∀ q ∈ (rowQ S m i).map nd, 0 < q.2 ∧ q.2 ∣ D := fun q hq' => by
    obtain ⟨r, hr, rfl⟩ := List.mem_map.mp hq'
    exact ⟨r.den_pos, (hq r hr).1⟩
  have lM := lcm_inv D0 hp ((rowQ S m i).map nd).length
  rw [List.take_length] at lM
  have ent : ∀ j, j < m + 1 → (((rowZ S m i).getD j 0 : Int) : Rat) = (lcmA ((rowQ S m i).map nd) : Rat) * (rowQ S m i).getD j 0 := by
    intro j hj
    have hj' : j < (rowQ S m i).length := by rw [rowQ_len]; exact hj
    unfold rowZ
    rw [List.getD_eq_getElem?_getD, List.getElem?_map, List.getElem?_map, List.getElem?_eq_getElem hj', List.getD_eq_getElem?_getD, List.getElem?_eq_getElem hj']
    show (((nd (rowQ S m i)[j]).1 * ((lcmA ((rowQ S m i).map nd) / (nd (rowQ S m i)[j]).2 : Nat) : Int) : Int) : Rat) = (lcmA ((rowQ S m i).map nd) : Rat) * (rowQ S m i)[j]
    have hd : (rowQ S m i)[j].den ∣ lcmA ((rowQ S m i).map nd) := lcmA_dvd (q := nd (rowQ S m i)[j]) (List.mem_map_of_mem (List.getElem_mem hj'))
    generalize lcmA ((rowQ S m i).map nd) = l at hd
    generalize (rowQ S m i)[j] = r at hd
    obtain ⟨k, rfl⟩ := hd
    show ((r.num * ((r.den * k / r.den : Nat) : Int) : Int) : Rat) = _
    rw [Nat.mul_div_cancel_left _ r.den_pos, Rat.intCast_mul, Rat.intCast_natCast, Rat.natCast_mul, ← num_eq r]
    grind
  refine ⟨by unfold rowZ; rw [List.length_map, List.length_map, rowQ_len], (lcmA ((rowQ S m i).map nd) : Rat), ?_, fun j hj => ?_, ?_⟩
  · have := Rat.natCast_lt_natCast (a := 0) (b := lcmA ((rowQ S m i).map nd)) |>.mpr lM.1
    exact this
  · rw [ent j (by omega), rowQ_at S m i hj]; rfl
  · rw [ent m (by omega), rowQ_last]
structure SolIn where
  m : Nat
  B : Sy
  N : Nat
structure SolOk (q : SolIn) : Prop where
  m : q.m ≤ 100
  N : q.N ≤ 2 ^ 1400
  bd : ∀ i, i ≤ q.m → Bd q.m q.N (el q.B i)
  lt : ∀ i, i < q.m → (el q.B i).A i i < 1
def rowsD (m : Nat) (B : Sy) : PyData := .list ((List.range m).map fun i => .list (((List.range m).map fun j => dl B i j).map fr))
def sidesD (m : Nat) (B : Sy) : PyData := .list ((List.range m).map fun i => .list [fr (B.b i)])
def eSolv : Ent := fnE (fun q : SolIn => [rowsD q.m q.B, sidesD q.m q.B]) SolOk (fun q => .list ((List.range q.m).map fun k => .list [fr ((el q.B q.m).b k)]))
theorem ln_small {m N k : Nat} {S : Sy} {z : List Int} (h : Bd m N S) (hN : N ≤ 2 ^ 1400) (hk : k < m) (L : Ln m k (S.A k) (S.b k) z) (g : gl z ≤ 1) : ∀ x ∈ z, Small 1401 x := fun x hx => by
  obtain ⟨D, hD⟩ := h.D k hk
  have := ln_bnd L g hD.pos (fun j hj => ⟨h.A k j hk hj, hD.A j hj⟩) ⟨h.b k hk, hD.b⟩ x hx
  unfold Small
  have h2 : D ≤ 2 ^ 1400 := Nat.le_trans hD.le hN
  have h3 : (2 : Nat) ^ 1400 < 2 ^ 1401 := Nat.pow_lt_pow_right (by decide) (by decide)
  omega
theorem small_le {n M : Nat} (h : M ≤ 2 ^ n) : Small (n + 1) (M : Int) := by
  unfold Small
  rw [Int.natAbs_natCast]
  exact Nat.lt_of_le_of_lt h (Nat.pow_lt_pow_right (by decide) (Nat.lt_succ_self n))
/-- the lines between two places -/
structure Lns (m i : Nat) (B : Sy) (zs : List (List Int)) : Prop where
  len : zs.length = m
  ln : ∀ k, k < m → Ln m k ((el B i).A k) ((el B i).b k) (zs.getD k []) ∧ gl (zs.getD k []) ≤ 1
/-- .. while place i is taken out of those ahead of k -/
structure Lnk (m i k : Nat) (B : Sy) (y : List Int) (zs : List (List Int)) : Prop where
  len : zs.length = m
  y : zs.getD i [] = y
  ln : ∀ j, j < m → j ≠ i → gl (zs.getD j []) ≤ 1 ∧ (j < k → Ln m j ((el B (i + 1)).A j) ((el B (i + 1)).b j) (zs.getD j [])) ∧ (k ≤ j → Ln m j ((el B i).A j) ((el B i).b j) (zs.getD j []))
theorem getD_zs {zs : List (List Int)} {k : Nat} (h : k < zs.length) : zs[k] = zs.getD k [] := by
  rw [List.getD_eq_getElem?_getD, List.getElem?_eq_getElem h]; rfl
theorem atI_zs {zs : List (List Int)} {k : Nat} (h : k < zs.length) : L2.atI (zs.map intsD) (k : Int) = some (intsD (zs.getD k [])) := by
  rw [atI_map h, getD_zs h]
theorem set_self {zs : List (List Int)} {k : Nat} (h : k < zs.length) : (zs.map intsD).set k (intsD (zs.getD k [])) = zs.map intsD := by
  rw [← List.map_set, ← getD_zs h, List.set_getElem_self]
theorem getD_set {zs : List (List Int)} {k j : Nat} (h : k < zs.length) (z : List Int) : (zs.set k z).getD j [] = if j = k then z else zs.getD j [] := by
  rw [List.getD_eq_getElem?_getD, List.getD_eq_getElem?_getD, List.getElem?_set]
  by_cases e : k = j
  · subst e; rw [if_pos rfl, if_pos h, if_pos rfl]; rfl
  · rw [if_neg e, if_neg (fun q => e q.symm)]

theorem lnk_start {m i : Nat} {B : Sy} {zs : List (List Int)} (h : Lns m i B zs) : Lnk m i 0 B (zs.getD i []) zs := ⟨h.len, rfl, fun j hj _ => ⟨(h.ln j hj).2, fun q => absurd q (Nat.not_lt_zero _), fun _ => (h.ln j hj).1⟩⟩
theorem lnk_end {m i N : Nat} {B : Sy} {y : List Int} {zs : List (List Int)} (hi : i < m) (hs : (el B i).A i i < 1) (gy : gl y ≤ 1) (hy : Ln m i ((el B i).A i) ((el B i).b i) y) (h : Lnk m i m B y zs) : Lns m (i + 1) B zs := by
  refine ⟨h.len, fun k hk => ?_⟩
  by_cases e : k = i
  · subst e
    rw [h.y]
    exact ⟨ln_self hs hy, gy⟩
  · obtain ⟨h1, h2, _⟩ := h.ln k hk e
    exact ⟨h2 hk, h1⟩
theorem solved_does {tb : Tab} (h1 : tb.fn "smallest" = some eSml) (h2 : tb.fn "numbers_of" = some eNum) (h3 : tb.fn "place_to_begin" = some eBeg) (h4 : tb.fn "without_place" = some eWo) (h5 : tb.fn "lowest" = some eLow) : Does tb b_solved N_solved.length false eSolv.R := by
  rintro ds L ⟨⟨m, B, N⟩, rfl, ⟨hm, hN, bd, lt⟩, hL⟩
  dsimp only at hm hN bd lt hL
  have hLIM : LIM = 16777216 := rfl
  have b0 := bd 0 (Nat.zero_le _)
  have ll : ∀ j, j < m + 1 → (rowsD m B = rowsD m B) := fun _ _ => rfl
  simp_arith [b_solved, N_solved, call0_of h1 rfl, call0_of h2 rfl, rowsD, sidesD]
  rw [List.length_map, List.length_range, Int.toNat_natCast]
  refine ⟨⟨by omega, by omega⟩, by simp [rangeL]; omega, ?_⟩
  unfold rangeL
  refine lcK_list (fun i => intsD (sml (rowZ B m i))) (fun i hi => ?_) ?_
  · have hi := List.mem_range.mp hi
    obtain ⟨D, D0, DN, hq⟩ := rowQ_ok b0 hi
    have sD : Small 1401 (D : Int) := small_le (Nat.le_trans DN hN)
    simp_arith [Int.zero_add, Int.mul_one, call0_of h1 rfl, call0_of h2 rfl]
    refine ⟨_, atI_map (by rw [List.length_range]; exact hi), ?_⟩
    simp_arith
    refine ⟨_, atI_map (by rw [List.length_range]; exact hi), ?_⟩
    simp_arith [List.getElem_range]
    refine ⟨by simp; omega, ⟨(rowQ B m i).map nd, D⟩, ?_, ⟨D0, sD.mono (by decide), ?_, ?_⟩, ?_⟩
    · show _ = [PyData.list (((rowQ B m i).map nd).map fun p => pr p.1 p.2)]
      have : ((rowQ B m i).map nd).map (fun p => pr p.1 p.2) = (rowQ B m i).map fr := by rw [List.map_map]; rfl
      rw [this]
      unfold rowQ
      rw [List.map_append]
      rfl
    · rw [List.length_map, rowQ_len]; omega
    · intro q hq'
      obtain ⟨r, hr, rfl⟩ := List.mem_map.mp hq'
      obtain ⟨d1, d2⟩ := hq r hr
      exact ⟨⟨r.den_pos, d1⟩, ((small_dvd sD D0 d1).le (by rw [Int.natAbs_natCast]; exact d2)).mono (by decide)⟩
    · simp_arith
      have lz := rowZ_ln b0 hi
      have lzl : (rowZ B m i).length = m + 1 := lz.len
      refine ⟨rowZ B m i, ?_, ⟨by rw [lzl]; omega, fun x hx => ?_⟩, ?_⟩
      · show _ = [PyData.list ((rowZ B m i).map PyData.int)]
        unfold rowZ
        simp only [List.map_map]; rfl
      · unfold rowZ at hx
        obtain ⟨q, hq', rfl⟩ := List.mem_map.mp hx
        obtain ⟨r, hr, rfl⟩ := List.mem_map.mp hq'
        obtain ⟨d1, d2⟩ := hq r hr
        have hp : ∀ q ∈ (rowQ B m i).map nd, 0 < q.2 ∧ q.2 ∣ D := fun q hq' => by
          obtain ⟨r, hr, rfl⟩ := List.mem_map.mp hq'
          exact ⟨r.den_pos, (hq r hr).1⟩
        have lM := lcm_inv D0 hp ((rowQ B m i).map nd).length
        rw [List.take_length] at lM
        have sl := small_dvd sD D0 lM.2
        have sr : Small 1401 r.num := (small_dvd sD D0 d1).le (by rw [Int.natAbs_natCast]; exact d2)
        refine (sr.mul (sl.le ?_)).mono (by decide)
        rw [Int.natAbs_natCast, Int.natAbs_natCast]
        exact Nat.div_le_self _ _
      · simp_arith
  · simp_arith
    rw [Int.toNat_natCast]
    refine ⟨⟨by omega, by omega⟩, ?_⟩
    have st0 : Lns m 0 B ((List.range m).map fun i => sml (rowZ B m i)) := by
      refine ⟨by simp, fun k hk => ?_⟩
      have : ((List.range m).map fun i => sml (rowZ B m i)).getD k [] = sml (rowZ B m k) := by
        rw [List.getD_eq_getElem?_getD, List.getElem?_map, List.getElem?_range hk]; rfl
      rw [this]
      exact ⟨ln_sml (rowZ_ln b0 hk), sml_gl _⟩
    have e0 : (List.range m).map (fun i => intsD (sml (rowZ B m i))) = ((List.range m).map fun i => sml (rowZ B m i)).map intsD := by
      rw [List.map_map]; rfl
    rw [e0]
    generalize ((List.range m).map fun i => sml (rowZ B m i)) = zs0 at st0
    refine for_list (fun i e => ∃ zs s4 s5 s6 s7 s8, (Wk s4 ∧ Wk s5 ∧ Wk s6 ∧ Wk s7 ∧ Wk s8) ∧ Lns m i B zs ∧ e = [Sl.sh (rowsD m B), .sh (sidesD m B), .sh (.int (m : Nat)), .ow (linesD zs), s4, s5, s6, s7, s8]) ⟨zs0, .un, .un, .un, .un, .un, ⟨wk_un, wk_un, wk_un, wk_un, wk_un⟩, st0, rfl⟩ (fun i hi e hI => ?_) fun e hI => ?_
    · obtain ⟨zs, s4, s5, s6, s7, s8, ⟨k4, k5, k6, k7, k8⟩, st, rfl⟩ := hI
      rw [List.length_range] at hi
      rw [List.getElem_range]
      have hzl := st.len
      have bi := bd i (by omega)
      have bi1 := bd (i + 1) (by omega)
      obtain ⟨ly, gy⟩ := st.ln i hi
      have sy := ln_small bi hN hi ly gy
      have ny : (zs.getD i []).getD i 0 ≠ 0 := by
        obtain ⟨c, c0, l1, _⟩ := ly.c
        have e := l1 i hi
        rw [if_pos rfl] at e
        intro z
        rw [z] at e
        have := Rat.mul_pos c0 (show (0 : Rat) < 1 - (el B i).A i i by have := lt i hi; grind)
        rw [← e] at this
        exact absurd this (by decide)
      simp_arith [Int.zero_add, Int.mul_one, wrK_wk k5, callW_of h3 rfl, linesD]
      have hzl1 : zs.length ≤ 1000 := by omega
      refine ⟨⟨zs, i⟩, rfl, ⟨by rw [hzl]; exact hi, hzl1, fun z hz => ?_, ny⟩, ?_⟩
      · have hz : z ∈ zs := hz
        show i < z.length
        obtain ⟨j, hj, rfl⟩ := List.getElem_of_mem hz
        rw [getD_zs hj, (st.ln j (by omega)).1.len]; omega
      simp_arith [wrK_wk k6, linesD, List.headD_cons]
      refine ⟨_, atI_zs (by omega), ?_⟩
      simp_arith [wrK_wk k7]
      refine ⟨_, atI_zs (by omega), i, ?_, ?_⟩
      · rw [List.length_map]; exact ixN_nat (by omega)
      rw [set_self (by omega)]
      refine ⟨i, ?_, ?_⟩
      · rw [List.length_map]; exact ixN_nat (by omega)
      rw [set_self (by omega)]
      rw [Int.toNat_natCast]
      refine ⟨⟨by omega, by omega⟩, ?_⟩
      unfold rangeL
      generalize hyy : zs.getD i [] = y at *
      refine for_list (fun k e => ∃ zs' s4 s8, (Wk s4 ∧ Wk s8) ∧ Lnk m i k B y zs' ∧ e = [Sl.sh (rowsD m B), .sh (sidesD m B), .sh (.int (m : Nat)), .ow (linesD zs'), s4, .sh (.int (i : Nat)), .sh (.int (i : Nat)), .sh (intsD y), s8]) ⟨zs, s4, s8, ⟨k4, k8⟩, by rw [← hyy]; exact lnk_start st, rfl⟩ (fun k hk e hI => ?_) fun e hI => ?_
      · obtain ⟨zs', s4, s8, ⟨k4, k8⟩, st', rfl⟩ := hI
        rw [List.length_range] at hk
        rw [List.getElem_range]
        have hzl' := st'.len
        simp_arith [Int.zero_add, Int.mul_one, wrK_wk k4, linesD]
        by_cases e : k = i
        · rw [if_neg (by simp [e])]
          refine ⟨zs', _, s8, ⟨wk_sh, k8⟩, ⟨st'.len, st'.y, fun j hj hne => ?_⟩, rfl⟩
          obtain ⟨a, b, c⟩ := st'.ln j hj hne
          exact ⟨a, fun q => b (by omega), fun q => c (by omega)⟩
        · have ek : (!decide ((k : Int) = (i : Int))) = true := by simp; omega
          rw [if_pos ek]
          obtain ⟨a, _, c⟩ := st'.ln k hk e
          have lz := c (Nat.le_refl _)
          have sz := ln_small bi hN hk lz a
          refine ⟨_, atI_zs (by omega), ?_⟩
          simp_arith [intsD]
          refine ⟨_, atI_ints (by rw [lz.len]; omega), ?_⟩
          simp_arith
          by_cases q0 : (zs'.getD k []).getD i 0 = 0
          · rw [if_neg (by rw [q0]; decide)]
            refine ⟨zs', _, s8, ⟨wk_sh, k8⟩, ⟨st'.len, st'.y, fun j hj hne => ?_⟩, rfl⟩
            obtain ⟨a, b, c⟩ := st'.ln j hj hne
            refine ⟨a, fun q => ?_, fun q => c (by omega)⟩
            by_cases ej : j = k
            · subst ej; exact ln_keep hi e q0 lz
            · exact b (by omega)
          · rw [if_pos (by simpa using q0)]
            simp_arith [call0_of h4 rfl, linesD]
            refine ⟨_, atI_zs (by omega), ?_⟩
            simp_arith [intsD]
            have hiz : i < (zs'.getD k []).length := by rw [lz.len]; omega
            refine ⟨⟨zs'.getD k [], y, i⟩, rfl, ⟨by rw [lz.len, ly.len], by rw [lz.len]; omega, hiz, fun x hx => (sz x hx).mono (by decide), fun x hx => (sy x hx).mono (by decide), ny⟩, ?_⟩
            simp_arith
            refine ⟨k, ?_, ?_⟩
            · rw [List.length_map]; exact ixN_nat (by omega)
            have es : (zs'.map intsD).set k (intsD (wo (zs'.getD k []) y i)) = (zs'.set k (wo (zs'.getD k []) y i)).map intsD := by rw [List.map_set]
            rw [es]
            refine ⟨zs'.set k (wo (zs'.getD k []) y i), _, s8, ⟨wk_sh, k8⟩, ⟨by rw [List.length_set]; exact hzl', ?_, fun j hj hne => ?_⟩, rfl⟩
            · rw [getD_set (by omega), if_neg (fun q => e q.symm)]; exact st'.y
            · rw [getD_set (by omega)]
              by_cases ej : j = k
              · subst ej
                rw [if_pos rfl]
                exact ⟨sml_gl _, fun _ => ln_wo hi e (lt i hi) lz ly, fun q => absurd q (by omega)⟩
              · rw [if_neg ej]
                obtain ⟨a, b, c⟩ := st'.ln j hj hne
                exact ⟨a, fun q => b (by omega), fun q => c (by omega)⟩
      · obtain ⟨zs', s4, s8, ⟨k4, k8⟩, st', rfl⟩ := hI
        rw [List.length_range] at st'
        simp_arith
        exact ⟨zs', s4, _, _, _, s8, ⟨k4, wk_sh, wk_sh, wk_sh, k8⟩, lnk_end (N := N) hi (lt i hi) gy ly st', rfl⟩
    · obtain ⟨zs, s4, s5, s6, s7, s8, ⟨k4, k5, k6, k7, k8⟩, st, rfl⟩ := hI
      rw [List.length_range] at st
      have hzl := st.len
      have bm := bd m (Nat.le_refl _)
      simp_arith
      rw [Int.toNat_natCast]
      refine ⟨⟨by omega, by omega⟩, by simp [rangeL]; omega, ?_⟩
      unfold rangeL
      refine lcK_list (fun k => .list [fr ((el B m).b k)]) (fun k hk => ?_) ?_
      · have hk := List.mem_range.mp hk
        obtain ⟨lz, gz⟩ := st.ln k hk
        have sz := ln_small bm hN hk lz gz
        obtain ⟨p0, pv⟩ := ln_end hk lz fun j hj => el_cols (Nat.le_refl m) k j hk hj
        have hmz := sz _ (getD_mem (by rw [lz.len]; omega : m < (zs.getD k []).length))
        have hkz := sz _ (getD_mem (by rw [lz.len]; omega : k < (zs.getD k []).length))
        simp_arith [Int.zero_add, Int.mul_one, wrK_wk k4, linesD]
        refine ⟨_, atI_zs (by omega), ?_⟩
        simp_arith [intsD]
        rw [cut_last lz.len]
        refine ⟨by show 1 ≤ LIM; omega, ?_⟩
        refine lcK_list (as := [(zs.getD k []).getD m 0]) (inp := PyData.int) (fun x => fr ((el B m).b k)) (fun x hx => ?_) ?_
        · rw [List.mem_singleton] at hx
          subst hx
          simp_arith [wrK_wk k8, call0_of h5 rfl, linesD]
          refine ⟨_, atI_zs (by omega), ?_⟩
          simp_arith [intsD]
          refine ⟨_, atI_ints (by rw [lz.len]; omega), ?_⟩
          refine ⟨⟨(zs.getD k []).getD m 0, ((zs.getD k []).getD k 0).toNat⟩, ?_, ⟨by omega, hmz.mono (by decide), ?_⟩, ?_⟩
          · show _ = [PyData.int ((zs.getD k []).getD m 0), PyData.int ((((zs.getD k []).getD k 0).toNat : Nat) : Int)]
            rw [Int.toNat_of_nonneg (Int.le_of_lt p0)]
          · rw [Int.toNat_of_nonneg (Int.le_of_lt p0)]; exact hkz.mono (by decide)
          · show fr (mkRat ((zs.getD k []).getD m 0) ((zs.getD k []).getD k 0).toNat) = _
            rw [pv]
        · simp_arith
      · exact hL
end K82
end

section
set_option Elab.async false
set_option linter.all false
set_option maxRecDepth 100000
set_option maxHeartbeats 4000000
set_option exponentiation.threshold 10000
/-! K85c: leading_to. -/
namespace K82
open PySem PL KE
def seenD (l : List Nat) : List (PyData × PyData) := dm (fun _ : Unit => .bool true) (l.map fun k => (k, ()))
theorem look_seen (l : List Nat) (k : Nat) : (look (l.map fun k => (k, ())) k).isSome = decide (k ∈ l) := by
  cases h : look (l.map fun k => (k, ())) k with
  | none =>
    rw [look_none, List.map_map] at h
    have : k ∉ l := by simpa using h
    simp [this]
  | some u =>
    have : k ∈ l := Decidable.byContradiction fun q => by
      have : look (l.map fun k => (k, ())) k = none := by rw [look_none, List.map_map]; simpa using q
      rw [this] at h; cases h
    simp [this]
theorem seen_get (l : List Nat) (k : Nat) : (dGet (seenD l) (.int (k : Nat))).isSome = decide (k ∈ l) := by
  unfold seenD
  rw [dGet_dm, Option.isSome_map, look_seen]
theorem seen_put {l : List Nat} {k : Nat} (h : k ∉ l) : dPut (seenD l) (.int (k : Nat)) (.bool true) = seenD (l ++ [k]) := by
  unfold seenD
  rw [dPut_dm (f := fun _ : Unit => PyData.bool true) (l.map fun k => (k, ())) k (), put_new () (by rw [List.map_map]; simpa using h), List.map_append]; rfl
theorem seen_len (l : List Nat) : (seenD l).length = l.length := by simp [seenD, dm]
theorem nodup_le : ∀ {n : Nat} {l : List Nat}, l.Nodup → (∀ x ∈ l, x < n) → l.length ≤ n
  | 0, l, _, h => by
    cases l with
    | nil => exact Nat.le_refl _
    | cons a l => exact absurd (h a (List.mem_cons_self ..)) (Nat.not_lt_zero _)
  | n + 1, l, hn, h => by
    by_cases hm : n ∈ l
    · have h1 := nodup_le (n := n) (l := l.erase n) (hn.erase n) fun x hx => by
        have h2 := h x (List.mem_of_mem_erase hx)
        have h3 : x ≠ n := fun e => by
          subst e
          exact List.Nodup.not_mem_erase hn hx
        omega
      rw [List.length_erase_of_mem hm] at h1
      omega
    · have h1 := nodup_le (n := n) hn fun x hx => by
        have h2 := h x hx
        have h3 : x ≠ n := fun e => hm (e ▸ hx)
        omega
      omega
structure LeadIn where
  n : Nat
  E : Nat → List Nat
  g : List Nat
structure LeadOk (p : LeadIn) : Prop where
  n : p.n ≤ 1000
  E : ∀ s, s < p.n → (p.E s).length ≤ 1000
  g : p.g.Nodup
  gl : p.g.length ≤ 1000
  gn : ∀ k ∈ p.g, k < p.n
/-- what leads to a goal, step by step -/
structure Leads (p : LeadIn) (l : List Nat) : Prop where
  nd : l.Nodup
  n : ∀ k ∈ l, k < p.n
  g : ∀ k ∈ p.g, k ∈ l
  ind : ∀ P : Nat → Prop, (∀ k ∈ p.g, P k) → (∀ s, s < p.n → ∀ e ∈ p.E s, P e → P s) → ∀ k ∈ l, P k
def Shut (p : LeadIn) (i : Nat) (l : List Nat) : Prop := ∀ s, s < i → (∃ e ∈ p.E s, e ∈ l) → s ∈ l
def natL (l : List Nat) : PyData := .list (nats l)
def edgesD (n : Nat) (E : Nat → List Nat) : PyData := .dict (dm natL ((List.range n).map fun s => (s, E s)))
def eLead : Ent := ⟨fun ds L => ∃ p : LeadIn, ds = [edgesD p.n p.E, natL p.g] ∧ LeadOk p ∧ ∀ l, Leads p l → Shut p p.n l → L (.sh (.dict (seenD l))) .none, false, 0, [], fun h ⟨p, e, ok, g⟩ => ⟨p, e, ok, fun l h1 h2 => h _ _ (g l h1 h2)⟩⟩
theorem Leads.add {p : LeadIn} {l : List Nat} (h : Leads p l) {s : Nat} (hs : s < p.n) (hl : s ∉ l) (he : ∃ e ∈ p.E s, e ∈ l) : Leads p (l ++ [s]) where
  nd := List.nodup_append.mpr ⟨h.nd, by simp, fun a ha b hb => by
    rw [List.mem_singleton] at hb; subst hb
    exact fun e => hl (e ▸ ha)⟩
  n k hk := by
    rw [List.mem_append, List.mem_singleton] at hk
    rcases hk with hk | rfl
    · exact h.n k hk
    · exact hs
  g k hk := List.mem_append_left _ (h.g k hk)
  ind P h1 h2 k hk := by
    rw [List.mem_append, List.mem_singleton] at hk
    rcases hk with hk | rfl
    · exact h.ind P h1 h2 k hk
    · obtain ⟨e, he, hel⟩ := he
      exact h2 k hs e he (h.ind P h1 h2 e hel)
theorem leading_does {tb : Tab} : Does tb b_leading_to N_leading_to.length false eLead.R := by
  rintro ds L ⟨p, rfl, ok, hL⟩
  have hLIM : LIM = 16777216 := rfl
  have hn := ok.n
  simp_arith [b_leading_to, N_leading_to, natL, nats]
  refine ⟨by rw [List.length_map]; have := ok.gl; omega, ?_⟩
  refine dcK_list (fun k => k) (fun _ => .bool true) (by simpa using ok.g) (fun k hk => ?_) ?_
  · simp_arith
  · simp_arith
    have e0 : (p.g.map fun a => (PyData.int (a : Nat), PyData.bool true)) = seenD p.g := by
      unfold seenD dm
      rw [List.map_map]; rfl
    rw [e0]
    have l0 : Leads p p.g := ⟨ok.g, ok.gn, fun _ h => h, fun P h1 _ k hk => h1 k hk⟩
    refine whl_ok (fun m e => ∃ l b s4 s5 s6, (Wk s4 ∧ Wk s5 ∧ Wk s6) ∧ Leads p l ∧ (b = false → Shut p p.n l) ∧ m = (p.n - l.length) + (if b = true then 1 else 0) ∧ e = [Sl.sh (edgesD p.n p.E), .sh (natL p.g), .ow (.dict (seenD l)), .sh (.bool b), s4, s5, s6]) (fun m e hW => ?_) ⟨p.g, true, .un, .un, .un, ⟨wk_un, wk_un, wk_un⟩, l0, fun h => (by cases h), rfl, rfl⟩
    obtain ⟨l, b, s4, s5, s6, ⟨k4, k5, k6⟩, hl, hb, hm, rfl⟩ := hW
    simp_arith
    cases b with
    | false =>
      rw [if_neg (by decide)]
      exact hL l hl (hb rfl)
    | true =>
      rw [if_pos rfl]
      rw [if_pos rfl] at hm
      simp_arith [edgesD, items_dm]
      rw [List.map_map]
      refine for_list (as := List.range p.n) (inp := fun s => PyData.tuple [.int (s : Nat), natL (p.E s)]) (fun i e => ∃ l' b' s4 s5 s6, (Wk s4 ∧ Wk s5 ∧ Wk s6) ∧ Leads p l' ∧ (b' = false → l' = l ∧ Shut p i l) ∧ (b' = true → l.length < l'.length) ∧ e = [Sl.sh (edgesD p.n p.E), .sh (natL p.g), .ow (.dict (seenD l')), .sh (.bool b'), s4, s5, s6]) ⟨l, false, s4, s5, s6, ⟨k4, k5, k6⟩, hl, fun _ => ⟨rfl, fun s hs => absurd hs (Nat.not_lt_zero _)⟩, fun h => (by cases h), rfl⟩ (fun i hi e hI => ?_) fun e hI => ?_
      · obtain ⟨l', b', s4, s5, s6, ⟨k4, k5, k6⟩, hl', hb', hb2, rfl⟩ := hI
        rw [List.length_range] at hi
        rw [List.getElem_range]
        have le' := nodup_le hl'.nd hl'.n
        simp_arith [wrK_wk k4, wrK_wk k5]
        rw [seen_get]
        by_cases hin : i ∈ l'
        · have : (!decide (i ∈ l')) = false := by simpa using hin
          rw [this, if_neg (by decide)]
          refine ⟨l', b', _, _, s6, ⟨wk_sh, wk_sh, k6⟩, hl', fun q => ?_, hb2, rfl⟩
          obtain ⟨q1, q2⟩ := hb' q
          refine ⟨q1, fun s hs he => ?_⟩
          by_cases e : s = i
          · subst e; rw [← q1]; exact hin
          · exact q2 s (by omega) he
        · have : (!decide (i ∈ l')) = true := by simpa using hin
          rw [this, if_pos rfl]
          simp_arith [natL, nats]
          have hE := ok.E i hi
          refine ⟨by rw [List.length_map]; omega, ?_⟩
          refine lcK_list (fun k => .bool (decide (k ∈ l'))) (fun k hk => ?_) ?_
          · simp_arith [wrK_wk k6]
            rw [seen_get]
          · refine ⟨_, allBools_map _ _, ?_⟩
            have eany : (((p.E i).map fun k => decide (k ∈ l')).any id) = decide (∃ e ∈ p.E i, e ∈ l') := by
              rw [Bool.eq_iff_iff]
              simp
            rw [eany]
            by_cases he : ∃ e ∈ p.E i, e ∈ l'
            · rw [if_pos (by simpa using he)]
              simp_arith
              rw [seen_len]
              refine ⟨by omega, ?_⟩
              rw [seen_put hin]
              refine ⟨l' ++ [i], true, _, _, s6, ⟨wk_sh, wk_sh, k6⟩, hl'.add hi hin he, fun q => (by cases q), fun _ => ?_, rfl⟩
              rw [List.length_append, List.length_singleton]
              cases b' with
              | false => rw [(hb' rfl).1]; omega
              | true => have := hb2 rfl; omega
            · rw [if_neg (by simpa using he)]
              refine ⟨l', b', _, _, s6, ⟨wk_sh, wk_sh, k6⟩, hl', fun q => ?_, hb2, rfl⟩
              obtain ⟨q1, q2⟩ := hb' q
              refine ⟨q1, fun s hs hes => ?_⟩
              by_cases e : s = i
              · subst e; exact absurd (by rw [q1]; exact hes) he
              · exact q2 s (by omega) hes
      · obtain ⟨l', b', s4, s5, s6, ⟨k4, k5, k6⟩, hl', hb', hb2, rfl⟩ := hI
        rw [List.length_range] at hb'
        have le' := nodup_le hl'.nd hl'.n
        cases b' with
        | false =>
          obtain ⟨q1, q2⟩ := hb' rfl
          subst q1
          exact ⟨p.n - l'.length, by omega, l', false, s4, s5, s6, ⟨k4, k5, k6⟩, hl', fun _ => q2, rfl, rfl⟩
        | true =>
          have := hb2 rfl
          exact ⟨p.n - l'.length + 1, by omega, l', true, s4, s5, s6, ⟨k4, k5, k6⟩, hl', fun h => (by cases h), rfl, rfl⟩
end K82
end

section
set_option Elab.async false
set_option linter.all false
set_option maxRecDepth 100000
/-! KEc: a system told by lists of moves. -/
namespace KE
/-- what moves to t, together -/
def psum (l : List (Nat × Rat)) (t : Nat) : Rat := ((l.filter fun x => decide (x.1 = t)).map (·.2)).sum
theorem psum_nil (t : Nat) : psum [] t = 0 := rfl
theorem psum_cons (x : Nat × Rat) (l : List (Nat × Rat)) (t : Nat) : psum (x :: l) t = (if x.1 = t then x.2 else 0) + psum l t := by
  unfold psum
  by_cases h : x.1 = t
  · rw [List.filter_cons_of_pos (by simpa using h), if_pos h]; simp
  · rw [List.filter_cons_of_neg (by simpa using h), if_neg h]; grind
theorem psum_app (l m : List (Nat × Rat)) (t : Nat) : psum (l ++ m) t = psum l t + psum m t := by
  unfold psum
  rw [List.filter_append, List.map_append, List.sum_append]
theorem psum_take {l : List (Nat × Rat)} {i : Nat} (h : i < l.length) (t : Nat) : psum (l.take (i + 1)) t = psum (l.take i) t + if l[i].1 = t then l[i].2 else 0 := by
  rw [List.take_succ_eq_append_getElem h, psum_app, psum_cons, psum_nil]; grind
theorem psum_nonneg {t : Nat} : ∀ {l : List (Nat × Rat)}, (∀ x ∈ l, 0 ≤ x.2) → 0 ≤ psum l t
  | [], _ => by rw [psum_nil]; grind
  | x :: l, h => by
    rw [psum_cons]
    have h1 := psum_nonneg (t := t) (l := l) fun y hy => h y (List.mem_cons_of_mem _ hy)
    have h2 := h x (List.mem_cons_self ..)
    split <;> grind
theorem psum_sm {n : Nat} : ∀ {l : List (Nat × Rat)}, (∀ x ∈ l, x.1 < n) → sm n (psum l) = (l.map (·.2)).sum
  | [], _ => by
    rw [sm_zero fun t _ => psum_nil t]; rfl
  | x :: l, h => by
    have e : sm n (psum (x :: l)) = sm n (fun t => if x.1 = t then x.2 else 0) + sm n (psum l) := by
      rw [← sm_add]
      exact sm_congr fun t _ => psum_cons x l t
    rw [e, psum_sm fun y hy => h y (List.mem_cons_of_mem _ hy), sm_split (p := x.1) (h x (List.mem_cons_self ..)), if_pos rfl, sm_zero fun t _ => by
      by_cases q : t = x.1
      · rw [if_pos q]
      · rw [if_neg q, if_neg (fun e => q e.symm)]]
    rw [List.map_cons, List.sum_cons]; grind
theorem psum_part {l : List (Nat × Rat)} (h : ∀ x ∈ l, 0 ≤ x.2) (i t : Nat) : 0 ≤ psum (l.take i) t ∧ psum (l.take i) t ≤ psum l t := by
  have h1 := psum_nonneg (t := t) (l := l.take i) fun x hx => h x (List.mem_of_mem_take hx)
  have h2 := psum_nonneg (t := t) (l := l.drop i) fun x hx => h x (List.mem_of_mem_drop hx)
  have e := psum_app (l.take i) (l.drop i) t
  rw [List.take_append_drop] at e
  exact ⟨h1, by grind⟩
theorem psum_zero {l : List (Nat × Rat)} {t : Nat} (h : ∀ x ∈ l, x.1 ≠ t) : psum l t = 0 := by
  unfold psum
  rw [List.filter_eq_nil_iff.mpr fun x hx => by simpa using h x hx]; rfl
theorem psum_mem {l : List (Nat × Rat)} (h0 : ∀ x ∈ l, 0 ≤ x.2) {x : Nat × Rat} (hx : x ∈ l) : x.2 ≤ psum l x.1 := by
  induction l with
  | nil => cases hx
  | cons y l ih =>
    rw [psum_cons]
    have h1 := h0 y (List.mem_cons_self ..)
    have h2 := psum_nonneg (t := x.1) (l := l) fun z hz => h0 z (List.mem_cons_of_mem _ hz)
    cases hx with
    | head => rw [if_pos rfl]; grind
    | tail _ hx =>
      have h3 := ih (fun z hz => h0 z (List.mem_cons_of_mem _ hz)) hx
      split <;> grind
theorem psum_den {W : Nat} (hW : 0 < W) {t : Nat} : ∀ {l : List (Nat × Rat)}, (∀ x ∈ l, x.2.den ∣ W) → (psum l t).den ∣ W := fun {l} h => by
  have : ∃ z : Int, psum l t * W = z := by
    induction l with
    | nil => exact ⟨0, by rw [psum_nil, Rat.intCast_zero]; grind⟩
    | cons x l ih =>
      obtain ⟨z, hz⟩ := ih fun y hy => h y (List.mem_cons_of_mem _ hy)
      obtain ⟨y, hy⟩ := den_int (h x (List.mem_cons_self ..))
      rw [psum_cons]
      split
      · exact ⟨y + z, by rw [Rat.intCast_add, ← hz, ← hy]; grind⟩
      · exact ⟨z, by rw [← hz]; grind⟩
  obtain ⟨z, hz⟩ := this
  exact int_den hW hz
structure LsIn where
  n : Nat
  ms : Nat → List (Nat × Rat)
  rs : Nat → Rat
def LsIn.S (p : LsIn) : Sy := ⟨fun s t => psum (p.ms s) t, p.rs⟩
/-- the moves of s -/
structure LsRow (p : LsIn) (s W : Nat) : Prop where
  W0 : 0 < W
  W1 : W ≤ 2 ^ 20
  len : (p.ms s).length ≤ 1000
  mv : ∀ x ∈ p.ms s, x.1 < p.n ∧ 0 < x.2 ∧ x.2.den ∣ W
  r0 : 0 ≤ p.rs s
  rd : (p.rs s).den ∣ W
  le : ((p.ms s).map (·.2)).sum + p.rs s ≤ 1
structure LsOk (p : LsIn) : Prop where
  n : p.n ≤ 6
  row : ∀ s, s < p.n → ∃ W, LsRow p s W
theorem LsRow.nn {p : LsIn} {s W : Nat} (h : LsRow p s W) : ∀ x ∈ p.ms s, 0 ≤ x.2 := fun x hx => Rat.le_of_lt (h.mv x hx).2.1
theorem LsOk.ok {p : LsIn} (h : LsOk p) : Ok p.n p.S where
  nn s t hs ht := by
    obtain ⟨W, hW⟩ := h.row s hs
    exact psum_nonneg hW.nn
  bn s hs := by
    obtain ⟨W, hW⟩ := h.row s hs
    exact hW.r0
  rs s hs := by
    obtain ⟨W, hW⟩ := h.row s hs
    show sm p.n (psum (p.ms s)) + p.rs s ≤ 1
    rw [psum_sm fun x hx => (hW.mv x hx).1]
    exact hW.le
theorem LsOk.dn {p : LsIn} (h : LsOk p) : ∀ s, s < p.n → ∃ D, Dn p.n (2 ^ 20) p.S s D := fun s hs => by
  obtain ⟨W, hW⟩ := h.row s hs
  exact ⟨W, hW.W0, hW.W1, fun t _ => psum_den hW.W0 fun x hx => (hW.mv x hx).2.2, hW.rd⟩
/-- what leads to a goal: l -/
structure Goals (p : LsIn) (l : List Nat) : Prop where
  g : ∀ s, s < p.n → p.rs s ≠ 0 → s ∈ l
  shut : ∀ s, s < p.n → (∃ x ∈ p.ms s, x.1 ∈ l) → s ∈ l
  ind : ∀ P : Nat → Prop, (∀ s, s < p.n → p.rs s ≠ 0 → P s) → (∀ s, s < p.n → ∀ x ∈ p.ms s, P x.1 → P s) → ∀ k ∈ l, P k
theorem Goals.off {p : LsIn} {l : List Nat} (h : Goals p l) : Off p.n (fun s => decide (s ∈ l)) p.S where
  b s hs hi := Decidable.byContradiction fun q => by
    have := h.g s hs q
    simp only [decide_eq_false_iff_not] at hi
    exact hi this
  A s t hs ht hi ht2 := by
    simp only [decide_eq_false_iff_not] at hi
    simp only [decide_eq_true_eq] at ht2
    refine psum_zero fun x hx e => hi (h.shut s hs ⟨x, hx, e ▸ ht2⟩)
theorem Goals.pos {p : LsIn} {l : List Nat} (h : Goals p l) (ok : LsOk p) : ∀ s, s < p.n → decide (s ∈ l) = true → 0 < val p.n p.S s := by
  intro s hs hi
  have key : ∀ k ∈ l, k < p.n → 0 < val p.n p.S k := by
    refine h.ind _ (fun s _ hr hs => ?_) fun s _ x hx hP hs => ?_
    · obtain ⟨W, hW⟩ := ok.row s hs
      have := hW.r0
      exact val_pos ok.ok hs (.inl (by show 0 < p.rs s; grind))
    · obtain ⟨W, hW⟩ := ok.row s hs
      obtain ⟨x1, x2, _⟩ := hW.mv x hx
      have := psum_mem hW.nn hx
      exact val_pos ok.ok hs (.inr ⟨x.1, x1, by show 0 < psum (p.ms s) x.1; grind, hP x1⟩)
  exact key s (by simpa using hi) hs
theorem pow64 {n : Nat} (h : n ≤ 6) : (2 ^ 20) ^ 2 ^ n ≤ 2 ^ 1400 := by
  rw [← Nat.pow_mul]
  refine Nat.pow_le_pow_right (by decide) ?_
  have : 2 ^ n ≤ 2 ^ 6 := Nat.pow_le_pow_right (by decide) h
  omega
end KE
end

section
set_option Elab.async false
set_option linter.all false
set_option maxRecDepth 100000
set_option maxHeartbeats 4000000
set_option exponentiation.threshold 10000
/-! K85d: least_solution. -/
namespace K82
open PySem PL KE
theorem eqv_fr (a b : Rat) : PyData.eqv (fr a) (fr b) = decide (a = b) := by
  rw [Bool.eq_iff_iff]
  simp only [PyData.eqv, PyData.eqvAll, Bool.and_true, Bool.and_eq_true, decide_eq_true_eq, beq_iff_eq]
  constructor
  · intro h
    exact Rat.ext (by simpa using h.1) (by have h2 := h.2; omega)
  · rintro rfl
    simp
theorem shp_fr (a : Rat) : Shp 2 (fr a) := shp_tup fun d hd => by
  simp only [List.mem_cons, List.not_mem_nil, or_false] at hd
  rcases hd with rfl | rfl <;> exact shp_int (by decide)
theorem fr_zero : fr 0 = pr 0 1 := rfl
def mvD (x : Nat × Rat) : PyData := .tuple [.int (x.1 : Nat), fr x.2]
def mvL (l : List (Nat × Rat)) : PyData := .list (l.map mvD)
def tabD (n : Nat) (ms : Nat → List (Nat × Rat)) : PyData := .dict (dm mvL ((List.range n).map fun s => (s, ms s)))
def ratD (n : Nat) (rs : Nat → Rat) : PyData := .dict (dm fr ((List.range n).map fun s => (s, rs s)))
def eLst : Ent := ⟨fun ds L => ∃ p : LsIn, ds = [natL (List.range p.n), tabD p.n p.ms, ratD p.n p.rs] ∧ LsOk p ∧ ∀ l : List (Nat × Rat), (∀ s, s < p.n → look l s = some (val p.n p.S s)) → L (.sh (.dict (dm fr l))) .none, false, 0, [], fun h ⟨p, e, ok, g⟩ => ⟨p, e, ok, fun l h1 => h _ _ (g l h1)⟩⟩
theorem look_fun {α : Type} {n : Nat} {f : Nat → α} {s : Nat} (h : s < n) : look ((List.range n).map fun s => (s, f s)) s = some (f s) := by
  refine look_of_mem ?_ (List.mem_map.mpr ⟨s, List.mem_range.mpr h, rfl⟩)
  rw [List.map_map]
  have : ((fun x : Nat × α => x.1) ∘ fun s => (s, f s)) = id := rfl
  rw [this, List.map_id]
  exact List.nodup_range
theorem get_tab {n : Nat} {ms : Nat → List (Nat × Rat)} {s : Nat} (h : s < n) : dGet (dm mvL ((List.range n).map fun s => (s, ms s))) (.int (s : Nat)) = some (mvL (ms s)) := by
  rw [dGet_dm, look_fun h]; rfl
theorem get_rat {n : Nat} {rs : Nat → Rat} {s : Nat} (h : s < n) : dGet (dm fr ((List.range n).map fun s => (s, rs s))) (.int (s : Nat)) = some (fr (rs s)) := by
  rw [dGet_dm, look_fun h]; rfl
theorem shp_zero : SeqAt.shaped (pr 0 1) = true := by decide +kernel
theorem shaped_fr (a : Rat) : SeqAt.shaped (fr a) = true := shp_shaped (shp_fr a) (by decide)
theorem num_bnd {q : Rat} {D n : Nat} (hD : 0 < D) (hd : q.den ∣ D) (h1 : -1 ≤ q) (h2 : q ≤ 1) (sD : Small n (D : Int)) : Small n q.num ∧ Small n (q.den : Int) := by
  have sd := small_dvd sD hD hd
  refine ⟨sd.le ?_, sd⟩
  rw [Int.natAbs_natCast]
  have d0 : (0 : Rat) < (q.den : Rat) := by
    have := Rat.natCast_lt_natCast (a := 0) (b := q.den) |>.mpr q.den_pos
    exact this
  have e := num_eq q
  have p1 := Rat.mul_le_mul_of_nonneg_right h1 (Rat.le_of_lt d0)
  have p2 := Rat.mul_le_mul_of_nonneg_right h2 (Rat.le_of_lt d0)
  rw [e] at p1 p2
  have p1 : ((-(q.den : Int) : Int) : Rat) ≤ (q.num : Rat) := by
    rw [Rat.intCast_neg, Rat.intCast_natCast]
    have : (-1 : Rat) * (q.den : Rat) = -(q.den : Rat) := by grind
    rw [← this]; exact p1
  have p2 : (q.num : Rat) ≤ ((q.den : Int) : Rat) := by
    rw [Rat.intCast_natCast]
    rw [Rat.one_mul] at p2; exact p2
  rw [Rat.intCast_le_intCast] at p1 p2
  omega
/-- row i, behind j moves -/
def part (p : LsIn) (f : Nat → Nat) (m i j : Nat) : List Rat := (List.range m).map fun t => (if t = i then 1 else 0) - psum ((p.ms (f i)).take j) (f t)
theorem mul_rep (d : PyData) (n : Nat) : (List.replicate n [d]).flatten = List.replicate n d := by
  induction n with
  | zero => rfl
  | succ n ih => rw [List.replicate_succ, List.flatten_cons, ih, List.replicate_succ]; rfl
theorem set_range {α : Type} {m i : Nat} (g : Nat → α) (x : α) : ((List.range m).map g).set i x = (List.range m).map fun t => if t = i then x else g t := by
  apply List.ext_getElem?
  intro j
  rw [List.getElem?_set, List.getElem?_map, List.getElem?_map, List.length_map, List.length_range]
  by_cases h : j < m
  · rw [List.getElem?_range h]
    by_cases e : i = j
    · subst e; rw [if_pos rfl, if_pos h]; simp
    · rw [if_neg e]; simp [Ne.symm e]
  · have : (List.range m)[j]? = none := by rw [List.getElem?_eq_none]; simpa using h
    rw [this]
    by_cases e : i = j
    · subst e; rw [if_pos rfl, if_neg h]; rfl
    · rw [if_neg e]; rfl
theorem least_does {tb : Tab} (g : Gl tb) (h1 : tb.fn "leading_to" = some eLead) (h2 : tb.fn "minus" = some eMinus) (h3 : tb.fn "solved" = some eSolv) : Does tb b_least_solution N_least_solution.length false eLst.R := by
  rintro ds L ⟨p, rfl, ok, hL⟩
  have hLIM : LIM = 16777216 := rfl
  have hn := ok.n
  have nr : ((List.range p.n).map id).Nodup := by rw [List.map_id]; exact List.nodup_range
  simp_arith [b_least_solution, N_least_solution, natL, nats]
  refine ⟨by rw [List.length_map, List.length_range]; omega, ?_⟩
  refine dcK_list id (fun s => natL ((p.ms s).map (·.1))) nr (fun s hs => ?_) ?_
  · have hs := List.mem_range.mp hs
    obtain ⟨W, hW⟩ := ok.row s hs
    simp_arith [tabD]
    refine ⟨_, get_tab hs, ?_⟩
    simp_arith [mvL]
    have := hW.len
    refine ⟨by rw [List.length_map]; omega, lcK_list (fun x => .int (x.1 : Nat)) (fun x hx => ?_) ?_⟩
    · simp_arith [mvD]
    · simp_arith [natL, nats]
      rw [List.map_map]
      exact ⟨rfl, rfl⟩
  simp_arith [call0_of h1 rfl]
  refine ⟨by rw [List.length_map, List.length_range]; omega, lcK_filt (fun s => decide (p.rs s ≠ 0)) (fun s => .int (s : Nat)) (fun s hs => ?_) ?_⟩
  · have hs := List.mem_range.mp hs
    simp_arith [ratD, glob_of g.zero]
    refine ⟨_, get_rat hs, ?_⟩
    simp_arith [C_neT]
    refine ⟨shaped_fr _, shp_zero, ?_⟩
    have e : (!PyData.eqv (fr (p.rs s)) (pr 0 1)) = decide (p.rs s ≠ 0) := by
      rw [← fr_zero, eqv_fr, decide_not]
    rw [e]
    by_cases q : p.rs s = 0
    · rw [if_neg (by simpa using q)]
      simpa using q
    · rw [if_pos (by simpa using q)]
      simpa using q
  have e1 : ((List.range p.n).map fun a => (PyData.int (id a : Nat), natL ((p.ms a).map (·.1)))) = dm natL ((List.range p.n).map fun s => (s, (p.ms s).map (·.1))) := by
    unfold dm
    rw [List.map_map]; rfl
  rw [e1]
  refine ⟨⟨p.n, fun s => (p.ms s).map (·.1), (List.range p.n).filter fun s => decide (p.rs s ≠ 0)⟩, rfl, ⟨by show p.n ≤ 1000; omega, fun s hs => ?_, List.Pairwise.filter _ List.nodup_range, ?_, fun k hk => ?_⟩, fun l hl hsh => ?_⟩
  · obtain ⟨W, hW⟩ := ok.row s hs
    show ((p.ms s).map (·.1)).length ≤ 1000
    rw [List.length_map]; exact hW.len
  · have := List.length_filter_le (fun s => decide (p.rs s ≠ 0)) (List.range p.n)
    rw [List.length_range] at this
    show ((List.range p.n).filter fun s => decide (p.rs s ≠ 0)).length ≤ 1000
    omega
  · have hk : k ∈ (List.range p.n).filter fun s => decide (p.rs s ≠ 0) := hk
    rw [List.mem_filter, List.mem_range] at hk
    exact hk.1
  have G : Goals p l := by
    refine ⟨fun s hs hr => hl.g s (List.mem_filter.mpr ⟨List.mem_range.mpr hs, by simpa using hr⟩), fun s hs ⟨x, hx, hxl⟩ => hsh s hs ⟨x.1, List.mem_map_of_mem hx, hxl⟩, fun P q1 q2 => hl.ind P (fun k hk => ?_) fun s hs e he hP => ?_⟩
    · have hk := List.mem_filter.mp hk
      exact q1 k (List.mem_range.mp hk.1) (by simpa using hk.2)
    · obtain ⟨x, hx, rfl⟩ := List.mem_map.mp he
      exact q2 s hs x hx hP
  have off := G.off
  have lt : ∀ i, i < (som p.n fun s => decide (s ∈ l)).length → _ := fun i hi => blk_lt off ok.ok (G.pos ok) hi
  have bd : ∀ i, i ≤ (som p.n fun s => decide (s ∈ l)).length → _ := fun i hi => blk_bd off ok.ok (N := 2 ^ 20) (by decide) ok.dn hi
  have vl : ∀ i, i < (som p.n fun s => decide (s ∈ l)).length → _ := fun i hi => blk_val off hi
  have ov : ∀ s, s < p.n → decide (s ∈ l) = false → val p.n p.S s = 0 := fun s hs hi => off_val off hs hi
  have fa : ∀ i, i < (som p.n fun s => decide (s ∈ l)).length → _ := fun i hi => som_at hi
  have fi : ∀ i j, i < (som p.n fun s => decide (s ∈ l)).length → j < (som p.n fun s => decide (s ∈ l)).length → _ → i = j := fun i j hi hj q => som_inj hi hj q
  have fm : ∀ s, s ∈ som p.n (fun s => decide (s ∈ l)) ↔ s < p.n ∧ s ∈ l := fun s => by rw [som_mem, decide_eq_true_eq]
  have fl := som_len_le p.n fun s => decide (s ∈ l)
  have fn := som_nodup p.n fun s => decide (s ∈ l)
  simp_arith [natL, nats]
  refine ⟨by rw [List.length_map, List.length_range]; omega, lcK_filt (fun s => decide (s ∈ l)) (fun s => .int (s : Nat)) (fun s hs => ?_) ?_⟩
  · simp_arith
    rw [seen_get]
    by_cases q : s ∈ l
    · rw [if_pos (by simpa using q)]
      simpa using q
    · rw [if_neg (by simpa using q)]
      simpa using q
  have e2 : (List.range p.n).filter (fun s => decide (s ∈ l)) = som p.n fun s => decide (s ∈ l) := rfl
  rw [e2]
  generalize (som p.n fun s => decide (s ∈ l)) = sm at *
  have sat : ∀ i (h : i < sm.length), sm[i] = sm.getD i 0 := fun i h => by rw [List.getD_eq_getElem?_getD, List.getElem?_eq_getElem h]; rfl
  simp_arith
  rw [enumL_map]
  have e3 : ((List.range sm.length).map fun k => PyData.tuple [.int (k : Nat), (sm.map fun s => PyData.int (s : Nat)).getD k .none]) = (List.range sm.length).map fun k => PyData.tuple [.int (k : Nat), .int ((sm.getD k 0 : Nat) : Int)] := by
    apply List.map_congr_left
    intro k hk
    have hk := List.mem_range.mp hk
    rw [getD_map hk, sat k hk]
  rw [e3]
  have e4 : (List.range sm.length).map (fun k => sm.getD k 0) = sm := by
    apply List.ext_getElem
    · simp
    · intro i h1 h2
      rw [List.getElem_map, List.getElem_range, sat i h2]
  refine ⟨by rw [List.length_map, List.length_range]; omega, dcK_list (fun k => sm.getD k 0) (fun k => .int (k : Nat)) (by rw [e4]; exact fn) (fun k hk => ?_) ?_⟩
  · simp_arith
  -- the rows
  have e5 : ((List.range sm.length).map fun a => (PyData.int ((sm.getD a 0 : Nat) : Int), PyData.int (a : Nat))) = dm (fun k : Nat => PyData.int (k : Nat)) ((List.range sm.length).map fun k => (sm.getD k 0, k)) := by
    unfold dm
    rw [List.map_map]; rfl
  rw [e5]
  have hsp : ∀ k, k < sm.length → dGet (dm (fun k : Nat => PyData.int (k : Nat)) ((List.range sm.length).map fun k => (sm.getD k 0, k))) (.int ((sm.getD k 0 : Nat) : Int)) = some (.int (k : Nat)) := fun k hk => by
    have nd : (((List.range sm.length).map fun k => (sm.getD k 0, k)).map (·.1)).Nodup := by
      rw [List.map_map]
      have : ((fun x : Nat × Nat => x.1) ∘ fun k => (sm.getD k 0, k)) = fun k => sm.getD k 0 := rfl
      rw [this, e4]; exact fn
    have hm : (sm.getD k 0, k) ∈ (List.range sm.length).map fun k => (sm.getD k 0, k) := List.mem_map.mpr ⟨k, List.mem_range.mpr hk, rfl⟩
    rw [dGet_dm, look_of_mem nd hm]; rfl
  have hsn : ∀ t, t ∉ sm → dGet (dm (fun k : Nat => PyData.int (k : Nat)) ((List.range sm.length).map fun k => (sm.getD k 0, k))) (.int (t : Nat)) = none := fun t ht => by
    rw [dGet_dm, look_none.mpr]
    · rfl
    · rw [List.map_map]
      have : ((fun x : Nat × Nat => x.1) ∘ fun k => (sm.getD k 0, k)) = fun k => sm.getD k 0 := rfl
      rw [this, e4]; exact ht
  generalize hspots : dm (fun k : Nat => PyData.int (k : Nat)) ((List.range sm.length).map fun k => (sm.getD k 0, k)) = spots at *
  generalize hedges : dm natL ((List.range p.n).map fun s => (s, (p.ms s).map (·.1))) = edges at *
  simp_arith
  refine for_list (fun i e => ∃ s4 s5 s6 s13, (Wk s4 ∧ Wk s5 ∧ Wk s6 ∧ Wk s13) ∧ e = [Sl.sh (natL (List.range p.n)), .sh (tabD p.n p.ms), .sh (ratD p.n p.rs), .sh (.dict edges), s4, s5, s6, .sh (.dict (seenD l)), .sh (.list (nats sm)), .sh (.dict spots), .un, .ow (.list ((List.range i).map fun i => .list ((part p (fun k => sm.getD k 0) sm.length i (p.ms (sm.getD i 0)).length).map fr))), .ow (.list ((List.range i).map fun i => .list [fr (p.rs (sm.getD i 0))])), s13, .un, .un]) ⟨.un, .un, .un, .un, ⟨wk_un, wk_un, wk_un, wk_un⟩, rfl⟩ (fun i hi e hI => ?_) fun e hI => ?_
  · obtain ⟨s4, s5, s6, s13, ⟨k4, k5, k6, k13⟩, rfl⟩ := hI
    obtain ⟨f1, f2⟩ := fa i hi
    obtain ⟨W, hW⟩ := ok.row _ f1
    have sW : Small 21 (W : Int) := small_le hW.W1
    rw [sat i hi]
    simp_arith [wrK_wk k6, wrK_wk k13, glob_of g.zero, glob_of g.one, nats]
    rw [List.length_map, Int.toNat_natCast, mul_rep]
    refine ⟨⟨by omega, by omega⟩, by decide, ?_⟩
    refine ⟨_, hsp i hi, ?_⟩
    simp_arith
    refine ⟨i, by rw [List.length_replicate]; exact ixN_nat hi, ?_⟩
    simp_arith [tabD]
    refine ⟨_, get_tab f1, ?_⟩
    simp_arith [mvL]
    have er : (List.replicate sm.length (pr 0 1)).set i (pr 1 1) = (part p (fun k => sm.getD k 0) sm.length i 0).map fr := by
      have : List.replicate sm.length (pr 0 1) = (List.range sm.length).map fun _ => fr 0 := by
        apply List.ext_getElem
        · simp
        · intro j h1 h2; simp [fr_zero]
      rw [this, set_range]
      unfold part
      rw [List.map_map]
      apply List.map_congr_left
      intro t ht
      show _ = fr ((if t = i then 1 else 0) - psum [] (sm.getD t 0))
      rw [psum_nil]
      split
      · show fr 1 = fr (1 - 0); congr 1; grind
      · show fr 0 = fr (0 - 0); congr 1; grind
    rw [er]
    refine for_list (fun j e => ∃ s4 s5, (Wk s4 ∧ Wk s5) ∧ e = [Sl.sh (natL (List.range p.n)), .sh (tabD p.n p.ms), .sh (ratD p.n p.rs), .sh (.dict edges), s4, s5, .sh (.int ((sm.getD i 0 : Nat) : Int)), .sh (.dict (seenD l)), .sh (.list (nats sm)), .sh (.dict spots), .un, .ow (.list ((List.range i).map fun i => .list ((part p (fun k => sm.getD k 0) sm.length i (p.ms (sm.getD i 0)).length).map fr))), .ow (.list ((List.range i).map fun i => .list [fr (p.rs (sm.getD i 0))])), .ow (.list ((part p (fun k => sm.getD k 0) sm.length i j).map fr)), .un, .un]) ⟨s4, s5, ⟨k4, k5⟩, rfl⟩ (fun j hj e hI => ?_) fun e hI => ?_
    · obtain ⟨s4, s5, ⟨k4, k5⟩, rfl⟩ := hI
      obtain ⟨x1, x2, x3⟩ := hW.mv _ (List.getElem_mem hj)
      simp_arith [wrK_wk k4, wrK_wk k5, mvD]
      by_cases q : (p.ms (sm.getD i 0))[j].1 ∈ sm
      · obtain ⟨t, ht, et⟩ := List.getElem_of_mem q
        rw [sat t ht] at et
        rw [← et, hsp t ht]
        simp_arith [call0_of h2 rfl]
        refine ⟨_, hsp t ht, ?_⟩
        simp_arith
        have lp : (part p (fun k => sm.getD k 0) sm.length i j).length = sm.length := by simp [part]
        have pt : (part p (fun k => sm.getD k 0) sm.length i j)[t]'(by rw [lp]; exact ht) = (if t = i then 1 else 0) - psum ((p.ms (sm.getD i 0)).take j) (sm.getD t 0) := by simp [part]
        refine ⟨_, atI_map (by rw [lp]; exact ht), ?_⟩
        rw [pt]
        obtain ⟨pp0, pp1⟩ := psum_part hW.nn j (sm.getD t 0)
        have pA := ok.ok.le f1 (fa t ht).1
        have pA : psum (p.ms (sm.getD i 0)) (sm.getD t 0) ≤ 1 := pA
        have pd : (psum ((p.ms (sm.getD i 0)).take j) (sm.getD t 0)).den ∣ W := psum_den hW.W0 fun x hx => (hW.mv x (List.mem_of_mem_take hx)).2.2
        have pl := psum_mem hW.nn (List.getElem_mem hj)
        rw [← et] at pl
        have qd : ((if t = i then (1 : Rat) else 0) - psum ((p.ms (sm.getD i 0)).take j) (sm.getD t 0)).den ∣ W := by
          obtain ⟨z, hz⟩ := den_int pd
          refine int_den hW.W0 (z := (if t = i then (W : Int) else 0) - z) ?_
          rw [Rat.intCast_sub, ← hz]
          split
          · rw [Rat.intCast_natCast]; grind
          · rw [Rat.intCast_zero]; grind
        obtain ⟨a1, a2⟩ := num_bnd hW.W0 qd (by split <;> grind) (by split <;> grind) sW
        obtain ⟨b1, b2⟩ := num_bnd hW.W0 x3 (by grind) (by grind) sW
        simp_arith [eMinus]
        refine ⟨⟨nd ((if t = i then (1 : Rat) else 0) - psum ((p.ms (sm.getD i 0)).take j) (sm.getD t 0)), nd (p.ms (sm.getD i 0))[j].2⟩, rfl, ⟨⟨Rat.den_pos _, Rat.den_pos _⟩, ⟨a1.mono (by decide), a2.mono (by decide)⟩, b1.mono (by decide), b2.mono (by decide)⟩, ?_⟩
        simp_arith
        refine ⟨_, hsp t ht, ?_⟩
        simp_arith
        refine ⟨t, by rw [List.length_map, lp]; exact ixN_nat ht, ?_⟩
        have e9 : ((part p (fun k => sm.getD k 0) sm.length i j).map fr).set t (fr (mkRat (nd ((if t = i then (1 : Rat) else 0) - psum ((p.ms (sm.getD i 0)).take j) (sm.getD t 0))).1 (nd ((if t = i then (1 : Rat) else 0) - psum ((p.ms (sm.getD i 0)).take j) (sm.getD t 0))).2 - mkRat (nd (p.ms (sm.getD i 0))[j].2).1 (nd (p.ms (sm.getD i 0))[j].2).2)) = (part p (fun k => sm.getD k 0) sm.length i (j + 1)).map fr := by
          have n1 : ∀ q : Rat, mkRat (nd q).1 (nd q).2 = q := fun q => qv_nd q
          rw [n1, n1, ← List.map_set]
          congr 1
          unfold part
          rw [set_range]
          apply List.map_congr_left
          intro u hu
          rw [psum_take hj]
          by_cases e : u = t
          · subst e
            rw [if_pos rfl, if_pos et.symm]; grind
          · rw [if_neg e, if_neg (fun z : (p.ms (sm.getD i 0))[j].1 = sm.getD u 0 => e (fi u t (List.mem_range.mp hu) ht (z.symm.trans et.symm)))]; grind
        rw [e9]
        exact ⟨_, _, ⟨wk_sh, wk_sh⟩, rfl⟩
      · rw [hsn _ q]
        have e9 : part p (fun k => sm.getD k 0) sm.length i (j + 1) = part p (fun k => sm.getD k 0) sm.length i j := by
          unfold part
          apply List.map_congr_left
          intro u hu
          rw [psum_take hj, if_neg (fun z : (p.ms (sm.getD i 0))[j].1 = sm.getD u 0 => q (by rw [z, ← sat u (List.mem_range.mp hu)]; exact List.getElem_mem _))]
          grind
        rw [e9]
        exact ⟨_, _, ⟨wk_sh, wk_sh⟩, rfl⟩
    · obtain ⟨s4, s5, ⟨k4, k5⟩, rfl⟩ := hI
      simp_arith [ratD]
      refine ⟨by rw [List.length_map, List.length_range]; omega, ?_⟩
      refine ⟨_, get_rat f1, ?_⟩
      refine ⟨by rw [List.length_map, List.length_range]; omega, ?_⟩
      rw [List.range_succ, List.map_append, List.map_append]
      exact ⟨s4, s5, _, _, ⟨k4, k5, wk_sh, wk_sh⟩, rfl⟩
  · obtain ⟨s4, s5, s6, s13, ⟨k4, k5, k6, k13⟩, rfl⟩ := hI
    simp_arith [natL, nats, glob_of g.zero]
    refine ⟨by rw [List.length_map, List.length_range]; omega, ?_⟩
    refine dcK_list id (fun _ => fr 0) nr (fun s hs => ?_) ?_
    · simp_arith [glob_of g.zero]
      exact ⟨rfl, rfl⟩
    simp_arith [call0_of h3 rfl, nats]
    have e6 : ((List.range p.n).map fun a => (PyData.int (id a : Nat), fr 0)) = dm fr ((List.range p.n).map fun s => (s, (0 : Rat))) := by
      unfold dm
      rw [List.map_map]; rfl
    rw [e6]
    refine ⟨⟨sm.length, blk p.S fun i => sm.getD i 0, (2 ^ 20) ^ 2 ^ p.n⟩, ?_, ⟨by show sm.length ≤ 100; omega, pow64 hn, bd, lt⟩, ?_⟩
    · have e7 : ∀ i, i < sm.length → part p (fun k => sm.getD k 0) sm.length i (p.ms (sm.getD i 0)).length = (List.range sm.length).map fun j => dl (blk p.S fun i => sm.getD i 0) i j := fun i hi => by
        unfold part
        rw [List.take_length]; rfl
      unfold rowsD sidesD
      have e8 : ((List.range sm.length).map fun i => PyData.list ((part p (fun k => sm.getD k 0) sm.length i (p.ms (sm.getD i 0)).length).map fr)) = (List.range sm.length).map fun i => PyData.list (((List.range sm.length).map fun j => dl (blk p.S fun i => sm.getD i 0) i j).map fr) := List.map_congr_left fun i hi => by
        rw [e7 i (List.mem_range.mp hi)]
      rw [e8]; rfl
    simp_arith
    have e9 : zipL (sm.map fun s => PyData.int (s : Nat)) ((List.range sm.length).map fun k => PyData.list [fr ((el (blk p.S fun i => sm.getD i 0) sm.length).b k)]) = (List.range sm.length).map fun k => PyData.tuple [.int ((sm.getD k 0 : Nat) : Int), .list [fr (val p.n p.S (sm.getD k 0))]] := by
      unfold zipL
      apply List.ext_getElem
      · simp
      · intro k h1 h2
        have hk : k < sm.length := by simpa using h2
        rw [List.getElem_map, List.getElem_zip, List.getElem_map, List.getElem_map, List.getElem_map, List.getElem_range, sat k hk, vl k hk]
    rw [e9]
    refine ⟨by rw [List.length_map, List.length_range]; omega, ?_⟩
    refine dcK_list (fun k => sm.getD k 0) (fun k => fr (val p.n p.S (sm.getD k 0))) (by rw [e4]; exact fn) (fun k hk => ?_) ?_
    · simp_arith [wrK_wk k6]
    simp_arith
    have e10 : ((List.range sm.length).map fun a => (PyData.int ((sm.getD a 0 : Nat) : Int), fr (val p.n p.S (sm.getD a 0)))) = dm fr ((List.range sm.length).map fun k => (sm.getD k 0, val p.n p.S (sm.getD k 0))) := by
      unfold dm
      rw [List.map_map]; rfl
    rw [e10, dUpd_dm]
    refine ⟨by simp [dm]; omega, hL _ fun s hs => ?_⟩
    have ek : ((List.range sm.length).map fun k => (sm.getD k 0, val p.n p.S (sm.getD k 0))).map (·.1) = sm := by
      rw [List.map_map]
      exact e4
    rw [look_upds _ _ (by rw [ek]; exact fn), look_fun hs]
    by_cases q : s ∈ sm
    · obtain ⟨t, ht, et⟩ := List.getElem_of_mem q
      rw [sat t ht] at et
      have := look_of_mem (by rw [ek]; exact fn) (List.mem_map.mpr ⟨t, List.mem_range.mpr ht, rfl⟩ : (sm.getD t 0, val p.n p.S (sm.getD t 0)) ∈ (List.range sm.length).map fun k => (sm.getD k 0, val p.n p.S (sm.getD k 0)))
      rw [et] at this
      rw [this]; rfl
    · rw [look_none.mpr (by rw [ek]; exact q)]
      have : s ∉ l := fun z => q ((fm s).mpr ⟨hs, z⟩)
      rw [ov s hs (by simpa using this)]; rfl
end K82
end

section
set_option Elab.async false
set_option linter.all false
set_option maxRecDepth 100000
set_option maxHeartbeats 4000000
set_option exponentiation.threshold 10000
/-! K85e: all_deeds, coming_by. -/
namespace K82
open PySem PL KE
def eAllD : Ent := fnE (fun C : Chooser => [chooserD C]) (fun C => OkC C) (fun C => tupD (tps C C.length))
theorem tps_le {C : Chooser} (hC : OkC C) {i : Nat} (hi : i ≤ C.length) : (tps C i).length ≤ 729 := Nat.le_trans (tps_len hC i hi) (by
  have l1 := hC.l1
  have : (3 : Nat) ^ i ≤ 3 ^ 6 := Nat.pow_le_pow_right (by decide) (by omega)
  exact this)
theorem deeds_does {tb : Tab} : Does tb b_all_deeds N_all_deeds.length false eAllD.R := by
  rintro ds L ⟨C, rfl, hC, hL⟩
  have l1 := hC.l1
  have hLIM : LIM = 16777216 := rfl
  simp_arith [b_all_deeds, N_all_deeds, chooserD]
  refine for_list (fun i e => ∃ s2, Wk s2 ∧ e = [Sl.sh (.tuple (C.map choiceD)), .sh (tupD (tps C i)), s2, .un, .un]) ⟨.un, wk_un, rfl⟩ (fun i hi e hI => ?_) fun e hI => ?_
  · obtain ⟨s2, k2, rfl⟩ := hI
    have hCi := (hC.ch _ (List.getElem_mem hi)).1
    have eg : C.getD i [] = C[i] := by rw [List.getD_eq_getElem?_getD, List.getElem?_eq_getElem hi]; rfl
    have es : tps C (i + 1) = tpStep (tps C i) C[i].length := by rw [← eg]; rfl
    have ln := tps_le hC (i := i + 1) (by omega)
    have ef : ((tps C i).flatMap fun one => (List.range C[i].length).map fun a => idxD (one ++ [a])) = (tps C (i + 1)).map idxD := by
      rw [es]
      unfold tpStep
      rw [List.map_flatMap]
      simp only [List.map_map]
      rfl
    simp_arith [wrK_wk k2, choiceD, tupD]
    refine lc2K_flat (fun _ => List.range C[i].length) (fun _ a => .int (a : Nat)) (fun one a => idxD (one ++ [a])) (by decide) (fun one ho => ?_) ?_ ?_
    · have hl := ((tps_mem (C := C) (i := i) (by omega) _).mp ho).1
      simp_arith
      rw [List.length_map, Int.toNat_natCast]
      refine ⟨⟨by omega, by omega⟩, ⟨?_, rfl⟩, fun a ha => ?_⟩
      · unfold rangeL
        apply List.map_congr_left
        intro k _
        rw [Int.zero_add, Int.mul_one]
      · simp_arith [idxD]
        refine ⟨by rw [List.length_map]; omega, ?_⟩
        rw [List.map_append]; rfl
    · rw [ef, List.length_map]; omega
    · rw [ef]
      simp_arith
      exact ⟨_, wk_sh, rfl⟩
  · obtain ⟨s2, k2, rfl⟩ := hI
    simp_arith
    exact hL
/-! ### coming_by -/
def lotD (lot : List Nat) : PyData := .tuple (nats lot)
def dOf (C : Chooser) (k : List Nat) (s : Nat) : Deed := (C.getD s []).getD (k.getD s 0) []
def lsOf (C : Chooser) (k lot : List Nat) : LsIn := ⟨C.length, fun s => if s ∈ lot then [] else (dOf C k s).map fun m => (m.s, qv m.p), fun s => if s ∈ lot then 1 else 0⟩
/-- the chance to come to the lot -/
def comeV (C : Chooser) (k lot : List Nat) (s : Nat) : Rat := val C.length (lsOf C k lot).S s
theorem dOf_mem {C : Chooser} {k : List Nat} (hk : OkK C k) {s : Nat} (hs : s < C.length) : ∃ h : k.getD s 0 < C[s].length, dOf C k s = C[s][k.getD s 0] := by
  have h := hk.2 s hs
  refine ⟨h, ?_⟩
  have e : C.getD s [] = C[s] := by rw [List.getD_eq_getElem?_getD, List.getElem?_eq_getElem hs]; rfl
  unfold dOf
  rw [e]
  generalize k.getD s 0 = j at h
  rw [List.getD_eq_getElem?_getD, List.getElem?_eq_getElem h]; rfl
theorem lsOf_ok {C : Chooser} (hC : OkC C) {k lot : List Nat} (hk : OkK C k) : LsOk (lsOf C k lot) where
  n := hC.l1
  row s hs := by
    have hs : s < C.length := hs
    by_cases q : s ∈ lot
    · refine ⟨1, by decide, by decide, ?_, fun x hx => ?_, ?_, ?_, ?_⟩
      · show (if s ∈ lot then [] else _ : List (Nat × Rat)).length ≤ 1000
        rw [if_pos q]; decide
      · have hx : x ∈ (if s ∈ lot then [] else _ : List (Nat × Rat)) := hx
        rw [if_pos q] at hx; cases hx
      · show (0 : Rat) ≤ if s ∈ lot then 1 else 0
        rw [if_pos q]; decide
      · show (if s ∈ lot then (1 : Rat) else 0).den ∣ 1
        rw [if_pos q]; decide
      · show ((if s ∈ lot then [] else _ : List (Nat × Rat)).map (·.2)).sum + (if s ∈ lot then (1 : Rat) else 0) ≤ 1
        rw [if_pos q, if_pos q]
        show (0 : Rat) + 1 ≤ 1
        grind
    · obtain ⟨h1, h2⟩ := dOf_mem hk hs
      obtain ⟨W, hW⟩ := (hC.ch _ (List.getElem_mem hs)).2 _ (List.getElem_mem h1)
      rw [← h2] at hW
      refine ⟨W, hW.W0, Nat.le_trans hW.W1 (by decide), ?_, fun x hx => ?_, ?_, ?_, ?_⟩
      · show (if s ∈ lot then [] else _ : List (Nat × Rat)).length ≤ 1000
        rw [if_neg q, List.length_map]
        have := hW.len
        omega
      · have hx : x ∈ (if s ∈ lot then [] else (dOf C k s).map fun m => (m.s, qv m.p) : List (Nat × Rat)) := hx
        rw [if_neg q] at hx
        obtain ⟨m, hm, rfl⟩ := List.mem_map.mp hx
        obtain ⟨m1, m2, m3, m4⟩ := hW.mv m hm
        refine ⟨m2, ?_, Nat.dvd_trans (den_dvd m3.1) (hW.dvd m hm)⟩
        show 0 < qv m.p
        have e : (0 : Rat) = mkRat 0 1 := rfl
        unfold qv
        rw [e, mk_lt (by decide) m3.1]
        omega
      · show (0 : Rat) ≤ if s ∈ lot then 1 else 0
        rw [if_neg q]; decide
      · show (if s ∈ lot then (1 : Rat) else 0).den ∣ W
        rw [if_neg q]; exact Nat.one_dvd _
      · show ((if s ∈ lot then [] else (dOf C k s).map fun m => (m.s, qv m.p) : List (Nat × Rat)).map (·.2)).sum + (if s ∈ lot then (1 : Rat) else 0) ≤ 1
        rw [if_neg q, if_neg q, List.map_map]
        have := hW.le1
        unfold qsum at this
        rw [List.map_map] at this
        have e : ((fun x : Nat × Rat => x.2) ∘ fun m : Mv => (m.s, qv m.p)) = qv ∘ fun m => m.p := rfl
        rw [e]
        grind
theorem comeV_ok {C : Chooser} (hC : OkC C) {k lot : List Nat} (hk : OkK C k) {s : Nat} (hs : s < C.length) : ∃ D, D ≤ 2 ^ 1400 ∧ 0 < D ∧ Qok D (comeV C k lot s) := by
  have ok := lsOf_ok hC hk (lot := lot)
  obtain ⟨D, hD⟩ := el_dn ok.ok (by decide) ok.dn (Nat.le_refl _) s hs
  exact ⟨D, Nat.le_trans hD.le (pow64 ok.n), hD.pos, val_nonneg ok.ok hs, val_le ok.ok hs, hD.b⟩
structure ComeIn where
  C : Chooser
  k : List Nat
  lot : List Nat
structure ComeOk (p : ComeIn) : Prop where
  C : OkC p.C
  k : OkK p.C p.k
  lot : p.lot.length ≤ 1000
def eCome : Ent := ⟨fun ds L => ∃ p : ComeIn, ds = [chooserD (lowC p.C), idxD p.k, lotD p.lot] ∧ ComeOk p ∧ ∀ l : List (Nat × Rat), (∀ s, s < p.C.length → look l s = some (comeV p.C p.k p.lot s)) → L (.sh (.dict (dm fr l))) .none, false, 0, [], fun h ⟨p, e, ok, g⟩ => ⟨p, e, ok, fun l h1 => h _ _ (g l h1)⟩⟩
theorem any_int (lot : List Nat) (s : Nat) : ((nats lot).any fun z => PyData.eqv z (.int (s : Nat))) = decide (s ∈ lot) := by
  unfold nats
  rw [List.any_map, Bool.eq_iff_iff, List.any_eq_true, decide_eq_true_eq]
  constructor
  · rintro ⟨x, hx, e⟩
    have : x = s := by
      simp only [Function.comp, PyData.eqv, beq_iff_eq] at e
      omega
    exact this ▸ hx
  · intro h
    exact ⟨s, h, by simp [PyData.eqv]⟩
theorem shp_lot (lot : List Nat) : Shp 2 (lotD lot) := shp_tup fun d hd => by
  obtain ⟨a, _, rfl⟩ := List.mem_map.mp hd
  exact shp_int (by decide)
theorem shaped_int (i : Int) : SeqAt.shaped (.int i) = true := shp_shaped (shp_int (n := 1) (by decide)) (by decide)
theorem low_nd (m : Mv) : pr (low m).p.1 (low m).p.2 = fr (qv m.p) := rfl
theorem coming_does {tb : Tab} (g : Gl tb) (h1 : tb.fn "least_solution" = some eLst) : Does tb b_coming_by N_coming_by.length false eCome.R := by
  rintro ds L ⟨⟨C, k, lot⟩, rfl, ⟨hC, hk, hlot⟩, hL⟩
  dsimp only at hC hk hlot hL
  have l1 := hC.l1
  have hLIM : LIM = 16777216 := rfl
  have ok := lsOf_ok hC hk (lot := lot)
  have kl := hk.1
  simp_arith [b_coming_by, N_coming_by, chooserD, idxD]
  rw [List.length_map, lowC_len, Int.toNat_natCast]
  refine ⟨⟨by omega, by omega⟩, ?_⟩
  have e0 : rangeL 0 1 C.length = nats (List.range C.length) := by
    unfold rangeL nats
    apply List.map_congr_left
    intro k _
    rw [Int.zero_add, Int.mul_one]
  rw [e0]
  refine for_enum (fun i e => ∃ s5 s6, (Wk s5 ∧ Wk s6) ∧ e = [Sl.sh (chooserD (lowC C)), .sh (idxD k), .sh (lotD lot), .sh (natL (List.range C.length)), .ow (.dict (dm mvL ((List.range i).map fun s => (s, (lsOf C k lot).ms s)))), s5, s6, .un, .un, .un]) ⟨.un, .un, ⟨wk_un, wk_un⟩, rfl⟩ (fun i hi e hI => ?_) fun e hI => ?_
  · obtain ⟨s5, s6, ⟨k5, k6⟩, rfl⟩ := hI
    have hi' : i < C.length := by omega
    obtain ⟨d1, d2⟩ := dOf_mem hk hi'
    have hW := (hC.ch _ (List.getElem_mem hi')).2 _ (List.getElem_mem d1)
    have kg : k[i] = k.getD i 0 := by rw [List.getD_eq_getElem?_getD, List.getElem?_eq_getElem hi]; rfl
    have put1 : dPut (dm mvL ((List.range i).map fun s => (s, (lsOf C k lot).ms s))) (.int (i : Nat)) (mvL ((lsOf C k lot).ms i)) = dm mvL ((List.range (i + 1)).map fun s => (s, (lsOf C k lot).ms s)) := by
      rw [dPut_dm, put_new _ (by
        rw [List.map_map]
        have : ((fun x : Nat × List (Nat × Rat) => x.1) ∘ fun s => (s, (lsOf C k lot).ms s)) = id := rfl
        rw [this, List.map_id, List.mem_range]; omega), List.range_succ, List.map_append]; rfl
    have len1 : (dm mvL ((List.range i).map fun s => (s, (lsOf C k lot).ms s))).length = i := by simp [dm]
    simp_arith [wrK_wk k5, wrK_wk k6, lotD]
    refine ⟨shaped_int _, shp_shaped (shp_lot lot) (by decide), ?_⟩
    rw [any_int]
    by_cases q : i ∈ lot
    · rw [if_pos (by simpa using q)]
      rw [len1]
      refine ⟨by omega, ?_⟩
      have e : (lsOf C k lot).ms i = [] := by
        show (if i ∈ lot then [] else _) = _
        rw [if_pos q]
      rw [e] at put1
      have put1 : dPut (dm mvL ((List.range i).map fun s => (s, (lsOf C k lot).ms s))) (.int (i : Nat)) (.list []) = _ := put1
      rw [put1]
      exact ⟨_, _, ⟨wk_sh, wk_sh⟩, rfl⟩
    · rw [if_neg (by simpa using q)]
      simp_arith [chooserD]
      refine ⟨_, atI_map (by rw [lowC_len]; exact hi'), ?_⟩
      have ec : (lowC C)[i]'(by rw [lowC_len]; exact hi') = C[i].map fun d => d.map low := by simp [lowC]
      rw [ec]
      simp_arith [choiceD]
      rw [kg]
      refine ⟨_, atI_map (by rw [List.length_map]; exact d1), ?_⟩
      rw [List.getElem_map]
      simp_arith [deedD]
      rw [← d2] at hW ⊢
      obtain ⟨W, hW⟩ := hW
      have := hW.len
      rw [List.map_map]
      refine ⟨by rw [List.length_map]; omega, lcK_list (fun m => mvD (m.s, qv m.p)) (fun m hm => ?_) ?_⟩
      · simp_arith [Mv.D, Function.comp]
        exact rfl
      · simp_arith
        rw [len1]
        refine ⟨by omega, ?_⟩
        have e : (lsOf C k lot).ms i = (dOf C k i).map fun m => (m.s, qv m.p) := by
          show (if i ∈ lot then [] else _) = _
          rw [if_neg q]
        rw [e] at put1
        have put1 : dPut (dm mvL ((List.range i).map fun s => (s, (lsOf C k lot).ms s))) (.int (i : Nat)) (.list ((dOf C k i).map fun m => mvD (m.s, qv m.p))) = dm mvL ((List.range (i + 1)).map fun s => (s, (lsOf C k lot).ms s)) := by
          rw [← put1]
          unfold mvL
          rw [List.map_map]; rfl
        rw [put1]
        exact ⟨_, _, ⟨wk_sh, wk_sh⟩, rfl⟩
  · obtain ⟨s5, s6, ⟨k5, k6⟩, rfl⟩ := hI
    rw [kl]
    simp_arith [call0_of h1 rfl, natL, nats]
    refine ⟨by rw [List.length_map, List.length_range]; omega, ?_⟩
    refine dcK_list id (fun s => fr ((lsOf C k lot).rs s)) (by rw [List.map_id]; exact List.nodup_range) (fun s hs => ?_) ?_
    · simp_arith [wrK_wk k5, lotD, glob_of g.one, glob_of g.zero]
      refine ⟨shaped_int _, shp_shaped (shp_lot lot) (by decide), ?_⟩
      have : ((nats lot).any fun z => PyData.eqv z (.int (s : Nat))) = decide (s ∈ lot) := any_int lot s
      rw [any_int]
      by_cases q : s ∈ lot
      · rw [if_pos (by simpa using q)]
        show _ ∧ fr 1 = fr (if s ∈ lot then 1 else 0)
        rw [if_pos q]
        exact ⟨rfl, rfl⟩
      · rw [if_neg (by simpa using q)]
        show _ ∧ fr 0 = fr (if s ∈ lot then 1 else 0)
        rw [if_neg q]
        exact ⟨rfl, rfl⟩
    · refine ⟨lsOf C k lot, ?_, ok, fun l hl => hL l hl⟩
      show _ = [natL (List.range C.length), tabD C.length (lsOf C k lot).ms, ratD C.length (lsOf C k lot).rs]
      unfold natL nats tabD ratD dm
      simp only [List.map_map]
      rfl
end K82
end

section
set_option Elab.async false
set_option linter.all false
set_option maxRecDepth 100000
set_option maxHeartbeats 4000000
set_option exponentiation.threshold 10000
/-! K85f: best_coming, greatest_values, greatest_come, least_come, come_paper. -/
namespace K82
open PySem PL KE
theorem tps_low (C : Chooser) : ∀ i, tps (lowC C) i = tps C i
  | 0 => rfl
  | i + 1 => by
    show tpStep (tps (lowC C) i) ((lowC C).getD i []).length = tpStep (tps C i) (C.getD i []).length
    rw [tps_low C i]
    congr 1
    unfold lowC
    rw [List.getD_eq_getElem?_getD, List.getD_eq_getElem?_getD, List.getElem?_map]
    cases C[i]? with
    | none => rfl
    | some d => simp
def bstep (up : Bool) (f : List Nat → Rat) (acc : Option (Rat × List Nat)) (k : List Nat) : Option (Rat × List Nat) := match acc with
  | none => some (f k, k)
  | some x => if bet up (f k) x.1 = true then some (f k, k) else some x
def bestF (up : Bool) (f : List Nat → Rat) (ks : List (List Nat)) : Option (Rat × List Nat) := ks.foldl (bstep up f) none
def boD : Option (Rat × List Nat) → PyData
  | none => .none
  | some x => .tuple [fr x.1, idxD x.2]
theorem bestF_succ {up : Bool} {f : List Nat → Rat} {ks : List (List Nat)} {i : Nat} (h : i < ks.length) : bestF up f (ks.take (i + 1)) = bstep up f (bestF up f (ks.take i)) ks[i] := by
  unfold bestF
  rw [List.take_succ_eq_append_getElem h, List.foldl_append]; rfl
theorem bestF_mem {up : Bool} {f : List Nat → Rat} {ks : List (List Nat)} : ∀ i, i ≤ ks.length → ∀ x, bestF up f (ks.take i) = some x → x.2 ∈ ks ∧ x.1 = f x.2
  | 0, _, x, e => by cases e
  | i + 1, hi, x, e => by
    rw [bestF_succ (by omega)] at e
    cases h : bestF up f (ks.take i) with
    | none =>
      rw [h] at e
      cases e
      exact ⟨List.getElem_mem _, rfl⟩
    | some y =>
      rw [h] at e
      unfold bstep at e
      simp only at e
      split at e
      · cases e; exact ⟨List.getElem_mem _, rfl⟩
      · cases e; exact bestF_mem i (by omega) _ h
structure BcIn where
  C : Chooser
  lot : List Nat
  up : Bool
structure BcOk (p : BcIn) : Prop where
  C : OkC p.C
  lot : p.lot.length ≤ 1000
def bestC (p : BcIn) : Option (Rat × List Nat) := bestF p.up (fun k => comeV p.C k p.lot 0) (tps p.C p.C.length)
def eBc : Ent := fnE (fun p : BcIn => [chooserD (lowC p.C), lotD p.lot, .int (sgn p.up)]) BcOk (fun p => boD (bestC p))
theorem best_does {tb : Tab} (h1 : tb.fn "all_deeds" = some eAllD) (h2 : tb.fn "coming_by" = some eCome) (h3 : tb.fn "is_better" = some eBet) : Does tb b_best_coming N_best_coming.length false eBc.R := by
  rintro ds L ⟨⟨C, lot, up⟩, rfl, ⟨hC, hlot⟩, hL⟩
  dsimp only at hC hlot hL
  have l0 := hC.l0
  simp_arith [b_best_coming, N_best_coming, call0_of h1 rfl, eAllD]
  refine ⟨lowC C, rfl, low_okc hC, ?_⟩
  rw [lowC_len, tps_low]
  simp_arith [tupD]
  have hall : ∀ k ∈ tps C C.length, OkK C k := fun k hk => (tps_all k).mp hk
  have hbc : bestC ⟨C, lot, up⟩ = bestF up (fun k => comeV C k lot 0) (tps C C.length) := rfl
  rw [hbc] at hL
  generalize tps C C.length = ks at *
  refine for_list (fun i e => ∃ s4 s5, (Wk s4 ∧ Wk s5) ∧ e = [Sl.sh (chooserD (lowC C)), .sh (lotD lot), .sh (.int (sgn up)), .sh (boD (bestF up (fun k => comeV C k lot 0) (ks.take i))), s4, s5]) ⟨.un, .un, ⟨wk_un, wk_un⟩, rfl⟩ (fun i hi e hI => ?_) fun e hI => ?_
  · obtain ⟨s4, s5, ⟨k4, k5⟩, rfl⟩ := hI
    have hk := hall _ (List.getElem_mem hi)
    simp_arith [wrK_wk k4, call0_of h2 rfl]
    refine ⟨⟨C, ks[i], lot⟩, rfl, ⟨hC, hk, hlot⟩, fun l hl => ?_⟩
    have e0 : dGet (dm fr l) (.int 0) = some (fr (comeV C ks[i] lot 0)) := by
      show dGet (dm fr l) (.int ((0 : Nat) : Int)) = _
      rw [dGet_dm, hl 0 l0]; rfl
    simp_arith
    refine ⟨_, e0, ?_⟩
    simp_arith [wrK_wk k5]
    rw [bestF_succ hi]
    cases hb : bestF up (fun k => comeV C k lot 0) (ks.take i) with
    | none =>
      simp only [show isNon (boD none) = true from rfl, if_true]
      exact ⟨_, _, ⟨wk_sh, wk_sh⟩, rfl⟩
    | some x =>
      obtain ⟨m1, m2⟩ := bestF_mem i (by omega) _ hb
      simp only [show isNon (boD (some x)) = false from rfl, Bool.false_eq_true, if_false]
      simp_arith [boD, call0_of h3 rfl, eBet]
      obtain ⟨D1, a1, a2, a3⟩ := comeV_ok hC hk (lot := lot) l0
      obtain ⟨D2, b1, b2, b3⟩ := comeV_ok hC (hall _ m1) (lot := lot) l0
      rw [← m2] at b3
      refine ⟨⟨comeV C ks[i] lot 0, x.1, up, D1 * D2⟩, rfl, ⟨Nat.mul_pos a2 b2, ?_, a3.mono (Nat.dvd_mul_right _ _), b3.mono (Nat.dvd_mul_left _ _)⟩, ?_⟩
      · have := (small_le a1).mul (small_le b1)
        rw [← Int.natCast_mul] at this
        exact this.mono (by decide)
      · show (if bet up (comeV C ks[i] lot 0) x.1 = true then _ else _ : Prop)
        unfold bstep
        simp only
        split
        · simp_arith
          exact ⟨_, _, ⟨wk_sh, wk_sh⟩, rfl⟩
        · exact ⟨_, _, ⟨wk_sh, wk_sh⟩, rfl⟩
  · obtain ⟨s4, s5, ⟨k4, k5⟩, rfl⟩ := hI
    rw [List.take_length]
    simp_arith
    exact hL
/-! ### the greatest of each place -/
def gstep (C : Chooser) (lot : List Nat) (acc : Nat → Rat) (k : List Nat) : Nat → Rat := fun s => if acc s < comeV C k lot s then comeV C k lot s else acc s
def gvF (C : Chooser) (lot : List Nat) (ks : List (List Nat)) : Nat → Rat := ks.foldl (gstep C lot) fun _ => 0
theorem gvF_succ {C : Chooser} {lot : List Nat} {ks : List (List Nat)} {i : Nat} (h : i < ks.length) : gvF C lot (ks.take (i + 1)) = gstep C lot (gvF C lot (ks.take i)) ks[i] := by
  unfold gvF
  rw [List.take_succ_eq_append_getElem h, List.foldl_append]; rfl
theorem gvF_ok {C : Chooser} (hC : OkC C) {lot : List Nat} {ks : List (List Nat)} (hall : ∀ k ∈ ks, OkK C k) : ∀ i, i ≤ ks.length → ∀ s, s < C.length → ∃ D, D ≤ 2 ^ 1400 ∧ 0 < D ∧ Qok D (gvF C lot (ks.take i) s)
  | 0, _, s, _ => ⟨1, Nat.one_le_two_pow, by decide, Qok.zero⟩
  | i + 1, hi, s, hs => by
    rw [gvF_succ (by omega)]
    unfold gstep
    split
    · exact comeV_ok hC (hall _ (List.getElem_mem _)) hs
    · exact gvF_ok hC hall i (by omega) s hs
structure GvOk (p : BcIn) : Prop where
  C : OkC p.C
  lot : p.lot.length ≤ 1000
def grV (p : BcIn) : List Rat := (List.range p.C.length).map (gvF p.C p.lot (tps p.C p.C.length))
def eGv : Ent := fnE (fun p : BcIn => [chooserD (lowC p.C), lotD p.lot]) GvOk (fun p => .list ((grV p).map fr))
theorem small_fr {D : Nat} {q : Rat} (h1 : D ≤ 2 ^ 1400) (h2 : 0 < D) (h : Qok D q) : Small 1401 q.num ∧ Small 1401 (q.den : Int) := ⟨h.num h2 (small_le h1), h.den h2 (small_le h1)⟩
theorem fr_nd (q : Rat) : pr (nd q).1 (nd q).2 = fr q := rfl
theorem greatest_does {tb : Tab} (g : Gl tb) (h1 : tb.fn "all_deeds" = some eAllD) (h2 : tb.fn "coming_by" = some eCome) (h3 : tb.fn "is_less" = some eLess) : Does tb b_greatest_values N_greatest_values.length false eGv.R := by
  rintro ds L ⟨⟨C, lot, up⟩, rfl, ⟨hC, hlot⟩, hL⟩
  dsimp only at hC hlot hL
  have l0 := hC.l0
  have l1 := hC.l1
  have hLIM : LIM = 16777216 := rfl
  simp_arith [b_greatest_values, N_greatest_values, call0_of h1 rfl, eAllD, glob_of g.zero, chooserD]
  rw [List.length_map, lowC_len, Int.toNat_natCast, mul_rep]
  refine ⟨⟨by omega, by omega⟩, by decide, lowC C, rfl, low_okc hC, ?_⟩
  rw [lowC_len, tps_low]
  simp_arith [tupD]
  have hall : ∀ k ∈ tps C C.length, OkK C k := fun k hk => (tps_all k).mp hk
  have hbc : grV ⟨C, lot, up⟩ = (List.range C.length).map (gvF C lot (tps C C.length)) := rfl
  rw [hbc] at hL
  generalize tps C C.length = ks at *
  have er : List.replicate C.length (pr 0 1) = ((List.range C.length).map (gvF C lot (ks.take 0))).map fr := by
    rw [List.map_map]
    apply List.ext_getElem
    · simp
    · intro j h1 h2; simp [gvF, fr_zero]
  rw [er]
  refine for_list (fun i e => ∃ s3 s4, (Wk s3 ∧ Wk s4) ∧ e = [Sl.sh (chooserD (lowC C)), .sh (lotD lot), .sh (.list (((List.range C.length).map (gvF C lot (ks.take i))).map fr)), s3, s4, .un, .un]) ⟨.un, .un, ⟨wk_un, wk_un⟩, rfl⟩ (fun i hi e hI => ?_) fun e hI => ?_
  · obtain ⟨s4, s5, ⟨k4, k5⟩, rfl⟩ := hI
    have hk := hall _ (List.getElem_mem hi)
    simp_arith [wrK_wk k4, call0_of h2 rfl]
    refine ⟨⟨C, ks[i], lot⟩, rfl, ⟨hC, hk, hlot⟩, fun l hl => ?_⟩
    simp_arith [wrK_wk k5]
    have ee : enumL (((List.range C.length).map (gvF C lot (ks.take i))).map fr) = (List.range C.length).map fun s => .tuple [.int (s : Nat), fr (gvF C lot (ks.take i) s)] := by
      rw [enumL_map, List.length_map, List.length_range]
      apply List.map_congr_left
      intro s hs
      have hs := List.mem_range.mp hs
      rw [getD_map (by rw [List.length_map, List.length_range]; exact hs), List.getElem_map, List.getElem_range]
    rw [ee]
    refine ⟨by rw [List.length_map, List.length_range]; omega, lcK_list (fun s => fr (gvF C lot (ks.take (i + 1)) s)) (fun s hs => ?_) ?_⟩
    · have hs := List.mem_range.mp hs
      have e0 : dGet (dm fr l) (.int (s : Nat)) = some (fr (comeV C ks[i] lot s)) := by
        rw [dGet_dm, hl s hs]; rfl
      simp_arith [call0_of h3 rfl]
      refine ⟨_, e0, ?_⟩
      simp_arith [eLess]
      obtain ⟨D1, a1, a2, a3⟩ := comeV_ok hC hk (lot := lot) hs
      obtain ⟨D2, b1, b2, b3⟩ := gvF_ok hC hall (lot := lot) i (by omega) s hs
      obtain ⟨u1, u2⟩ := small_fr a1 a2 a3
      obtain ⟨u3, u4⟩ := small_fr b1 b2 b3
      refine ⟨⟨nd (gvF C lot (ks.take i) s), nd (comeV C ks[i] lot s)⟩, rfl, ⟨⟨Rat.den_pos _, Rat.den_pos _⟩, ⟨u3.mono (by decide), u4.mono (by decide)⟩, u1.mono (by decide), u2.mono (by decide)⟩, ?_⟩
      have n1 : ∀ q : Rat, mkRat (nd q).1 (nd q).2 = q := fun q => qv_nd q
      dsimp only
      rw [n1, n1, gvF_succ hi]
      unfold gstep
      by_cases q : gvF C lot (ks.take i) s < comeV C ks[i] lot s
      · rw [if_pos q, if_pos (by simpa using q)]
        exact ⟨_, e0, rfl⟩
      · rw [if_neg q, if_neg (by simpa using q)]
    · simp_arith
      rw [List.map_map]
      exact ⟨_, _, ⟨wk_sh, wk_sh⟩, rfl⟩
  · obtain ⟨s4, s5, ⟨k4, k5⟩, rfl⟩ := hI
    rw [List.take_length]
    simp_arith
    exact hL
end K82
end

section
set_option Elab.async false
set_option linter.all false
set_option maxRecDepth 100000
set_option maxHeartbeats 4000000
set_option exponentiation.threshold 10000
/-! K85g: is_ascending_lot, need_lot, greatest_come, least_come, come_paper; _law_mixed, _law_chooser, _law_lot. -/
namespace K82
open PySem PL KE
structure OkLot (n : Nat) (lot : List Nat) : Prop where
  lt : ∀ s ∈ lot, s < n
  asc : lot.Pairwise (· < ·)
  ne : lot ≠ []
theorem OkLot.len {n : Nat} {lot : List Nat} (h : OkLot n lot) : lot.length ≤ n := nodup_le (h.asc.imp fun h => Nat.ne_of_lt h) h.lt
structure AscIn where
  lot : List Nat
  n : Nat
def eAsc : Ent := fnE (fun p : AscIn => [lotD p.lot, .int (p.n : Nat)]) (fun p => OkLot p.n p.lot ∧ p.n ≤ 1000) (fun _ => .bool true)
theorem ascending_does {tb : Tab} (h1 : tb.fn "is_integer" = some eInt) : Does tb b_is_ascending_lot N_is_ascending_lot.length false eAsc.R := by
  rintro ds L ⟨⟨lot, n⟩, rfl, ⟨hl, hn⟩, hL⟩
  dsimp only at hl hn hL
  have l1 := hl.len
  have l0 := List.length_pos_iff.mpr hl.ne
  have hLIM : LIM = 16777216 := rfl
  simp_arith [b_is_ascending_lot, N_is_ascending_lot, call0_of h1 rfl, lotD, nats]
  refine ⟨by rw [List.length_map]; omega, lcK_list (fun _ => .bool true) (fun s hs => ?_) ?_⟩
  · have := hl.lt s hs
    simp_arith [call0_of h1 rfl, eInt]
    refine ⟨⟨(s : Int), some 0, some ((n : Int) - 1)⟩, rfl, ?_⟩
    have : (geO (s : Int) (some 0) && leO (s : Int) (some ((n : Int) - 1))) = true := by
      simp only [geO, leO, Bool.and_eq_true, decide_eq_true_eq]; omega
    rw [this]
  · refine ⟨_, allBools_map (fun _ => true) _, ?_⟩
    have : (lot.map fun _ => true).all id = true := by simp
    rw [this]
    simp_arith
    obtain ⟨m, hm⟩ : ∃ m, lot.length = m + 1 := ⟨lot.length - 1, by omega⟩
    have e : ((lot.map fun n : Nat => PyData.int (n : Nat)).length : Int) - 1 = (m : Nat) := by rw [List.length_map, hm]; omega
    rw [e, Int.toNat_natCast]
    refine ⟨⟨by omega, by omega⟩, by simp [rangeL]; omega, ?_⟩
    unfold rangeL
    refine lcK_list (fun _ => .bool true) (fun k hk => ?_) ?_
    · have hk := List.mem_range.mp hk
      simp_arith [Int.zero_add, Int.mul_one]
      refine ⟨_, atI_map (by omega), ?_⟩
      rw [show ((k : Int) + 1) = ((k + 1 : Nat) : Int) from rfl]
      refine ⟨_, atI_map (by omega), ?_⟩
      simp_arith
      have := List.pairwise_iff_getElem.mp hl.asc k (k + 1) (by omega) (by omega) (by omega)
      have : decide (((lot[k]'(by omega) : Nat) : Int) < ((lot[k + 1]'(by omega) : Nat) : Int)) = true := by simpa using this
      rw [this]
    · refine ⟨_, allBools_map (fun _ => true) _, ?_⟩
      have : ((List.range m).map fun _ => true).all id = true := by simp
      rw [this]
      exact hL
structure LotIn where
  C : Chooser
  lot : List Nat
structure LotOk (p : LotIn) : Prop where
  C : OkC p.C
  lot : OkLot p.C.length p.lot
theorem LotOk.l6 {p : LotIn} (h : LotOk p) : p.lot.length ≤ 6 := Nat.le_trans h.lot.len h.C.l1
def eNLot : Ent := fnE (fun p : LotIn => [chooserD p.C, lotD p.lot]) LotOk (fun p => chooserD (lowC p.C))
theorem needlot_does {tb : Tab} (h1 : tb.fn "need_chooser" = some eNeed) (h2 : tb.fn "is_ascending_lot" = some eAsc) : Does tb b_need_lot N_need_lot.length false eNLot.R := by
  rintro ds L ⟨⟨C, lot⟩, rfl, hp, hL⟩
  have hC := hp.C
  have hl := hp.lot
  dsimp only at hC hl hL
  have l1 := hC.l1
  simp_arith [b_need_lot, N_need_lot, call0_of h1 rfl, call0_of h2 rfl, eNeed, eAsc]
  refine ⟨C, rfl, hC, ?_⟩
  simp_arith [chooserD]
  rw [List.length_map, lowC_len]
  refine ⟨⟨lot, C.length⟩, rfl, ⟨hl, by show C.length ≤ 1000; omega⟩, ?_⟩
  simp_arith [lotD, nats, C_eqT]
  refine ⟨shp_shaped (shp_lot lot) (by decide), by decide +kernel, ?_⟩
  rw [eqv_nilT]
  have : lot.isEmpty = false := by
    have := hl.ne
    cases lot with
    | nil => exact absurd rfl this
    | cons a l => rfl
  rw [this]
  exact hL
def bcOf (up : Bool) (p : LotIn) : Option (Rat × List Nat) := bestC ⟨p.C, p.lot, up⟩
def eGc (up : Bool) : Ent := fnEk [(["lot", "chooser"], [1, 0])] (fun p : LotIn => [chooserD p.C, lotD p.lot]) LotOk (fun p => boD (bcOf up p))
theorem gcome_does {tb : Tab} (h1 : tb.fn "best_coming" = some eBc) (h2 : tb.fn "need_lot" = some eNLot) : Does tb b_greatest_come N_greatest_come.length false (eGc true).R := by
  rintro ds L ⟨p, rfl, hp, hL⟩
  simp_arith [b_greatest_come, N_greatest_come, call0_of h1 rfl, call0_of h2 rfl, eNLot, eBc]
  refine ⟨p, rfl, hp, ?_⟩
  exact ⟨⟨p.C, p.lot, true⟩, rfl, ⟨hp.C, by have := hp.l6; show p.lot.length ≤ 1000; omega⟩, hL⟩
theorem lcome_does {tb : Tab} (h1 : tb.fn "best_coming" = some eBc) (h2 : tb.fn "need_lot" = some eNLot) : Does tb b_least_come N_least_come.length false (eGc false).R := by
  rintro ds L ⟨p, rfl, hp, hL⟩
  simp_arith [b_least_come, N_least_come, call0_of h1 rfl, call0_of h2 rfl, eNLot, eBc]
  refine ⟨p, rfl, hp, ?_⟩
  exact ⟨⟨p.C, p.lot, false⟩, rfl, ⟨hp.C, by have := hp.l6; show p.lot.length ≤ 1000; omega⟩, hL⟩
def ePap : Ent := fnEk [(["lot", "chooser"], [1, 0])] (fun p : LotIn => [chooserD p.C, lotD p.lot]) LotOk (fun p => .tuple ((grV ⟨p.C, p.lot, true⟩).map fr))
theorem paper_does {tb : Tab} (h1 : tb.fn "greatest_values" = some eGv) (h2 : tb.fn "need_lot" = some eNLot) : Does tb b_come_paper N_come_paper.length false ePap.R := by
  rintro ds L ⟨p, rfl, hp, hL⟩
  simp_arith [b_come_paper, N_come_paper, call0_of h1 rfl, call0_of h2 rfl, eNLot, eGv]
  refine ⟨p, rfl, hp, ?_⟩
  exact ⟨⟨p.C, p.lot, true⟩, rfl, ⟨hp.C, by have := hp.l6; show p.lot.length ≤ 1000; omega⟩, hL⟩
/-! ### the law's draws -/
structure MixIn where
  m : Nat
  w : PyData
  xs : List PyData
structure MixOk (p : MixIn) : Prop where
  w : OkWl p.m p.w
  m : p.m + 1000 < MM
  l : p.xs.length ≤ 1000
def eMix : Ent := ⟨fun ds L => ∃ p : MixIn, ds = [p.w, .list p.xs] ∧ MixOk p ∧ ∀ ys w', (∀ y ∈ ys, y ∈ p.xs) → ys.length ≤ 1000 → OkWl (p.m + 1000) w' → L (.sh (.list ys)) w', true, 0, [], fun h ⟨p, e, ok, g⟩ => ⟨p, e, ok, fun ys w' h1 h2 h3 => h _ _ (g ys w' h1 h2 h3)⟩⟩
theorem mixed_does {tb : Tab} (h1 : tb.fn "_law_dip" = some eDip) : Does tb b_law_mixed N_law_mixed.length true eMix.R := by
  rintro ds L ⟨⟨m, w, xs⟩, rfl, ⟨hw, hm, hl⟩, hL⟩
  dsimp only at hw hm hl hL
  have hMM : MM = 2 ^ 40 := rfl
  have hLIM : LIM = 16777216 := rfl
  simp_arith [b_law_mixed, N_law_mixed]
  rw [Int.toNat_natCast]
  refine ⟨⟨by omega, by omega⟩, ?_⟩
  unfold rangeL
  refine for_list (fun i e => ∃ wl ls ys s4, Wk s4 ∧ OkWl (m + i) wl ∧ ls.length + i = xs.length ∧ ys.length = i ∧ (∀ y ∈ ls, y ∈ xs) ∧ (∀ y ∈ ys, y ∈ xs) ∧ e = [Sl.io wl, .sh (.list xs), .ow (.list ls), .ow (.list ys), s4]) ⟨w, xs, [], .un, wk_un, hw, rfl, rfl, fun _ h => h, fun _ h => (by cases h), rfl⟩ (fun i hi e hI => ?_) fun e hI => ?_
  · obtain ⟨wl, ls, ys, s4, k4, hwl, hls, hys, m1, m2, rfl⟩ := hI
    rw [List.length_range] at hi
    simp_arith [wrK_wk k4, callW_of h1 rfl]
    refine dip_at hwl (by omega) (by omega) (by omega) fun r hr w1 hw1 => ?_
    simp_arith
    refine ⟨r, ls[r], ixN_nat hr, List.getElem?_eq_getElem hr, ?_⟩
    refine ⟨by omega, w1, ls.eraseIdx r, ys ++ [ls[r]], _, wk_sh, hw1, ?_, ?_, fun y hy => m1 y (List.mem_of_mem_eraseIdx hy), fun y hy => ?_, rfl⟩
    · rw [List.length_eraseIdx, if_pos hr]; omega
    · rw [List.length_append, hys]; rfl
    · rcases List.mem_append.mp hy with hy | hy
      · exact m2 y hy
      · rw [List.mem_singleton] at hy; rw [hy]; exact m1 _ (List.getElem_mem _)
  · obtain ⟨wl, ls, ys, s4, k4, hwl, hls, hys, m1, m2, rfl⟩ := hI
    rw [List.length_range] at hwl hys
    simp_arith
    exact ⟨wl, rfl, hL ys wl m2 (by omega) (hwl.mono (by omega))⟩
structure Chs2In where
  m : Nat
  w : PyData
  k : Nat
  cap : Nat
structure Chs2Ok (p : Chs2In) : Prop where
  w : OkWl p.m p.w
  m : p.m + 4000 < MM
  k0 : 0 < p.k
  k6 : p.k ≤ 6
def eChs2 : Ent := ⟨fun ds L => ∃ p : Chs2In, ds = [p.w, .int (p.k : Nat), .int (p.cap : Nat)] ∧ Chs2Ok p ∧ ∀ C w', UniC C → OkWl (p.m + 4000) w' → L (.sh (chooserD C)) w', true, 0, [], fun h ⟨p, e, ok, g⟩ => ⟨p, e, ok, fun d w' h1 h2 => h _ _ (g d w' h1 h2)⟩⟩
theorem lchooser_does {tb : Tab} (h1 : tb.fn "_law_one" = some eOne) (h2 : tb.fn "_law_dip" = some eDip) (h3 : tb.fn "_law_moves" = some eMvs) (h4 : tb.fn "_law_doubled" = some eDbl) : Does tb b_law_chooser N_law_chooser.length true eChs2.R := by
  rintro ds L ⟨⟨m, w, k, cap⟩, rfl, ⟨hw, hm, k0, k6⟩, hL⟩
  dsimp only at hw hm k0 k6 hL
  have hMM : MM = 2 ^ 40 := rfl
  have eLIM : LIM = 16777216 := rfl
  simp_arith [b_law_chooser, N_law_chooser, callW_of h1 rfl, callW_of h2 rfl]
  refine dip_at hw (by omega) k0 (by omega) fun r hr w1 hw1 => ?_
  simp_arith
  refine dip_at (k := 12) hw1 (by omega) (by decide) (by decide) fun r2 hr2 w2 hw2 => ?_
  simp_arith
  have en : (1 : Int) + (r : Nat) = ((1 + r : Nat) : Int) := by omega
  rw [en]
  have hn : 0 < 1 + r ∧ 1 + r ≤ 6 := by omega
  generalize 1 + r = n at *
  generalize decide ((r2 : Int) = 0) = g at *
  refine ⟨⟨by omega, by omega⟩, ?_⟩
  rw [Int.toNat_natCast]
  unfold rangeL
  refine for_list (fun i e => ∃ wl C s7 s8 s9 s10, ∃ t : Nat, (Wk s7 ∧ Wk s8 ∧ Wk s9 ∧ Wk s10) ∧ OkWl (m + 2 + 400 * i) wl ∧ C.length = i ∧ t ≤ 3 ^ i ∧ (∀ ds ∈ C, (1 ≤ ds.length ∧ ds.length ≤ 3) ∧ ∀ d ∈ ds, Uni n d) ∧ e = [Sl.io wl, .sh (.int (k : Nat)), .sh (.int (cap : Nat)), .sh (.int (n : Nat)), .sh (.bool g), .ow (.list (C.map choiceD)), .sh (.int (t : Nat)), s7, s8, s9, s10])
    ⟨w2, [], .un, .un, .un, .un, 1, ⟨wk_un, wk_un, wk_un, wk_un⟩, hw2, rfl, by decide, fun _ h => (by cases h), rfl⟩ (fun i hi e hI => ?_) fun e hI => ?_
  · obtain ⟨wl, C, s7, s8, s9, s10, t, ⟨k7, k8, k9, k10⟩, hwl, hCl, ht, hC, rfl⟩ := hI
    rw [List.length_range] at hi
    rw [List.getElem_range]
    have p6 : 3 ^ i ≤ 3 ^ 6 := Nat.pow_le_pow_right (by decide) (by omega)
    have p7 : (3 : Nat) ^ 6 = 729 := rfl
    simp_arith [wrK_wk k7, wrK_wk k8, callW_of h3 rfl]
    refine moves_at hwl (by omega) hn.1 hn.2 fun d0 hd0 w3 hw3 => ?_
    simp_arith [wrK_wk k7, wrK_wk k8, callW_of h1 rfl]
    refine one_at (ns := [0, 1, 1, 2, 2]) hw3 (by omega) (by decide) (by decide) fun v hv w4 hw4 => ?_
    have hv : v ≤ 2 := by
      simp only [List.mem_cons, List.not_mem_nil, or_false] at hv
      omega
    simp_arith
    refine ⟨⟨by omega, by omega⟩, ?_⟩
    rw [Int.toNat_natCast]
    unfold rangeL
    refine for_list (fun j e => ∃ wl ds s9 s10, (Wk s9 ∧ Wk s10) ∧ OkWl (m + 2 + 400 * i + 101 + 101 * j) wl ∧ ds.length ≤ j ∧ (∀ d ∈ ds, Uni n d) ∧ e = [Sl.io wl, .sh (.int (k : Nat)), .sh (.int (cap : Nat)), .sh (.int (n : Nat)), .sh (.bool g), .ow (.list (C.map choiceD)), .sh (.int (t : Nat)), .sh (.int (0 + (i : Nat) * 1)), .ow (.list ((d0 :: ds).map deedD)), s9, s10])
      ⟨w4, [], s9, s10, ⟨k9, k10⟩, hw4, Nat.le_refl _, fun _ h => (by cases h), rfl⟩ (fun j hj e hI => ?_) fun e hI => ?_
    · obtain ⟨wl, ds, s9, s10, ⟨k9, k10⟩, hwl, hdl, hds, rfl⟩ := hI
      rw [List.length_range] at hj
      rw [List.getElem_range]
      simp_arith [wrK_wk k9, wrK_wk k10, callW_of h3 rfl]
      refine moves_at hwl (by omega) hn.1 hn.2 fun f hf w5 hw5 => ?_
      simp_arith [wrK_wk k9, wrK_wk k10]
      rw [List.length_map]
      have mo : PL.MulOk (t : Int) (((ds.length + 1 : Nat) : Int) + 1) := mulOk (n := 20) (by unfold Small; rw [Int.natAbs_natCast]; omega) (by unfold Small; omega) (by decide) (by decide)
      refine ⟨mo, ?_⟩
      split
      · simp_arith [callW_of h1 rfl, call0_of h4 rfl]
        refine ⟨deedD d0, at_c0, deedD d0, at_c0, ?_⟩
        have hd0' : d0.length ≤ LIM ∧ ∀ m ∈ d0, OkPa m.p := by
          obtain ⟨W, hW, _⟩ := hd0
          exact ⟨Nat.le_trans hW.len (by decide), fun m hm => (hW.mv m hm).2.2.1⟩
        refine ⟨d0, rfl, hd0', ?_⟩
        simp_arith
        refine one_of (xs := [f, f, f, d0, dbl d0]) hw5 (by omega) (by simp) (by simp) fun v' hv' w6 hw6 => ?_
        have hvU : Uni n v' := by
          simp only [List.mem_cons, List.not_mem_nil, or_false] at hv'
          rcases hv' with rfl | rfl | rfl | rfl | rfl
          · exact hf
          · exact hf
          · exact hf
          · exact hd0
          · exact dbl_uni hd0
        simp_arith
        refine ⟨by rw [List.length_map]; omega, w6, ds ++ [v'], _, _, ⟨wk_sh, wk_sh⟩, hw6, by rw [List.length_append, List.length_singleton]; omega, fun d hd => ?_, by rw [List.map_append]; rfl⟩
        rcases List.mem_append.mp hd with hd | hd
        · exact hds d hd
        · rw [List.mem_singleton] at hd; rw [hd]; exact hvU
      · exact ⟨w5, ds, _, _, ⟨wk_sh, wk_sh⟩, hw5.mono (by omega), by omega, hds, rfl⟩
    · obtain ⟨wl, ds, s9, s10, ⟨k9, k10⟩, hwl, hdl, hds, rfl⟩ := hI
      rw [List.length_range] at hdl hwl
      simp_arith
      rw [List.length_map, List.length_map]
      have mo : PL.MulOk (t : Int) ((ds.length + 1 : Nat) : Int) := mulOk (n := 20) (by unfold Small; rw [Int.natAbs_natCast]; omega) (by unfold Small; omega) (by decide) (by decide)
      refine ⟨by omega, mo, wl, C ++ [d0 :: ds], _, _, _, _, t * (ds.length + 1), ⟨wk_sh, wk_sh, k9, k10⟩, hwl.mono (by omega), by rw [List.length_append, hCl]; rfl, ?_, fun ds' hd => ?_, by rw [List.map_append]; rfl⟩
      · rw [Nat.pow_succ]; exact Nat.mul_le_mul ht (by omega)
      rcases List.mem_append.mp hd with hd | hd
      · exact hC ds' hd
      · rw [List.mem_singleton] at hd
        subst hd
        refine ⟨by rw [List.length_cons]; omega, fun d hd => ?_⟩
        rcases List.mem_cons.mp hd with rfl | hd
        · exact hd0
        · exact hds d hd
  · obtain ⟨wl, C, s7, s8, s9, s10, t, _, hwl, hCl, _, hC, rfl⟩ := hI
    rw [List.length_range] at hCl hwl
    simp_arith
    exact ⟨wl, rfl, hL C wl ⟨by omega, by omega, by rw [hCl]; exact hC⟩ (hwl.mono (by omega))⟩
structure LlIn where
  m : Nat
  w : PyData
  n : Nat
structure LlOk (p : LlIn) : Prop where
  w : OkWl p.m p.w
  m : p.m + 100 < MM
  n0 : 0 < p.n
  n6 : p.n ≤ 6
def eLl : Ent := ⟨fun ds L => ∃ p : LlIn, ds = [p.w, .int (p.n : Nat)] ∧ LlOk p ∧ ∀ lot w', OkLot p.n lot → OkWl (p.m + 100) w' → L (.sh (lotD lot)) w', true, 0, [], fun h ⟨p, e, ok, g⟩ => ⟨p, e, ok, fun d w' h1 h2 => h _ _ (g d w' h1 h2)⟩⟩
theorem llot_does {tb : Tab} (h1 : tb.fn "_law_one" = some eOne) (h2 : tb.fn "_law_dip" = some eDip) : Does tb b_law_lot N_law_lot.length true eLl.R := by
  rintro ds L ⟨⟨m, w, n⟩, rfl, ⟨hw, hm, n0, n6⟩, hL⟩
  dsimp only at hw hm n0 n6 hL
  have hMM : MM = 2 ^ 40 := rfl
  have eLIM : LIM = 16777216 := rfl
  simp_arith [b_law_lot, N_law_lot, callW_of h1 rfl]
  refine one_at (ns := [2, 2, 3, 6]) hw (by omega) (by decide) (by decide) fun v hv w1 hw1 => ?_
  have hv : 2 ≤ v ∧ v ≤ 6 := by
    simp only [List.mem_cons, List.not_mem_nil, or_false] at hv
    omega
  simp_arith
  rw [Int.toNat_natCast]
  refine ⟨⟨by omega, by omega⟩, by simp [rangeL]; omega, ?_⟩
  refine lcK_inv (fun i e acc => ∃ wl s4, ∃ lot : List Nat, Wk s4 ∧ OkWl (m + 1 + i) wl ∧ (∀ s ∈ lot, s < i) ∧ lot.Pairwise (· < ·) ∧ acc = nats lot ∧ e = [Sl.io wl, .sh (.int (n : Nat)), .sh (.int (v : Nat)), .un, s4]) ⟨w1, .un, [], wk_un, hw1, fun _ h => (by cases h), .nil, rfl, rfl⟩ (fun i x e acc hx hI => ?_) fun e acc hI => ?_
  · obtain ⟨wl, s4, lot, k4, hwl, hlt, hasc, rfl, rfl⟩ := hI
    unfold rangeL at hx
    rw [List.getElem?_map] at hx
    obtain ⟨y, hy, rfl⟩ := Option.map_eq_some_iff.mp hx
    obtain ⟨hi, rfl⟩ := List.getElem?_eq_some_iff.mp hy
    rw [List.length_range] at hi
    rw [List.getElem_range]
    simp_arith [Int.zero_add, Int.mul_one, wrK_wk k4, callW_of h2 rfl]
    refine dip_at hwl (by omega) (by omega) (by omega) fun r hr w2 hw2 => ?_
    simp_arith
    by_cases q : r = 0
    · rw [if_pos (by omega)]
      refine ⟨w2, _, lot ++ [i], wk_sh, hw2, fun s hs => ?_, ?_, by rw [nats_app], rfl⟩
      · rcases List.mem_append.mp hs with hs | hs
        · have := hlt s hs; omega
        · rw [List.mem_singleton] at hs; omega
      · refine List.pairwise_append.mpr ⟨hasc, by simp, fun a ha b hb => ?_⟩
        rw [List.mem_singleton] at hb
        have := hlt a ha
        omega
    · rw [if_neg (by omega)]
      exact ⟨w2, _, lot, wk_sh, hw2, fun s hs => Nat.lt_succ_of_lt (hlt s hs), hasc, rfl, rfl⟩
  · obtain ⟨wl, s4, lot, k4, hwl, hlt, hasc, rfl, rfl⟩ := hI
    have el : (rangeL 0 1 n).length = n := by simp [rangeL]
    rw [el] at hwl hlt
    have eb : backE [Sl.io w1, .sh (.int (n : Nat)), .sh (.int (v : Nat)), .un, .un] [Sl.io wl, .sh (.int (n : Nat)), .sh (.int (v : Nat)), .un, s4] [4] = [Sl.io wl, .sh (.int (n : Nat)), .sh (.int (v : Nat)), .un, .un] := rfl
    rw [eb]
    simp_arith [C_neL, nats, callW_of h2 rfl]
    have sn : Shp 2 (.list (nats lot)) := shp_list fun d hd => by
      obtain ⟨a, _, rfl⟩ := List.mem_map.mp hd
      exact shp_int (by decide)
    refine ⟨shp_shaped sn (by decide), by decide +kernel, ?_⟩
    rw [eqv_nil]
    by_cases q : lot = []
    · subst q
      rw [if_neg (by simp)]
      refine dip_at hwl (by omega) n0 (by omega) fun r hr w2 hw2 => ?_
      simp_arith
      exact ⟨w2, rfl, hL [r] w2 ⟨by simpa using hr, by simp, by simp⟩ (hw2.mono (by omega))⟩
    · rw [if_pos (by cases lot with | nil => exact absurd rfl q | cons a l => rfl)]
      exact ⟨wl, rfl, hL lot wl ⟨hlt, hasc, q⟩ (hwl.mono (by omega))⟩
end K82
end

section
set_option Elab.async false
set_option linter.all false
set_option maxRecDepth 100000
set_option maxHeartbeats 4000000
set_option exponentiation.threshold 10000
/-! K85h: _law_least. -/
namespace K82
open PySem PL KE
/-- a row as a dict -/
structure RowOf (n : Nat) (a : Nat → Rat) (l : List (Nat × Rat)) : Prop where
  nd : (l.map (·.1)).Nodup
  lt : ∀ k ∈ l.map (·.1), k < n
  at_ : ∀ t, t < n → (look l t).getD 0 = a t
theorem RowOf.len {n : Nat} {a : Nat → Rat} {l : List (Nat × Rat)} (h : RowOf n a l) : l.length ≤ n := by
  have := nodup_le h.nd h.lt
  rwa [List.length_map] at this
theorem RowOf.put {n : Nat} {a : Nat → Rat} {l : List (Nat × Rat)} (h : RowOf n a l) {e : Nat} (he : e < n) (v : Rat) : RowOf n (fun t => if t = e then v else a t) (put l e v) where
  nd := put_nodup h.nd e v
  lt k hk := by
    rw [put_keys] at hk
    split at hk
    · exact h.lt k hk
    · rw [List.mem_append, List.mem_singleton] at hk
      rcases hk with hk | rfl
      · exact h.lt k hk
      · exact he
  at_ t ht := by
    rw [look_put]
    by_cases q : t = e
    · rw [if_pos q]; simp [q]
    · rw [if_neg q, h.at_ t ht]; simp [q]
theorem RowOf.nil (n : Nat) : RowOf n (fun _ => 0) [] := ⟨by simp, by simp, fun t _ => rfl⟩
theorem RowOf.congr {n : Nat} {a a' : Nat → Rat} {l : List (Nat × Rat)} (h : RowOf n a l) (e : ∀ t, t < n → a t = a' t) : RowOf n a' l := ⟨h.nd, h.lt, fun t ht => (h.at_ t ht).trans (e t ht)⟩
theorem RowOf.out {n : Nat} {a : Nat → Rat} {l : List (Nat × Rat)} (h : RowOf n a l) {t : Nat} (ht : t < n) (hm : t ∉ l.map (·.1)) : a t = 0 := by
  rw [← h.at_ t ht, look_none.mpr hm]; rfl
theorem RowOf.get {n : Nat} {a : Nat → Rat} {l : List (Nat × Rat)} (h : RowOf n a l) {k : Nat} (hk : k ∈ l.map (·.1)) : dGet (dm fr l) (.int (k : Nat)) = some (fr (a k)) := by
  have hn := h.at_ k (h.lt k hk)
  rw [dGet_dm]
  cases e : look l k with
  | none => exact absurd hk (look_none.mp e)
  | some v =>
    rw [e] at hn
    have hn : v = a k := hn
    rw [hn]; rfl
theorem getD_fr (o : Option Rat) : (o.map fr).getD (pr 0 1) = fr (o.getD 0) := by
  cases o <;> rfl
theorem RowOf.getD {n : Nat} {a : Nat → Rat} {l : List (Nat × Rat)} (h : RowOf n a l) {t : Nat} (ht : t < n) : (dGet (dm fr l) (.int (t : Nat))).getD (pr 0 1) = fr (a t) := by
  rw [dGet_dm, getD_fr, h.at_ t ht]
theorem mem_take_succ {ks : List Nat} {j t : Nat} (hj : j < ks.length) : t ∈ ks.take (j + 1) ↔ t ∈ ks.take j ∨ t = ks[j] := by
  rw [List.take_succ_eq_append_getElem hj, List.mem_append, List.mem_singleton]
/-- rows as a dict of pairs -/
def rwD (x : List (Nat × Rat) × Rat) : PyData := .list [.dict (dm fr x.1), fr x.2]
structure RowsI (n m : Nat) (S : Sy) (R : List (Nat × (List (Nat × Rat) × Rat))) : Prop where
  nd : (R.map (·.1)).Nodup
  lt : ∀ k ∈ R.map (·.1), k < n
  at_ : ∀ s, s < m → ∃ l, look R s = some (l, S.b s) ∧ RowOf n (S.A s) l
theorem RowsI.len {n m : Nat} {S : Sy} {R : List (Nat × (List (Nat × Rat) × Rat))} (h : RowsI n m S R) : R.length ≤ n := by
  have := nodup_le h.nd h.lt
  rwa [List.length_map] at this
theorem RowsI.get {n m : Nat} {S : Sy} {R : List (Nat × (List (Nat × Rat) × Rat))} (h : RowsI n m S R) {s : Nat} (hs : s < m) : ∃ l, dGet (dm rwD R) (.int (s : Nat)) = some (.list [.dict (dm fr l), fr (S.b s)]) ∧ RowOf n (S.A s) l := by
  obtain ⟨l, h1, h2⟩ := h.at_ s hs
  exact ⟨l, by rw [dGet_dm, h1]; rfl, h2⟩
theorem RowsI.put {n m m' : Nat} {S S' : Sy} {R : List (Nat × (List (Nat × Rat) × Rat))} (h : RowsI n m S R) {s : Nat} (hs : s < n) (hm : ∀ t, t < m' → t ≠ s → t < m) (hA : ∀ t, t < m' → t ≠ s → (∀ u, u < n → S.A t u = S'.A t u) ∧ S.b t = S'.b t) {l : List (Nat × Rat)} (hl : RowOf n (S'.A s) l) : RowsI n m' S' (put R s (l, S'.b s)) where
  nd := put_nodup h.nd s _
  lt k hk := by
    rw [put_keys] at hk
    split at hk
    · exact h.lt k hk
    · rw [List.mem_append, List.mem_singleton] at hk
      rcases hk with hk | rfl
      · exact h.lt k hk
      · exact hs
  at_ t ht := by
    rw [look_put]
    by_cases q : t = s
    · subst q
      rw [if_pos rfl]
      exact ⟨l, rfl, hl⟩
    · rw [if_neg q]
      obtain ⟨l', h1, h2⟩ := h.at_ t (hm t ht q)
      obtain ⟨a1, a2⟩ := hA t ht q
      exact ⟨l', by rw [h1, a2], h2.congr a1⟩
theorem RowsI.congr {n m : Nat} {S S' : Sy} {R : List (Nat × (List (Nat × Rat) × Rat))} (h : RowsI n m S R) (hA : ∀ t, t < m → (∀ u, u < n → S.A t u = S'.A t u) ∧ S.b t = S'.b t) : RowsI n m S' R := ⟨h.nd, h.lt, fun t ht => by
  obtain ⟨l, h1, h2⟩ := h.at_ t ht
  obtain ⟨a1, a2⟩ := hA t ht
  exact ⟨l, by rw [h1, a2], h2.congr a1⟩⟩
theorem put_rw (R : List (Nat × (List (Nat × Rat) × Rat))) (s : Nat) (l : List (Nat × Rat)) (b : Rat) : dPut (dm rwD R) (.int (s : Nat)) (.list [.dict (dm fr l), fr b]) = dm rwD (put R s (l, b)) := dPut_dm (f := rwD) R s (l, b)
/-- a part of the whole with a bounded number below -/
def PB (q : Rat) : Prop := ∃ D, D ≤ 2 ^ 1400 ∧ 0 < D ∧ Qok D q
theorem PB.small {q : Rat} (h : PB q) : Small 1401 q.num ∧ Small 1401 (q.den : Int) := by
  obtain ⟨D, h1, h2, h3⟩ := h
  exact small_fr h1 h2 h3
theorem PB.mul {q r : Rat} (h : PB q) (h' : PB r) : Small 2802 (q * r).num ∧ Small 2802 ((q * r).den : Int) := by
  obtain ⟨D, h1, h2, h3, h4, h5⟩ := h
  obtain ⟨E, k1, k2, k3, k4, k5⟩ := h'
  have hq : Qok (D * E) (q * r) := by
    refine ⟨Rat.mul_nonneg h3 k3, ?_, ?_⟩
    · have := Rat.mul_le_mul_of_nonneg_left k4 h3
      grind
    · obtain ⟨a, ha⟩ := den_int h5
      obtain ⟨b, hb⟩ := den_int k5
      refine int_den (Nat.mul_pos h2 k2) (z := a * b) ?_
      rw [Rat.natCast_mul, Rat.intCast_mul, ← ha, ← hb]; grind
  have s := (small_le h1).mul (small_le k1)
  rw [← Int.natCast_mul] at s
  exact ⟨(hq.num (Nat.mul_pos h2 k2) s).mono (by decide), (hq.den (Nat.mul_pos h2 k2) s).mono (by decide)⟩
structure Stg (n : Nat) (S : Sy) : Prop where
  ok : Ok n S
  A : ∀ s t, s < n → t < n → PB (S.A s t)
  b : ∀ s, s < n → PB (S.b s)
  ra : ∀ p t, p < n → t < n → PB (ra S p t)
  rb : ∀ p, p < n → PB (rb S p)
theorem stg {p : LsIn} (h : LsOk p) {k : Nat} (hk : k ≤ p.n) : Stg p.n (el p.S k) := by
  have o := el_ok h.ok hk
  have d := el_dn h.ok (by decide) h.dn hk
  have le : (2 ^ 20) ^ 2 ^ k ≤ 2 ^ 1400 := pow64 (Nat.le_trans hk h.n)
  refine ⟨o, fun s t hs ht => ?_, fun s hs => ?_, fun q t hq ht => ?_, fun q hq => ?_⟩
  · obtain ⟨D, hD⟩ := d s hs
    exact ⟨D, Nat.le_trans hD.le le, hD.pos, o.nn s t hs ht, o.le hs ht, hD.A t ht⟩
  · obtain ⟨D, hD⟩ := d s hs
    exact ⟨D, Nat.le_trans hD.le le, hD.pos, o.bn s hs, o.ble hs, hD.b⟩
  · obtain ⟨D, d1, d2, d3, d4⟩ := (step_dn o (Nat.one_le_pow _ _ (by decide)) hq d).1
    have h1 := ra_row o hq
    have h2 := sm_one ht fun i hi => ra_nonneg o hq hi
    have h3 := rb_nonneg o hq
    exact ⟨D, Nat.le_trans d1 le, d2, ra_nonneg o hq ht, by grind, d3 t ht⟩
  · obtain ⟨D, d1, d2, d3, d4⟩ := (step_dn o (Nat.one_le_pow _ _ (by decide)) hq d).1
    have h1 := ra_row o hq
    have h2 := sm_nonneg fun i hi => ra_nonneg o hq hi
    exact ⟨D, Nat.le_trans d1 le, d2, rb_nonneg o hq, by grind, d4⟩
/-- the rows while place p is put into those ahead of o -/
def mix (S : Sy) (p o : Nat) : Sy := ⟨fun q => if q < o ∨ q = p then (step S p).A q else S.A q, fun q => if q < o ∨ q = p then (step S p).b q else S.b q⟩
theorem much_eq {s : Rat} (h : s < 1) : 0 < (s.den : Int) - s.num ∧ mkRat s.den ((s.den : Int) - s.num).toNat = 1 / (1 - s) := by
  have e := num_eq s
  have d0 : (0 : Rat) < (s.den : Rat) := by
    have := Rat.natCast_lt_natCast (a := 0) (b := s.den) |>.mpr s.den_pos
    exact this
  have h1 := Rat.mul_lt_mul_of_pos_right h d0
  rw [e, Rat.one_mul] at h1
  have h1 : (s.num : Rat) < ((s.den : Int) : Rat) := h1
  rw [Rat.intCast_lt_intCast] at h1
  refine ⟨by omega, ?_⟩
  have e2 : ((((s.den : Int) - s.num).toNat : Nat) : Rat) = (s.den : Rat) * (1 - s) := by
    have : (((((s.den : Int) - s.num).toNat : Nat) : Int) : Rat) = ((s.den : Int) : Rat) - (s.num : Rat) := by
      rw [Int.toNat_of_nonneg (by omega), Rat.intCast_sub]
    rw [Rat.intCast_natCast, Rat.intCast_natCast, ← e] at this
    rw [this]; grind
  rw [Rat.mkRat_eq_div, e2, Rat.intCast_natCast, Rat.div_def, Rat.div_def, Rat.one_mul]
  have n1 : (s.den : Rat) ≠ 0 := by grind
  have n2 : (1 : Rat) - s ≠ 0 := by grind
  have i1 := Rat.mul_inv_cancel _ n1
  have i2 := Rat.mul_inv_cancel _ n2
  have n3 : (s.den : Rat) * (1 - s) ≠ 0 := fun z => by
    rcases Rat.mul_eq_zero.mp z with z | z
    · exact n1 z
    · exact n2 z
  have i3 := Rat.mul_inv_cancel _ n3
  grind
end K82
end

section
set_option Elab.async false
set_option linter.all false
set_option maxRecDepth 100000
set_option maxHeartbeats 4000000
set_option exponentiation.threshold 10000
/-! K85i: _law_least, the walk. -/
namespace K82
open PySem PL KE
def eLLs : Ent := ⟨fun ds L => ∃ p : LsIn, ds = [natL (List.range p.n), tabD p.n p.ms, ratD p.n p.rs] ∧ LsOk p ∧ ∀ l : List (Nat × Rat), (∀ s, s < p.n → look l s = some (val p.n p.S s)) → L (.sh (.dict (dm fr l))) .none, false, 0, [], fun h ⟨p, e, ok, g⟩ => ⟨p, e, ok, fun l h1 => h _ _ (g l h1)⟩⟩
/-- the row of p without p, first j keys -/
def leanA (S : Sy) (p : Nat) (ks : List Nat) (j t : Nat) : Rat := if t ∈ ks.take j ∧ t ≠ p then (1 / (1 - S.A p p)) * S.A p t else 0
def wideA (S : Sy) (p o : Nat) (ks : List Nat) (j t : Nat) : Rat := if t ∈ ks.take j ∧ t ≠ p then S.A o t else 0
def wide2A (S : Sy) (p o : Nat) (ks : List Nat) (j t : Nat) : Rat := (if t = p then 0 else S.A o t) + if t ∈ ks.take j then S.A o p * ra S p t else 0
theorem lean_end {n : Nat} {S : Sy} {p : Nat} (h1 : S.A p p ≠ 1) {l : List (Nat × Rat)} (hl : RowOf n (S.A p) l) {t : Nat} (ht : t < n) : leanA S p (l.map (·.1)) (l.map (·.1)).length t = ra S p t := by
  unfold leanA ra
  rw [List.take_length, if_neg h1]
  by_cases e : t = p
  · rw [if_neg (fun z => z.2 e), if_pos e]
  · rw [if_neg e]
    by_cases m : t ∈ l.map (·.1)
    · rw [if_pos ⟨m, e⟩]
    · rw [if_neg (fun z => m z.1), hl.out ht m]; grind
theorem wide_end {n : Nat} {S : Sy} {p o : Nat} {l : List (Nat × Rat)} (hl : RowOf n (S.A o) l) {t : Nat} (ht : t < n) (ks : List Nat) : wideA S p o (l.map (·.1)) (l.map (·.1)).length t = wide2A S p o ks 0 t := by
  unfold wideA wide2A
  rw [List.take_length, List.take_zero]
  have : ¬ t ∈ ([] : List Nat) := by simp
  rw [if_neg this]
  by_cases e : t = p
  · rw [if_neg (fun z => z.2 e), if_pos e]; grind
  · rw [if_neg e]
    by_cases m : t ∈ l.map (·.1)
    · rw [if_pos ⟨m, e⟩]; grind
    · rw [if_neg (fun z => m z.1), hl.out ht m]; grind
theorem wide2_end {n : Nat} {S : Sy} {p o : Nat} (hne : o ≠ p) {l : List (Nat × Rat)} (hl : RowOf n (ra S p) l) {t : Nat} (ht : t < n) : wide2A S p o (l.map (·.1)) (l.map (·.1)).length t = (step S p).A o t := by
  show _ = if o = p then ra S p t else (if t = p then 0 else S.A o t) + S.A o p * ra S p t
  unfold wide2A
  rw [List.take_length, if_neg hne]
  by_cases m : t ∈ l.map (·.1)
  · rw [if_pos m]
  · rw [if_neg m, hl.out ht m]; grind
theorem mix_zero {n : Nat} {S : Sy} {p : Nat} {R : List (Nat × (List (Nat × Rat) × Rat))} (hR : RowsI n n S R) (hp : p < n) {l : List (Nat × Rat)} (hl : RowOf n (ra S p) l) : RowsI n n (mix S p 0) (put R p (l, rb S p)) := by
  have e : (mix S p 0).b p = rb S p := by
    show (if p < 0 ∨ p = p then (step S p).b p else S.b p) = rb S p
    rw [if_pos (.inr rfl)]
    show (if p = p then rb S p else _) = rb S p
    rw [if_pos rfl]
  have := hR.put (S' := mix S p 0) (m' := n) hp (fun t ht _ => ht) (fun t _ hne => ⟨fun u _ => ?_, ?_⟩) (l := l) (hl.congr fun t _ => ?_)
  · rwa [e] at this
  · show S.A t u = (if t < 0 ∨ t = p then (step S p).A t else S.A t) u
    rw [if_neg (fun z => z.elim (fun y => absurd y (Nat.not_lt_zero _)) hne)]
  · show S.b t = if t < 0 ∨ t = p then (step S p).b t else S.b t
    rw [if_neg (fun z => z.elim (fun y => absurd y (Nat.not_lt_zero _)) hne)]
  · show ra S p t = (if p < 0 ∨ p = p then (step S p).A p else S.A p) t
    rw [if_pos (.inr rfl)]
    show _ = if p = p then ra S p t else _
    rw [if_pos rfl]
theorem mix_keep {n o : Nat} {S : Sy} {p : Nat} {R : List (Nat × (List (Nat × Rat) × Rat))} (hR : RowsI n n (mix S p o) R) (h : o ≠ p → ∀ u, (S.A o u = (step S p).A o u ∧ S.b o = (step S p).b o)) : RowsI n n (mix S p (o + 1)) R := by
  refine hR.congr fun t ht => ?_
  by_cases e : t = o
  · subst e
    by_cases e2 : t = p
    · subst e2
      constructor
      · intro u _
        show (if t < t ∨ t = t then (step S t).A t else S.A t) u = (if t < t + 1 ∨ t = t then (step S t).A t else S.A t) u
        rw [if_pos (.inr rfl), if_pos (.inr rfl)]
      · show (if t < t ∨ t = t then (step S t).b t else S.b t) = (if t < t + 1 ∨ t = t then (step S t).b t else S.b t)
        rw [if_pos (.inr rfl), if_pos (.inr rfl)]
    · constructor
      · intro u _
        show (if t < t ∨ t = p then (step S p).A t else S.A t) u = (if t < t + 1 ∨ t = p then (step S p).A t else S.A t) u
        rw [if_neg (by omega), if_pos (by omega)]
        exact (h e2 u).1
      · show (if t < t ∨ t = p then (step S p).b t else S.b t) = (if t < t + 1 ∨ t = p then (step S p).b t else S.b t)
        rw [if_neg (by omega), if_pos (by omega)]
        exact (h e2 0).2
  · constructor
    · intro u _
      show (if t < o ∨ t = p then (step S p).A t else S.A t) u = (if t < o + 1 ∨ t = p then (step S p).A t else S.A t) u
      have : (t < o ∨ t = p) ↔ (t < o + 1 ∨ t = p) := by omega
      simp only [this]
    · show (if t < o ∨ t = p then (step S p).b t else S.b t) = (if t < o + 1 ∨ t = p then (step S p).b t else S.b t)
      have : (t < o ∨ t = p) ↔ (t < o + 1 ∨ t = p) := by omega
      simp only [this]
theorem mix_put {n o : Nat} {S : Sy} {p : Nat} (hne : o ≠ p) (ho : o < n) {R : List (Nat × (List (Nat × Rat) × Rat))} (hR : RowsI n n (mix S p o) R) {l : List (Nat × Rat)} (hl : RowOf n ((step S p).A o) l) : RowsI n n (mix S p (o + 1)) (put R o (l, (step S p).b o)) := by
  have e : (mix S p (o + 1)).b o = (step S p).b o := by
    show (if o < o + 1 ∨ o = p then (step S p).b o else S.b o) = _
    rw [if_pos (by omega)]
  have := hR.put (S' := mix S p (o + 1)) (m' := n) ho (fun t ht _ => ht) (fun t _ hne => ⟨fun u _ => ?_, ?_⟩) (l := l) (hl.congr fun t _ => ?_)
  · rwa [e] at this
  · show (if t < o ∨ t = p then (step S p).A t else S.A t) u = (if t < o + 1 ∨ t = p then (step S p).A t else S.A t) u
    have : (t < o ∨ t = p) ↔ (t < o + 1 ∨ t = p) := by omega
    simp only [this]
  · show (if t < o ∨ t = p then (step S p).b t else S.b t) = (if t < o + 1 ∨ t = p then (step S p).b t else S.b t)
    have : (t < o ∨ t = p) ↔ (t < o + 1 ∨ t = p) := by omega
    simp only [this]
  · show (step S p).A o t = (if o < o + 1 ∨ o = p then (step S p).A o else S.A o) t
    rw [if_pos (by omega)]
theorem mix_row {S : Sy} {p o : Nat} (hne : o ≠ p) : (mix S p o).A o = S.A o ∧ (mix S p o).b o = S.b o := by
  constructor
  · show (if o < o ∨ o = p then (step S p).A o else S.A o) = S.A o
    rw [if_neg (by omega)]
  · show (if o < o ∨ o = p then (step S p).b o else S.b o) = S.b o
    rw [if_neg (by omega)]
theorem mix_self (S : Sy) (p o : Nat) : (∀ t, (mix S p o).A p t = ra S p t) ∧ (mix S p o).b p = rb S p := by
  constructor
  · intro t
    show (if p < o ∨ p = p then (step S p).A p else S.A p) t = ra S p t
    rw [if_pos (.inr rfl)]
    show (if p = p then ra S p t else _) = _
    rw [if_pos rfl]
  · show (if p < o ∨ p = p then (step S p).b p else S.b p) = rb S p
    rw [if_pos (.inr rfl)]
    show (if p = p then rb S p else _) = _
    rw [if_pos rfl]
theorem mix_done {n : Nat} {S : Sy} {p : Nat} {R : List (Nat × (List (Nat × Rat) × Rat))} (hR : RowsI n n (mix S p n) R) : RowsI n n (step S p) R := by
  refine hR.congr fun t ht => ⟨fun u _ => ?_, ?_⟩
  · show (if t < n ∨ t = p then (step S p).A t else S.A t) u = _
    rw [if_pos (.inl ht)]
  · show (if t < n ∨ t = p then (step S p).b t else S.b t) = _
    rw [if_pos (.inl ht)]
theorem zero_keep {S : Sy} {p o : Nat} (h : S.A o p = 0) (hne : o ≠ p) (u : Nat) : S.A o u = (step S p).A o u ∧ S.b o = (step S p).b o := by
  constructor
  · show _ = if o = p then ra S p u else (if u = p then 0 else S.A o u) + S.A o p * ra S p u
    rw [if_neg hne, h]
    by_cases e : u = p
    · rw [if_pos e, e, h]; grind
    · rw [if_neg e]; grind
  · show _ = if o = p then rb S p else S.b o + S.A o p * rb S p
    rw [if_neg hne, h]; grind
theorem num_pos_iff {q : Rat} (h : 0 ≤ q) : (0 < q.num) ↔ q ≠ 0 := by
  have h0 := Rat.num_nonneg.mpr h
  constructor
  · intro a e; rw [e] at a; exact absurd a (by decide)
  · intro a
    have : q.num ≠ 0 := fun z => a (Rat.num_eq_zero.mp z)
    omega
theorem mkRat_small {a : Int} {b : Nat} {n : Nat} (hb : 0 < b) (ha : Small n a) (hb' : Small n (b : Int)) : Small n (mkRat a b).num ∧ Small n ((mkRat a b).den : Int) := by
  have hd := den_dvd (a := a) hb
  refine ⟨?_, small_dvd hb' hb hd⟩
  obtain ⟨k, hk⟩ := hd
  have e := num_eq (mkRat a b)
  have e2 : mkRat a b * (b : Rat) = (a : Rat) := by
    rw [Rat.mkRat_eq_div, Rat.div_def, Rat.mul_assoc, Rat.inv_mul_cancel _ (nat_ne hb), Rat.mul_one]
  have e3 : (mkRat a b).num * (k : Int) = a := by
    have : (((mkRat a b).num * (k : Int) : Int) : Rat) = (a : Rat) := by
      rw [Rat.intCast_mul, ← e, ← e2, Rat.intCast_natCast]
      have : (b : Rat) = ((mkRat a b).den : Rat) * (k : Rat) := by rw [← Rat.natCast_mul, ← hk]
      rw [this]; grind
    rwa [Rat.intCast_inj] at this
  have k0 : 0 < k := by
    rcases Nat.eq_zero_or_pos k with z | z
    · subst z; omega
    · exact z
  have e4 : a.natAbs = (mkRat a b).num.natAbs * k := by
    have := congrArg Int.natAbs e3
    rw [Int.natAbs_mul, Int.natAbs_natCast] at this
    exact this.symm
  refine ha.le ?_
  rw [e4]
  exact Nat.le_mul_of_pos_right _ k0
end K82
end

section
set_option Elab.async false
set_option linter.all false
set_option maxRecDepth 100000
set_option maxHeartbeats 1000000
set_option exponentiation.threshold 10000
/-! K85j: _law_least, the walk. -/
namespace K82
open PySem PL KE
/-- what stands behind the row of the place; a turn for a place -/
def bd_llr : S := match b_law_least with
  | .seq _ (.seq _ (.seq (.for_ _ _ (.seq _ (.seq _ (.seq _ s)))) _)) => s
  | _ => .skip
def bd_llt : S := match b_law_least with
  | .seq _ (.seq _ (.seq (.for_ _ _ s) _)) => s
  | _ => .skip
theorem ll_rest {tb : Tab} (h1 : tb.fn "_law_plus" = some ePlus) (h3 : tb.fn "_law_times" = some eTimes) {p : LsIn} (hn : p.n ≤ 6) {S : Sy} (sg : Stg p.n S) {i : Nat} (hi : i < p.n) : ∀ R' s5 s6 s7 s8 s9 s10 s11 s12 s13, (Wk s5 ∧ Wk s6 ∧ Wk s7 ∧ Wk s8 ∧ Wk s9 ∧ Wk s10 ∧ Wk s11 ∧ Wk s12 ∧ Wk s13) → RowsI p.n p.n (mix S i 0) R' → wpS tb bd_llr [Sl.sh (natL (List.range p.n)), .sh (tabD p.n p.ms), .sh (ratD p.n p.rs), .ow (.dict (dm rwD R')), .sh (.int (i : Nat)), s5, s6, s7, s8, s9, s10, s11, s12, s13, .un] fun o => match o with
    | .nx e => ∃ R s4 s5 s6 s7 s8 s9 s10 s11 s12 s13, (Wk s4 ∧ Wk s5 ∧ Wk s6 ∧ Wk s7 ∧ Wk s8 ∧ Wk s9 ∧ Wk s10 ∧ Wk s11 ∧ Wk s12 ∧ Wk s13) ∧ RowsI p.n p.n (step S i) R ∧ e = [Sl.sh (natL (List.range p.n)), .sh (tabD p.n p.ms), .sh (ratD p.n p.rs), .ow (.dict (dm rwD R)), s4, s5, s6, s7, s8, s9, s10, s11, s12, s13, .un]
    | _ => False := by
  have hLIM : LIM = 16777216 := rfl
  have n1 : ∀ q : Rat, mkRat (nd q).1 (nd q).2 = q := fun q => qv_nd q
  have p01 : (PyData.tuple [.int 0, .int 1]) = pr 0 1 := rfl
  have p11 : (PyData.tuple [.int 1, .int 1]) = pr 1 1 := rfl
  have dl : ∀ l : List (Nat × Rat), (dm fr l).length = l.length := fun l => by simp [dm]
  have dlR : ∀ R : List (Nat × (List (Nat × Rat) × Rat)), (dm rwD R).length = R.length := fun R => by simp [dm]
  have ok1 := sg.ok
  rintro R' s5 s6 s7 s8 s9 s10 s11 s12 s13 ⟨k5, k6, k7, k8, k9, k10, k11, k12, k13⟩ hR'
  obtain ⟨l', g', hl'⟩ := hR'.get hi
  obtain ⟨ms1, ms2⟩ := mix_self S i 0
  rw [ms2] at g'
  have hl' := hl'.congr fun t _ => ms1 t
  have rbS := sg.rb i hi
  simp_arith [bd_llr, b_law_least, p01, p11]
  refine ⟨_, g', ?_⟩
  simp_arith [wrK_wk k5, wrK_wk k8, natL, nats]
  refine for_list (fun o e => ∃ R s6 s7 s12 s13, (Wk s6 ∧ Wk s7 ∧ Wk s12 ∧ Wk s13) ∧ RowsI p.n p.n (mix S i o) R ∧ e = [Sl.sh (natL (List.range p.n)), .sh (tabD p.n p.ms), .sh (ratD p.n p.rs), .ow (.dict (dm rwD R)), .sh (.int (i : Nat)), .sh (.dict (dm fr l')), s6, s7, .sh (fr (rb S i)), s9, s10, s11, s12, s13, .un]) ⟨R', s6, s7, s12, s13, ⟨k6, k7, k12, k13⟩, hR', rfl⟩ (fun o ho e hI => ?_) fun e hI => ?_
  · obtain ⟨R, s6, s7, s12, s13, ⟨k6, k7, k12, k13⟩, hR, rfl⟩ := hI
    rw [List.length_range] at ho
    rw [List.getElem_range]
    obtain ⟨lo, go, hlo⟩ := hR.get ho
    have lR := hR.len
    simp_arith [wrK_wk k12]
    refine ⟨_, go, ?_⟩
    simp_arith [p01]
    rw [hlo.getD hi]
    simp_arith [wrK_wk k7]
    by_cases e : o = i
    · rw [if_neg (by simp [e])]
      exact ⟨R, s6, _, _, s13, ⟨k6, wk_sh, wk_sh, k13⟩, mix_keep hR (fun z => absurd e z), rfl⟩
    · have ek : (!decide ((o : Int) = (i : Int))) = true := by simp; omega
      rw [if_pos ek]
      obtain ⟨mr1, mr2⟩ := mix_row (S := S) (p := i) e
      rw [mr1] at hlo
      rw [mr2] at go
      rw [mr1]
      have A0 := ok1.nn o i ho hi
      by_cases q0 : S.A o i = 0
      · have : ¬ (0 : Int) < (S.A o i).num := fun z => (num_pos_iff A0).mp z q0
        rw [if_neg this]
        exact ⟨R, s6, _, _, s13, ⟨k6, wk_sh, wk_sh, k13⟩, mix_keep hR (fun z u => zero_keep q0 z u), rfl⟩
      · rw [if_pos ((num_pos_iff A0).mpr q0)]
        have Ao := sg.A o i ho hi
        simp_arith [wrK_wk k13]
        refine ⟨_, go, ?_⟩
        simp_arith [keys_dm]
        refine for_list (fun j e => ∃ m s6, Wk s6 ∧ RowOf p.n (wideA S i o (lo.map (·.1)) j) m ∧ e = [Sl.sh (natL (List.range p.n)), .sh (tabD p.n p.ms), .sh (ratD p.n p.rs), .ow (.dict (dm rwD R)), .sh (.int (i : Nat)), .sh (.dict (dm fr l')), s6, .sh (fr (S.A o i)), .sh (fr (rb S i)), s9, s10, s11, .sh (.int (o : Nat)), .ow (.dict (dm fr m)), .un]) ⟨[], s6, k6, (RowOf.nil _).congr fun t _ => by unfold wideA; rw [List.take_zero, if_neg (fun z => by simpa using z.1)], rfl⟩ (fun j hj e hI => ?_) fun e hI => ?_
        · obtain ⟨m, s6, k6, hm, rfl⟩ := hI
          have lm := hm.len
          have hkm := List.getElem_mem hj
          have hkn := hlo.lt _ hkm
          simp_arith [wrK_wk k6]
          generalize hk : (lo.map (·.1))[j] = k at *
          have hts : ∀ t, t ∈ (lo.map (·.1)).take (j + 1) ↔ t ∈ (lo.map (·.1)).take j ∨ t = k := fun t => by rw [mem_take_succ hj, hk]
          by_cases e2 : k = i
          · rw [if_neg (by simp [e2])]
            refine ⟨m, _, wk_sh, hm.congr fun t ht => ?_, rfl⟩
            unfold wideA
            have : (t ∈ (lo.map (·.1)).take j ∧ t ≠ i) ↔ (t ∈ (lo.map (·.1)).take (j + 1) ∧ t ≠ i) := by rw [hts]; grind
            simp only [this]
          · have ek2 : (!decide ((k : Int) = (i : Int))) = true := by simp; omega
            rw [if_pos ek2]
            refine ⟨_, go, ?_⟩
            simp_arith
            refine ⟨_, hlo.get hkm, ?_⟩
            refine ⟨by rw [dl]; omega, ?_⟩
            rw [dPut_dm]
            refine ⟨_, _, wk_sh, (hm.put hkn _).congr fun t ht => ?_, rfl⟩
            unfold wideA
            by_cases q : t = k
            · rw [if_pos q, if_pos ⟨(hts t).mpr (.inr q), by rw [q]; exact e2⟩, q]
            · rw [if_neg q]
              have : (t ∈ (lo.map (·.1)).take j ∧ t ≠ i) ↔ (t ∈ (lo.map (·.1)).take (j + 1) ∧ t ≠ i) := by rw [hts]; grind
              simp only [this]
        · obtain ⟨m, s6, k6, hm, rfl⟩ := hI
          have hm := hm.congr fun t ht => wide_end hlo ht (l'.map (·.1))
          simp_arith [keys_dm]
          refine for_list (fun j e => ∃ m s6, Wk s6 ∧ RowOf p.n (wide2A S i o (l'.map (·.1)) j) m ∧ e = [Sl.sh (natL (List.range p.n)), .sh (tabD p.n p.ms), .sh (ratD p.n p.rs), .ow (.dict (dm rwD R)), .sh (.int (i : Nat)), .sh (.dict (dm fr l')), s6, .sh (fr (S.A o i)), .sh (fr (rb S i)), s9, s10, s11, .sh (.int (o : Nat)), .ow (.dict (dm fr m)), .un]) ⟨m, s6, k6, hm, rfl⟩ (fun j hj e hI => ?_) fun e hI => ?_
          · obtain ⟨m, s6, k6, hm, rfl⟩ := hI
            have lm := hm.len
            have hkm := List.getElem_mem hj
            have hkn := hl'.lt _ hkm
            have hnj : (l'.map (·.1))[j] ∉ (l'.map (·.1)).take j := fun z => by
              obtain ⟨u, hu, eu⟩ := List.getElem_of_mem z
              rw [List.length_take] at hu
              rw [List.getElem_take] at eu
              have := nd_inj hl'.nd (by omega) hj eu
              omega
            simp_arith [wrK_wk k6, p01, call0_of h1 rfl, call0_of h3 rfl]
            generalize hk : (l'.map (·.1))[j] = k at *
            have hts : ∀ t, t ∈ (l'.map (·.1)).take (j + 1) ↔ t ∈ (l'.map (·.1)).take j ∨ t = k := fun t => by rw [mem_take_succ hj, hk]
            rw [hm.getD hkn]
            refine ⟨_, hl'.get hkm, ?_⟩
            obtain ⟨c1, c2⟩ := Ao.small
            obtain ⟨d1, d2⟩ := (sg.ra i k hi hkn).small
            obtain ⟨m1, m2⟩ := Ao.mul (sg.ra i k hi hkn)
            simp_arith [eTimes]
            refine ⟨⟨nd (S.A o i), nd (ra S i k)⟩, rfl, ⟨⟨Rat.den_pos _, Rat.den_pos _⟩, ⟨c1.mono (by decide), c2.mono (by decide)⟩, d1.mono (by decide), d2.mono (by decide)⟩, ?_⟩
            dsimp only
            rw [n1, n1]
            have hw : PB (wide2A S i o (l'.map (·.1)) j k) := by
              unfold wide2A
              rw [if_neg hnj]
              by_cases e2 : k = i
              · rw [if_pos e2]
                have : (0 : Rat) + 0 = 0 := by grind
                rw [this]
                exact ⟨1, Nat.one_le_two_pow, by decide, Qok.zero⟩
              · rw [if_neg e2]
                have : S.A o k + 0 = S.A o k := by grind
                rw [this]
                exact sg.A o k ho hkn
            obtain ⟨w1, w2⟩ := hw.small
            simp_arith [ePlus]
            refine ⟨⟨nd (wide2A S i o (l'.map (·.1)) j k), nd (S.A o i * ra S i k)⟩, rfl, ⟨⟨Rat.den_pos _, Rat.den_pos _⟩, ⟨w1.mono (by decide), w2.mono (by decide)⟩, m1.mono (by decide), m2.mono (by decide)⟩, ?_⟩
            dsimp only
            rw [n1, n1]
            refine ⟨by rw [dl]; omega, ?_⟩
            rw [dPut_dm]
            refine ⟨_, _, wk_sh, (hm.put hkn _).congr fun t ht => ?_, rfl⟩
            by_cases q : t = k
            · subst q
              rw [if_pos rfl]
              unfold wide2A
              rw [if_neg hnj, if_pos ((hts t).mpr (.inr rfl))]; grind
            · rw [if_neg q]
              unfold wide2A
              have : t ∈ (l'.map (·.1)).take j ↔ t ∈ (l'.map (·.1)).take (j + 1) := by rw [hts]; grind
              simp only [this]
          · obtain ⟨m, s6, k6, hm, rfl⟩ := hI
            have hm := hm.congr fun t ht => wide2_end e hl' ht
            obtain ⟨c1, c2⟩ := Ao.small
            obtain ⟨d1, d2⟩ := rbS.small
            obtain ⟨m1, m2⟩ := Ao.mul rbS
            obtain ⟨w1, w2⟩ := (sg.b o ho).small
            simp_arith [call0_of h1 rfl, call0_of h3 rfl]
            refine ⟨_, go, ?_⟩
            simp_arith [eTimes]
            refine ⟨⟨nd (S.A o i), nd (rb S i)⟩, rfl, ⟨⟨Rat.den_pos _, Rat.den_pos _⟩, ⟨c1.mono (by decide), c2.mono (by decide)⟩, d1.mono (by decide), d2.mono (by decide)⟩, ?_⟩
            dsimp only
            rw [n1, n1]
            simp_arith [ePlus]
            refine ⟨⟨nd (S.b o), nd (S.A o i * rb S i)⟩, rfl, ⟨⟨Rat.den_pos _, Rat.den_pos _⟩, ⟨w1.mono (by decide), w2.mono (by decide)⟩, m1.mono (by decide), m2.mono (by decide)⟩, ?_⟩
            dsimp only
            rw [n1, n1]
            refine ⟨by rw [dlR]; omega, ?_⟩
            rw [put_rw]
            have eb : S.b o + S.A o i * rb S i = (step S i).b o := by
              show _ = if o = i then rb S i else S.b o + S.A o i * rb S i
              rw [if_neg e]
            rw [eb]
            exact ⟨_, _, _, _, _, ⟨k6, wk_sh, wk_sh, wk_sh⟩, mix_put e ho hR hm, rfl⟩
  · obtain ⟨R, s6, s7, s12, s13, ⟨k6, k7, k12, k13⟩, hR, rfl⟩ := hI
    rw [List.length_range] at hR
    simp_arith
    exact ⟨R, _, _, s6, s7, _, s9, s10, s11, s12, s13, ⟨wk_sh, wk_sh, k6, k7, wk_sh, k9, k10, k11, k12, k13⟩, mix_done hR, rfl⟩
theorem ll_turn {tb : Tab} (h1 : tb.fn "_law_plus" = some ePlus) (h2 : tb.fn "_law_low" = some eLow) (h3 : tb.fn "_law_times" = some eTimes) {p : LsIn} (hn : p.n ≤ 6) {S : Sy} (sg : Stg p.n S) {i : Nat} (hi : i < p.n) {R} (hR : RowsI p.n p.n S R) {s5 s6 s7 s8 s9 s10 s11 s12 s13 : Sl} (k5 : Wk s5) (k6 : Wk s6) (k7 : Wk s7) (k8 : Wk s8) (k9 : Wk s9) (k10 : Wk s10) (k11 : Wk s11) (k12 : Wk s12) (k13 : Wk s13) : wpS tb bd_llt [Sl.sh (natL (List.range p.n)), .sh (tabD p.n p.ms), .sh (ratD p.n p.rs), .ow (.dict (dm rwD R)), .sh (.int (i : Nat)), s5, s6, s7, s8, s9, s10, s11, s12, s13, .un] fun o => match o with
    | .nx e => ∃ R s4 s5 s6 s7 s8 s9 s10 s11 s12 s13, (Wk s4 ∧ Wk s5 ∧ Wk s6 ∧ Wk s7 ∧ Wk s8 ∧ Wk s9 ∧ Wk s10 ∧ Wk s11 ∧ Wk s12 ∧ Wk s13) ∧ RowsI p.n p.n (step S i) R ∧ e = [Sl.sh (natL (List.range p.n)), .sh (tabD p.n p.ms), .sh (ratD p.n p.rs), .ow (.dict (dm rwD R)), s4, s5, s6, s7, s8, s9, s10, s11, s12, s13, .un]
    | _ => False := by
  have hLIM : LIM = 16777216 := rfl
  have n1 : ∀ q : Rat, mkRat (nd q).1 (nd q).2 = q := fun q => qv_nd q
  have p01 : (PyData.tuple [.int 0, .int 1]) = pr 0 1 := rfl
  have p11 : (PyData.tuple [.int 1, .int 1]) = pr 1 1 := rfl
  have dl : ∀ l : List (Nat × Rat), (dm fr l).length = l.length := fun l => by simp [dm]
  have dlR : ∀ R : List (Nat × (List (Nat × Rat) × Rat)), (dm rwD R).length = R.length := fun R => by simp [dm]
  have ok1 := sg.ok
  obtain ⟨l, g1, hl⟩ := hR.get hi
  have lR := hR.len
  have ll := hl.len
  obtain ⟨st1, st2⟩ := (sg.A i i hi hi).small
  simp_arith [bd_llt, b_law_least]
  refine ⟨_, g1, ?_⟩
  simp_arith [wrK_wk k5, wrK_wk k8, p01]
  rw [hl.getD hi]
  simp_arith [wrK_wk k9, C_eqT, p11]
  refine ⟨shaped_fr _, by decide +kernel, ?_⟩
  have e1 : PyData.eqv (fr (S.A i i)) (pr 1 1) = decide (S.A i i = 1) := eqv_fr _ 1
  rw [e1]
  by_cases q1 : S.A i i = 1
  · rw [if_pos (by simpa using q1)]
    refine ⟨by rw [dlR]; omega, ?_⟩
    have e2 : dPut (dm rwD R) (.int (i : Nat)) (.list [.dict [], pr 0 1]) = dm rwD (put R i ([], rb S i)) := by
      have : rb S i = 0 := by unfold rb; rw [if_pos q1]
      rw [this]
      exact put_rw R i [] 0
    rw [e2]
    have hra : RowOf p.n (ra S i) [] := (RowOf.nil _).congr fun t _ => by unfold ra; rw [if_pos q1]
    have t := ll_rest h1 h3 hn sg hi _ (.sh (.dict (dm fr l))) s6 s7 (.sh (fr (S.b i))) (.sh (fr (S.A i i))) s10 s11 s12 s13 ⟨wk_sh, k6, k7, wk_sh, wk_sh, k10, k11, k12, k13⟩ (mix_zero hR hi hra)
    simp_arith [bd_llr, b_law_least, p01, p11] at t
    exact t
  · rw [if_neg (by simpa using q1)]
    obtain ⟨me1, me2⟩ := much_eq (ok1.lt hi q1)
    have hz0 : ((((S.A i i).den : Int) - (S.A i i).num).toNat : Int) = ((S.A i i).den : Int) - (S.A i i).num := Int.toNat_of_nonneg (by omega)
    have mz : Small 1402 (((S.A i i).den : Int) - (S.A i i).num) := small_sub st2 st1
    have ms := mkRat_small (a := ((S.A i i).den : Int)) (b := (((S.A i i).den : Int) - (S.A i i).num).toNat) (n := 1402) (by omega) (st2.mono (by decide)) (by rw [hz0]; exact mz)
    rw [me2] at ms
    obtain ⟨ms1, ms2⟩ := ms
    simp_arith [call0_of h2 rfl, eLow]
    refine ⟨⟨((S.A i i).den : Int), (((S.A i i).den : Int) - (S.A i i).num).toNat⟩, ?_, ⟨by show 0 < (((S.A i i).den : Int) - (S.A i i).num).toNat; omega, st2.mono (by decide), by show Small 9000 ((((S.A i i).den : Int) - (S.A i i).num).toNat : Int); rw [hz0]; exact mz.mono (by decide)⟩, ?_⟩
    · show _ = [PyData.int ((S.A i i).den : Int), PyData.int ((((S.A i i).den : Int) - (S.A i i).num).toNat : Int)]
      rw [hz0]
    dsimp only
    rw [me2]
    simp_arith [wrK_wk k10, wrK_wk k11, keys_dm]
    refine for_list (fun j e => ∃ m s6, Wk s6 ∧ RowOf p.n (leanA S i (l.map (·.1)) j) m ∧ e = [Sl.sh (natL (List.range p.n)), .sh (tabD p.n p.ms), .sh (ratD p.n p.rs), .ow (.dict (dm rwD R)), .sh (.int (i : Nat)), .sh (.dict (dm fr l)), s6, s7, .sh (fr (S.b i)), .sh (fr (S.A i i)), .sh (fr (1 / (1 - S.A i i))), .ow (.dict (dm fr m)), s12, s13, .un]) ⟨[], s6, k6, (RowOf.nil _).congr fun t _ => by unfold leanA; rw [List.take_zero, if_neg (fun z => by simpa using z.1)], rfl⟩ (fun j hj e hI => ?_) fun e hI => ?_
    · obtain ⟨m, s6, k6, hm, rfl⟩ := hI
      have lm := hm.len
      have hkm := List.getElem_mem hj
      have hkn := hl.lt _ hkm
      simp_arith [wrK_wk k6]
      generalize hk : (l.map (·.1))[j] = k at *
      have hts : ∀ t, t ∈ (l.map (·.1)).take (j + 1) ↔ t ∈ (l.map (·.1)).take j ∨ t = k := fun t => by rw [mem_take_succ hj, hk]
      by_cases e2 : k = i
      · rw [if_neg (by simp [e2])]
        refine ⟨m, _, wk_sh, hm.congr fun t ht => ?_, rfl⟩
        unfold leanA
        have : (t ∈ (l.map (·.1)).take j ∧ t ≠ i) ↔ (t ∈ (l.map (·.1)).take (j + 1) ∧ t ≠ i) := by rw [hts]; grind
        simp only [this]
      · have ek2 : (!decide ((k : Int) = (i : Int))) = true := by simp; omega
        rw [if_pos ek2]
        simp_arith [call0_of h3 rfl]
        refine ⟨_, hl.get hkm, ?_⟩
        obtain ⟨d1, d2⟩ := (sg.A i k hi hkn).small
        simp_arith [eTimes]
        refine ⟨⟨nd (1 / (1 - S.A i i)), nd (S.A i k)⟩, rfl, ⟨⟨Rat.den_pos _, Rat.den_pos _⟩, ⟨ms1.mono (by decide), ms2.mono (by decide)⟩, d1.mono (by decide), d2.mono (by decide)⟩, ?_⟩
        dsimp only
        rw [n1, n1]
        refine ⟨by rw [dl]; omega, ?_⟩
        rw [dPut_dm]
        refine ⟨_, _, wk_sh, (hm.put hkn _).congr fun t ht => ?_, rfl⟩
        unfold leanA
        by_cases q : t = k
        · rw [if_pos q, if_pos ⟨(hts t).mpr (.inr q), by rw [q]; exact e2⟩, q]
        · rw [if_neg q]
          have : (t ∈ (l.map (·.1)).take j ∧ t ≠ i) ↔ (t ∈ (l.map (·.1)).take (j + 1) ∧ t ≠ i) := by rw [hts]; grind
          simp only [this]
    · obtain ⟨m, s6, k6, hm, rfl⟩ := hI
      have hm := hm.congr fun t ht => lean_end q1 hl ht
      obtain ⟨d1, d2⟩ := (sg.b i hi).small
      simp_arith [call0_of h3 rfl, eTimes]
      refine ⟨⟨nd (1 / (1 - S.A i i)), nd (S.b i)⟩, rfl, ⟨⟨Rat.den_pos _, Rat.den_pos _⟩, ⟨ms1.mono (by decide), ms2.mono (by decide)⟩, d1.mono (by decide), d2.mono (by decide)⟩, ?_⟩
      dsimp only
      rw [n1, n1]
      have eb : 1 / (1 - S.A i i) * S.b i = rb S i := by unfold rb; rw [if_neg q1]
      rw [eb]
      refine ⟨by rw [dlR]; omega, ?_⟩
      rw [put_rw]
      have t := ll_rest h1 h3 hn sg hi _ (.sh (.dict (dm fr l))) s6 s7 (.sh (fr (S.b i))) (.sh (fr (S.A i i))) (.sh (fr (1 / (1 - S.A i i)))) (.sh (.dict (dm fr m))) s12 s13 ⟨wk_sh, k6, k7, wk_sh, wk_sh, wk_sh, wk_sh, k12, k13⟩ (mix_zero hR hi hm)
      simp_arith [bd_llr, b_law_least, p01, p11] at t
      exact t
theorem lleast_does {tb : Tab} (h1 : tb.fn "_law_plus" = some ePlus) (h2 : tb.fn "_law_low" = some eLow) (h3 : tb.fn "_law_times" = some eTimes) : Does tb b_law_least N_law_least.length false eLLs.R := by
  rintro ds L ⟨p, rfl, ok, hL⟩
  have hLIM : LIM = 16777216 := rfl
  have hn := ok.n
  have n1 : ∀ q : Rat, mkRat (nd q).1 (nd q).2 = q := fun q => qv_nd q
  have p01 : (PyData.tuple [.int 0, .int 1]) = pr 0 1 := rfl
  have p11 : (PyData.tuple [.int 1, .int 1]) = pr 1 1 := rfl
  have dl : ∀ l : List (Nat × Rat), (dm fr l).length = l.length := fun l => by simp [dm]
  have dlR : ∀ R : List (Nat × (List (Nat × Rat) × Rat)), (dm rwD R).length = R.length := fun R => by simp [dm]
  simp_arith [b_law_least, N_law_least, natL, nats, p01, p11]
  refine for_list (fun i e => ∃ R s4 s5 s6 s7, (Wk s4 ∧ Wk s5 ∧ Wk s6 ∧ Wk s7) ∧ RowsI p.n i p.S R ∧ e = [Sl.sh (natL (List.range p.n)), .sh (tabD p.n p.ms), .sh (ratD p.n p.rs), .ow (.dict (dm rwD R)), s4, s5, s6, s7, .un, .un, .un, .un, .un, .un, .un]) ⟨[], .un, .un, .un, .un, ⟨wk_un, wk_un, wk_un, wk_un⟩, ⟨by simp, by simp, fun s hs => absurd hs (Nat.not_lt_zero _)⟩, rfl⟩ (fun i hi e hI => ?_) fun e hI => ?_
  · obtain ⟨R, s4, s5, s6, s7, ⟨k4, k5, k6, k7⟩, hR, rfl⟩ := hI
    rw [List.length_range] at hi
    rw [List.getElem_range]
    obtain ⟨W, hW⟩ := ok.row i hi
    have sW : Small 21 (W : Int) := small_le hW.W1
    simp_arith [wrK_wk k4, wrK_wk k5, tabD]
    refine ⟨_, get_tab hi, ?_⟩
    simp_arith [mvL]
    refine for_list (fun j e => ∃ l s6 s7, (Wk s6 ∧ Wk s7) ∧ RowOf p.n (psum ((p.ms i).take j)) l ∧ e = [Sl.sh (natL (List.range p.n)), .sh (tabD p.n p.ms), .sh (ratD p.n p.rs), .ow (.dict (dm rwD R)), .sh (.int (i : Nat)), .ow (.dict (dm fr l)), s6, s7, .un, .un, .un, .un, .un, .un, .un]) ⟨[], s6, s7, ⟨k6, k7⟩, RowOf.nil _, rfl⟩ (fun j hj e hI => ?_) fun e hI => ?_
    · obtain ⟨l, s6, s7, ⟨k6, k7⟩, hl, rfl⟩ := hI
      obtain ⟨x1, x2, x3⟩ := hW.mv _ (List.getElem_mem hj)
      have ll := hl.len
      simp_arith [wrK_wk k6, wrK_wk k7, mvD, call0_of h1 rfl]
      rw [p01, hl.getD x1]
      obtain ⟨pp0, pp1⟩ := psum_part hW.nn j (p.ms i)[j].1
      have pA : psum (p.ms i) (p.ms i)[j].1 ≤ 1 := ok.ok.le hi x1
      have pl := psum_mem hW.nn (List.getElem_mem hj)
      have pd : (psum ((p.ms i).take j) (p.ms i)[j].1).den ∣ W := psum_den hW.W0 fun x hx => (hW.mv x (List.mem_of_mem_take hx)).2.2
      obtain ⟨a1, a2⟩ := num_bnd hW.W0 pd (by grind) (by grind) sW
      obtain ⟨b1, b2⟩ := num_bnd hW.W0 x3 (by grind) (by grind) sW
      simp_arith [ePlus]
      refine ⟨⟨nd (psum ((p.ms i).take j) (p.ms i)[j].1), nd (p.ms i)[j].2⟩, rfl, ⟨⟨Rat.den_pos _, Rat.den_pos _⟩, ⟨a1.mono (by decide), a2.mono (by decide)⟩, b1.mono (by decide), b2.mono (by decide)⟩, ?_⟩
      dsimp only
      rw [n1, n1]
      refine ⟨by rw [dl]; omega, ?_⟩
      rw [dPut_dm]
      refine ⟨_, _, _, ⟨wk_sh, wk_sh⟩, (hl.put x1 _).congr fun t ht => ?_, rfl⟩
      rw [psum_take hj]
      by_cases q : t = (p.ms i)[j].1
      · rw [if_pos q, if_pos q.symm, q]
      · rw [if_neg q, if_neg (fun z => q z.symm)]; grind
    · obtain ⟨l, s6, s7, ⟨k6, k7⟩, hl, rfl⟩ := hI
      rw [List.take_length] at hl
      have lR := hR.len
      simp_arith [ratD]
      refine ⟨_, get_rat hi, ?_⟩
      refine ⟨by rw [dlR]; omega, ?_⟩
      rw [put_rw]
      exact ⟨_, _, _, _, _, ⟨wk_sh, wk_sh, k6, k7⟩, hR.put (S' := p.S) (m' := i + 1) hi (fun t ht hne => by omega) (fun t _ _ => ⟨fun _ _ => rfl, rfl⟩) hl, rfl⟩
  · obtain ⟨R, s4, s5, s6, s7, ⟨k4, k5, k6, k7⟩, hR, rfl⟩ := hI
    rw [List.length_range] at hR
    simp_arith [natL, nats, p01, p11]
    refine for_list (fun i e => ∃ R s4 s5 s6 s7 s8 s9 s10 s11 s12 s13, (Wk s4 ∧ Wk s5 ∧ Wk s6 ∧ Wk s7 ∧ Wk s8 ∧ Wk s9 ∧ Wk s10 ∧ Wk s11 ∧ Wk s12 ∧ Wk s13) ∧ RowsI p.n p.n (el p.S i) R ∧ e = [Sl.sh (natL (List.range p.n)), .sh (tabD p.n p.ms), .sh (ratD p.n p.rs), .ow (.dict (dm rwD R)), s4, s5, s6, s7, s8, s9, s10, s11, s12, s13, .un]) ⟨R, s4, s5, s6, s7, .un, .un, .un, .un, .un, .un, ⟨k4, k5, k6, k7, wk_un, wk_un, wk_un, wk_un, wk_un, wk_un⟩, hR, rfl⟩ (fun i hi e hI => ?_) fun e hI => ?_
    · obtain ⟨R, s4, s5, s6, s7, s8, s9, s10, s11, s12, s13, ⟨k4, k5, k6, k7, k8, k9, k10, k11, k12, k13⟩, hR, rfl⟩ := hI
      rw [List.length_range] at hi
      rw [List.getElem_range]
      have sg := stg ok (Nat.le_of_lt hi)
      have t := ll_turn h1 h2 h3 hn sg hi hR k5 k6 k7 k8 k9 k10 k11 k12 k13
      simp only [PL.G_name, PL.K_wr, wrK_wk k4, List.getElem?_cons_zero, List.getElem?_cons_succ, List.set_cons_zero, List.set_cons_succ]
      refine wpS_mono bd_llt (fun o w => ?_) t
      cases o with
      | nx e => exact w
      | _ => exact w.elim
    · obtain ⟨R, s4, s5, s6, s7, s8, s9, s10, s11, s12, s13, ⟨k4, k5, k6, k7, k8, k9, k10, k11, k12, k13⟩, hR, rfl⟩ := hI
      rw [List.length_range] at hR
      simp_arith [natL, nats]
      refine for_list (fun i e => ∃ s4, Wk s4 ∧ e = [Sl.sh (natL (List.range p.n)), .sh (tabD p.n p.ms), .sh (ratD p.n p.rs), .ow (.dict (dm rwD R)), s4, s5, s6, s7, s8, s9, s10, s11, s12, s13, .ow (.dict (dm fr ((List.range i).map fun s => (s, val p.n p.S s))))]) ⟨s4, k4, rfl⟩ (fun i hi e hI => ?_) fun e hI => ?_
      · obtain ⟨s4, k4, rfl⟩ := hI
        rw [List.length_range] at hi
        rw [List.getElem_range]
        obtain ⟨l, g1, hl⟩ := hR.get hi
        simp_arith [wrK_wk k4]
        refine ⟨_, g1, ?_⟩
        simp_arith
        refine ⟨by rw [dl, List.length_map, List.length_range]; omega, ?_⟩
        have ni : i ∉ ((List.range i).map fun s => (s, val p.n p.S s)).map (·.1) := by
          rw [List.map_map]
          have : ((fun x : Nat × Rat => x.1) ∘ fun s => (s, val p.n p.S s)) = id := rfl
          rw [this, List.map_id, List.mem_range]; omega
        have e : dPut (dm fr ((List.range i).map fun s => (s, val p.n p.S s))) (.int (i : Nat)) (fr ((el p.S p.n).b i)) = dm fr ((List.range (i + 1)).map fun s => (s, val p.n p.S s)) := by
          rw [dPut_dm, put_new _ ni, List.range_succ, List.map_append]; rfl
        rw [e]
        exact ⟨_, wk_sh, rfl⟩
      · obtain ⟨s4, k4, rfl⟩ := hI
        rw [List.length_range]
        simp_arith
        exact hL _ fun s hs => look_fun hs
end K82
end

section
set_option Elab.async false
set_option linter.all false
set_option maxRecDepth 100000
set_option maxHeartbeats 4000000
set_option exponentiation.threshold 10000
/-! K85k: _law_comes, _law_dues, _law_told. -/
namespace K82
open PySem PL KE
theorem put_last {α : Type} {l : List (Nat × α)} {k : Nat} (u v : α) (h : k ∉ l.map (·.1)) : put (l ++ [(k, u)]) k v = l ++ [(k, v)] := by
  unfold put
  have : look (l ++ [(k, u)]) k = some u := by rw [look_app, look_none.mpr h, look_cons, if_pos rfl]; rfl
  rw [this]
  simp only [Option.isSome_some, if_true]
  rw [List.map_append]
  congr 1
  · rw [List.map_congr_left (g := id), List.map_id]
    intro x hx
    rw [if_neg (fun e : x.1 = k => h (e ▸ List.mem_map_of_mem (f := fun y : Nat × α => y.1) hx))]; rfl
  · simp
theorem range_keys {α : Type} {n : Nat} (f : Nat → α) : ((List.range n).map fun s => (s, f s)).map (·.1) = List.range n := by
  rw [List.map_map]
  have : ((fun x : Nat × α => x.1) ∘ fun s => (s, f s)) = id := rfl
  rw [this, List.map_id]
theorem dPut_range {α : Type} {g : α → PyData} {i : Nat} (f : Nat → α) : dPut (dm g ((List.range i).map fun s => (s, f s))) (.int (i : Nat)) (g (f i)) = dm g ((List.range (i + 1)).map fun s => (s, f s)) := by
  rw [dPut_dm, put_new _ (by rw [range_keys, List.mem_range]; omega), List.range_succ, List.map_append]; rfl
def eComes : Ent := fnE (fun p : ComeIn => [chooserD p.C, idxD p.k, lotD p.lot]) ComeOk (fun p => .list ((List.range p.C.length).map fun s => fr (comeV p.C p.k p.lot s)))
theorem comes_does {tb : Tab} (h1 : tb.fn "_law_least" = some eLLs) (h2 : tb.fn "_law_low" = some eLow) : Does tb b_law_comes N_law_comes.length false eComes.R := by
  rintro ds L ⟨⟨C, k, lot⟩, rfl, ⟨hC, hk, hlot⟩, hL⟩
  dsimp only at hC hk hlot hL
  have l1 := hC.l1
  have hLIM : LIM = 16777216 := rfl
  have ok := lsOf_ok hC hk (lot := lot)
  have kl := hk.1
  have dlm : ∀ (n : Nat) (f : Nat → List (Nat × Rat)), (dm mvL ((List.range n).map fun s => (s, f s))).length = n := fun n f => by simp [dm]
  have dlr : ∀ (n : Nat) (f : Nat → Rat), (dm fr ((List.range n).map fun s => (s, f s))).length = n := fun n f => by simp [dm]
  simp_arith [b_law_comes, N_law_comes, chooserD]
  refine for_enum (fun i e => ∃ s5 s6, (Wk s5 ∧ Wk s6) ∧ e = [Sl.sh (chooserD C), .sh (idxD k), .sh (lotD lot), .ow (.dict (dm mvL ((List.range i).map fun s => (s, (lsOf C k lot).ms s)))), .ow (.dict (dm fr ((List.range i).map fun s => (s, (lsOf C k lot).rs s)))), s5, s6, .un, .un, .un, .un]) ⟨.un, .un, ⟨wk_un, wk_un⟩, rfl⟩ (fun i hi e hI => ?_) fun e hI => ?_
  · obtain ⟨s5, s6, ⟨k5, k6⟩, rfl⟩ := hI
    obtain ⟨d1, d2⟩ := dOf_mem hk hi
    obtain ⟨W, hW⟩ := (hC.ch _ (List.getElem_mem hi)).2 _ (List.getElem_mem d1)
    rw [← d2] at hW
    have kg : ∀ h, k[i]'h = k.getD i 0 := fun h => by rw [List.getD_eq_getElem?_getD, List.getElem?_eq_getElem h]; rfl
    simp_arith [wrK_wk k5, wrK_wk k6, lotD]
    refine ⟨shaped_int _, shp_shaped (shp_lot lot) (by decide), ?_⟩
    rw [any_int]
    have er : dPut (dm fr ((List.range i).map fun s => (s, (lsOf C k lot).rs s))) (.int (i : Nat)) (.tuple [.int (if decide (i ∈ lot) = true then 1 else 0), .int 1]) = dm fr ((List.range (i + 1)).map fun s => (s, (lsOf C k lot).rs s)) := by
      rw [← dPut_range]
      congr 1
      show _ = fr (if i ∈ lot then 1 else 0)
      by_cases q : i ∈ lot
      · rw [if_pos (by simpa using q), if_pos q]; rfl
      · rw [if_neg (by simpa using q), if_neg q]; rfl
    rw [er, dlr, dlm]
    refine ⟨by omega, by omega, ?_⟩
    have ep : dPut (dm mvL ((List.range i).map fun s => (s, (lsOf C k lot).ms s))) (.int (i : Nat)) (.list []) = dm mvL ((List.range i).map (fun s => (s, (lsOf C k lot).ms s)) ++ [(i, [])]) := by
      have := dPut_dm (f := mvL) ((List.range i).map fun s => (s, (lsOf C k lot).ms s)) i []
      rw [put_new _ (by rw [range_keys, List.mem_range]; omega)] at this
      exact this
    rw [ep]
    refine ⟨shaped_int _, shp_shaped (shp_lot lot) (by decide), ?_⟩
    by_cases q : i ∈ lot
    · rw [if_neg (by simpa using q)]
      have e : (lsOf C k lot).ms i = [] := by
        show (if i ∈ lot then [] else _) = _
        rw [if_pos q]
      have e2 : (List.range i).map (fun s => (s, (lsOf C k lot).ms s)) ++ [(i, [])] = (List.range (i + 1)).map fun s => (s, (lsOf C k lot).ms s) := by
        rw [List.range_succ, List.map_append, List.map_cons, List.map_nil, e]
      rw [e2]
      exact ⟨_, _, ⟨wk_sh, wk_sh⟩, rfl⟩
    · rw [if_pos (by simpa using q)]
      simp_arith [choiceD, idxD]
      refine ⟨_, atI_map (by omega), ?_⟩
      rw [kg]
      refine ⟨_, atI_map d1, ?_⟩
      simp_arith [deedD]
      rw [← d2]
      have := hW.len
      refine ⟨by rw [List.length_map]; omega, lcK_list (fun m => mvD (m.s, qv m.p)) (fun m hm => ?_) ?_⟩
      · obtain ⟨m1, m2, m3, m4⟩ := hW.mv m hm
        obtain ⟨a1, a2⟩ := m3.small
        simp_arith [Mv.D, call0_of h2 rfl, eLow]
        refine ⟨m.p, rfl, ⟨m3.1, a1.mono (by decide), a2.mono (by decide)⟩, rfl⟩
      · simp_arith
        have e : (lsOf C k lot).ms i = (dOf C k i).map fun m => (m.s, qv m.p) := by
          show (if i ∈ lot then [] else _) = _
          rw [if_neg q]
        have e2 : dPut (dm mvL ((List.range i).map (fun s => (s, (lsOf C k lot).ms s)) ++ [(i, [])])) (.int (i : Nat)) (.list ((dOf C k i).map fun m => mvD (m.s, qv m.p))) = dm mvL ((List.range (i + 1)).map fun s => (s, (lsOf C k lot).ms s)) := by
          have t := dPut_dm (f := mvL) ((List.range i).map (fun s => (s, (lsOf C k lot).ms s)) ++ [(i, [])]) i ((lsOf C k lot).ms i)
          rw [put_last _ _ (by rw [range_keys, List.mem_range]; omega)] at t
          have e3 : mvL ((lsOf C k lot).ms i) = .list ((dOf C k i).map fun m => mvD (m.s, qv m.p)) := by
            rw [e]; unfold mvL; rw [List.map_map]; rfl
          rw [e3] at t
          rw [t, List.range_succ, List.map_append]; rfl
        rw [e2]
        refine ⟨?_, _, _, ⟨wk_sh, wk_sh⟩, rfl⟩
        have : (dm mvL ((List.range i).map (fun s => (s, (lsOf C k lot).ms s)) ++ [(i, [])])).length = i + 1 := by simp [dm]
        rw [this]; omega
  · obtain ⟨s5, s6, ⟨k5, k6⟩, rfl⟩ := hI
    simp_arith [call0_of h1 rfl, chooserD]
    rw [List.length_map, Int.toNat_natCast]
    refine ⟨⟨by omega, by omega⟩, ?_⟩
    have e0 : rangeL 0 1 C.length = nats (List.range C.length) := by
      unfold rangeL nats
      apply List.map_congr_left
      intro k _
      rw [Int.zero_add, Int.mul_one]
    rw [e0]
    refine ⟨lsOf C k lot, rfl, ok, fun l hl => ?_⟩
    simp_arith
    refine ⟨⟨by omega, by omega⟩, by rw [show (nats (List.range C.length)).length = C.length by simp [nats]]; omega, ?_⟩
    unfold nats
    refine lcK_list (fun s => fr (comeV C k lot s)) (fun s hs => ?_) hL
    have hs := List.mem_range.mp hs
    have e1 : dGet (dm fr l) (.int (s : Nat)) = some (fr (comeV C k lot s)) := by
      rw [dGet_dm, hl s hs]; rfl
    simp_arith [wrK_wk k5]
    exact ⟨_, e1, rfl⟩
/-! ### what is due -/
def dueL (p : LotIn) : PyData := .list [boD (bcOf true p), boD (bcOf false p), .tuple ((grV ⟨p.C, p.lot, true⟩).map fr)]
def eDues : Ent := fnE (fun p : LotIn => [chooserD p.C, lotD p.lot]) LotOk dueL
def bd_d2 : S := match b_law_dues with
  | .seq _ (.seq (.for_ _ _ (.seq _ (.seq _ s))) _) => s
  | _ => .skip
def bd_d3 : S := match b_law_dues with
  | .seq _ (.seq (.for_ _ _ (.seq _ (.seq _ (.seq _ s)))) _) => s
  | _ => .skip
theorem dues_does {tb : Tab} (h1 : tb.fn "_law_tuples" = some eTup) (h2 : tb.fn "_law_comes" = some eComes) (h3 : tb.fn "_law_below" = some eBelow) : Does tb b_law_dues N_law_dues.length false eDues.R := by
  rintro ds L ⟨⟨C, lot⟩, rfl, hp, hL⟩
  have hC := hp.C
  have hlt := hp.l6
  dsimp only at hC hlt hL
  have hlot : lot.length ≤ 1000 := by omega
  have l0 := hC.l0
  have l1 := hC.l1
  have hLIM : LIM = 16777216 := rfl
  simp_arith [b_law_dues, N_law_dues, call0_of h1 rfl, chooserD, eTup]
  rw [List.length_map, Int.toNat_natCast]
  have p01 : (PyData.tuple [.int 0, .int 1]) = pr 0 1 := rfl
  rw [p01, mul_rep]
  refine ⟨⟨by omega, by omega⟩, by decide, C, rfl, hC, ?_⟩
  simp_arith [tupD]
  have hall : ∀ k ∈ tps C C.length, OkK C k := fun k hk => (tps_all k).mp hk
  have hd : dueL ⟨C, lot⟩ = .list [boD (bestF true (fun k => comeV C k lot 0) (tps C C.length)), boD (bestF false (fun k => comeV C k lot 0) (tps C C.length)), .tuple (((List.range C.length).map (gvF C lot (tps C C.length))).map fr)] := rfl
  rw [hd] at hL
  generalize tps C C.length = ks at *
  have er : List.replicate C.length (pr 0 1) = ((List.range C.length).map (gvF C lot (ks.take 0))).map fr := by
    rw [List.map_map]
    apply List.ext_getElem
    · simp
    · intro j h1 h2; simp [gvF, fr_zero]
  rw [er]
  refine for_list (fun i e => ∃ s5 s6, (Wk s5 ∧ Wk s6) ∧ e = [Sl.sh (chooserD C), .sh (lotD lot), .sh (boD (bestF true (fun k => comeV C k lot 0) (ks.take i))), .sh (boD (bestF false (fun k => comeV C k lot 0) (ks.take i))), .sh (.list (((List.range C.length).map (gvF C lot (ks.take i))).map fr)), s5, s6, .un, .un]) ⟨.un, .un, ⟨wk_un, wk_un⟩, rfl⟩ (fun i hi e hI => ?_) fun e hI => ?_
  · obtain ⟨s5, s6, ⟨k5, k6⟩, rfl⟩ := hI
    have hk := hall _ (List.getElem_mem hi)
    have f0 : L2.atI ((List.range C.length).map fun s => fr (comeV C ks[i] lot s)) 0 = some (fr (comeV C ks[i] lot 0)) := by
      have := atI_map (as := List.range C.length) (inp := fun s => fr (comeV C ks[i] lot s)) (k := 0) (by rw [List.length_range]; exact l0)
      rw [List.getElem_range] at this
      exact this
    obtain ⟨D1, a1, a2, a3⟩ := comeV_ok hC hk (lot := lot) l0
    obtain ⟨u1, u2⟩ := small_fr a1 a2 a3
    have bnd : ∀ up x, bestF up (fun k => comeV C k lot 0) (ks.take i) = some x → Small 1401 x.1.num ∧ Small 1401 (x.1.den : Int) := fun up x hb => by
      obtain ⟨m1, m2⟩ := bestF_mem i (by omega) _ hb
      obtain ⟨D2, b1, b2, b3⟩ := comeV_ok hC (hall _ m1) (lot := lot) l0
      rw [← m2] at b3
      exact small_fr b1 b2 b3
    have tail : ∀ s5, Wk s5 → wpS tb bd_d3 [Sl.sh (chooserD C), .sh (lotD lot), .sh (boD (bestF true (fun k => comeV C k lot 0) (ks.take (i + 1)))), .sh (boD (bestF false (fun k => comeV C k lot 0) (ks.take (i + 1)))), .sh (.list (((List.range C.length).map (gvF C lot (ks.take i))).map fr)), s5, .sh (.list ((List.range C.length).map fun s => fr (comeV C ks[i] lot s))), .un, .un] fun o => match o with
          | .nx e => ∃ s5 s6, (Wk s5 ∧ Wk s6) ∧ e = [Sl.sh (chooserD C), .sh (lotD lot), .sh (boD (bestF true (fun k => comeV C k lot 0) (ks.take (i + 1)))), .sh (boD (bestF false (fun k => comeV C k lot 0) (ks.take (i + 1)))), .sh (.list (((List.range C.length).map (gvF C lot (ks.take (i + 1)))).map fr)), s5, s6, .un, .un]
          | .ct e => ∃ s5 s6, (Wk s5 ∧ Wk s6) ∧ e = [Sl.sh (chooserD C), .sh (lotD lot), .sh (boD (bestF true (fun k => comeV C k lot 0) (ks.take (i + 1)))), .sh (boD (bestF false (fun k => comeV C k lot 0) (ks.take (i + 1)))), .sh (.list (((List.range C.length).map (gvF C lot (ks.take (i + 1)))).map fr)), s5, s6, .un, .un]
          | _ => False := by
      intro s5 k5
      simp_arith [bd_d3, b_law_dues, call0_of h3 rfl]
      have ez : zipL ((List.range C.length).map fun s => fr (comeV C ks[i] lot s)) (((List.range C.length).map (gvF C lot (ks.take i))).map fr) = (List.range C.length).map fun s => .tuple [fr (comeV C ks[i] lot s), fr (gvF C lot (ks.take i) s)] := by
        unfold zipL
        apply List.ext_getElem
        · simp
        · intro j h1 h2; simp
      rw [ez]
      refine ⟨by rw [List.length_map, List.length_range]; omega, lcK_list (fun s => fr (gvF C lot (ks.take (i + 1)) s)) (fun s hs => ?_) ?_⟩
      · have hs := List.mem_range.mp hs
        obtain ⟨D1, a1, a2, a3⟩ := comeV_ok hC hk (lot := lot) hs
        obtain ⟨D2, b1, b2, b3⟩ := gvF_ok hC hall (lot := lot) i (by omega) s hs
        obtain ⟨u1, u2⟩ := small_fr a1 a2 a3
        obtain ⟨u3, u4⟩ := small_fr b1 b2 b3
        simp_arith [call0_of h3 rfl, eBelow]
        refine ⟨⟨gvF C lot (ks.take i) s, comeV C ks[i] lot s⟩, rfl, ⟨⟨u3.mono (by decide), u4.mono (by decide)⟩, u1.mono (by decide), u2.mono (by decide)⟩, ?_⟩
        rw [gvF_succ hi]
        unfold gstep
        by_cases q : gvF C lot (ks.take i) s < comeV C ks[i] lot s
        · simp only [q, if_true, decide_true]
        · simp only [q, if_false, decide_false, Bool.false_eq_true]
      · have em : ((List.range C.length).map (gvF C lot (ks.take (i + 1)))).map fr = (List.range C.length).map fun s => fr (gvF C lot (ks.take (i + 1)) s) := by rw [List.map_map]; rfl
        rw [em]
        exact ⟨_, _, ⟨k5, wk_sh⟩, rfl⟩
    have g1 := bestF_succ (up := true) (f := fun k => comeV C k lot 0) hi
    have g2 := bestF_succ (up := false) (f := fun k => comeV C k lot 0) hi
    have second : ∀ s5, Wk s5 → wpS tb bd_d2 [Sl.sh (chooserD C), .sh (lotD lot), .sh (boD (bestF true (fun k => comeV C k lot 0) (ks.take (i + 1)))), .sh (boD (bestF false (fun k => comeV C k lot 0) (ks.take i))), .sh (.list (((List.range C.length).map (gvF C lot (ks.take i))).map fr)), .sh (idxD ks[i]), .sh (.list ((List.range C.length).map fun s => fr (comeV C ks[i] lot s))), .un, .un] fun o => match o with
          | .nx e => ∃ s5 s6, (Wk s5 ∧ Wk s6) ∧ e = [Sl.sh (chooserD C), .sh (lotD lot), .sh (boD (bestF true (fun k => comeV C k lot 0) (ks.take (i + 1)))), .sh (boD (bestF false (fun k => comeV C k lot 0) (ks.take (i + 1)))), .sh (.list (((List.range C.length).map (gvF C lot (ks.take (i + 1)))).map fr)), s5, s6, .un, .un]
          | .ct e => ∃ s5 s6, (Wk s5 ∧ Wk s6) ∧ e = [Sl.sh (chooserD C), .sh (lotD lot), .sh (boD (bestF true (fun k => comeV C k lot 0) (ks.take (i + 1)))), .sh (boD (bestF false (fun k => comeV C k lot 0) (ks.take (i + 1)))), .sh (.list (((List.range C.length).map (gvF C lot (ks.take (i + 1)))).map fr)), s5, s6, .un, .un]
          | _ => False := by
      intro s5 k5
      have t := tail (.sh (idxD ks[i])) wk_sh
      simp_arith [bd_d3, b_law_dues, call0_of h3 rfl, eBelow] at t
      rw [g2] at t ⊢
      simp_arith [bd_d2, b_law_dues, call0_of h3 rfl, eBelow]
      cases hb : bestF false (fun k => comeV C k lot 0) (ks.take i) with
      | none =>
        rw [hb] at t
        simp only [show isNon (boD none) = true from rfl, if_true]
        refine ⟨_, f0, ?_⟩
        exact t
      | some x =>
        rw [hb] at t
        obtain ⟨v1, v2⟩ := bnd false x hb
        simp only [show isNon (boD (some x)) = false from rfl, Bool.false_eq_true, if_false]
        simp_arith [boD, call0_of h3 rfl, eBelow]
        refine ⟨_, f0, ?_⟩
        refine ⟨⟨comeV C ks[i] lot 0, x.1⟩, rfl, ⟨⟨u1.mono (by decide), u2.mono (by decide)⟩, v1.mono (by decide), v2.mono (by decide)⟩, ?_⟩
        by_cases q : comeV C ks[i] lot 0 < x.1
        · have eb : bstep false (fun k => comeV C k lot 0) (some x) ks[i] = some (comeV C ks[i] lot 0, ks[i]) := by
            simp [bstep, bet, q]
          rw [eb] at t ⊢
          simp only [q, decide_true, if_true]
          refine ⟨_, f0, ?_⟩
          exact t
        · have eb : bstep false (fun k => comeV C k lot 0) (some x) ks[i] = some x := by
            simp [bstep, bet, q]
          rw [eb] at t ⊢
          simp only [q, decide_false, Bool.false_eq_true, if_false]
          exact t
    simp_arith [wrK_wk k5, call0_of h2 rfl]
    refine ⟨⟨C, ks[i], lot⟩, rfl, ⟨hC, hk, hlot⟩, ?_⟩
    have t := second (.sh (idxD ks[i])) wk_sh
    simp_arith [bd_d2, b_law_dues, call0_of h3 rfl, eBelow] at t
    rw [g1] at t ⊢
    simp_arith [wrK_wk k6, call0_of h3 rfl, eBelow]
    cases hb : bestF true (fun k => comeV C k lot 0) (ks.take i) with
    | none =>
      rw [hb] at t
      simp only [show isNon (boD none) = true from rfl, if_true]
      refine ⟨_, f0, ?_⟩
      exact t
    | some x =>
      rw [hb] at t
      obtain ⟨v1, v2⟩ := bnd true x hb
      simp only [show isNon (boD (some x)) = false from rfl, Bool.false_eq_true, if_false]
      simp_arith [boD, call0_of h3 rfl, eBelow]
      refine ⟨_, f0, ?_⟩
      refine ⟨⟨x.1, comeV C ks[i] lot 0⟩, rfl, ⟨⟨v1.mono (by decide), v2.mono (by decide)⟩, u1.mono (by decide), u2.mono (by decide)⟩, ?_⟩
      by_cases q : x.1 < comeV C ks[i] lot 0
      · have eb : bstep true (fun k => comeV C k lot 0) (some x) ks[i] = some (comeV C ks[i] lot 0, ks[i]) := by
          simp [bstep, bet, q]
        rw [eb] at t ⊢
        simp only [q, decide_true, if_true]
        refine ⟨_, f0, ?_⟩
        exact t
      · have eb : bstep true (fun k => comeV C k lot 0) (some x) ks[i] = some x := by
          simp [bstep, bet, q]
        rw [eb] at t ⊢
        simp only [q, decide_false, Bool.false_eq_true, if_false]
        exact t
  · obtain ⟨s5, s6, ⟨k5, k6⟩, rfl⟩ := hI
    rw [List.take_length]
    simp_arith
    exact hL
end K82
end

section
set_option Elab.async false
set_option linter.all false
set_option maxRecDepth 100000
set_option maxHeartbeats 4000000
set_option exponentiation.threshold 10000
/-! K85l: _law_told, law. -/
namespace K82
open PySem PL KE
theorem sz_ltr {c : Nat} (h : c < 3) : Sz 8 (.str (ltr c)) := by
  match c, h with
  | 0, _ => exact ⟨by decide +kernel, by decide +kernel, by decide +kernel⟩
  | 1, _ => exact ⟨by decide +kernel, by decide +kernel, by decide +kernel⟩
  | 2, _ => exact ⟨by decide +kernel, by decide +kernel, by decide +kernel⟩
theorem sz_mv {n : Nat} {m : Mv} (h : OkMv n m) (hn : n ≤ 6) : Sz 78 m.D := sz_tup (n := 23) (k := 3) (fun d hd => by
  obtain ⟨h1, h2, ⟨p1, p2, p3, p4⟩, _⟩ := h
  simp only [List.mem_cons, List.not_mem_nil, or_false] at hd
  rcases hd with rfl | rfl | rfl
  · exact (sz_ltr h1).mono (by decide)
  · exact (sz_int (by rw [Int.natAbs_natCast]; omega)).mono (by decide)
  · refine sz_tup (n := 8) (k := 2) (fun d hd => ?_) (by show 2 ≤ 2; decide)
    simp only [List.mem_cons, List.not_mem_nil, or_false] at hd
    rcases hd with rfl | rfl
    · exact sz_int (by omega)
    · exact sz_int (by rw [Int.natAbs_natCast]; omega)) (by show 3 ≤ 3; decide)
theorem sz_chooser {C : Chooser} (h : OkC C) : Sz 20000 (chooserD C) := by
  have : Sz (6 * ((3 * ((12 * (78 + 2) + 3) + 2) + 3) + 2) + 3) (chooserD C) := sz_tup (fun d hd => by
    obtain ⟨ds, hds, rfl⟩ := List.mem_map.mp hd
    obtain ⟨⟨a, b⟩, hc⟩ := h.ch ds hds
    refine sz_tup (fun d hd => ?_) (by rw [List.length_map]; exact b)
    obtain ⟨dd, hdd, rfl⟩ := List.mem_map.mp hd
    obtain ⟨W, hW⟩ := hc dd hdd
    refine sz_tup (fun d hd => ?_) (by rw [List.length_map]; exact hW.len)
    obtain ⟨m, hm, rfl⟩ := List.mem_map.mp hd
    exact sz_mv (hW.mv m hm) h.l1) (by rw [List.length_map]; exact h.l1)
  exact this.mono (by decide)
theorem shp_chooser {C : Chooser} (h : OkC C) : Shp 6 (chooserD C) := shp_tup fun d hd => by
  obtain ⟨ds, hds, rfl⟩ := List.mem_map.mp hd
  obtain ⟨_, hc⟩ := h.ch ds hds
  refine shp_tup fun d hd => ?_
  obtain ⟨dd, hdd, rfl⟩ := List.mem_map.mp hd
  exact shp_deed (hc dd hdd)
theorem wd_int {k : Nat} {i : Int} : Wd (k + 1) (.int i) := trivial
theorem wd_list {k : Nat} {l : List PyData} (h1 : l.length ≤ LIM) (h2 : ∀ x ∈ l, Wd k x) : Wd (k + 1) (.list l) := ⟨h1, h2⟩
theorem wd_tup {k : Nat} {l : List PyData} (h1 : l.length ≤ LIM) (h2 : ∀ x ∈ l, Wd k x) : Wd (k + 1) (.tuple l) := ⟨h1, h2⟩
theorem wd_fr {k : Nat} {q : Rat} : Wd (k + 2) (fr q) := wd_tup (by show 2 ≤ _; decide) fun x hx => by
  simp only [List.mem_cons, List.not_mem_nil, or_false] at hx
  rcases hx with rfl | rfl <;> exact wd_int
theorem wd_idx {k : Nat} {l : List Nat} (h : l.length ≤ LIM) : Wd (k + 2) (idxD l) := wd_tup (by rw [List.length_map]; exact h) fun x hx => by
  obtain ⟨a, _, rfl⟩ := List.mem_map.mp hx
  exact wd_int
theorem bestF_some {up : Bool} {f : List Nat → Rat} : ∀ {ks : List (List Nat)}, ks ≠ [] → ∃ x, bestF up f ks = some x := by
  have key : ∀ (ks : List (List Nat)) (x : Rat × List Nat), ∃ y, ks.foldl (bstep up f) (some x) = some y := by
    intro ks
    induction ks with
    | nil => exact fun x => ⟨x, rfl⟩
    | cons k ks ih =>
      intro x
      rw [List.foldl_cons]
      unfold bstep
      simp only
      split
      · exact ih _
      · exact ih _
  intro ks h
  cases ks with
  | nil => exact absurd rfl h
  | cons k ks =>
    unfold bestF
    rw [List.foldl_cons]
    exact key ks _
theorem wd_bo {up : Bool} {p : LotIn} (hp : LotOk p) : Wd 50 (boD (bcOf up p)) := by
  have hC := hp.C
  have l1 := hC.l1
  have hLIM : LIM = 16777216 := rfl
  have hne : tps p.C p.C.length ≠ [] := fun e => by
    have : List.replicate p.C.length 0 ∈ tps p.C p.C.length := (tps_all _).mpr ⟨by simp, fun i hi => by
      have := (hC.ch _ (List.getElem_mem hi)).1.1
      have : (List.replicate p.C.length 0).getD i 0 = 0 := by
        rw [List.getD_eq_getElem?_getD, List.getElem?_replicate]; split <;> rfl
      omega⟩
    rw [e] at this
    cases this
  obtain ⟨x, hx⟩ := bestF_some (up := up) (f := fun k => comeV p.C k p.lot 0) hne
  have hm := bestF_mem (up := up) (f := fun k => comeV p.C k p.lot 0) (ks := tps p.C p.C.length) _ (Nat.le_refl _) x (by rw [List.take_length]; exact hx)
  have hk := (tps_all _).mp hm.1
  have e : bcOf up p = some x := hx
  rw [e]
  refine wd_tup (by show 2 ≤ _; decide) fun d hd => ?_
  simp only [List.mem_cons, List.not_mem_nil, or_false] at hd
  rcases hd with rfl | rfl
  · exact wd_fr
  · exact wd_idx (by rw [hk.1]; omega)
def ansD (p : LotIn) : Nat → PyData
  | 0 => boD (bcOf true p)
  | 1 => boD (bcOf false p)
  | _ => .tuple ((grV ⟨p.C, p.lot, true⟩).map fr)
theorem wd_ans {p : LotIn} (hp : LotOk p) : ∀ way, way < 3 → Wd 50 (ansD p way)
  | 0, _ => wd_bo hp
  | 1, _ => wd_bo hp
  | 2, _ => by
    have l1 := hp.C.l1
    have hLIM : LIM = 16777216 := rfl
    refine wd_tup ?_ fun d hd => ?_
    · unfold grV
      rw [List.length_map, List.length_map, List.length_range]
      show p.C.length ≤ LIM
      omega
    · obtain ⟨q, _, rfl⟩ := List.mem_map.mp hd
      exact wd_fr
structure TellIn2 where
  p : LotIn
  way : Nat
  named : Bool
def eTold2 : Ent := fnE (fun q : TellIn2 => [.int (q.way : Nat), chooserD q.p.C, lotD q.p.lot, .bool q.named]) (fun q => LotOk q.p ∧ q.way < 3) (fun q => ansD q.p q.way)
theorem ltold_does {tb : Tab} (h1 : tb.fn "greatest_come" = some (eGc true)) (h2 : tb.fn "least_come" = some (eGc false)) (h3 : tb.fn "come_paper" = some ePap) : Does tb b_law_told N_law_told.length false eTold2.R := by
  rintro ds L ⟨⟨p, way, named⟩, rfl, ⟨hp, hw⟩, hL⟩
  dsimp only at hp hw hL
  match way, hw with
  | 0, _ =>
    cases named <;> (simp_arith [b_law_told, N_law_told, call0_of h1 rfl, call0_of h2 rfl, call0_of h3 rfl, PL.E_callK])
    · exact ⟨p, rfl, hp, hL⟩
    · exact ⟨eGc true, [1, 0], h1, rfl, List.mem_singleton.mpr rfl, p, rfl, hp, hL⟩
  | 1, _ =>
    cases named <;> (simp_arith [b_law_told, N_law_told, call0_of h1 rfl, call0_of h2 rfl, call0_of h3 rfl, PL.E_callK])
    · exact ⟨p, rfl, hp, hL⟩
    · exact ⟨eGc false, [1, 0], h2, rfl, List.mem_singleton.mpr rfl, p, rfl, hp, hL⟩
  | 2, _ =>
    cases named <;> (simp_arith [b_law_told, N_law_told, call0_of h1 rfl, call0_of h2 rfl, call0_of h3 rfl, PL.E_callK])
    · exact ⟨p, rfl, hp, hL⟩
    · exact ⟨ePap, [1, 0], h3, rfl, List.mem_singleton.mpr rfl, p, rfl, hp, hL⟩
theorem sz_lot {n : Nat} {lot : List Nat} (h : OkLot n lot) (hn : n ≤ 6) : Sz 63 (lotD lot) := sz_tup (n := 8) (k := 6) (fun d hd => by
  obtain ⟨a, ha, rfl⟩ := List.mem_map.mp hd
  have := h.lt a ha
  exact sz_int (by rw [Int.natAbs_natCast]; omega)) (by rw [nats, List.length_map]; exact Nat.le_trans h.len hn)
theorem chs2_at {m k cap : Nat} {w : PyData} {L : Sl → PyData → Prop} (hw : OkWl m w) (hm : m + 4000 < MM) (h0 : 0 < k) (h6 : k ≤ 6) (h : ∀ C, UniC C → ∀ w', OkWl (m + 4000) w' → L (.sh (chooserD C)) w') : eChs2.R [w, .int (k : Nat), .int (cap : Nat)] L :=
  ⟨⟨m, w, k, cap⟩, rfl, ⟨hw, hm, h0, h6⟩, fun C w' h1 h2 => h C h1 w' h2⟩
theorem lot_at {m n : Nat} {w : PyData} {L : Sl → PyData → Prop} (hw : OkWl m w) (hm : m + 100 < MM) (h0 : 0 < n) (h6 : n ≤ 6) (h : ∀ lot, OkLot n lot → ∀ w', OkWl (m + 100) w' → L (.sh (lotD lot)) w') : eLl.R [w, .int (n : Nat)] L :=
  ⟨⟨m, w, n⟩, rfl, ⟨hw, hm, h0, h6⟩, fun C w' h1 h2 => h C h1 w' h2⟩
theorem mix_at {m : Nat} {w : PyData} {xs : List PyData} {L : Sl → PyData → Prop} (hw : OkWl m w) (hm : m + 1000 < MM) (hl : xs.length ≤ 1000) (h : ∀ ys, (∀ y ∈ ys, y ∈ xs) → ys.length ≤ 1000 → ∀ w', OkWl (m + 1000) w' → L (.sh (.list ys)) w') : eMix.R [w, .list xs] L :=
  ⟨⟨m, w, xs⟩, rfl, ⟨hw, hm, hl⟩, fun ys w' h1 h2 h3 => h ys h1 h2 w' h3⟩
def bd_l9 : S := match b_law with
  | .seq (.for_ _ _ (.seq _ (.seq _ (.seq (.for_ _ _ (.seq _ (.seq _ (.seq (.for_ _ _ (.seq (.for_ _ _ b) _)) _)))) _)))) _ => b
  | _ => .skip
theorem law_does {tb : Tab} (h1 : tb.fn "_law_well" = some eWell) (h2 : tb.fn "_law_one" = some eOne) (h3 : tb.fn "_law_lot" = some eLl) (h4 : tb.fn "_law_chooser" = some eChs2) (h5 : tb.fn "_law_dues" = some eDues) (h6 : tb.fn "_law_mixed" = some eMix) (h7 : tb.fn "_law_same" = some (eSame 50)) (h8 : tb.fn "_law_told" = some eTold2) {ns : List Int} (hn : ns.length ≤ 63) (hb : ∀ z ∈ ns, Small 1048576 z) :
    wpS tb b_law (.sh (.list (ns.map .int)) :: List.replicate (N_law.length - 1) .un) fun o => match o with
      | .rt r _ => r = .sh (.bool true)
      | _ => False := by
  have hMM : MM = 2 ^ 40 := rfl
  have eLIM : LIM = 16777216 := rfl
  simp_arith [b_law, N_law, call0_of h1 rfl, callW_of h2 rfl, callW_of h4 rfl]
  rw [List.length_map]
  have ek : ∃ k : Nat, k ≤ 4 ∧ (if (if (4 : Int) < (ns.length : Int) then 4 else (ns.length : Int)) > 2 then (if (4 : Int) < (ns.length : Int) then 4 else (ns.length : Int)) else 2) = (k : Int) := by
    refine ⟨(if (if (4 : Int) < (ns.length : Int) then 4 else (ns.length : Int)) > 2 then (if (4 : Int) < (ns.length : Int) then 4 else (ns.length : Int)) else 2).toNat, ?_, ?_⟩ <;> (repeat' split) <;> omega
  obtain ⟨k, hk4, ek⟩ := ek
  rw [ek]
  refine ⟨⟨by omega, by omega⟩, ?_⟩
  rw [Int.toNat_natCast]
  unfold rangeL
  refine for_list (fun i e => ∃ s1 s2 s3 s4 s5 s6 s7 s8 s9, (Wk s1 ∧ Wk s2 ∧ Wk s3 ∧ Wk s4 ∧ Wk s5 ∧ Wk s6 ∧ Wk s7 ∧ Wk s8 ∧ Wk s9) ∧ e = [Sl.sh (.list (ns.map .int)), s1, s2, s3, s4, s5, s6, s7, s8, s9])
    ⟨.un, .un, .un, .un, .un, .un, .un, .un, .un, ⟨wk_un, wk_un, wk_un, wk_un, wk_un, wk_un, wk_un, wk_un, wk_un⟩, rfl⟩ (fun i hi e hI => ?_) fun e hI => ?_
  · obtain ⟨s1, s2, s3, s4, s5, s6, s7, s8, s9, ⟨k1, k2, k3, k4, k5, k6, k7, k8, k9⟩, rfl⟩ := hI
    rw [List.length_range] at hi
    rw [List.getElem_range]
    simp_arith [wrK_wk k1, wrK_wk k2, wrK_wk k3, call0_of h1 rfl]
    have e0 : (0 : Int) + (i : Nat) * 1 = ((i : Nat) : Int) := by omega
    rw [e0]
    refine ⟨⟨ns, i⟩, rfl, ⟨hn, by dsimp only; omega, hb⟩, fun w hw => ?_⟩
    simp_arith [wrK_wk k1, wrK_wk k2, wrK_wk k3, callW_of h2 rfl, callW_of h4 rfl]
    refine one_at (ns := [2, 3, 3, 4, 4, 6]) hw (by omega) (by decide) (by decide) fun v hv w1 hw1 => ?_
    have hv : 0 < v ∧ v ≤ 6 := by
      simp only [List.mem_cons, List.not_mem_nil, or_false] at hv
      omega
    simp_arith [callW_of h2 rfl, callW_of h4 rfl]
    refine one_at (ns := [8, 16, 36]) hw1 (by omega) (by decide) (by decide) fun cap hcap w2 hw2 => ?_
    simp_arith [callW_of h4 rfl]
    refine chs2_at hw2 (by omega) hv.1 hv.2 fun C hC w3 hw3 => ?_
    simp_arith [wrK_wk k3]
    have hCo := hC.okc
    have l0 := hCo.l0
    have l1 := hCo.l1
    have hshp := shp_chooser hCo
    have hsz := sz_chooser hCo
    refine ⟨⟨by decide, by decide⟩, ?_⟩
    unfold rangeL
    refine for_list (fun j e => ∃ w' s4 s5 s6 s7 s8 s9, (Wk s4 ∧ Wk s5 ∧ Wk s6 ∧ Wk s7 ∧ Wk s8 ∧ Wk s9) ∧ OkWl (8 + 2 + 4000 + 5000 * j) w' ∧ e = [Sl.sh (.list (ns.map .int)), .sh (.int (i : Nat)), .ow w', .sh (chooserD C), s4, s5, s6, s7, s8, s9])
      ⟨w3, s4, s5, s6, s7, s8, s9, ⟨k4, k5, k6, k7, k8, k9⟩, hw3, rfl⟩ (fun j hj e hI => ?_) fun e hI => ?_
    · obtain ⟨w', s4, s5, s6, s7, s8, s9, ⟨k4, k5, k6, k7, k8, k9⟩, hw', rfl⟩ := hI
      have hj : j < 3 := by simpa using hj
      rw [List.getElem_range]
      simp_arith [wrK_wk k4, wrK_wk k5, callW_of h3 rfl, chooserD]
      rw [List.length_map]
      refine lot_at hw' (by omega) l0 l1 fun lot hlot w4 hw4 => ?_
      have lp : LotOk ⟨C, lot⟩ := ⟨hCo, hlot⟩
      have ec : PyData.tuple (C.map choiceD) = chooserD C := rfl
      simp_arith [wrK_wk k5, wrK_wk k6, wrK_wk k7, call0_of h5 rfl, ec, eDues]
      have szc : Sz (2 * (20000 + 2) + 3) (.list [chooserD C, lotD lot]) := sz_list (fun d hd => by
        simp only [List.mem_cons, List.not_mem_nil, or_false] at hd
        rcases hd with rfl | rfl
        · exact hsz
        · exact (sz_lot hlot l1).mono (by decide)) (by show 2 ≤ 2; decide)
      have shc : SeqAt.shaped (.list [chooserD C, lotD lot]) = true := shp_shaped (n := 7) (shp_list fun d hd => by
        simp only [List.mem_cons, List.not_mem_nil, or_false] at hd
        rcases hd with rfl | rfl
        · exact hshp
        · exact ⟨(shp_lot lot).1, Nat.le_trans (shp_lot lot).2 (by decide)⟩) (by decide)
      have hst : SeqAt.shaped (.str (PyData.list [chooserD C, lotD lot]).shown) = true := szc.shp
      obtain ⟨z1, z2, _⟩ := id szc
      refine ⟨⟨rfl, shc, z1, Nat.le_trans z2 (by decide)⟩, ⟨C, lot⟩, rfl, lp, ?_⟩
      refine for_list (as := [false, true]) (inp := PyData.bool) (fun t e => ∃ w' s8 s9, (Wk s8 ∧ Wk s9) ∧ OkWl (8 + 2 + 4000 + 5000 * j + 100 + 1000 * t) w' ∧ e = [Sl.sh (.list (ns.map .int)), .sh (.int (i : Nat)), .ow w', .sh (chooserD C), .sh (.int (0 + (j : Nat) * 1)), .sh (lotD lot), .sh (.str (PyData.list [chooserD C, lotD lot]).shown), .sh (dueL ⟨C, lot⟩), s8, s9])
        ⟨w4, s8, s9, ⟨k8, k9⟩, hw4, rfl⟩ (fun t ht e hI => ?_) fun e hI => ?_
      · obtain ⟨w5, s8, s9, ⟨k8, k9⟩, hw5, rfl⟩ := hI
        have ht : t < 2 := ht
        generalize ([false, true])[t] = named
        simp_arith [wrK_wk k8, callW_of h6 rfl]
        refine mix_at hw5 (by omega) (by decide) fun ys hys hyl w6 hw6 => ?_
        simp_arith
        have fin : ∀ ys' : List PyData, (∀ y ∈ ys', y ∈ [PyData.int 0, .int 1, .int 2]) → ∀ s9, Wk s9 → ∀ Q : Out → Prop, (∀ s9, Wk s9 → Q (.nx [Sl.sh (.list (ns.map .int)), .sh (.int (i : Nat)), .ow w6, .sh (chooserD C), .sh (.int (0 + (j : Nat) * 1)), .sh (lotD lot), .sh (.str (PyData.list [chooserD C, lotD lot]).shown), .sh (dueL ⟨C, lot⟩), .sh (.bool named), s9])) → loopF (wpG (.name 9)) (wpS tb bd_l9) ys' [Sl.sh (.list (ns.map .int)), .sh (.int (i : Nat)), .ow w6, .sh (chooserD C), .sh (.int (0 + (j : Nat) * 1)), .sh (lotD lot), .sh (.str (PyData.list [chooserD C, lotD lot]).shown), .sh (dueL ⟨C, lot⟩), .sh (.bool named), s9] Q := by
          intro ys' hys s9 k9 Q hQ
          refine for_ok (fun u e => ∃ s9, Wk s9 ∧ e = [Sl.sh (.list (ns.map .int)), .sh (.int (i : Nat)), .ow w6, .sh (chooserD C), .sh (.int (0 + (j : Nat) * 1)), .sh (lotD lot), .sh (.str (PyData.list [chooserD C, lotD lot]).shown), .sh (dueL ⟨C, lot⟩), .sh (.bool named), s9]) ⟨s9, k9, rfl⟩ (fun u y e hy hI => ?_) fun e hI => ?_
          · obtain ⟨s9, k9, rfl⟩ := hI
            have hy := hys y (List.mem_of_getElem? hy)
            have way : ∃ way : Nat, way < 3 ∧ y = .int (way : Nat) ∧ L2.atI [boD (bcOf true ⟨C, lot⟩), boD (bcOf false ⟨C, lot⟩), .tuple ((grV ⟨C, lot, true⟩).map fr)] (way : Int) = some (ansD ⟨C, lot⟩ way) := by
              simp only [List.mem_cons, List.not_mem_nil, or_false] at hy
              rcases hy with rfl | rfl | rfl
              · exact ⟨0, by decide, rfl, rfl⟩
              · exact ⟨1, by decide, rfl, rfl⟩
              · exact ⟨2, by decide, rfl, rfl⟩
            obtain ⟨way, hway, rfl, hat⟩ := way
            simp_arith [bd_l9, b_law, wrK_wk k9, call0_of h7 rfl, call0_of h8 rfl]
            refine ⟨⟨⟨C, lot⟩, way, named⟩, rfl, ⟨lp, hway⟩, ?_⟩
            simp_arith [dueL]
            refine ⟨_, hat, ansD ⟨C, lot⟩ way, rfl, wd_ans lp way hway, ?_⟩
            simp_arith
            exact ⟨_, wk_sh, rfl⟩
          · obtain ⟨s9, k9, rfl⟩ := hI
            exact hQ s9 k9
        refine fin ys hys s9 k9 _ fun s9 k9 => ?_
        simp_arith
        exact ⟨w6, _, s9, ⟨wk_sh, k9⟩, hw6.mono (by omega), rfl⟩
      · obtain ⟨w5, s8, s9, ⟨k8, k9⟩, hw5, rfl⟩ := hI
        have hw5 : OkWl (8 + 2 + 4000 + 5000 * j + 100 + 2000) w5 := hw5
        have hss : ∀ x : Str, SeqAt.shaped (.str x) = true → PyData.eqv (.str x) (.str x) = true := fun x h => SeqAt.eqv_refl _ (SeqAt.canLay_of_shaped h)
        simp_arith [C_ne]
        refine ⟨⟨rfl, shc, z1, Nat.le_trans z2 (by decide)⟩, hst, hst, ?_⟩
        simp only [hss _ hst, Bool.not_true, Bool.false_eq_true, if_false]
        exact ⟨w5, _, _, _, _, s8, s9, ⟨wk_sh, wk_sh, wk_sh, wk_sh, k8, k9⟩, hw5.mono (by omega), rfl⟩
    · obtain ⟨w', s4, s5, s6, s7, s8, s9, ⟨k4, k5, k6, k7, k8, k9⟩, hw', rfl⟩ := hI
      simp_arith
      exact ⟨_, _, _, _, _, _, _, _, _, ⟨wk_sh, wk_ow, wk_sh, k4, k5, k6, k7, k8, k9⟩, rfl⟩
  · obtain ⟨s1, s2, s3, s4, s5, s6, s7, s8, s9, _, rfl⟩ := hI
    simp_arith
end K82
end

section
set_option Elab.async false
set_option linter.all false
set_option maxRecDepth 100000
set_option maxHeartbeats 0
/-! the head's facts, the run. -/
namespace K82
open PySem PySem.Spec PyProof.Rows L2 PL
def d_greatest_divisor : He.DefD := ⟨("greatest_divisor", none), "greatest_divisor", "greatest_divisor", defArgs st_greatest_divisor, defBody st_greatest_divisor, defScope st_greatest_divisor, [], []⟩
def d_least_multiple : He.DefD := ⟨("least_multiple", none), "least_multiple", "least_multiple", defArgs st_least_multiple, defBody st_least_multiple, defScope st_least_multiple, [], []⟩
def d_lowest : He.DefD := ⟨("lowest", none), "lowest", "lowest", defArgs st_lowest, defBody st_lowest, defScope st_lowest, [], []⟩
def d_minus : He.DefD := ⟨("minus", none), "minus", "minus", defArgs st_minus, defBody st_minus, defScope st_minus, [], []⟩
def d_is_less : He.DefD := ⟨("is_less", none), "is_less", "is_less", defArgs st_is_less, defBody st_is_less, defScope st_is_less, [], []⟩
def d_is_at_most : He.DefD := ⟨("is_at_most", none), "is_at_most", "is_at_most", defArgs st_is_at_most, defBody st_is_at_most, defScope st_is_at_most, [], []⟩
def d_common_below : He.DefD := ⟨("common_below", none), "common_below", "common_below", defArgs st_common_below, defBody st_common_below, defScope st_common_below, [], []⟩
def d_numbers_of : He.DefD := ⟨("numbers_of", none), "numbers_of", "numbers_of", defArgs st_numbers_of, defBody st_numbers_of, defScope st_numbers_of, [], []⟩
def d_smallest : He.DefD := ⟨("smallest", none), "smallest", "smallest", defArgs st_smallest, defBody st_smallest, defScope st_smallest, [], []⟩
def d_total : He.DefD := ⟨("total", none), "total", "total", defArgs st_total, defBody st_total, defScope st_total, [], []⟩
def d_place_to_begin : He.DefD := ⟨("place_to_begin", none), "place_to_begin", "place_to_begin", defArgs st_place_to_begin, defBody st_place_to_begin, defScope st_place_to_begin, [], []⟩
def d_without_place : He.DefD := ⟨("without_place", none), "without_place", "without_place", defArgs st_without_place, defBody st_without_place, defScope st_without_place, [], []⟩
def d_solved : He.DefD := ⟨("solved", none), "solved", "solved", defArgs st_solved, defBody st_solved, defScope st_solved, [], []⟩
def d_is_integer : He.DefD := ⟨("is_integer", none), "is_integer", "is_integer", defArgs st_is_integer, defBody st_is_integer, defScope st_is_integer, [.non, .non], []⟩
def d_is_fraction : He.DefD := ⟨("is_fraction", none), "is_fraction", "is_fraction", defArgs st_is_fraction, defBody st_is_fraction, defScope st_is_fraction, [], []⟩
def d_is_small_fraction : He.DefD := ⟨("is_small_fraction", none), "is_small_fraction", "is_small_fraction", defArgs st_is_small_fraction, defBody st_is_small_fraction, defScope st_is_small_fraction, [], []⟩
def d_is_letter : He.DefD := ⟨("is_letter", none), "is_letter", "is_letter", defArgs st_is_letter, defBody st_is_letter, defScope st_is_letter, [], []⟩
def d_is_move : He.DefD := ⟨("is_move", none), "is_move", "is_move", defArgs st_is_move, defBody st_is_move, defScope st_is_move, [], []⟩
def d_are_moves : He.DefD := ⟨("are_moves", none), "are_moves", "are_moves", defArgs st_are_moves, defBody st_are_moves, defScope st_are_moves, [], []⟩
def d_lowest_moves : He.DefD := ⟨("lowest_moves", none), "lowest_moves", "lowest_moves", defArgs st_lowest_moves, defBody st_lowest_moves, defScope st_lowest_moves, [], []⟩
def d_leading_to : He.DefD := ⟨("leading_to", none), "leading_to", "leading_to", defArgs st_leading_to, defBody st_leading_to, defScope st_leading_to, [], []⟩
def d_least_solution : He.DefD := ⟨("least_solution", none), "least_solution", "least_solution", defArgs st_least_solution, defBody st_least_solution, defScope st_least_solution, [], []⟩
def d_is_choice : He.DefD := ⟨("is_choice", none), "is_choice", "is_choice", defArgs st_is_choice, defBody st_is_choice, defScope st_is_choice, [], []⟩
def d_is_chooser : He.DefD := ⟨("is_chooser", none), "is_chooser", "is_chooser", defArgs st_is_chooser, defBody st_is_chooser, defScope st_is_chooser, [], []⟩
def d_plain_chooser : He.DefD := ⟨("plain_chooser", none), "plain_chooser", "plain_chooser", defArgs st_plain_chooser, defBody st_plain_chooser, defScope st_plain_chooser, [], []⟩
def d_all_deeds : He.DefD := ⟨("all_deeds", none), "all_deeds", "all_deeds", defArgs st_all_deeds, defBody st_all_deeds, defScope st_all_deeds, [], []⟩
def d_is_better : He.DefD := ⟨("is_better", none), "is_better", "is_better", defArgs st_is_better, defBody st_is_better, defScope st_is_better, [], []⟩
def d_coming_by : He.DefD := ⟨("coming_by", none), "coming_by", "coming_by", defArgs st_coming_by, defBody st_coming_by, defScope st_coming_by, [], []⟩
def d_best_coming : He.DefD := ⟨("best_coming", none), "best_coming", "best_coming", defArgs st_best_coming, defBody st_best_coming, defScope st_best_coming, [], []⟩
def d_greatest_values : He.DefD := ⟨("greatest_values", none), "greatest_values", "greatest_values", defArgs st_greatest_values, defBody st_greatest_values, defScope st_greatest_values, [], []⟩
def d_is_ascending_lot : He.DefD := ⟨("is_ascending_lot", none), "is_ascending_lot", "is_ascending_lot", defArgs st_is_ascending_lot, defBody st_is_ascending_lot, defScope st_is_ascending_lot, [], []⟩
def d_need_chooser : He.DefD := ⟨("need_chooser", none), "need_chooser", "need_chooser", defArgs st_need_chooser, defBody st_need_chooser, defScope st_need_chooser, [], []⟩
def d_need_lot : He.DefD := ⟨("need_lot", none), "need_lot", "need_lot", defArgs st_need_lot, defBody st_need_lot, defScope st_need_lot, [], []⟩
def d_greatest_come : He.DefD := ⟨("greatest_come", none), "greatest_come", "greatest_come", defArgs st_greatest_come, defBody st_greatest_come, defScope st_greatest_come, [], []⟩
def d_least_come : He.DefD := ⟨("least_come", none), "least_come", "least_come", defArgs st_least_come, defBody st_least_come, defScope st_least_come, [], []⟩
def d_come_paper : He.DefD := ⟨("come_paper", none), "come_paper", "come_paper", defArgs st_come_paper, defBody st_come_paper, defScope st_come_paper, [], []⟩
def d_law_well : He.DefD := ⟨("_law_well", none), "_law_well", "_law_well", defArgs st_law_well, defBody st_law_well, defScope st_law_well, [], []⟩
def d_law_dip : He.DefD := ⟨("_law_dip", none), "_law_dip", "_law_dip", defArgs st_law_dip, defBody st_law_dip, defScope st_law_dip, [], []⟩
def d_law_one : He.DefD := ⟨("_law_one", none), "_law_one", "_law_one", defArgs st_law_one, defBody st_law_one, defScope st_law_one, [], []⟩
def d_law_mixed : He.DefD := ⟨("_law_mixed", none), "_law_mixed", "_law_mixed", defArgs st_law_mixed, defBody st_law_mixed, defScope st_law_mixed, [], []⟩
def d_law_low : He.DefD := ⟨("_law_low", none), "_law_low", "_law_low", defArgs st_law_low, defBody st_law_low, defScope st_law_low, [], []⟩
def d_law_plus : He.DefD := ⟨("_law_plus", none), "_law_plus", "_law_plus", defArgs st_law_plus, defBody st_law_plus, defScope st_law_plus, [], []⟩
def d_law_times : He.DefD := ⟨("_law_times", none), "_law_times", "_law_times", defArgs st_law_times, defBody st_law_times, defScope st_law_times, [], []⟩
def d_law_sum : He.DefD := ⟨("_law_sum", none), "_law_sum", "_law_sum", defArgs st_law_sum, defBody st_law_sum, defScope st_law_sum, [], []⟩
def d_law_below : He.DefD := ⟨("_law_below", none), "_law_below", "_law_below", defArgs st_law_below, defBody st_law_below, defScope st_law_below, [], []⟩
def d_law_same : He.DefD := ⟨("_law_same", none), "_law_same", "_law_same", defArgs st_law_same, defBody st_law_same, defScope st_law_same, [], []⟩
def d_law_moves : He.DefD := ⟨("_law_moves", none), "_law_moves", "_law_moves", defArgs st_law_moves, defBody st_law_moves, defScope st_law_moves, [], []⟩
def d_law_doubled : He.DefD := ⟨("_law_doubled", none), "_law_doubled", "_law_doubled", defArgs st_law_doubled, defBody st_law_doubled, defScope st_law_doubled, [], []⟩
def d_law_chooser : He.DefD := ⟨("_law_chooser", none), "_law_chooser", "_law_chooser", defArgs st_law_chooser, defBody st_law_chooser, defScope st_law_chooser, [], []⟩
def d_law_lot : He.DefD := ⟨("_law_lot", none), "_law_lot", "_law_lot", defArgs st_law_lot, defBody st_law_lot, defScope st_law_lot, [], []⟩
def d_law_tuples : He.DefD := ⟨("_law_tuples", none), "_law_tuples", "_law_tuples", defArgs st_law_tuples, defBody st_law_tuples, defScope st_law_tuples, [], []⟩
def d_law_least : He.DefD := ⟨("_law_least", none), "_law_least", "_law_least", defArgs st_law_least, defBody st_law_least, defScope st_law_least, [], []⟩
def d_law_comes : He.DefD := ⟨("_law_comes", none), "_law_comes", "_law_comes", defArgs st_law_comes, defBody st_law_comes, defScope st_law_comes, [], []⟩
def d_law_dues : He.DefD := ⟨("_law_dues", none), "_law_dues", "_law_dues", defArgs st_law_dues, defBody st_law_dues, defScope st_law_dues, [], []⟩
def d_law_told : He.DefD := ⟨("_law_told", none), "_law_told", "_law_told", defArgs st_law_told, defBody st_law_told, defScope st_law_told, [], []⟩
def d_law : He.DefD := ⟨("law", none), "law", "law", defArgs st_law, defBody st_law, defScope st_law, [], []⟩
def fn1 : List He.DefD := [d_greatest_divisor, d_least_multiple, d_lowest, d_minus, d_is_less, d_is_at_most, d_common_below, d_numbers_of, d_smallest, d_total, d_place_to_begin, d_without_place, d_solved, d_is_integer, d_is_fraction, d_is_small_fraction, d_is_letter, d_is_move, d_are_moves, d_lowest_moves, d_leading_to, d_least_solution, d_is_choice, d_is_chooser, d_plain_chooser]
def fn2 : List He.DefD := [d_all_deeds, d_is_better, d_coming_by, d_best_coming, d_greatest_values, d_is_ascending_lot, d_need_chooser, d_need_lot, d_greatest_come, d_least_come, d_come_paper, d_law_well, d_law_dip, d_law_one, d_law_mixed, d_law_low, d_law_plus, d_law_times, d_law_sum, d_law_below, d_law_same, d_law_moves, d_law_doubled, d_law_chooser, d_law_lot]
def fn3 : List He.DefD := [d_law_tuples, d_law_least, d_law_comes, d_law_dues, d_law_told, d_law]
def fn : List He.DefD := fn1 ++ fn2 ++ fn3
def fa1 : List He.Fa := [.glo "greatest_divisor", .glo "least_multiple", .glo "lowest", .glo "minus", .glo "is_less", .glo "is_at_most", .glo "common_below", .glo "numbers_of", .glo "smallest", .glo "total", .glo "place_to_begin", .glo "without_place", .glo "solved", .glo "is_integer", .glo "is_fraction", .glo "is_small_fraction", .glo "is_letter", .glo "is_move", .glo "are_moves", .glo "lowest_moves", .glo "leading_to", .glo "least_solution", .glo "is_choice", .glo "is_chooser", .glo "plain_chooser"]
def fa2 : List He.Fa := [.glo "all_deeds", .glo "is_better", .glo "coming_by", .glo "best_coming", .glo "greatest_values", .glo "is_ascending_lot", .glo "need_chooser", .glo "need_lot", .glo "greatest_come", .glo "least_come", .glo "come_paper", .glo "_law_well", .glo "_law_dip", .glo "_law_one", .glo "_law_mixed", .glo "_law_low", .glo "_law_plus", .glo "_law_times", .glo "_law_sum", .glo "_law_below", .glo "_law_same", .glo "_law_moves", .glo "_law_doubled", .glo "_law_chooser", .glo "_law_lot"]
def fa3 : List He.Fa := [.glo "_law_tuples", .glo "_law_least", .glo "_law_comes", .glo "_law_dues", .glo "_law_told", .glo "law"]
def fa4 : List He.Fa := [.free "len", .free "abs", .free "min", .free "max", .free "sum", .free "list", .free "tuple", .free "int", .free "repr", .free "sorted", .free "all", .free "any", .free "isinstance", .free "bool", .free "str", .free "dict", .free "range", .free "enumerate", .free "zip"]
def fa5 : List He.Fa := [.int "MOST_SPEAKER_STATES" 6, .int "MOST_MOVES" 12, .int "MOST_BELOW" 1000000, .int "MOST_CHOICES" 3, .glo "ZERO", .glo "ONE", .glo "LETTERS"]
def fa : List He.Fa := fa1 ++ (fa2 ++ (fa3 ++ (fa4 ++ (fa5))))
def tups : List (Str × List He.Dv) := [("ZERO", [.int 0, .int 1]), ("ONE", [.int 1, .int 1]), ("LETTERS", [.str "a", .str "b", .str "c"])]
def loose0 : List Str := ["__name__", "ZERO", "ONE", "greatest_divisor", "least_multiple", "lowest", "minus", "is_less", "is_at_most", "common_below", "numbers_of", "smallest", "total", "place_to_begin", "without_place", "solved", "ChanceError", "BadChooser", "BadLot", "is_integer"]
def loose1 : List Str := ["is_fraction", "LETTERS", "MOST_SPEAKER_STATES", "MOST_MOVES", "MOST_BELOW", "is_small_fraction", "is_letter", "is_move", "are_moves", "lowest_moves", "leading_to", "least_solution", "MOST_CHOICES", "is_choice", "is_chooser", "plain_chooser", "all_deeds", "is_better", "coming_by", "best_coming"]
def loose2 : List Str := ["greatest_values", "is_ascending_lot", "need_chooser", "need_lot", "greatest_come", "least_come", "come_paper", "_law_well", "_law_dip", "_law_one", "_law_mixed", "_law_low", "_law_plus", "_law_times", "_law_sum", "_law_below", "_law_same", "_law_moves", "_law_doubled", "_law_chooser"]
def loose3 : List Str := ["_law_lot", "_law_tuples", "_law_least", "_law_comes", "_law_dues", "_law_told"]
def loose : List Str := loose0 ++ loose1 ++ loose2 ++ loose3
abbrev R : PySem.W.OpenRow := PySem.W.OpenLaw.row PySem.Challenge.rw_spokenalike_k85_whole_coming_to_a_lot_by
abbrev qvw : PySem.Program := PySem.W.view R.prog [74]
abbrev hk : PySem.W.Hook := hookP 4 fa fn tups
def ob (s : PySem.W.SharedT) : AlP := obsPG 4 fa fn tups (HandSHeadRun.getT s)
theorem ob_eq (s : PySem.W.SharedT) : ob s = hk.obs s.abs := obsPG_eq (HandSHeadRun.getT_eq s)
theorem run (w : World) : HandSHeadRun.RunEq R qvw hk ob 4000 loose w := by
  intro os
  kernel_rfl
end K82
end

section
set_option Elab.async false
set_option linter.all false
set_option maxRecDepth 100000
set_option maxHeartbeats 0
namespace K82
open PySem PySem.Spec PyProof.Rows L2 PL
def gsT : List (Str × PyData) := [("ZERO", pr 0 1), ("ONE", pr 1 1), ("LETTERS", .tuple [.str "a", .str "b", .str "c"]), ("MOST_SPEAKER_STATES", .int 6), ("MOST_MOVES", .int 12), ("MOST_BELOW", .int 1000000), ("MOST_CHOICES", .int 3)]
theorem glT (fs : List (Str × Ent)) : Gl (tabOf fs gsT) := ⟨rfl, rfl, rfl, rfl, rfl, rfl, rfl⟩
def F0 : List (Str × Ent) := []
def F1 : List (Str × Ent) := ("greatest_divisor", eGd) :: F0
def F2 : List (Str × Ent) := ("least_multiple", eLcm) :: F1
def F3 : List (Str × Ent) := ("lowest", eLow) :: F2
def F4 : List (Str × Ent) := ("minus", eMinus) :: F3
def F5 : List (Str × Ent) := ("is_less", eLess) :: F4
def F6 : List (Str × Ent) := ("is_at_most", eAtMost) :: F5
def F7 : List (Str × Ent) := ("common_below", eCb) :: F6
def F8 : List (Str × Ent) := ("numbers_of", eNum) :: F7
def F9 : List (Str × Ent) := ("smallest", eSml) :: F8
def F10 : List (Str × Ent) := ("total", eTot) :: F9
def F11 : List (Str × Ent) := ("place_to_begin", eBeg) :: F10
def F12 : List (Str × Ent) := ("without_place", eWo) :: F11
def F13 : List (Str × Ent) := ("solved", eSolv) :: F12
def F14 : List (Str × Ent) := ("is_integer", eInt) :: F13
def F15 : List (Str × Ent) := ("is_fraction", eFrac) :: F14
def F16 : List (Str × Ent) := ("is_small_fraction", eSmF) :: F15
def F17 : List (Str × Ent) := ("is_letter", eLet) :: F16
def F18 : List (Str × Ent) := ("is_move", eMove) :: F17
def F19 : List (Str × Ent) := ("are_moves", eMoves) :: F18
def F20 : List (Str × Ent) := ("lowest_moves", eLowM) :: F19
def F21 : List (Str × Ent) := ("leading_to", eLead) :: F20
def F22 : List (Str × Ent) := ("least_solution", eLst) :: F21
def F23 : List (Str × Ent) := ("is_choice", eChoice) :: F22
def F24 : List (Str × Ent) := ("is_chooser", eChooser) :: F23
def F25 : List (Str × Ent) := ("plain_chooser", ePlain) :: F24
def F26 : List (Str × Ent) := ("all_deeds", eAllD) :: F25
def F27 : List (Str × Ent) := ("is_better", eBet) :: F26
def F28 : List (Str × Ent) := ("coming_by", eCome) :: F27
def F29 : List (Str × Ent) := ("best_coming", eBc) :: F28
def F30 : List (Str × Ent) := ("greatest_values", eGv) :: F29
def F31 : List (Str × Ent) := ("is_ascending_lot", eAsc) :: F30
def F32 : List (Str × Ent) := ("need_chooser", eNeed) :: F31
def F33 : List (Str × Ent) := ("need_lot", eNLot) :: F32
def F34 : List (Str × Ent) := ("greatest_come", (eGc true)) :: F33
def F35 : List (Str × Ent) := ("least_come", (eGc false)) :: F34
def F36 : List (Str × Ent) := ("come_paper", ePap) :: F35
def F37 : List (Str × Ent) := ("_law_well", eWell) :: F36
def F38 : List (Str × Ent) := ("_law_dip", eDip) :: F37
def F39 : List (Str × Ent) := ("_law_one", eOne) :: F38
def F40 : List (Str × Ent) := ("_law_mixed", eMix) :: F39
def F41 : List (Str × Ent) := ("_law_low", eLow) :: F40
def F42 : List (Str × Ent) := ("_law_plus", ePlus) :: F41
def F43 : List (Str × Ent) := ("_law_times", eTimes) :: F42
def F44 : List (Str × Ent) := ("_law_sum", eSum) :: F43
def F45 : List (Str × Ent) := ("_law_below", eBelow) :: F44
def F46 : List (Str × Ent) := ("_law_same", (eSame 50)) :: F45
def F47 : List (Str × Ent) := ("_law_moves", eMvs) :: F46
def F48 : List (Str × Ent) := ("_law_doubled", eDbl) :: F47
def F49 : List (Str × Ent) := ("_law_chooser", eChs2) :: F48
def F50 : List (Str × Ent) := ("_law_lot", eLl) :: F49
def F51 : List (Str × Ent) := ("_law_tuples", eTup) :: F50
def F52 : List (Str × Ent) := ("_law_least", eLLs) :: F51
def F53 : List (Str × Ent) := ("_law_comes", eComes) :: F52
def F54 : List (Str × Ent) := ("_law_dues", eDues) :: F53
def F55 : List (Str × Ent) := ("_law_told", eTold2) :: F54
section
variable {P : Program} {w : World} {K : PySem.W.Frag} {mg : Str → Option Value} {base : Heap}
theorem T0 (X : K.In base) (G : base.Ns mainGlobals mg) (c : SaysP fa fn tups K) : Tk (tabOf F0 gsT) 0 P w K mg base := by
  refine tk_nil (fun p hp => ?_) fun x hx => ?_
  · simp only [gsT, List.mem_cons, List.not_mem_nil, or_false] at hp
    rcases hp with rfl | rfl | rfl | rfl | rfl | rfl | rfl
    · exact gl_tup X G c (vs := [.int 0, .int 1]) (List.mem_of_getElem? (i := 79) rfl) (List.mem_of_getElem? (i := 0) rfl) rfl (by decide)
    · exact gl_tup X G c (vs := [.int 1, .int 1]) (List.mem_of_getElem? (i := 80) rfl) (List.mem_of_getElem? (i := 1) rfl) rfl (by decide)
    · exact gl_tup X G c (vs := [.str "a", .str "b", .str "c"]) (List.mem_of_getElem? (i := 81) rfl) (List.mem_of_getElem? (i := 2) rfl) rfl (by decide)
    · exact gl_int X G c (List.mem_of_getElem? (i := 75) rfl)
    · exact gl_int X G c (List.mem_of_getElem? (i := 76) rfl)
    · exact gl_int X G c (List.mem_of_getElem? (i := 77) rfl)
    · exact gl_int X G c (List.mem_of_getElem? (i := 78) rfl)
  · simp only [biNames, List.mem_cons, List.not_mem_nil, or_false] at hx
    rcases hx with rfl | rfl | rfl | rfl | rfl | rfl | rfl | rfl | rfl | rfl | rfl | rfl | rfl | rfl | rfl | rfl | rfl | rfl | rfl
    · exact He.free_ok X G (c.fact (List.mem_of_getElem? (i := 56) rfl))
    · exact He.free_ok X G (c.fact (List.mem_of_getElem? (i := 57) rfl))
    · exact He.free_ok X G (c.fact (List.mem_of_getElem? (i := 58) rfl))
    · exact He.free_ok X G (c.fact (List.mem_of_getElem? (i := 59) rfl))
    · exact He.free_ok X G (c.fact (List.mem_of_getElem? (i := 60) rfl))
    · exact He.free_ok X G (c.fact (List.mem_of_getElem? (i := 61) rfl))
    · exact He.free_ok X G (c.fact (List.mem_of_getElem? (i := 62) rfl))
    · exact He.free_ok X G (c.fact (List.mem_of_getElem? (i := 63) rfl))
    · exact He.free_ok X G (c.fact (List.mem_of_getElem? (i := 64) rfl))
    · exact He.free_ok X G (c.fact (List.mem_of_getElem? (i := 65) rfl))
    · exact He.free_ok X G (c.fact (List.mem_of_getElem? (i := 66) rfl))
    · exact He.free_ok X G (c.fact (List.mem_of_getElem? (i := 67) rfl))
    · exact He.free_ok X G (c.fact (List.mem_of_getElem? (i := 68) rfl))
    · exact He.free_ok X G (c.fact (List.mem_of_getElem? (i := 69) rfl))
    · exact He.free_ok X G (c.fact (List.mem_of_getElem? (i := 70) rfl))
    · exact He.free_ok X G (c.fact (List.mem_of_getElem? (i := 71) rfl))
    · exact He.free_ok X G (c.fact (List.mem_of_getElem? (i := 72) rfl))
    · exact He.free_ok X G (c.fact (List.mem_of_getElem? (i := 73) rfl))
    · exact He.free_ok X G (c.fact (List.mem_of_getElem? (i := 74) rfl))
theorem T1 (X : K.In base) (G : base.Ns mainGlobals mg) (c : SaysP fa fn tups K) : Tk (tabOf F1 gsT) 1 P w K mg base :=
  have t := T0 X G c
  t.more (cb_g X G c t (d := d_greatest_divisor) (List.mem_of_getElem? (i := 0) rfl) rfl rfl rfl (List.mem_of_getElem? (i := 0) rfl) ck_greatest_divisor (gd_does _ ) (fun _ _ h => by obtain ⟨_, rfl, _⟩ := h; rfl) rfl (fun _ _ _ _ _ _ us hl => match us, hl with | [_, _], _ => rfl) (fun _ _ h => by cases h)) (Nat.le_succ _)
theorem T2 (X : K.In base) (G : base.Ns mainGlobals mg) (c : SaysP fa fn tups K) : Tk (tabOf F2 gsT) 2 P w K mg base :=
  have t := T1 X G c
  t.more (cb_g X G c t (d := d_least_multiple) (List.mem_of_getElem? (i := 1) rfl) rfl rfl rfl (List.mem_of_getElem? (i := 1) rfl) ck_least_multiple (lcm_does (by kernel_rfl)) (fun _ _ h => by obtain ⟨_, rfl, _⟩ := h; rfl) rfl (fun _ _ _ _ _ _ us hl => match us, hl with | [_, _], _ => rfl) (fun _ _ h => by cases h)) (Nat.le_succ _)
theorem T3 (X : K.In base) (G : base.Ns mainGlobals mg) (c : SaysP fa fn tups K) : Tk (tabOf F3 gsT) 3 P w K mg base :=
  have t := T2 X G c
  t.more (cb_g X G c t (d := d_lowest) (List.mem_of_getElem? (i := 2) rfl) rfl rfl rfl (List.mem_of_getElem? (i := 2) rfl) ck_lowest (low_does (by kernel_rfl)) (fun _ _ h => by obtain ⟨_, rfl, _⟩ := h; rfl) rfl (fun _ _ _ _ _ _ us hl => match us, hl with | [_, _], _ => rfl) (fun _ _ h => by cases h)) (Nat.le_succ _)
theorem T4 (X : K.In base) (G : base.Ns mainGlobals mg) (c : SaysP fa fn tups K) : Tk (tabOf F4 gsT) 4 P w K mg base :=
  have t := T3 X G c
  t.more (cb_g X G c t (d := d_minus) (List.mem_of_getElem? (i := 3) rfl) rfl rfl rfl (List.mem_of_getElem? (i := 3) rfl) ck_minus (minus_does (by kernel_rfl)) (fun _ _ h => by obtain ⟨_, rfl, _⟩ := h; rfl) rfl (fun _ _ _ _ _ _ us hl => match us, hl with | [_, _], _ => rfl) (fun _ _ h => by cases h)) (Nat.le_succ _)
theorem T5 (X : K.In base) (G : base.Ns mainGlobals mg) (c : SaysP fa fn tups K) : Tk (tabOf F5 gsT) 5 P w K mg base :=
  have t := T4 X G c
  t.more (cb_g X G c t (d := d_is_less) (List.mem_of_getElem? (i := 4) rfl) rfl rfl rfl (List.mem_of_getElem? (i := 4) rfl) ck_is_less (less_does ) (fun _ _ h => by obtain ⟨_, rfl, _⟩ := h; rfl) rfl (fun _ _ _ _ _ _ us hl => match us, hl with | [_, _], _ => rfl) (fun _ _ h => by cases h)) (Nat.le_succ _)
theorem T6 (X : K.In base) (G : base.Ns mainGlobals mg) (c : SaysP fa fn tups K) : Tk (tabOf F6 gsT) 6 P w K mg base :=
  have t := T5 X G c
  t.more (cb_g X G c t (d := d_is_at_most) (List.mem_of_getElem? (i := 5) rfl) rfl rfl rfl (List.mem_of_getElem? (i := 5) rfl) ck_is_at_most (atMost_does ) (fun _ _ h => by obtain ⟨_, rfl, _⟩ := h; rfl) rfl (fun _ _ _ _ _ _ us hl => match us, hl with | [_, _], _ => rfl) (fun _ _ h => by cases h)) (Nat.le_succ _)
theorem T7 (X : K.In base) (G : base.Ns mainGlobals mg) (c : SaysP fa fn tups K) : Tk (tabOf F7 gsT) 7 P w K mg base :=
  have t := T6 X G c
  t.more (cb_g X G c t (d := d_common_below) (List.mem_of_getElem? (i := 6) rfl) rfl rfl rfl (List.mem_of_getElem? (i := 6) rfl) ck_common_below (cb_does (by kernel_rfl)) (fun _ _ h => by obtain ⟨_, rfl, _⟩ := h; rfl) rfl (fun _ _ _ _ _ _ us hl => match us, hl with | [_], _ => rfl) (fun _ _ h => by cases h)) (Nat.le_succ _)
theorem T8 (X : K.In base) (G : base.Ns mainGlobals mg) (c : SaysP fa fn tups K) : Tk (tabOf F8 gsT) 8 P w K mg base :=
  have t := T7 X G c
  t.more (cb_g X G c t (d := d_numbers_of) (List.mem_of_getElem? (i := 7) rfl) rfl rfl rfl (List.mem_of_getElem? (i := 7) rfl) ck_numbers_of (num_does (by kernel_rfl)) (fun _ _ h => by obtain ⟨_, rfl, _⟩ := h; rfl) rfl (fun _ _ _ _ _ _ us hl => match us, hl with | [_], _ => rfl) (fun _ _ h => by cases h)) (Nat.le_succ _)
theorem T9 (X : K.In base) (G : base.Ns mainGlobals mg) (c : SaysP fa fn tups K) : Tk (tabOf F9 gsT) 9 P w K mg base :=
  have t := T8 X G c
  t.more (cb_g X G c t (d := d_smallest) (List.mem_of_getElem? (i := 8) rfl) rfl rfl rfl (List.mem_of_getElem? (i := 8) rfl) ck_smallest (smallest_does (by kernel_rfl)) (fun _ _ h => by obtain ⟨_, rfl, _⟩ := h; rfl) rfl (fun _ _ _ _ _ _ us hl => match us, hl with | [_], _ => rfl) (fun _ _ h => by cases h)) (Nat.le_succ _)
theorem T10 (X : K.In base) (G : base.Ns mainGlobals mg) (c : SaysP fa fn tups K) : Tk (tabOf F10 gsT) 10 P w K mg base :=
  have t := T9 X G c
  t.more (cb_g X G c t (d := d_total) (List.mem_of_getElem? (i := 9) rfl) rfl rfl rfl (List.mem_of_getElem? (i := 9) rfl) ck_total (tot_does (by kernel_rfl) (by kernel_rfl) (by kernel_rfl)) (fun _ _ h => by obtain ⟨_, rfl, _⟩ := h; rfl) rfl (fun _ _ _ _ _ _ us hl => match us, hl with | [_], _ => rfl) (fun _ _ h => by cases h)) (Nat.le_succ _)
theorem T11 (X : K.In base) (G : base.Ns mainGlobals mg) (c : SaysP fa fn tups K) : Tk (tabOf F11 gsT) 11 P w K mg base :=
  have t := T10 X G c
  t.more (cb_g X G c t (d := d_place_to_begin) (List.mem_of_getElem? (i := 10) rfl) rfl rfl rfl (List.mem_of_getElem? (i := 10) rfl) ck_place_to_begin (begin_does ) (fun _ _ h => by obtain ⟨_, rfl, _⟩ := h; rfl) rfl (fun _ _ _ _ _ _ us hl => match us, hl with | [_, _], _ => rfl) (fun _ _ h => by cases h)) (Nat.le_succ _)
theorem T12 (X : K.In base) (G : base.Ns mainGlobals mg) (c : SaysP fa fn tups K) : Tk (tabOf F12 gsT) 12 P w K mg base :=
  have t := T11 X G c
  t.more (cb_g X G c t (d := d_without_place) (List.mem_of_getElem? (i := 11) rfl) rfl rfl rfl (List.mem_of_getElem? (i := 11) rfl) ck_without_place (without_does (by kernel_rfl) (by kernel_rfl)) (fun _ _ h => by obtain ⟨_, rfl, _⟩ := h; rfl) rfl (fun _ _ _ _ _ _ us hl => match us, hl with | [_, _, _], _ => rfl) (fun _ _ h => by cases h)) (Nat.le_succ _)
theorem T13 (X : K.In base) (G : base.Ns mainGlobals mg) (c : SaysP fa fn tups K) : Tk (tabOf F13 gsT) 13 P w K mg base :=
  have t := T12 X G c
  t.more (cb_g X G c t (d := d_solved) (List.mem_of_getElem? (i := 12) rfl) rfl rfl rfl (List.mem_of_getElem? (i := 12) rfl) ck_solved (solved_does (by kernel_rfl) (by kernel_rfl) (by kernel_rfl) (by kernel_rfl) (by kernel_rfl)) (fun _ _ h => by obtain ⟨_, rfl, _⟩ := h; rfl) rfl (fun _ _ _ _ _ _ us hl => match us, hl with | [_, _], _ => rfl) (fun _ _ h => by cases h)) (Nat.le_succ _)
theorem T14 (X : K.In base) (G : base.Ns mainGlobals mg) (c : SaysP fa fn tups K) : Tk (tabOf F14 gsT) 14 P w K mg base :=
  have t := T13 X G c
  t.more (cb_d X G c t (d := d_is_integer) (List.mem_of_getElem? (i := 13) rfl) rfl rfl (m := 2) rfl (List.mem_of_getElem? (i := 13) rfl) ck_is_integer (int_does ) (fun _ _ h => by obtain ⟨_, rfl, _⟩ := h; rfl) (by decide) (by decide) (by decide) (fun nd h => match nd, h with | 0, _ => (fun _ _ _ _ _ _ _ us its h1 h2 => match us, its, h1, h2 with | [_, _, _], [_, _], _, _ => ⟨_, rfl, rfl⟩) | 1, _ => (fun _ _ _ _ _ _ _ us its h1 h2 => match us, its, h1, h2 with | [_, _], [_, _], _, _ => ⟨_, rfl, rfl⟩) | 2, _ => (fun _ _ _ _ _ _ _ us its h1 h2 => match us, its, h1, h2 with | [_], [_, _], _, _ => ⟨_, rfl, rfl⟩)) rfl) (Nat.le_succ _)
theorem T15 (X : K.In base) (G : base.Ns mainGlobals mg) (c : SaysP fa fn tups K) : Tk (tabOf F15 gsT) 15 P w K mg base :=
  have t := T14 X G c
  t.more (cb_g X G c t (d := d_is_fraction) (List.mem_of_getElem? (i := 14) rfl) rfl rfl rfl (List.mem_of_getElem? (i := 14) rfl) ck_is_fraction (frac_does (by kernel_rfl)) (fun _ _ h => by obtain ⟨_, rfl, _⟩ := h; rfl) rfl (fun _ _ _ _ _ _ us hl => match us, hl with | [_], _ => rfl) (fun _ _ h => by cases h)) (Nat.le_succ _)
theorem T16 (X : K.In base) (G : base.Ns mainGlobals mg) (c : SaysP fa fn tups K) : Tk (tabOf F16 gsT) 16 P w K mg base :=
  have t := T15 X G c
  t.more (cb_g X G c t (d := d_is_small_fraction) (List.mem_of_getElem? (i := 15) rfl) rfl rfl rfl (List.mem_of_getElem? (i := 15) rfl) ck_is_small_fraction (smF_does (glT _) (by kernel_rfl) (by kernel_rfl)) (fun _ _ h => by obtain ⟨_, rfl, _⟩ := h; rfl) rfl (fun _ _ _ _ _ _ us hl => match us, hl with | [_], _ => rfl) (fun _ _ h => by cases h)) (Nat.le_succ _)
theorem T17 (X : K.In base) (G : base.Ns mainGlobals mg) (c : SaysP fa fn tups K) : Tk (tabOf F17 gsT) 17 P w K mg base :=
  have t := T16 X G c
  t.more (cb_g X G c t (d := d_is_letter) (List.mem_of_getElem? (i := 16) rfl) rfl rfl rfl (List.mem_of_getElem? (i := 16) rfl) ck_is_letter (let_does (glT _)) (fun _ _ h => by obtain ⟨_, rfl, _⟩ := h; rfl) rfl (fun _ _ _ _ _ _ us hl => match us, hl with | [_], _ => rfl) (fun _ _ h => by cases h)) (Nat.le_succ _)
theorem T18 (X : K.In base) (G : base.Ns mainGlobals mg) (c : SaysP fa fn tups K) : Tk (tabOf F18 gsT) 18 P w K mg base :=
  have t := T17 X G c
  t.more (cb_g X G c t (d := d_is_move) (List.mem_of_getElem? (i := 17) rfl) rfl rfl rfl (List.mem_of_getElem? (i := 17) rfl) ck_is_move (move_does (by kernel_rfl) (by kernel_rfl) (by kernel_rfl)) (fun _ _ h => by obtain ⟨_, rfl, _⟩ := h; rfl) rfl (fun _ _ _ _ _ _ us hl => match us, hl with | [_, _], _ => rfl) (fun _ _ h => by cases h)) (Nat.le_succ _)
theorem T19 (X : K.In base) (G : base.Ns mainGlobals mg) (c : SaysP fa fn tups K) : Tk (tabOf F19 gsT) 19 P w K mg base :=
  have t := T18 X G c
  t.more (cb_g X G c t (d := d_are_moves) (List.mem_of_getElem? (i := 18) rfl) rfl rfl rfl (List.mem_of_getElem? (i := 18) rfl) ck_are_moves (moves_does (glT _) (by kernel_rfl) (by kernel_rfl) (by kernel_rfl)) (fun _ _ h => by obtain ⟨_, rfl, _⟩ := h; rfl) rfl (fun _ _ _ _ _ _ us hl => match us, hl with | [_, _], _ => rfl) (fun _ _ h => by cases h)) (Nat.le_succ _)
theorem T20 (X : K.In base) (G : base.Ns mainGlobals mg) (c : SaysP fa fn tups K) : Tk (tabOf F20 gsT) 20 P w K mg base :=
  have t := T19 X G c
  t.more (cb_g X G c t (d := d_lowest_moves) (List.mem_of_getElem? (i := 19) rfl) rfl rfl rfl (List.mem_of_getElem? (i := 19) rfl) ck_lowest_moves (lowM_does (by kernel_rfl)) (fun _ _ h => by obtain ⟨_, rfl, _⟩ := h; rfl) rfl (fun _ _ _ _ _ _ us hl => match us, hl with | [_], _ => rfl) (fun _ _ h => by cases h)) (Nat.le_succ _)
theorem T21 (X : K.In base) (G : base.Ns mainGlobals mg) (c : SaysP fa fn tups K) : Tk (tabOf F21 gsT) 21 P w K mg base :=
  have t := T20 X G c
  t.more (cb_g X G c t (d := d_leading_to) (List.mem_of_getElem? (i := 20) rfl) rfl rfl rfl (List.mem_of_getElem? (i := 20) rfl) ck_leading_to (leading_does ) (fun _ _ h => by obtain ⟨_, rfl, _⟩ := h; rfl) rfl (fun _ _ _ _ _ _ us hl => match us, hl with | [_, _], _ => rfl) (fun _ _ h => by cases h)) (Nat.le_succ _)
theorem T22 (X : K.In base) (G : base.Ns mainGlobals mg) (c : SaysP fa fn tups K) : Tk (tabOf F22 gsT) 22 P w K mg base :=
  have t := T21 X G c
  t.more (cb_g X G c t (d := d_least_solution) (List.mem_of_getElem? (i := 21) rfl) rfl rfl rfl (List.mem_of_getElem? (i := 21) rfl) ck_least_solution (least_does (glT _) (by kernel_rfl) (by kernel_rfl) (by kernel_rfl)) (fun _ _ h => by obtain ⟨_, rfl, _⟩ := h; rfl) rfl (fun _ _ _ _ _ _ us hl => match us, hl with | [_, _, _], _ => rfl) (fun _ _ h => by cases h)) (Nat.le_succ _)
theorem T23 (X : K.In base) (G : base.Ns mainGlobals mg) (c : SaysP fa fn tups K) : Tk (tabOf F23 gsT) 23 P w K mg base :=
  have t := T22 X G c
  t.more (cb_g X G c t (d := d_is_choice) (List.mem_of_getElem? (i := 22) rfl) rfl rfl rfl (List.mem_of_getElem? (i := 22) rfl) ck_is_choice (choice_does (glT _) (by kernel_rfl)) (fun _ _ h => by obtain ⟨_, rfl, _⟩ := h; rfl) rfl (fun _ _ _ _ _ _ us hl => match us, hl with | [_, _], _ => rfl) (fun _ _ h => by cases h)) (Nat.le_succ _)
theorem T24 (X : K.In base) (G : base.Ns mainGlobals mg) (c : SaysP fa fn tups K) : Tk (tabOf F24 gsT) 24 P w K mg base :=
  have t := T23 X G c
  t.more (cb_g X G c t (d := d_is_chooser) (List.mem_of_getElem? (i := 23) rfl) rfl rfl rfl (List.mem_of_getElem? (i := 23) rfl) ck_is_chooser (chooser_does (glT _) (by kernel_rfl)) (fun _ _ h => by obtain ⟨_, rfl, _⟩ := h; rfl) rfl (fun _ _ _ _ _ _ us hl => match us, hl with | [_], _ => rfl) (fun _ _ h => by cases h)) (Nat.le_succ _)
theorem T25 (X : K.In base) (G : base.Ns mainGlobals mg) (c : SaysP fa fn tups K) : Tk (tabOf F25 gsT) 25 P w K mg base :=
  have t := T24 X G c
  t.more (cb_g X G c t (d := d_plain_chooser) (List.mem_of_getElem? (i := 24) rfl) rfl rfl rfl (List.mem_of_getElem? (i := 24) rfl) ck_plain_chooser (plain_does (by kernel_rfl)) (fun _ _ h => by obtain ⟨_, rfl, _⟩ := h; rfl) rfl (fun _ _ _ _ _ _ us hl => match us, hl with | [_], _ => rfl) (fun _ _ h => by cases h)) (Nat.le_succ _)
theorem T26 (X : K.In base) (G : base.Ns mainGlobals mg) (c : SaysP fa fn tups K) : Tk (tabOf F26 gsT) 26 P w K mg base :=
  have t := T25 X G c
  t.more (cb_g X G c t (d := d_all_deeds) (List.mem_of_getElem? (i := 25) rfl) rfl rfl rfl (List.mem_of_getElem? (i := 25) rfl) ck_all_deeds (deeds_does ) (fun _ _ h => by obtain ⟨_, rfl, _⟩ := h; rfl) rfl (fun _ _ _ _ _ _ us hl => match us, hl with | [_], _ => rfl) (fun _ _ h => by cases h)) (Nat.le_succ _)
theorem T27 (X : K.In base) (G : base.Ns mainGlobals mg) (c : SaysP fa fn tups K) : Tk (tabOf F27 gsT) 27 P w K mg base :=
  have t := T26 X G c
  t.more (cb_g X G c t (d := d_is_better) (List.mem_of_getElem? (i := 26) rfl) rfl rfl rfl (List.mem_of_getElem? (i := 26) rfl) ck_is_better (bet_does (by kernel_rfl)) (fun _ _ h => by obtain ⟨_, rfl, _⟩ := h; rfl) rfl (fun _ _ _ _ _ _ us hl => match us, hl with | [_, _, _], _ => rfl) (fun _ _ h => by cases h)) (Nat.le_succ _)
theorem T28 (X : K.In base) (G : base.Ns mainGlobals mg) (c : SaysP fa fn tups K) : Tk (tabOf F28 gsT) 28 P w K mg base :=
  have t := T27 X G c
  t.more (cb_g X G c t (d := d_coming_by) (List.mem_of_getElem? (i := 27) rfl) rfl rfl rfl (List.mem_of_getElem? (i := 27) rfl) ck_coming_by (coming_does (glT _) (by kernel_rfl)) (fun _ _ h => by obtain ⟨_, rfl, _⟩ := h; rfl) rfl (fun _ _ _ _ _ _ us hl => match us, hl with | [_, _, _], _ => rfl) (fun _ _ h => by cases h)) (Nat.le_succ _)
theorem T29 (X : K.In base) (G : base.Ns mainGlobals mg) (c : SaysP fa fn tups K) : Tk (tabOf F29 gsT) 29 P w K mg base :=
  have t := T28 X G c
  t.more (cb_g X G c t (d := d_best_coming) (List.mem_of_getElem? (i := 28) rfl) rfl rfl rfl (List.mem_of_getElem? (i := 28) rfl) ck_best_coming (best_does (by kernel_rfl) (by kernel_rfl) (by kernel_rfl)) (fun _ _ h => by obtain ⟨_, rfl, _⟩ := h; rfl) rfl (fun _ _ _ _ _ _ us hl => match us, hl with | [_, _, _], _ => rfl) (fun _ _ h => by cases h)) (Nat.le_succ _)
theorem T30 (X : K.In base) (G : base.Ns mainGlobals mg) (c : SaysP fa fn tups K) : Tk (tabOf F30 gsT) 30 P w K mg base :=
  have t := T29 X G c
  t.more (cb_g X G c t (d := d_greatest_values) (List.mem_of_getElem? (i := 29) rfl) rfl rfl rfl (List.mem_of_getElem? (i := 29) rfl) ck_greatest_values (greatest_does (glT _) (by kernel_rfl) (by kernel_rfl) (by kernel_rfl)) (fun _ _ h => by obtain ⟨_, rfl, _⟩ := h; rfl) rfl (fun _ _ _ _ _ _ us hl => match us, hl with | [_, _], _ => rfl) (fun _ _ h => by cases h)) (Nat.le_succ _)
theorem T31 (X : K.In base) (G : base.Ns mainGlobals mg) (c : SaysP fa fn tups K) : Tk (tabOf F31 gsT) 31 P w K mg base :=
  have t := T30 X G c
  t.more (cb_g X G c t (d := d_is_ascending_lot) (List.mem_of_getElem? (i := 30) rfl) rfl rfl rfl (List.mem_of_getElem? (i := 30) rfl) ck_is_ascending_lot (ascending_does (by kernel_rfl)) (fun _ _ h => by obtain ⟨_, rfl, _⟩ := h; rfl) rfl (fun _ _ _ _ _ _ us hl => match us, hl with | [_, _], _ => rfl) (fun _ _ h => by cases h)) (Nat.le_succ _)
theorem T32 (X : K.In base) (G : base.Ns mainGlobals mg) (c : SaysP fa fn tups K) : Tk (tabOf F32 gsT) 32 P w K mg base :=
  have t := T31 X G c
  t.more (cb_g X G c t (d := d_need_chooser) (List.mem_of_getElem? (i := 31) rfl) rfl rfl rfl (List.mem_of_getElem? (i := 31) rfl) ck_need_chooser (need_does (by kernel_rfl) (by kernel_rfl)) (fun _ _ h => by obtain ⟨_, rfl, _⟩ := h; rfl) rfl (fun _ _ _ _ _ _ us hl => match us, hl with | [_], _ => rfl) (fun _ _ h => by cases h)) (Nat.le_succ _)
theorem T33 (X : K.In base) (G : base.Ns mainGlobals mg) (c : SaysP fa fn tups K) : Tk (tabOf F33 gsT) 33 P w K mg base :=
  have t := T32 X G c
  t.more (cb_g X G c t (d := d_need_lot) (List.mem_of_getElem? (i := 32) rfl) rfl rfl rfl (List.mem_of_getElem? (i := 32) rfl) ck_need_lot (needlot_does (by kernel_rfl) (by kernel_rfl)) (fun _ _ h => by obtain ⟨_, rfl, _⟩ := h; rfl) rfl (fun _ _ _ _ _ _ us hl => match us, hl with | [_, _], _ => rfl) (fun _ _ h => by cases h)) (Nat.le_succ _)
theorem T34 (X : K.In base) (G : base.Ns mainGlobals mg) (c : SaysP fa fn tups K) : Tk (tabOf F34 gsT) 34 P w K mg base :=
  have t := T33 X G c
  t.more (cb_g X G c t (d := d_greatest_come) (List.mem_of_getElem? (i := 33) rfl) rfl rfl rfl (List.mem_of_getElem? (i := 33) rfl) ck_greatest_come (gcome_does (by kernel_rfl) (by kernel_rfl)) (fun _ _ h => by obtain ⟨_, rfl, _⟩ := h; rfl) rfl (fun _ _ _ _ _ _ us hl => match us, hl with | [_, _], _ => rfl) (fun _ _ h => by rw [List.mem_singleton.mp h |> Prod.mk.inj |>.1, List.mem_singleton.mp h |> Prod.mk.inj |>.2]; exact ⟨by decide, fun _ _ _ _ _ _ ws hl => match ws, hl with | [_, _], _ => rfl⟩)) (Nat.le_succ _)
theorem T35 (X : K.In base) (G : base.Ns mainGlobals mg) (c : SaysP fa fn tups K) : Tk (tabOf F35 gsT) 35 P w K mg base :=
  have t := T34 X G c
  t.more (cb_g X G c t (d := d_least_come) (List.mem_of_getElem? (i := 34) rfl) rfl rfl rfl (List.mem_of_getElem? (i := 34) rfl) ck_least_come (lcome_does (by kernel_rfl) (by kernel_rfl)) (fun _ _ h => by obtain ⟨_, rfl, _⟩ := h; rfl) rfl (fun _ _ _ _ _ _ us hl => match us, hl with | [_, _], _ => rfl) (fun _ _ h => by rw [List.mem_singleton.mp h |> Prod.mk.inj |>.1, List.mem_singleton.mp h |> Prod.mk.inj |>.2]; exact ⟨by decide, fun _ _ _ _ _ _ ws hl => match ws, hl with | [_, _], _ => rfl⟩)) (Nat.le_succ _)
theorem T36 (X : K.In base) (G : base.Ns mainGlobals mg) (c : SaysP fa fn tups K) : Tk (tabOf F36 gsT) 36 P w K mg base :=
  have t := T35 X G c
  t.more (cb_g X G c t (d := d_come_paper) (List.mem_of_getElem? (i := 35) rfl) rfl rfl rfl (List.mem_of_getElem? (i := 35) rfl) ck_come_paper (paper_does (by kernel_rfl) (by kernel_rfl)) (fun _ _ h => by obtain ⟨_, rfl, _⟩ := h; rfl) rfl (fun _ _ _ _ _ _ us hl => match us, hl with | [_, _], _ => rfl) (fun _ _ h => by rw [List.mem_singleton.mp h |> Prod.mk.inj |>.1, List.mem_singleton.mp h |> Prod.mk.inj |>.2]; exact ⟨by decide, fun _ _ _ _ _ _ ws hl => match ws, hl with | [_, _], _ => rfl⟩)) (Nat.le_succ _)
theorem T37 (X : K.In base) (G : base.Ns mainGlobals mg) (c : SaysP fa fn tups K) : Tk (tabOf F37 gsT) 37 P w K mg base :=
  have t := T36 X G c
  t.more (cb_g X G c t (d := d_law_well) (List.mem_of_getElem? (i := 36) rfl) rfl rfl rfl (List.mem_of_getElem? (i := 36) rfl) ck_law_well (well_does ) (fun _ _ h => by obtain ⟨_, rfl, _⟩ := h; rfl) rfl (fun _ _ _ _ _ _ us hl => match us, hl with | [_, _], _ => rfl) (fun _ _ h => by cases h)) (Nat.le_succ _)
theorem T38 (X : K.In base) (G : base.Ns mainGlobals mg) (c : SaysP fa fn tups K) : Tk (tabOf F38 gsT) 38 P w K mg base :=
  have t := T37 X G c
  t.more (cb_g X G c t (d := d_law_dip) (List.mem_of_getElem? (i := 37) rfl) rfl rfl rfl (List.mem_of_getElem? (i := 37) rfl) ck_law_dip (dip_does ) (fun _ _ h => by obtain ⟨_, rfl, _⟩ := h; rfl) rfl (fun _ _ _ _ _ _ us hl => match us, hl with | [_, _], _ => rfl) (fun _ _ h => by cases h)) (Nat.le_succ _)
theorem T39 (X : K.In base) (G : base.Ns mainGlobals mg) (c : SaysP fa fn tups K) : Tk (tabOf F39 gsT) 39 P w K mg base :=
  have t := T38 X G c
  t.more (cb_g X G c t (d := d_law_one) (List.mem_of_getElem? (i := 38) rfl) rfl rfl rfl (List.mem_of_getElem? (i := 38) rfl) ck_law_one (one_does (by kernel_rfl)) (fun _ _ h => by obtain ⟨_, rfl, _⟩ := h; rfl) rfl (fun _ _ _ _ _ _ us hl => match us, hl with | [_, _], _ => rfl) (fun _ _ h => by cases h)) (Nat.le_succ _)
theorem T40 (X : K.In base) (G : base.Ns mainGlobals mg) (c : SaysP fa fn tups K) : Tk (tabOf F40 gsT) 40 P w K mg base :=
  have t := T39 X G c
  t.more (cb_g X G c t (d := d_law_mixed) (List.mem_of_getElem? (i := 39) rfl) rfl rfl rfl (List.mem_of_getElem? (i := 39) rfl) ck_law_mixed (mixed_does (by kernel_rfl)) (fun _ _ h => by obtain ⟨_, rfl, _⟩ := h; rfl) rfl (fun _ _ _ _ _ _ us hl => match us, hl with | [_, _], _ => rfl) (fun _ _ h => by cases h)) (Nat.le_succ _)
theorem T41 (X : K.In base) (G : base.Ns mainGlobals mg) (c : SaysP fa fn tups K) : Tk (tabOf F41 gsT) 41 P w K mg base :=
  have t := T40 X G c
  t.more (cb_g X G c t (d := d_law_low) (List.mem_of_getElem? (i := 40) rfl) rfl rfl rfl (List.mem_of_getElem? (i := 40) rfl) ck_law_low (llow_does ) (fun _ _ h => by obtain ⟨_, rfl, _⟩ := h; rfl) rfl (fun _ _ _ _ _ _ us hl => match us, hl with | [_, _], _ => rfl) (fun _ _ h => by cases h)) (Nat.le_succ _)
theorem T42 (X : K.In base) (G : base.Ns mainGlobals mg) (c : SaysP fa fn tups K) : Tk (tabOf F42 gsT) 42 P w K mg base :=
  have t := T41 X G c
  t.more (cb_g X G c t (d := d_law_plus) (List.mem_of_getElem? (i := 41) rfl) rfl rfl rfl (List.mem_of_getElem? (i := 41) rfl) ck_law_plus (lplus_does (by kernel_rfl)) (fun _ _ h => by obtain ⟨_, rfl, _⟩ := h; rfl) rfl (fun _ _ _ _ _ _ us hl => match us, hl with | [_, _], _ => rfl) (fun _ _ h => by cases h)) (Nat.le_succ _)
theorem T43 (X : K.In base) (G : base.Ns mainGlobals mg) (c : SaysP fa fn tups K) : Tk (tabOf F43 gsT) 43 P w K mg base :=
  have t := T42 X G c
  t.more (cb_g X G c t (d := d_law_times) (List.mem_of_getElem? (i := 42) rfl) rfl rfl rfl (List.mem_of_getElem? (i := 42) rfl) ck_law_times (ltimes_does (by kernel_rfl)) (fun _ _ h => by obtain ⟨_, rfl, _⟩ := h; rfl) rfl (fun _ _ _ _ _ _ us hl => match us, hl with | [_, _], _ => rfl) (fun _ _ h => by cases h)) (Nat.le_succ _)
theorem T44 (X : K.In base) (G : base.Ns mainGlobals mg) (c : SaysP fa fn tups K) : Tk (tabOf F44 gsT) 44 P w K mg base :=
  have t := T43 X G c
  t.more (cb_g X G c t (d := d_law_sum) (List.mem_of_getElem? (i := 43) rfl) rfl rfl rfl (List.mem_of_getElem? (i := 43) rfl) ck_law_sum (lsum_does (by kernel_rfl)) (fun _ _ h => by obtain ⟨_, rfl, _⟩ := h; rfl) rfl (fun _ _ _ _ _ _ us hl => match us, hl with | [_], _ => rfl) (fun _ _ h => by cases h)) (Nat.le_succ _)
theorem T45 (X : K.In base) (G : base.Ns mainGlobals mg) (c : SaysP fa fn tups K) : Tk (tabOf F45 gsT) 45 P w K mg base :=
  have t := T44 X G c
  t.more (cb_g X G c t (d := d_law_below) (List.mem_of_getElem? (i := 44) rfl) rfl rfl rfl (List.mem_of_getElem? (i := 44) rfl) ck_law_below (lbelow_does ) (fun _ _ h => by obtain ⟨_, rfl, _⟩ := h; rfl) rfl (fun _ _ _ _ _ _ us hl => match us, hl with | [_, _], _ => rfl) (fun _ _ h => by cases h)) (Nat.le_succ _)
theorem T46_law_same {lv : Nat} (X : K.In base) (G : base.Ns mainGlobals mg) (c : SaysP fa fn tups K) (t : Tk (tabOf F45 gsT) lv P w K mg base) : ∀ k, k ≤ 50 → Cb (lv + k + 1) P w K mg base "_law_same" (eSame k)
  | 0, _ => cb_g X G c t (d := d_law_same) (List.mem_of_getElem? (i := 45) rfl) rfl rfl rfl (List.mem_of_getElem? (i := 45) rfl) ck_law_same same0_does (fun _ _ h => by obtain ⟨_, rfl, _⟩ := h; rfl) rfl (fun _ _ _ _ _ _ us hl => match us, hl with | [_, _], _ => rfl) (fun _ _ h => by cases h)
  | k + 1, h => cb_g X G c (fs := ("_law_same", eSame k) :: F45) ((t.lift (Nat.le_add_right _ (k + 1))).more (T46_law_same X G c t k (Nat.le_of_succ_le h)) (Nat.le_refl _)) (d := d_law_same) (List.mem_of_getElem? (i := 45) rfl) rfl rfl rfl (List.mem_of_getElem? (i := 45) rfl) ck_law_same (same_does (Nat.lt_of_lt_of_le h (by decide)) rfl) (fun _ _ h => by obtain ⟨_, rfl, _⟩ := h; rfl) rfl (fun _ _ _ _ _ _ us hl => match us, hl with | [_, _], _ => rfl) (fun _ _ h => by cases h)
theorem T46 (X : K.In base) (G : base.Ns mainGlobals mg) (c : SaysP fa fn tups K) : Tk (tabOf F46 gsT) 96 P w K mg base :=
  have t := T45 X G c
  t.more (T46_law_same X G c t 50 (Nat.le_refl _)) (by decide)
theorem T47 (X : K.In base) (G : base.Ns mainGlobals mg) (c : SaysP fa fn tups K) : Tk (tabOf F47 gsT) 97 P w K mg base :=
  have t := T46 X G c
  t.more (cb_g X G c t (d := d_law_moves) (List.mem_of_getElem? (i := 46) rfl) rfl rfl rfl (List.mem_of_getElem? (i := 46) rfl) ck_law_moves (lmoves_does (by kernel_rfl) (by kernel_rfl)) (fun _ _ h => by obtain ⟨_, rfl, _⟩ := h; rfl) rfl (fun _ _ _ _ _ _ us hl => match us, hl with | [_, _, _], _ => rfl) (fun _ _ h => by cases h)) (Nat.le_succ _)
theorem T48 (X : K.In base) (G : base.Ns mainGlobals mg) (c : SaysP fa fn tups K) : Tk (tabOf F48 gsT) 98 P w K mg base :=
  have t := T47 X G c
  t.more (cb_g X G c t (d := d_law_doubled) (List.mem_of_getElem? (i := 47) rfl) rfl rfl rfl (List.mem_of_getElem? (i := 47) rfl) ck_law_doubled (doubled_does ) (fun _ _ h => by obtain ⟨_, rfl, _⟩ := h; rfl) rfl (fun _ _ _ _ _ _ us hl => match us, hl with | [_], _ => rfl) (fun _ _ h => by cases h)) (Nat.le_succ _)
theorem T49 (X : K.In base) (G : base.Ns mainGlobals mg) (c : SaysP fa fn tups K) : Tk (tabOf F49 gsT) 99 P w K mg base :=
  have t := T48 X G c
  t.more (cb_g X G c t (d := d_law_chooser) (List.mem_of_getElem? (i := 48) rfl) rfl rfl rfl (List.mem_of_getElem? (i := 48) rfl) ck_law_chooser (lchooser_does (by kernel_rfl) (by kernel_rfl) (by kernel_rfl) (by kernel_rfl)) (fun _ _ h => by obtain ⟨_, rfl, _⟩ := h; rfl) rfl (fun _ _ _ _ _ _ us hl => match us, hl with | [_, _, _], _ => rfl) (fun _ _ h => by cases h)) (Nat.le_succ _)
theorem T50 (X : K.In base) (G : base.Ns mainGlobals mg) (c : SaysP fa fn tups K) : Tk (tabOf F50 gsT) 100 P w K mg base :=
  have t := T49 X G c
  t.more (cb_g X G c t (d := d_law_lot) (List.mem_of_getElem? (i := 49) rfl) rfl rfl rfl (List.mem_of_getElem? (i := 49) rfl) ck_law_lot (llot_does (by kernel_rfl) (by kernel_rfl)) (fun _ _ h => by obtain ⟨_, rfl, _⟩ := h; rfl) rfl (fun _ _ _ _ _ _ us hl => match us, hl with | [_, _], _ => rfl) (fun _ _ h => by cases h)) (Nat.le_succ _)
theorem T51 (X : K.In base) (G : base.Ns mainGlobals mg) (c : SaysP fa fn tups K) : Tk (tabOf F51 gsT) 101 P w K mg base :=
  have t := T50 X G c
  t.more (cb_g X G c t (d := d_law_tuples) (List.mem_of_getElem? (i := 50) rfl) rfl rfl rfl (List.mem_of_getElem? (i := 50) rfl) ck_law_tuples (tuples_does ) (fun _ _ h => by obtain ⟨_, rfl, _⟩ := h; rfl) rfl (fun _ _ _ _ _ _ us hl => match us, hl with | [_], _ => rfl) (fun _ _ h => by cases h)) (Nat.le_succ _)
theorem T52 (X : K.In base) (G : base.Ns mainGlobals mg) (c : SaysP fa fn tups K) : Tk (tabOf F52 gsT) 102 P w K mg base :=
  have t := T51 X G c
  t.more (cb_g X G c t (d := d_law_least) (List.mem_of_getElem? (i := 51) rfl) rfl rfl rfl (List.mem_of_getElem? (i := 51) rfl) ck_law_least (lleast_does (by kernel_rfl) (by kernel_rfl) (by kernel_rfl)) (fun _ _ h => by obtain ⟨_, rfl, _⟩ := h; rfl) rfl (fun _ _ _ _ _ _ us hl => match us, hl with | [_, _, _], _ => rfl) (fun _ _ h => by cases h)) (Nat.le_succ _)
theorem T53 (X : K.In base) (G : base.Ns mainGlobals mg) (c : SaysP fa fn tups K) : Tk (tabOf F53 gsT) 103 P w K mg base :=
  have t := T52 X G c
  t.more (cb_g X G c t (d := d_law_comes) (List.mem_of_getElem? (i := 52) rfl) rfl rfl rfl (List.mem_of_getElem? (i := 52) rfl) ck_law_comes (comes_does (by kernel_rfl) (by kernel_rfl)) (fun _ _ h => by obtain ⟨_, rfl, _⟩ := h; rfl) rfl (fun _ _ _ _ _ _ us hl => match us, hl with | [_, _, _], _ => rfl) (fun _ _ h => by cases h)) (Nat.le_succ _)
theorem T54 (X : K.In base) (G : base.Ns mainGlobals mg) (c : SaysP fa fn tups K) : Tk (tabOf F54 gsT) 104 P w K mg base :=
  have t := T53 X G c
  t.more (cb_g X G c t (d := d_law_dues) (List.mem_of_getElem? (i := 53) rfl) rfl rfl rfl (List.mem_of_getElem? (i := 53) rfl) ck_law_dues (dues_does (by kernel_rfl) (by kernel_rfl) (by kernel_rfl)) (fun _ _ h => by obtain ⟨_, rfl, _⟩ := h; rfl) rfl (fun _ _ _ _ _ _ us hl => match us, hl with | [_, _], _ => rfl) (fun _ _ h => by cases h)) (Nat.le_succ _)
theorem T55 (X : K.In base) (G : base.Ns mainGlobals mg) (c : SaysP fa fn tups K) : Tk (tabOf F55 gsT) 105 P w K mg base :=
  have t := T54 X G c
  t.more (cb_g X G c t (d := d_law_told) (List.mem_of_getElem? (i := 54) rfl) rfl rfl rfl (List.mem_of_getElem? (i := 54) rfl) ck_law_told (ltold_does (by kernel_rfl) (by kernel_rfl) (by kernel_rfl)) (fun _ _ h => by obtain ⟨_, rfl, _⟩ := h; rfl) rfl (fun _ _ _ _ _ _ us hl => match us, hl with | [_, _, _, _], _ => rfl) (fun _ _ h => by cases h)) (Nat.le_succ _)
theorem law_runs (X : K.In base) (G : base.Ns mainGlobals mg) (c : SaysP fa fn tups K) {fa0 a : Addr} (hfa : mg "law" = some (.ref fa0)) {H : Hp} {ns : List Int} (hn : ns.length ≤ 63) (hb : ∀ z ∈ ns, Builtin.Int.intBits z ≤ 1048576) (hH : Rd H a (.lst (ns.map V.int))) : RunAt P w K mg base fa0 a H := by
  intro s0 e0
  obtain ⟨fd, F⟩ := c.funD (d := d_law) (List.mem_of_getElem? (i := 55) rfl)
  have ea : mg "law" = some (.ref (He.fAd K d_law.at_)) := He.glo_ok X G (c.fact (List.mem_of_getElem? (i := 55) rfl))
  have e : fa0 = He.fAd K d_law.at_ := by
    rw [hfa] at ea
    cases ea; rfl
  subst e
  have XK : K.In s0.heap := e0.mod.kin.keeps fun b o e => (e0.bs b o e).1
  have hB := F.bindsN (ps := ["script"]) (fun _ _ _ _ _ _ us hl => match us, hl with | [_], _ => rfl) s0 [.ref a] XK rfl
  have hd : Rp K H (.ref a) (.list (ns.map .int)) := .lst hH (by rw [List.length_map]; exact Nat.le_trans hn (by decide)) (by
    clear hb hn hH
    induction ns with
    | nil => exact .nil
    | cons z l ih => exact .cons (.int z) ih)
  exact run_at F ck_law rfl ⟨rfl, by decide, by decide⟩ (T55 X G c) e0 hB hd (law_does (by kernel_rfl) (by kernel_rfl) (by kernel_rfl) (by kernel_rfl) (by kernel_rfl) (by kernel_rfl) (by kernel_rfl) (by kernel_rfl) hn fun z hz => bits_small (hb z hz))
end
end K82
open PySem PySem.W PySem.Calls PyProof.Rows
theorem PySem.Challenge.cw_spokenalike_k85_whole_coming_to_a_lot_by_holds : PySem.Challenge.rw_spokenalike_k85_whole_coming_to_a_lot_by.Holds := by
  w_on; o_law
  refine HandSHeadRun.head_any (r := OpenLaw.row PySem.Challenge.rw_spokenalike_k85_whole_coming_to_a_lot_by) (q := K82.qvw) (H := K82.hk) (ob := K82.ob) (M := 4000) (loose := K82.loose) (d := HandSHeadRun.topDef (OpenLaw.row PySem.Challenge.rw_spokenalike_k85_whole_coming_to_a_lot_by).prog 74) (kwd := []) K82.ob_eq
    (by kernel_rfl) (fun s => by kernel_rfl) K82.run (by kernel_rfl) (by kernel_rfl) (by kernel_rfl) (by rfl) (by first | assumption | decide +kernel) (by decide +kernel) ⟨rfl, rfl, rfl, rfl, rfl, by decide +kernel⟩ ?hw ?hc
  case hw => w_witness2
  case hc =>
    refine PL.walk_P (l := PySem.Challenge.rw_spokenalike_k85_whole_coming_to_a_lot_by) (n := 63) rfl (by decide) (by kernel_rfl) fun w mg fa h Y G hmg0 => ?_
    obtain ⟨K, X, c⟩ := Y
    refine ⟨K, X, c.nl, fun a ns hl hb base H X2 G2 hH => ?_⟩
    have hmg : mg "law" = some (.ref fa) := by
      have e : (HandSHeadRun.topDef (OpenLaw.row PySem.Challenge.rw_spokenalike_k85_whole_coming_to_a_lot_by).prog 74).name = ("law" : PySem.Str) := by kernel_rfl
      rw [e] at hmg0
      exact hmg0
    exact K82.law_runs X2 G2 c hmg hl hb hH
end
