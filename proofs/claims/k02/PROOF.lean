import PyProof.Rows.All
import Wide.All
import OpenK.AllK
import Wide.FinOn
import HandS.ForMost
import HandS.Conv
import HandS.Strs
import HandS.TupAny
import HandS.TupMul
import HandS.Style
import HandS.IsInst
import HandS.Zip
import HandS.SortInts
import HandS.SetFor
import HandS.Wide
import HandS.Defaults
import HandS.Head0
import HandS.Head1
import HandS.Head2
import HandS.HeadEnd
import HandS.HeadHook1
import HandS.HeadHook2
import PySem.Challenge.RW_joinplaces_k02_written
set_option Elab.async false
set_option linter.all false
set_option maxRecDepth 100000
set_option maxHeartbeats 8000000
set_option autoImplicit false
/-! Data in a heap; the little language and what it evaluates to. -/
namespace J
open PySem PySem.Spec PyProof.Rows L2
abbrev D := PyData

/-! ### how a value stands for data -/
mutual
inductive Dr (K : PySem.W.Frag) (H : Hp) : V → D → Prop
  | non : Dr K H .non .none
  | bl (b : Bool) : Dr K H (.bl b) (.bool b)
  | int (i : Int) : Dr K H (.int i) (.int i)
  | str (x : Str) : Dr K H (.str x) (.str x)
  | lst {a : Addr} {xs : List V} {ds : List D} : H a = some (.lst xs) → DrA K H xs ds → Dr K H (.ref a) (.list ds)
  | tup {a : Addr} {xs : List V} {ds : List D} : H a = some (.tup xs) → DrA K H xs ds → Dr K H (.ref a) (.tuple ds)
  | scr {a : Addr} {ns : List Int} : SqL K H a (ns.map V.int) → Dr K H (.ref a) (.dict (ns.map fun n => (.int n, .none)))
inductive DrA (K : PySem.W.Frag) (H : Hp) : List V → List D → Prop
  | nil : DrA K H [] []
  | cons {v : V} {vs : List V} {d : D} {ds : List D} : Dr K H v d → DrA K H vs ds → DrA K H (v :: vs) (d :: ds)
end
theorem same_sqL {K : PySem.W.Frag} {H H' : Hp} {a : Addr} {xs : List V} (e : Same H H') (h : SqL K H a xs) : SqL K H' a xs := e.seq h
mutual
theorem Dr.mono {K : PySem.W.Frag} {H H' : Hp} (e : Same H H') : ∀ (d : D) {v : V}, Dr K H v d → Dr K H' v d
  | .none, _, h => by cases h; exact .non
  | .bool _, _, h => by cases h; exact .bl _
  | .int _, _, h => by cases h; exact .int _
  | .str _, _, h => by cases h; exact .str _
  | .list ds, _, h => by
    cases h with
    | lst h1 h2 => exact .lst (e _ _ h1) (DrA.mono e ds h2)
  | .tuple ds, _, h => by
    cases h with
    | tup h1 h2 => exact .tup (e _ _ h1) (DrA.mono e ds h2)
  | .dict _, _, h => by
    cases h with
    | scr h1 => exact .scr (same_sqL e h1)
theorem DrA.mono {K : PySem.W.Frag} {H H' : Hp} (e : Same H H') : ∀ (ds : List D) {vs : List V}, DrA K H vs ds → DrA K H' vs ds
  | [], _, h => by cases h; exact .nil
  | d :: ds, _, h => by
    cases h with
    | cons h1 h2 => exact .cons (Dr.mono e d h1) (DrA.mono e ds h2)
end
section
variable {K : PySem.W.Frag} {H H' : Hp}
theorem DrA.len : ∀ {vs : List V} {ds : List D}, DrA K H vs ds → vs.length = ds.length
  | _, [], h => by cases h; rfl
  | _, d :: ds, h => by
    cases h with
    | cons _ h2 => rw [List.length_cons, List.length_cons, DrA.len h2]
theorem DrA.get : ∀ {vs : List V} {ds : List D} {i : Nat} {d : D}, DrA K H vs ds → ds[i]? = some d → ∃ v, vs[i]? = some v ∧ Dr K H v d
  | _, [], _, _, h, e => by simp at e
  | _, d :: ds, 0, _, h, e => by
    cases h with
    | cons h1 _ => simp at e; subst e; exact ⟨_, rfl, h1⟩
  | _, d :: ds, i + 1, _, h, e => by
    cases h with
    | cons _ h2 =>
      obtain ⟨v, e1, h1⟩ := DrA.get (i := i) h2 (by simpa using e)
      exact ⟨v, by simpa using e1, h1⟩
theorem DrA.app : ∀ {vs ws : List V} {ds es : List D}, DrA K H vs ds → DrA K H ws es → DrA K H (vs ++ ws) (ds ++ es)
  | _, _, [], _, h, h' => by cases h; exact h'
  | _, _, d :: ds, _, h, h' => by
    cases h with
    | cons h1 h2 => exact .cons h1 (DrA.app h2 h')
theorem DrA.take : ∀ {vs : List V} {ds : List D} (n : Nat), DrA K H vs ds → DrA K H (vs.take n) (ds.take n)
  | _, _, 0, _ => by simpa using DrA.nil
  | _, [], n + 1, h => by cases h; simpa using DrA.nil
  | _, d :: ds, n + 1, h => by
    cases h with
    | cons h1 h2 => exact .cons h1 (DrA.take n h2)
theorem DrA.drop : ∀ {vs : List V} {ds : List D} (n : Nat), DrA K H vs ds → DrA K H (vs.drop n) (ds.drop n)
  | _, _, 0, h => h
  | _, [], n + 1, h => by cases h; simpa using DrA.nil
  | _, d :: ds, n + 1, h => by
    cases h with
    | cons _ h2 => exact DrA.drop n h2
theorem DrA.rev {vs : List V} {ds : List D} (h : DrA K H vs ds) : DrA K H vs.reverse ds.reverse := by
  induction ds generalizing vs with
  | nil => cases h; exact .nil
  | cons d ds ih =>
    cases h with
    | cons h1 h2 =>
      rw [List.reverse_cons, List.reverse_cons]
      exact DrA.app (ih h2) (.cons h1 .nil)
theorem DrA.rep {vs : List V} {ds : List D} (h : DrA K H vs ds) : ∀ n : Nat, DrA K H (List.replicate n vs).flatten (List.replicate n ds).flatten
  | 0 => .nil
  | n + 1 => by
    rw [List.replicate_succ, List.replicate_succ, List.flatten_cons, List.flatten_cons]
    exact DrA.app h (DrA.rep h n)
theorem DrA.set {v : V} {d : D} (hv : Dr K H v d) : ∀ {vs : List V} {ds : List D} (i : Nat), DrA K H vs ds → DrA K H (vs.set i v) (ds.set i d)
  | _, [], _, h => by cases h; exact .nil
  | _, e :: ds, 0, h => by
    cases h with
    | cons _ h2 => exact .cons hv h2
  | _, e :: ds, i + 1, h => by
    cases h with
    | cons h1 h2 => exact .cons h1 (DrA.set hv i h2)
theorem DrA.ints : ∀ ns : List Int, DrA K H (ns.map V.int) (ns.map PyData.int)
  | [] => .nil
  | n :: ns => .cons (.int n) (DrA.ints ns)
theorem DrA.strs : ∀ ns : List Str, DrA K H (ns.map V.str) (ns.map PyData.str)
  | [] => .nil
  | n :: ns => .cons (.str n) (DrA.strs ns)
/-- data that are ints: so are the values -/
theorem DrA.ofInts : ∀ {ns : List Int} {vs : List V}, DrA K H vs (ns.map PyData.int) → vs = ns.map V.int
  | [], _, h => by cases h; rfl
  | n :: ns, _, h => by
    cases h with
    | cons h1 h2 => cases h1; rw [DrA.ofInts h2]; rfl
theorem DrA.ofStrs : ∀ {ns : List Str} {vs : List V}, DrA K H vs (ns.map PyData.str) → vs = ns.map V.str
  | [], _, h => by cases h; rfl
  | n :: ns, _, h => by
    cases h with
    | cons h1 h2 => cases h1; rw [DrA.ofStrs h2]; rfl
theorem DrA.ofBls : ∀ {ns : List Bool} {vs : List V}, DrA K H vs (ns.map PyData.bool) → vs = ns.map V.bl
  | [], _, h => by cases h; rfl
  | n :: ns, _, h => by
    cases h with
    | cons h1 h2 => cases h1; rw [DrA.ofBls h2]; rfl
mutual
theorem Dr.dp : ∀ (d : D) {v : V}, SeqAt.shaped d = true → Dr K H v d → Dp K H v d
  | .none, _, _, h => by cases h; exact .non
  | .bool _, _, _, h => by cases h; exact .bl _
  | .int _, _, _, h => by cases h; exact .int _
  | .str _, _, _, h => by cases h; exact .str _
  | .list ds, _, hs, h => by
    cases h with
    | lst h1 h2 => exact .lst (.inl (.inl h1)) (DrA.dp ds (by have := SeqAt.canLay_of_shaped hs; simpa [PyData.canLay0] using this) h2)
  | .tuple ds, _, hs, h => by
    cases h with
    | tup h1 h2 => exact .tup (.inl (.inl h1)) (DrA.dp ds (by have := SeqAt.canLay_of_shaped hs; simpa [PyData.canLay0] using this) h2)
  | .dict _, _, hs, h => by have := SeqAt.canLay_of_shaped hs; simp [PyData.canLay0] at this
theorem DrA.dp : ∀ (ds : List D) {vs : List V}, PyData.canLayAll0 ds = true → DrA K H vs ds → DpAll K H vs ds
  | [], _, _, h => by cases h; exact .nil
  | d :: ds, _, hs, h => by
    cases h with
    | cons h1 h2 =>
      have h3 : d.canLay0 = true ∧ PyData.canLayAll0 ds = true := by simpa [PyData.canLayAll0] using hs
      exact .cons (Dr.dpc d h3.1 h1) (DrA.dp ds h3.2 h2)
theorem Dr.dpc : ∀ (d : D) {v : V}, d.canLay0 = true → Dr K H v d → Dp K H v d
  | .none, _, _, h => by cases h; exact .non
  | .bool _, _, _, h => by cases h; exact .bl _
  | .int _, _, _, h => by cases h; exact .int _
  | .str _, _, _, h => by cases h; exact .str _
  | .list ds, _, hs, h => by
    cases h with
    | lst h1 h2 => exact .lst (.inl (.inl h1)) (DrA.dp ds (by simpa [PyData.canLay0] using hs) h2)
  | .tuple ds, _, hs, h => by
    cases h with
    | tup h1 h2 => exact .tup (.inl (.inl h1)) (DrA.dp ds (by simpa [PyData.canLay0] using hs) h2)
  | .dict _, _, hs, h => by simp [PyData.canLay0] at hs
end
end

/-! ### the heap without some addresses -/
def mi (H : Hp) (O : List Addr) : Hp := fun b => if b ∈ O then none else H b
def Al (O : List Addr) (H : Hp) : Prop := ∀ a ∈ O, H a ≠ none
section
variable {K : PySem.W.Frag} {H H' : Hp} {O : List Addr} {a p : Addr} {o : HO}
theorem mi_le : Same (mi H O) H := fun b u e => by
  unfold mi at e
  split at e
  · cases e
  · exact e
theorem mi_same (h : Same H H') : Same (mi H O) (mi H' O) := fun b u e => by
  unfold mi at e ⊢
  split at e
  · cases e
  · rename_i hn; rw [if_neg hn]; exact h _ _ e
theorem Al.mono (h : Al O H) (e : Same H H') : Al O H' := fun a ha z => by
  cases q : H a with
  | none => exact h a ha q
  | some o => rw [e a o q] at z; cases z
theorem Al.out (h : Al O H) (hp : H p = none) : p ∉ O := fun z => h p z hp
theorem mi_out (h : a ∉ O) : mi H O a = H a := by unfold mi; rw [if_neg h]
theorem mi_upd (h : p ∉ O) : mi (upd H p o) O = upd (mi H O) p o := by
  funext b
  unfold mi upd
  by_cases hb : b = p
  · subst hb; rw [if_neg h, if_pos rfl, if_pos rfl]
  · rw [if_neg hb, if_neg hb]
theorem mi_none (h : H p = none) : mi H O p = none := by
  unfold mi
  split
  · rfl
  · exact h
theorem mi_nil : mi H [] = H := by
  funext b
  unfold mi
  rw [if_neg (by simp)]
theorem same_upd (h : H p = none) : Same H (upd H p o) := fun b x e => by
  rw [upd_ne (ne_of_none e h)]
  exact e
theorem mi_sub {O' : List Addr} (h : ∀ a ∈ O', a ∈ O) : Same (mi H O) (mi H O') := fun b u e => by
  unfold mi at e ⊢
  split at e
  · cases e
  · rename_i hn; rw [if_neg fun z => hn (h b z)]; exact e
theorem mi_new (hp : H p = none) (h : Al O H) : Same (mi H O) (mi (upd H p o) (p :: O)) := fun b u e => by
  have e' : H b = some u := mi_le b u e
  have hb : b ≠ p := ne_of_none e' hp
  unfold mi at e ⊢
  split at e
  · cases e
  · rename_i hn
    rw [if_neg (by simp only [List.mem_cons, not_or]; exact ⟨hb, hn⟩), upd_ne hb]; exact e'
/-- a value at the top: strictly, or a list that may be owned while its items are strict -/
def Tp (K : PySem.W.Frag) (O : List Addr) (H : Hp) (v : V) (d : D) : Prop :=
  Dr K (mi H O) v d ∨ ∃ a vs ds, v = .ref a ∧ d = .list ds ∧ H a = some (.lst vs) ∧ DrA K (mi H O) vs ds
theorem Tp.of {v : V} {d : D} (h : Dr K (mi H O) v d) : Tp K O H v d := .inl h
theorem Tp.mono {v : V} {d : D} (h : Tp K O H v d) (e : Same H H') : Tp K O H' v d := by
  rcases h with h | ⟨a, vs, ds, e1, e2, h1, h2⟩
  · exact .inl (Dr.mono (mi_same e) d h)
  · exact .inr ⟨a, vs, ds, e1, e2, e a _ h1, DrA.mono (mi_same e) ds h2⟩
theorem Tp.full {v : V} {d : D} (h : Tp K O H v d) : Dr K H v d := by
  rcases h with h | ⟨a, vs, ds, rfl, rfl, h1, h2⟩
  · exact Dr.mono mi_le d h
  · exact .lst h1 (DrA.mono mi_le ds h2)
theorem Tp.list {v : V} {ds : List D} (h : Tp K O H v (.list ds)) : ∃ a vs, v = .ref a ∧ H a = some (.lst vs) ∧ DrA K (mi H O) vs ds := by
  rcases h with h | ⟨a, vs, ds', rfl, e, h1, h2⟩
  · cases h with
    | lst h1 h2 => exact ⟨_, _, rfl, mi_le _ _ h1, h2⟩
  · cases e; exact ⟨a, vs, rfl, h1, h2⟩
theorem Tp.tuple {v : V} {ds : List D} (h : Tp K O H v (.tuple ds)) : ∃ a vs, v = .ref a ∧ mi H O a = some (.tup vs) ∧ DrA K (mi H O) vs ds := by
  rcases h with h | ⟨a, vs, ds', rfl, e, h1, h2⟩
  · cases h with
    | tup h1 h2 => exact ⟨_, _, rfl, h1, h2⟩
  · cases e
theorem Tp.int {v : V} {i : Int} (h : Tp K O H v (.int i)) : v = .int i := by
  rcases h with h | ⟨a, vs, ds', rfl, e, h1, h2⟩
  · cases h; rfl
  · cases e
theorem Tp.bool {v : V} {i : Bool} (h : Tp K O H v (.bool i)) : v = .bl i := by
  rcases h with h | ⟨a, vs, ds', rfl, e, h1, h2⟩
  · cases h; rfl
  · cases e
theorem Tp.str {v : V} {i : Str} (h : Tp K O H v (.str i)) : v = .str i := by
  rcases h with h | ⟨a, vs, ds', rfl, e, h1, h2⟩
  · cases h; rfl
  · cases e
theorem Tp.non {v : V} (h : Tp K O H v .none) : v = .non := by
  rcases h with h | ⟨a, vs, ds', rfl, e, h1, h2⟩
  · cases h; rfl
  · cases e
theorem Tp.dict {v : V} {kvs : List (D × D)} (h : Tp K O H v (.dict kvs)) : ∃ a ns, v = .ref a ∧ kvs = (ns : List Int).map (fun n => (.int n, .none)) ∧ SqL K H a (ns.map V.int) := by
  rcases h with h | ⟨a, vs, ds', rfl, e, h1, h2⟩
  · cases h with
    | scr h1 => exact ⟨_, _, rfl, rfl, same_sqL mi_le h1⟩
  · cases e
end

/-! ### the little language -/
inductive Bi where
  | len | min | max | sum | all | any | abs | int | str | tuple | list | sorted
  deriving DecidableEq, Repr
inductive Ty where
  | int | bool | str | tuple | list
  deriving DecidableEq, Repr
inductive IE where
  | var (i : Nat) | bv (i : Nat)
  | cn | cb (b : Bool) | ci (i : Int) | cs (s : Str)
  | bin (op : Operator) (a b : IE) | neg (a : IE) | nt (a : IE)
  | cmp (op : CmpOp) (a b : IE) | cmp2 (op op' : CmpOp) (a b c : IE)
  | an (a b : IE) | or (a b : IE)
  | tup (as : IE) | lst (as : IE)
  | nil | cons (a as : IE)
  | call (k : Nat) (as : IE) | bi (b : Bi) (as : IE) | isi (t : Ty) (a : IE)
  | ix (a b : IE) | sl (a lo hi : IE) | rev (a : IE)
  | rgL (lo hi : IE) | rgT (lo hi : IE) | lset (a : IE) | sset (a : IE)
  | comp (elt : IE) (tg : List Nat) (src cond : IE) (vs : List Nat)
  | rg (lo hi : IE) | enum (a : IE) | zip (a b : IE)
  | join (a b : IE) | split (a b : IE)
  deriving DecidableEq, Repr
inductive IS where
  | set (i : Nat) (e : IE) | setO (i : Nat) (e : IE)
  | unp (tg : List Nat) (e : IE) | par (i j : Nat) (a b : IE)
  | app (i : Nat) (e : IE) | sti (i : Nat) (ix e : IE)
  | ifs (c : IE) (t e : IS) | for_ (tg : List Nat) (src : IE) (body : IS) | whl (c : IE) (body : IS)
  | ret (e : IE) | skip | seq (a b : IS) | shr (i : Nat) | nev
  deriving DecidableEq, Repr
inductive Sl where
  | no | val (d : D) | own (ds : List D) | bor (d : D)
abbrev En := List Sl
def getV (env : En) (i : Nat) : Option D := match env[i]? with
  | some (.val d) => some d
  | _ => none
def getB (env : En) (i : Nat) : Option D := match env[i]? with
  | some (.val d) => some d
  | some (.own ds) => some (.list ds)
  | some (.bor d) => some d
  | _ => none

/-! ### operations on data -/
def opAdd : D → D → Option D
  | .int i, .int j => some (.int (i + j))
  | .str x, .str y => if x.length + y.length ≤ 100000 then some (.str (x ++ y)) else none
  | .list xs, .list ys => if xs.length + ys.length ≤ 100000 then some (.list (xs ++ ys)) else none
  | .tuple xs, .tuple ys => if xs.length + ys.length ≤ 100000 then some (.tuple (xs ++ ys)) else none
  | _, _ => none
def opSub : D → D → Option D
  | .int i, .int j => some (.int (i - j))
  | _, _ => none
def mulOk (i j : Int) : Bool := decide (i.natAbs < 2 ^ 64) || decide (j.natAbs < 2 ^ 64) || (decide (i.natAbs < 2 ^ 100000) && decide (j.natAbs < 2 ^ 100000))
def opMul : D → D → Option D
  | .int i, .int j => if mulOk i j then some (.int (i * j)) else none
  | .list xs, .int k => if 0 ≤ k ∧ k ≤ 1000 ∧ xs.length ≤ 100 then some (.list (List.replicate k.toNat xs).flatten) else none
  | .tuple xs, .int k => if xs ≠ [] ∧ 1 ≤ k ∧ k ≤ 1000 ∧ xs.length ≤ 1000 then some (.tuple (List.replicate k.toNat xs).flatten) else none
  | _, _ => none
def opDiv : D → D → Option D
  | .int i, .int j => if 0 < j ∧ j.natAbs < 2 ^ 8000 then some (.int (i / j)) else none
  | _, _ => none
def opMod : D → D → Option D
  | .int i, .int j => if 0 < j then some (.int (i % j)) else none
  | _, _ => none
def opAnd : D → D → Option D
  | .int i, .int j => some (.int (Builtin.bitAnd i j))
  | _, _ => none
def opPow : D → D → Option D
  | .int i, .int j => if 0 ≤ j ∧ j ≤ 1000 ∧ i.natAbs < 2 ^ 64 then some (.int (i ^ j.toNat)) else none
  | _, _ => none
def opB : Operator → D → D → Option D
  | .Add, x, y => opAdd x y
  | .Sub, x, y => opSub x y
  | .Mult, x, y => opMul x y
  | .FloorDiv, x, y => opDiv x y
  | .Mod, x, y => opMod x y
  | .BitAnd, x, y => opAnd x y
  | .Pow, x, y => opPow x y
  | _, _, _ => none
/-- pairs that are compared whatever their size -/
def scalP : D → D → Bool
  | .none, .none | .none, .int _ | .int _, .none | .none, .bool _ | .bool _, .none | .none, .str _ | .str _, .none | .int _, .int _ | .bool _, .bool _ | .str _, .str _
  | .int _, .str _ | .str _, .int _ | .bool _, .str _ | .str _, .bool _ => true
  | _, _ => false
def opEq (x y : D) : Option Bool := if scalP x y then some (PyData.eqv x y) else if SeqAt.shaped x && SeqAt.shaped y then some (PyData.eqv x y) else none
def opI (f : Int → Int → Bool) : D → D → Option Bool
  | .int i, .int j => some (f i j)
  | _, _ => none
def isNoneD : D → Bool
  | .none => true
  | _ => false
def opIs : D → D → Option Bool
  | x, .none => some (isNoneD x)
  | .bool a, .bool b => some (decide (a = b))
  | _, _ => none
def flatD : D → Bool
  | .none | .bool _ | .int _ | .str _ => true
  | _ => false
def opIn : D → D → Option Bool
  | x, .list ds => if flatD x && ds.all flatD then some (ds.any fun y => PyData.eqv y x) else none
  | x, .tuple ds => if flatD x && ds.all flatD then some (ds.any fun y => PyData.eqv y x) else none
  | .str x, .str z => match x.cps.toList with
    | [c] => some (decide (c ∈ z.cps.toList))
    | _ => none
  | _, _ => none
def opC : CmpOp → D → D → Option Bool
  | .Eq, x, y => opEq x y
  | .NotEq, x, y => (opEq x y).map (! ·)
  | .Lt, x, y => opI (fun i j => decide (i < j)) x y
  | .LtE, x, y => opI (fun i j => decide (i ≤ j)) x y
  | .Gt, x, y => opI (fun i j => decide (j < i)) x y
  | .GtE, x, y => opI (fun i j => decide (j ≤ i)) x y
  | .Is, x, y => opIs x y
  | .IsNot, x, y => (opIs x y).map (! ·)
  | .In, x, y => opIn x y
  | .NotIn, x, y => (opIn x y).map (! ·)
def ints? : List D → Option (List Int)
  | [] => some []
  | .int i :: r => (ints? r).map (i :: ·)
  | _ :: _ => none
def bls? : List D → Option (List Bool)
  | [] => some []
  | .bool i :: r => (bls? r).map (i :: ·)
  | _ :: _ => none
def strs? : List D → Option (List Str)
  | [] => some []
  | .str i :: r => (strs? r).map (i :: ·)
  | _ :: _ => none
def leastI : Int → List Int → Int
  | m, [] => m
  | m, x :: r => leastI (if x < m then x else m) r
def mostI : Int → List Int → Int
  | m, [] => m
  | m, x :: r => mostI (if x > m then x else m) r
def insI (x : Int) : List Int → List Int
  | [] => [x]
  | y :: r => if x ≤ y then x :: y :: r else y :: insI x r
def sortI (l : List Int) : List Int := l.foldr insI []
def undupI : List Int → List Int
  | [] => []
  | x :: r => if x ∈ r then undupI r else x :: undupI r
/-- what stands in a sequence -/
def seqD : D → Option (List D)
  | .list ds => some ds
  | .tuple ds => some ds
  | .dict kvs => some (kvs.map (·.1))
  | _ => none
def biLen : List D → Option D
  | [.list ds] => some (.int ds.length)
  | [.tuple ds] => some (.int ds.length)
  | [.dict ds] => some (.int ds.length)
  | [.str x] => if x.length ≤ 100000 then some (.int x.length) else none
  | _ => none
def biMin : List D → Option D
  | [.int i, .int j] => some (.int (if j < i then j else i))
  | [.list ds] => match ints? ds with
    | some (n :: ns) => some (.int (leastI n ns))
    | _ => none
  | _ => none
def biMax : List D → Option D
  | [.int i, .int j] => some (.int (if j > i then j else i))
  | [.list ds] => match ints? ds with
    | some (n :: ns) => some (.int (mostI n ns))
    | _ => none
  | _ => none
def biSum : List D → Option D
  | [.list ds] => (ints? ds).map fun ns => .int ns.sum
  | _ => none
def biAll : List D → Option D
  | [.list ds] => (bls? ds).map fun ns => .bool (ns.all id)
  | _ => none
def biAny : List D → Option D
  | [.list ds] => (bls? ds).map fun ns => .bool (ns.any id)
  | _ => none
def biAbs : List D → Option D
  | [.int i] => some (.int (if i < 0 then -i else i))
  | _ => none
def biInt : List D → Option D
  | [.int i] => some (.int i)
  | [.bool b] => some (.int (if b = true then 1 else 0))
  | [.str x] => if x.length ≤ 640 then (PySem.intText? x).map .int else none
  | _ => none
def biStr : List D → Option D
  | [.int i] => if i.natAbs < 2 ^ 1900 then some (.str (Str.ofString (toString i))) else none
  | _ => none
def biTuple : List D → Option D
  | [.list ds] => some (.tuple ds)
  | [.tuple ds] => some (.tuple ds)
  | _ => none
def biList : List D → Option D
  | [.list ds] => some (.list ds)
  | [.tuple ds] => some (.list ds)
  | _ => none
def biSorted : List D → Option D
  | [.list ds] => (ints? ds).map fun ns => .list ((sortI ns).map .int)
  | _ => none
def evBi : Bi → List D → Option D
  | .len, ds => biLen ds
  | .min, ds => biMin ds
  | .max, ds => biMax ds
  | .sum, ds => biSum ds
  | .all, ds => biAll ds
  | .any, ds => biAny ds
  | .abs, ds => biAbs ds
  | .int, ds => biInt ds
  | .str, ds => biStr ds
  | .tuple, ds => biTuple ds
  | .list, ds => biList ds
  | .sorted, ds => biSorted ds
def evIsi : Ty → D → Option Bool
  | _, .dict _ => none
  | .int, .int _ => some true
  | .int, .bool _ => some true
  | .int, _ => some false
  | .bool, .bool _ => some true
  | .bool, _ => some false
  | .str, .str _ => some true
  | .str, _ => some false
  | .tuple, .tuple _ => some true
  | .tuple, _ => some false
  | .list, .list _ => some true
  | .list, _ => some false
def opIx : D → D → Option D
  | .list ds, .int i => atI ds i
  | .tuple ds, .int i => atI ds i
  | .dict kvs, .int i => (atI kvs i).map (·.1)
  | .str x, .int i => if x.length ≤ 100000 then (atI x.cps.toList i).map fun c => .str ⟨#[c]⟩ else none
  | _, _ => none
def cutD {α : Type} (xs : List α) (lo hi : Option Int) : List α := (xs.drop (HT.sIx xs.length 0 lo)).take (HT.sIx xs.length xs.length hi - HT.sIx xs.length 0 lo)
def opSl : D → Option Int → Option Int → Option D
  | .list ds, lo, hi => some (.list (cutD ds lo hi))
  | .tuple ds, lo, hi => some (.tuple (cutD ds lo hi))
  | .str x, lo, hi => if x.length ≤ 100000 then some (.str (cutS x lo hi)) else none
  | _, _, _ => none
def opRev : D → Option D
  | .list ds => some (.list ds.reverse)
  | .tuple ds => some (.tuple ds.reverse)
  | _ => none
def rgD (lo hi : Int) : List D := (List.range (hi - lo).toNat).map fun i => .int (lo + (i : Nat))
def rgOk (lo hi : Int) : Bool := decide (-100000 ≤ lo) && decide (lo ≤ 100000) && decide (-100000 ≤ hi) && decide (hi ≤ 100000)
def opRg : D → D → Option (List D)
  | .int lo, .int hi => if rgOk lo hi then some (rgD lo hi) else none
  | _, _ => none
def enumD : Nat → List D → List D
  | _, [] => []
  | k, d :: ds => .tuple [.int k, d] :: enumD (k + 1) ds
def zipD : List D → List D → List D
  | x :: xs, y :: ys => .tuple [x, y] :: zipD xs ys
  | _, _ => []
def charsD (x : Str) : List D := x.cps.toList.map fun c => .str ⟨#[c]⟩
def itemsD : D → Option (List D)
  | .list ds => some ds
  | .tuple ds => some ds
  | .dict kvs => some (kvs.map (·.1))
  | .str x => some (charsD x)
  | _ => none
def seq2 : D → Option (List D)
  | .list ds => some ds
  | .tuple ds => some ds
  | _ => none
def opJoin : D → D → Option D
  | .str a, .list ds => (strs? ds).bind fun ys => if (ys.map (·.length)).sum + ys.length * a.length ≤ 100000 then some (.str (Txt.join a ys)) else none
  | _, _ => none
def opSplit : D → D → Option D
  | .str a, .str b => if b.length = 1 ∧ a.length ≤ 100000 then some (.list ((Txt.split a b).map .str)) else none
  | _, _ => none
/-- targets -/
def bindEach : List Nat → List D → En → Option En
  | [], [], env => some env
  | i :: tg, d :: ds, env => bindEach tg ds (env.set i (.val d))
  | _, _, _ => none
def bindT : List Nat → D → En → Option En
  | [i], d, env => some (env.set i (.val d))
  | tg, .tuple ds, env => bindEach tg ds env
  | _, _, _ => none
def wipeE (env : En) : List Nat → En
  | [] => env
  | v :: vs => (wipeE env vs).set v .no
/-- what a comprehension makes of its source -/
def compL (f : D → Option (Option D)) : List D → Option (List D)
  | [] => some []
  | x :: r => match f x with
    | none => none
    | some y => match compL f r with
      | none => none
      | some ys => some (match y with | none => ys | some z => z :: ys)
def testD : Option D → Option Bool
  | some (.bool b) => some b
  | _ => none

/-- one turn of a comprehension -/
def turnC (tg vs : List Nat) (cond : En → Option Bool) (elt : En → Option D) (env : En) (x : D) : Option (Option D) := match bindT tg x (wipeE env vs) with
  | none => none
  | some env' => match cond env' with
    | none => none
    | some false => some none
    | some true => match elt env' with
      | none => none
      | some y => some (some y)

/-! ### evaluation -/
section
variable (Φ : Nat → List D → Option D)
mutual
def evE : IE → En → Option D
  | .var i, env => getV env i
  | .bv i, env => getB env i
  | .cn, _ => some .none
  | .cb b, _ => some (.bool b)
  | .ci i, _ => some (.int i)
  | .cs s, _ => some (.str s)
  | .bin op a b, env => match evE a env with
    | none => none
    | some x => match evE b env with
      | none => none
      | some y => opB op x y
  | .neg a, env => match evE a env with
    | some (.int i) => some (.int (-i))
    | _ => none
  | .nt a, env => match evE a env with
    | some (.bool b) => some (.bool !b)
    | _ => none
  | .cmp op a b, env => match evE a env with
    | none => none
    | some x => match evE b env with
      | none => none
      | some y => (opC op x y).map .bool
  | .cmp2 op op' a b c, env => match evE a env with
    | none => none
    | some x => match evE b env with
      | none => none
      | some y => match opC op x y with
        | none => none
        | some false => some (.bool false)
        | some true => match evE c env with
          | none => none
          | some z => (opC op' y z).map .bool
  | .an a b, env => match evE a env with
    | some (.bool true) => evE b env
    | some (.bool false) => some (.bool false)
    | _ => none
  | .or a b, env => match evE a env with
    | some (.bool true) => some (.bool true)
    | some (.bool false) => evE b env
    | _ => none
  | .tup as, env => match evA as env with
    | none => none
    | some ds => if ds.length ≤ 1000 then some (.tuple ds) else none
  | .lst as, env => match evA as env with
    | none => none
    | some ds => if ds.length ≤ 1000 then some (.list ds) else none
  | .call k as, env => match evA as env with
    | none => none
    | some ds => Φ k ds
  | .bi b as, env => match evA as env with
    | none => none
    | some ds => evBi b ds
  | .isi t a, env => match evE a env with
    | none => none
    | some d => (evIsi t d).map .bool
  | .ix a b, env => match evE a env with
    | none => none
    | some x => match evE b env with
      | none => none
      | some y => opIx x y
  | .sl a lo hi, env => match evE a env with
    | none => none
    | some x => match evO lo env with
      | none => none
      | some l => match evO hi env with
        | none => none
        | some h => opSl x l h
  | .rev a, env => match evE a env with
    | none => none
    | some x => opRev x
  | .rgL lo hi, env => match evE lo env with
    | none => none
    | some l => match evE hi env with
      | none => none
      | some h => (opRg l h).map .list
  | .rgT lo hi, env => match evE lo env with
    | none => none
    | some l => match evE hi env with
      | none => none
      | some h => (opRg l h).map .tuple
  | .lset a, env => match evE a env with
    | none => none
    | some x => match seq2 x with
      | none => none
      | some ds => match ints? ds with
        | none => none
        | some ns => if ns.length ≤ 50 then some (.int (undupI ns).length) else none
  | .sset a, env => match evE a env with
    | none => none
    | some x => match seq2 x with
      | none => none
      | some ds => match ints? ds with
        | none => none
        | some ns => if ns.length ≤ 50 then some (.list ((sortI (undupI ns)).map .int)) else none
  | .comp elt tg src cond vs, env => match evI src env with
    | none => none
    | some ds => if ds.length ≤ 40000 then (compL (turnC tg vs (evC cond) (evE elt) env) ds).map .list else none
  | .join a b, env => match evE a env with
    | none => none
    | some x => match evE b env with
      | none => none
      | some y => opJoin x y
  | .split a b, env => match evE a env with
    | none => none
    | some x => match evE b env with
      | none => none
      | some y => opSplit x y
  | .nil, _ => none
  | .cons _ _, _ => none
  | .rg _ _, _ => none
  | .enum _, _ => none
  | .zip _ _, _ => none
def evA : IE → En → Option (List D)
  | .nil, _ => some []
  | .cons a as, env => match evE a env with
    | none => none
    | some x => match evA as env with
      | none => none
      | some xs => some (x :: xs)
  | _, _ => none
/-- a bound of a slice -/
def evO : IE → En → Option (Option Int)
  | .nil, _ => some none
  | e, env => match evE e env with
    | some (.int i) => some (some i)
    | _ => none
/-- a comprehension's test -/
def evC : IE → En → Option Bool
  | .nil, _ => some true
  | e, env => testD (evE e env)
/-- what is walked -/
def evI : IE → En → Option (List D)
  | .rg lo hi, env => match evE lo env with
    | none => none
    | some l => match evE hi env with
      | none => none
      | some h => opRg l h
  | .enum a, env => match evE a env with
    | none => none
    | some x => match seq2 x with
      | none => none
      | some ds => some (enumD 0 ds)
  | .zip a b, env => match evE a env with
    | none => none
    | some x => match evE b env with
      | none => none
      | some y => match seq2 x with
        | none => none
        | some xs => match seq2 y with
          | none => none
          | some ys => some (zipD xs ys)
  | e, env => match evE e env with
    | none => none
    | some x => itemsD x
end
inductive Fl where
  | nx (env : En) | rt (d : D)
def forL (f : D → En → Option Fl) : List D → En → Option Fl
  | [], env => some (.nx env)
  | x :: r, env => match f x env with
    | some (.nx env') => forL f r env'
    | q => q
def whileL (c : En → Option Bool) (f : En → Option Fl) : Nat → En → Option Fl
  | 0, _ => none
  | n + 1, env => match c env with
    | some true => match f env with
      | some (.nx env') => whileL c f n env'
      | q => q
    | some false => some (.nx env)
    | none => none
/-- one turn of a for; a while's test -/
def forB (tg : List Nat) (g : En → Option Fl) (x : D) (env : En) : Option Fl := match bindT tg x env with
  | none => none
  | some env' => g env'
def tst (f : En → Option D) (env : En) : Option Bool := testD (f env)
def fuelW : Nat := 100000
/-- what a return hands back -/
def evR : IE → En → Option D
  | .var i, env => match env[i]? with
    | some (.val d) => some d
    | some (.own ds) => some (.list ds)
    | _ => none
  | e, env => evE Φ e env
def evS : IS → En → Option Fl
  | .set i e, env => match evE Φ e env with
    | none => none
    | some d => some (.nx (env.set i (.val d)))
  | .setO i e, env => match evE Φ e env with
    | some (.list ds) => some (.nx (env.set i (.own ds)))
    | _ => none
  | .unp tg e, env => match evE Φ e env with
    | some (.tuple ds) => (bindEach tg ds env).map .nx
    | _ => none
  | .par i j a b, env => match evE Φ a env with
    | none => none
    | some x => match evE Φ b env with
      | none => none
      | some y => some (.nx ((env.set i (.val x)).set j (.val y)))
  | .app i e, env => match env[i]? with
    | some (.own ds) => match evE Φ e env with
      | none => none
      | some d => if ds.length < 100000 then some (.nx (env.set i (.own (ds ++ [d])))) else none
    | _ => none
  | .sti i ix e, env => match env[i]? with
    | some (.own ds) => match evE Φ e env with
      | none => none
      | some d => match evE Φ ix env with
        | some (.int k) => match ixN ds.length k with
          | none => none
          | some j => some (.nx (env.set i (.own (ds.set j d))))
        | _ => none
    | _ => none
  | .ifs c t e, env => match testD (evE Φ c env) with
    | none => none
    | some true => evS t env
    | some false => evS e env
  | .for_ tg src body, env => match evI Φ src env with
    | none => none
    | some ds => forL (forB tg (evS body)) ds env
  | .whl c body, env => whileL (tst (evE Φ c)) (evS body) fuelW env
  | .ret e, env => (evR Φ e env).map .rt
  | .skip, env => some (.nx env)
  | .seq a b, env => match evS a env with
    | some (.nx env') => evS b env'
    | q => q
  | .shr i, env => match env[i]? with
    | some (.own ds) => some (.nx (env.set i (.val (.list ds))))
    | _ => some (.nx env)
  | .nev, _ => none
end
/-- a def: its parameters (which of them are borrowed), its slots, its body -/
structure Fd where
  bs : List Bool
  slots : Nat
  body : IS
def start0 : List Bool → List D → En
  | b :: bs, d :: ds => (if b then .bor d else .val d) :: start0 bs ds
  | _, _ => []
def evF (Φ : Nat → List D → Option D) (F : Fd) (ds : List D) : Option D :=
  if ds.length = F.bs.length then
    match evS Φ F.body (start0 F.bs ds ++ List.replicate (F.slots - ds.length) .no) with
    | some (.rt d) => some d
    | some (.nx _) => some .none
    | none => none
  else none
end J

/-! The operations of the machine, by data. -/
namespace J
open PySem PySem.Spec PyProof.Rows L2
def Wk (K : PySem.W.Frag) (O : List Addr) (H : Hp) (d : D) (Q : VK) : Prop := ∀ v H', Same H H' → Dr K (mi H' O) v d → Q v H'
def rG2 (K : PySem.W.Frag) (g : D → D → Option D) : R2 := fun x y H Q => ∃ O dx dy d, Al O H ∧ Tp K O H x dx ∧ Tp K O H y dy ∧ g dx dy = some d ∧ Wk K O H d Q
theorem log2_lt {n k : Nat} (hk : 0 < k) (h : n < 2 ^ k) : n.log2 < k := by
  by_cases h0 : n = 0
  · subst h0; simpa using hk
  · exact (Nat.log2_lt h0).mpr h
section
variable {X : Cx}
theorem wk_self {K : PySem.W.Frag} {O : List Addr} {H : Hp} {d : D} {Q : VK} {v : V} (q : Wk K O H d Q) (h : Dr K (mi H O) v d) : Q v H := q v H (Same.refl H) h
theorem wk_lst {K : PySem.W.Frag} {O : List Addr} {H : Hp} {ds : List D} {Q : VK} {vs : List V} (q : Wk K O H (.list ds) Q) (al : Al O H) (h : DrA K (mi H O) vs ds) : ∀ p, H p = none → Q (.ref p) (upd H p (.lst vs)) := fun p hp => by
  refine q _ _ (same_upd hp) (.lst (xs := vs) ?_ ?_)
  · rw [mi_out (al.out hp), upd_same]
  · exact DrA.mono (mi_same (same_upd hp)) ds h
theorem wk_tup {K : PySem.W.Frag} {O : List Addr} {H : Hp} {ds : List D} {Q : VK} {vs : List V} (q : Wk K O H (.tuple ds) Q) (al : Al O H) (h : DrA K (mi H O) vs ds) : ∀ p, H p = none → Q (.ref p) (upd H p (.tup vs)) := fun p hp => by
  refine q _ _ (same_upd hp) (.tup (xs := vs) ?_ ?_)
  · rw [mi_out (al.out hp), upd_same]
  · exact DrA.mono (mi_same (same_upd hp)) ds h
theorem nilDr {K : PySem.W.Frag} {H : Hp} {vs : List V} {ds : List D} (h : DrA K H vs ds) : vs = [] ↔ ds = [] := by
  have := h.len
  constructor
  · intro e; subst e; exact List.eq_nil_of_length_eq_zero this.symm
  · intro e; subst e; exact List.eq_nil_of_length_eq_zero this
theorem szl {n : Nat} (h : n ≤ 100000) : n ≤ sizeLine := Nat.le_trans h (by decide)
theorem szlt {n : Nat} (h : n < 100000) : n < sizeLine := Nat.lt_of_lt_of_le h (by decide)
theorem szl24 {n : Nat} (h : n ≤ 1000000) : n ≤ sizeLine := Nat.le_trans h (by decide)

theorem opr_add : OpR X (binaryOp .Add) (rG2 X.K opAdd) := by
  intro pins s σ H x y v u Q I rx ry ⟨O, dx, dy, d, al, hx, hy, e, q⟩
  unfold opAdd at e
  split at e
  · cases hx.int; cases hy.int; cases e
    exact op_add pins s σ H _ _ v u Q I rx ry ⟨_, _, rfl, rfl, wk_self q (.int _)⟩
  · cases hx.str; cases hy.str
    split at e
    · rename_i hl
      cases e
      exact op_add_str pins s σ H _ _ v u Q I rx ry ⟨_, _, rfl, rfl, szl hl, wk_self q (.str _)⟩
    · cases e
  · obtain ⟨a, vs, rfl, h1, h2⟩ := hx.list
    obtain ⟨b, ws, rfl, h3, h4⟩ := hy.list
    split at e
    · rename_i hl
      cases e
      exact op_cat pins s σ H _ _ v u Q I rx ry ⟨_, _, _, _, rfl, rfl, h1, h3, szl (by rw [h2.len, h4.len]; exact hl), wk_lst q al (h2.app h4)⟩
    · cases e
  · obtain ⟨a, vs, rfl, h1, h2⟩ := hx.tuple
    obtain ⟨b, ws, rfl, h3, h4⟩ := hy.tuple
    split at e
    · rename_i hl
      cases e
      refine op_catA pins s σ H _ _ v u Q I rx ry ⟨_, _, _, _, rfl, rfl, .inl (.inl (mi_le _ _ h1)), .inl (.inl (mi_le _ _ h3)), szl (by rw [h2.len, h4.len]; exact hl), fun e1 => ?_, fun e1 e2 => ?_, fun _ _ => wk_tup q al (h2.app h4)⟩
      · subst e1
        have := (nilDr h2).mp rfl
        subst this
        exact wk_self q (.tup h3 h4)
      · subst e2
        have := (nilDr h4).mp rfl
        subst this
        rw [List.append_nil] at q
        exact wk_self q (.tup h1 h2)
    · cases e
  · cases e
theorem opr_sub : OpR X (binaryOp .Sub) (rG2 X.K opSub) := by
  intro pins s σ H x y v u Q I rx ry ⟨O, dx, dy, d, al, hx, hy, e, q⟩
  unfold opSub at e
  split at e
  · cases hx.int; cases hy.int; cases e
    exact op_sub pins s σ H _ _ v u Q I rx ry ⟨_, _, rfl, rfl, wk_self q (.int _)⟩
  · cases e

/-! tuple * 1 -/
theorem tuple_mul1 (l : Addr) (items : Array Value) (n : Nat) (dd : Option Addr) (sl : Array (Option Value)) (u : Tok) :
    Meets (Builtin.«tuple.__mul__» ⟨[.ref l, .int 1 u], []⟩) (fun _ R s => s.heap.get? l = some { cls := .type "tuple", dict := dd, data := .seq items n, slots := sl } ∧
      R (.ok (.ret (Value.ref l))) s) :=
  .of_wp fun prog w A R s h => by
    obtain ⟨hp, g, d, tk, os⟩ := s
    obtain ⟨hl, h⟩ := h
    have f1 := AutoSeq1.idx_int
    have c1 : (items.isEmpty || (1 : Int) == 1) = true := by simp
    wp_walk using wpAny_loadPart' hl
    repeat (first
      | (refine wpAny_ite_false (decide_eq_false (by decide)) ?_; wp_walk using wpAny_loadPart' hl)
      | (refine wpAny_ite_true (decide_eq_true (by rw [c1])) ?_; wp_walk using wpAny_loadPart' hl))
    exact ⟨_, rfl, h⟩

theorem op_rep1 : OpR X (binaryOp .Mult) (fun x y H Q => ∃ l xs, x = .ref l ∧ y = .int 1 ∧ SqT X.K H l xs ∧ Q (.ref l) H) := by
  intro pins s σ H x y v u Q I rx ry h
  obtain ⟨l, xs, rfl, rfl, hT, q⟩ := h
  cases rx
  obtain ⟨t, rfl⟩ := ry
  obtain ⟨its, r, ⟨⟨cls, dd, data, sl⟩, ho, hc, n, hd⟩, hs⟩ := I.tuple hT
  simp only at hc hd
  subst hc hd
  exact wpAny_binaryOp_repeat_ref (T := "tuple") (U := "int") (by decide) ⟨_, ho, rfl⟩ (fun s' => typeIs_int s' 1 t) noFill_tuple_mul F.fills_int_mul F.slot_int_rmul repeat_tuple F.slot_int_index.lookup
    (call_meets F.slot_int_rmul (typeIs_int s 1 t) F.entry_int_rmul (F.args_int_rmul_2 _ _) (int_rmul_tuple 1 t l its.toArray n dd sl)
      ⟨ho, rfl, ⟨_, ho, rfl⟩, call_meets F.slot_tuple_mul ⟨_, ho, rfl⟩ F.entry_tuple_mul (F.args_tuple_mul_2 _ _) (tuple_mul1 l its.toArray n dd sl t) ⟨ho, ⟨.ref l, H, I, rfl, q⟩⟩⟩)
theorem opr_mul : OpR X (binaryOp .Mult) (rG2 X.K opMul) := by
  intro pins s σ H x y v u Q I rx ry ⟨O, dx, dy, d, al, hx, hy, e, q⟩
  unfold opMul at e
  split at e
  · cases hx.int; cases hy.int
    split at e
    · rename_i i j hm
      cases e
      unfold mulOk at hm
      by_cases h1 : i.natAbs < 2 ^ 64
      · exact op_mul pins s σ H _ _ v u Q I rx ry ⟨_, _, rfl, rfl, .inl ⟨by omega, by omega⟩, wk_self q (.int _)⟩
      · by_cases h2 : j.natAbs < 2 ^ 64
        · exact op_mul pins s σ H _ _ v u Q I rx ry ⟨_, _, rfl, rfl, .inr ⟨by omega, by omega⟩, wk_self q (.int _)⟩
        · rw [decide_eq_false h1, decide_eq_false h2, Bool.false_or, Bool.false_or, Bool.and_eq_true] at hm
          have h3 := log2_lt (by decide) (of_decide_eq_true hm.1)
          have h4 := log2_lt (by decide) (of_decide_eq_true hm.2)
          exact op_mulW pins s σ H _ _ v u Q I rx ry ⟨_, _, rfl, rfl, (by show _ + _ < 1000000; omega), wk_self q (.int _)⟩
    · cases e
  · obtain ⟨a, vs, rfl, h1, h2⟩ := hx.list
    cases hy.int
    split at e
    · rename_i ds k hl
      cases e
      refine op_rep pins s σ H _ _ v u Q I rx ry ⟨_, _, _, rfl, rfl, h1, by omega, by omega, ?_, wk_lst q al (h2.rep _)⟩
      rw [h2.len]
      exact szl24 (Nat.le_trans (Nat.mul_le_mul hl.2.2 (show k.toNat ≤ 1000 by omega)) (by decide))
    · cases e
  · obtain ⟨a, vs, rfl, h1, h2⟩ := hx.tuple
    cases hy.int
    split at e
    · rename_i ds k hl
      cases e
      obtain ⟨hn, hl1, hl2, hl3⟩ := hl
      by_cases hk : k = 1
      · subst hk
        refine op_rep1 pins s σ H _ _ v u Q I rx ry ⟨_, _, rfl, rfl, .inl (.inl (mi_le _ _ h1)), ?_⟩
        rw [show (List.replicate (1 : Int).toNat ds).flatten = ds by simp] at q
        exact wk_self q (.tup h1 h2)
      · refine op_repT pins s σ H _ _ v u Q I rx ry ⟨_, _, _, rfl, rfl, .inl (.inl (mi_le _ _ h1)), fun z => hn ((nilDr h2).mp z), by omega, hl2, by rw [h2.len]; exact hl3, wk_tup q al (h2.rep _)⟩
    · cases e
  · cases e
theorem opr_div : OpR X (binaryOp .FloorDiv) (rG2 X.K opDiv) := by
  intro pins s σ H x y v u Q I rx ry ⟨O, dx, dy, d, al, hx, hy, e, q⟩
  unfold opDiv at e
  split at e
  · cases hx.int; cases hy.int
    split at e
    · rename_i hm
      cases e
      exact op_fdivW pins s σ H _ _ v u Q I rx ry ⟨_, _, rfl, rfl, ⟨hm.1, Nat.lt_trans (log2_lt (by decide) hm.2) (by decide)⟩, wk_self q (.int _)⟩
    · cases e
  · cases e
theorem opr_mod : OpR X (binaryOp .Mod) (rG2 X.K opMod) := by
  intro pins s σ H x y v u Q I rx ry ⟨O, dx, dy, d, al, hx, hy, e, q⟩
  unfold opMod at e
  split at e
  · cases hx.int; cases hy.int
    split at e
    · rename_i hm
      cases e
      exact op_mod pins s σ H _ _ v u Q I rx ry ⟨_, _, rfl, rfl, hm, wk_self q (.int _)⟩
    · cases e
  · cases e
theorem opr_and : OpR X (binaryOp .BitAnd) (rG2 X.K opAnd) := by
  intro pins s σ H x y v u Q I rx ry ⟨O, dx, dy, d, al, hx, hy, e, q⟩
  unfold opAnd at e
  split at e
  · cases hx.int; cases hy.int; cases e
    exact op_and pins s σ H _ _ v u Q I rx ry ⟨_, _, rfl, rfl, wk_self q (.int _)⟩
  · cases e
theorem opr_pow : OpR X (binaryOp .Pow) (rG2 X.K opPow) := by
  intro pins s σ H x y v u Q I rx ry ⟨O, dx, dy, d, al, hx, hy, e, q⟩
  unfold opPow at e
  split at e
  · cases hx.int; cases hy.int
    split at e
    · rename_i hm
      cases e
      exact op_pow pins s σ H _ _ v u Q I rx ry ⟨_, _, rfl, rfl, ⟨hm.1, by omega, hm.2.2⟩, wk_self q (.int _)⟩
    · cases e
  · cases e
theorem opr_no {op : Operator} {g : D → D → Option D} (h : ∀ x y, g x y = none) : OpR X (binaryOp op) (rG2 X.K g) := by
  intro pins s σ H x y v u Q I rx ry ⟨O, dx, dy, d, al, hx, hy, e, q⟩
  rw [h] at e
  cases e
theorem opr_B (op : Operator) : OpR X (binaryOp op) (rG2 X.K (opB op)) := by
  cases op
  case Add => exact opr_add
  case Sub => exact opr_sub
  case Mult => exact opr_mul
  case FloorDiv => exact opr_div
  case Mod => exact opr_mod
  case BitAnd => exact opr_and
  case Pow => exact opr_pow
  all_goals exact opr_no fun _ _ => rfl

/-! ### comparisons -/
def rGc (K : PySem.W.Frag) (g : D → D → Option Bool) : R2 := fun x y H Q => ∃ O dx dy b, Al O H ∧ Tp K O H x dx ∧ Tp K O H y dy ∧ g dx dy = some b ∧ Q (.bl b) H
theorem dec_beq {α : Type} [DecidableEq α] [BEq α] [LawfulBEq α] (a b : α) : decide (a = b) = (a == b) := by
  by_cases h : a = b <;> simp [h]
theorem eqv_scal {K : PySem.W.Frag} {O : List Addr} {H : Hp} {x y : V} {dx dy : D} (hx : Tp K O H x dx) (hy : Tp K O H y dy) (h : scalP dx dy = true) : scal x y = true ∧ decide (x = y) = PyData.eqv dx dy := by
  cases dx <;> cases dy <;> first
    | (exfalso; revert h; simp [scalP]; done)
    | (first | cases hx.non | cases hx.bool | cases hx.int | cases hx.str
       first | cases hy.non | cases hy.bool | cases hy.int | cases hy.str
       refine ⟨rfl, ?_⟩
       (try simp [PyData.eqv])
       first | done | exact dec_beq _ _)
theorem opr_eq (hu : X.A.units + 64 < cLine) : OpR X (compareOp .Eq) (rGc X.K opEq) := by
  intro pins s σ H x y v u Q I rx ry ⟨O, dx, dy, b, al, hx, hy, e, q⟩
  unfold opEq at e
  split at e
  · rename_i hs
    cases e
    obtain ⟨h1, h2⟩ := eqv_scal hx hy hs
    exact op_eq pins s σ H _ _ v u Q I rx ry ⟨h1, by rw [h2]; exact q⟩
  · split at e
    · rename_i hs
      cases e
      rw [Bool.and_eq_true] at hs
      exact op_eqD hu pins s σ H _ _ v u Q I rx ry ⟨dx, dy, Dr.dp dx hs.1 hx.full, Dr.dp dy hs.2 hy.full, hs.1, hs.2, q⟩
    · cases e
theorem opr_ne (hu : X.A.units + 64 < cLine) : OpR X (compareOp .NotEq) (rGc X.K fun x y => (opEq x y).map (! ·)) := by
  intro pins s σ H x y v u Q I rx ry ⟨O, dx, dy, b, al, hx, hy, e, q⟩
  simp only [opEq] at e
  split at e
  · rename_i hs
    cases e
    obtain ⟨h1, h2⟩ := eqv_scal hx hy hs
    exact op_ne pins s σ H _ _ v u Q I rx ry ⟨h1, by rw [h2]; exact q⟩
  · split at e
    · rename_i hs
      cases e
      rw [Bool.and_eq_true] at hs
      exact op_neD hu pins s σ H _ _ v u Q I rx ry ⟨dx, dy, Dr.dp dx hs.1 hx.full, Dr.dp dy hs.2 hy.full, hs.1, hs.2, q⟩
    · cases e
theorem opr_int {op : CmpOp} {f : Int → Int → Bool} (ho : OpR X (compareOp op) (rI0 fun i j => V.bl (f i j))) : OpR X (compareOp op) (rGc X.K (opI f)) := by
  intro pins s σ H x y v u Q I rx ry ⟨O, dx, dy, b, al, hx, hy, e, q⟩
  unfold opI at e
  split at e
  · cases hx.int; cases hy.int; cases e
    exact ho pins s σ H _ _ v u Q I rx ry ⟨_, _, rfl, rfl, q⟩
  · cases e
theorem opIs_non (dx : D) : opIs dx .none = some (isNoneD dx) := by cases dx <;> rfl
theorem is_non {K : PySem.W.Frag} {O : List Addr} {H : Hp} {x : V} {dx : D} (hx : Tp K O H x dx) : decide (x = V.non) = isNoneD dx := by
  cases dx with
  | none => cases hx.non; rfl
  | bool b => cases hx.bool; rfl
  | int i => cases hx.int; rfl
  | str z => cases hx.str; rfl
  | list ds => obtain ⟨a, vs, rfl, _⟩ := hx.list; rfl
  | tuple ds => obtain ⟨a, vs, rfl, _⟩ := hx.tuple; rfl
  | dict kvs => obtain ⟨a, vs, rfl, _⟩ := hx.dict; rfl
theorem opr_is : OpR X (compareOp .Is) (rGc X.K opIs) := by
  intro pins s σ H x y v u Q I rx ry ⟨O, dx, dy, b, al, hx, hy, e, q⟩
  cases dy with
  | none =>
    rw [opIs_non] at e
    cases e
    cases hy.non
    refine op_isN pins s σ H _ _ v u Q I rx ry ⟨rfl, ?_⟩
    rw [is_non hx]
    exact q
  | bool c =>
    cases dx <;> first | (simp [opIs] at e; done) | skip
    rename_i a
    have e' : some (decide (a = c)) = some b := e
    cases e'
    cases hx.bool
    cases hy.bool
    exact op_isBl pins s σ H _ _ v u Q I rx ry ⟨_, _, rfl, rfl, q⟩
  | _ => cases dx <;> simp [opIs] at e
theorem opr_isnot : OpR X (compareOp .IsNot) (rGc X.K fun x y => (opIs x y).map (! ·)) := by
  intro pins s σ H x y v u Q I rx ry ⟨O, dx, dy, b, al, hx, hy, e, q⟩
  cases dy with
  | none =>
    dsimp only at e
    rw [opIs_non] at e
    cases e
    cases hy.non
    refine op_notN pins s σ H _ _ v u Q I rx ry ⟨rfl, ?_⟩
    rw [is_non hx]
    exact q
  | bool c =>
    cases dx <;> first | (simp [opIs] at e; done) | skip
    rename_i a
    have e' : some (!decide (a = c)) = some b := e
    cases e'
    cases hx.bool
    cases hy.bool
    exact op_notBl pins s σ H _ _ v u Q I rx ry ⟨_, _, rfl, rfl, q⟩
  | _ => cases dx <;> simp [opIs] at e
theorem flat_of {K : PySem.W.Frag} {H : Hp} {x : V} {dx : D} (hx : Dr K H x dx) (h : flatD dx = true) : flatV x = true := by
  cases hx <;> first | rfl | (simp [flatD] at h)
theorem flatA {K : PySem.W.Frag} {H : Hp} : ∀ {ds : List D} {vs : List V}, DrA K H vs ds → ds.all flatD = true → vs.all flatV = true
  | [], _, h, _ => by cases h; rfl
  | d :: ds, _, h, hf => by
    cases h with
    | cons h1 h2 =>
      rw [List.all_cons, Bool.and_eq_true] at hf ⊢
      exact ⟨flat_of h1 hf.1, flatA h2 hf.2⟩
theorem eqv_flat {K K' : PySem.W.Frag} {H H' : Hp} {x y : V} {dx dy : D} (hx : Dr K H x dx) (hy : Dr K' H' y dy) (fx : flatD dx = true) (fy : flatD dy = true) : eqV x y = PyData.eqv dx dy := by
  cases hx <;> first | (simp [flatD] at fx; done) | skip
  all_goals (cases hy <;> first | (simp [flatD] at fy; done) | skip)
  all_goals simp [eqV, PyData.eqv]
theorem in_any {K K' : PySem.W.Frag} {H H' : Hp} {x : V} {dx : D} (hx : Dr K' H' x dx) (fx : flatD dx = true) : ∀ {ds : List D} {vs : List V}, DrA K H vs ds → ds.all flatD = true → inV x vs = ds.any fun y => PyData.eqv y dx
  | [], _, h, _ => by cases h; rfl
  | d :: ds, _, h, hf => by
    cases h with
    | cons h1 h2 =>
      rw [List.all_cons, Bool.and_eq_true] at hf
      unfold inV
      rw [List.any_cons, List.any_cons, eqv_flat h1 hx hf.1 fx]
      have := in_any hx fx h2 hf.2
      unfold inV at this
      rw [this]
theorem str1 {x : Str} {c : Nat} (h : x.cps.toList = [c]) : x = ⟨#[c]⟩ := by
  cases x with
  | mk cps =>
    congr
    exact Array.toList_inj.mp h
theorem opr_in : OpR X (compareOp .In) (rGc X.K opIn) := by
  intro pins s σ H x y v u Q I rx ry ⟨O, dx, dy, b, al, hx, hy, e, q⟩
  have fx := hx.full
  unfold opIn at e
  split at e
  · obtain ⟨a, vs, rfl, h1, h2⟩ := hy.list
    split at e
    · rename_i hf
      cases e
      rw [Bool.and_eq_true] at hf
      refine op_in_seq pins s σ H _ _ v u Q I rx ry ⟨_, _, rfl, .inl (.inl (.inl h1)), flat_of fx hf.1, flatA h2 hf.2, ?_⟩
      rw [in_any fx hf.1 h2 hf.2]
      exact q
    · cases e
  · obtain ⟨a, vs, rfl, h1, h2⟩ := hy.tuple
    split at e
    · rename_i hf
      cases e
      rw [Bool.and_eq_true] at hf
      refine op_in_seq pins s σ H _ _ v u Q I rx ry ⟨_, _, rfl, .inr (.inl (.inl (mi_le _ _ h1))), flat_of fx hf.1, flatA h2 hf.2, ?_⟩
      rw [in_any fx hf.1 h2 hf.2]
      exact q
    · cases e
  · cases hx.str
    cases hy.str
    split at e
    · rename_i c hc
      cases e
      have := str1 hc
      subst this
      exact op_in_sign pins s σ H _ _ v u Q I rx ry ⟨_, _, rfl, rfl, q⟩
    · cases e
  · cases e
theorem opr_notin : OpR X (compareOp .NotIn) (rGc X.K fun x y => (opIn x y).map (! ·)) := by
  intro pins s σ H x y v u Q I rx ry ⟨O, dx, dy, b, al, hx, hy, e, q⟩
  have fx := hx.full
  simp only [opIn] at e
  split at e
  · obtain ⟨a, vs, rfl, h1, h2⟩ := hy.list
    split at e
    · rename_i hf
      cases e
      rw [Bool.and_eq_true] at hf
      refine op_notIn_seq pins s σ H _ _ v u Q I rx ry ⟨_, _, rfl, .inl (.inl (.inl h1)), flat_of fx hf.1, flatA h2 hf.2, ?_⟩
      rw [in_any fx hf.1 h2 hf.2]
      exact q
    · cases e
  · obtain ⟨a, vs, rfl, h1, h2⟩ := hy.tuple
    split at e
    · rename_i hf
      cases e
      rw [Bool.and_eq_true] at hf
      refine op_notIn_seq pins s σ H _ _ v u Q I rx ry ⟨_, _, rfl, .inr (.inl (.inl (mi_le _ _ h1))), flat_of fx hf.1, flatA h2 hf.2, ?_⟩
      rw [in_any fx hf.1 h2 hf.2]
      exact q
    · cases e
  · cases hx.str
    cases hy.str
    split at e
    · rename_i c hc
      cases e
      have := str1 hc
      subst this
      exact op_notIn_sign pins s σ H _ _ v u Q I rx ry ⟨_, _, rfl, rfl, q⟩
    · cases e
  · cases e
theorem opr_C (hu : X.A.units + 64 < cLine) (op : CmpOp) : OpR X (compareOp op) (rGc X.K (opC op)) := by
  cases op
  case Eq => exact opr_eq hu
  case NotEq => exact opr_ne hu
  case Lt => exact opr_int op_lt
  case LtE => exact opr_int op_le
  case Gt => exact opr_int op_gt
  case GtE => exact opr_int op_ge
  case Is => exact opr_is
  case IsNot => exact opr_isnot
  case In => exact opr_in
  case NotIn => exact opr_notin
end
end J

/-! Calls of built-ins, subscripts, slices, by data. -/
namespace J
open PySem PySem.Spec PyProof.Rows L2
def TpA (K : PySem.W.Frag) (O : List Addr) (H : Hp) : List V → List D → Prop
  | [], [] => True
  | v :: vs, d :: ds => Tp K O H v d ∧ TpA K O H vs ds
  | _, _ => False
theorem TpA.mono {K : PySem.W.Frag} {O : List Addr} {H H' : Hp} (e : Same H H') : ∀ {vs : List V} {ds : List D}, TpA K O H vs ds → TpA K O H' vs ds
  | [], [], _ => trivial
  | _ :: _, _ :: _, ⟨h1, h2⟩ => ⟨h1.mono e, TpA.mono e h2⟩
  | [], _ :: _, h => h.elim
  | _ :: _, [], h => h.elim
theorem TpA.one {K : PySem.W.Frag} {O : List Addr} {H : Hp} {vs : List V} {d : D} (h : TpA K O H vs [d]) : ∃ v, vs = [v] ∧ Tp K O H v d := by
  match vs, h with
  | [v], h => exact ⟨v, rfl, h.1⟩
theorem TpA.two {K : PySem.W.Frag} {O : List Addr} {H : Hp} {vs : List V} {d d' : D} (h : TpA K O H vs [d, d']) : ∃ v v', vs = [v, v'] ∧ Tp K O H v d ∧ Tp K O H v' d' := by
  match vs, h with
  | [v, v'], h => exact ⟨v, v', rfl, h.1, h.2.1⟩
def rGA (K : PySem.W.Frag) (g : List D → Option D) : List V → Hp → VK → Prop := fun vs H Q => ∃ O ds d, Al O H ∧ TpA K O H vs ds ∧ g ds = some d ∧ Wk K O H d Q
theorem ints_eq : ∀ {ds : List D} {ns : List Int}, ints? ds = some ns → ds = ns.map .int
  | [], ns, h => by cases h; rfl
  | .int i :: r, ns, h => by
    simp only [ints?] at h
    cases q : ints? r with
    | none => rw [q] at h; cases h
    | some m => rw [q] at h; cases h; rw [ints_eq q]; rfl
  | .none :: r, ns, h => by simp [ints?] at h
  | .bool _ :: r, ns, h => by simp [ints?] at h
  | .str _ :: r, ns, h => by simp [ints?] at h
  | .list _ :: r, ns, h => by simp [ints?] at h
  | .tuple _ :: r, ns, h => by simp [ints?] at h
  | .dict _ :: r, ns, h => by simp [ints?] at h
theorem ints_map : ∀ ns : List Int, ints? (ns.map PyData.int) = some ns
  | [] => rfl
  | n :: ns => by rw [List.map_cons]; simp only [ints?, ints_map ns]; rfl
theorem bls_eq : ∀ {ds : List D} {ns : List Bool}, bls? ds = some ns → ds = ns.map .bool
  | [], ns, h => by cases h; rfl
  | .bool i :: r, ns, h => by
    simp only [bls?] at h
    cases q : bls? r with
    | none => rw [q] at h; cases h
    | some m => rw [q] at h; cases h; rw [bls_eq q]; rfl
  | .none :: r, ns, h => by simp [bls?] at h
  | .int _ :: r, ns, h => by simp [bls?] at h
  | .str _ :: r, ns, h => by simp [bls?] at h
  | .list _ :: r, ns, h => by simp [bls?] at h
  | .tuple _ :: r, ns, h => by simp [bls?] at h
  | .dict _ :: r, ns, h => by simp [bls?] at h
theorem bls_map : ∀ ns : List Bool, bls? (ns.map PyData.bool) = some ns
  | [] => rfl
  | n :: ns => by rw [List.map_cons]; simp only [bls?, bls_map ns]; rfl
theorem strs_eq : ∀ {ds : List D} {ns : List Str}, strs? ds = some ns → ds = ns.map .str
  | [], ns, h => by cases h; rfl
  | .str i :: r, ns, h => by
    simp only [strs?] at h
    cases q : strs? r with
    | none => rw [q] at h; cases h
    | some m => rw [q] at h; cases h; rw [strs_eq q]; rfl
  | .none :: r, ns, h => by simp [strs?] at h
  | .int _ :: r, ns, h => by simp [strs?] at h
  | .bool _ :: r, ns, h => by simp [strs?] at h
  | .list _ :: r, ns, h => by simp [strs?] at h
  | .tuple _ :: r, ns, h => by simp [strs?] at h
  | .dict _ :: r, ns, h => by simp [strs?] at h
theorem strs_map : ∀ ns : List Str, strs? (ns.map PyData.str) = some ns
  | [] => rfl
  | n :: ns => by rw [List.map_cons]; simp only [strs?, strs_map ns]; rfl
theorem leastI_le : ∀ (l : List Int) (m : Int), leastI m l ≤ m ∧ ∀ x ∈ l, leastI m l ≤ x
  | [], m => ⟨Int.le_refl _, fun _ h => by cases h⟩
  | y :: r, m => by
    obtain ⟨h1, h2⟩ := leastI_le r (if y < m then y else m)
    show leastI (if y < m then y else m) r ≤ m ∧ _
    have e : (if y < m then y else m) ≤ m ∧ (if y < m then y else m) ≤ y := by split <;> omega
    refine ⟨Int.le_trans h1 e.1, fun x hx => ?_⟩
    rcases List.mem_cons.mp hx with rfl | hx
    · exact Int.le_trans h1 e.2
    · exact h2 x hx
theorem leastI_mem : ∀ (l : List Int) (m : Int), leastI m l = m ∨ leastI m l ∈ l
  | [], m => .inl rfl
  | y :: r, m => by
    show leastI (if y < m then y else m) r = m ∨ leastI (if y < m then y else m) r ∈ y :: r
    rcases leastI_mem r (if y < m then y else m) with h | h
    · rw [h]
      split
      · exact .inr List.mem_cons_self
      · exact .inl rfl
    · exact .inr (List.mem_cons_of_mem _ h)
theorem mostI_le : ∀ (l : List Int) (m : Int), m ≤ mostI m l ∧ ∀ x ∈ l, x ≤ mostI m l
  | [], m => ⟨Int.le_refl _, fun _ h => by cases h⟩
  | y :: r, m => by
    obtain ⟨h1, h2⟩ := mostI_le r (if y > m then y else m)
    show m ≤ mostI (if y > m then y else m) r ∧ _
    have e : m ≤ (if y > m then y else m) ∧ y ≤ (if y > m then y else m) := by split <;> omega
    refine ⟨Int.le_trans e.1 h1, fun x hx => ?_⟩
    rcases List.mem_cons.mp hx with rfl | hx
    · exact Int.le_trans e.2 h1
    · exact h2 x hx
theorem mostI_mem : ∀ (l : List Int) (m : Int), mostI m l = m ∨ mostI m l ∈ l
  | [], m => .inl rfl
  | y :: r, m => by
    show mostI (if y > m then y else m) r = m ∨ mostI (if y > m then y else m) r ∈ y :: r
    rcases mostI_mem r (if y > m then y else m) with h | h
    · rw [h]
      split
      · exact .inr List.mem_cons_self
      · exact .inl rfl
    · exact .inr (List.mem_cons_of_mem _ h)
theorem least_one {n m : Int} {ns : List Int} (h1 : m ∈ n :: ns) (h2 : ∀ y, y ∈ n :: ns → m ≤ y) : m = leastI n ns := by
  have a := leastI_le ns n
  have b : leastI n ns ∈ n :: ns := by
    rcases leastI_mem ns n with h | h
    · rw [h]; exact List.mem_cons_self
    · exact List.mem_cons_of_mem _ h
  have c : leastI n ns ≤ m := by
    rcases List.mem_cons.mp h1 with h | h
    · rw [h]; exact a.1
    · exact a.2 m h
  have := h2 _ b
  omega
theorem most_one {n m : Int} {ns : List Int} (h1 : m ∈ n :: ns) (h2 : ∀ y, y ∈ n :: ns → y ≤ m) : m = mostI n ns := by
  have a := mostI_le ns n
  have b : mostI n ns ∈ n :: ns := by
    rcases mostI_mem ns n with h | h
    · rw [h]; exact List.mem_cons_self
    · exact List.mem_cons_of_mem _ h
  have c : m ≤ mostI n ns := by
    rcases List.mem_cons.mp h1 with h | h
    · rw [h]; exact a.1
    · exact a.2 m h
  have := h2 _ b
  omega
/-! sorting -/
theorem insI_perm (x : Int) : ∀ l : List Int, (insI x l).Perm (x :: l)
  | [] => .refl _
  | y :: r => by
    unfold insI
    split
    · exact .refl _
    · exact (List.Perm.cons y (insI_perm x r)).trans (List.Perm.swap x y r)
theorem sortI_perm : ∀ l : List Int, (sortI l).Perm l
  | [] => .refl _
  | x :: r => (insI_perm x (sortI r)).trans (List.Perm.cons x (sortI_perm r))
theorem insI_sorted (x : Int) : ∀ l : List Int, l.Pairwise (· ≤ ·) → (insI x l).Pairwise (· ≤ ·)
  | [], _ => List.pairwise_singleton _ _
  | y :: r, h => by
    rw [List.pairwise_cons] at h
    unfold insI
    split
    · rename_i hxy
      refine List.pairwise_cons.mpr ⟨fun z hz => ?_, List.pairwise_cons.mpr h⟩
      rcases List.mem_cons.mp hz with rfl | hz
      · exact hxy
      · exact Int.le_trans hxy (h.1 z hz)
    · rename_i hxy
      refine List.pairwise_cons.mpr ⟨fun z hz => ?_, insI_sorted x r h.2⟩
      rcases List.mem_cons.mp ((insI_perm x r).mem_iff.mp hz) with rfl | hz
      · omega
      · exact h.1 z hz
theorem sortI_sorted : ∀ l : List Int, (sortI l).Pairwise (· ≤ ·)
  | [] => .nil
  | x :: r => insI_sorted x _ (sortI_sorted r)
theorem sorted_uniq : ∀ (l l' : List Int), l.Perm l' → l.Pairwise (· ≤ ·) → l'.Pairwise (· ≤ ·) → l = l'
  | [], l', p, _, _ => (List.nil_perm.mp p).symm
  | x :: r, [], p, _, _ => by have := p.length_eq; simp at this
  | x :: r, y :: r', p, h, h' => by
    rw [List.pairwise_cons] at h h'
    have e : x = y := by
      have m1 : x ∈ y :: r' := p.mem_iff.mp List.mem_cons_self
      have m2 : y ∈ x :: r := p.mem_iff.mpr List.mem_cons_self
      rcases List.mem_cons.mp m1 with e | m1
      · exact e
      · rcases List.mem_cons.mp m2 with e | m2
        · exact e.symm
        · have := h'.1 x m1
          have := h.1 y m2
          omega
    subst e
    rw [sorted_uniq r r' (List.Perm.cons_inv p) h.2 h'.2]
theorem undupI_mem : ∀ (l : List Int) (x : Int), x ∈ undupI l ↔ x ∈ l
  | [], x => Iff.rfl
  | y :: r, x => by
    unfold undupI
    split
    · rename_i h
      rw [undupI_mem r x, List.mem_cons]
      constructor
      · exact .inr
      · rintro (rfl | h')
        · exact h
        · exact h'
    · rw [List.mem_cons, List.mem_cons, undupI_mem r x]
theorem undupI_nodup : ∀ l : List Int, (undupI l).Nodup
  | [] => List.nodup_nil
  | y :: r => by
    unfold undupI
    split
    · exact undupI_nodup r
    · rename_i h
      exact List.nodup_cons.mpr ⟨fun z => h ((undupI_mem r y).mp z), undupI_nodup r⟩
section
variable {X : Cx}
theorem cr_len : CallR X (.builtin "len") (rGA X.K biLen) := by
  intro pins s σ H xs us Q I r ⟨O, ds, d, al, h0, e, q⟩
  unfold biLen at e
  split at e
  · cases e
    obtain ⟨v, rfl, h⟩ := h0.one
    obtain ⟨a, vs, rfl, h1, h2⟩ := h.list
    refine call_len pins s σ H _ us Q I r ⟨_, vs.length, rfl, .inl ⟨vs, .inl (.inl h1), rfl⟩, ?_⟩
    rw [h2.len]
    exact wk_self q (.int _)
  · cases e
    obtain ⟨v, rfl, h⟩ := h0.one
    obtain ⟨a, vs, rfl, h1, h2⟩ := h.tuple
    refine call_len pins s σ H _ us Q I r ⟨_, vs.length, rfl, .inr ⟨vs, .inl (.inl (mi_le _ _ h1)), rfl⟩, ?_⟩
    rw [h2.len]
    exact wk_self q (.int _)
  · cases e
    obtain ⟨v, rfl, h⟩ := h0.one
    obtain ⟨a, ns, rfl, rfl, h1⟩ := h.dict
    refine call_len pins s σ H _ us Q I r ⟨_, (ns.map V.int).length, rfl, .inl ⟨_, h1, rfl⟩, ?_⟩
    rw [List.length_map] at q ⊢
    exact wk_self q (.int _)
  · split at e
    · rename_i hl
      cases e
      obtain ⟨v, rfl, h⟩ := h0.one
      cases h.str
      exact call_len pins s σ H _ us Q I r ⟨_, _, rfl, ⟨szl hl, rfl⟩, wk_self q (.int _)⟩
    · cases e
  · cases e
theorem cr_min' (hc : X.calm = true) : CallR X (.builtin "min") (rGA X.K biMin) := by
  intro pins s σ H xs us Q I r ⟨O, ds, d, al, h0, e, q⟩
  unfold biMin at e
  split at e
  · cases e
    obtain ⟨v, v', rfl, h, h'⟩ := h0.two
    cases h.int; cases h'.int
    exact call_min2 hc pins s σ H _ us Q I r ⟨_, _, rfl, wk_self q (.int _)⟩
  · obtain ⟨v, rfl, h⟩ := h0.one
    split at e
    · rename_i n ns hi
      cases e
      have := ints_eq hi
      subst this
      obtain ⟨a, vs, rfl, h1, h2⟩ := h.list
      have := h2.ofInts
      subst this
      refine cr_min hc pins s σ H _ us Q I r ⟨_, _, rfl, .inl (.inl h1), by simp, fun m h3 h4 => ?_⟩
      rw [least_one h3 h4]
      exact wk_self q (.int _)
    · cases e
  · cases e
theorem cr_max' (hc : X.calm = true) : CallR X (.builtin "max") (rGA X.K biMax) := by
  intro pins s σ H xs us Q I r ⟨O, ds, d, al, h0, e, q⟩
  unfold biMax at e
  split at e
  · cases e
    obtain ⟨v, v', rfl, h, h'⟩ := h0.two
    cases h.int; cases h'.int
    exact call_max2 hc pins s σ H _ us Q I r ⟨_, _, rfl, wk_self q (.int _)⟩
  · obtain ⟨v, rfl, h⟩ := h0.one
    split at e
    · rename_i n ns hi
      cases e
      have := ints_eq hi
      subst this
      obtain ⟨a, vs, rfl, h1, h2⟩ := h.list
      have := h2.ofInts
      subst this
      refine cr_max hc pins s σ H _ us Q I r ⟨_, _, rfl, .inl (.inl h1), by simp, fun m h3 h4 => ?_⟩
      rw [most_one h3 h4]
      exact wk_self q (.int _)
    · cases e
  · cases e
theorem cr_sum' (hc : X.calm = true) : CallR X (.builtin "sum") (rGA X.K biSum) := by
  intro pins s σ H xs us Q I r ⟨O, ds, d, al, h0, e, q⟩
  unfold biSum at e
  split at e
  · obtain ⟨v, rfl, h⟩ := h0.one
    obtain ⟨ns, hi, e⟩ := Option.map_eq_some_iff.mp e
    cases e
    have := ints_eq hi
    subst this
    obtain ⟨a, vs, rfl, h1, h2⟩ := h.list
    have := h2.ofInts
    subst this
    exact cr_sum hc pins s σ H _ us Q I r ⟨_, _, rfl, .inl (.inl h1), wk_self q (.int _)⟩
  · cases e
theorem cr_all' (hc : X.calm = true) : CallR X (.builtin "all") (rGA X.K biAll) := by
  intro pins s σ H xs us Q I r ⟨O, ds, d, al, h0, e, q⟩
  unfold biAll at e
  split at e
  · obtain ⟨v, rfl, h⟩ := h0.one
    obtain ⟨ns, hi, e⟩ := Option.map_eq_some_iff.mp e
    cases e
    have := bls_eq hi
    subst this
    obtain ⟨a, vs, rfl, h1, h2⟩ := h.list
    have := h2.ofBls
    subst this
    exact cr_all hc pins s σ H _ us Q I r ⟨_, _, rfl, .inl (.inl h1), wk_self q (.bl _)⟩
  · cases e
theorem cr_any' (hc : X.calm = true) : CallR X (.builtin "any") (rGA X.K biAny) := by
  intro pins s σ H xs us Q I r ⟨O, ds, d, al, h0, e, q⟩
  unfold biAny at e
  split at e
  · obtain ⟨v, rfl, h⟩ := h0.one
    obtain ⟨ns, hi, e⟩ := Option.map_eq_some_iff.mp e
    cases e
    have := bls_eq hi
    subst this
    obtain ⟨a, vs, rfl, h1, h2⟩ := h.list
    have := h2.ofBls
    subst this
    exact cr_any hc pins s σ H _ us Q I r ⟨_, _, rfl, .inl (.inl h1), wk_self q (.bl _)⟩
  · cases e
theorem cr_abs' : CallR X (.builtin "abs") (rGA X.K biAbs) := by
  intro pins s σ H xs us Q I r ⟨O, ds, d, al, h0, e, q⟩
  unfold biAbs at e
  split at e
  · cases e
    obtain ⟨v, rfl, h⟩ := h0.one
    cases h.int
    exact call_abs pins s σ H _ us Q I r ⟨_, rfl, wk_self q (.int _)⟩
  · cases e
theorem cr_int' : CallR X (.type "int") (rGA X.K biInt) := by
  intro pins s σ H xs us Q I r ⟨O, ds, d, al, h0, e, q⟩
  unfold biInt at e
  split at e
  · cases e
    obtain ⟨v, rfl, h⟩ := h0.one
    cases h.int
    exact call_int1 pins s σ H _ us Q I r (.inl ⟨_, rfl, wk_self q (.int _)⟩)
  · cases e
    obtain ⟨v, rfl, h⟩ := h0.one
    cases h.bool
    exact call_int1 pins s σ H _ us Q I r (.inr ⟨_, rfl, wk_self q (.int _)⟩)
  · obtain ⟨v, rfl, h⟩ := h0.one
    cases h.str
    split at e
    · rename_i hl
      obtain ⟨n, hn, e⟩ := Option.map_eq_some_iff.mp e
      cases e
      exact call_int_str pins s σ H _ us Q I r ⟨_, _, rfl, hn, hl, wk_self q (.int _)⟩
    · cases e
  · cases e
theorem cr_str' : CallR X (.type "str") (rGA X.K biStr) := by
  intro pins s σ H xs us Q I r ⟨O, ds, d, al, h0, e, q⟩
  unfold biStr at e
  split at e
  · split at e
    · rename_i hl
      cases e
      obtain ⟨v, rfl, h⟩ := h0.one
      cases h.int
      exact call_str_int pins s σ H _ us Q I r ⟨_, rfl, Nat.lt_trans (log2_lt (by decide) hl) (by decide), wk_self q (.str _)⟩
    · cases e
  · cases e
theorem cr_tuple' : CallR X (.type "tuple") (rGA X.K biTuple) := by
  intro pins s σ H xs us Q I r ⟨O, ds, d, al, h0, e, q⟩
  unfold biTuple at e
  split at e
  · cases e
    obtain ⟨v, rfl, h⟩ := h0.one
    obtain ⟨a, vs, rfl, h1, h2⟩ := h.list
    exact call_tuple_of pins s σ H _ us Q I r ⟨_, _, rfl, .inl ⟨.inl (.inl h1), wk_tup q al h2⟩⟩
  · cases e
    obtain ⟨v, rfl, h⟩ := h0.one
    obtain ⟨a, vs, rfl, h1, h2⟩ := h.tuple
    exact call_tuple_of pins s σ H _ us Q I r ⟨_, _, rfl, .inr ⟨.inl (.inl (mi_le _ _ h1)), wk_self q (.tup h1 h2)⟩⟩
  · cases e
theorem cr_list' : CallR X (.type "list") (rGA X.K biList) := by
  intro pins s σ H xs us Q I r ⟨O, ds, d, al, h0, e, q⟩
  unfold biList at e
  split at e
  · cases e
    obtain ⟨v, rfl, h⟩ := h0.one
    obtain ⟨a, vs, rfl, h1, h2⟩ := h.list
    exact call_list_of pins s σ H _ us Q I r ⟨_, _, rfl, .inl (.inl (.inl h1)), wk_lst q al h2⟩
  · cases e
    obtain ⟨v, rfl, h⟩ := h0.one
    obtain ⟨a, vs, rfl, h1, h2⟩ := h.tuple
    exact call_list_of pins s σ H _ us Q I r ⟨_, _, rfl, .inr (.inl (.inl (mi_le _ _ h1))), wk_lst q al h2⟩
  · cases e
theorem cr_sorted' : CallR X (.builtin "sorted") (rGA X.K biSorted) := by
  intro pins s σ H xs us Q I r ⟨O, ds, d, al, h0, e, q⟩
  unfold biSorted at e
  split at e
  · obtain ⟨v, rfl, h⟩ := h0.one
    obtain ⟨ns, hi, e⟩ := Option.map_eq_some_iff.mp e
    cases e
    have := ints_eq hi
    subst this
    obtain ⟨a, vs, rfl, h1, h2⟩ := h.list
    have := h2.ofInts
    subst this
    refine cr_sortedI pins s σ H _ us Q I r ⟨_, _, rfl, .inl (.inl h1), fun ns' p hp hs np => ?_⟩
    have : ns' = sortI ns := sorted_uniq _ _ (hp.trans (sortI_perm ns).symm) hs (sortI_sorted ns)
    subst this
    exact wk_lst q al (DrA.ints _) p np
  · cases e

/-! ### subscripts, slices -/
theorem atI_map {α β : Type} (f : α → β) (xs : List α) (i : Int) : atI (xs.map f) i = (atI xs i).map f := by
  unfold atI
  rw [List.length_map]
  cases ixN xs.length i with
  | none => rfl
  | some j => simp
theorem DrA.at {K : PySem.W.Frag} {H : Hp} {vs : List V} {ds : List D} {i : Int} {d : D} (h : DrA K H vs ds) (e : atI ds i = some d) : ∃ v, atI vs i = some v ∧ Dr K H v d := by
  unfold atI at e ⊢
  rw [h.len]
  cases q : ixN ds.length i with
  | none => rw [q] at e; cases e
  | some j =>
    rw [q] at e
    obtain ⟨v, h1, h2⟩ := h.get (i := j) e
    exact ⟨v, h1, h2⟩
theorem ixr : IxR X (rG2 X.K opIx) := by
  intro value slice pins s σ H x y v u Q I rx ry ⟨O, dx, dy, d, al, hx, hy, e, q⟩ hs
  unfold opIx at e
  split at e
  · cases hy.int
    obtain ⟨a, vs, rfl, h1, h2⟩ := hx.list
    obtain ⟨w, h3, h4⟩ := h2.at e
    exact ix_seq value slice pins s σ H _ _ v u Q I rx ry (.inl ⟨_, _, _, _, rfl, rfl, .inl (.inl h1), h3, wk_self q h4⟩) hs
  · cases hy.int
    obtain ⟨a, vs, rfl, h1, h2⟩ := hx.tuple
    obtain ⟨w, h3, h4⟩ := h2.at e
    exact ix_seq value slice pins s σ H _ _ v u Q I rx ry (.inr (.inl ⟨_, _, _, _, rfl, rfl, .inl (.inl (mi_le _ _ h1)), h3, wk_self q h4⟩)) hs
  · cases hy.int
    obtain ⟨a, ns, rfl, rfl, h1⟩ := hx.dict
    rw [atI_map, Option.map_map] at e
    obtain ⟨n, h3, h4⟩ := Option.map_eq_some_iff.mp e
    cases h4
    exact ix_seq value slice pins s σ H _ _ v u Q I rx ry (.inl ⟨_, _, _, _, rfl, rfl, h1, (by rw [atI_map, h3]; rfl), wk_self q (.int _)⟩) hs
  · cases hx.str
    cases hy.int
    split at e
    · rename_i hl
      obtain ⟨c, h3, h4⟩ := Option.map_eq_some_iff.mp e
      cases h4
      exact ix_seq value slice pins s σ H _ _ v u Q I rx ry (.inr (.inr ⟨_, _, _, rfl, rfl, szl hl, h3, wk_self q (.str _)⟩)) hs
    · cases e
  · cases e
def rGs (K : PySem.W.Frag) (g : D → Option Int → Option Int → Option D) : V → Option Int → Option Int → Hp → VK → Prop := fun x lo hi H Q => ∃ O dx d, Al O H ∧ Tp K O H x dx ∧ g dx lo hi = some d ∧ Wk K O H d Q
theorem DrA.cut {K : PySem.W.Frag} {H : Hp} {vs : List V} {ds : List D} (h : DrA K H vs ds) (lo hi : Option Int) : DrA K H (cutV vs lo hi) (cutD ds lo hi) := by
  unfold cutV cutD
  rw [h.len]
  exact (h.drop _).take _
theorem cutD_all {α : Type} {ds : List α} {lo hi : Option Int} (h1 : HT.sIx ds.length 0 lo = 0) (h2 : HT.sIx ds.length ds.length hi = ds.length) : cutD ds lo hi = ds := by
  unfold cutD
  rw [h1, h2]
  simp
theorem slr : SlR X (rGs X.K opSl) := by
  intro pins s σ H x v vl vu lo hi sl Q I rx hs pl pu ⟨O, dx, d, al, hx, e, q⟩
  unfold opSl at e
  split at e
  · cases e
    obtain ⟨a, vs, rfl, h1, h2⟩ := hx.list
    exact sl_list pins s σ H _ v vl vu _ _ sl Q I rx hs pl pu ⟨_, _, rfl, .inl (.inl h1), wk_lst q al (h2.cut _ _)⟩
  · cases e
    obtain ⟨a, vs, rfl, h1, h2⟩ := hx.tuple
    refine sl_tupA pins s σ H _ v vl vu _ _ sl Q I rx hs pl pu ⟨_, _, rfl, .inl (.inl (mi_le _ _ h1)), fun hz => ?_, fun _ => wk_tup q al (h2.cut _ _)⟩
    rw [h2.len] at hz
    rw [cutD_all hz.1 hz.2] at q
    exact wk_self q (.tup h1 h2)
  · cases hx.str
    split at e
    · rename_i hl
      cases e
      exact sl_str pins s σ H _ v vl vu _ _ sl Q I rx hs pl pu ⟨_, rfl, szl hl, wk_self q (.str _)⟩
    · cases e
  · cases e
/-! ### isinstance -/
def tyN : Ty → String
  | .int => "int"
  | .bool => "bool"
  | .str => "str"
  | .tuple => "tuple"
  | .list => "list"
theorem cr_isi (T : Ty) : CallR X (.builtin "isinstance") (fun vs H Q => ∃ O x dx b, Al O H ∧ vs = [x, .ty (tyN T)] ∧ Tp X.K O H x dx ∧ evIsi T dx = some b ∧ Q (.bl b) H) := by
  intro pins s σ H xs us Q I r ⟨O, x, dx, b, al, e0, hx, e, q⟩
  subst e0
  have go : ∀ (t : String), TyX X.K H x (.type t) → kitB t (tyN T) = some b → wpAny (model X.prog X.w) X.A (call (.builtin "isinstance") us) (EP X pins σ Q) X.xe s := fun t ht hk =>
    call_isi pins s σ H _ us Q I r ⟨_, _, _, _, _, rfl, .ty _, ht, kit_ty hk, q⟩
  cases dx with
  | none => cases hx.non; exact go "NoneType" (.base .non) (by cases T <;> cases e <;> decide +kernel)
  | bool _ => cases hx.bool; exact go "bool" (.base (.bl _)) (by cases T <;> cases e <;> decide +kernel)
  | int _ => cases hx.int; exact go "int" (.base (.int _)) (by cases T <;> cases e <;> decide +kernel)
  | str _ => cases hx.str; exact go "str" (.base (.str _)) (by cases T <;> cases e <;> decide +kernel)
  | list ds =>
    obtain ⟨a, vs, rfl, h1, h2⟩ := hx.list
    exact go "list" (.base (.lst h1)) (by cases T <;> cases e <;> decide +kernel)
  | tuple ds =>
    obtain ⟨a, vs, rfl, h1, h2⟩ := hx.tuple
    exact go "tuple" (.base (.tup (mi_le _ _ h1))) (by cases T <;> cases e <;> decide +kernel)
  | dict _ => cases T <;> cases e
end
end J

/-! Expressions: what the machine does with them, by data. -/
namespace J
open PySem PySem.Spec PyProof.Rows L2
structure Re (K : PySem.W.Frag) (O : List Addr) (σ : L2.St) (H : Hp) (env : En) : Prop where
  len : σ.length = env.length
  al : Al O H
  val : ∀ (i : Nat) (d : D), env[i]? = some (Sl.val d) → ∃ v, σ[i]? = some (some v) ∧ Dr K (mi H O) v d
  own : ∀ (i : Nat) (ds : List D), env[i]? = some (Sl.own ds) → ∃ a vs, σ[i]? = some (some (.ref a)) ∧ H a = some (.lst vs) ∧ DrA K (mi H O) vs ds
  bor : ∀ (i : Nat) (d : D), env[i]? = some (Sl.bor d) → ∃ v, σ[i]? = some (some v) ∧ Tp K O H v d
theorem Re.mono {K : PySem.W.Frag} {O : List Addr} {σ : L2.St} {H H' : Hp} {env : En} (h : Re K O σ H env) (e : Same H H') : Re K O σ H' env where
  len := h.len
  al := h.al.mono e
  val := fun i d q => let ⟨v, h1, h2⟩ := h.val i d q; ⟨v, h1, Dr.mono (mi_same e) d h2⟩
  own := fun i ds q => let ⟨a, vs, h1, h2, h3⟩ := h.own i ds q; ⟨a, vs, h1, e _ _ h2, DrA.mono (mi_same e) ds h3⟩
  bor := fun i d q => let ⟨v, h1, h2⟩ := h.bor i d q; ⟨v, h1, h2.mono e⟩

/-- contexts that differ by the state alone -/
structure Fam where
  P : Program
  w : World
  K : PySem.W.Frag
  mg : Str → Option Value
  base : Heap
  N : List Str
  sc : Scope
  n : Nat
  top : Bool
structure Fam.ok (C : Fam) (X : Cx) : Prop where
  hP : X.prog = C.P
  hw : X.w = C.w
  hK : X.K = C.K
  hmg : X.mg = C.mg
  hb : X.base = C.base
  hN : X.N = C.N
  hsc : X.env.scope = C.sc
  calm : X.calm = true
  room : Room C.n X.A
  xe : X.xe = fun _ _ => False
  fn : C.top = true → ∀ x, X.fn x = true
theorem Fam.ok.hu {C : Fam} {X : Cx} (h : C.ok X) : X.A.units + 64 < cLine := h.room.units
def Fam.blk (C : Fam) (scope : Scope) : Fam := { C with sc := relS scope C.sc, top := false }
theorem Fam.ok.blk {C : Fam} {X : Cx} (h : C.ok X) {s : Shared} {H : Hp} {scope : Scope} {cl : List (Str × Addr)} {A : Addr} {fp : List Addr} : (C.blk scope).ok (X.blk s H scope (compEnvC scope cl A X.env) fp) where
  hP := h.hP
  hw := h.hw
  hK := h.hK
  hmg := h.hmg
  hb := h.hb
  hN := h.hN
  hsc := by
    show relS scope X.env.scope = relS scope C.sc
    rw [h.hsc]
  calm := h.calm
  room := h.room
  xe := rfl
  fn := fun z => nomatch z

def SE (C : Fam) (e : Expr) (f : En → Option D) : Prop :=
  ∃ t, (∀ X, C.ok X → PE X e t) ∧ ∀ O σ H env Q d, Re C.K O σ H env → f env = some d → Wk C.K O H d Q → t σ H Q
def SB (C : Fam) (e : Expr) (f : En → Option D) : Prop :=
  ∃ t, (∀ X, C.ok X → PE X e t) ∧ ∀ O σ H env Q d, Re C.K O σ H env → f env = some d → (∀ v H', Same H H' → Tp C.K O H' v d → Q v H') → t σ H Q
def ST (C : Fam) (e : Expr) (f : En → Option D) : Prop :=
  ∃ t, (∀ X, C.ok X → PT X e t) ∧ ∀ O σ H env Q b, Re C.K O σ H env → f env = some (.bool b) → (∀ H', Same H H' → Q b H') → t σ H Q
/-- arguments: those with true may be borrowed -/
def ArgR (K : PySem.W.Frag) (O : List Addr) (H : Hp) : List Bool → List V → List D → Prop
  | _, [], [] => True
  | true :: bs, v :: vs, d :: ds => Tp K O H v d ∧ ArgR K O H bs vs ds
  | false :: bs, v :: vs, d :: ds => Dr K (mi H O) v d ∧ ArgR K O H bs vs ds
  | _, _, _ => False
def SA (C : Fam) (bs : List Bool) (es : List Expr) (f : En → Option (List D)) : Prop :=
  ∃ t, (∀ X, C.ok X → PA X es t) ∧ ∀ O σ H env Q ds, Re C.K O σ H env → f env = some ds → (∀ vs H', Same H H' → ArgR C.K O H' bs vs ds → Q vs H') → t σ H Q
theorem ArgR.mono {K : PySem.W.Frag} {O : List Addr} {H H' : Hp} (e : Same H H') : ∀ {bs : List Bool} {vs : List V} {ds : List D}, ArgR K O H bs vs ds → ArgR K O H' bs vs ds
  | _, [], [], _ => by unfold ArgR; trivial
  | true :: bs, _ :: _, _ :: _, ⟨h1, h2⟩ => ⟨h1.mono e, ArgR.mono e h2⟩
  | false :: bs, _ :: _, d :: _, ⟨h1, h2⟩ => ⟨Dr.mono (mi_same e) d h1, ArgR.mono e h2⟩
  | [], [], _ :: _, h => by simp [ArgR] at h
  | [], _ :: _, [], h => by simp [ArgR] at h
  | [], _ :: _, _ :: _, h => by simp [ArgR] at h
  | true :: _, [], _ :: _, h => by simp [ArgR] at h
  | true :: _, _ :: _, [], h => by simp [ArgR] at h
  | false :: _, [], _ :: _, h => by simp [ArgR] at h
  | false :: _, _ :: _, [], h => by simp [ArgR] at h
theorem ArgR.weak {K : PySem.W.Frag} {O : List Addr} {H : Hp} : ∀ {bs : List Bool} {vs : List V} {ds : List D}, ArgR K O H bs vs ds → TpA K O H vs ds
  | _, [], [], _ => trivial
  | true :: bs, _ :: _, _ :: _, ⟨h1, h2⟩ => ⟨h1, ArgR.weak h2⟩
  | false :: bs, _ :: _, d :: _, ⟨h1, h2⟩ => ⟨.of h1, ArgR.weak h2⟩
  | [], [], _ :: _, h => by simp [ArgR] at h
  | [], _ :: _, [], h => by simp [ArgR] at h
  | [], _ :: _, _ :: _, h => by simp [ArgR] at h
  | true :: _, [], _ :: _, h => by simp [ArgR] at h
  | true :: _, _ :: _, [], h => by simp [ArgR] at h
  | false :: _, [], _ :: _, h => by simp [ArgR] at h
  | false :: _, _ :: _, [], h => by simp [ArgR] at h
theorem ArgR.len {K : PySem.W.Frag} {O : List Addr} {H : Hp} : ∀ {bs : List Bool} {vs : List V} {ds : List D}, ArgR K O H bs vs ds → vs.length = ds.length
  | _, [], [], _ => rfl
  | true :: bs, _ :: _, _ :: _, ⟨_, h2⟩ => by rw [List.length_cons, List.length_cons, ArgR.len h2]
  | false :: bs, _ :: _, d :: _, ⟨_, h2⟩ => by rw [List.length_cons, List.length_cons, ArgR.len h2]
  | [], [], _ :: _, h => by simp [ArgR] at h
  | [], _ :: _, [], h => by simp [ArgR] at h
  | [], _ :: _, _ :: _, h => by simp [ArgR] at h
  | true :: _, [], _ :: _, h => by simp [ArgR] at h
  | true :: _, _ :: _, [], h => by simp [ArgR] at h
  | false :: _, [], _ :: _, h => by simp [ArgR] at h
  | false :: _, _ :: _, [], h => by simp [ArgR] at h
theorem ArgR.strict {K : PySem.W.Frag} {O : List Addr} {H : Hp} : ∀ {bs : List Bool} {vs : List V} {ds : List D}, ArgR K O H bs vs ds → bs.all (! ·) = true → DrA K (mi H O) vs ds
  | _, [], [], _, _ => .nil
  | true :: bs, _ :: _, _ :: _, _, h => by simp at h
  | false :: bs, _ :: _, d :: _, ⟨h1, h2⟩, h => .cons h1 (ArgR.strict h2 (by simpa using h))
  | [], [], _ :: _, h, _ => by simp [ArgR] at h
  | [], _ :: _, [], h, _ => by simp [ArgR] at h
  | [], _ :: _, _ :: _, h, _ => by simp [ArgR] at h
  | true :: _, [], _ :: _, h, _ => by simp [ArgR] at h
  | true :: _, _ :: _, [], h, _ => by simp [ArgR] at h
  | false :: _, [], _ :: _, h, _ => by simp [ArgR] at h
  | false :: _, _ :: _, [], h, _ => by simp [ArgR] at h

/-- an expression of a form that is served -/
def plainX : Expr → Bool
  | .Starred _ _ | .Slice _ _ _ _ | .Set _ _ _ | .SetComp _ _ _ _ | .DictComp _ _ _ _ _ | .NamedExpr _ _ _ | .Lambda _ _ _ _ | .IfExp _ _ _ _ => false
  | _ => true
theorem star_ok {e : Expr} {es : List Expr} {env : Env} (h : plainX e = true) : starEach (e :: es) env = (false, eval e env) :: starEach es env := by
  cases e <;> first | rfl | (simp [plainX] at h)
theorem star_any : ∀ {es : List Expr} {env : Env} {pos : Pos}, es.all plainX = true → (backTo pos (starEach es env)).any (·.1) = false
  | [], _, _, _ => rfl
  | e :: es, env, pos, h => by
    rw [List.all_cons, Bool.and_eq_true] at h
    rw [star_ok h.1]
    show (false || (backTo pos (starEach es env)).any (·.1)) = false
    rw [star_any h.2, Bool.or_false]
theorem plain_ix {e : Expr} (h : plainX e = true) : PlainIx e := fun o i => by
  cases e <;> first | rfl | (simp [plainX] at h)
theorem nofold {e : Expr} {env : Env} (h : plainX e = true) (x : Value) : foldedSetIterable e env x = pure x := by
  cases e <;> first | rfl | (simp [plainX] at h)
theorem nomark2 {e : Expr} {op : CmpOp} (h : plainX e = true) : behindInMarks op e = false := by
  cases e <;> first | rfl | (simp [plainX] at h)

section
variable {C : Fam} {a b c e : Expr} {es : List Expr} {f g k : En → Option D} {pos : Pos}
theorem SE.cg {f' : En → Option D} (h : SE C e f) (q : ∀ env, f' env = f env) : SE C e f' := by
  have : f' = f := funext q
  rw [this]; exact h
theorem SB.cg {f' : En → Option D} (h : SB C e f) (q : ∀ env, f' env = f env) : SB C e f' := by
  have : f' = f := funext q
  rw [this]; exact h
theorem ST.cg {f' : En → Option D} (h : ST C e f) (q : ∀ env, f' env = f env) : ST C e f' := by
  have : f' = f := funext q
  rw [this]; exact h
theorem SE.sb (h : SE C e f) : SB C e f := by
  obtain ⟨t, h1, h2⟩ := h
  exact ⟨t, h1, fun O σ H env Q d r hf q => h2 O σ H env Q d r hf fun v H' e hv => q v H' e (.of hv)⟩
theorem se_var {x : Str} {i : Nat} (hN : C.N[i]? = some x) (hv : Vis C.sc x) (hd : (x == ("__debug__" : Str)) = false) (hcd : (x == ("__classdict__" : Str)) = false) : SE C (.Name x pos) (fun env => getV env i) := by
  refine ⟨tVar i, fun X hX => pe_var (by rw [hX.hN]; exact hN) (by rw [hX.hsc]; exact hv) hd hcd, fun O σ H env Q d r hf q => ?_⟩
  replace hf : getV env i = some d := hf
  unfold getV at hf
  split at hf
  · rename_i d' hd'
    cases hf
    obtain ⟨v, h1, h2⟩ := r.val _ _ hd'
    exact ⟨v, h1, wk_self q h2⟩
  · cases hf
theorem sb_var {x : Str} {i : Nat} (hN : C.N[i]? = some x) (hv : Vis C.sc x) (hd : (x == ("__debug__" : Str)) = false) (hcd : (x == ("__classdict__" : Str)) = false) : SB C (.Name x pos) (fun env => getB env i) := by
  refine ⟨tVar i, fun X hX => pe_var (by rw [hX.hN]; exact hN) (by rw [hX.hsc]; exact hv) hd hcd, fun O σ H env Q d r hf q => ?_⟩
  replace hf : getB env i = some d := hf
  unfold getB at hf
  split at hf
  · rename_i d' hd'
    cases hf
    obtain ⟨v, h1, h2⟩ := r.val _ _ hd'
    exact ⟨v, h1, q v H (Same.refl H) (.of h2)⟩
  · rename_i ds hd'
    cases hf
    obtain ⟨a, vs, h1, h2, h3⟩ := r.own _ _ hd'
    exact ⟨_, h1, q _ H (Same.refl H) (.inr ⟨a, vs, ds, rfl, rfl, h2, h3⟩)⟩
  · rename_i d' hd'
    cases hf
    obtain ⟨v, h1, h2⟩ := r.bor _ _ hd'
    exact ⟨v, h1, q v H (Same.refl H) h2⟩
  · cases hf
theorem se_c {v : V} {d : D} (h : ∀ X, C.ok X → PE X e (tC v)) (hd : ∀ H, Dr C.K H v d) : SE C e (fun _ => some d) :=
  ⟨tC v, h, fun O σ H env Q d' r hf q => by cases hf; exact wk_self q (hd _)⟩
theorem se_bin {op : Operator} (ha : SB C a f) (hb : SB C b g) : SE C (.BinOp a op b pos) (fun env => match f env with
    | none => none
    | some x => match g env with
      | none => none
      | some y => opB op x y) := by
  obtain ⟨ta, ha1, ha2⟩ := ha
  obtain ⟨tb, hb1, hb2⟩ := hb
  refine ⟨tOp (rG2 C.K (opB op)) ta tb, fun X hX => ?_, fun O σ H env Q d r hf q => ?_⟩
  · rw [← hX.hK]; exact pe_op (opr_B op) (ha1 X hX) (hb1 X hX)
  · dsimp only at hf
    split at hf
    · cases hf
    · rename_i x hx
      split at hf
      · cases hf
      · rename_i y hy
        refine ha2 O σ H env _ x r hx fun v H1 s1 hv => hb2 O σ H1 env _ y (r.mono s1) hy fun w H2 s2 hw => ?_
        exact ⟨O, x, y, d, (r.mono (s1.trans s2)).al, hv.mono s2, hw, hf, fun z H' s3 hz => q z H' ((s1.trans s2).trans s3) hz⟩
theorem cmp_core {op : CmpOp} {ta tb : TE} (ha2 : ∀ O σ H env Q d, Re C.K O σ H env → f env = some d → (∀ v H', Same H H' → Tp C.K O H' v d → Q v H') → ta σ H Q)
    (hb2 : ∀ O σ H env Q d, Re C.K O σ H env → g env = some d → (∀ v H', Same H H' → Tp C.K O H' v d → Q v H') → tb σ H Q) {O : List Addr} {σ : L2.St} {H : Hp} {env : En} {Q : VK} {d : D} (r : Re C.K O σ H env)
    (hf : (match f env with
      | none => none
      | some x => match g env with
        | none => none
        | some y => (opC op x y).map PyData.bool) = some d) (q : ∀ bb H', Same H H' → d = .bool bb → Q (.bl bb) H') : tOp (rGc C.K (opC op)) ta tb σ H Q := by
  split at hf
  · cases hf
  · rename_i x hx
    split at hf
    · cases hf
    · rename_i y hy
      obtain ⟨bb, hbb, ed⟩ := Option.map_eq_some_iff.mp hf
      refine ha2 O σ H env _ x r hx fun v H1 s1 hv => hb2 O σ H1 env _ y (r.mono s1) hy fun w H2 s2 hw => ?_
      exact ⟨O, x, y, bb, (r.mono (s1.trans s2)).al, hv.mono s2, hw, hbb, q bb H2 (s1.trans s2) ed.symm⟩
theorem se_cmp {op : CmpOp} (ha : SB C a f) (hb : SB C b g) (hp : plainX b = true) : SE C (.Compare a [op] [b] pos) (fun env => match f env with
    | none => none
    | some x => match g env with
      | none => none
      | some y => (opC op x y).map PyData.bool) := by
  obtain ⟨ta, ha1, ha2⟩ := ha
  obtain ⟨tb, hb1, hb2⟩ := hb
  refine ⟨tOp (rGc C.K (opC op)) ta tb, fun X hX => ?_, fun O σ H env Q d r hf q => ?_⟩
  · rw [← hX.hK]; exact pe_cmpR (opr_C hX.hu op) (ha1 X hX) (hb1 X hX) (nomark2 hp)
  · exact cmp_core ha2 hb2 r hf fun bb H' s ed => by subst ed; exact q _ H' s (.bl _)
theorem st_cmp {op : CmpOp} (ha : SB C a f) (hb : SB C b g) (hp : plainX b = true) : ST C (.Compare a [op] [b] pos) (fun env => match f env with
    | none => none
    | some x => match g env with
      | none => none
      | some y => (opC op x y).map PyData.bool) := by
  obtain ⟨ta, ha1, ha2⟩ := ha
  obtain ⟨tb, hb1, hb2⟩ := hb
  refine ⟨tTest (tOp (rGc C.K (opC op)) ta tb), fun X hX => ?_, fun O σ H env Q d r hf q => ?_⟩
  · rw [← hX.hK]; exact pt_cmpR (opr_C hX.hu op) (ha1 X hX) (hb1 X hX) (nomark2 hp)
  · exact cmp_core ha2 hb2 r hf fun bb H' s ed => by cases ed; exact ⟨_, rfl, q H' s⟩
theorem lastM {op op' : CmpOp} (h : plainX c = true) : lastMarks [op, op'] [b, c] = false := nomark2 h
theorem chain_core {op op' : CmpOp} {ta tb tc : TE} (ha2 : ∀ O σ H env Q d, Re C.K O σ H env → f env = some d → (∀ v H', Same H H' → Tp C.K O H' v d → Q v H') → ta σ H Q)
    (hb2 : ∀ O σ H env Q d, Re C.K O σ H env → g env = some d → (∀ v H', Same H H' → Tp C.K O H' v d → Q v H') → tb σ H Q)
    (hc2 : ∀ O σ H env Q d, Re C.K O σ H env → k env = some d → (∀ v H', Same H H' → Tp C.K O H' v d → Q v H') → tc σ H Q) {O : List Addr} {σ : L2.St} {H : Hp} {env : En} {Q : VK} {d : D} (r : Re C.K O σ H env)
    (hf : (match f env with
      | none => none
      | some x => match g env with
        | none => none
        | some y => match opC op x y with
          | none => none
          | some false => some (.bool false)
          | some true => match k env with
            | none => none
            | some z => (opC op' y z).map PyData.bool) = some d) (q : ∀ bb H', Same H H' → d = .bool bb → Q (.bl bb) H') : tChain (rGc C.K (opC op)) (rGc C.K (opC op')) ta tb tc σ H Q := by
  split at hf
  · cases hf
  · rename_i x hx
    split at hf
    · cases hf
    · rename_i y hy
      refine ha2 O σ H env _ x r hx fun v H1 s1 hv => hb2 O σ H1 env _ y (r.mono s1) hy fun w H2 s2 hw => ?_
      split at hf
      · cases hf
      · rename_i ho
        cases hf
        refine ⟨O, x, y, false, (r.mono (s1.trans s2)).al, hv.mono s2, hw, ho, false, rfl, ?_⟩
        exact iteF (q _ H2 (s1.trans s2) rfl)
      · rename_i ho
        refine ⟨O, x, y, true, (r.mono (s1.trans s2)).al, hv.mono s2, hw, ho, true, rfl, ?_⟩
        refine iteT ?_
        split at hf
        · cases hf
        · rename_i z hz
          obtain ⟨bb, hbb, ed⟩ := Option.map_eq_some_iff.mp hf
          refine hc2 O σ H2 env _ z (r.mono (s1.trans s2)) hz fun u H3 s3 hu => ?_
          exact ⟨O, y, z, bb, (r.mono ((s1.trans s2).trans s3)).al, hw.mono s3, hu, hbb, q bb H3 ((s1.trans s2).trans s3) ed.symm⟩
theorem se_cmp2 {op op' : CmpOp} (ha : SB C a f) (hb : SB C b g) (hc : SB C c k) (hp : plainX c = true) : SE C (.Compare a [op, op'] [b, c] pos) (fun env => match f env with
      | none => none
      | some x => match g env with
        | none => none
        | some y => match opC op x y with
          | none => none
          | some false => some (.bool false)
          | some true => match k env with
            | none => none
            | some z => (opC op' y z).map PyData.bool) := by
  obtain ⟨ta, ha1, ha2⟩ := ha
  obtain ⟨tb, hb1, hb2⟩ := hb
  obtain ⟨tc, hc1, hc2⟩ := hc
  refine ⟨tChain (rGc C.K (opC op)) (rGc C.K (opC op')) ta tb tc, fun X hX => ?_, fun O σ H env Q d r hf q => ?_⟩
  · rw [← hX.hK]; exact pe_chain (opr_C hX.hu op) (opr_C hX.hu op') (ha1 X hX) (hb1 X hX) (hc1 X hX) (lastM hp)
  · exact chain_core ha2 hb2 hc2 r hf fun bb H' s ed => by subst ed; exact q _ H' s (.bl _)
theorem st_cmp2 {op op' : CmpOp} (ha : SB C a f) (hb : SB C b g) (hc : SB C c k) (hp : plainX c = true) : ST C (.Compare a [op, op'] [b, c] pos) (fun env => match f env with
      | none => none
      | some x => match g env with
        | none => none
        | some y => match opC op x y with
          | none => none
          | some false => some (.bool false)
          | some true => match k env with
            | none => none
            | some z => (opC op' y z).map PyData.bool) := by
  obtain ⟨ta, ha1, ha2⟩ := ha
  obtain ⟨tb, hb1, hb2⟩ := hb
  obtain ⟨tc, hc1, hc2⟩ := hc
  refine ⟨tTest (tChain (rGc C.K (opC op)) (rGc C.K (opC op')) ta tb tc), fun X hX => ?_, fun O σ H env Q d r hf q => ?_⟩
  · rw [← hX.hK]; exact pt_chain (opr_C hX.hu op) (opr_C hX.hu op') (ha1 X hX) (hb1 X hX) (hc1 X hX) (lastM hp)
  · exact chain_core ha2 hb2 hc2 r hf fun bb H' s ed => by cases ed; exact ⟨_, rfl, q H' s⟩
theorem st_of (h : SE C e f) (hs : ∀ env whole, isTrue e env whole = (do let v ← whole; standAt e.pos; holding [v] (truthy v))) : ST C e f := by
  obtain ⟨t, h1, h2⟩ := h
  refine ⟨tB t, fun X hX => pt_val (h1 X hX) (hs _), fun O σ H env Q b r hf q => h2 O σ H env _ _ r hf fun v H' s hv => ?_⟩
  cases hv
  exact ⟨b, rfl, q H' s⟩
theorem sb_st (h : SB C e f) (hs : ∀ env whole, isTrue e env whole = (do let v ← whole; standAt e.pos; holding [v] (truthy v))) : ST C e f := by
  obtain ⟨t, h1, h2⟩ := h
  refine ⟨tB t, fun X hX => pt_val (h1 X hX) (hs _), fun O σ H env Q b r hf q => h2 O σ H env _ _ r hf fun v H' s hv => ?_⟩
  cases hv.bool
  exact ⟨b, rfl, q H' s⟩
theorem se_neg (ha : SB C a f) : SE C (.UnaryOp .USub a pos) (fun env => match f env with
    | some (.int i) => some (.int (-i))
    | _ => none) := by
  obtain ⟨ta, ha1, ha2⟩ := ha
  refine ⟨tUn (rU fun i => V.int (-i)) ta, fun X hX => pe_un un_neg (ha1 X hX), fun O σ H env Q d r hf q => ?_⟩
  dsimp only at hf
  split at hf
  · rename_i i hi
    cases hf
    refine ha2 O σ H env _ _ r hi fun v H1 s1 hv => ?_
    cases hv.int
    exact ⟨i, rfl, q _ H1 s1 (.int _)⟩
  · cases hf
theorem se_not (ha : SB C a f) : SE C (.UnaryOp .Not a pos) (fun env => match f env with
    | some (.bool b) => some (.bool !b)
    | _ => none) := by
  obtain ⟨ta, ha1, ha2⟩ := ha
  refine ⟨tNotV ta, fun X hX => pe_not (ha1 X hX), fun O σ H env Q d r hf q => ?_⟩
  dsimp only at hf
  split at hf
  · rename_i i hi
    cases hf
    refine ha2 O σ H env _ _ r hi fun v H1 s1 hv => ?_
    cases hv.bool
    exact ⟨i, rfl, q _ H1 s1 (.bl _)⟩
  · cases hf
theorem st_not (ha : ST C a f) : ST C (.UnaryOp .Not a pos) (fun env => match f env with
    | some (.bool b) => some (.bool !b)
    | _ => none) := by
  obtain ⟨ta, ha1, ha2⟩ := ha
  refine ⟨tNot ta, fun X hX => pt_not (ha1 X hX), fun O σ H env Q d r hf q => ?_⟩
  dsimp only at hf
  split at hf
  · rename_i i hi
    cases hf
    exact ha2 O σ H env _ _ r hi fun H1 s1 => q H1 s1
  · cases hf
/-! and, or: as values, as tests -/
theorem se_one {op : BoolOp} (ha : SE C a f) : SE C (.BoolOp op [a] pos) f := by
  obtain ⟨ta, ha1, ha2⟩ := ha
  exact ⟨ta, fun X hX => pe_one (ha1 X hX), ha2⟩
theorem se_and (ha : SB C a f) (hb : SE C (.BoolOp .And (b :: es) pos) g) : SE C (.BoolOp .And (a :: b :: es) pos) (fun env => match f env with
    | some (.bool true) => g env
    | some (.bool false) => some (.bool false)
    | _ => none) := by
  obtain ⟨ta, ha1, ha2⟩ := ha
  obtain ⟨tb, hb1, hb2⟩ := hb
  refine ⟨tAndV ta tb, fun X hX => pe_and (ha1 X hX) (hb1 X hX), fun O σ H env Q d r hf q => ?_⟩
  dsimp only at hf
  split at hf
  · rename_i hi
    refine ha2 O σ H env _ _ r hi fun v H1 s1 hv => ?_
    cases hv.bool
    exact ⟨true, rfl, iteT (hb2 O σ H1 env _ _ (r.mono s1) hf fun v H2 s2 hv => q v H2 (s1.trans s2) hv)⟩
  · rename_i hi
    cases hf
    refine ha2 O σ H env _ _ r hi fun v H1 s1 hv => ?_
    cases hv.bool
    exact ⟨false, rfl, iteF (q _ H1 s1 (.bl _))⟩
  · cases hf
theorem se_or (ha : SB C a f) (hb : SE C (.BoolOp .Or (b :: es) pos) g) : SE C (.BoolOp .Or (a :: b :: es) pos) (fun env => match f env with
    | some (.bool true) => some (.bool true)
    | some (.bool false) => g env
    | _ => none) := by
  obtain ⟨ta, ha1, ha2⟩ := ha
  obtain ⟨tb, hb1, hb2⟩ := hb
  refine ⟨tOrV ta tb, fun X hX => pe_or (ha1 X hX) (hb1 X hX), fun O σ H env Q d r hf q => ?_⟩
  dsimp only at hf
  split at hf
  · rename_i hi
    cases hf
    refine ha2 O σ H env _ _ r hi fun v H1 s1 hv => ?_
    cases hv.bool
    exact ⟨true, rfl, iteT (q _ H1 s1 (.bl _))⟩
  · rename_i hi
    refine ha2 O σ H env _ _ r hi fun v H1 s1 hv => ?_
    cases hv.bool
    exact ⟨false, rfl, iteF (hb2 O σ H1 env _ _ (r.mono s1) hf fun v H2 s2 hv => q v H2 (s1.trans s2) hv)⟩
  · cases hf
/-- a test whatever its whole is -/
def SW (C : Fam) (e : Expr) (f : En → Option D) : Prop :=
  ∃ t, (∀ X, C.ok X → PW X e t) ∧ ∀ O σ H env Q b, Re C.K O σ H env → f env = some (.bool b) → (∀ H', Same H H' → Q b H') → t σ H Q
theorem SW.st (h : SW C e f) : ST C e f := by
  obtain ⟨t, h1, h2⟩ := h
  exact ⟨t, fun X hX => (h1 X hX).pt, h2⟩
theorem SW.cg {f' : En → Option D} (h : SW C e f) (q : ∀ env, f' env = f env) : SW C e f' := by
  have : f' = f := funext q
  rw [this]; exact h
theorem sw_and1 (ha : ST C a f) : SW C (.BoolOp .And [a] pos) f := by
  obtain ⟨ta, ha1, ha2⟩ := ha
  exact ⟨ta, fun X hX => pw_and1 (ha1 X hX), ha2⟩
theorem sw_or1 (ha : ST C a f) : SW C (.BoolOp .Or [a] pos) f := by
  obtain ⟨ta, ha1, ha2⟩ := ha
  exact ⟨ta, fun X hX => pw_or1 (ha1 X hX), ha2⟩
theorem sw_and (ha : ST C a f) (hb : SW C (.BoolOp .And (b :: es) pos) g) : SW C (.BoolOp .And (a :: b :: es) pos) (fun env => match f env with
    | some (.bool true) => g env
    | some (.bool false) => some (.bool false)
    | _ => none) := by
  obtain ⟨ta, ha1, ha2⟩ := ha
  obtain ⟨tb, hb1, hb2⟩ := hb
  refine ⟨tAnd ta tb, fun X hX => pw_and (ha1 X hX) (hb1 X hX), fun O σ H env Q d r hf q => ?_⟩
  dsimp only at hf
  split at hf
  · rename_i hi
    exact ha2 O σ H env _ _ r hi fun H1 s1 => iteT (hb2 O σ H1 env _ _ (r.mono s1) hf fun H2 s2 => q H2 (s1.trans s2))
  · rename_i hi
    cases hf
    exact ha2 O σ H env _ _ r hi fun H1 s1 => iteF (q H1 s1)
  · cases hf
theorem sw_or (ha : ST C a f) (hb : SW C (.BoolOp .Or (b :: es) pos) g) : SW C (.BoolOp .Or (a :: b :: es) pos) (fun env => match f env with
    | some (.bool true) => some (.bool true)
    | some (.bool false) => g env
    | _ => none) := by
  obtain ⟨ta, ha1, ha2⟩ := ha
  obtain ⟨tb, hb1, hb2⟩ := hb
  refine ⟨tOr ta tb, fun X hX => pw_or (ha1 X hX) (hb1 X hX), fun O σ H env Q d r hf q => ?_⟩
  dsimp only at hf
  split at hf
  · rename_i hi
    cases hf
    exact ha2 O σ H env _ _ r hi fun H1 s1 => iteT (q H1 s1)
  · rename_i hi
    exact ha2 O σ H env _ _ r hi fun H1 s1 => iteF (hb2 O σ H1 env _ _ (r.mono s1) hf fun H2 s2 => q H2 (s1.trans s2))
  · cases hf
/-! arguments, displays -/
theorem SA.cg {bs : List Bool} {f f' : En → Option (List D)} (h : SA C bs es f) (q : ∀ env, f' env = f env) : SA C bs es f' := by
  have : f' = f := funext q
  rw [this]; exact h
theorem sa_nil {bs : List Bool} : SA C bs [] (fun _ => some []) :=
  ⟨tNil, fun X hX => pa_nil, fun O σ H env Q ds r hf q => by cases hf; exact q [] H (Same.refl H) (by unfold ArgR; trivial)⟩
theorem sa_cons {bs : List Bool} {h : En → Option (List D)} (ha : SE C a f) (hr : SA C bs es h) (hp : plainX a = true) : SA C (false :: bs) (a :: es) (fun env => match f env with
    | none => none
    | some x => match h env with
      | none => none
      | some xs => some (x :: xs)) := by
  obtain ⟨ta, ha1, ha2⟩ := ha
  obtain ⟨tr, hr1, hr2⟩ := hr
  refine ⟨tCons ta tr, fun X hX => pa_cons (ha1 X hX) (hr1 X hX) (star_ok hp), fun O σ H env Q ds r hf q => ?_⟩
  dsimp only at hf
  split at hf
  · cases hf
  · rename_i x hx
    split at hf
    · cases hf
    · rename_i xs hxs
      cases hf
      refine ha2 O σ H env _ _ r hx fun v H1 s1 hv => hr2 O σ H1 env _ _ (r.mono s1) hxs fun vs H2 s2 hvs => ?_
      exact q _ H2 (s1.trans s2) ⟨Dr.mono (mi_same s2) _ hv, hvs⟩
theorem sa_consb {bs : List Bool} {h : En → Option (List D)} (ha : SB C a f) (hr : SA C bs es h) (hp : plainX a = true) : SA C (true :: bs) (a :: es) (fun env => match f env with
    | none => none
    | some x => match h env with
      | none => none
      | some xs => some (x :: xs)) := by
  obtain ⟨ta, ha1, ha2⟩ := ha
  obtain ⟨tr, hr1, hr2⟩ := hr
  refine ⟨tCons ta tr, fun X hX => pa_cons (ha1 X hX) (hr1 X hX) (star_ok hp), fun O σ H env Q ds r hf q => ?_⟩
  dsimp only at hf
  split at hf
  · cases hf
  · rename_i x hx
    split at hf
    · cases hf
    · rename_i xs hxs
      cases hf
      refine ha2 O σ H env _ _ r hx fun v H1 s1 hv => hr2 O σ H1 env _ _ (r.mono s1) hxs fun vs H2 s2 hvs => ?_
      exact q _ H2 (s1.trans s2) ⟨hv.mono s2, hvs⟩
theorem se_tup {bs : List Bool} {kk : Nat} {h : En → Option (List D)} (ha : SA C bs es h) (hb : bs.all (! ·) = true) : SE C (.Tuple es kk pos) (fun env => match h env with
    | none => none
    | some ds => if ds.length ≤ 1000 then some (.tuple ds) else none) := by
  obtain ⟨ta, ha1, ha2⟩ := ha
  refine ⟨tTup ta, fun X hX => pe_tup (ha1 X hX), fun O σ H env Q d r hf q => ?_⟩
  dsimp only at hf
  split at hf
  · cases hf
  · rename_i ds hds
    split at hf
    · rename_i hl
      cases hf
      refine ha2 O σ H env _ _ r hds fun vs H1 s1 hvs => ⟨szl24 (by rw [hvs.len]; omega), fun p hp => ?_⟩
      exact wk_tup (fun v H' s hv => q v H' (s1.trans s) hv) (r.mono s1).al (hvs.strict hb) p hp
    · cases hf
/-- a new list: fresh, its items strict without it -/
def SF (C : Fam) (e : Expr) (f : En → Option D) : Prop :=
  ∃ t, (∀ X, C.ok X → PE X e t) ∧ ∀ O σ H env (Q : VK) d, Re C.K O σ H env → f env = some d → (∀ p vs ds H', Same H H' → H p = none → d = .list ds → H' p = some (.lst vs) → DrA C.K (mi H' (p :: O)) vs ds → Q (.ref p) H') → t σ H Q
theorem sf_lst {bs : List Bool} {h : En → Option (List D)} (ha : SA C bs es h) (hb : bs.all (! ·) = true) : SF C (.List es pos) (fun env => match h env with
    | none => none
    | some ds => if ds.length ≤ 1000 then some (.list ds) else none) := by
  obtain ⟨ta, ha1, ha2⟩ := ha
  refine ⟨tLst ta, fun X hX => pe_lst (ha1 X hX), fun O σ H env Q d r hf q => ?_⟩
  dsimp only at hf
  split at hf
  · cases hf
  · rename_i ds hds
    split at hf
    · rename_i hl
      cases hf
      refine ha2 O σ H env _ _ r hds fun vs H1 s1 hvs => ⟨szl24 (by rw [hvs.len]; omega), fun p hp => ?_⟩
      exact q p vs ds _ (s1.trans (same_upd hp)) (s1.free hp) rfl upd_same (DrA.mono (mi_new hp (r.mono s1).al) ds (hvs.strict hb))
    · cases hf
theorem SF.cg {f' : En → Option D} (h : SF C e f) (q : ∀ env, f' env = f env) : SF C e f' := by
  have : f' = f := funext q
  rw [this]; exact h
theorem SF.se (h : SF C e f) : SE C e f := by
  obtain ⟨t, h1, h2⟩ := h
  refine ⟨t, h1, fun O σ H env Q d r hf q => h2 O σ H env Q d r hf fun p vs ds H' s hp ed hl hv => ?_⟩
  subst ed
  refine q _ _ s (.lst (xs := vs) ?_ (DrA.mono (mi_sub fun a ha => List.mem_cons_of_mem _ ha) ds hv))
  rw [mi_out (r.al.out hp)]
  exact hl
/-! calls of built-ins -/
theorem se_bi {x : Str} {id : String} {bs : List Bool} {h : En → Option (List D)} {g : List D → Option D} {p : Pos} (hc : ∀ X, C.ok X → CallR X (.builtin id) (rGA X.K g)) (hg : C.sc.names.lookup x = some .globalImplicit) (hm : C.mg x = none)
    (hv : bootBuiltins x = some (.builtin id)) (ha : SA C bs (e :: es) h) (hp : (e :: es).all plainX = true) (hn : x ≠ "__name__") (hdb : (x == ("__debug__" : Str)) = false) :
    SE C (.Call (.Name x p) (e :: es) [] pos) (fun env => match h env with
      | none => none
      | some ds => g ds) := by
  obtain ⟨ta, ha1, ha2⟩ := ha
  rw [List.all_cons, Bool.and_eq_true] at hp
  refine ⟨tCB (rGA C.K g) ta, fun X hX => ?_, fun O σ H env Q d r hf q => ?_⟩
  · rw [← hX.hK]
    exact pe_callB (hc X hX) (show X.env.scope.names.lookup x = _ by rw [hX.hsc]; exact hg) (by rw [hX.hmg]; exact hm) hv (ha1 X hX) hn hdb (star_ok hp.1) (star_any hp.2)
  · dsimp only at hf
    split at hf
    · cases hf
    · rename_i ds hds
      exact ha2 O σ H env _ _ r hds fun vs H1 s1 hvs => ⟨O, ds, d, (r.mono s1).al, hvs.weak, hf, fun v H' s hv => q v H' (s1.trans s) hv⟩
theorem se_ty {x : Str} {T : String} {bs : List Bool} {h : En → Option (List D)} {g : List D → Option D} {p : Pos} (hc : ∀ X, C.ok X → CallR X (.type T) (rGA X.K g)) (hg : C.sc.names.lookup x = some .globalImplicit) (hm : C.mg x = none)
    (hv : bootBuiltins x = some (.type T)) (ha : SA C bs (e :: es) h) (hp : (e :: es).all plainX = true) (hn : x ≠ "__name__") (hdb : (x == ("__debug__" : Str)) = false) :
    SE C (.Call (.Name x p) (e :: es) [] pos) (fun env => match h env with
      | none => none
      | some ds => g ds) := by
  obtain ⟨ta, ha1, ha2⟩ := ha
  rw [List.all_cons, Bool.and_eq_true] at hp
  refine ⟨tCB (rGA C.K g) ta, fun X hX => ?_, fun O σ H env Q d r hf q => ?_⟩
  · rw [← hX.hK]
    exact pe_callTy (hc X hX) (show X.env.scope.names.lookup x = _ by rw [hX.hsc]; exact hg) (by rw [hX.hmg]; exact hm) hv (ha1 X hX) hn hdb (star_ok hp.1) (star_any hp.2)
  · dsimp only at hf
    split at hf
    · cases hf
    · rename_i ds hds
      exact ha2 O σ H env _ _ r hds fun vs H1 s1 hvs => ⟨O, ds, d, (r.mono s1).al, hvs.weak, hf, fun v H' s hv => q v H' (s1.trans s) hv⟩
theorem se_isi {T : Ty} {x : Str} {p p2 : Pos} (ha : SB C a f) (hp : plainX a = true) (hg : C.sc.names.lookup ("isinstance" : Str) = some .globalImplicit) (hm : C.mg "isinstance" = none) (hg2 : C.sc.names.lookup x = some .globalImplicit) (hm2 : C.mg x = none)
    (hv2 : bootBuiltins x = some (.type (tyN T))) (hn : x ≠ "__name__") (hdb : (x == ("__debug__" : Str)) = false) :
    SE C (.Call (.Name "isinstance" p) [a, .Name x p2] [] pos) (fun env => match f env with
      | none => none
      | some d => (evIsi T d).map .bool) := by
  obtain ⟨ta, ha1, ha2⟩ := ha
  refine ⟨tCB (fun vs H Q => ∃ O y dx b, Al O H ∧ vs = [y, .ty (tyN T)] ∧ Tp C.K O H y dx ∧ evIsi T dx = some b ∧ Q (.bl b) H) (tCons ta (tCons (tC (.ty (tyN T))) tNil)), fun X hX => ?_, fun O σ H env Q d r hf q => ?_⟩
  · rw [← hX.hK]
    exact pe_callB (cr_isi T) (show X.env.scope.names.lookup ("isinstance" : Str) = _ by rw [hX.hsc]; exact hg) (by rw [hX.hmg]; exact hm) (by decide +kernel)
      (pa_cons (ha1 X hX) (pa_cons (pe_bltn (show X.env.scope.names.lookup x = _ by rw [hX.hsc]; exact hg2) (by rw [hX.hmg]; exact hm2) hv2 rfl hn hdb) pa_nil) (star_ok hp)) (by decide) (by decide) (star_ok hp) (star_any rfl)
  · dsimp only at hf
    split at hf
    · cases hf
    · rename_i dx hdx
      obtain ⟨b, hb, ed⟩ := Option.map_eq_some_iff.mp hf
      subst ed
      refine ha2 O σ H env _ _ r hdx fun v H1 s1 hv => ?_
      exact ⟨O, v, dx, b, (r.mono s1).al, rfl, hv, hb, q _ H1 s1 (.bl _)⟩
theorem se_ix (ha : SB C a f) (hb : SB C b g) (hp : plainX b = true) : SE C (.Subscript a b pos) (fun env => match f env with
    | none => none
    | some x => match g env with
      | none => none
      | some y => opIx x y) := by
  obtain ⟨ta, ha1, ha2⟩ := ha
  obtain ⟨tb, hb1, hb2⟩ := hb
  refine ⟨tOp (rG2 C.K opIx) ta tb, fun X hX => ?_, fun O σ H env Q d r hf q => ?_⟩
  · rw [← hX.hK]; exact pe_ix ixr (ha1 X hX) (hb1 X hX) (plain_ix hp)
  · dsimp only at hf
    split at hf
    · cases hf
    · rename_i x hx
      split at hf
      · cases hf
      · rename_i y hy
        refine ha2 O σ H env _ x r hx fun v H1 s1 hv => hb2 O σ H1 env _ y (r.mono s1) hy fun w H2 s2 hw => ?_
        exact ⟨O, x, y, d, (r.mono (s1.trans s2)).al, hv.mono s2, hw, hf, fun z H' s3 hz => q z H' ((s1.trans s2).trans s3) hz⟩
/-- a part of a slice -/
def SO (C : Fam) (o : Option Expr) (f : En → Option (Option Int)) : Prop :=
  ∃ t, (∀ X, C.ok X → PO X o t) ∧ ∀ O σ H env Q d, Re C.K O σ H env → f env = some d → (∀ H', Same H H' → Q d H') → t σ H Q
theorem so_none : SO C none (fun _ => some none) := ⟨tNoPart, fun X hX => po_none, fun O σ H env Q d r hf q => by cases hf; exact q H (Same.refl H)⟩
theorem so_some (ha : SB C a f) : SO C (some a) (fun env => match f env with
    | some (.int i) => some (some i)
    | _ => none) := by
  obtain ⟨ta, ha1, ha2⟩ := ha
  refine ⟨tPart ta, fun X hX => po_some (ha1 X hX), fun O σ H env Q d r hf q => ?_⟩
  dsimp only at hf
  split at hf
  · rename_i i hi
    cases hf
    refine ha2 O σ H env _ _ r hi fun v H1 s1 hv => ?_
    cases hv.int
    exact ⟨i, rfl, q H1 s1⟩
  · cases hf
theorem SO.cg {o : Option Expr} {f f' : En → Option (Option Int)} (h : SO C o f) (q : ∀ env, f' env = f env) : SO C o f' := by
  have : f' = f := funext q
  rw [this]; exact h
theorem se_sl {lo hi : Option Expr} {l h : En → Option (Option Int)} {p2 : Pos} (ha : SB C a f) (hl : SO C lo l) (hh : SO C hi h) : SE C (.Subscript a (.Slice lo hi none p2) pos) (fun env => match f env with
    | none => none
    | some x => match l env with
      | none => none
      | some i => match h env with
        | none => none
        | some j => opSl x i j) := by
  obtain ⟨ta, ha1, ha2⟩ := ha
  obtain ⟨tl, hl1, hl2⟩ := hl
  obtain ⟨th, hh1, hh2⟩ := hh
  refine ⟨tSl (rGs C.K opSl) ta tl th, fun X hX => ?_, fun O σ H env Q d r hf q => ?_⟩
  · rw [← hX.hK]; exact pe_slice slr (ha1 X hX) (hl1 X hX) (hh1 X hX)
  · dsimp only at hf
    split at hf
    · cases hf
    · rename_i x hx
      split at hf
      · cases hf
      · rename_i i hi
        split at hf
        · cases hf
        · rename_i j hj
          refine ha2 O σ H env _ x r hx fun v H1 s1 hv => hl2 O σ H1 env _ i (r.mono s1) hi fun H2 s2 => hh2 O σ H2 env _ j (r.mono (s1.trans s2)) hj fun H3 s3 => ?_
          exact ⟨O, x, d, (r.mono ((s1.trans s2).trans s3)).al, hv.mono (s2.trans s3), hf, fun z H' s4 hz => q z H' (((s1.trans s2).trans s3).trans s4) hz⟩
end
end J

/-! Calls of defs, targets, what is walked, comprehensions. -/
namespace J
open PySem PySem.Spec PyProof.Rows L2
/-- what a def promises: the answer of F -/
def spF (K : PySem.W.Frag) (bs : List Bool) (F : List D → Option D) : Sp := fun vs H Q _ => ∃ O ds d, Al O H ∧ ArgR K O H bs vs ds ∧ F ds = some d ∧ Wk K O H d Q
structure FnAt (C : Fam) (x : Str) (bs : List Bool) (F : List D → Option D) : Prop where
  ex : ∃ f fd ps, C.mg x = some (.ref f) ∧ FnOk C.P C.w C.K C.mg C.base CX0 C.n f fd ps (spF C.K bs F) ∧ PySem.W.keepIn C.K (.ref f) = true ∧ Binds C.K fd ps []
section
variable {C : Fam} {a b c e : Expr} {es : List Expr} {f g k : En → Option D} {pos : Pos}
theorem se_call {x : Str} {bs : List Bool} {F : List D → Option D} {h : En → Option (List D)} {p : Pos} (G : FnAt C x bs F) (hg : C.sc.names.lookup x = some .globalImplicit) (ha : SA C bs (e :: es) h) (hp : (e :: es).all plainX = true)
    (hdb : (x == ("__debug__" : Str)) = false) : SE C (.Call (.Name x p) (e :: es) [] pos) (fun env => match h env with
      | none => none
      | some ds => F ds) := by
  obtain ⟨ta, ha1, ha2⟩ := ha
  obtain ⟨fa, fd, ps, hm, hF, hk, hb⟩ := G.ex
  rw [List.all_cons, Bool.and_eq_true] at hp
  refine ⟨tCall (spF C.K bs F) [] E0 ta, fun X hX => ?_, fun O σ H env Q d r hf q => ?_⟩
  · refine pe_call (CX := CX0) (k := C.n) (f := fa) (fd := fd) (ps := ps) (ds := []) ?_ hX.room (show X.env.scope.names.lookup x = _ by rw [hX.hsc]; exact hg) (by rw [hX.hmg]; exact hm) (by rw [hX.hK]; exact hk) (by rw [hX.hK]; exact hb) .nil pass0 (ha1 X hX) hdb (star_ok hp.1) (star_any hp.2)
    rw [hX.hP, hX.hw, hX.hK, hX.hmg, hX.hb]
    exact hF
  · dsimp only at hf
    split at hf
    · cases hf
    · rename_i ds hds
      refine ha2 O σ H env _ _ r hds fun vs H1 s1 hvs => ?_
      rw [List.append_nil]
      exact ⟨O, ds, d, (r.mono s1).al, hvs, hf, fun v H' s hv => q v H' (s1.trans s) hv⟩

/-! ### join, split -/
def notCall : Expr → Bool
  | .Call _ _ _ _ => false
  | _ => true
theorem base_ok {o : Expr} {name : Str} {env : Env} (h : notCall o = true) : attributeBase o name env (eval o env) = eval o env := by
  cases o <;> first | rfl | (simp [notCall] at h)
theorem star1 {env : Env} (h : plainX e = true) : starEach [e] env = [(false, eval e env)] := star_ok h
theorem se_join {apos : Pos} (ha : SB C a f) (hb : SB C b g) (hp : plainX b = true) (ho : notCall a = true) (hl : (apos.endLine == pos.line) = true) :
    SE C (.Call (.Attribute a "join" apos) [b] [] pos) (fun env => match f env with
      | none => none
      | some x => match g env with
        | none => none
        | some y => opJoin x y) := by
  obtain ⟨ta, ha1, ha2⟩ := ha
  obtain ⟨tb, hb1, hb2⟩ := hb
  refine ⟨tM1 (fun x xs H Q => ∃ a p, ∃ ys : List Str, x = .str a ∧ xs = [.ref p] ∧ (SqL C.K H p (ys.map V.str) ∨ SqT C.K H p (ys.map V.str)) ∧ (ys.map (·.length)).sum + ys.length * a.length ≤ 16777216 ∧ Q (.str (Txt.join a ys)) H) ta tb,
    fun X hX => ?_, fun O σ H env Q d r hf q => ?_⟩
  · rw [← hX.hK]; exact pe_join (ha1 X hX) (hb1 X hX) (star1 hp) (base_ok ho) hl
  · dsimp only at hf
    split at hf
    · cases hf
    · rename_i x hx
      split at hf
      · cases hf
      · rename_i y hy
        refine ha2 O σ H env _ x r hx fun v H1 s1 hv => ?_
        unfold opJoin at hf
        split at hf
        · cases hv.str
          refine ⟨⟨_, rfl⟩, hb2 O σ H1 env _ _ (r.mono s1) hy fun w H2 s2 hw => ?_⟩
          obtain ⟨ys, hys, hf⟩ := Option.bind_eq_some_iff.mp hf
          split at hf
          · rename_i hl
            cases hf
            have := strs_eq hys
            subst this
            obtain ⟨p, vs, rfl, h1, h2⟩ := hw.list
            have := h2.ofStrs
            subst this
            exact ⟨_, p, ys, rfl, rfl, .inl (.inl (.inl h1)), by omega, q _ H2 (s1.trans s2) (.str _)⟩
          · cases hf
        · cases hf
theorem sf_split {apos : Pos} (ha : SB C a f) (hb : SB C b g) (hp : plainX b = true) (ho : notCall a = true) (hl : (apos.endLine == pos.line) = true) :
    SF C (.Call (.Attribute a "split" apos) [b] [] pos) (fun env => match f env with
      | none => none
      | some x => match g env with
        | none => none
        | some y => opSplit x y) := by
  obtain ⟨ta, ha1, ha2⟩ := ha
  obtain ⟨tb, hb1, hb2⟩ := hb
  refine ⟨_, fun X hX => pe_split (ha1 X hX) (hb1 X hX) (star1 hp) (base_ok ho) hl, fun O σ H env Q d r hf q => ?_⟩
  dsimp only at hf
  split at hf
  · cases hf
  · rename_i x hx
    split at hf
    · cases hf
    · rename_i y hy
      refine ha2 O σ H env _ x r hx fun v H1 s1 hv => ?_
      unfold opSplit at hf
      split at hf
      · cases hv.str
        refine ⟨⟨_, rfl⟩, hb2 O σ H1 env _ _ (r.mono s1) hy fun w H2 s2 hw => ?_⟩
        cases hw.str
        split at hf
        · rename_i hl
          cases hf
          refine ⟨_, _, rfl, rfl, by rw [hl.1]; rfl, Nat.le_trans (show _ ≤ 100002 by omega) (by decide), fun p hp => ?_⟩
          exact q p _ _ _ ((s1.trans s2).trans (same_upd hp)) ((s1.trans s2).free hp) rfl upd_same (DrA.strs _)
        · cases hf
      · cases hf
/-! ### list(range(..)), tuple(range(..)) -/
theorem rgV_rgD {K : PySem.W.Frag} {H : Hp} (lo hi : Int) : DrA K H (rgV lo hi) (rgD lo hi) := by
  unfold rgV rgD
  induction (List.range (hi - lo).toNat) with
  | nil => exact .nil
  | cons x r ih => exact .cons (.int _) ih
theorem rgOk_of {lo hi : Int} (h : rgOk lo hi = true) : RgOk lo hi := by
  unfold rgOk at h
  simp only [Bool.and_eq_true, decide_eq_true_eq] at h
  refine ⟨by omega, by omega, by omega, by omega, by omega⟩
/-- range(a), range(a, b) as an argument -/
def SR (C : Fam) (e : Expr) (l h : En → Option D) : Prop :=
  ∃ t, (∀ X, C.ok X → PRg X e t) ∧ ∀ O σ H env (Q : Int → Int → Hp → Prop) i j, Re C.K O σ H env → l env = some (.int i) → h env = some (.int j) → (∀ H', Same H H' → Q i j H') → t σ H Q
theorem sr_1 {p : Pos} (hg : C.sc.names.lookup ("range" : Str) = some .globalImplicit) (hm : C.mg "range" = none) (ha : SB C a f) (hp : plainX a = true) : SR C (.Call (.Name "range" p) [a] [] pos) (fun _ => some (.int 0)) f := by
  obtain ⟨ta, ha1, ha2⟩ := ha
  refine ⟨tRg1 ta, fun X hX => prg_1 (show X.env.scope.names.lookup ("range" : Str) = _ by rw [hX.hsc]; exact hg) (by rw [hX.hmg]; exact hm) (ha1 X hX) (star_ok hp), fun O σ H env Q i j r h1 h2 q => ?_⟩
  cases h1
  refine ha2 O σ H env _ _ r h2 fun v H1 s1 hv => ?_
  cases hv.int
  exact ⟨j, rfl, q H1 s1⟩
theorem sr_2 {p : Pos} (hg : C.sc.names.lookup ("range" : Str) = some .globalImplicit) (hm : C.mg "range" = none) (ha : SB C a f) (hb : SB C b g) (hp : plainX a = true) (hp2 : plainX b = true) : SR C (.Call (.Name "range" p) [a, b] [] pos) f g := by
  obtain ⟨ta, ha1, ha2⟩ := ha
  obtain ⟨tb, hb1, hb2⟩ := hb
  refine ⟨tRg2 ta tb, fun X hX => prg_2 (show X.env.scope.names.lookup ("range" : Str) = _ by rw [hX.hsc]; exact hg) (by rw [hX.hmg]; exact hm) (ha1 X hX) (hb1 X hX) (star_ok hp) (star_ok hp2) (hp := star_any (by rw [List.all_cons, hp2]; rfl)), fun O σ H env Q i j r h1 h2 q => ?_⟩
  refine ha2 O σ H env _ _ r h1 fun v H1 s1 hv => hb2 O σ H1 env _ _ (r.mono s1) h2 fun w H2 s2 hw => ?_
  cases hv.int
  cases hw.int
  exact ⟨i, j, rfl, rfl, q H2 (s1.trans s2)⟩
theorem opRg_of {x y : D} {ds : List D} (h : opRg x y = some ds) : ∃ i j, x = .int i ∧ y = .int j ∧ rgOk i j = true ∧ ds = rgD i j := by
  unfold opRg at h
  split at h
  · split at h
    · rename_i i j hr
      cases h
      exact ⟨_, _, rfl, rfl, hr, rfl⟩
    · cases h
  · cases h
theorem sf_rgL {p : Pos} {l h : En → Option D} (hr : SR C e l h) (hp : plainX e = true) (hg : C.sc.names.lookup ("list" : Str) = some .globalImplicit) (hm : C.mg "list" = none) : SF C (.Call (.Name "list" p) [e] [] pos) (fun env => match l env with
    | none => none
    | some x => match h env with
      | none => none
      | some y => (opRg x y).map .list) := by
  obtain ⟨t, h1, h2⟩ := hr
  refine ⟨tLstRg t, fun X hX => pe_listRg hX.calm (show X.env.scope.names.lookup ("list" : Str) = _ by rw [hX.hsc]; exact hg) (by rw [hX.hmg]; exact hm) (h1 X hX) (star_ok hp), fun O σ H env Q d r hf q => ?_⟩
  dsimp only at hf
  split at hf
  · cases hf
  · rename_i x hx
    split at hf
    · cases hf
    · rename_i y hy
      obtain ⟨ds, hds, ed⟩ := Option.map_eq_some_iff.mp hf
      obtain ⟨i, j, rfl, rfl, hk, rfl⟩ := opRg_of hds
      refine h2 O σ H env _ i j r hx hy fun H1 s1 => ⟨rgOk_of hk, fun p hp => ?_⟩
      exact q p _ _ _ (s1.trans (same_upd hp)) (s1.free hp) ed.symm upd_same (rgV_rgD i j)
theorem se_rgT {p : Pos} {l h : En → Option D} (hr : SR C e l h) (hp : plainX e = true) (hg : C.sc.names.lookup ("tuple" : Str) = some .globalImplicit) (hm : C.mg "tuple" = none) : SE C (.Call (.Name "tuple" p) [e] [] pos) (fun env => match l env with
    | none => none
    | some x => match h env with
      | none => none
      | some y => (opRg x y).map .tuple) := by
  obtain ⟨t, h1, h2⟩ := hr
  refine ⟨tTupRg t, fun X hX => pe_tupRg hX.calm (show X.env.scope.names.lookup ("tuple" : Str) = _ by rw [hX.hsc]; exact hg) (by rw [hX.hmg]; exact hm) (h1 X hX) (star_ok hp), fun O σ H env Q d r hf q => ?_⟩
  dsimp only at hf
  split at hf
  · cases hf
  · rename_i x hx
    split at hf
    · cases hf
    · rename_i y hy
      obtain ⟨ds, hds, ed⟩ := Option.map_eq_some_iff.mp hf
      obtain ⟨i, j, rfl, rfl, hk, rfl⟩ := opRg_of hds
      subst ed
      refine h2 O σ H env _ i j r hx hy fun H1 s1 => ⟨rgOk_of hk, fun p hp => ?_⟩
      exact wk_tup (fun v H' s hv => q v H' (s1.trans s) hv) (r.mono s1).al (rgV_rgD i j) p hp

/-! ### what is walked -/
def ItOk (K : PySem.W.Frag) (J : It) (ds : List D) (G : List (V × D)) : Prop := ∀ O H, Al O H → (∀ g ∈ G, Dr K (mi H O) g.1 g.2) → ∀ i,
  (∀ d, ds[i]? = some d → J.go i H ∧ ∀ x H', J.yld i H x H' → Same H H' ∧ Dr K (mi H' O) x d) ∧ (ds.length ≤ i → J.stop i H)
def SI (C : Fam) (tg e : Expr) (f : En → Option (List D)) : Prop :=
  ∃ wi, (∀ X, C.ok X → PI X tg e wi) ∧ ∀ O σ H env (R : It → Hp → Prop) ds, Re C.K O σ H env → f env = some ds → (∀ J H1 G, Same H H1 → ItOk C.K J ds G → (∀ g ∈ G, Dr C.K (mi H1 O) g.1 g.2) → R J H1) → wi σ H R
theorem SI.cg {tg : Expr} {f f' : En → Option (List D)} (h : SI C tg e f) (q : ∀ env, f' env = f env) : SI C tg e f' := by
  have : f' = f := funext q
  rw [this]; exact h
theorem it_list {K : PySem.W.Frag} {a : Addr} {ds : List D} : ItOk K (Itl K a) ds [(.ref a, .list ds)] := fun O H al hG i => by
  have hg : Dr K (mi H O) (.ref a) (.list ds) := hG _ List.mem_cons_self
  cases hg with
  | lst h1 h2 =>
    rename_i xs
    have sq : SqL K H a xs := .inl (.inl (mi_le _ _ h1))
    refine ⟨fun d hd => ?_, fun hl => ⟨xs, sq, by rw [h2.len]; exact hl⟩⟩
    obtain ⟨v, hv, hvd⟩ := h2.get hd
    refine ⟨⟨xs, v, sq, hv⟩, fun x H' hy => ?_⟩
    obtain ⟨rfl, hq⟩ := hy
    have := (hq xs sq).symm.trans hv
    cases this
    exact ⟨Same.refl _, hvd⟩
theorem it_tup {K : PySem.W.Frag} {a : Addr} {ds : List D} : ItOk K (Itt K a) ds [(.ref a, .tuple ds)] := fun O H al hG i => by
  have hg : Dr K (mi H O) (.ref a) (.tuple ds) := hG _ List.mem_cons_self
  cases hg with
  | tup h1 h2 =>
    rename_i xs
    have sq : SqT K H a xs := .inl (.inl (mi_le _ _ h1))
    refine ⟨fun d hd => ?_, fun hl => ⟨xs, sq, by rw [h2.len]; exact hl⟩⟩
    obtain ⟨v, hv, hvd⟩ := h2.get hd
    refine ⟨⟨xs, v, sq, hv⟩, fun x H' hy => ?_⟩
    obtain ⟨rfl, hq⟩ := hy
    have := (hq xs sq).symm.trans hv
    cases this
    exact ⟨Same.refl _, hvd⟩
theorem it_scr {K : PySem.W.Frag} {a : Addr} {ns : List Int} : ItOk K (Itl K a) (ns.map .int) [(.ref a, .dict (ns.map fun n => (.int n, .none)))] := fun O H al hG i => by
  have hg : Dr K (mi H O) (.ref a) (.dict (ns.map fun n => (.int n, .none))) := hG _ List.mem_cons_self
  obtain ⟨b, ms, eb, em, sq⟩ := Tp.dict (Tp.of hg)
  cases eb
  have inj : ∀ l l' : List Int, l.map (fun n => ((PyData.int n, PyData.none) : D × D)) = l'.map (fun n => (PyData.int n, PyData.none)) → l = l' := by
    intro l
    induction l with
    | nil => intro l' h; cases l' with
      | nil => rfl
      | cons _ _ => simp at h
    | cons x r ih => intro l' h; cases l' with
      | nil => simp at h
      | cons y r' => simp only [List.map_cons, List.cons.injEq, Prod.mk.injEq, PyData.int.injEq, and_true] at h; rw [h.1, ih r' h.2]
  have := inj _ _ em
  subst this
  refine ⟨fun d hd => ?_, fun hl => ⟨_, sq, by simpa using hl⟩⟩
  rw [List.getElem?_map] at hd
  obtain ⟨n, hn, ed⟩ := Option.map_eq_some_iff.mp hd
  subst ed
  have hv : (ns.map V.int)[i]? = some (.int n) := by rw [List.getElem?_map, hn]; rfl
  refine ⟨⟨_, _, sq, hv⟩, fun x H' hy => ?_⟩
  obtain ⟨rfl, hq⟩ := hy
  have := (hq _ sq).symm.trans hv
  cases this
  exact ⟨Same.refl _, .int _⟩
theorem it_str {K : PySem.W.Frag} {x : Str} : ItOk K (Its x) (charsD x) [] := fun O H al hG i => by
  have hsz : (charsD x).length = x.cps.size := by unfold charsD; rw [List.length_map, Array.length_toList]
  refine ⟨fun d hd => ?_, fun hl => by rw [hsz] at hl; exact hl⟩
  unfold charsD at hd
  rw [List.getElem?_map, Array.getElem?_toList] at hd
  obtain ⟨c, hc, ed⟩ := Option.map_eq_some_iff.mp hd
  subst ed
  refine ⟨(Array.getElem?_eq_some_iff.mp hc).1, fun y H' hy => ?_⟩
  obtain ⟨rfl, c', hc', rfl⟩ := hy
  rw [hc] at hc'
  cases hc'
  exact ⟨Same.refl _, .str _⟩
theorem it_rg {K : PySem.W.Frag} {lo hi : Int} : ItOk K (Itr lo (hi - lo).toNat) (rgD lo hi) [] := fun O H al hG i => by
  have hsz : (rgD lo hi).length = (hi - lo).toNat := by unfold rgD; rw [List.length_map, List.length_range]
  refine ⟨fun d hd => ?_, fun hl => by rw [hsz] at hl; exact hl⟩
  have hi' : i < (hi - lo).toNat := by rw [← hsz]; exact (List.getElem?_eq_some_iff.mp hd).1
  unfold rgD at hd
  rw [List.getElem?_map, List.getElem?_range hi'] at hd
  cases hd
  refine ⟨hi', fun y H' hy => ?_⟩
  obtain ⟨rfl, rfl⟩ := hy
  exact ⟨Same.refl _, .int _⟩
theorem PI.or {X : Cx} {tg e : Expr} {w1 w2 : TI} (h1 : PI X tg e w1) (h2 : PI X tg e w2) : PI X tg e (fun σ H R => w1 σ H R ∨ w2 σ H R) :=
  ⟨fun pins s σ H R I h => h.elim (fun q => h1.run pins s σ H R I q) fun q => h2.run pins s σ H R I q⟩
theorem si_any {tg : Expr} (h : SE C e f) : SI C tg e (fun env => match f env with
    | none => none
    | some x => itemsD x) := by
  obtain ⟨t, h1, h2⟩ := h
  refine ⟨fun σ H R => iList C.K t σ H R ∨ iTup C.K t σ H R ∨ iStr t σ H R, fun X hX => ?_, fun O σ H env R ds r hf q => ?_⟩
  · rw [← hX.hK]
    exact PI.or (pi_list (h1 X hX)) (PI.or (pi_tup (h1 X hX)) (pi_str (h1 X hX)))
  · dsimp only at hf
    split at hf
    · cases hf
    · rename_i x hx
      unfold itemsD at hf
      split at hf
      · cases hf
        refine .inl (h2 O σ H env _ _ r hx fun v H1 s1 hv => ?_)
        cases hv with
        | lst g1 g2 =>
          rename_i a xs
          refine ⟨a, rfl, ⟨xs, .inl (.inl (mi_le _ _ g1))⟩, q _ H1 _ s1 it_list ?_⟩
          intro z hz
          rcases List.mem_singleton.mp hz with rfl
          exact .lst g1 g2
      · cases hf
        refine .inr (.inl (h2 O σ H env _ _ r hx fun v H1 s1 hv => ?_))
        cases hv with
        | tup g1 g2 =>
          rename_i a xs
          refine ⟨a, rfl, ⟨xs, .inl (.inl (mi_le _ _ g1))⟩, q _ H1 _ s1 it_tup ?_⟩
          intro z hz
          rcases List.mem_singleton.mp hz with rfl
          exact .tup g1 g2
      · rename_i kvs
        refine .inl (h2 O σ H env _ _ r hx fun v H1 s1 hv => ?_)
        cases hv with
        | scr g1 =>
          rename_i a ns
          have e1 : (ns.map fun n => ((PyData.int n, PyData.none) : D × D)).map (·.1) = ns.map PyData.int := by rw [List.map_map]; rfl
          rw [e1] at hf
          cases hf
          refine ⟨a, rfl, ⟨_, same_sqL mi_le g1⟩, q _ H1 _ s1 it_scr ?_⟩
          intro z hz
          rcases List.mem_singleton.mp hz with rfl
          exact .scr g1
      · cases hf
        refine .inr (.inr (h2 O σ H env _ _ r hx fun v H1 s1 hv => ?_))
        cases hv
        exact ⟨_, rfl, q _ H1 [] s1 it_str fun z hz => by cases hz⟩
      · cases hf
theorem si_rg1 {tg : Expr} {p : Pos} (hg : C.sc.names.lookup ("range" : Str) = some .globalImplicit) (hm : C.mg "range" = none) (ha : SB C a f) (hp : plainX a = true) : SI C tg (.Call (.Name "range" p) [a] [] pos) (fun env => match (some (.int 0) : Option D) with
    | none => none
    | some l => match f env with
      | none => none
      | some h => opRg l h) := by
  obtain ⟨ta, ha1, ha2⟩ := ha
  refine ⟨iRng1 (tCons ta tNil), fun X hX => pi_range1 (show X.env.scope.names.lookup ("range" : Str) = _ by rw [hX.hsc]; exact hg) (by rw [hX.hmg]; exact hm) (pa_cons (ha1 X hX) pa_nil (star_ok hp)) (star1 hp), fun O σ H env R ds r hf q => ?_⟩
  dsimp only at hf
  split at hf
  · cases hf
  · rename_i y hy
    obtain ⟨i, j, ei, ej, hk, rfl⟩ := opRg_of hf
    cases ei
    subst ej
    unfold rgOk at hk
    simp only [Bool.and_eq_true, decide_eq_true_eq] at hk
    refine ha2 O σ H env _ _ r hy fun v H1 s1 hv => ?_
    cases hv.int
    refine ⟨j, rfl, by omega, by omega, ?_⟩
    have := q (Itr 0 (j - 0).toNat) H1 [] s1 it_rg (fun z hz => by cases hz)
    rw [Int.sub_zero] at this
    exact this
theorem si_rg2 {tg : Expr} {p : Pos} (hg : C.sc.names.lookup ("range" : Str) = some .globalImplicit) (hm : C.mg "range" = none) (ha : SB C a f) (hb : SB C b g) (hp : plainX a = true) (hp2 : plainX b = true) : SI C tg (.Call (.Name "range" p) [a, b] [] pos) (fun env => match f env with
    | none => none
    | some l => match g env with
      | none => none
      | some h => opRg l h) := by
  obtain ⟨ta, ha1, ha2⟩ := ha
  obtain ⟨tb, hb1, hb2⟩ := hb
  refine ⟨iRng2 (tCons ta (tCons tb tNil)), fun X hX => pi_range2 (show X.env.scope.names.lookup ("range" : Str) = _ by rw [hX.hsc]; exact hg) (by rw [hX.hmg]; exact hm) (pa_cons (ha1 X hX) (pa_cons (hb1 X hX) pa_nil (star_ok hp2)) (star_ok hp)) (by rw [star_ok hp, star1 hp2]) (star1 hp2), fun O σ H env R ds r hf q => ?_⟩
  dsimp only at hf
  split at hf
  · cases hf
  · rename_i x hx
    split at hf
    · cases hf
    · rename_i y hy
      obtain ⟨i, j, rfl, rfl, hk, rfl⟩ := opRg_of hf
      unfold rgOk at hk
      simp only [Bool.and_eq_true, decide_eq_true_eq] at hk
      refine ha2 O σ H env _ _ r hx fun v H1 s1 hv => hb2 O σ H1 env _ _ (r.mono s1) hy fun w H2 s2 hw => ?_
      cases hv.int
      cases hw.int
      exact ⟨i, j, rfl, ⟨by omega, by omega, by omega, by omega⟩, q _ H2 [] (s1.trans s2) it_rg fun z hz => by cases hz⟩

/-! ### targets -/
def tgs : List Nat → TGs
  | [] => gNil
  | i :: r => gCons (gName i) (tgs r)
def tgG (K : PySem.W.Frag) : List Nat → TG
  | [i] => gName i
  | tg => gTup K tg.length (tgs tg)
theorem tgs_run {K : PySem.W.Frag} {O : List Addr} {H : Hp} {Pr : L2.St → En → Prop} {Q : L2.St → Hp → Prop} {all : List Nat} (hset : ∀ σ env i v d, i ∈ all → Pr σ env → Dr K (mi H O) v d → Pr (σ.set i (some v)) (env.set i (.val d))) :
    ∀ (tg : List Nat) (vs : List V) (ds : List D) (σ : L2.St) (env env' : En), (∀ i ∈ tg, i ∈ all) → Pr σ env → DrA K (mi H O) vs ds → bindEach tg ds env = some env' → (∀ σ', Pr σ' env' → Q σ' H) → tgs tg vs σ H Q
  | [], vs, ds, σ, env, env', _, hp, hd, hb, q => by
    cases ds with
    | nil => cases hd; cases hb; exact ⟨rfl, q σ hp⟩
    | cons d ds => simp [bindEach] at hb
  | i :: tg, vs, ds, σ, env, env', hi, hp, hd, hb, q => by
    cases ds with
    | nil => simp [bindEach] at hb
    | cons d ds =>
      cases hd with
      | cons h1 h2 => exact ⟨_, _, rfl, tgs_run hset tg _ ds _ _ env' (fun j hj => hi j (List.mem_cons_of_mem _ hj)) (hset _ _ i _ _ (hi i List.mem_cons_self) hp h1) h2 hb q⟩
theorem bindEach_len : ∀ (tg : List Nat) (ds : List D) (env env' : En), bindEach tg ds env = some env' → tg.length = ds.length
  | [], [], _, _, _ => rfl
  | [], _ :: _, _, _, h => by simp [bindEach] at h
  | _ :: _, [], _, _, h => by simp [bindEach] at h
  | i :: tg, d :: ds, env, env', h => by rw [List.length_cons, List.length_cons, bindEach_len tg ds _ env' h]
theorem tgT_run {K : PySem.W.Frag} {O : List Addr} {H : Hp} {Pr : L2.St → En → Prop} {Q : L2.St → Hp → Prop} {tg : List Nat} (hset : ∀ σ env i v d, i ∈ tg → Pr σ env → Dr K (mi H O) v d → Pr (σ.set i (some v)) (env.set i (.val d)))
    {v : V} {ds : List D} {σ : L2.St} {env env' : En} (hp : Pr σ env) (hd : Dr K (mi H O) v (.tuple ds)) (hb : bindEach tg ds env = some env') (q : ∀ σ', Pr σ' env' → Q σ' H) : gTup K tg.length (tgs tg) v σ H Q := by
  cases hd with
  | tup h1 h2 => exact ⟨_, _, rfl, .inl (.inl (mi_le _ _ h1)), by rw [h2.len, ← bindEach_len _ _ _ _ hb], tgs_run hset tg _ ds σ env env' (fun _ h => h) hp h2 hb q⟩
theorem tgG_run {K : PySem.W.Frag} {O : List Addr} {H : Hp} {Pr : L2.St → En → Prop} {Q : L2.St → Hp → Prop} {tg : List Nat} (hset : ∀ σ env i v d, i ∈ tg → Pr σ env → Dr K (mi H O) v d → Pr (σ.set i (some v)) (env.set i (.val d)))
    {v : V} {d : D} {σ : L2.St} {env env' : En} (hp : Pr σ env) (hd : Dr K (mi H O) v d) (hb : bindT tg d env = some env') (q : ∀ σ', Pr σ' env' → Q σ' H) : tgG K tg v σ H Q := by
  match tg with
  | [i] =>
    have hb' : some (env.set i (.val d)) = some env' := hb
    cases hb'
    exact q _ (hset _ _ i _ _ List.mem_cons_self hp hd)
  | [] =>
    cases d <;> first | (simp [bindT] at hb; done) | skip
    exact tgT_run hset hp hd hb q
  | i :: j :: r =>
    cases d <;> first | (simp [bindT] at hb; done) | skip
    exact tgT_run hset hp hd hb q
/-- a target's names -/
inductive TgN (C : Fam) : Expr → Nat → Prop
  | mk {x : Str} {i : Nat} {pos : Pos} (hi : C.N[i]? = some x) (hx : C.sc.names.lookup x = some .local ∨ (C.sc.names.lookup x = some .cell ∧ C.top = true)) : TgN C (.Name x pos) i
theorem TgN.pg {C : Fam} {e : Expr} {i : Nat} (h : TgN C e i) (nd : C.N.Nodup) {X : Cx} (hX : C.ok X) : PG X e (gName i) := by
  cases h with
  | mk hi hx =>
    refine pg_name (by rw [hX.hN]; exact nd) (by rw [hX.hN]; exact hi) ?_ ?_
    · rcases hx with hx | hx
      · exact .inl (by rw [hX.hsc]; exact hx)
      · exact .inr (by rw [hX.hsc]; exact hx.1)
    · rcases hx with hx | hx
      · exact .inr (by rw [hX.hsc]; exact hx)
      · exact .inl (hX.fn hx.2 _)
inductive TgNs (C : Fam) : List Expr → List Nat → Prop
  | nil : TgNs C [] []
  | cons {e : Expr} {es : List Expr} {i : Nat} {is : List Nat} : TgN C e i → TgNs C es is → TgNs C (e :: es) (i :: is)
theorem TgNs.pgs {C : Fam} (nd : C.N.Nodup) {X : Cx} (hX : C.ok X) : ∀ {es : List Expr} {is : List Nat}, TgNs C es is → PGs X es (tgs is)
  | _, _, .nil => pgs_nil
  | _, _, .cons h t => by
    refine pgs_cons (h.pg nd hX) (TgNs.pgs nd hX t) ?_
    cases h
    rfl
theorem TgNs.facts {C : Fam} {env : Env} : ∀ {es : List Expr} {is : List Nat}, TgNs C es is → (assignEach es env).length = is.length ∧ (assignEach es env).findIdx? (·.1) = none
  | _, _, .nil => ⟨rfl, rfl⟩
  | _, _, .cons h t => by
    obtain ⟨h1, h2⟩ := TgNs.facts (env := env) t
    cases h
    refine ⟨?_, ?_⟩
    · show (assignEach _ env).length + 1 = _
      rw [h1]; rfl
    · show List.findIdx? (·.1) ((false, _) :: assignEach _ env) = none
      rw [List.findIdx?_cons, h2]; rfl
/-- a target: a name, or a tuple of names -/
inductive TgOk (C : Fam) : Expr → List Nat → Prop
  | name {e : Expr} {i : Nat} : TgN C e i → TgOk C e [i]
  | tup {es : List Expr} {i j : Nat} {is : List Nat} {k : Nat} {pos : Pos} : TgNs C es (i :: j :: is) → TgOk C (.Tuple es k pos) (i :: j :: is)
theorem TgOk.pg {C : Fam} {e : Expr} {tg : List Nat} (h : TgOk C e tg) (nd : C.N.Nodup) {X : Cx} (hX : C.ok X) : PG X e (tgG C.K tg) := by
  cases h with
  | name h => exact h.pg nd hX
  | tup h =>
    have q := h.facts (env := X.env)
    have := pg_tup (k := ‹Nat›) (pos := ‹Pos›) hX.calm (h.pgs nd hX) q.1 q.2
    rw [hX.hK] at this
    exact this

/-! ### comprehensions -/
theorem wipeE_len {env : En} : ∀ vs : List Nat, (wipeE env vs).length = env.length
  | [] => rfl
  | v :: vs => by unfold wipeE; rw [List.length_set, wipeE_len vs]
theorem wipeE_out {env : En} {i : Nat} : ∀ {vs : List Nat}, i ∉ vs → (wipeE env vs)[i]? = env[i]?
  | [], _ => rfl
  | v :: vs, h => by
    simp only [List.mem_cons, not_or] at h
    unfold wipeE
    rw [List.getElem?_set_ne (fun e => h.1 e.symm), wipeE_out h.2]
theorem wipeE_in {env : En} {i : Nat} {d : Sl} : ∀ {vs : List Nat}, (wipeE env vs)[i]? = some d → d = .no ∨ (i ∉ vs ∧ env[i]? = some d)
  | [], h => .inr ⟨by simp, h⟩
  | v :: vs, h => by
    unfold wipeE at h
    by_cases hi : v = i
    · subst hi
      by_cases hl : v < (wipeE env vs).length
      · rw [List.getElem?_set_self hl] at h
        cases h
        exact .inl rfl
      · rw [List.getElem?_eq_none (by simpa using hl)] at h
        cases h
    · rw [List.getElem?_set_ne hi] at h
      rcases wipeE_in h with h | ⟨h1, h2⟩
      · exact .inl h
      · refine .inr ⟨?_, h2⟩
        simp only [List.mem_cons, not_or]
        exact ⟨fun e => hi e.symm, h1⟩
theorem Re.wipe {K : PySem.W.Frag} {O : List Addr} {σ : L2.St} {H : Hp} {env : En} (h : Re K O σ H env) (vs : List Nat) : Re K O (wipe σ vs) H (wipeE env vs) where
  len := by rw [wipe_length, wipeE_len]; exact h.len
  al := h.al
  val := fun i d q => by
    rcases wipeE_in q with z | ⟨h1, h2⟩
    · cases z
    · rw [wipe_out h1]; exact h.val i d h2
  own := fun i d q => by
    rcases wipeE_in q with z | ⟨h1, h2⟩
    · cases z
    · rw [wipe_out h1]; exact h.own i d h2
  bor := fun i d q => by
    rcases wipeE_in q with z | ⟨h1, h2⟩
    · cases z
    · rw [wipe_out h1]; exact h.bor i d h2
theorem Re.set {K : PySem.W.Frag} {O : List Addr} {σ : L2.St} {H : Hp} {env : En} (h : Re K O σ H env) {i : Nat} {v : V} {d : D} (hv : Dr K (mi H O) v d) : Re K O (σ.set i (some v)) H (env.set i (.val d)) where
  len := by rw [List.length_set, List.length_set]; exact h.len
  al := h.al
  val := fun j e q => by
    by_cases hij : i = j
    · subst hij
      by_cases hil : i < env.length
      · rw [List.getElem?_set_self hil] at q
        cases q
        exact ⟨v, List.getElem?_set_self (by rw [h.len]; exact hil), hv⟩
      · rw [List.getElem?_eq_none (by simpa using hil)] at q
        cases q
    · rw [List.getElem?_set_ne hij] at q
      rw [List.getElem?_set_ne hij]
      exact h.val j e q
  own := fun j e q => by
    by_cases hij : i = j
    · subst hij
      by_cases hil : i < env.length
      · rw [List.getElem?_set_self hil] at q
        cases q
      · rw [List.getElem?_eq_none (by simpa using hil)] at q
        cases q
    · rw [List.getElem?_set_ne hij] at q
      rw [List.getElem?_set_ne hij]
      exact h.own j e q
  bor := fun j e q => by
    by_cases hij : i = j
    · subst hij
      by_cases hil : i < env.length
      · rw [List.getElem?_set_self hil] at q
        cases q
      · rw [List.getElem?_eq_none (by simpa using hil)] at q
        cases q
    · rw [List.getElem?_set_ne hij] at q
      rw [List.getElem?_set_ne hij]
      exact h.bor j e q
end
end J

/-! Comprehensions; statements. -/
namespace J
open PySem PySem.Spec PyProof.Rows L2
theorem wipe_set {σ : L2.St} {i : Nat} {x : Option V} : ∀ {vs : List Nat}, i ∈ vs → wipe (σ.set i x) vs = wipe σ vs
  | [], h => by cases h
  | v :: vs, h => by
    unfold wipe
    by_cases hi : i = v
    · subst hi
      by_cases hm : i ∈ vs
      · rw [wipe_set hm]
      · have e : ∀ (ws : List Nat), i ∉ ws → wipe (σ.set i x) ws = (wipe σ ws).set i x := by
          intro ws
          induction ws with
          | nil => intro _; rfl
          | cons w ws ih =>
            intro hw
            simp only [List.mem_cons, not_or] at hw
            unfold wipe
            rw [ih hw.2, List.set_comm _ _ (fun z => hw.1 z)]
        rw [e vs hm, List.set_set]
    · have hm : i ∈ vs := by
        rcases List.mem_cons.mp h with z | z
        · exact absurd z hi
        · exact z
      rw [wipe_set hm]
theorem wipe_wipe {σ : L2.St} : ∀ (vs ws : List Nat), (∀ i ∈ vs, i ∈ ws) → wipe (wipe σ vs) ws = wipe σ ws
  | [], ws, _ => rfl
  | v :: vs, ws, h => by
    show wipe ((wipe σ vs).set v none) ws = _
    rw [wipe_set (h v List.mem_cons_self), wipe_wipe vs ws fun i hi => h i (List.mem_cons_of_mem _ hi)]
theorem mi_fresh {H H' : Hp} {O : List Addr} {p : Addr} (hp : H p = none) (s : Same H H') : Same (mi H O) (mi H' (p :: O)) := fun b u e => by
  have e' : H b = some u := mi_le b u e
  have hb : b ≠ p := ne_of_none e' hp
  unfold mi at e ⊢
  split at e
  · cases e
  · rename_i hn
    rw [if_neg (by simp only [List.mem_cons, not_or]; exact ⟨hb, hn⟩)]; exact s _ _ e'
theorem Tp.fresh {K : PySem.W.Frag} {H H' : Hp} {O : List Addr} {p : Addr} {v : V} {d : D} (h : Tp K O H v d) (hp : H p = none) (s : Same H H') : Tp K (p :: O) H' v d := by
  rcases h with h | ⟨a, vs, ds, e1, e2, h1, h2⟩
  · exact .inl (Dr.mono (mi_fresh hp s) d h)
  · exact .inr ⟨a, vs, ds, e1, e2, s _ _ h1, DrA.mono (mi_fresh hp s) ds h2⟩
theorem Re.fresh {K : PySem.W.Frag} {O : List Addr} {σ : L2.St} {H H' : Hp} {env : En} {p : Addr} (h : Re K O σ H env) (hp : H p = none) (s : Same H H') (hp' : H' p ≠ none) : Re K (p :: O) σ H' env where
  len := h.len
  al := fun a ha => by
    rcases List.mem_cons.mp ha with rfl | ha
    · exact hp'
    · exact (h.al.mono s) a ha
  val := fun i d q => let ⟨v, h1, h2⟩ := h.val i d q; ⟨v, h1, Dr.mono (mi_fresh hp s) d h2⟩
  own := fun i ds q => let ⟨a, vs, h1, h2, h3⟩ := h.own i ds q; ⟨a, vs, h1, s _ _ h2, DrA.mono (mi_fresh hp s) ds h3⟩
  bor := fun i d q => let ⟨v, h1, h2⟩ := h.bor i d q; ⟨v, h1, h2.fresh hp s⟩
/-- a comprehension's tests -/
def SC (C : Fam) (ifs : List Expr) (f : En → Option Bool) : Prop :=
  ∃ t, (∀ X, C.ok X → PTs X ifs t) ∧ ∀ O σ H env Q b, Re C.K O σ H env → f env = some b → (∀ H', Same H H' → Q b H') → t σ H Q
section
variable {C : Fam} {a b c e : Expr} {es : List Expr} {f g k : En → Option D} {pos : Pos}
theorem sc_nil : SC C [] (fun _ => some true) := ⟨tYes, fun X hX => pts_nil, fun O σ H env Q b r hf q => by cases hf; exact q H (Same.refl H)⟩
theorem sc_one (h : ST C a f) : SC C [a] (fun env => testD (f env)) := by
  obtain ⟨t, h1, h2⟩ := h
  refine ⟨t, fun X hX => pts_one (h1 X hX), fun O σ H env Q b r hf q => h2 O σ H env Q b r ?_ q⟩
  dsimp only at hf
  unfold testD at hf
  split at hf
  · rename_i b' hb
    cases hf
    exact hb
  · cases hf
theorem SC.cg {ifs : List Expr} {f f' : En → Option Bool} (h : SC C ifs f) (q : ∀ env, f' env = f env) : SC C ifs f' := by
  have : f' = f := funext q
  rw [this]; exact h
theorem lc_run {K : PySem.W.Frag} {tg vs : List Nat} {tt : TT} {te : TE} {cond : En → Option Bool} {elt : En → Option D} (htg : ∀ i ∈ tg, i ∈ vs)
    (ht : ∀ O σ H env Q b, Re K O σ H env → cond env = some b → (∀ H', Same H H' → Q b H') → tt σ H Q) (he : ∀ O σ H env Q d, Re K O σ H env → elt env = some d → Wk K O H d Q → te σ H Q)
    {O : List Addr} {σ : L2.St} {H : Hp} {env : En} (r : Re K O σ H env) {J : It} {ds tot : List D} {G : List (V × D)} (hJ : ItOk K J ds G) (hG : ∀ z ∈ G, Dr K (mi H O) z.1 z.2) (hz : ds.length ≤ 40000)
    (hc : compL (turnC tg vs cond elt env) ds = some tot) {Dl : Addr} (hD : H Dl = none) {Q : VK} (q : ∀ us H', Same H H' → H' Dl = some (.lst us) → DrA K (mi H' (Dl :: O)) us tot → Q (.ref Dl) H') :
    ∃ W : Nat → Nat → Hp → Prop, (∃ m, W 0 m (upd H Dl (.lst []))) ∧ ∀ i m H, W i m H →
      (J.stop i H ∧ Q (.ref Dl) H) ∨ (J.go i H ∧ ∃ Nx : Hp → Prop, (∀ H', Nx H' → ∃ m', m' < m ∧ W (i + 1) m' H') ∧ ∀ x H', J.yld i H x H' → tgG K tg x (wipe σ vs) H' fun σ2 H2 => wipe σ2 vs = wipe σ vs ∧ tt σ2 H2 fun b H3 =>
        if b = true then te σ2 H3 fun y H4 => ∃ acc, H4 Dl = some (.lst acc) ∧ acc.length < sizeLine ∧ Nx (upd H4 Dl (.lst (acc ++ [y]))) else Nx H3) := by
  refine ⟨fun i m H' => m = ds.length - i ∧ i ≤ ds.length ∧ Same H H' ∧ ∃ us ys rest, H' Dl = some (.lst us) ∧ us.length ≤ i ∧ DrA K (mi H' (Dl :: O)) us ys ∧ compL (turnC tg vs cond elt env) (ds.drop i) = some rest ∧ ys ++ rest = tot,
    ⟨ds.length, rfl, Nat.zero_le _, same_upd hD, [], [], tot, upd_same, Nat.le_refl _, .nil, hc, rfl⟩, fun i m H' hW => ?_⟩
  obtain ⟨em, hi, s, us, ys, rest, hl, hul, hu, hr, et⟩ := hW
  have al' : Al (Dl :: O) H' := fun a ha => by
    rcases List.mem_cons.mp ha with rfl | ha
    · rw [hl]; exact fun z => nomatch z
    · exact (r.al.mono s) a ha
  have hG' : ∀ z ∈ G, Dr K (mi H' (Dl :: O)) z.1 z.2 := fun z hz => Dr.mono (mi_fresh hD s) _ (hG z hz)
  obtain ⟨j1, j2⟩ := hJ (Dl :: O) H' al' hG' i
  by_cases hin : i < ds.length
  · refine .inr ?_
    have hd : ds[i]? = some ds[i] := List.getElem?_eq_getElem hin
    obtain ⟨hgo, hy⟩ := j1 _ hd
    rw [List.drop_eq_getElem_cons hin] at hr
    unfold compL at hr
    split at hr
    · cases hr
    · rename_i yo hyo
      split at hr
      · cases hr
      · rename_i rest' hr'
        refine ⟨hgo, fun H'' => ∃ m', m' < m ∧ (m' = ds.length - (i + 1) ∧ i + 1 ≤ ds.length ∧ Same H H'' ∧ ∃ us ys rest, H'' Dl = some (.lst us) ∧ us.length ≤ i + 1 ∧ DrA K (mi H'' (Dl :: O)) us ys ∧ compL (turnC tg vs cond elt env) (ds.drop (i + 1)) = some rest ∧ ys ++ rest = tot), fun _ h => h, fun x H2 hx => ?_⟩
        obtain ⟨s2, hxd⟩ := hy x H2 hx
        have hl2 : H2 Dl = some (.lst us) := s2 _ _ hl
        unfold turnC at hyo
        split at hyo
        · cases hyo
        · rename_i env' hb
          have rr : Re K (Dl :: O) (wipe σ vs) H2 (wipeE env vs) := (r.wipe vs).fresh hD (s.trans s2) (by rw [hl2]; exact fun z => nomatch z)
          refine tgG_run (Pr := fun σ' e' => Re K (Dl :: O) σ' H2 e' ∧ wipe σ' vs = wipe σ vs) (fun σ' e' i' v d hi' hp hv => ⟨hp.1.set hv, by rw [wipe_set (htg i' hi')]; exact hp.2⟩)
            ⟨rr, wipe_wipe vs vs fun _ h => h⟩ hxd hb fun σ2 hp => ⟨hp.2, ?_⟩
          split at hyo
          · cases hyo
          · rename_i hcd
            cases hyo
            refine ht _ σ2 H2 env' _ _ hp.1 hcd fun H3 s3 => iteF ⟨_, by omega, rfl, hin, (s.trans s2).trans s3, us, ys, rest', s3 _ _ hl2, by omega, DrA.mono (mi_same (s2.trans s3)) _ hu, hr', ?_⟩
            cases hr
            exact et
          · rename_i hcd
            split at hyo
            · cases hyo
            · rename_i y hyy
              cases hyo
              cases hr
              refine ht _ σ2 H2 env' _ _ hp.1 hcd fun H3 s3 => iteT (he _ σ2 H3 env' _ _ (hp.1.mono s3) hyy fun v H4 s4 hv => ?_)
              have hl4 : H4 Dl = some (.lst us) := s4 _ _ (s3 _ _ hl2)
              have sal : Same H4 (upd H4 Dl (.lst (us ++ [v]))) → True := fun _ => trivial
              have emi : mi (upd H4 Dl (.lst (us ++ [v]))) (Dl :: O) = mi H4 (Dl :: O) := by
                funext b
                unfold mi
                split
                · rfl
                · rename_i hb
                  simp only [List.mem_cons, not_or] at hb
                  exact upd_ne hb.1
              refine ⟨us, hl4, szlt (by omega), _, by omega, rfl, hin, ?_, us ++ [v], ys ++ [y], rest', upd_same, by rw [List.length_append]; show us.length + 1 ≤ i + 1; omega, ?_, hr', by rw [List.append_assoc]; exact et⟩
              · intro b u hbu
                rw [upd_ne (ne_of_none hbu hD)]
                exact ((s.trans s2).trans (s3.trans s4)) b u hbu
              · rw [emi]
                exact DrA.app (DrA.mono (mi_same ((s2.trans s3).trans s4)) _ hu) (.cons hv .nil)
  · refine .inl ⟨j2 (by omega), ?_⟩
    have ei : i = ds.length := by omega
    rw [ei, List.drop_length] at hr
    cases hr
    rw [List.append_nil] at et
    subst et
    exact q us H' s hl hu
/-- a comprehension's own slots, as the layer wants them -/
def ownOf (N : List Str) (vs : List Nat) : List (Str × Nat) := vs.map fun i => (N.getD i "", i)
theorem ownOf_snd (N : List Str) (vs : List Nat) : (ownOf N vs).map (·.2) = vs := by
  unfold ownOf
  rw [List.map_map]
  exact List.map_id _
theorem sf_comp {elt tge iter : Expr} {ifs : List Expr} {scope : Scope} {tg vs : List Nat} {src : En → Option (List D)} {cond : En → Option Bool} (nd : C.N.Nodup) (hi : SI C tge iter src) (hp : plainX iter = true) (ok : BlkOk C.N C.sc scope (ownOf C.N vs)) (ht : TgOk (C.blk scope) tge tg) (htg : ∀ i ∈ tg, i ∈ vs)
    (hc : SC (C.blk scope) ifs cond) (he : SE (C.blk scope) elt f) : SF C (.ListComp elt [⟨tge, iter, ifs, 0⟩] scope pos) (fun env => match src env with
      | none => none
      | some ds => if ds.length ≤ 40000 then (compL (turnC tg vs cond f env) ds).map PyData.list else none) := by
  obtain ⟨wi, hi1, hi2⟩ := hi
  obtain ⟨tt, hc1, hc2⟩ := hc
  obtain ⟨te, he1, he2⟩ := he
  refine ⟨tLc wi (tgG C.K tg) tt te vs, fun X hX => ?_, fun O σ H env Q d r hf q => ?_⟩
  · have := pe_lc (pos := pos) (own := ownOf C.N vs) hX.calm (by rw [hX.hN]; exact nd) (hi1 X hX) (by rw [hX.hN, hX.hsc]; exact ok) (fun s H A cl fp => ht.pg nd hX.blk) (fun s H A cl fp => hc1 _ hX.blk) (fun s H A cl fp => he1 _ hX.blk) (nofold hp)
    rw [ownOf_snd] at this
    exact this
  · dsimp only at hf
    split at hf
    · cases hf
    · rename_i ds hds
      split at hf
      · rename_i hz
        obtain ⟨tot, htot, ed⟩ := Option.map_eq_some_iff.mp hf
        refine hi2 O σ H env _ ds r hds fun J H1 G s1 hJ hG Dl hD => ?_
        exact lc_run htg hc2 he2 (r.mono s1) hJ hG hz htot hD fun us H' s2 h1 h2 => q Dl us tot H' (s1.trans s2) (s1.free hD) ed.symm h1 h2
      · cases hf
end
end J

/-! Statements. -/
namespace J
open PySem PySem.Spec PyProof.Rows L2
/-- the state between two statements: O0, H0 the entry's; O the addresses that are kept apart, oa i that of the owned list in slot i; G what a loop walks -/
structure Rf (K : PySem.W.Frag) (O0 : List Addr) (H0 : Hp) (G : List (V × D)) (σ : L2.St) (H : Hp) (env : En) (O : List Addr) (oa : Nat → Addr) : Prop where
  len : σ.length = env.length
  al : Al O H
  val : ∀ (i : Nat) (d : D), env[i]? = some (Sl.val d) → ∃ v, σ[i]? = some (some v) ∧ Dr K (mi H O) v d
  own : ∀ (i : Nat) (ds : List D), env[i]? = some (Sl.own ds) → σ[i]? = some (some (.ref (oa i))) ∧ oa i ∈ O ∧ H0 (oa i) = none ∧ oa i ∉ O0 ∧ ∃ vs, H (oa i) = some (.lst vs) ∧ DrA K (mi H O) vs ds
  bor : ∀ (i : Nat) (d : D), env[i]? = some (Sl.bor d) → ∃ v, σ[i]? = some (some v) ∧ Tp K O0 H0 v d
  inj : ∀ (i j : Nat) (ds es : List D), env[i]? = some (Sl.own ds) → env[j]? = some (Sl.own es) → oa i = oa j → i = j
  gh : ∀ g ∈ G, Dr K (mi H O) g.1 g.2
  ext : Same H0 H
  sub : ∀ a ∈ O0, a ∈ O
  new : ∀ a ∈ O, a ∈ O0 ∨ H0 a = none
def RF (K : PySem.W.Frag) (O0 : List Addr) (H0 : Hp) (G : List (V × D)) (σ : L2.St) (H : Hp) (env : En) : Prop := ∃ O oa, Rf K O0 H0 G σ H env O oa
section
variable {K : PySem.W.Frag} {O0 O : List Addr} {H0 H H' : Hp} {G : List (V × D)} {σ : L2.St} {env : En} {oa : Nat → Addr}
theorem Rf.base (h : Rf K O0 H0 G σ H env O oa) : Same (mi H0 O0) (mi H O) := fun b u e => by
  have e' : H0 b = some u := mi_le b u e
  unfold mi at e ⊢
  split at e
  · cases e
  · rename_i hn
    rw [if_neg fun z => ?_]
    · exact h.ext _ _ e'
    · rcases h.new b z with q | q
      · exact hn q
      · rw [q] at e'; cases e'
theorem Rf.re (h : Rf K O0 H0 G σ H env O oa) : Re K O σ H env where
  len := h.len
  al := h.al
  val := h.val
  own := fun i ds q => let ⟨h1, _, _, _, vs, h2, h3⟩ := h.own i ds q; ⟨_, vs, h1, h2, h3⟩
  bor := fun i d q => by
    obtain ⟨v, h1, h2⟩ := h.bor i d q
    refine ⟨v, h1, ?_⟩
    rcases h2 with h2 | ⟨a, vs, ds, e1, e2, h3, h4⟩
    · exact .inl (Dr.mono h.base d h2)
    · exact .inr ⟨a, vs, ds, e1, e2, h.ext _ _ h3, DrA.mono h.base ds h4⟩
theorem Rf.mono (h : Rf K O0 H0 G σ H env O oa) (e : Same H H') : Rf K O0 H0 G σ H' env O oa where
  len := h.len
  al := h.al.mono e
  val := fun i d q => let ⟨v, h1, h2⟩ := h.val i d q; ⟨v, h1, Dr.mono (mi_same e) d h2⟩
  own := fun i ds q => let ⟨h1, h2, h3, h4, vs, h5, h6⟩ := h.own i ds q; ⟨h1, h2, h3, h4, vs, e _ _ h5, DrA.mono (mi_same e) ds h6⟩
  bor := h.bor
  inj := h.inj
  gh := fun g hg => Dr.mono (mi_same e) _ (h.gh g hg)
  ext := h.ext.trans e
  sub := h.sub
  new := h.new
theorem get_set {α : Type} {l : List α} {i j : Nat} {x y : α} (h : (l.set i x)[j]? = some y) : (i = j ∧ y = x ∧ i < l.length) ∨ (i ≠ j ∧ l[j]? = some y) := by
  by_cases hij : i = j
  · subst hij
    by_cases hil : i < l.length
    · rw [List.getElem?_set_self hil] at h
      cases h
      exact .inl ⟨rfl, rfl, hil⟩
    · rw [List.getElem?_eq_none (by simpa using hil)] at h
      cases h
  · rw [List.getElem?_set_ne hij] at h
    exact .inr ⟨hij, h⟩
theorem Rf.set (h : Rf K O0 H0 G σ H env O oa) {i : Nat} {v : V} {d : D} (hv : Dr K (mi H O) v d) : Rf K O0 H0 G (σ.set i (some v)) H (env.set i (.val d)) O oa where
  len := by rw [List.length_set, List.length_set]; exact h.len
  al := h.al
  val := fun j e q => by
    rcases get_set q with ⟨rfl, e1, hl⟩ | ⟨hij, q⟩
    · cases e1
      exact ⟨v, List.getElem?_set_self (by rw [h.len]; exact hl), hv⟩
    · rw [List.getElem?_set_ne hij]; exact h.val j e q
  own := fun j e q => by
    rcases get_set q with ⟨rfl, e1, hl⟩ | ⟨hij, q⟩
    · cases e1
    · rw [List.getElem?_set_ne hij]; exact h.own j e q
  bor := fun j e q => by
    rcases get_set q with ⟨rfl, e1, hl⟩ | ⟨hij, q⟩
    · cases e1
    · rw [List.getElem?_set_ne hij]; exact h.bor j e q
  inj := fun a b x y q1 q2 e => by
    rcases get_set q1 with ⟨rfl, e1, _⟩ | ⟨_, q1⟩
    · cases e1
    · rcases get_set q2 with ⟨rfl, e1, _⟩ | ⟨_, q2⟩
      · cases e1
      · exact h.inj a b x y q1 q2 e
  gh := h.gh
  ext := h.ext
  sub := h.sub
  new := h.new
/-- a fresh list is taken into slot i -/
theorem Rf.setO (h : Rf K O0 H0 G σ H env O oa) {i : Nat} {p : Addr} {vs : List V} {ds : List D} (s : Same H H') (hp : H p = none) (hl : H' p = some (.lst vs)) (hv : DrA K (mi H' (p :: O)) vs ds) :
    Rf K O0 H0 G (σ.set i (some (.ref p))) H' (env.set i (.own ds)) (p :: O) (fun j => if j = i then p else oa j) := by
  have hp0 : H0 p = none := h.ext.free hp
  have hpO : p ∉ O := h.al.out hp
  have hm : Same (mi H O) (mi H' (p :: O)) := mi_fresh hp s
  refine ⟨by rw [List.length_set, List.length_set]; exact h.len, ?_, fun j e q => ?_, fun j e q => ?_, fun j e q => ?_, fun a b x y q1 q2 e => ?_, fun g hg => Dr.mono hm _ (h.gh g hg), h.ext.trans s, fun a ha => List.mem_cons_of_mem _ (h.sub a ha), fun a ha => ?_⟩
  · intro a ha
    rcases List.mem_cons.mp ha with rfl | ha
    · rw [hl]; exact fun z => nomatch z
    · exact (h.al.mono s) a ha
  · rcases get_set q with ⟨rfl, e1, _⟩ | ⟨hij, q⟩
    · cases e1
    · rw [List.getElem?_set_ne hij]
      obtain ⟨v, h1, h2⟩ := h.val j e q
      exact ⟨v, h1, Dr.mono hm _ h2⟩
  · rcases get_set q with ⟨rfl, e1, hil⟩ | ⟨hij, q⟩
    · cases e1
      rw [if_pos rfl]
      exact ⟨List.getElem?_set_self (by rw [h.len]; exact hil), List.mem_cons_self, hp0, fun z => hpO (h.sub p z), vs, hl, hv⟩
    · rw [List.getElem?_set_ne hij, if_neg fun z => hij z.symm]
      obtain ⟨h1, h2, h3, h4, us, h5, h6⟩ := h.own j e q
      exact ⟨h1, List.mem_cons_of_mem _ h2, h3, h4, us, s _ _ h5, DrA.mono hm _ h6⟩
  · rcases get_set q with ⟨rfl, e1, _⟩ | ⟨hij, q⟩
    · cases e1
    · rw [List.getElem?_set_ne hij]; exact h.bor j e q
  · have ne : ∀ (j : Nat) (z : List D), env[j]? = some (Sl.own z) → oa j ≠ p := fun j z q e => by
      obtain ⟨_, h2, _⟩ := h.own j z q
      rw [e] at h2; exact hpO h2
    rcases get_set q1 with ⟨rfl, _, _⟩ | ⟨hia, q1⟩
    · rcases get_set q2 with ⟨rfl, _, _⟩ | ⟨hib, q2⟩
      · rfl
      · rw [if_pos rfl, if_neg fun z => hib z.symm] at e
        exact absurd e.symm (ne b y q2)
    · rcases get_set q2 with ⟨rfl, _, _⟩ | ⟨hib, q2⟩
      · rw [if_pos rfl, if_neg fun z => hia z.symm] at e
        exact absurd e (ne a x q1)
      · rw [if_neg fun z => hia z.symm, if_neg fun z => hib z.symm] at e
        exact h.inj a b x y q1 q2 e
  · rcases List.mem_cons.mp ha with rfl | ha
    · exact .inr hp0
    · exact h.new a ha
theorem mi_mut {p : Addr} {o : HO} (h : p ∈ O) : mi (upd H p o) O = mi H O := by
  funext b
  unfold mi
  split
  · rfl
  · rename_i hb
    exact upd_ne fun z => hb (by rw [z]; exact h)
/-- the owned list in slot i changes -/
theorem Rf.mut (h : Rf K O0 H0 G σ H env O oa) {i : Nat} {ds ds' : List D} {vs' : List V} (hi : env[i]? = some (Sl.own ds)) (hv : DrA K (mi H O) vs' ds') :
    Rf K O0 H0 G σ (upd H (oa i) (.lst vs')) (env.set i (.own ds')) O oa := by
  obtain ⟨i1, i2, i3, i4, us, i5, i6⟩ := h.own i ds hi
  have em : mi (upd H (oa i) (.lst vs')) O = mi H O := mi_mut i2
  have hil : i < env.length := (List.getElem?_eq_some_iff.mp hi).1
  refine ⟨by rw [List.length_set]; exact h.len, ?_, fun j e q => ?_, fun j e q => ?_, fun j e q => ?_, fun a b x y q1 q2 e => ?_, fun g hg => by rw [em]; exact h.gh g hg, fun b u hb => ?_, h.sub, h.new⟩
  · intro a ha
    by_cases e : a = oa i
    · rw [e, upd_same]; exact fun z => nomatch z
    · rw [upd_ne e]; exact h.al a ha
  · rcases get_set q with ⟨rfl, e1, _⟩ | ⟨hij, q⟩
    · cases e1
    · rw [em]; exact h.val j e q
  · rcases get_set q with ⟨rfl, e1, _⟩ | ⟨hij, q⟩
    · cases e1
      rw [em]
      exact ⟨i1, i2, i3, i4, vs', upd_same, hv⟩
    · obtain ⟨h1, h2, h3, h4, us, h5, h6⟩ := h.own j e q
      rw [em]
      exact ⟨h1, h2, h3, h4, us, by rw [upd_ne fun z => hij (h.inj j i _ _ q hi z).symm]; exact h5, h6⟩
  · rcases get_set q with ⟨rfl, e1, _⟩ | ⟨hij, q⟩
    · cases e1
    · exact h.bor j e q
  · have back : ∀ (j : Nat) (z : List D), (env.set i (.own ds'))[j]? = some (Sl.own z) → ∃ z', env[j]? = some (Sl.own z') := fun j z q => by
      rcases get_set q with ⟨rfl, _, _⟩ | ⟨_, q⟩
      · exact ⟨_, hi⟩
      · exact ⟨_, q⟩
    obtain ⟨x', q1⟩ := back a x q1
    obtain ⟨y', q2⟩ := back b y q2
    exact h.inj a b x' y' q1 q2 e
  · rw [upd_ne (ne_of_none hb i3)]
    exact h.ext _ _ hb
/-- the owned list in slot i is shared from now on -/
theorem Rf.shr (h : Rf K O0 H0 G σ H env O oa) {i : Nat} {ds : List D} (hi : env[i]? = some (Sl.own ds)) :
    Rf K O0 H0 G σ H (env.set i (.val (.list ds))) (O.filter fun a => decide (a ≠ oa i)) oa := by
  obtain ⟨i1, i2, i3, i4, us, i5, i6⟩ := h.own i ds hi
  have hsub : ∀ a ∈ O.filter (fun a => decide (a ≠ oa i)), a ∈ O := fun a ha => (List.mem_filter.mp ha).1
  have hm : Same (mi H O) (mi H (O.filter fun a => decide (a ≠ oa i))) := mi_sub hsub
  have hout : oa i ∉ O.filter fun a => decide (a ≠ oa i) := fun z => by
    have := (List.mem_filter.mp z).2
    simp at this
  refine ⟨by rw [List.length_set]; exact h.len, fun a ha => h.al a (hsub a ha), fun j e q => ?_, fun j e q => ?_, fun j e q => ?_, fun a b x y q1 q2 e => ?_, fun g hg => Dr.mono hm _ (h.gh g hg), h.ext, fun a ha => ?_, fun a ha => h.new a (hsub a ha)⟩
  · rcases get_set q with ⟨rfl, e1, _⟩ | ⟨hij, q⟩
    · cases e1
      exact ⟨_, i1, .lst (xs := us) (by rw [mi_out hout]; exact i5) (DrA.mono hm _ i6)⟩
    · obtain ⟨v, h1, h2⟩ := h.val j e q
      exact ⟨v, h1, Dr.mono hm _ h2⟩
  · rcases get_set q with ⟨rfl, e1, _⟩ | ⟨hij, q⟩
    · cases e1
    · obtain ⟨h1, h2, h3, h4, us, h5, h6⟩ := h.own j e q
      refine ⟨h1, List.mem_filter.mpr ⟨h2, ?_⟩, h3, h4, us, h5, DrA.mono hm _ h6⟩
      exact decide_eq_true fun z => hij (h.inj j i _ _ q hi z).symm
  · rcases get_set q with ⟨rfl, e1, _⟩ | ⟨hij, q⟩
    · cases e1
    · exact h.bor j e q
  · rcases get_set q1 with ⟨rfl, e1, _⟩ | ⟨_, q1⟩
    · cases e1
    · rcases get_set q2 with ⟨rfl, e1, _⟩ | ⟨_, q2⟩
      · cases e1
      · exact h.inj a b x y q1 q2 e
  · refine List.mem_filter.mpr ⟨h.sub a ha, decide_eq_true fun z => ?_⟩
    rw [z] at ha
    exact i4 ha
end
def Post (K : PySem.W.Frag) (O0 : List Addr) (H0 : Hp) (G : List (V × D)) (Dn : Ends) : Fl → Prop
  | .nx env => ∀ σ H, RF K O0 H0 G σ H env → Dn.nx σ H
  | .rt d => ∀ v H, Same H0 H → Dr K (mi H O0) v d → Dn.rt v H
def SS (C : Fam) (sts : List Stmt) (f : En → Option Fl) : Prop :=
  ∃ t, (∀ X, C.ok X → PSs X sts t) ∧ ∀ O0 H0 G σ H env Dn fl, RF C.K O0 H0 G σ H env → f env = some fl → Post C.K O0 H0 G Dn fl → t Dn σ H
def S1 (C : Fam) (st : Stmt) (f : En → Option Fl) : Prop :=
  ∃ t, (∀ X, C.ok X → PS X st t) ∧ ∀ O0 H0 G σ H env Dn fl, RF C.K O0 H0 G σ H env → f env = some fl → Post C.K O0 H0 G Dn fl → t Dn σ H
section
variable {C : Fam} {a b c e : Expr} {es : List Expr} {f g k : En → Option D} {pos : Pos} {st : Stmt} {sts : List Stmt} {F F' : En → Option Fl}
theorem S1.cg (h : S1 C st F) (q : ∀ env, F' env = F env) : S1 C st F' := by
  have : F' = F := funext q
  rw [this]; exact h
theorem SS.cg (h : SS C sts F) (q : ∀ env, F' env = F env) : SS C sts F' := by
  have : F' = F := funext q
  rw [this]; exact h
theorem ss_nil : SS C [] (fun env => some (.nx env)) := ⟨tNext, fun X hX => pss_nil, fun O0 H0 G σ H env Dn fl r hf q => by cases hf; exact q σ H r⟩
theorem ss_cons (h1 : S1 C st F) (h2 : SS C sts F') : SS C (st :: sts) (fun env => match F env with
    | some (.nx env') => F' env'
    | q => q) := by
  obtain ⟨t, a1, a2⟩ := h1
  obtain ⟨u, b1, b2⟩ := h2
  refine ⟨tSeq t u, fun X hX => pss_cons (a1 X hX) (b1 X hX), fun O0 H0 G σ H env Dn fl r hf q => ?_⟩
  dsimp only at hf
  split at hf
  · rename_i env' he
    exact a2 O0 H0 G σ H env _ _ r he fun σ' H' r' => b2 O0 H0 G σ' H' env' Dn fl r' hf q
  · rename_i hn
    cases fl with
    | nx env' => exact absurd hf (hn env')
    | rt d => exact a2 O0 H0 G σ H env _ _ r hf q
theorem ss_shr {i : Nat} (h : SS C sts F) : SS C sts (fun env => match (match env[i]? with
      | some (.own ds) => some (Fl.nx (env.set i (.val (.list ds))))
      | _ => some (.nx env)) with
    | some (.nx env') => F env'
    | q => q) := by
  obtain ⟨t, h1, h2⟩ := h
  refine ⟨t, h1, fun O0 H0 G σ H env Dn fl r hf q => ?_⟩
  dsimp only at hf
  cases he : env[i]? with
  | none => rw [he] at hf; exact h2 _ _ _ _ _ _ _ _ r hf q
  | some sl =>
    rw [he] at hf
    cases sl with
    | own ds =>
      obtain ⟨O, oa, r⟩ := r
      exact h2 _ _ _ _ _ _ _ _ ⟨_, _, r.shr he⟩ hf q
    | no => exact h2 _ _ _ _ _ _ _ _ r hf q
    | val d => exact h2 _ _ _ _ _ _ _ _ r hf q
    | bor d => exact h2 _ _ _ _ _ _ _ _ r hf q

/-! ### x = e -/
def notComp : Expr → Bool
  | .ListComp _ _ _ _ | .SetComp _ _ _ _ | .DictComp _ _ _ _ _ => false
  | _ => true
theorem sw_no {t : Option Expr} {l : Nat} {env : Env} (h : notComp e = true) : swapsWith e t l env = pure false := by
  cases e <;> first | rfl | (simp [notComp] at h)
theorem sw_sole {tg : Expr} {l : Nat} {env : Env} (h : notComp e = true) : swapsWithSole [tg] e l env = pure false := by
  show swapsWith e (some tg) l env = pure false
  exact sw_no h
/-- an assignment to a name: its reading, with a new list as its value | with any value -/
def SGf (C : Fam) (st : Stmt) (i : Nat) (f : En → Option D) : Prop :=
  ∃ t, (∀ X, C.ok X → PS X st (tAsg t (gName i))) ∧ ∀ O σ H env (Q : VK) d, Re C.K O σ H env → f env = some d → (∀ p vs ds H', Same H H' → H p = none → d = .list ds → H' p = some (.lst vs) → DrA C.K (mi H' (p :: O)) vs ds → Q (.ref p) H') → t σ H Q
def SGv (C : Fam) (st : Stmt) (i : Nat) (f : En → Option D) : Prop :=
  ∃ t, (∀ X, C.ok X → PS X st (tAsg t (gName i))) ∧ ∀ O σ H env (Q : VK) d, Re C.K O σ H env → f env = some d → Wk C.K O H d Q → t σ H Q
theorem SGf.cg {i : Nat} {f' : En → Option D} (h : SGf C st i f) (q : ∀ env, f' env = f env) : SGf C st i f' := by
  have : f' = f := funext q
  rw [this]; exact h
theorem SGv.cg {i : Nat} {f' : En → Option D} (h : SGv C st i f) (q : ∀ env, f' env = f env) : SGv C st i f' := by
  have : f' = f := funext q
  rw [this]; exact h
theorem SGf.v {i : Nat} (h : SGf C st i f) : SGv C st i f := by
  obtain ⟨t, h1, h2⟩ := h
  refine ⟨t, h1, fun O σ H env Q d r hf q => h2 O σ H env Q d r hf fun p vs ds H' s hp ed hl hv => ?_⟩
  subst ed
  refine q _ _ s (.lst (xs := vs) ?_ (DrA.mono (mi_sub fun a ha => List.mem_cons_of_mem _ ha) ds hv))
  rw [mi_out (r.al.out hp)]
  exact hl
theorem TgN.set {x : Expr} {i : Nat} (h : TgN C x i) (nd : C.N.Nodup) {X : Cx} (hX : C.ok X) {t : TE} (he : PE X e t) (hn : notComp e = true) : PS X (.Assign [x] e pos) (tAsg t (gName i)) := by
  cases h with
  | mk hi hx =>
    refine ps_set (by rw [hX.hN]; exact nd) (by rw [hX.hN]; exact hi) ?_ he (sw_no hn) ?_
    · rcases hx with hx | hx
      · exact .inl (by rw [hX.hsc]; exact hx)
      · exact .inr (by rw [hX.hsc]; exact hx.1)
    · rcases hx with hx | hx
      · exact .inr (by rw [hX.hsc]; exact hx)
      · exact .inl (hX.fn hx.2 _)
theorem sgv {x : Expr} {i : Nat} (nd : C.N.Nodup) (h : TgN C x i) (he : SE C e f) (hn : notComp e = true) : SGv C (.Assign [x] e pos) i f := by
  obtain ⟨t, h1, h2⟩ := he
  exact ⟨t, fun X hX => h.set nd hX (h1 X hX) hn, h2⟩
theorem sgf {x : Expr} {i : Nat} (nd : C.N.Nodup) (h : TgN C x i) (he : SF C e f) (hn : notComp e = true) : SGf C (.Assign [x] e pos) i f := by
  obtain ⟨t, h1, h2⟩ := he
  exact ⟨t, fun X hX => h.set nd hX (h1 X hX) hn, h2⟩
theorem sgf_comp {y : Str} {py lpos : Pos} {i : Nat} {elt tge iter : Expr} {ifs : List Expr} {scope : Scope} {tg vs : List Nat} {src : En → Option (List D)} {cond : En → Option Bool} (nd : C.N.Nodup) (hy : C.N[i]? = some y) (hyl : C.sc.names.lookup y = some .local) (hk : C.sc.kind = .function) (hln : (py.line == lpos.line) = true)
    (hna : (scope.names.any fun (n, k) => n == y && (k == .local || k == .cell)) = false) (hi : SI C tge iter src) (hp : plainX iter = true) (ok : BlkOk C.N C.sc scope (ownOf C.N vs)) (ht : TgOk (C.blk scope) tge tg) (htg : ∀ i ∈ tg, i ∈ vs)
    (hc : SC (C.blk scope) ifs cond) (he : SE (C.blk scope) elt f) : SGf C (.Assign [.Name y py] (.ListComp elt [⟨tge, iter, ifs, 0⟩] scope lpos) pos) i (fun env => match src env with
      | none => none
      | some ds => if ds.length ≤ 40000 then (compL (turnC tg vs cond f env) ds).map PyData.list else none) := by
  obtain ⟨wi, hi1, hi2⟩ := hi
  obtain ⟨tt, hc1, hc2⟩ := hc
  obtain ⟨te, he1, he2⟩ := he
  refine ⟨tLc wi (tgG C.K tg) tt te vs, fun X hX => ?_, fun O σ H env Q d r hf q => ?_⟩
  · have := ps_setLc (pos := lpos) (spos := pos) (own := ownOf C.N vs) hX.calm (by rw [hX.hN]; exact nd) (by rw [hX.hN]; exact hy) (by rw [hX.hsc]; exact hyl) (sw_true (by rw [hX.hsc]; exact hk) (by rw [hX.hsc]; exact hyl) hln hna) (hi1 X hX) (by rw [hX.hN, hX.hsc]; exact ok)
      (fun s H A cl fp => ht.pg nd hX.blk) (fun s H A cl fp => hc1 _ hX.blk) (fun s H A cl fp => he1 _ hX.blk) (nofold hp)
    rw [ownOf_snd] at this
    exact this
  · dsimp only at hf
    split at hf
    · cases hf
    · rename_i ds hds
      split at hf
      · rename_i hz
        obtain ⟨tot, htot, ed⟩ := Option.map_eq_some_iff.mp hf
        refine hi2 O σ H env _ ds r hds fun J H1 G s1 hJ hG Dl hD => ?_
        exact lc_run htg hc2 he2 (r.mono s1) hJ hG hz htot hD fun us H' s2 h1 h2 => q Dl us tot H' (s1.trans s2) (s1.free hD) ed.symm h1 h2
      · cases hf
theorem s1_set {i : Nat} (h : SGv C st i f) : S1 C st (fun env => match f env with
    | none => none
    | some d => some (.nx (env.set i (.val d)))) := by
  obtain ⟨t, h1, h2⟩ := h
  refine ⟨_, h1, fun O0 H0 G σ H env Dn fl r hf q => ?_⟩
  obtain ⟨O, oa, r⟩ := r
  dsimp only at hf
  split at hf
  · cases hf
  · rename_i d hd
    cases hf
    exact h2 O σ H env _ d r.re hd fun v H' s hv => q _ _ ⟨O, oa, (r.mono s).set hv⟩
theorem s1_setO {i : Nat} (h : SGf C st i f) : S1 C st (fun env => match f env with
    | some (.list ds) => some (.nx (env.set i (.own ds)))
    | _ => none) := by
  obtain ⟨t, h1, h2⟩ := h
  refine ⟨_, h1, fun O0 H0 G σ H env Dn fl r hf q => ?_⟩
  obtain ⟨O, oa, r⟩ := r
  dsimp only at hf
  split at hf
  · rename_i ds hd
    cases hf
    refine h2 O σ H env _ _ r.re hd fun p vs ds' H' s hp ed hl hv => ?_
    cases ed
    exact q _ _ ⟨_, _, r.setO s hp hl hv⟩
  · cases hf
/-! ### a, b = e -/
def notTuple : Expr → Bool
  | .Tuple _ _ _ => false
  | _ => true
theorem sws_no {ts : List Expr} {kk : Nat} {tp : Pos} {env : Env} (h : notTuple e = true) : swappedStores [.Tuple ts kk tp] e env = pure none := by
  cases e <;> first | rfl | (simp [notTuple] at h)
theorem s1_unp {ts : List Expr} {kk : Nat} {tp : Pos} {i j : Nat} {is : List Nat} (nd : C.N.Nodup) (h : TgNs C ts (i :: j :: is)) (he : SE C e f) (hn : notComp e = true) (hw : ∀ X, C.ok X → swappedStores [.Tuple ts kk tp] e X.env = pure none) : S1 C (.Assign [.Tuple ts kk tp] e pos) (fun env => match f env with
    | some (.tuple ds) => (bindEach (i :: j :: is) ds env).map .nx
    | _ => none) := by
  obtain ⟨t, h1, h2⟩ := he
  refine ⟨tAsg t (tgG C.K (i :: j :: is)), fun X hX => ps_asg (h1 X hX) (TgOk.pg (.tup h) nd hX) (sw_sole hn) (hw X hX) rfl, fun O0 H0 G σ H env Dn fl r hf q => ?_⟩
  obtain ⟨O, oa, r⟩ := r
  dsimp only at hf
  split at hf
  · rename_i ds hd
    obtain ⟨env', hb, efl⟩ := Option.map_eq_some_iff.mp hf
    subst efl
    refine h2 O σ H env _ _ r.re hd fun v H' s hv => ?_
    exact tgT_run (Pr := fun σ' e' => Rf C.K O0 H0 G σ' H' e' O oa) (fun σ' e' i' v' d' _ hp hv' => hp.set hv') (r.mono s) hv hb fun σ' hp => q σ' H' ⟨O, oa, hp⟩
  · cases hf
theorem s1_par {x y : Str} {px py tp : Pos} {kt k2 : Nat} {p2 : Pos} {i j : Nat} (nd : C.N.Nodup) (hi : C.N[i]? = some x) (hj : C.N[j]? = some y) (hij : i ≠ j) (hx : C.sc.names.lookup x = some .local) (hy : C.sc.names.lookup y = some .local) (ha : SE C a f) (hb : SE C b g)
    (hpa : plainX a = true) (hpb : plainX b = true) (hw : ∀ X, C.ok X → swappedStores [.Tuple [.Name x px, .Name y py] kt tp] (.Tuple [a, b] k2 p2) X.env = pure (some [x, y])) :
    S1 C (.Assign [.Tuple [.Name x px, .Name y py] kt tp] (.Tuple [a, b] k2 p2) pos) (fun env => match f env with
      | none => none
      | some x => match g env with
        | none => none
        | some y => some (.nx ((env.set i (.val x)).set j (.val y)))) := by
  obtain ⟨ta, ha1, ha2⟩ := ha
  obtain ⟨tb, hb1, hb2⟩ := hb
  refine ⟨tPar i j (tCons ta (tCons tb tNil)), fun X hX => ps_par hX.calm (by rw [hX.hN]; exact nd) (by rw [hX.hN]; exact hi) (by rw [hX.hN]; exact hj) hij (by rw [hX.hsc]; exact hx) (by rw [hX.hsc]; exact hy) (pa_cons (ha1 X hX) (pa_cons (hb1 X hX) pa_nil (star_ok hpb)) (star_ok hpa)) (hw X hX) rfl,
    fun O0 H0 G σ H env Dn fl r hf q => ?_⟩
  obtain ⟨O, oa, r⟩ := r
  dsimp only at hf
  split at hf
  · cases hf
  · rename_i d1 hd1
    split at hf
    · cases hf
    · rename_i d2 hd2
      cases hf
      refine ha2 O σ H env _ _ r.re hd1 fun v H1 s1 hv => hb2 O σ H1 env _ _ (r.mono s1).re hd2 fun w H2 s2 hw => ⟨v, w, rfl, ?_⟩
      exact q _ _ ⟨O, oa, (((r.mono s1).mono s2).set (Dr.mono (mi_same s2) _ hv)).set hw⟩
/-! ### xs.append(e), xs[i] = e -/
theorem s1_app {x : Str} {p apos cpos : Pos} {i : Nat} (hN : C.N[i]? = some x) (hv : Vis C.sc x) (hd : (x == ("__debug__" : Str)) = false) (hcd : (x == ("__classdict__" : Str)) = false) (he : SE C e f) (hp : plainX e = true) (hl : (apos.endLine == cpos.line) = true) :
    S1 C (.Expr (.Call (.Attribute (.Name x p) "append" apos) [e] [] cpos) pos) (fun env => match env[i]? with
      | some (.own ds) => match f env with
        | none => none
        | some d => if ds.length < 100000 then some (.nx (env.set i (.own (ds ++ [d])))) else none
      | _ => none) := by
  obtain ⟨t, h1, h2⟩ := he
  refine ⟨tDrop (tBM C.K "list" rAppend (tVar i) (tCons t tNil)), fun X hX => ?_, fun O0 H0 G σ H env Dn fl r hf q => ?_⟩
  · rw [← hX.hK]
    refine ps_expr (pe_bm PySem.F.plainAttrs_list PySem.F.slot_list_append PySem.F.type_list_append mt_append (pe_var (by rw [hX.hN]; exact hN) (by rw [hX.hsc]; exact hv) hd hcd) (pa_cons (h1 X hX) pa_nil (star_ok hp)) rfl ?_ hl (star_ok hp) rfl)
    rw [star_ok hp]
    rfl
  · obtain ⟨O, oa, r⟩ := r
    dsimp only at hf
    split at hf
    · rename_i ds ho
      split at hf
      · cases hf
      · rename_i d hd
        split at hf
        · rename_i hz
          cases hf
          obtain ⟨o1, o2, o3, o4, vs, o5, o6⟩ := r.own i ds ho
          refine ⟨_, o1, .inl ⟨rfl, vs, .inl (.inl o5)⟩, h2 O σ H env _ _ r.re hd fun v H' s hv => ?_⟩
          have r' := r.mono s
          refine ⟨_, vs, v, rfl, rfl, s _ _ o5, szlt (by rw [o6.len]; exact hz), q _ _ ⟨O, oa, r'.mut ho ?_⟩⟩
          exact DrA.app (DrA.mono (mi_same s) _ o6) (.cons hv .nil)
        · cases hf
    · cases hf
theorem assign_sub {x : Str} {p sp : Pos} {env : Env} (hp : plainX b = true) (v : Value) : assign (.Subscript (.Name x p) b sp) env v = (do
      let ov ← holding [v] (eval (.Name x p) env)
      let iv ← holding [v, ov] (eval b env)
      standAt sp
      holding [v, ov, iv] (setItem ov iv v)
      release [v, ov, iv] []) := by
  cases b <;> first | rfl | (simp [plainX] at hp)
theorem s1_sti {x : Str} {p sp : Pos} {i : Nat} (hN : C.N[i]? = some x) (hv : Vis C.sc x) (hd : (x == ("__debug__" : Str)) = false) (hcd : (x == ("__classdict__" : Str)) = false) (he : SE C e f) (hb : SB C b g) (hp : plainX b = true) (hn : notComp e = true) :
    S1 C (.Assign [.Subscript (.Name x p) b sp] e pos) (fun env => match env[i]? with
      | some (.own ds) => match f env with
        | none => none
        | some d => match g env with
          | some (.int k) => match ixN ds.length k with
            | none => none
            | some j => some (.nx (env.set i (.own (ds.set j d))))
          | _ => none
      | _ => none) := by
  obtain ⟨t, h1, h2⟩ := he
  obtain ⟨tb, hb1, hb2⟩ := hb
  refine ⟨tAsg t (gSub (tVar i) tb rSetL), fun X hX => ?_, fun O0 H0 G σ H env Dn fl r hf q => ?_⟩
  · exact ps_asg (h1 X hX) (pg_sub (pe_var (by rw [hX.hN]; exact hN) (by rw [hX.hsc]; exact hv) hd hcd) (hb1 X hX) set_list (assign_sub hp)) (sw_sole hn) rfl rfl
  · obtain ⟨O, oa, r⟩ := r
    dsimp only at hf
    split at hf
    · rename_i ds ho
      split at hf
      · cases hf
      · rename_i d hd
        split at hf
        · rename_i kk hk
          split at hf
          · cases hf
          · rename_i j hj
            cases hf
            refine h2 O σ H env _ _ r.re hd fun v H1 s1 hv => ?_
            have r1 := r.mono s1
            obtain ⟨o1, o2, o3, o4, vs, o5, o6⟩ := r1.own i ds ho
            refine ⟨_, o1, hb2 O σ H1 env _ _ r1.re hk fun w H2 s2 hw => ?_⟩
            cases hw.int
            have r2 := r1.mono s2
            refine ⟨_, vs, kk, j, rfl, rfl, s2 _ _ o5, by rw [o6.len]; exact hj, q _ _ ⟨O, oa, r2.mut ho ?_⟩⟩
            exact DrA.set (Dr.mono (mi_same s2) _ hv) j (DrA.mono (mi_same s2) _ o6)
        · cases hf
    · cases hf
/-! ### if, for, while, return -/
theorem s1_if {A B : List Stmt} {FA FB : En → Option Fl} (hc : ST C c f) (ha : SS C A FA) (hb : SS C B FB) : S1 C (.If c A B pos) (fun env => match testD (f env) with
    | none => none
    | some true => FA env
    | some false => FB env) := by
  obtain ⟨tc, hc1, hc2⟩ := hc
  obtain ⟨ta, ha1, ha2⟩ := ha
  obtain ⟨tb, hb1, hb2⟩ := hb
  refine ⟨tIfS tc ta tb, fun X hX => ps_if (hc1 X hX) (ha1 X hX) (hb1 X hX), fun O0 H0 G σ H env Dn fl r hf q => ?_⟩
  obtain ⟨O, oa, r⟩ := r
  dsimp only at hf
  have tsv : ∀ bb, testD (f env) = some bb → f env = some (.bool bb) := fun bb h => by
    unfold testD at h
    split at h
    · rename_i b' hb'; cases h; exact hb'
    · cases h
  split at hf
  · cases hf
  · rename_i ht
    exact hc2 O σ H env _ _ r.re (tsv _ ht) fun H1 s1 => iteT (ha2 O0 H0 G σ H1 env Dn fl ⟨O, oa, r.mono s1⟩ hf q)
  · rename_i ht
    exact hc2 O σ H env _ _ r.re (tsv _ ht) fun H1 s1 => iteF (hb2 O0 H0 G σ H1 env Dn fl ⟨O, oa, r.mono s1⟩ hf q)
theorem Rf.gsub {K : PySem.W.Frag} {O0 O : List Addr} {H0 H : Hp} {G G' : List (V × D)} {σ : L2.St} {env : En} {oa : Nat → Addr} (h : Rf K O0 H0 G σ H env O oa) (hg : ∀ z ∈ G', Dr K (mi H O) z.1 z.2) : Rf K O0 H0 G' σ H env O oa :=
  ⟨h.len, h.al, h.val, h.own, h.bor, h.inj, hg, h.ext, h.sub, h.new⟩
theorem s1_for {tge iter : Expr} {tg : List Nat} {src : En → Option (List D)} {A : List Stmt} {FA : En → Option Fl} (nd : C.N.Nodup) (hi : SI C tge iter src) (hp : plainX iter = true) (ht : TgOk C tge tg) (ha : SS C A FA) :
    S1 C (.For tge iter A [] pos) (fun env => match src env with
      | none => none
      | some ds => forL (forB tg FA) ds env) := by
  obtain ⟨wi, hi1, hi2⟩ := hi
  obtain ⟨ta, ha1, ha2⟩ := ha
  refine ⟨tFor wi (tgG C.K tg) ta, fun X hX => ps_for (by rw [hX.xe]; exact PassesOwn.never) hX.calm (hi1 X hX) (ht.pg nd hX) (ha1 X hX) (nofold hp), fun O0 H0 G σ H env Dn fl r hf q => ?_⟩
  obtain ⟨O, oa, r⟩ := r
  dsimp only at hf
  split at hf
  · cases hf
  · rename_i ds hds
    refine hi2 O σ H env _ ds r.re hds fun J H1 GJ s1 hJ hG => ?_
    have r1 := r.mono s1
    refine ⟨fun i m σ' H' => m = ds.length - i ∧ i ≤ ds.length ∧ ∃ env', RF C.K O0 H0 (GJ ++ G) σ' H' env' ∧ forL (forB tg FA) (ds.drop i) env' = some fl, ⟨ds.length, rfl, Nat.zero_le _, env, ⟨O, oa, r1.gsub fun z hz => ?_⟩, hf⟩, fun i m σ' H' hW => ?_⟩
    · rcases List.mem_append.mp hz with hz | hz
      · exact hG z hz
      · exact r1.gh z hz
    · obtain ⟨em, hil, env', ⟨O', oa', r'⟩, hfl⟩ := hW
      obtain ⟨j1, j2⟩ := hJ O' H' r'.al (fun z hz => r'.gh z (List.mem_append_left _ hz)) i
      by_cases hin : i < ds.length
      · refine .inr ?_
        obtain ⟨hgo, hy⟩ := j1 _ (List.getElem?_eq_getElem hin)
        rw [List.drop_eq_getElem_cons hin] at hfl
        unfold forL forB at hfl
        refine ⟨hgo, fun σ2 H2 => ∃ m', m' < m ∧ (m' = ds.length - (i + 1) ∧ i + 1 ≤ ds.length ∧ ∃ env2, RF C.K O0 H0 (GJ ++ G) σ2 H2 env2 ∧ forL (forB tg FA) (ds.drop (i + 1)) env2 = some fl), fun _ _ h => h, fun x H2 hx => ?_⟩
        obtain ⟨s2, hxd⟩ := hy x H2 hx
        cases hb : bindT tg ds[i] env' with
        | none => rw [hb] at hfl; cases hfl
        | some env2 =>
          rw [hb] at hfl
          dsimp only at hfl
          refine tgG_run (Pr := fun σ' e' => Rf C.K O0 H0 (GJ ++ G) σ' H2 e' O' oa') (fun σ' e' i' v' d' _ hp hv' => hp.set hv') (r'.mono s2) hxd hb fun σ2 hp => ?_
          split at hfl
          · rename_i env3 h3
            exact ha2 O0 H0 (GJ ++ G) σ2 H2 env2 _ _ ⟨O', oa', hp⟩ h3 fun σ3 H3 r3 => ⟨_, by omega, rfl, hin, env3, r3, hfl⟩
          · rename_i hn
            cases fl with
            | nx env3 => exact absurd hfl (hn env3)
            | rt d => exact ha2 O0 H0 (GJ ++ G) σ2 H2 env2 _ _ ⟨O', oa', hp⟩ hfl q
      · refine .inl ⟨j2 (by omega), ?_⟩
        have ei : i = ds.length := by omega
        rw [ei, List.drop_length] at hfl
        cases hfl
        exact q σ' H' ⟨O', oa', r'.gsub fun z hz => r'.gh z (List.mem_append_right _ hz)⟩
theorem s1_while {A : List Stmt} {FA : En → Option Fl} {n : Nat} (hc : ST C c f) (ha : SS C A FA) : S1 C (.While c A [] pos) (fun env => whileL (tst f) FA n env) := by
  obtain ⟨tc, hc1, hc2⟩ := hc
  obtain ⟨ta, ha1, ha2⟩ := ha
  refine ⟨tWhile tc ta, fun X hX => ps_while (by rw [hX.xe]; exact PassesOwn.never) (hc1 X hX) (ha1 X hX), fun O0 H0 G σ H env Dn fl r hf q => ?_⟩
  refine ⟨fun m σ' H' => ∃ env', RF C.K O0 H0 G σ' H' env' ∧ whileL (tst f) FA m env' = some fl, ⟨n, env, r, hf⟩, fun m σ' H' hW => ?_⟩
  obtain ⟨env', ⟨O, oa, r'⟩, hw⟩ := hW
  have tsv : ∀ bb, testD (f env') = some bb → f env' = some (.bool bb) := fun bb h => by
    unfold testD at h
    split at h
    · rename_i b' hb'; cases h; exact hb'
    · cases h
  cases m with
  | zero => cases hw
  | succ m =>
    unfold whileL tst at hw
    split at hw
    · rename_i ht
      refine hc2 O σ' H' env' _ _ r'.re (tsv _ ht) fun H1 s1 => iteT ⟨fun σ2 H2 => ∃ m', m' < m + 1 ∧ ∃ env2, RF C.K O0 H0 G σ2 H2 env2 ∧ whileL (tst f) FA m' env2 = some fl, fun _ _ h => h, ?_⟩
      split at hw
      · rename_i env2 h2
        exact ha2 O0 H0 G σ' H1 env' _ _ ⟨O, oa, r'.mono s1⟩ h2 fun σ2 H2 r2 => ⟨m, Nat.lt_succ_self m, env2, r2, hw⟩
      · rename_i hn
        cases fl with
        | nx env3 => exact absurd hw (hn env3)
        | rt d => exact ha2 O0 H0 G σ' H1 env' _ _ ⟨O, oa, r'.mono s1⟩ hw q
    · rename_i ht
      cases hw
      exact hc2 O σ' H' env' _ _ r'.re (tsv _ ht) fun H1 s1 => iteF (q _ _ ⟨O, oa, r'.mono s1⟩)
    · cases hw
theorem s1_ret (he : SE C e f) : S1 C (.Return (some e) pos) (fun env => (f env).map .rt) := by
  obtain ⟨t, h1, h2⟩ := he
  refine ⟨tRet t, fun X hX => ps_ret (h1 X hX), fun O0 H0 G σ H env Dn fl r hf q => ?_⟩
  obtain ⟨O, oa, r⟩ := r
  obtain ⟨d, hd, efl⟩ := Option.map_eq_some_iff.mp hf
  subst efl
  exact h2 O σ H env _ d r.re hd fun v H' s hv => q v H' (r.ext.trans s) (Dr.mono (mi_sub r.sub) _ hv)
theorem s1_retv {x : Str} {p : Pos} {i : Nat} (hN : C.N[i]? = some x) (hv : Vis C.sc x) (hd : (x == ("__debug__" : Str)) = false) (hcd : (x == ("__classdict__" : Str)) = false) : S1 C (.Return (some (.Name x p)) pos) (fun env => (match env[i]? with
    | some (Sl.val d) => some d
    | some (.own ds) => some (.list ds)
    | _ => none).map .rt) := by
  refine ⟨tRet (tVar i), fun X hX => ps_ret (pe_var (by rw [hX.hN]; exact hN) (by rw [hX.hsc]; exact hv) hd hcd), fun O0 H0 G σ H env Dn fl r hf q => ?_⟩
  obtain ⟨O, oa, r⟩ := r
  obtain ⟨d, hd, efl⟩ := Option.map_eq_some_iff.mp hf
  subst efl
  split at hd
  · rename_i d' he
    cases hd
    obtain ⟨v, h1, h2⟩ := r.val _ _ he
    exact ⟨v, h1, q v H r.ext (Dr.mono (mi_sub r.sub) _ h2)⟩
  · rename_i ds he
    cases hd
    obtain ⟨o1, o2, o3, o4, vs, o5, o6⟩ := r.own _ _ he
    exact ⟨_, o1, q _ H r.ext (.lst (xs := vs) (by rw [mi_out o4]; exact o5) (DrA.mono (mi_sub r.sub) _ o6))⟩
  · cases hd
theorem s1_nev : S1 C st (fun _ => none) := ⟨tNever, fun X hX => ps_never, fun _ _ _ _ _ _ _ _ _ hf _ => nomatch hf⟩
end
end J

/-! From the text to the little language. -/
namespace J
open PySem PySem.Spec PyProof.Rows L2
/-- what a row's module holds: its defs (their numbers, the borrowed parameters), built-in names that it leaves alone, constants -/
structure Rw where
  fns : List (Str × Nat × List Bool)
  frs : List Str
  cst : List (Str × IE)
def isC : IE → Bool
  | .ci _ | .cs _ => true
  | _ => false
structure Rw.ok (R : Rw) (Φ : Nat → List D → Option D) (C : Fam) : Prop where
  nd : C.N.Nodup
  fn : ∀ p ∈ R.fns, FnAt C p.1 p.2.2 (Φ p.2.1)
  fr : ∀ x ∈ R.frs, C.mg x = none
  cs : ∀ p ∈ R.cst, ∃ v u d, C.mg p.1 = some u ∧ L2.RelV v u ∧ (∀ H, Dr C.K H v d) ∧ ∀ env, evE Φ p.2 env = some d
theorem Rw.ok.blk {R : Rw} {Φ : Nat → List D → Option D} {C : Fam} (h : R.ok Φ C) (scope : Scope) : R.ok Φ (C.blk scope) :=
  ⟨h.nd, fun p hp => ⟨(h.fn p hp).ex⟩, h.fr, h.cs⟩
def idx : List Str → Str → Nat → Option Nat
  | [], _, _ => none
  | y :: r, x, k => if y = x then some k else idx r x (k + 1)
theorem idx_ok : ∀ {N : List Str} {x : Str} {k i : Nat}, idx N x k = some i → k ≤ i ∧ N[i - k]? = some x
  | [], _, _, _, h => by cases h
  | y :: r, x, k, i, h => by
    unfold idx at h
    split at h
    · rename_i e
      cases h
      rw [Nat.sub_self, e]
      exact ⟨Nat.le_refl _, rfl⟩
    · obtain ⟨h1, h2⟩ := idx_ok h
      refine ⟨by omega, ?_⟩
      rw [show i - k = (i - (k + 1)) + 1 by omega]
      exact h2
theorem idx_get {N : List Str} {x : Str} {i : Nat} (h : idx N x 0 = some i) : N[i]? = some x := (idx_ok h).2
def visB (sc : Scope) (x : Str) : Bool := (match sc.names.lookup x with
  | some .local => true
  | some .cell => true
  | some .free => true
  | _ => false) && !(x == ("__debug__" : Str)) && !(x == ("__classdict__" : Str))
theorem visB_ok {sc : Scope} {x : Str} (h : visB sc x = true) : Vis sc x ∧ (x == ("__debug__" : Str)) = false ∧ (x == ("__classdict__" : Str)) = false := by
  unfold visB at h
  rw [Bool.and_eq_true, Bool.and_eq_true] at h
  obtain ⟨⟨h1, h2⟩, h3⟩ := h
  refine ⟨?_, by simpa using h2, by simpa using h3⟩
  split at h1
  · exact .inl (by assumption)
  · exact .inr (.inl (by assumption))
  · exact .inr (.inr (by assumption))
  · cases h1
def glB (sc : Scope) (x : Str) : Bool := (match sc.names.lookup x with
  | some .globalImplicit => true
  | _ => false) && !(x == ("__debug__" : Str)) && !(x == ("__name__" : Str))
theorem glB_ok {sc : Scope} {x : Str} (h : glB sc x = true) : sc.names.lookup x = some .globalImplicit ∧ (x == ("__debug__" : Str)) = false ∧ x ≠ ("__name__" : Str) := by
  unfold glB at h
  rw [Bool.and_eq_true, Bool.and_eq_true] at h
  obtain ⟨⟨h1, h2⟩, h3⟩ := h
  refine ⟨?_, by simpa using h2, fun e => ?_⟩
  · split at h1
    · assumption
    · cases h1
  · rw [e] at h3; simp at h3
def biOf (x : Str) : Option Bi :=
  if x = "len" then some .len else if x = "min" then some .min else if x = "max" then some .max else if x = "sum" then some .sum else if x = "all" then some .all else if x = "any" then some .any else if x = "abs" then some .abs
  else if x = "int" then some .int else if x = "str" then some .str else if x = "tuple" then some .tuple else if x = "list" then some .list else if x = "sorted" then some .sorted else none
inductive BiFact (b : Bi) (x : Str) : Prop
  | fn (id : String) (h : bootBuiltins x = some (.builtin id)) (hc : ∀ X : Cx, X.calm = true → CallR X (.builtin id) (rGA X.K (evBi b)))
  | ty (T : String) (h : bootBuiltins x = some (.type T)) (hc : ∀ X : Cx, X.calm = true → CallR X (.type T) (rGA X.K (evBi b)))
theorem biOf_ok {x : Str} {b : Bi} (h : biOf x = some b) : BiFact b x := by
  unfold biOf at h
  split at h
  · cases h; subst_vars; exact .fn "len" (by decide +kernel) fun X hc => cr_len
  split at h
  · cases h; subst_vars; exact .fn "min" (by decide +kernel) fun X hc => cr_min' hc
  split at h
  · cases h; subst_vars; exact .fn "max" (by decide +kernel) fun X hc => cr_max' hc
  split at h
  · cases h; subst_vars; exact .fn "sum" (by decide +kernel) fun X hc => cr_sum' hc
  split at h
  · cases h; subst_vars; exact .fn "all" (by decide +kernel) fun X hc => cr_all' hc
  split at h
  · cases h; subst_vars; exact .fn "any" (by decide +kernel) fun X hc => cr_any' hc
  split at h
  · cases h; subst_vars; exact .fn "abs" (by decide +kernel) fun X hc => cr_abs'
  split at h
  · cases h; subst_vars; exact .ty "int" (by decide +kernel) fun X hc => cr_int'
  split at h
  · cases h; subst_vars; exact .ty "str" (by decide +kernel) fun X hc => cr_str'
  split at h
  · cases h; subst_vars; exact .ty "tuple" (by decide +kernel) fun X hc => cr_tuple'
  split at h
  · cases h; subst_vars; exact .ty "list" (by decide +kernel) fun X hc => cr_list'
  split at h
  · cases h; subst_vars; exact .fn "sorted" (by decide +kernel) fun X hc => cr_sorted'
  cases h
def tyOf (x : Str) : Option Ty :=
  if x = "int" then some .int else if x = "bool" then some .bool else if x = "str" then some .str else if x = "tuple" then some .tuple else if x = "list" then some .list else none
theorem tyOf_ok {x : Str} {t : Ty} (h : tyOf x = some t) : bootBuiltins x = some (.type (tyN t)) := by
  unfold tyOf at h
  split at h
  · cases h; subst_vars; decide +kernel
  split at h
  · cases h; subst_vars; decide +kernel
  split at h
  · cases h; subst_vars; decide +kernel
  split at h
  · cases h; subst_vars; decide +kernel
  split at h
  · cases h; subst_vars; decide +kernel
  cases h
abbrev Rec := Scope → Bool → Expr → Option IE
/-- arguments, by the flags (none more: strict) -/
def trA (rc : Rec) (sc : Scope) : List Bool → List Expr → Option IE
  | _, [] => some .nil
  | [], _ :: _ => none
  | b :: bs, e :: es => match rc sc b e with
    | none => none
    | some a => match trA rc sc bs es with
      | none => none
      | some as => some (.cons a as)
def trB (rc : Rec) (sc : Scope) (op : BoolOp) : List Expr → Option IE
  | [] => none
  | [e] => rc sc false e
  | e :: es => match rc sc true e with
    | none => none
    | some a => match trB rc sc op es with
      | none => none
      | some b => some (match op with | .And => .an a b | .Or => .or a b)
/-- range(..) -/
def trR (R : Rw) (rc : Rec) (sc : Scope) : Expr → Option (IE × IE)
  | .Call (.Name x _) [a] [] _ => if x = "range" ∧ glB sc x = true ∧ x ∈ R.frs then (rc sc true a).map fun a' => (.ci 0, a') else none
  | .Call (.Name x _) [a, b] [] _ => if x = "range" ∧ glB sc x = true ∧ x ∈ R.frs then match rc sc true a, rc sc true b with
    | some a', some b' => some (a', b')
    | _, _ => none else none
  | _ => none
/-- what is walked -/
def trI (R : Rw) (rc : Rec) (sc : Scope) (e : Expr) : Option IE := match trR R rc sc e with
  | some (a, b) => some (.rg a b)
  | none => match rc sc false e with
    | some (.rg _ _) => none
    | some (.enum _) => none
    | some (.zip _ _) => none
    | q => q
def nameOf : Expr → Option Str
  | .Name x _ => some x
  | _ => none
/-- a name that is assigned to -/
def trN (N : List Str) (sc : Scope) (top : Bool) : Expr → Option Nat
  | .Name x _ => match sc.names.lookup x with
    | some .local => idx N x 0
    | some .cell => if top then idx N x 0 else none
    | _ => none
  | _ => none
def trNs (N : List Str) (sc : Scope) (top : Bool) : List Expr → Option (List Nat)
  | [] => some []
  | e :: es => match trN N sc top e, trNs N sc top es with
    | some i, some is => some (i :: is)
    | _, _ => none
def trT (N : List Str) (sc : Scope) (top : Bool) : Expr → Option (List Nat)
  | .Tuple es _ _ => match trNs N sc top es with
    | some (i :: j :: is) => some (i :: j :: is)
    | _ => none
  | e => (trN N sc top e).map fun i => [i]
def trO (rc : Rec) (sc : Scope) : Option Expr → Option IE
  | none => some .nil
  | some e => match rc sc true e with
    | some .nil => none
    | q => q
def trC (rc : Rec) (sc : Scope) : List Expr → Option IE
  | [] => some .nil
  | [e] => match rc sc true e with
    | some .nil => none
    | q => q
  | _ => none
/-- the slots of a comprehension's own names -/
def ownSlots (N : List Str) (scope : Scope) : List Nat := (List.range N.length).filter fun i => match N[i]? with
  | some x => match scope.names.lookup x with
    | some .local => true
    | some .cell => true
    | _ => false
  | none => false
def trComp (R : Rw) (N : List Str) (rc : Rec) (sc : Scope) (elt tg iter : Expr) (ifs : List Expr) (scope : Scope) : Option IE :=
  match trI R rc sc iter, trT N (relS scope sc) false tg, trC rc (relS scope sc) ifs, rc (relS scope sc) false elt with
  | some src, some tgs, some cond, some e => if blkC N sc scope (ownOf N (ownSlots N scope)) = true ∧ (∀ i ∈ tgs, i ∈ ownSlots N scope) then some (.comp e tgs src cond (ownSlots N scope)) else none
  | _, _, _, _ => none
def trCall (R : Rw) (rc : Rec) (sc : Scope) (x : Str) (args : List Expr) : Option IE :=
  if glB sc x = true then match R.fns.lookup x with
    | some (k, bs) => if args ≠ [] ∧ bs.length = args.length then (trA rc sc bs args).map (.call k) else none
    | none => if x ∈ R.frs then match x == ("isinstance" : Str), args with
      | true, [a, .Name t _] => if t ∈ R.frs ∧ glB sc t = true then match tyOf t, rc sc true a with
        | some ty, some a' => some (.isi ty a')
        | _, _ => none else none
      | true, _ => none
      | false, args => match (if x = "list" ∨ x = "tuple" then match args with | [e] => trR R rc sc e | _ => none else none) with
        | some (a, b) => some (if x = "list" then .rgL a b else .rgT a b)
        | none => match biOf x with
          | some b => if args ≠ [] then (trA rc sc (args.map fun _ => true) args).map (.bi b) else none
          | none => none
      else none
  else none
def isJoin (m : Str) : Option Bool := if m = "join" then some true else if m = "split" then some false else none
def stepE (R : Rw) (N : List Str) (rc : Rec) (sc : Scope) (w : Bool) : Expr → Option IE
  | .Name x _ => if visB sc x then (idx N x 0).map (if w then .bv else .var) else if glB sc x then match R.cst.lookup x with
      | some c => some c
      | none => none
    else none
  | .Constant .none _ _ => some .cn
  | .Constant (.bool b) _ _ => some (.cb b)
  | .Constant (.int i) _ _ => some (.ci i)
  | .Constant (.str s) _ _ => some (.cs s)
  | .BinOp a op b _ => match rc sc true a, rc sc true b with
    | some a', some b' => some (.bin op a' b')
    | _, _ => none
  | .UnaryOp .USub a _ => (rc sc true a).map .neg
  | .UnaryOp .Not a _ => (rc sc true a).map .nt
  | .BoolOp op vs _ => trB rc sc op vs
  | .Compare a [op] [b] _ => match rc sc true a, rc sc true b with
    | some a', some b' => some (.cmp op a' b')
    | _, _ => none
  | .Compare a [op, op'] [b, c] _ => match rc sc true a, rc sc true b, rc sc true c with
    | some a', some b', some c' => some (.cmp2 op op' a' b' c')
    | _, _, _ => none
  | .Tuple es _ _ => (trA rc sc (es.map fun _ => false) es).map .tup
  | .List es _ => (trA rc sc (es.map fun _ => false) es).map .lst
  | .Subscript a (.Slice lo hi none _) _ => match rc sc true a, trO rc sc lo, trO rc sc hi with
    | some a', some l, some h => some (.sl a' l h)
    | _, _, _ => none
  | .Subscript _ (.Slice _ _ (some _) _) _ => none
  | .Subscript a b _ => match rc sc true a, rc sc true b with
    | some a', some b' => some (.ix a' b')
    | _, _ => none
  | .Call (.Name x _) args [] _ => trCall R rc sc x args
  | .Call (.Attribute o m apos) [a] [] pos => match isJoin m, rc sc true o, rc sc true a with
    | some j, some o', some a' => if notCall o = true ∧ (apos.endLine == pos.line) = true then some (if j then .join o' a' else .split o' a') else none
    | _, _, _ => none
  | .ListComp elt [⟨tg, iter, ifs, 0⟩] scope _ => trComp R N rc sc elt tg iter ifs scope
  | _ => none
def trE (R : Rw) (N : List Str) : Nat → Rec
  | 0 => fun _ _ _ => none
  | n + 1 => stepE R N (trE R N n)
end J

/-! The translation is sound: expressions. -/
namespace J
open PySem PySem.Spec PyProof.Rows L2
structure Good (C : Fam) (Φ : Nat → List D → Option D) (w : Bool) (e : Expr) (ie : IE) : Prop where
  sb : SB C e (evE Φ ie)
  se : w = false → SE C e (evE Φ ie)
  st : ST C e (evE Φ ie)
  pl : plainX e = true
theorem Good.of {C : Fam} {Φ : Nat → List D → Option D} {w : Bool} {e : Expr} {ie : IE} (h : SE C e (evE Φ ie)) (ht : ST C e (evE Φ ie)) (hp : plainX e = true) : Good C Φ w e ie := ⟨h.sb, fun _ => h, ht, hp⟩
def Snd (R : Rw) (N : List Str) (Φ : Nat → List D → Option D) (rc : Rec) : Prop := ∀ C : Fam, C.N = N → R.ok Φ C → ∀ (w : Bool) (e : Expr) (ie : IE), rc C.sc w e = some ie → Good C Φ w e ie
section
variable {R : Rw} {N : List Str} {Φ : Nat → List D → Option D} {rc : Rec} {C : Fam}
theorem trA_ok (S : Snd R N Φ rc) (hN : C.N = N) (hR : R.ok Φ C) : ∀ (bs : List Bool) (es : List Expr) (as : IE), trA rc C.sc bs es = some as → SA C bs es (evA Φ as) ∧ es.all plainX = true
  | bs, [], as, h => by
    have : as = .nil := by cases bs <;> (simp only [trA] at h; cases h; rfl)
    subst this
    exact ⟨sa_nil.cg fun env => by (simp only [evA] <;> rfl), rfl⟩
  | [], e :: es, as, h => by simp [trA] at h
  | b :: bs, e :: es, as, h => by
    simp only [trA] at h
    split at h
    · cases h
    · rename_i a ha
      split at h
      · cases h
      · rename_i as' has
        cases h
        obtain ⟨h1, h2⟩ := trA_ok S hN hR bs es as' has
        have G := S C hN hR b e a ha
        refine ⟨?_, by rw [List.all_cons, G.pl, h2]; rfl⟩
        cases b with
        | true => exact (sa_consb G.sb h1 G.pl).cg fun env => by (simp only [evA] <;> rfl)
        | false => exact (sa_cons (G.se rfl) h1 G.pl).cg fun env => by (simp only [evA] <;> rfl)
theorem trB_ok (S : Snd R N Φ rc) (hN : C.N = N) (hR : R.ok Φ C) {op : BoolOp} {pos : Pos} : ∀ (es : List Expr) (ie : IE), trB rc C.sc op es = some ie → SE C (.BoolOp op es pos) (evE Φ ie) ∧ SW C (.BoolOp op es pos) (evE Φ ie)
  | [], ie, h => by simp [trB] at h
  | [e], ie, h => by
    have G := S C hN hR false e ie h
    refine ⟨se_one (G.se rfl), ?_⟩
    cases op with
    | And => exact sw_and1 G.st
    | Or => exact sw_or1 G.st
  | e :: e2 :: es, ie, h => by
    simp only [trB] at h
    split at h
    · cases h
    · rename_i a ha
      split at h
      · cases h
      · rename_i b hb
        cases h
        obtain ⟨h1, h2⟩ := trB_ok S hN hR (e2 :: es) b hb
        have G := S C hN hR true e a ha
        cases op with
        | And => exact ⟨(se_and G.sb h1).cg fun env => by (simp only [evE] <;> rfl), (sw_and G.st h2).cg fun env => by (simp only [evE] <;> rfl)⟩
        | Or => exact ⟨(se_or G.sb h1).cg fun env => by (simp only [evE] <;> rfl), (sw_or G.st h2).cg fun env => by (simp only [evE] <;> rfl)⟩
theorem trR_ok (S : Snd R N Φ rc) (hN : C.N = N) (hR : R.ok Φ C) {e : Expr} {a b : IE} (h : trR R rc C.sc e = some (a, b)) : SR C e (evE Φ a) (evE Φ b) ∧ plainX e = true ∧ ∀ tg, SI C tg e (evI Φ (.rg a b)) := by
  unfold trR at h
  split at h
  · split at h
    · rename_i hx
      obtain ⟨rfl, hg, hf⟩ := hx
      obtain ⟨a', ha, ea⟩ := Option.map_eq_some_iff.mp h
      cases ea
      have G := S C hN hR true _ _ ha
      have g := glB_ok hg
      have m := hR.fr _ hf
      refine ⟨?_, rfl, fun tg => (si_rg1 g.1 m G.sb G.pl).cg fun env => by (simp only [evI, evE] <;> rfl)⟩
      have := sr_1 (p := ‹Pos›) (pos := ‹Pos›) g.1 m G.sb G.pl
      have e1 : evE Φ (.ci 0) = fun _ => some (.int 0) := by funext env; simp only [evE]
      rw [e1]
      exact sr_1 g.1 m G.sb G.pl
    · cases h
  · split at h
    · rename_i hx
      obtain ⟨rfl, hg, hf⟩ := hx
      split at h
      · rename_i a' b' ha hb
        cases h
        have G := S C hN hR true _ _ ha
        have G' := S C hN hR true _ _ hb
        have g := glB_ok hg
        have m := hR.fr _ hf
        exact ⟨sr_2 g.1 m G.sb G'.sb G.pl G'.pl, rfl, fun tg => (si_rg2 g.1 m G.sb G'.sb G.pl G'.pl).cg fun env => by (simp only [evI] <;> rfl)⟩
      · cases h
    · cases h
  · cases h
theorem evI_any {ie : IE} (h1 : ∀ a b, ie ≠ .rg a b) (h2 : ∀ a, ie ≠ .enum a) (h3 : ∀ a b, ie ≠ .zip a b) (env : En) : evI Φ ie env = (match evE Φ ie env with
    | none => none
    | some x => itemsD x) := by
  cases ie <;> first
    | (simp only [evI] <;> rfl)
    | exact absurd rfl (h1 _ _)
    | exact absurd rfl (h2 _)
    | exact absurd rfl (h3 _ _)
theorem trI_ok (S : Snd R N Φ rc) (hN : C.N = N) (hR : R.ok Φ C) {e : Expr} {ie : IE} (h : trI R rc C.sc e = some ie) (tg : Expr) : SI C tg e (evI Φ ie) ∧ plainX e = true := by
  unfold trI at h
  split at h
  · rename_i a b hr
    cases h
    obtain ⟨_, h2, h3⟩ := trR_ok S hN hR hr
    exact ⟨h3 tg, h2⟩
  · split at h
    · cases h
    · cases h
    · cases h
    · rename_i n1 n2 n3
      have G := S C hN hR false _ _ h
      refine ⟨(si_any (G.se rfl)).cg fun env => evI_any (fun a b z => ?_) (fun a z => ?_) (fun a b z => ?_) env, G.pl⟩
      · rw [z] at h; exact n1 a b h
      · rw [z] at h; exact n2 a h
      · rw [z] at h; exact n3 a b h
theorem trN_ok {C : Fam} {e : Expr} {i : Nat} (h : trN C.N C.sc C.top e = some i) : TgN C e i := by
  unfold trN at h
  split at h
  · split at h
    · rename_i hl
      exact .mk (idx_get h) (.inl hl)
    · rename_i hl
      split at h
      · rename_i ht
        exact .mk (idx_get h) (.inr ⟨hl, ht⟩)
      · cases h
    · cases h
  · cases h
theorem trNs_ok {C : Fam} : ∀ {es : List Expr} {is : List Nat}, trNs C.N C.sc C.top es = some is → TgNs C es is
  | [], is, h => by cases h; exact .nil
  | e :: es, is, h => by
    simp only [trNs] at h
    split at h
    · rename_i i is' hi his
      cases h
      exact .cons (trN_ok hi) (trNs_ok his)
    · cases h
theorem trT_ok {C : Fam} {e : Expr} {tg : List Nat} (h : trT C.N C.sc C.top e = some tg) : TgOk C e tg := by
  unfold trT at h
  split at h
  · split at h
    · rename_i i j is hs
      cases h
      exact .tup (trNs_ok hs)
    · cases h
  · obtain ⟨i, hi, e1⟩ := Option.map_eq_some_iff.mp h
    subst e1
    exact .name (trN_ok hi)
theorem evO_any {ie : IE} (h : ie ≠ .nil) (env : En) : evO Φ ie env = (match evE Φ ie env with
    | some (.int i) => some (some i)
    | _ => none) := by
  cases ie <;> first
    | exact absurd rfl h
    | (simp only [evO] <;> rfl)
theorem evC_any {ie : IE} (h : ie ≠ .nil) (env : En) : evC Φ ie env = testD (evE Φ ie env) := by
  cases ie <;> first
    | exact absurd rfl h
    | (simp only [evC] <;> rfl)
theorem trO_ok (S : Snd R N Φ rc) (hN : C.N = N) (hR : R.ok Φ C) {o : Option Expr} {ie : IE} (h : trO rc C.sc o = some ie) : SO C o (evO Φ ie) := by
  unfold trO at h
  split at h
  · cases h
    exact so_none.cg fun env => by (simp only [evO] <;> rfl)
  · split at h
    · cases h
    · rename_i n1
      have G := S C hN hR true _ _ h
      exact (so_some G.sb).cg fun env => evO_any (fun z => by rw [z] at h; exact n1 h) env
theorem trC_ok (S : Snd R N Φ rc) (hN : C.N = N) (hR : R.ok Φ C) {ifs : List Expr} {ie : IE} (h : trC rc C.sc ifs = some ie) : SC C ifs (evC Φ ie) := by
  unfold trC at h
  split at h
  · cases h
    exact sc_nil.cg fun env => by (simp only [evC] <;> rfl)
  · split at h
    · cases h
    · rename_i n1
      have G := S C hN hR true _ _ h
      exact (sc_one G.st).cg fun env => evC_any (fun z => by rw [z] at h; exact n1 h) env
  · cases h
theorem trComp_parts (S : Snd R N Φ rc) (hN : C.N = N) (hR : R.ok Φ C) {elt tg iter : Expr} {ifs : List Expr} {scope : Scope} {ie : IE} (h : trComp R N rc C.sc elt tg iter ifs scope = some ie) :
    ∃ e tgl src cond vs, ie = .comp e tgl src cond vs ∧ (∀ t, SI C t iter (evI Φ src)) ∧ plainX iter = true ∧ BlkOk C.N C.sc scope (ownOf C.N vs) ∧ TgOk (C.blk scope) tg tgl ∧ (∀ i ∈ tgl, i ∈ vs) ∧ SC (C.blk scope) ifs (evC Φ cond) ∧ SE (C.blk scope) elt (evE Φ e) := by
  unfold trComp at h
  split at h
  · rename_i src tgl cond e h1 h2 h3 h4
    split at h
    · rename_i hb
      cases h
      subst hN
      have i1 := fun t => trI_ok S rfl hR h1 t
      exact ⟨e, tgl, src, cond, _, rfl, fun t => (i1 t).1, (i1 tg).2, blkOk_by hb.1, trT_ok (C := C.blk scope) h2, hb.2, trC_ok (C := C.blk scope) S rfl (hR.blk scope) h3, (S (C.blk scope) rfl (hR.blk scope) false _ _ h4).se rfl⟩
    · cases h
  · cases h
theorem comp_eq {e : IE} {tgl : List Nat} {src cond : IE} {vs : List Nat} (env : En) : evE Φ (.comp e tgl src cond vs) env = (match evI Φ src env with
      | none => none
      | some ds => if ds.length ≤ 40000 then (compL (turnC tgl vs (evC Φ cond) (evE Φ e) env) ds).map PyData.list else none) := by
  (simp only [evE] <;> rfl)
theorem trComp_ok (S : Snd R N Φ rc) (hN : C.N = N) (hR : R.ok Φ C) {elt tg iter : Expr} {ifs : List Expr} {scope : Scope} {ie : IE} {pos : Pos} (h : trComp R N rc C.sc elt tg iter ifs scope = some ie) :
    SF C (.ListComp elt [⟨tg, iter, ifs, 0⟩] scope pos) (evE Φ ie) := by
  obtain ⟨e, tgl, src, cond, vs, rfl, h1, h2, h3, h4, h5, h6, h7⟩ := trComp_parts S hN hR h
  exact (sf_comp hR.nd (h1 tg) h2 h3 h4 h5 h6 h7).cg fun env => comp_eq env
theorem lookup_mem {α β : Type} [BEq α] [LawfulBEq α] {l : List (α × β)} {x : α} {y : β} (h : l.lookup x = some y) : (x, y) ∈ l := by
  induction l with
  | nil => cases h
  | cons p r ih =>
    obtain ⟨a, b⟩ := p
    rw [List.lookup_cons] at h
    split at h
    · rename_i he
      cases h
      rw [eq_of_beq he]
      exact List.mem_cons_self
    · exact List.mem_cons_of_mem _ (ih h)
theorem trCall_ok (S : Snd R N Φ rc) (hN : C.N = N) (hR : R.ok Φ C) {x : Str} {p pos : Pos} {args : List Expr} {ie : IE} (h : trCall R rc C.sc x args = some ie) : SE C (.Call (.Name x p) args [] pos) (evE Φ ie) := by
  unfold trCall at h
  split at h
  · rename_i hg
    have g := glB_ok hg
    split at h
    · rename_i k bs hl
      split at h
      · rename_i hb
        obtain ⟨as, ha, ea⟩ := Option.map_eq_some_iff.mp h
        subst ea
        obtain ⟨h1, h2⟩ := trA_ok S hN hR _ _ _ ha
        cases args with
        | nil => exact absurd rfl hb.1
        | cons e es => exact (se_call (hR.fn _ (lookup_mem hl)) g.1 h1 h2 g.2.1).cg fun env => by (simp only [evE] <;> rfl)
      · cases h
    · split at h
      · rename_i hf
        split at h
        · rename_i a t tp hx
          have ex : x = ("isinstance" : Str) := eq_of_beq hx
          subst ex
          split at h
          · rename_i ht
            split at h
            · rename_i ty a' hty ha
              cases h
              have G := S C hN hR true _ _ ha
              have g2 := glB_ok ht.2
              exact (se_isi G.sb G.pl g.1 (hR.fr _ hf) g2.1 (hR.fr _ ht.1) (tyOf_ok hty) g2.2.2 g2.2.1).cg fun env => by (simp only [evE] <;> rfl)
            · cases h
          · cases h
        · cases h
        · split at h
          · rename_i a b hr
            cases h
            split at hr
            · rename_i hlt
              split at hr
              · obtain ⟨r1, r2, _⟩ := trR_ok S hN hR hr
                by_cases hx : x = ("list" : Str)
                · rw [if_pos hx]
                  subst hx
                  exact ((sf_rgL r1 r2 g.1 (hR.fr _ hf)).se).cg fun env => by (simp only [evE] <;> rfl)
                · rw [if_neg hx]
                  have hx2 : x = ("tuple" : Str) := hlt.resolve_left hx
                  subst hx2
                  exact (se_rgT r1 r2 g.1 (hR.fr _ hf)).cg fun env => by (simp only [evE] <;> rfl)
              · cases hr
            · cases hr
          · split at h
            · rename_i b hb
              split at h
              · rename_i hne
                obtain ⟨as, ha, ea⟩ := Option.map_eq_some_iff.mp h
                subst ea
                obtain ⟨h1, h2⟩ := trA_ok S hN hR _ _ _ ha
                obtain ⟨e, es, rfl⟩ := List.exists_cons_of_ne_nil hne
                cases biOf_ok hb with
                | fn id hv hc => exact (se_bi (fun X hX => hc X hX.calm) g.1 (hR.fr _ hf) hv h1 h2 g.2.2 g.2.1).cg fun env => by (simp only [evE] <;> rfl)
                | ty T hv hc => exact (se_ty (fun X hX => hc X hX.calm) g.1 (hR.fr _ hf) hv h1 h2 g.2.2 g.2.1).cg fun env => by (simp only [evE] <;> rfl)
              · cases h
            · cases h
      · cases h
  · cases h
theorem all_false (es : List Expr) : (es.map fun _ => false).all (! ·) = true := by simp
theorem sub_ix {a b : Expr} {pos : Pos} (S : Snd R N Φ rc) (hN : C.N = N) (hR : R.ok Φ C) {ie : IE} {w : Bool} (h : (match rc C.sc true a, rc C.sc true b with
    | some a', some b' => some (IE.ix a' b')
    | _, _ => none) = some ie) : Good C Φ w (.Subscript a b pos) ie := by
  split at h
  · rename_i a' b' ha hb
    cases h
    have G := S C hN hR true _ _ ha
    have G' := S C hN hR true _ _ hb
    have q : SE C (.Subscript a b pos) (evE Φ (.ix a' b')) := (se_ix G.sb G'.sb G'.pl).cg fun env => by (simp only [evE] <;> rfl)
    exact .of q (st_of q fun _ _ => rfl) rfl
  · cases h
set_option maxHeartbeats 4000000 in
theorem step_ok (S : Snd R N Φ rc) : Snd R N Φ (stepE R N rc) := by
  intro C hN hR w e ie h
  cases e <;> try (cases h; done)
  case Name x pos =>
    simp only [stepE] at h
    split at h
    · rename_i hv
      obtain ⟨i, hi, ei⟩ := Option.map_eq_some_iff.mp h
      subst ei
      have v := visB_ok hv
      subst hN
      have sb : SB C (.Name x pos) (fun env => getB env i) := sb_var (idx_get hi) v.1 v.2.1 v.2.2
      have se : SE C (.Name x pos) (fun env => getV env i) := se_var (idx_get hi) v.1 v.2.1 v.2.2
      cases w with
      | true =>
        have q : SB C (.Name x pos) (evE Φ (.bv i)) := sb.cg fun env => by (simp only [evE] <;> rfl)
        exact ⟨q, (fun z => nomatch z), sb_st q (fun _ _ => rfl), rfl⟩
      | false =>
        have q : SE C (.Name x pos) (evE Φ (.var i)) := se.cg fun env => by (simp only [evE] <;> rfl)
        exact .of q (st_of q fun _ _ => rfl) rfl
    · split at h
      · rename_i hg
        split at h
        · rename_i c hc
          cases h
          obtain ⟨v, u, d, h1, h2, h3, h4⟩ := hR.cs _ (lookup_mem hc)
          have g := glB_ok hg
          have q : SE C (.Name x pos) (evE Φ ie) := (se_c (fun X hX => pe_glob (show X.env.scope.names.lookup x = _ by rw [hX.hsc]; exact g.1) (by rw [hX.hmg]; exact h1) h2 g.2.1) h3).cg h4
          exact .of q (st_of q fun _ _ => rfl) rfl
        · cases h
      · cases h
  case Constant c k pos =>
    cases c <;> try (cases h; done)
    case none =>
      cases h
      have q : SE C (.Constant .none k pos) (evE Φ .cn) := (se_c (fun X hX => pe_non) fun H => .non).cg fun env => by (simp only [evE] <;> rfl)
      exact .of q (st_of q fun _ _ => rfl) rfl
    case bool b =>
      cases h
      have q : SE C (.Constant (.bool b) k pos) (evE Φ (.cb b)) := (se_c (fun X hX => pe_bl) fun H => .bl b).cg fun env => by (simp only [evE] <;> rfl)
      exact .of q (st_of q fun _ _ => rfl) rfl
    case int b =>
      cases h
      have q : SE C (.Constant (.int b) k pos) (evE Φ (.ci b)) := (se_c (fun X hX => pe_int) fun H => .int b).cg fun env => by (simp only [evE] <;> rfl)
      exact .of q (st_of q fun _ _ => rfl) rfl
    case str b =>
      cases h
      have q : SE C (.Constant (.str b) k pos) (evE Φ (.cs b)) := (se_c (fun X hX => pe_str) fun H => .str b).cg fun env => by (simp only [evE] <;> rfl)
      exact .of q (st_of q fun _ _ => rfl) rfl
  case BinOp a op b pos =>
    simp only [stepE] at h
    split at h
    · rename_i a' b' ha hb
      cases h
      have G := S C hN hR true _ _ ha
      have G' := S C hN hR true _ _ hb
      have q : SE C (.BinOp a op b pos) (evE Φ (.bin op a' b')) := (se_bin G.sb G'.sb).cg fun env => by (simp only [evE] <;> rfl)
      exact .of q (st_of q fun _ _ => rfl) rfl
    · cases h
  case UnaryOp op a pos =>
    cases op <;> try (cases h; done)
    case USub =>
      obtain ⟨a', ha, ea⟩ := Option.map_eq_some_iff.mp (show (rc C.sc true a).map IE.neg = some ie from h)
      subst ea
      have G := S C hN hR true _ _ ha
      have q : SE C (.UnaryOp .USub a pos) (evE Φ (.neg a')) := (se_neg G.sb).cg fun env => by (simp only [evE] <;> rfl)
      exact .of q (st_of q fun _ _ => rfl) rfl
    case Not =>
      obtain ⟨a', ha, ea⟩ := Option.map_eq_some_iff.mp (show (rc C.sc true a).map IE.nt = some ie from h)
      subst ea
      have G := S C hN hR true _ _ ha
      exact .of ((se_not G.sb).cg fun env => by (simp only [evE] <;> rfl)) ((st_not G.st).cg fun env => by (simp only [evE] <;> rfl)) rfl
  case BoolOp op vs pos =>
    obtain ⟨h1, h2⟩ := trB_ok S hN hR (pos := pos) vs ie h
    exact .of h1 h2.st rfl
  case Compare a ops cs pos =>
    match ops, cs, h with
    | [op], [b], h =>
      simp only [stepE] at h
      split at h
      · rename_i a' b' ha hb
        cases h
        have G := S C hN hR true _ _ ha
        have G' := S C hN hR true _ _ hb
        exact .of ((se_cmp G.sb G'.sb G'.pl).cg fun env => by (simp only [evE] <;> rfl)) ((st_cmp G.sb G'.sb G'.pl).cg fun env => by (simp only [evE] <;> rfl)) rfl
      · cases h
    | [op, op'], [b, c], h =>
      simp only [stepE] at h
      split at h
      · rename_i a' b' c' ha hb hc
        cases h
        have G := S C hN hR true _ _ ha
        have G' := S C hN hR true _ _ hb
        have G'' := S C hN hR true _ _ hc
        exact .of ((se_cmp2 G.sb G'.sb G''.sb G''.pl).cg fun env => by (simp only [evE] <;> rfl)) ((st_cmp2 G.sb G'.sb G''.sb G''.pl).cg fun env => by (simp only [evE] <;> rfl)) rfl
      · cases h
  case Tuple es k pos =>
    obtain ⟨as, ha, ea⟩ := Option.map_eq_some_iff.mp (show (trA rc C.sc (es.map fun _ => false) es).map IE.tup = some ie from h)
    subst ea
    obtain ⟨h1, h2⟩ := trA_ok S hN hR _ _ _ ha
    have q : SE C (.Tuple es k pos) (evE Φ (.tup as)) := (se_tup h1 (all_false es)).cg fun env => by (simp only [evE] <;> rfl)
    exact .of q (st_of q fun _ _ => rfl) rfl
  case List es pos =>
    obtain ⟨as, ha, ea⟩ := Option.map_eq_some_iff.mp (show (trA rc C.sc (es.map fun _ => false) es).map IE.lst = some ie from h)
    subst ea
    obtain ⟨h1, h2⟩ := trA_ok S hN hR _ _ _ ha
    have q : SE C (.List es pos) (evE Φ (.lst as)) := ((sf_lst h1 (all_false es)).se).cg fun env => by (simp only [evE] <;> rfl)
    exact .of q (st_of q fun _ _ => rfl) rfl
  case ListComp elt gs scope pos =>
    match gs, h with
    | [⟨tg, iter, ifs, 0⟩], h =>
      have q := (trComp_ok (pos := pos) S hN hR h).se
      exact .of q (st_of q fun _ _ => rfl) rfl
  case Subscript a b pos =>
    by_cases hs : ∃ lo hi st p, b = .Slice lo hi st p
    · obtain ⟨lo, hi, st, p, rfl⟩ := hs
      cases st with
      | some _ => cases h
      | none =>
        simp only [stepE] at h
        split at h
        · rename_i a' l hh ha hl hh'
          cases h
          have G := S C hN hR true _ _ ha
          have q : SE C (.Subscript a (.Slice lo hi none p) pos) (evE Φ (.sl a' l hh)) := (se_sl G.sb (trO_ok S hN hR hl) (trO_ok S hN hR hh')).cg fun env => by (simp only [evE] <;> rfl)
          exact .of q (st_of q fun _ _ => rfl) rfl
        · cases h
    · cases b <;> first | exact absurd ⟨_, _, _, _, rfl⟩ hs | exact sub_ix S hN hR h
  case Call f args kws pos =>
    cases kws with
    | cons _ _ => cases f <;> cases args <;> first | (cases h; done) | (rename_i r; cases r <;> (cases h; done))
    | nil =>
      cases f <;> try (cases args <;> first | (cases h; done) | (rename_i r; cases r <;> (cases h; done)))
      case Name x p =>
        have q := trCall_ok (p := p) (pos := pos) S hN hR (show trCall R rc C.sc x args = some ie by
          cases args <;> first | exact h | (rename_i r; cases r <;> exact h))
        exact .of q (st_of q fun _ _ => rfl) rfl
      case Attribute o m apos =>
        match args, h with
        | [a], h =>
          simp only [stepE] at h
          split at h
          · rename_i j o' a' hj ho ha
            split at h
            · rename_i hc
              cases h
              have G := S C hN hR true _ _ ho
              have G' := S C hN hR true _ _ ha
              unfold isJoin at hj
              split at hj
              · cases hj
                subst_vars
                have q : SE C (.Call (.Attribute o "join" apos) [a] [] pos) (evE Φ (.join o' a')) := (se_join G.sb G'.sb G'.pl hc.1 hc.2).cg fun env => by (simp only [evE] <;> rfl)
                exact .of q (st_of q fun _ _ => rfl) rfl
              · split at hj
                · cases hj
                  subst_vars
                  have q : SE C (.Call (.Attribute o "split" apos) [a] [] pos) (evE Φ (.split o' a')) := ((sf_split G.sb G'.sb G'.pl hc.1 hc.2).se).cg fun env => by (simp only [evE] <;> rfl)
                  exact .of q (st_of q fun _ _ => rfl) rfl
                · cases hj
            · cases h
          · cases h
theorem trE_ok (R : Rw) (N : List Str) (Φ : Nat → List D → Option D) : ∀ n : Nat, Snd R N Φ (trE R N n)
  | 0 => fun _ _ _ _ _ _ h => by cases h
  | n + 1 => step_ok (trE_ok R N Φ n)
end
end J

/-! The translation of statements, and its soundness. -/
namespace J
open PySem PySem.Spec PyProof.Rows L2
section
variable {C : Fam} {a b c e : Expr} {es : List Expr} {f g k : En → Option D} {pos : Pos}
/-- [..] * n, a new list -/
theorem sf_mul (ha : SB C a f) (hb : SB C b g) : SF C (.BinOp a .Mult b pos) (fun env => match f env with
    | some (.list xs) => match g env with
      | some (.int k) => opMul (.list xs) (.int k)
      | _ => none
    | _ => none) := by
  obtain ⟨ta, ha1, ha2⟩ := ha
  obtain ⟨tb, hb1, hb2⟩ := hb
  refine ⟨tOp rRep ta tb, fun X hX => pe_op op_rep (ha1 X hX) (hb1 X hX), fun O σ H env Q d r hf q => ?_⟩
  dsimp only at hf
  split at hf
  · rename_i xs hx
    split at hf
    · rename_i kk hk
      simp only [opMul] at hf
      split at hf
      · rename_i hl
        cases hf
        refine ha2 O σ H env _ _ r hx fun v H1 s1 hv => hb2 O σ H1 env _ _ (r.mono s1) hk fun w H2 s2 hw => ?_
        cases hw.int
        obtain ⟨p, vs, rfl, h1, h2⟩ := (hv.mono s2).list
        refine ⟨p, kk, vs, rfl, rfl, h1, by omega, by omega, ?_, fun l hl => ?_⟩
        · rw [h2.len]
          exact szl24 (Nat.le_trans (Nat.mul_le_mul hl.2.2 (show kk.toNat ≤ 1000 by omega)) (by decide))
        · exact q l _ _ _ ((s1.trans s2).trans (same_upd hl)) ((s1.trans s2).free hl) rfl upd_same (DrA.mono (mi_new hl (r.mono (s1.trans s2)).al) _ (h2.rep _))
      · cases hf
    · cases hf
  · cases hf
end
/-- a new list, for a slot that owns it -/
def stepF (R : Rw) (rc : Rec) (sc : Scope) : Expr → Option IE
  | .List es _ => (trA rc sc (es.map fun _ => false) es).map .lst
  | .BinOp a .Mult b _ => match rc sc true a, rc sc true b with
    | some a', some b' => some (.bin .Mult a' b')
    | _, _ => none
  | .Call (.Name x _) [e] [] _ => if x = "list" ∧ glB sc x = true ∧ x ∈ R.frs then match trR R rc sc e with
    | some (a, b) => some (.rgL a b)
    | none => none else none
  | .Call (.Attribute o m apos) [a] [] pos => match isJoin m, rc sc true o, rc sc true a with
    | some false, some o', some a' => if notCall o = true ∧ (apos.endLine == pos.line) = true then some (.split o' a') else none
    | _, _, _ => none
  | _ => none
theorem stepF_ok {R : Rw} {N : List Str} {Φ : Nat → List D → Option D} {rc : Rec} {C : Fam} (S : Snd R N Φ rc) (hN : C.N = N) (hR : R.ok Φ C) {e : Expr} {ie : IE} (h : stepF R rc C.sc e = some ie) :
    ∃ F : En → Option D, SF C e F ∧ notComp e = true ∧ ∀ env ds, evE Φ ie env = some (.list ds) → F env = some (.list ds) := by
  unfold stepF at h
  split at h
  · obtain ⟨as, ha, ea⟩ := Option.map_eq_some_iff.mp h
    subst ea
    obtain ⟨h1, h2⟩ := trA_ok S hN hR _ _ _ ha
    exact ⟨_, sf_lst h1 (all_false _), rfl, fun env ds hd => by simp only [evE] at hd; exact hd⟩
  · split at h
    · rename_i a' b' ha hb
      cases h
      have G := S C hN hR true _ _ ha
      have G' := S C hN hR true _ _ hb
      refine ⟨_, sf_mul G.sb G'.sb, rfl, fun env ds hd => ?_⟩
      simp only [evE] at hd
      split at hd
      · cases hd
      · rename_i x hx
        split at hd
        · cases hd
        · rename_i y hy
          rw [hx, hy]
          have hd' : opMul x y = some (.list ds) := hd
          cases x <;> cases y <;> first
            | exact hd'
            | (simp [opMul] at hd'; done)
            | (simp only [opMul] at hd'; split at hd' <;> cases hd')
    · cases h
  · split at h
    · rename_i hx
      obtain ⟨rfl, hg, hf⟩ := hx
      split at h
      · rename_i a b hr
        cases h
        obtain ⟨r1, r2, _⟩ := trR_ok S hN hR hr
        exact ⟨_, sf_rgL r1 r2 (glB_ok hg).1 (hR.fr _ hf), rfl, fun env ds hd => by simp only [evE] at hd; exact hd⟩
      · cases h
    · cases h
  · split at h
    · rename_i o' a' hj ho ha
      split at h
      · rename_i hc
        cases h
        have G := S C hN hR true _ _ ho
        have G' := S C hN hR true _ _ ha
        unfold isJoin at hj
        split at hj
        · cases hj
        · split at hj
          · subst_vars
            exact ⟨_, sf_split G.sb G'.sb G'.pl hc.1 hc.2, rfl, fun env ds hd => by simp only [evE] at hd; exact hd⟩
          · cases hj
      · cases h
    · cases h
  · cases h
/-! ### which statements change a slot -/
def isN (x : Str) : Expr → Bool
  | .Name y _ => y == x
  | _ => false
def tgtN (x : Str) : Expr → Bool
  | .Name y _ => y == x
  | .Subscript (.Name y _) _ _ => y == x
  | _ => false
def mutS (x : Str) : Nat → Stmt → Bool
  | 0, _ => true
  | n + 1, s => match s with
    | .Assign ts _ _ => ts.any (tgtN x)
    | .Expr (.Call (.Attribute o _ _) _ _ _) _ => isN x o
    | .If _ a b _ => a.any (mutS x n) || b.any (mutS x n)
    | .For _ _ a _ _ => a.any (mutS x n)
    | .While _ a _ _ => a.any (mutS x n)
    | _ => false
def endsRet : List Stmt → Bool
  | [] => false
  | [.Return _ _] => true
  | _ :: r => endsRet r
def addShr : List Nat → IS → IS
  | [], b => b
  | i :: is, b => .seq (.shr i) (addShr is b)
def mutI (N : List Str) (i : Nat) (s : Stmt) : Bool := match N[i]? with
  | some x => mutS x 20 s
  | none => true
def trBlk (tr1 : Stmt → Option IS) (N : List Str) (ow : List Nat) (fin : Bool) : Option Stmt → List Stmt → Option IS
  | _, [] => some .skip
  | prev, s :: r => match tr1 s, trBlk tr1 N ow fin (some s) r with
    | some a, some b => some (addShr (if fin then ow.filter fun i => (match prev with | some p => mutI N i p | none => false) && !((s :: r).any (mutI N i)) else []) (.seq a b))
    | _, _ => none
def blk (tr1 : Stmt → Option IS) (N : List Str) (ow : List Nat) (sts : List Stmt) : Option IS := trBlk tr1 N ow (endsRet sts) none sts
/-- x, y = .. -/
def parN (N : List Str) (sc : Scope) : List Expr → Option (Nat × Nat)
  | [.Name x px, .Name y py] => match idx N x 0, idx N y 0 with
    | some i, some j => if i ≠ j ∧ sc.names.lookup x = some .local ∧ sc.names.lookup y = some .local ∧ (py.line == px.line) = true ∧ (x == y) = false then some (i, j) else none
    | _, _ => none
  | _ => none
def cInt : Expr → Bool
  | .Constant (.int _) _ _ => true
  | _ => false
def stepS (R : Rw) (N : List Str) (rc : Rec) (sc : Scope) (ow : List Nat) (tr1 : Stmt → Option IS) : Stmt → Option IS
  | .Assign [.Name x px] (.ListComp elt [⟨tg, iter, ifs, 0⟩] scope lpos) _ => match trN N sc true (.Name x px), trComp R N rc sc elt tg iter ifs scope with
    | some i, some e => if sc.names.lookup x = some .local ∧ (px.line == lpos.line) = true ∧ (scope.names.any fun (n, k) => n == x && (k == .local || k == .cell)) = false then some (if i ∈ ow then .setO i e else .set i e) else none
    | _, _ => none
  | .Assign [.Name x px] e _ => match trN N sc true (.Name x px) with
    | some i => if i ∈ ow then (stepF R rc sc e).map (.setO i) else if notComp e = true then (rc sc false e).map (.set i) else none
    | none => none
  | .Assign [.Tuple ts _ _] (.Tuple [a, b] _ _) _ => if cInt a && cInt b then match trNs N sc true ts, rc sc false a, rc sc false b with
      | some [i, j], some a', some b' => some (.unp [i, j] (.tup (.cons a' (.cons b' .nil))))
      | _, _, _ => none
    else if foldedForSure 8 a || foldedForSure 8 b || constantsAlone 8 a then none else match parN N sc ts, rc sc false a, rc sc false b with
      | some (i, j), some a', some b' => some (.par i j a' b')
      | _, _, _ => none
  | .Assign [.Tuple ts _ _] e _ => if notComp e = true ∧ notTuple e = true then match trNs N sc true ts, rc sc false e with
      | some (i :: j :: is), some e' => some (.unp (i :: j :: is) e')
      | _, _ => none else none
  | .Assign [.Subscript (.Name x _) b _] e _ => if visB sc x = true ∧ notComp e = true then match idx N x 0, rc sc true b, rc sc false e with
      | some i, some b', some e' => some (.sti i b' e')
      | _, _, _ => none else none
  | .Expr (.Call (.Attribute (.Name x _) m apos) [e] [] cpos) _ => if m = "append" ∧ visB sc x = true ∧ (apos.endLine == cpos.line) = true then match idx N x 0, rc sc false e with
      | some i, some e' => some (.app i e')
      | _, _ => none else none
  | .If c a b _ => match rc sc true c, blk tr1 N ow a, blk tr1 N ow b with
    | some c', some a', some b' => some (.ifs c' a' b')
    | _, _, _ => none
  | .For tg iter a [] _ => match trT N sc true tg, trI R rc sc iter, blk tr1 N ow a with
    | some t, some i, some a' => some (.for_ t i a')
    | _, _, _ => none
  | .While c a [] _ => match rc sc true c, blk tr1 N ow a with
    | some c', some a' => some (.whl c' a')
    | _, _ => none
  | .Return (some (.Name x _)) _ => if visB sc x = true then (idx N x 0).map fun i => .ret (.var i) else none
  | .Return (some e) _ => match rc sc false e with
    | some (.var _) => none
    | some e' => some (.ret e')
    | none => none
  | .Raise _ _ _ => some .nev
  | _ => none
def trS (R : Rw) (N : List Str) (rc : Rec) (sc : Scope) (ow : List Nat) : Nat → Stmt → Option IS
  | 0 => fun _ => none
  | n + 1 => stepS R N rc sc ow (trS R N rc sc ow n)
/-! ### soundness -/
def SndS (C : Fam) (Φ : Nat → List D → Option D) (tr1 : Stmt → Option IS) : Prop := ∀ st is, tr1 st = some is → S1 C st (evS Φ is)
section
variable {R : Rw} {N : List Str} {Φ : Nat → List D → Option D} {rc : Rec} {C : Fam} {tr1 : Stmt → Option IS} {ow : List Nat}
theorem addShr_ok {sts : List Stmt} : ∀ (is : List Nat) (b : IS), SS C sts (evS Φ b) → SS C sts (evS Φ (addShr is b))
  | [], b, h => h
  | i :: is, b, h => (ss_shr (i := i) (addShr_ok is b h)).cg fun env => by
    show evS Φ (.seq (.shr i) (addShr is b)) env = _
    simp only [evS] <;> rfl
theorem trBlk_ok (T : SndS C Φ tr1) {fin : Bool} : ∀ (sts : List Stmt) (prev : Option Stmt) (is : IS), trBlk tr1 N ow fin prev sts = some is → SS C sts (evS Φ is)
  | [], prev, is, h => by
    have : is = .skip := by cases prev <;> (simp only [trBlk] at h; cases h; rfl)
    subst this
    exact ss_nil.cg fun env => by (simp only [evS] <;> rfl)
  | s :: r, prev, is, h => by
    simp only [trBlk] at h
    split at h
    · rename_i a b ha hb
      cases h
      refine addShr_ok _ _ ?_
      exact (ss_cons (T s a ha) (trBlk_ok T r (some s) b hb)).cg fun env => by (simp only [evS] <;> rfl)
    · cases h
theorem blk_ok (T : SndS C Φ tr1) {sts : List Stmt} {is : IS} (h : blk tr1 N ow sts = some is) : SS C sts (evS Φ is) := trBlk_ok T sts none is h
theorem sws_int {a b : Expr} {ts : List Expr} {kk k2 : Nat} {tp p2 : Pos} {env : Env} (ha : cInt a = true) (hb : cInt b = true) : swappedStores [.Tuple ts kk tp] (.Tuple [a, b] k2 p2) env = pure none := by
  have fa : foldedForSure 8 a = true := by
    cases a <;> first | (simp [cInt] at ha; done) | skip
    rename_i c _ _
    cases c <;> first | rfl | (simp [cInt] at ha; done)
  have fb : foldedForSure 8 b = true := by
    cases b <;> first | (simp [cInt] at hb; done) | skip
    rename_i c _ _
    cases c <;> first | rfl | (simp [cInt] at hb; done)
  have fab : [a, b].all (foldedForSure 8) = true := by rw [List.all_cons, List.all_cons, fa, fb]; rfl
  unfold swappedStores
  simp only [fab, if_true]
  split <;> first | rfl | skip
  split <;> first | rfl | skip
  split <;> rfl
theorem sws_par {a b : Expr} {x y : Str} {px py : Pos} {kk k2 : Nat} {tp p2 : Pos} {env : Env} (hk : env.scope.kind = .function) (hx : env.scope.names.lookup x = some .local) (hy : env.scope.names.lookup y = some .local) (hl : (py.line == px.line) = true) (hxy : (x == y) = false)
    (ha : plainX a = true) (hb : plainX b = true) (fa : foldedForSure 8 a = false) (ca : constantsAlone 8 a = false) : swappedStores [.Tuple [.Name x px, .Name y py] kk tp] (.Tuple [a, b] k2 p2) env = pure (some [x, y]) := by
  have kx : env.kindOf x = some .local := hx
  have ky : env.kindOf y = some .local := hy
  have hbk : env.blockKind = .function := by unfold Env.blockKind; rw [hk]; rfl
  have st : ∀ z : Expr, plainX z = true → (match z with | .Starred .. => true | _ => false) = false := fun z hz => by cases z <;> first | rfl | (simp [plainX] at hz)
  unfold swappedStores
  have hne : ¬ x = y := fun e => by rw [e] at hxy; simp at hxy
  have hed : [x, y].eraseDups = [x, y] := by
    rw [List.eraseDups_cons]
    have : ([y].filter fun z => !z == x) = [y] := by
      have : (y == x) = false := beq_eq_false_iff_ne.mpr fun e => hne e.symm
      simp [this]
    rw [this]
    rfl
  have fab : [a, b].all (foldedForSure 8) = false := by rw [List.all_cons, fa]; rfl
  have cab : [a, b].all (constantsAlone 8) = false := by rw [List.all_cons, ca]; rfl
  have sab : ([a, b].any fun | .Starred .. => true | _ => false) = false := List.any_eq_false.mpr fun z hz => by
    have : plainX z = true := by
      rcases List.mem_cons.mp hz with rfl | hz
      · exact ha
      · rw [List.mem_singleton.mp hz]; exact hb
    rw [st z this]
    decide
  have hlx : (px.line == px.line) = true := beq_self_eq_true _
  simp only [hbk, fab, cab, kx, ky, hl, Expr.pos, List.filterMap_cons, List.filterMap_nil, List.head?_cons, Option.map_some, Option.getD_some, hlx, hed]
  simp [sab, hed]
  rintro (h | h)
  · exact absurd (h.symm.trans (st a ha)) (by decide)
  · exact absurd (h.symm.trans (st b hb)) (by decide)
theorem evR_any {e : IE} (h : ∀ i, e ≠ .var i) (env : En) : evR Φ e env = evE Φ e env := by
  cases e <;> first
    | exact absurd rfl (h _)
    | rfl
theorem parN_ok {ts : List Expr} {i j : Nat} (h : parN N C.sc ts = some (i, j)) : ∃ x y px py, ts = [.Name x px, .Name y py] ∧ N[i]? = some x ∧ N[j]? = some y ∧ i ≠ j ∧ C.sc.names.lookup x = some .local ∧ C.sc.names.lookup y = some .local ∧ (py.line == px.line) = true ∧ (x == y) = false := by
  unfold parN at h
  split at h
  · split at h
    · rename_i i' j' hi hj
      split at h
      · rename_i hc
        cases h
        exact ⟨_, _, _, _, rfl, idx_get hi, idx_get hj, hc.1, hc.2.1, hc.2.2.1, hc.2.2.2.1, hc.2.2.2.2⟩
      · cases h
    · cases h
  · cases h
set_option maxHeartbeats 8000000 in
theorem stepS_ok (S : Snd R N Φ rc) (hN : C.N = N) (hR : R.ok Φ C) (hk : C.sc.kind = .function) (htop : C.top = true) (T : SndS C Φ tr1) : SndS C Φ (stepS R N rc C.sc ow tr1) := by
  intro st is h
  unfold stepS at h
  split at h
  · rename_i x px elt tg iter ifs scope lpos pos
    split at h
    · rename_i i e hi hc
      split at h
      · rename_i hcond
        cases h
        obtain ⟨el, tgl, src, cond, vs, rfl, h1, h2, h3, h4, h5, h6, h7⟩ := trComp_parts S hN hR hc
        subst hN
        have hidx : C.N[i]? = some x := by
          have := hi
          unfold trN at this
          simp only [hcond.1] at this
          exact idx_get this
        have q : SGf C (.Assign [.Name x px] (.ListComp elt [⟨tg, iter, ifs, 0⟩] scope lpos) pos) i (evE Φ (.comp el tgl src cond vs)) :=
          (sgf_comp hR.nd hidx hcond.1 hk hcond.2.1 hcond.2.2 (h1 tg) h2 h3 h4 h5 h6 h7).cg fun env => comp_eq env
        split
        · exact (s1_setO q).cg fun env => by (simp only [evS] <;> rfl)
        · exact (s1_set q.v).cg fun env => by (simp only [evS] <;> rfl)
      · cases h
    · cases h
  · rename_i x px e pos hne
    split at h
    · rename_i i hi
      subst hN
      have tn : TgN C (.Name x px) i := trN_ok (by rw [htop]; exact hi)
      split at h
      · obtain ⟨e', he, ee⟩ := Option.map_eq_some_iff.mp h
        subst ee
        obtain ⟨F, q1, q2, q3⟩ := stepF_ok S rfl hR he
        obtain ⟨t, p1, p2⟩ := s1_setO (sgf (pos := pos) hR.nd tn q1 q2)
        refine ⟨t, p1, fun O0 H0 G σ H env Dn fl r hf q => p2 O0 H0 G σ H env Dn fl r ?_ q⟩
        simp only [evS] at hf
        split at hf
        · rename_i ds hd
          dsimp only
          rw [q3 env ds hd]
          exact hf
        · cases hf
      · split at h
        · rename_i hn
          obtain ⟨e', he, ee⟩ := Option.map_eq_some_iff.mp h
          subst ee
          have G := S C rfl hR false _ _ he
          exact (s1_set (sgv (pos := pos) hR.nd tn (G.se rfl) hn)).cg fun env => by (simp only [evS] <;> rfl)
        · cases h
    · cases h
  · rename_i ts kk tp a b k2 p2 pos
    split at h
    · rename_i hc
      rw [Bool.and_eq_true] at hc
      split at h
      · rename_i i j a' b' h1 h2 h3
        cases h
        subst hN
        have G := S C rfl hR false _ _ h2
        have G' := S C rfl hR false _ _ h3
        have tn : TgNs C ts [i, j] := trNs_ok (by rw [htop]; exact h1)
        have q : SE C (.Tuple [a, b] k2 p2) (evE Φ (.tup (.cons a' (.cons b' .nil)))) := (se_tup (bs := [false, false]) (sa_cons (G.se rfl) (sa_cons (G'.se rfl) (sa_nil (bs := [])) G'.pl) G.pl) rfl).cg fun env => by (simp only [evE, evA] <;> rfl)
        exact (s1_unp (pos := pos) hR.nd tn q rfl fun X hX => sws_int hc.1 hc.2).cg fun env => by (simp only [evS] <;> rfl)
      · cases h
    · split at h
      · cases h
      · rename_i hfold
        split at h
        · rename_i i j a' b' h1 h2 h3
          cases h
          subst hN
          have G := S C rfl hR false _ _ h2
          have G' := S C rfl hR false _ _ h3
          obtain ⟨x, y, px, py, rfl, p1, p2, p3, p4, p5, p6, p7⟩ := parN_ok h1
          simp only [Bool.or_eq_true, not_or, Bool.not_eq_true] at hfold
          exact (s1_par (pos := pos) hR.nd p1 p2 p3 p4 p5 (G.se rfl) (G'.se rfl) G.pl G'.pl fun X hX => sws_par (by rw [hX.hsc]; exact hk) (by rw [hX.hsc]; exact p4) (by rw [hX.hsc]; exact p5) p6 p7 G.pl G'.pl hfold.1.1 hfold.2).cg fun env => by (simp only [evS] <;> rfl)
        · cases h
  · rename_i ts kk tp e pos hne
    split at h
    · rename_i hc
      split at h
      · rename_i i j is e' h1 h2
        cases h
        subst hN
        have G := S C rfl hR false _ _ h2
        have tn : TgNs C ts (i :: j :: is) := trNs_ok (by rw [htop]; exact h1)
        exact (s1_unp (pos := pos) hR.nd tn (G.se rfl) hc.1 fun X hX => sws_no hc.2).cg fun env => by (simp only [evS] <;> rfl)
      · cases h
    · cases h
  · rename_i x xp b sp e pos
    split at h
    · rename_i hc
      split at h
      · rename_i i b' e' h1 h2 h3
        cases h
        subst hN
        have G := S C rfl hR true _ _ h2
        have G' := S C rfl hR false _ _ h3
        have v := visB_ok hc.1
        exact (s1_sti (pos := pos) (idx_get h1) v.1 v.2.1 v.2.2 (G'.se rfl) G.sb G.pl hc.2).cg fun env => by (simp only [evS] <;> rfl)
      · cases h
    · cases h
  · rename_i x xp m apos e cpos pos
    split at h
    · rename_i hc
      obtain ⟨rfl, hc2, hc3⟩ := hc
      split at h
      · rename_i i e' h1 h2
        cases h
        subst hN
        have G := S C rfl hR false _ _ h2
        have v := visB_ok hc2
        exact (s1_app (pos := pos) (idx_get h1) v.1 v.2.1 v.2.2 (G.se rfl) G.pl hc3).cg fun env => by (simp only [evS] <;> rfl)
      · cases h
    · cases h
  · rename_i c a b pos
    split at h
    · rename_i c' a' b' h1 h2 h3
      cases h
      have G := S C hN hR true _ _ h1
      exact (s1_if (pos := pos) G.st (blk_ok T h2) (blk_ok T h3)).cg fun env => by (simp only [evS] <;> rfl)
    · cases h
  · rename_i tg iter a pos
    split at h
    · rename_i t i a' h1 h2 h3
      cases h
      subst hN
      obtain ⟨q1, q2⟩ := trI_ok S rfl hR h2 tg
      exact (s1_for (pos := pos) hR.nd q1 q2 (trT_ok (by rw [htop]; exact h1)) (blk_ok T h3)).cg fun env => by (simp only [evS] <;> rfl)
    · cases h
  · rename_i c a pos
    split at h
    · rename_i c' a' h1 h2
      cases h
      have G := S C hN hR true _ _ h1
      exact (s1_while (pos := pos) (n := fuelW) G.st (blk_ok T h2)).cg fun env => by (simp only [evS] <;> rfl)
    · cases h
  · rename_i x xp pos
    split at h
    · rename_i hc
      obtain ⟨i, hi, ei⟩ := Option.map_eq_some_iff.mp h
      subst ei
      subst hN
      have v := visB_ok hc
      exact (s1_retv (pos := pos) (idx_get hi) v.1 v.2.1 v.2.2).cg fun env => by (simp only [evS, evR] <;> rfl)
    · cases h
  · rename_i e pos hne
    split at h
    · cases h
    · rename_i e' hnv he
      cases h
      have G := S C hN hR false _ _ he
      refine (s1_ret (pos := pos) (G.se rfl)).cg fun env => ?_
      simp only [evS]
      rw [evR_any (fun i z => hnv i (by rw [z])) env]
    · cases h
  · cases h
    exact s1_nev.cg fun env => by (simp only [evS] <;> rfl)
  · cases h
theorem trS_ok (S : Snd R N Φ rc) (hN : C.N = N) (hR : R.ok Φ C) (hk : C.sc.kind = .function) (htop : C.top = true) : ∀ n : Nat, SndS C Φ (trS R N rc C.sc ow n)
  | 0 => fun _ _ h => by cases h
  | n + 1 => stepS_ok S hN hR hk htop (trS_ok S hN hR hk htop n)
end
end J

/-! A def keeps its promise; all defs of a row, by fuel; the law. -/
namespace J
open PySem PySem.Spec PyProof.Rows L2
theorem start_val {K : PySem.W.Frag} {O : List Addr} {H : Hp} : ∀ {bs : List Bool} {vs : List V} {ds : List D} {i : Nat} {d : D}, ArgR K O H bs vs ds → (start0 bs ds)[i]? = some (Sl.val d) → ∃ v, vs[i]? = some v ∧ Dr K (mi H O) v d
  | [], vs, ds, i, d, _, h => by simp [start0] at h
  | b :: bs, vs, [], i, d, _, h => by simp [start0] at h
  | b :: bs, [], e :: ds, i, d, ha, h => by cases b <;> simp [ArgR] at ha
  | true :: bs, v :: vs, e :: ds, 0, d, ha, h => by simp [start0] at h
  | false :: bs, v :: vs, e :: ds, 0, d, ha, h => by
    simp [start0] at h
    subst h
    exact ⟨v, rfl, ha.1⟩
  | b :: bs, v :: vs, e :: ds, i + 1, d, ha, h => by
    have ha2 : ArgR K O H bs vs ds := by cases b <;> exact ha.2
    exact (start_val (i := i) ha2 (by simpa [start0] using h)).imp fun u hu => ⟨by simpa using hu.1, hu.2⟩
theorem start_bor {K : PySem.W.Frag} {O : List Addr} {H : Hp} : ∀ {bs : List Bool} {vs : List V} {ds : List D} {i : Nat} {d : D}, ArgR K O H bs vs ds → (start0 bs ds)[i]? = some (Sl.bor d) → ∃ v, vs[i]? = some v ∧ Tp K O H v d
  | [], vs, ds, i, d, _, h => by simp [start0] at h
  | b :: bs, vs, [], i, d, _, h => by simp [start0] at h
  | b :: bs, [], e :: ds, i, d, ha, h => by cases b <;> simp [ArgR] at ha
  | true :: bs, v :: vs, e :: ds, 0, d, ha, h => by
    simp [start0] at h
    subst h
    exact ⟨v, rfl, ha.1⟩
  | false :: bs, v :: vs, e :: ds, 0, d, ha, h => by simp [start0] at h
  | b :: bs, v :: vs, e :: ds, i + 1, d, ha, h => by
    have ha2 : ArgR K O H bs vs ds := by cases b <;> exact ha.2
    exact (start_bor (i := i) ha2 (by simpa [start0] using h)).imp fun u hu => ⟨by simpa using hu.1, hu.2⟩
theorem start_own : ∀ {bs : List Bool} {ds : List D} {i : Nat} {es : List D}, (start0 bs ds)[i]? ≠ some (Sl.own es)
  | [], ds, i, es, h => by simp [start0] at h
  | b :: bs, [], i, es, h => by simp [start0] at h
  | b :: bs, e :: ds, 0, es, h => by cases b <;> simp [start0] at h
  | b :: bs, e :: ds, i + 1, es, h => start_own (bs := bs) (ds := ds) (i := i) (by simpa [start0] using h)
theorem start0_len : ∀ (bs : List Bool) (ds : List D), ds.length = bs.length → (start0 bs ds).length = ds.length
  | [], [], _ => rfl
  | [], _ :: _, h => by simp at h
  | _ :: _, [], h => by simp at h
  | b :: bs, d :: ds, h => by simp only [start0, List.length_cons] at h ⊢; rw [start0_len bs ds (by omega)]
theorem app_no {l : En} {n i : Nat} {s : Sl} (h : (l ++ List.replicate n Sl.no)[i]? = some s) : s = .no ∨ l[i]? = some s := by
  by_cases hi : i < l.length
  · rw [List.getElem?_append_left hi] at h
    exact .inr h
  · rw [List.getElem?_append_right (by omega)] at h
    have := List.mem_of_getElem? h
    exact .inl (List.eq_of_mem_replicate this)
theorem fn_ok {P : Program} {w : World} {K : PySem.W.Frag} {mg : Str → Option Value} {base : Heap} {x : Str} {params : Arguments} {body : List Stmt} {scope : Scope} {f : Addr} {fd : FuncData} {N ps : List Str} {n : Nat}
    {R : Rw} {Φ : Nat → List D → Option D} {F : Fd} {ow : List Nat} {m : Nat} (hF : FunD K x x params body scope [] [] f fd) (S : FnScope N ps scope) (hR : R.ok Φ ⟨P, w, K, mg, base, N, scope, n, true⟩)
    (htr : blk (trS R N (trE R N m) scope ow m) N ow body = some F.body) (hsl : F.slots = N.length) (hbs : F.bs.length = ps.length) : FnOk P w K mg base CX0 (n + 1) f fd ps (spF K F.bs (evF Φ F)) := by
  have hlen : ∀ vs H (Q : VK) (E : XK), spF K F.bs (evF Φ F) vs H Q E → vs.length = ps.length := fun vs H Q E h => by
    obtain ⟨O, ds, d, _, ha, hf, _⟩ := h
    rw [ha.len]
    unfold evF at hf
    split at hf
    · rename_i hl; rw [hl, hbs]
    · cases hf
  refine hF.ok S hlen (fun cdv A outer s H vs Q E hr h => ?_)
  let C : Fam := ⟨P, w, K, mg, base, N, scope, n, true⟩
  have T := trS_ok (ow := ow) (C := C) (trE_ok R N Φ m) rfl hR S.kind rfl m
  obtain ⟨t, h1, h2⟩ := blk_ok T htr
  have hl := hlen vs H Q E h
  obtain ⟨O, ds, d, al, ha, hf, q⟩ := h
  refine ⟨t, PSs.nox (h1 _ ⟨rfl, rfl, rfl, rfl, rfl, rfl, rfl, rfl, hr, rfl, fun _ _ => rfl⟩), ?_⟩
  unfold evF at hf
  split at hf
  · rename_i hdl
    have hpl : ps.length ≤ N.length := by have := congrArg List.length S.pre; rw [List.length_take] at this; omega
    have e0 := start0_len F.bs ds hdl
    have hst : ∀ i v, vs[i]? = some v → (L2.start N vs)[i]? = some (some v) := fun i v hv => by
      have hi : i < vs.length := (List.getElem?_eq_some_iff.mp hv).1
      unfold L2.start
      rw [List.getElem?_append_left (by rw [List.length_map]; exact hi), List.getElem?_map, hv]
      rfl
    have rf : RF K O H [] (L2.start N vs) H (start0 F.bs ds ++ List.replicate (F.slots - ds.length) Sl.no) := by
      refine ⟨O, fun _ => 0, ?_, al, fun i d hd => ?_, fun i es hd => ?_, fun i d hd => ?_, fun i j es es' hd => ?_, (fun g hg => by cases hg), Same.refl H, (fun a ha => ha), (fun a ha => .inl ha)⟩
      · unfold L2.start
        rw [List.length_append, List.length_append, List.length_map, List.length_replicate, List.length_replicate, e0, hsl, ← ha.len]
      · rcases app_no hd with z | z
        · cases z
        · obtain ⟨v, hv, hdr⟩ := start_val ha z
          exact ⟨v, hst i v hv, hdr⟩
      · rcases app_no hd with z | z
        · cases z
        · exact absurd z start_own
      · rcases app_no hd with z | z
        · cases z
        · obtain ⟨v, hv, hdr⟩ := start_bor ha z
          exact ⟨v, hst i v hv, hdr⟩
      · rcases app_no hd with z | z
        · cases z
        · exact absurd z start_own
    split at hf
    · rename_i d' he
      cases hf
      exact h2 O H [] _ H _ _ _ rf he fun v H' s hv => q v H' s hv
    · rename_i env' he
      cases hf
      refine h2 O H [] _ H _ _ _ rf he fun σ' H' r' => ?_
      obtain ⟨O', oa', r'⟩ := r'
      exact q _ H' r'.ext .non
    · cases hf
  · cases hf

/-! ### all defs of a row -/
/-- one turn of the fuel: the tables of the little language, or one's own functions -/
def stepP (tab : Nat → Option Fd) (ext : Nat → (Nat → List D → Option D) → List D → Option D) (Φ : Nat → List D → Option D) (k : Nat) : List D → Option D := match tab k with
  | some F => evF Φ F
  | none => ext k Φ
def Phi (tab : Nat → Option Fd) (ext : Nat → (Nat → List D → Option D) → List D → Option D) : Nat → Nat → List D → Option D
  | 0 => fun _ _ => none
  | n + 1 => stepP tab ext (Phi tab ext n)
/-- what stands behind the head of one def -/
structure DefOk (P : Program) (w : World) (K : PySem.W.Frag) (mg : Str → Option Value) (base : Heap) (R : Rw) (tab : Nat → Option Fd) (ext : Nat → (Nat → List D → Option D) → List D → Option D) (p : Str × Nat × List Bool) : Prop where
  ex : ∃ f fd ps, mg p.1 = some (.ref f) ∧ PySem.W.keepIn K (.ref f) = true ∧ Binds K fd ps [] ∧
    ∀ n Φ, (∀ N sc, N.Nodup → R.ok Φ ⟨P, w, K, mg, base, N, sc, n, true⟩) → FnOk P w K mg base CX0 (n + 1) f fd ps (spF K p.2.2 (stepP tab ext Φ p.2.1))
theorem def_ok {P : Program} {w : World} {K : PySem.W.Frag} {mg : Str → Option Value} {base : Heap} {R : Rw} {tab : Nat → Option Fd} {ext : Nat → (Nat → List D → Option D) → List D → Option D} {x : Str} {k : Nat} {params : Arguments} {body : List Stmt} {scope : Scope} {f : Addr} {fd : FuncData} {N ps : List Str}
    {F : Fd} {ow : List Nat} {m : Nat} (hF : FunD K x x params body scope [] [] f fd) (hm : mg x = some (.ref f)) (hb : Binds K fd ps []) (S : FnScope N ps scope) (hk : tab k = some F) (htr : blk (trS R N (trE R N m) scope ow m) N ow body = some F.body) (hsl : F.slots = N.length) (hbs : F.bs.length = ps.length) :
    DefOk P w K mg base R tab ext (x, k, F.bs) := by
  refine ⟨f, fd, ps, hm, hF.kp, hb, fun n Φ hR => ?_⟩
  have : stepP tab ext Φ k = evF Φ F := by unfold stepP; rw [hk]
  show FnOk P w K mg base CX0 (n + 1) f fd ps (spF K F.bs (stepP tab ext Φ k))
  rw [this]
  exact fn_ok hF S (hR N scope S.nd) htr hsl hbs
theorem all_ok {P : Program} {w : World} {K : PySem.W.Frag} {mg : Str → Option Value} {base : Heap} {R : Rw} {tab : Nat → Option Fd} {ext : Nat → (Nat → List D → Option D) → List D → Option D} (hd : ∀ p ∈ R.fns, DefOk P w K mg base R tab ext p) (hfr : ∀ x ∈ R.frs, mg x = none)
    (hcs : ∀ p ∈ R.cst, ∃ v u d, mg p.1 = some u ∧ L2.RelV v u ∧ (∀ H, Dr K H v d) ∧ ∀ Φ env, evE Φ p.2 env = some d) : ∀ (n : Nat) (N : List Str) (sc : Scope), N.Nodup → R.ok (Phi tab ext n) ⟨P, w, K, mg, base, N, sc, n, true⟩ := by
  intro n
  induction n with
  | zero =>
    intro N sc nd
    refine ⟨nd, fun p hp => ?_, hfr, fun p hp => ?_⟩
    · obtain ⟨f, fd, ps, h1, h2, h3, h4⟩ := (hd p hp).ex
      refine ⟨f, fd, ps, h1, ⟨fun vs H Q E h => ?_, fun A outer s H args us vs Q E _ _ _ _ h => ?_⟩, h2, h3⟩
      · obtain ⟨_, _, _, _, _, z, _⟩ := h; cases z
      · obtain ⟨_, _, _, _, _, z, _⟩ := h; cases z
    · obtain ⟨v, u, d, h1, h2, h3, h4⟩ := hcs p hp
      exact ⟨v, u, d, h1, h2, h3, h4 _⟩
  | succ n ih =>
    intro N sc nd
    refine ⟨nd, fun p hp => ?_, hfr, fun p hp => ?_⟩
    · obtain ⟨f, fd, ps, h1, h2, h3, h4⟩ := (hd p hp).ex
      exact ⟨f, fd, ps, h1, h4 n _ ih, h2, h3⟩
    · obtain ⟨v, u, d, h1, h2, h3, h4⟩ := hcs p hp
      exact ⟨v, u, d, h1, h2, h3, h4 _⟩
/-- the script as data -/
def scr (ns : List Int) : D := .dict (ns.map fun n => (.int n, .none))
theorem law_sp {K : PySem.W.Frag} {F : List D → Option D} {H : Hp} {a : Addr} {ns : List Int} (hF : F [scr ns] = some (.bool true)) (hS : SqL K H a (ns.map V.int)) : spF K [false] F [.ref a] H (fun v _ => v = .bl true) fun _ _ _ => False := by
  refine ⟨[], [scr ns], .bool true, (fun a ha => by cases ha), ?_, hF, (fun v H' s hv => by cases hv; rfl)⟩
  refine ⟨?_, by unfold ArgR; trivial⟩
  rw [mi_nil]
  exact .scr hS
end J
namespace J
open PySem PySem.Spec PyProof.Rows L2
theorem def_level {P : Program} {w : World} {K : PySem.W.Frag} {mg : Str → Option Value} {base : Heap} {R : Rw} {tab : Nat → Option Fd} {ext : Nat → (Nat → List D → Option D) → List D → Option D} {x : Str} {k level : Nat} {params : Arguments} {body : List Stmt} {scope : Scope} {f : Addr} {fd : FuncData} {N ps : List Str}
    {F : Fd} {ow : List Nat} {m : Nat} (hF : FunD K x x params body scope [] [] f fd) (hm : mg x = some (.ref f)) (hb : Binds K fd ps []) (S : FnScope N ps scope) (hk : tab k = some F) (htr : blk (trS R N (trE R N m) scope ow m) N ow body = some F.body) (hsl : F.slots = N.length) (hbs : F.bs.length = ps.length)
    (hR : ∀ N sc, N.Nodup → R.ok (Phi tab ext level) ⟨P, w, K, mg, base, N, sc, level, true⟩) : FnOk P w K mg base CX0 (level + 1) f fd ps (spF K F.bs (Phi tab ext (level + 1) k)) := by
  have : Phi tab ext (level + 1) k = evF (Phi tab ext level) F := by
    show stepP tab ext (Phi tab ext level) k = _
    unfold stepP
    rw [hk]
  rw [this]
  exact fn_ok hF S (hR N scope S.nd) htr hsl hbs
end J

namespace J
open PySem
/-- written -/
def fd0 : Fd := ⟨[false], 5, (.seq (.set 1 (.comp (.bin .Add (.bin .Add (.bin .Add (.bin .Add (.bi .str (.cons (.bv 2) .nil)) (.cs (Str.ofString "-"))) (.bi .str (.cons (.bv 3) .nil))) (.cs (Str.ofString "="))) (.bi .str (.cons (.bv 4) .nil))) [2, 3, 4] (.ix (.bv 0) (.ci 1)) .nil [2, 3, 4])) (.seq (.ret (.join (.cs (Str.ofString " ")) (.bin .Add (.lst (.cons (.bi .str (.cons (.ix (.bv 0) (.ci 0)) .nil)) (.cons (.cs (Str.ofString ":")) .nil))) (.bv 1)))) .skip))⟩
/-- _law_cell_at -/
def fd1 : Fd := ⟨[false, false], 2, (.seq (.ifs (.cmp .Lt (.bv 1) (.bi .len (.cons (.bv 0) .nil))) (.seq (.ret (.ix (.bv 0) (.bv 1))) .skip) .skip) (.seq (.ret (.ci 0)) .skip))⟩
/-- _law_mixed -/
def fd2 : Fd := ⟨[false, false], 3, (.seq (.set 2 (.bin .Mod (.bin .Mult (.bin .Add (.bin .Add (.call 1 (.cons (.var 0) (.cons (.var 1) .nil))) (.bin .Mult (.ci 7919) (.bv 1))) (.ci 1)) (.ci 48271)) (.ci 2147483647))) (.seq (.ret (.bin .Mod (.bin .Add (.bin .Add (.bin .Mult (.bv 2) (.bv 2)) (.bin .Mult (.ci 7) (.bv 2))) (.bv 1)) (.ci 2147483629))) .skip))⟩
/-- _law_drawn -/
def fd3 : Fd := ⟨[false, false], 3, (.seq (.set 2 (.bin .Mod (.bin .Mult (.bin .Add (.bin .Add (.bv 0) (.bin .Mult (.ci 104729) (.bv 1))) (.ci 17)) (.ci 69621)) (.ci 2147483647))) (.seq (.ret (.bin .Mod (.bin .Add (.bin .Add (.bin .Mult (.bv 2) (.bv 2)) (.bin .Mult (.ci 3) (.bv 2))) (.bv 1)) (.ci 2147483629))) .skip))⟩
/-- _law_web -/
def fd4 : Fd := ⟨[false], 10, (.seq (.set 1 (.ix (.tup (.cons (.ci 2) (.cons (.ci 3) (.cons (.ci 4) (.cons (.ci 5) (.cons (.ci 6) (.cons (.ci 7) (.cons (.ci 4) (.cons (.ci 1) .nil))))))))) (.bin .Mod (.bv 0) (.ci 8)))) (.seq (.set 2 (.ix (.tup (.cons (.ci 1) (.cons (.ci 3) (.cons (.ci 10) (.cons (.ci 100) .nil))))) (.bin .Mod (.bin .FloorDiv (.bv 0) (.ci 8)) (.ci 4)))) (.seq (.setO 3 (.lst .nil)) (.seq (.for_ [4] (.rg (.ci 1) (.bv 1)) (.seq (.set 5 (.bin .FloorDiv (.call 3 (.cons (.var 0) (.cons (.var 4) .nil))) (.ci 4))) (.seq (.ifs (.cmp .Gt (.bin .Mod (.bv 5) (.ci 16)) (.ci 0)) (.seq (.app 3 (.tup (.cons (.bin .Mod (.bin .FloorDiv (.bv 5) (.ci 16)) (.bv 4)) (.cons (.var 4) (.cons (.bin .Mod (.bin .FloorDiv (.bv 5) (.ci 512)) (.bv 2)) .nil))))) .skip) .skip) .skip))) (.seq (.ifs (.cmp .Gt (.bv 1) (.ci 1)) (.seq (.for_ [6] (.rg (.ci 0) (.bin .Mod (.bin .FloorDiv (.bv 0) (.ci 32)) (.bin .Sub (.ci 11) (.bi .len (.cons (.bv 3) .nil))))) (.seq (.set 5 (.bin .FloorDiv (.call 3 (.cons (.var 0) (.cons (.bin .Add (.ci 20) (.bv 6)) .nil))) (.ci 4))) (.seq (.set 7 (.bin .Mod (.bv 5) (.bv 1))) (.seq (.set 8 (.bin .Mod (.bin .Add (.bin .Add (.bv 7) (.ci 1)) (.bin .Mod (.bin .FloorDiv (.bv 5) (.ci 8)) (.bin .Sub (.bv 1) (.ci 1)))) (.bv 1))) (.seq (.app 3 (.tup (.cons (.bi .min (.cons (.bv 7) (.cons (.bv 8) .nil))) (.cons (.bi .max (.cons (.bv 7) (.cons (.bv 8) .nil))) (.cons (.bin .Mod (.bin .FloorDiv (.bv 5) (.ci 512)) (.bv 2)) .nil))))) .skip))))) .skip) .skip) (.seq (.shr 3) (.seq (.set 9 (.bin .Mod (.bin .FloorDiv (.bv 0) (.ci 1024)) (.ci 5))) (.seq (.ret (.tup (.cons (.var 1) (.cons (.bi .tuple (.cons (.bin .Add (.sl (.bv 3) (.bv 9) .nil) (.sl (.bv 3) .nil (.bv 9))) .nil)) .nil)))) .skip))))))))⟩
/-- law -/
def fd5 : Fd := ⟨[false], 6, (.seq (.set 1 (.call 4 (.cons (.call 2 (.cons (.var 0) (.cons (.ci 0) .nil))) .nil))) (.seq (.set 2 (.bin .Add (.bi .str (.cons (.ix (.bv 1) (.ci 0)) .nil)) (.cs (Str.ofString " :")))) (.seq (.for_ [3, 4, 5] (.ix (.bv 1) (.ci 1)) (.seq (.set 2 (.bin .Add (.bin .Add (.bin .Add (.bin .Add (.bin .Add (.bin .Add (.bv 2) (.cs (Str.ofString " "))) (.bi .str (.cons (.bv 3) .nil))) (.cs (Str.ofString "-"))) (.bi .str (.cons (.bv 4) .nil))) (.cs (Str.ofString "="))) (.bi .str (.cons (.bv 5) .nil)))) .skip)) (.seq (.ret (.cmp .Eq (.call 0 (.cons (.var 1) .nil)) (.bv 2))) .skip))))⟩
def tab : Nat → Option Fd
  | 0 => some fd0
  | 1 => some fd1
  | 2 => some fd2
  | 3 => some fd3
  | 4 => some fd4
  | 5 => some fd5
  | _ => none
end J
namespace J
open PySem
def ext : Nat → (Nat → List D → Option D) → List D → Option D := fun _ _ _ => none
abbrev Ph : Nat → Nat → List D → Option D := Phi tab ext
theorem len_scr (ns : List Int) : biLen [scr ns] = some (.int ns.length) := by
  simp only [scr, biLen, List.length_map]
theorem atI_nat {α : Type} {xs : List α} {k : Nat} : L2.atI xs (k : Int) = xs[k]? := by
  unfold L2.atI L2.ixN
  by_cases h : k < xs.length
  · rw [if_pos (by omega), if_pos (by omega)]
    simp
  · rw [if_pos (by omega), if_neg (by omega), List.getElem?_eq_none (by omega)]
    rfl
theorem ix_scr {ns : List Int} {k : Nat} (h : k < ns.length) : opIx (scr ns) (.int k) = some (.int ns[k]) := by
  simp only [scr, opIx]
  rw [atI_map, Option.map_map, atI_nat, List.getElem?_eq_getElem h]
  rfl
theorem cell_at (n : Nat) (ns : List Int) (k : Nat) : Ph (n + 1) 1 [scr ns, .int k] = some (.int (ns.getD k 0)) := by
  show evF (Ph n) fd1 [scr ns, .int k] = _
  by_cases h : k < ns.length
  · have h' : (k : Int) < ns.length := by omega
    have hx := ix_scr h
    unfold scr at hx
    simp only [evF, start0, evS, evE, evA, evI, evO, evC, evR, getB, getV, evBi, biLen, biMin, biMax, biSum, biAll, biAny, biAbs, biInt, biStr, biTuple, biList, biSorted, opB, opAdd, opSub, opAnd, opPow, opC, opI, opIs, isNoneD, testD, bindT, bindEach, wipeE, opRg, evIsi, itemsD, seq2, opSl, opRev, Option.map_some, Option.map_none, List.length_cons, List.length_nil, List.getElem?_cons_zero, List.getElem?_cons_succ, List.set_cons_zero, List.set_cons_succ, List.cons_append, List.nil_append, List.replicate_succ, List.replicate_zero, if_true, if_false, reduceIte, Nat.reduceAdd, Nat.reduceSub, Nat.reduceLeDiff, Bool.true_and, Bool.and_true, Bool.false_and, Bool.and_false, reduceCtorEq, fd1, scr, List.length_map, hx, h', decide_true]
    simp [h]
  · have h' : ¬ (k : Int) < ns.length := by omega
    simp only [evF, start0, evS, evE, evA, evI, evO, evC, evR, getB, getV, evBi, biLen, biMin, biMax, biSum, biAll, biAny, biAbs, biInt, biStr, biTuple, biList, biSorted, opB, opAdd, opSub, opAnd, opPow, opC, opI, opIs, isNoneD, testD, bindT, bindEach, wipeE, opRg, evIsi, itemsD, seq2, opSl, opRev, Option.map_some, Option.map_none, List.length_cons, List.length_nil, List.getElem?_cons_zero, List.getElem?_cons_succ, List.set_cons_zero, List.set_cons_succ, List.cons_append, List.nil_append, List.replicate_succ, List.replicate_zero, if_true, if_false, reduceIte, Nat.reduceAdd, Nat.reduceSub, Nat.reduceLeDiff, Bool.true_and, Bool.and_true, Bool.false_and, Bool.and_false, reduceCtorEq, fd1, scr, List.length_map, h', decide_false]
    simp [h]
theorem mulOk_r {i j : Int} (h : j.natAbs < 2 ^ 64) : mulOk i j = true := by
  unfold mulOk
  simp [h]
theorem mulOk_l {i j : Int} (h : i.natAbs < 2 ^ 64) : mulOk i j = true := by
  unfold mulOk
  simp [h]
theorem mul_r {i j : Int} (h : j.natAbs < 2 ^ 64) : opMul (.int i) (.int j) = some (.int (i * j)) := by
  simp only [opMul, mulOk_r h, if_true]
theorem mul_l {i j : Int} (h : i.natAbs < 2 ^ 64) : opMul (.int i) (.int j) = some (.int (i * j)) := by
  simp only [opMul, mulOk_l h, if_true]
theorem modOk0 {i j : Int} (h : 0 < j) : opMod (.int i) (.int j) = some (.int (i % j)) := by
  simp only [opMod]
  rw [if_pos h]
def mix0 (ns : List Int) (k : Nat) : Int := (ns.getD k 0 + 7919 * k + 1) * 48271 % 2147483647
def mix (ns : List Int) (k : Nat) : Int := (mix0 ns k * mix0 ns k + 7 * mix0 ns k + k) % 2147483629
def drw0 (a k : Int) : Int := (a + 104729 * k + 17) * 69621 % 2147483647
def drw (a k : Int) : Int := (drw0 a k * drw0 a k + 3 * drw0 a k + k) % 2147483629
theorem mix0_b (ns : List Int) (k : Nat) : 0 ≤ mix0 ns k ∧ mix0 ns k < 2147483647 := by
  unfold mix0; omega
theorem drw0_b (a k : Int) : 0 ≤ drw0 a k ∧ drw0 a k < 2147483647 := by
  unfold drw0; omega
theorem mix_b (ns : List Int) (k : Nat) : 0 ≤ mix ns k ∧ mix ns k < 2147483629 := by
  unfold mix; omega
theorem drw_b (a k : Int) : 0 ≤ drw a k ∧ drw a k < 2147483629 := by
  unfold drw; omega
theorem mixed (n : Nat) (ns : List Int) (k : Nat) : Ph (n + 2) 2 [scr ns, .int k] = some (.int (mix ns k)) := by
  show evF (Ph (n + 1)) fd2 [scr ns, .int k] = _
  have b := mix0_b ns k
  simp only [evF, start0, evS, evE, evA, evI, evO, evC, evR, getB, getV, evBi, biLen, biMin, biMax, biSum, biAll, biAny, biAbs, biInt, biStr, biTuple, biList, biSorted, opB, opAdd, opSub, opAnd, opPow, opC, opI, opIs, isNoneD, testD, bindT, bindEach, wipeE, opRg, evIsi, itemsD, seq2, opSl, opRev, Option.map_some, Option.map_none, List.length_cons, List.length_nil, List.getElem?_cons_zero, List.getElem?_cons_succ, List.set_cons_zero, List.set_cons_succ, List.cons_append, List.nil_append, List.replicate_succ, List.replicate_zero, if_true, if_false, reduceIte, Nat.reduceAdd, Nat.reduceSub, Nat.reduceLeDiff, Bool.true_and, Bool.and_true, Bool.false_and, Bool.and_false, reduceCtorEq, fd2, cell_at, modOk0 (show (0 : Int) < 2147483647 from by decide), modOk0 (show (0 : Int) < 2147483629 from by decide), mul_l (i := 7919) (by decide), mul_r (j := 48271) (by decide), show (0 : Int) < 2147483647 from by decide]
  rw [show (ns.getD k 0 + 7919 * (k : Int) + 1) * 48271 % 2147483647 = mix0 ns k from rfl]
  simp only [evF, start0, evS, evE, evA, evI, evO, evC, evR, getB, getV, evBi, biLen, biMin, biMax, biSum, biAll, biAny, biAbs, biInt, biStr, biTuple, biList, biSorted, opB, opAdd, opSub, opAnd, opPow, opC, opI, opIs, isNoneD, testD, bindT, bindEach, wipeE, opRg, evIsi, itemsD, seq2, opSl, opRev, Option.map_some, Option.map_none, List.length_cons, List.length_nil, List.getElem?_cons_zero, List.getElem?_cons_succ, List.set_cons_zero, List.set_cons_succ, List.cons_append, List.nil_append, List.replicate_succ, List.replicate_zero, if_true, if_false, reduceIte, Nat.reduceAdd, Nat.reduceSub, Nat.reduceLeDiff, Bool.true_and, Bool.and_true, Bool.false_and, Bool.and_false, reduceCtorEq, modOk0 (show (0 : Int) < 2147483629 from by decide), mul_l (i := mix0 ns k) (j := mix0 ns k) (by omega), mul_l (i := 7) (by decide), show (0 : Int) < 2147483629 from by decide]
  rfl
theorem drawn (n : Nat) (a k : Int) : Ph (n + 1) 3 [.int a, .int k] = some (.int (drw a k)) := by
  show evF (Ph n) fd3 [.int a, .int k] = _
  have b := drw0_b a k
  simp only [evF, start0, evS, evE, evA, evI, evO, evC, evR, getB, getV, evBi, biLen, biMin, biMax, biSum, biAll, biAny, biAbs, biInt, biStr, biTuple, biList, biSorted, opB, opAdd, opSub, opAnd, opPow, opC, opI, opIs, isNoneD, testD, bindT, bindEach, wipeE, opRg, evIsi, itemsD, seq2, opSl, opRev, Option.map_some, Option.map_none, List.length_cons, List.length_nil, List.getElem?_cons_zero, List.getElem?_cons_succ, List.set_cons_zero, List.set_cons_succ, List.cons_append, List.nil_append, List.replicate_succ, List.replicate_zero, if_true, if_false, reduceIte, Nat.reduceAdd, Nat.reduceSub, Nat.reduceLeDiff, Bool.true_and, Bool.and_true, Bool.false_and, Bool.and_false, reduceCtorEq, fd3, modOk0 (show (0 : Int) < 2147483647 from by decide), modOk0 (show (0 : Int) < 2147483629 from by decide), mul_l (i := 104729) (by decide), mul_r (j := 69621) (by decide), show (0 : Int) < 2147483647 from by decide]
  rw [show (a + 104729 * k + 17) * 69621 % 2147483647 = drw0 a k from rfl]
  simp only [evF, start0, evS, evE, evA, evI, evO, evC, evR, getB, getV, evBi, biLen, biMin, biMax, biSum, biAll, biAny, biAbs, biInt, biStr, biTuple, biList, biSorted, opB, opAdd, opSub, opAnd, opPow, opC, opI, opIs, isNoneD, testD, bindT, bindEach, wipeE, opRg, evIsi, itemsD, seq2, opSl, opRev, Option.map_some, Option.map_none, List.length_cons, List.length_nil, List.getElem?_cons_zero, List.getElem?_cons_succ, List.set_cons_zero, List.set_cons_succ, List.cons_append, List.nil_append, List.replicate_succ, List.replicate_zero, if_true, if_false, reduceIte, Nat.reduceAdd, Nat.reduceSub, Nat.reduceLeDiff, Bool.true_and, Bool.and_true, Bool.false_and, Bool.and_false, reduceCtorEq, modOk0 (show (0 : Int) < 2147483629 from by decide), mul_l (i := drw0 a k) (j := drw0 a k) (by omega), mul_l (i := 3) (by decide), show (0 : Int) < 2147483629 from by decide]
  rfl
end J

namespace J
open PySem
theorem forL_inv {f : D → En → Option Fl} (I : Nat → En → Prop) : ∀ (ds : List D) (env : En), I 0 env → (∀ i x env, ds[i]? = some x → I i env → ∃ env', f x env = some (.nx env') ∧ I (i + 1) env') → ∃ env', forL f ds env = some (.nx env') ∧ I ds.length env' := by
  intro ds env h0 hs
  have go : ∀ (r : List D) (k : Nat) (env : En), (∀ i x, r[i]? = some x → ds[k + i]? = some x) → I k env → ∃ env', forL f r env = some (.nx env') ∧ I (k + r.length) env' := by
    intro r
    induction r with
    | nil => intro k env _ h; exact ⟨env, rfl, h⟩
    | cons x r ih =>
      intro k env hr h
      obtain ⟨e1, h1, h2⟩ := hs k x env (hr 0 x rfl) h
      obtain ⟨e2, h3, h4⟩ := ih (k + 1) e1 (fun i y hy => by rw [show k + 1 + i = k + (i + 1) by omega]; exact hr (i + 1) y hy) h2
      refine ⟨e2, ?_, ?_⟩
      · unfold forL
        rw [h1]
        exact h3
      · rw [List.length_cons, show k + (r.length + 1) = k + 1 + r.length by omega]
        exact h4
  have := go ds 0 env (fun i x h => by rw [Nat.zero_add]; exact h) h0
  rw [Nat.zero_add] at this
  exact this
theorem rgD_get {lo hi : Int} {i : Nat} {x : D} (h : (rgD lo hi)[i]? = some x) : x = .int (lo + i) ∧ lo + i < hi := by
  unfold rgD at h
  by_cases hi' : i < (hi - lo).toNat
  · rw [List.getElem?_map, List.getElem?_range hi'] at h
    cases h
    exact ⟨rfl, by omega⟩
  · rw [List.getElem?_eq_none (by simp; omega)] at h
    cases h
theorem rgD_len (lo hi : Int) : (rgD lo hi).length = (hi - lo).toNat := by unfold rgD; simp
theorem cutD_from {α : Type} (xs : List α) (k : Nat) : cutD xs (some (k : Int)) none = xs.drop k := by
  unfold cutD
  rw [HT.sIx_nat, HT.sIx_none]
  by_cases h : k ≤ xs.length
  · rw [Nat.min_eq_left h]
    exact List.take_of_length_le (by simp)
  · rw [Nat.min_eq_right (by omega), List.drop_length, List.drop_eq_nil_of_le (by omega)]
    simp
theorem cutD_to {α : Type} (xs : List α) (k : Nat) : cutD xs none (some (k : Int)) = xs.take k := by
  unfold cutD
  rw [HT.sIx_nat, HT.sIx_none]
  by_cases h : k ≤ xs.length
  · rw [Nat.min_eq_left h]; simp
  · rw [Nat.min_eq_right (by omega), List.take_of_length_le (show xs.length ≤ k by omega)]
    simp
abbrev T3 := Nat × Nat × Nat
def encT (t : T3) : D := .tuple [.int t.1, .int t.2.1, .int t.2.2]
structure Web where
  many : Nat
  ties : List T3
def encW (w : Web) : D := .tuple [.int w.many, .tuple (w.ties.map encT)]
def Tok (many : Nat) (t : T3) : Prop := t.1 < t.2.1 ∧ t.2.1 < many ∧ t.2.2 ≤ 99
structure Wok (w : Web) : Prop where
  lo : 1 ≤ w.many
  hi : w.many ≤ 7
  len : w.ties.length ≤ 10
  ok : ∀ t ∈ w.ties, Tok w.many t
theorem pick8 (k : Int) : ∃ m : Nat, 1 ≤ m ∧ m ≤ 7 ∧ opIx (.tuple [.int 2, .int 3, .int 4, .int 5, .int 6, .int 7, .int 4, .int 1]) (.int (k % 8)) = some (.int m) := by
  have h : k % 8 = 0 ∨ k % 8 = 1 ∨ k % 8 = 2 ∨ k % 8 = 3 ∨ k % 8 = 4 ∨ k % 8 = 5 ∨ k % 8 = 6 ∨ k % 8 = 7 := by omega
  rcases h with h | h | h | h | h | h | h | h <;> rw [h]
  · exact ⟨2, by decide, by decide, rfl⟩
  · exact ⟨3, by decide, by decide, rfl⟩
  · exact ⟨4, by decide, by decide, rfl⟩
  · exact ⟨5, by decide, by decide, rfl⟩
  · exact ⟨6, by decide, by decide, rfl⟩
  · exact ⟨7, by decide, by decide, rfl⟩
  · exact ⟨4, by decide, by decide, rfl⟩
  · exact ⟨1, by decide, by decide, rfl⟩
theorem pick4 (k : Int) : ∃ m : Nat, 1 ≤ m ∧ m ≤ 100 ∧ opIx (.tuple [.int 1, .int 3, .int 10, .int 100]) (.int (k % 4)) = some (.int m) := by
  have h : k % 4 = 0 ∨ k % 4 = 1 ∨ k % 4 = 2 ∨ k % 4 = 3 := by omega
  rcases h with h | h | h | h <;> rw [h]
  · exact ⟨1, by decide, by decide, rfl⟩
  · exact ⟨3, by decide, by decide, rfl⟩
  · exact ⟨10, by decide, by decide, rfl⟩
  · exact ⟨100, by decide, by decide, rfl⟩
theorem divOk {i j : Int} (h : 0 < j) (h2 : j < 2 ^ 64) : opDiv (.int i) (.int j) = some (.int (i / j)) := by
  simp only [opDiv]
  rw [if_pos ⟨h, Nat.lt_of_lt_of_le (show j.natAbs < 2 ^ 64 by omega) (Nat.pow_le_pow_right (by decide) (by decide))⟩]
theorem modOk {i j : Int} (h : 0 < j) : opMod (.int i) (.int j) = some (.int (i % j)) := by
  simp only [opMod]
  rw [if_pos h]
theorem toN {x : Int} (h : 0 ≤ x) : ((x.toNat : Nat) : Int) = x := by omega
def bodyW1 : IS := (.seq (.set 5 (.bin .FloorDiv (.call 3 (.cons (.var 0) (.cons (.var 4) .nil))) (.ci 4))) (.seq (.ifs (.cmp .Gt (.bin .Mod (.bv 5) (.ci 16)) (.ci 0)) (.seq (.app 3 (.tup (.cons (.bin .Mod (.bin .FloorDiv (.bv 5) (.ci 16)) (.bv 4)) (.cons (.var 4) (.cons (.bin .Mod (.bin .FloorDiv (.bv 5) (.ci 512)) (.bv 2)) .nil))))) .skip) .skip) .skip))
def W1 (a many high : Int) (m : Nat) (k : Nat) (i : Nat) (env : En) : Prop := ∃ (ts : List T3) (s4 s5 s6 s7 s8 s9 : Sl), env = [.val (.int a), .val (.int many), .val (.int high), .own (ts.map encT), s4, s5, s6, s7, s8, s9] ∧ ts.length ≤ k + i ∧ ∀ t ∈ ts, Tok m t
theorem web1 (n : Nat) (a : Int) (m h : Nat) (hm : m ≤ 7) (hh : 1 ≤ h) (hh2 : h ≤ 100) (i : Nat) (x : D) (env : En) (hx : (rgD 1 (m : Int))[i]? = some x) (hI : W1 a m h m 0 i env) :
    ∃ env', forB [4] (evS (Ph (n + 1)) bodyW1) x env = some (.nx env') ∧ W1 a m h m 0 (i + 1) env' := by
  obtain ⟨rfl, hlt⟩ := rgD_get hx
  obtain ⟨ts, s4, s5, s6, s7, s8, s9, rfl, hl, hts⟩ := hI
  generalize hd : drw a (1 + i) / 4 = d
  have hd0 : 0 ≤ d := by have := drw_b a (1 + i); omega
  by_cases hc : d % 16 > 0
  · have hc' : (0 : Int) < d % 16 := hc
    simp only [forB, evF, start0, evS, evE, evA, evI, evO, evC, evR, getB, getV, evBi, biLen, biMin, biMax, biSum, biAll, biAny, biAbs, biInt, biStr, biTuple, biList, biSorted, opB, opAdd, opSub, opAnd, opPow, opC, opI, opIs, isNoneD, testD, bindT, bindEach, wipeE, opRg, evIsi, itemsD, seq2, opSl, opRev, Option.map_some, Option.map_none, List.length_cons, List.length_nil, List.getElem?_cons_zero, List.getElem?_cons_succ, List.set_cons_zero, List.set_cons_succ, List.cons_append, List.nil_append, List.replicate_succ, List.replicate_zero, if_true, if_false, reduceIte, Nat.reduceAdd, Nat.reduceSub, Nat.reduceLeDiff, Bool.true_and, Bool.and_true, Bool.false_and, Bool.and_false, reduceCtorEq, bodyW1, drawn, divOk (j := 4) (by decide) (by decide), hd, modOk (j := 16) (by decide), hc', decide_true, divOk (j := 16) (by decide) (by decide), divOk (j := 512) (by decide) (by decide), modOk (show (0 : Int) < 1 + (i : Int) by omega), modOk (show (0 : Int) < (h : Int) by omega)]
    have hz : (ts.map encT).length < 100000 := by rw [List.length_map]; omega
    simp only [hz, if_true]
    refine ⟨_, rfl, ts ++ [((d / 16 % (1 + i)).toNat, 1 + i, (d / 512 % h).toNat)], .val (.int (1 + i)), .val (.int d), s6, s7, s8, s9, ?_, by rw [List.length_append]; simp; omega, fun t ht => ?_⟩
    · rw [List.map_append]
      simp only [encT, List.map_cons, List.map_nil]
      rw [toN (Int.emod_nonneg _ (by omega)), toN (Int.emod_nonneg _ (by omega))]
      rfl
    · rcases List.mem_append.mp ht with ht | ht
      · exact hts t ht
      · rw [List.mem_singleton.mp ht]
        have e1 := Int.emod_nonneg (d / 16) (show (1 + (i : Int)) ≠ 0 by omega)
        have e2 := Int.emod_lt_of_pos (d / 16) (show 0 < (1 + (i : Int)) by omega)
        have e3 := Int.emod_lt_of_pos (d / 512) (show 0 < (h : Int) by omega)
        have e4 := Int.emod_nonneg (d / 512) (show (h : Int) ≠ 0 by omega)
        refine ⟨?_, ?_, ?_⟩
        · show (d / 16 % (1 + i)).toNat < 1 + i; omega
        · show 1 + i < m; omega
        · show (d / 512 % h).toNat ≤ 99; omega
  · have hc' : ¬ (0 : Int) < d % 16 := hc
    simp only [forB, evF, start0, evS, evE, evA, evI, evO, evC, evR, getB, getV, evBi, biLen, biMin, biMax, biSum, biAll, biAny, biAbs, biInt, biStr, biTuple, biList, biSorted, opB, opAdd, opSub, opAnd, opPow, opC, opI, opIs, isNoneD, testD, bindT, bindEach, wipeE, opRg, evIsi, itemsD, seq2, opSl, opRev, Option.map_some, Option.map_none, List.length_cons, List.length_nil, List.getElem?_cons_zero, List.getElem?_cons_succ, List.set_cons_zero, List.set_cons_succ, List.cons_append, List.nil_append, List.replicate_succ, List.replicate_zero, if_true, if_false, reduceIte, Nat.reduceAdd, Nat.reduceSub, Nat.reduceLeDiff, Bool.true_and, Bool.and_true, Bool.false_and, Bool.and_false, reduceCtorEq, bodyW1, drawn, divOk (j := 4) (by decide) (by decide), hd, modOk (j := 16) (by decide), hc', decide_false]
    exact ⟨_, rfl, ts, .val (.int (1 + i)), .val (.int d), s6, s7, s8, s9, rfl, by omega, hts⟩
def bodyW2 : IS := (.seq (.set 5 (.bin .FloorDiv (.call 3 (.cons (.var 0) (.cons (.bin .Add (.ci 20) (.bv 6)) .nil))) (.ci 4))) (.seq (.set 7 (.bin .Mod (.bv 5) (.bv 1))) (.seq (.set 8 (.bin .Mod (.bin .Add (.bin .Add (.bv 7) (.ci 1)) (.bin .Mod (.bin .FloorDiv (.bv 5) (.ci 8)) (.bin .Sub (.bv 1) (.ci 1)))) (.bv 1))) (.seq (.app 3 (.tup (.cons (.bi .min (.cons (.bv 7) (.cons (.bv 8) .nil))) (.cons (.bi .max (.cons (.bv 7) (.cons (.bv 8) .nil))) (.cons (.bin .Mod (.bin .FloorDiv (.bv 5) (.ci 512)) (.bv 2)) .nil))))) .skip))))
/-- another place than o, by a step of 1 to m - 1 -/
theorem other_ne {o m q : Int} (h0 : 0 ≤ o) (h1 : o < m) (h2 : 0 ≤ q) (h3 : q < m - 1) : 0 ≤ (o + 1 + q) % m ∧ (o + 1 + q) % m < m ∧ (o + 1 + q) % m ≠ o := by
  have hm : 0 < m := by omega
  by_cases h : o + 1 + q < m
  · rw [Int.emod_eq_of_lt (by omega) h]
    omega
  · have : (o + 1 + q) % m = o + 1 + q - m := by
      rw [← Int.sub_emod_right]
      exact Int.emod_eq_of_lt (by omega) (by omega)
    rw [this]
    omega
theorem web2 (n : Nat) (a : Int) (m h c : Nat) (hm : m ≤ 7) (hm2 : 1 < m) (hh : 1 ≤ h) (hh2 : h ≤ 100) (cnt : Int) (k : Nat) (hk : k ≤ 10) (hcnt : k + cnt ≤ 10) (i : Nat) (x : D) (env : En) (hx : (rgD 0 cnt)[i]? = some x) (hI : W1 a m h m k i env) :
    ∃ env', forB [6] (evS (Ph (n + 1)) bodyW2) x env = some (.nx env') ∧ W1 a m h m k (i + 1) env' := by
  obtain ⟨rfl, hlt⟩ := rgD_get hx
  obtain ⟨ts, s4, s5, s6, s7, s8, s9, rfl, hl, hts⟩ := hI
  generalize hd : drw a (20 + (0 + i)) / 4 = d
  have hd0 : 0 ≤ d := by have := drw_b a (20 + (0 + i)); omega
  have hz : (ts.map encT).length < 100000 := by rw [List.length_map]; omega
  simp only [forB, evF, start0, evS, evE, evA, evI, evO, evC, evR, getB, getV, evBi, biLen, biMin, biMax, biSum, biAll, biAny, biAbs, biInt, biStr, biTuple, biList, biSorted, opB, opAdd, opSub, opAnd, opPow, opC, opI, opIs, isNoneD, testD, bindT, bindEach, wipeE, opRg, evIsi, itemsD, seq2, opSl, opRev, Option.map_some, Option.map_none, List.length_cons, List.length_nil, List.getElem?_cons_zero, List.getElem?_cons_succ, List.set_cons_zero, List.set_cons_succ, List.cons_append, List.nil_append, List.replicate_succ, List.replicate_zero, if_true, if_false, reduceIte, Nat.reduceAdd, Nat.reduceSub, Nat.reduceLeDiff, Bool.true_and, Bool.and_true, Bool.false_and, Bool.and_false, reduceCtorEq, bodyW2, drawn, divOk (j := 4) (by decide) (by decide), hd, modOk (show (0 : Int) < (m : Int) by omega), divOk (j := 8) (by decide) (by decide), modOk (show (0 : Int) < (m : Int) - 1 by omega), divOk (j := 512) (by decide) (by decide), modOk (show (0 : Int) < (h : Int) by omega), hz]
  have a1 := Int.emod_nonneg d (show (m : Int) ≠ 0 by omega)
  have a2 := Int.emod_lt_of_pos d (show 0 < (m : Int) by omega)
  have a3 := Int.emod_nonneg (d / 8) (show (m : Int) - 1 ≠ 0 by omega)
  have a4 := Int.emod_lt_of_pos (d / 8) (show 0 < (m : Int) - 1 by omega)
  have a5 := Int.emod_nonneg (d / 512) (show (h : Int) ≠ 0 by omega)
  have a6 := Int.emod_lt_of_pos (d / 512) (show 0 < (h : Int) by omega)
  generalize d % m = o at *
  generalize d / 8 % (m - 1) = q at *
  generalize d / 512 % h = p at *
  obtain ⟨b1, b2, b3⟩ := other_ne a1 a2 a3 a4
  generalize (o + 1 + q) % m = z at *
  refine ⟨_, rfl, ts ++ [((if z < o then z else o).toNat, (if z > o then z else o).toNat, p.toNat)], s4, .val (.int d), .val (.int (0 + i)), .val (.int o), .val (.int z), s9, ?_, by rw [List.length_append]; simp; omega, fun t ht => ?_⟩
  · rw [List.map_append]
    simp only [encT, List.map_cons, List.map_nil]
    rw [toN (show 0 ≤ (if z < o then z else o) by split <;> omega), toN (show 0 ≤ (if z > o then z else o) by split <;> omega), toN a5]
  · rcases List.mem_append.mp ht with ht | ht
    · exact hts t ht
    · rw [List.mem_singleton.mp ht]
      refine ⟨?_, ?_, ?_⟩
      · show (if z < o then z else o).toNat < (if z > o then z else o).toNat
        split <;> split <;> omega
      · show (if z > o then z else o).toNat < m
        split <;> omega
      · show p.toNat ≤ 99; omega
theorem cutD_map {α β : Type} (f : α → β) (xs : List α) (lo hi : Option Int) : cutD (xs.map f) lo hi = (cutD xs lo hi).map f := by
  unfold cutD
  rw [List.length_map, List.map_take, List.map_drop]
theorem web (n : Nat) (a : Int) (ha : 0 ≤ a) : ∃ w, Ph (n + 2) 4 [.int a] = some (encW w) ∧ Wok w := by
  obtain ⟨m, m1, m2, hm⟩ := pick8 a
  obtain ⟨h, h1, h2, hh⟩ := pick4 (a / 8)
  have st : W1 a m h m 0 0 [.val (.int a), .val (.int m), .val (.int h), .own [], .no, .no, .no, .no, .no, .no] := ⟨[], .no, .no, .no, .no, .no, .no, rfl, Nat.le_refl _, fun t ht => by cases ht⟩
  obtain ⟨e1, f1, w1⟩ := forL_inv (W1 a m h m 0) (rgD 1 m) _ st (web1 n a m h m2 h1 h2)
  rw [rgD_len] at w1
  have main : ∃ e2, (∃ ts : List T3, ∃ s4 s5 s6 s7 s8 s9 : Sl, e2 = [.val (.int a), .val (.int m), .val (.int h), .own (ts.map encT), s4, s5, s6, s7, s8, s9] ∧ ts.length ≤ 10 ∧ ∀ t ∈ ts, Tok m t) ∧
      evS (Ph (n + 1)) (.ifs (.cmp .Gt (.bv 1) (.ci 1)) (.seq (.for_ [6] (.rg (.ci 0) (.bin .Mod (.bin .FloorDiv (.bv 0) (.ci 32)) (.bin .Sub (.ci 11) (.bi .len (.cons (.bv 3) .nil))))) bodyW2) .skip) .skip) e1 = some (.nx e2) := by
    obtain ⟨ts, s4, s5, s6, s7, s8, s9, rfl, hl, hts⟩ := w1
    have hl6 : ts.length ≤ 6 := by omega
    by_cases hm2 : (1 : Int) < m
    · have c0 := Int.emod_nonneg (a / 32) (show (11 - (ts.length : Int)) ≠ 0 by omega)
      have c1 := Int.emod_lt_of_pos (a / 32) (show 0 < (11 - (ts.length : Int)) by omega)
      simp only [evF, start0, evS, evE, evA, evI, evO, evC, evR, getB, getV, evBi, biLen, biMin, biMax, biSum, biAll, biAny, biAbs, biInt, biStr, biTuple, biList, biSorted, opB, opAdd, opSub, opAnd, opPow, opC, opI, opIs, isNoneD, testD, bindT, bindEach, wipeE, opRg, evIsi, itemsD, seq2, opSl, opRev, Option.map_some, Option.map_none, List.length_cons, List.length_nil, List.getElem?_cons_zero, List.getElem?_cons_succ, List.set_cons_zero, List.set_cons_succ, List.cons_append, List.nil_append, List.replicate_succ, List.replicate_zero, if_true, if_false, reduceIte, Nat.reduceAdd, Nat.reduceSub, Nat.reduceLeDiff, Bool.true_and, Bool.and_true, Bool.false_and, Bool.and_false, reduceCtorEq, hm2, decide_true, List.length_map, divOk (j := 32) (by decide) (by decide), modOk (show (0 : Int) < 11 - (ts.length : Int) by omega)]
      generalize hcnt : a / 32 % (11 - (ts.length : Int)) = cnt at *
      have hrg : rgOk 0 cnt = true := by unfold rgOk; simp; omega
      simp only [hrg, if_true]
      obtain ⟨e2, f2, w2⟩ := forL_inv (W1 a m h m ts.length) (rgD 0 cnt) _ ⟨ts, s4, s5, s6, s7, s8, s9, rfl, Nat.le_refl _, hts⟩ (web2 n a m h 0 m2 (by omega) h1 h2 cnt ts.length (by omega) (by omega))
      rw [rgD_len] at w2
      refine ⟨e2, ?_, ?_⟩
      · obtain ⟨ts', s4, s5, s6, s7, s8, s9, rfl, hl', hts'⟩ := w2
        exact ⟨ts', s4, s5, s6, s7, s8, s9, rfl, by omega, hts'⟩
      · exact (by rw [f2])
    · simp only [evF, start0, evS, evE, evA, evI, evO, evC, evR, getB, getV, evBi, biLen, biMin, biMax, biSum, biAll, biAny, biAbs, biInt, biStr, biTuple, biList, biSorted, opB, opAdd, opSub, opAnd, opPow, opC, opI, opIs, isNoneD, testD, bindT, bindEach, wipeE, opRg, evIsi, itemsD, seq2, opSl, opRev, Option.map_some, Option.map_none, List.length_cons, List.length_nil, List.getElem?_cons_zero, List.getElem?_cons_succ, List.set_cons_zero, List.set_cons_succ, List.cons_append, List.nil_append, List.replicate_succ, List.replicate_zero, if_true, if_false, reduceIte, Nat.reduceAdd, Nat.reduceSub, Nat.reduceLeDiff, Bool.true_and, Bool.and_true, Bool.false_and, Bool.and_false, reduceCtorEq, hm2, decide_false]
      exact ⟨_, ⟨ts, s4, s5, s6, s7, s8, s9, rfl, by omega, hts⟩, rfl⟩
  obtain ⟨e2, ⟨ts, s4, s5, s6, s7, s8, s9, rfl, hl, hts⟩, hmain⟩ := main
  have hrg : rgOk 1 (m : Int) = true := by unfold rgOk; simp; omega
  have c0 := Int.emod_nonneg (a / 1024) (show (5 : Int) ≠ 0 by omega)
  have c1 := Int.emod_lt_of_pos (a / 1024) (show 0 < (5 : Int) by omega)
  generalize hby : a / 1024 % 5 = by_ at *
  obtain ⟨j, rfl⟩ : ∃ j : Nat, by_ = j := ⟨by_.toNat, by omega⟩
  refine ⟨⟨m, ts.drop j ++ ts.take j⟩, ?_, m1, m2, ?_, fun t ht => ?_⟩
  · show evF (Ph (n + 1)) fd4 [.int a] = _
    have hlen : ((ts.map encT).drop j).length + ((ts.map encT).take j).length ≤ 100000 := by
      rw [List.length_drop, List.length_take, List.length_map]; omega
    have eb : fd4.body = (.seq (.set 1 (.ix (.tup (.cons (.ci 2) (.cons (.ci 3) (.cons (.ci 4) (.cons (.ci 5) (.cons (.ci 6) (.cons (.ci 7) (.cons (.ci 4) (.cons (.ci 1) .nil))))))))) (.bin .Mod (.bv 0) (.ci 8)))) (.seq (.set 2 (.ix (.tup (.cons (.ci 1) (.cons (.ci 3) (.cons (.ci 10) (.cons (.ci 100) .nil))))) (.bin .Mod (.bin .FloorDiv (.bv 0) (.ci 8)) (.ci 4)))) (.seq (.setO 3 (.lst .nil)) (.seq (.for_ [4] (.rg (.ci 1) (.bv 1)) bodyW1)
      (.seq (.ifs (.cmp .Gt (.bv 1) (.ci 1)) (.seq (.for_ [6] (.rg (.ci 0) (.bin .Mod (.bin .FloorDiv (.bv 0) (.ci 32)) (.bin .Sub (.ci 11) (.bi .len (.cons (.bv 3) .nil))))) bodyW2) .skip) .skip) (.seq (.shr 3) (.seq (.set 9 (.bin .Mod (.bin .FloorDiv (.bv 0) (.ci 1024)) (.ci 5))) (.seq (.ret (.tup (.cons (.var 1) (.cons (.bi .tuple (.cons (.bin .Add (.sl (.bv 3) (.bv 9) .nil) (.sl (.bv 3) .nil (.bv 9))) .nil)) .nil)))) .skip)))))))) := rfl
    unfold evF
    rw [if_pos (show [PyData.int a].length = fd4.bs.length from rfl), eb]
    generalize hif : (IS.ifs (.cmp .Gt (.bv 1) (.ci 1)) (.seq (.for_ [6] (.rg (.ci 0) (.bin .Mod (.bin .FloorDiv (.bv 0) (.ci 32)) (.bin .Sub (.ci 11) (.bi .len (.cons (.bv 3) .nil))))) bodyW2) .skip) .skip) = IF at *
    simp only [evF, start0, evS, evE, evA, evI, evO, evC, evR, getB, getV, evBi, biLen, biMin, biMax, biSum, biAll, biAny, biAbs, biInt, biStr, biTuple, biList, biSorted, opB, opAdd, opSub, opAnd, opPow, opC, opI, opIs, isNoneD, testD, bindT, bindEach, wipeE, opRg, evIsi, itemsD, seq2, opSl, opRev, Option.map_some, Option.map_none, List.length_cons, List.length_nil, List.getElem?_cons_zero, List.getElem?_cons_succ, List.set_cons_zero, List.set_cons_succ, List.cons_append, List.nil_append, List.replicate_succ, List.replicate_zero, if_true, if_false, reduceIte, Nat.reduceAdd, Nat.reduceSub, Nat.reduceLeDiff, Bool.true_and, Bool.and_true, Bool.false_and, Bool.and_false, reduceCtorEq, fd4, modOk (j := 8) (by decide), hm, divOk (j := 8) (by decide) (by decide), modOk (j := 4) (by decide), hh, hrg, f1]
    simp only [hmain, evF, start0, evS, evE, evA, evI, evO, evC, evR, getB, getV, evBi, biLen, biMin, biMax, biSum, biAll, biAny, biAbs, biInt, biStr, biTuple, biList, biSorted, opB, opAdd, opSub, opAnd, opPow, opC, opI, opIs, isNoneD, testD, bindT, bindEach, wipeE, opRg, evIsi, itemsD, seq2, opSl, opRev, Option.map_some, Option.map_none, List.length_cons, List.length_nil, List.getElem?_cons_zero, List.getElem?_cons_succ, List.set_cons_zero, List.set_cons_succ, List.cons_append, List.nil_append, List.replicate_succ, List.replicate_zero, if_true, if_false, reduceIte, Nat.reduceAdd, Nat.reduceSub, Nat.reduceLeDiff, Bool.true_and, Bool.and_true, Bool.false_and, Bool.and_false, reduceCtorEq, divOk (j := 1024) (by decide) (by decide), modOk (j := 5) (by decide), hby, cutD_from, cutD_to, hlen]
    simp only [encW, List.map_append, List.map_drop, List.map_take]
  · rw [List.length_append, List.length_drop, List.length_take]; show _ ≤ 10; omega
  · rcases List.mem_append.mp ht with ht | ht
    · exact hts t (List.mem_of_mem_drop ht)
    · exact hts t (List.mem_of_mem_take ht)
end J

namespace J
open PySem
/-! texts -/
def sN (n : Nat) : Str := Str.ofString (toString (n : Int))
theorem sN_len : ∀ n : Nat, n < 100 → (sN n).length ≤ 2 := by decide +kernel
theorem app_len (a b : Str) : (a ++ b).length = a.length + b.length := by
  show (a.cps ++ b.cps).size = _
  rw [Array.size_append]; rfl
theorem app_assoc (a b c : Str) : a ++ b ++ c = a ++ (b ++ c) := by
  show (⟨a.cps ++ b.cps ++ c.cps⟩ : Str) = ⟨a.cps ++ (b.cps ++ c.cps)⟩
  rw [Array.append_assoc]
theorem biStr_n (n : Nat) (h : n < 100) : biStr [.int n] = some (.str (sN n)) := by
  simp only [biStr]
  rw [if_pos (Nat.lt_of_lt_of_le (show (n : Int).natAbs < 2 ^ 7 by omega) (Nat.pow_le_pow_right (by decide) (by decide)))]
  rfl
theorem add_str {a b : Str} (h : a.length + b.length ≤ 100000) : opAdd (.str a) (.str b) = some (.str (a ++ b)) := by
  simp only [opAdd]
  rw [if_pos h]
def wordT (t : T3) : Str := sN t.1 ++ (Str.ofString "-") ++ sN t.2.1 ++ (Str.ofString "=") ++ sN t.2.2
def textW (w : Web) : Str := Str.join (Str.ofString " ") (sN w.many :: Str.ofString ":" :: w.ties.map wordT)
theorem l1 : (Str.ofString "-").length = 1 ∧ (Str.ofString "=").length = 1 ∧ (Str.ofString " ").length = 1 ∧ (Str.ofString ":").length = 1 ∧ (Str.ofString " :").length = 2 := by decide +kernel
theorem wordT_len {m : Nat} (hm : m ≤ 7) {t : T3} (h : Tok m t) : (wordT t).length ≤ 8 := by
  have h1 := sN_len t.1 (by have := h.1; have := h.2.1; omega)
  have h2 := sN_len t.2.1 (by have := h.2.1; omega)
  have h3 := sN_len t.2.2 (by have := h.2.2; omega)
  unfold wordT
  rw [app_len, app_len, app_len, app_len, l1.1, l1.2.1]
  omega
/-- what a comprehension makes: each item kept, and made into g -/
theorem compL_map {f : D → Option (Option D)} {g : D → D} : ∀ (ds : List D), (∀ x ∈ ds, f x = some (some (g x))) → compL f ds = some (ds.map g)
  | [], _ => rfl
  | x :: r, h => by
    unfold compL
    rw [h x List.mem_cons_self, compL_map r fun y hy => h y (List.mem_cons_of_mem _ hy)]
    rfl
theorem compL_mapT {α : Type} {e : α → D} {f : D → Option (Option D)} {g : α → D} : ∀ (xs : List α), (∀ x ∈ xs, f (e x) = some (some (g x))) → compL f (xs.map e) = some (xs.map g)
  | [], _ => rfl
  | x :: r, h => by
    rw [List.map_cons]
    unfold compL
    rw [h x List.mem_cons_self, compL_mapT r fun y hy => h y (List.mem_cons_of_mem _ hy)]
    rfl
theorem ixW0 (w : Web) : opIx (encW w) (.int 0) = some (.int w.many) := rfl
theorem ixW1 (w : Web) : opIx (encW w) (.int 1) = some (.tuple (w.ties.map encT)) := rfl
theorem word_ev (Φ : Nat → List D → Option D) {m : Nat} (hm : m ≤ 7) {t : T3} (h : Tok m t) (s0 s1 : Sl) :
    turnC [2, 3, 4] [2, 3, 4] (evC Φ .nil) (evE Φ (.bin .Add (.bin .Add (.bin .Add (.bin .Add (.bi .str (.cons (.bv 2) .nil)) (.cs (Str.ofString "-"))) (.bi .str (.cons (.bv 3) .nil))) (.cs (Str.ofString "="))) (.bi .str (.cons (.bv 4) .nil)))) [s0, s1, .no, .no, .no] (encT t) = some (some (.str (wordT t))) := by
  have a1 : t.1 < 100 := by have := h.1; have := h.2.1; omega
  have a2 : t.2.1 < 100 := by have := h.2.1; omega
  have a3 : t.2.2 < 100 := by have := h.2.2; omega
  have h1 := sN_len _ a1
  have h2 := sN_len _ a2
  have h3 := sN_len _ a3
  have lq := l1
  have e1 := biStr_n _ a1
  have e2 := biStr_n _ a2
  have e3 := biStr_n _ a3
  have f1 : opAdd (.str (sN t.1)) (.str (Str.ofString "-")) = _ := add_str (by omega)
  have f2 : opAdd (.str (sN t.1 ++ Str.ofString "-")) (.str (sN t.2.1)) = _ := add_str (by rw [app_len]; omega)
  have f3 : opAdd (.str (sN t.1 ++ Str.ofString "-" ++ sN t.2.1)) (.str (Str.ofString "=")) = _ := add_str (by rw [app_len, app_len]; omega)
  have f4 : opAdd (.str (sN t.1 ++ Str.ofString "-" ++ sN t.2.1 ++ Str.ofString "=")) (.str (sN t.2.2)) = _ := add_str (by rw [app_len, app_len, app_len]; omega)
  simp only [turnC, encT, bindT, bindEach, wipeE, List.set_cons_zero, List.set_cons_succ, evC, evE, evA, getB, List.getElem?_cons_zero, List.getElem?_cons_succ, evBi, e1, e2, e3, opB, f1, f2, f3, f4]
  rfl
theorem join_ok {a : Str} {ys : List Str} (h : (ys.map (·.length)).sum + ys.length * a.length ≤ 100000) : opJoin (.str a) (.list (ys.map PyData.str)) = some (.str (Str.join a ys)) := by
  simp only [opJoin, strs_map, Option.bind_some]
  rw [if_pos h, TL.join_eq]
theorem sum_le_of {l : List Nat} {k : Nat} (h : ∀ x ∈ l, x ≤ k) : l.sum ≤ k * l.length := by
  induction l with
  | nil => simp
  | cons x r ih =>
    rw [List.sum_cons, List.length_cons, Nat.mul_succ]
    have := h x List.mem_cons_self
    have := ih fun y hy => h y (List.mem_cons_of_mem _ hy)
    omega
theorem written_ok (n : Nat) {w : Web} (hw : Wok w) : Ph (n + 1) 0 [encW w] = some (.str (textW w)) := by
  show evF (Ph n) fd0 [encW w] = _
  have hc : compL (turnC [2, 3, 4] [2, 3, 4] (evC (Ph n) .nil) (evE (Ph n) (.bin .Add (.bin .Add (.bin .Add (.bin .Add (.bi .str (.cons (.bv 2) .nil)) (.cs (Str.ofString "-"))) (.bi .str (.cons (.bv 3) .nil))) (.cs (Str.ofString "="))) (.bi .str (.cons (.bv 4) .nil)))) [.val (encW w), .no, .no, .no, .no]) (w.ties.map encT) = some ((w.ties.map wordT).map PyData.str) := by
    rw [List.map_map]
    exact compL_mapT _ fun t ht => word_ev _ hw.hi (hw.ok t ht) _ _
  have hl : (w.ties.map encT).length ≤ 40000 := by rw [List.length_map]; have := hw.len; omega
  have h0 := biStr_n w.many (by have := hw.hi; omega)
  have hl2 : [PyData.str (sN w.many), PyData.str (Str.ofString ":")].length + ((w.ties.map wordT).map PyData.str).length ≤ 100000 := by
    rw [List.length_map, List.length_map]; have := hw.len; simp; omega
  have hj : opJoin (.str (Str.ofString " ")) (.list ([PyData.str (sN w.many), PyData.str (Str.ofString ":")] ++ (w.ties.map wordT).map PyData.str)) = some (.str (textW w)) := by
    refine join_ok (ys := sN w.many :: Str.ofString ":" :: w.ties.map wordT) ?_
    have a := sN_len w.many (by have := hw.hi; omega)
    have b : ((w.ties.map wordT).map (·.length)).sum ≤ 8 * 10 := by
      refine Nat.le_trans (sum_le_of (k := 8) fun x hx => ?_) ?_
      · rw [List.mem_map] at hx
        obtain ⟨y, hy, rfl⟩ := hx
        obtain ⟨t, ht, rfl⟩ := List.mem_map.mp hy
        exact wordT_len hw.hi (hw.ok t ht)
      · rw [List.length_map, List.length_map]
        exact Nat.mul_le_mul_left _ hw.len
    have lq := l1
    have c : (w.ties.map wordT).length ≤ 10 := by rw [List.length_map]; exact hw.len
    simp only [List.map_cons, List.sum_cons, List.length_cons]
    rw [lq.2.2.1, lq.2.2.2.1]
    omega
  simp only [evF, fd0, start0, List.length_cons, List.length_nil, List.replicate_succ, List.replicate_zero, List.cons_append, List.nil_append, if_true, evS, evE, evI, evA, getB, getV, List.getElem?_cons_zero, List.getElem?_cons_succ, ixW1, ixW0, itemsD, hl, hc, Option.map_some, List.set_cons_succ, List.set_cons_zero, evR, evBi, h0, opB, reduceIte, Nat.reduceAdd, Nat.reduceSub, Bool.false_eq_true]
  simp only [opAdd, Nat.reduceLeDiff, if_true]
  rw [if_pos hl2]
  simp only [hj, Option.map_some]
def addW (due : Str) (t : T3) : Str := due ++ Str.ofString " " ++ sN t.1 ++ Str.ofString "-" ++ sN t.2.1 ++ Str.ofString "=" ++ sN t.2.2
theorem due_eq (x : Str) : ∀ ts : List T3, ts.foldl addW x = (match ts with
    | [] => x
    | _ => x ++ Str.ofString " " ++ Str.join (Str.ofString " ") (ts.map wordT)) := by
  intro ts
  induction ts generalizing x with
  | nil => rfl
  | cons t r ih =>
    show r.foldl addW (addW x t) = x ++ Str.ofString " " ++ Str.join (Str.ofString " ") (wordT t :: r.map wordT)
    have e : addW x t = x ++ Str.ofString " " ++ wordT t := by
      unfold addW wordT
      simp only [app_assoc]
    rw [ih, e]
    cases r with
    | nil => rfl
    | cons u r' =>
      show x ++ Str.ofString " " ++ wordT t ++ Str.ofString " " ++ Str.join (Str.ofString " ") ((u :: r').map wordT) = x ++ Str.ofString " " ++ (wordT t ++ Str.ofString " " ++ Str.join (Str.ofString " ") ((u :: r').map wordT))
      simp only [app_assoc]
theorem sp_colon : Str.ofString " :" = Str.ofString " " ++ Str.ofString ":" := by decide +kernel
theorem text_eq (w : Web) : w.ties.foldl addW (sN w.many ++ Str.ofString " :") = textW w := by
  rw [due_eq, sp_colon]
  unfold textW
  cases h : w.ties with
  | nil =>
    show sN w.many ++ (Str.ofString " " ++ Str.ofString ":") = sN w.many ++ Str.ofString " " ++ Str.ofString ":"
    rw [app_assoc]
  | cons t r =>
    show sN w.many ++ (Str.ofString " " ++ Str.ofString ":") ++ Str.ofString " " ++ Str.join (Str.ofString " ") ((t :: r).map wordT) = sN w.many ++ Str.ofString " " ++ (Str.ofString ":" ++ Str.ofString " " ++ Str.join (Str.ofString " ") ((t :: r).map wordT))
    simp only [app_assoc]
/-- a for over data, its state folded -/
theorem forL_fold {α β : Type} {e : α → D} {f : D → En → Option Fl} {g : β → α → β} (S : β → En → Prop) : ∀ (xs : List α) (b : β) (env : En), S b env → (∀ b x env, x ∈ xs → S b env → ∃ env', f (e x) env = some (.nx env') ∧ S (g b x) env') →
    ∃ env', forL f (xs.map e) env = some (.nx env') ∧ S (xs.foldl g b) env'
  | [], b, env, h, _ => ⟨env, rfl, h⟩
  | x :: r, b, env, h, hs => by
    obtain ⟨e1, h1, h2⟩ := hs b x env List.mem_cons_self h
    obtain ⟨e2, h3, h4⟩ := forL_fold S r (g b x) e1 h2 fun b y env hy => hs b y env (List.mem_cons_of_mem _ hy)
    refine ⟨e2, ?_, h4⟩
    rw [List.map_cons]
    unfold forL
    rw [h1]
    exact h3
end J

namespace J
open PySem
def bodyL2 : IS := (.seq (.set 2 (.bin .Add (.bin .Add (.bin .Add (.bin .Add (.bin .Add (.bin .Add (.bv 2) (.cs (Str.ofString " "))) (.bi .str (.cons (.bv 3) .nil))) (.cs (Str.ofString "-"))) (.bi .str (.cons (.bv 4) .nil))) (.cs (Str.ofString "="))) (.bi .str (.cons (.bv 5) .nil)))) .skip)
theorem law2_turn (Φ : Nat → List D → Option D) {w : Web} (hw : Wok w) (s0 : Sl) (b : Str × Nat) (t : T3) (env : En) (ht : t ∈ w.ties) (hI : b.1.length ≤ 100 * b.2 ∧ b.2 ≤ 200 ∧ ∃ s3 s4 s5, env = [s0, .val (encW w), .val (.str b.1), s3, s4, s5]) (hb : b.2 ≤ 100) :
    ∃ env', forB [3, 4, 5] (evS Φ bodyL2) (encT t) env = some (.nx env') ∧ ((addW b.1 t, b.2 + 1) : Str × Nat).1.length ≤ 100 * (b.2 + 1) ∧ b.2 + 1 ≤ 200 ∧ ∃ s3 s4 s5, env' = [s0, .val (encW w), .val (.str (addW b.1 t)), s3, s4, s5] := by
  obtain ⟨hl, hb2, s3, s4, s5, rfl⟩ := hI
  have h := hw.ok t ht
  have hm := hw.hi
  have a1 : t.1 < 100 := by have := h.1; have := h.2.1; omega
  have a2 : t.2.1 < 100 := by have := h.2.1; omega
  have a3 : t.2.2 < 100 := by have := h.2.2; omega
  have h1 := sN_len _ a1
  have h2 := sN_len _ a2
  have h3 := sN_len _ a3
  have lq := l1
  have e1 := biStr_n _ a1
  have e2 := biStr_n _ a2
  have e3 := biStr_n _ a3
  obtain ⟨x, k⟩ := b
  dsimp only at *
  have f0 : opAdd (.str x) (.str (Str.ofString " ")) = _ := add_str (by omega)
  have f1 : opAdd (.str (x ++ Str.ofString " ")) (.str (sN t.1)) = _ := add_str (by rw [app_len]; omega)
  have f2 : opAdd (.str (x ++ Str.ofString " " ++ sN t.1)) (.str (Str.ofString "-")) = _ := add_str (by rw [app_len, app_len]; omega)
  have f3 : opAdd (.str (x ++ Str.ofString " " ++ sN t.1 ++ Str.ofString "-")) (.str (sN t.2.1)) = _ := add_str (by rw [app_len, app_len, app_len]; omega)
  have f4 : opAdd (.str (x ++ Str.ofString " " ++ sN t.1 ++ Str.ofString "-" ++ sN t.2.1)) (.str (Str.ofString "=")) = _ := add_str (by rw [app_len, app_len, app_len, app_len]; omega)
  have f5 : opAdd (.str (x ++ Str.ofString " " ++ sN t.1 ++ Str.ofString "-" ++ sN t.2.1 ++ Str.ofString "=")) (.str (sN t.2.2)) = _ := add_str (by rw [app_len, app_len, app_len, app_len, app_len]; omega)
  simp only [forB, bodyL2, encT, bindT, bindEach, List.set_cons_zero, List.set_cons_succ, evS, evE, evA, getB, List.getElem?_cons_zero, List.getElem?_cons_succ, evBi, e1, e2, e3, opB, f0, f1, f2, f3, f4, f5]
  refine ⟨_, rfl, ?_, by omega, _, _, _, rfl⟩
  unfold addW
  rw [app_len, app_len, app_len, app_len, app_len, app_len]
  omega
theorem foldl_pair (ts : List T3) (x : Str) (k : Nat) : ts.foldl (fun (b : Str × Nat) t => (addW b.1 t, b.2 + 1)) (x, k) = (ts.foldl addW x, k + ts.length) := by
  induction ts generalizing x k with
  | nil => rfl
  | cons t r ih => rw [List.foldl_cons, List.foldl_cons, ih, List.length_cons]; congr 1; omega
theorem law2_for (Φ : Nat → List D → Option D) {w : Web} (hw : Wok w) (s0 s3 s4 s5 : Sl) {x : Str} (hx : x.length ≤ 100) :
    ∃ a b c, forL (forB [3, 4, 5] (evS Φ bodyL2)) (w.ties.map encT) [s0, .val (encW w), .val (.str x), s3, s4, s5] = some (.nx [s0, .val (encW w), .val (.str (w.ties.foldl addW x)), a, b, c]) := by
  have key : ∀ (ts : List T3) (x : Str) (k : Nat) (s3 s4 s5 : Sl), (∀ t ∈ ts, t ∈ w.ties) → x.length ≤ 100 * k → k + ts.length ≤ 50 → ∃ s3' s4' s5', forL (forB [3, 4, 5] (evS Φ bodyL2)) (ts.map encT) [s0, .val (encW w), .val (.str x), s3, s4, s5] = some (.nx [s0, .val (encW w), .val (.str (ts.foldl addW x)), s3', s4', s5']) := by
    intro ts
    induction ts with
    | nil => intro x k s3 s4 s5 _ _ _; exact ⟨s3, s4, s5, rfl⟩
    | cons t r ih =>
      intro x k s3 s4 s5 hs hl hk
      rw [List.length_cons] at hk
      obtain ⟨e1, h1, h2, h3, a, b, c, rfl⟩ := law2_turn Φ hw s0 (x, k) t _ (hs t List.mem_cons_self) ⟨hl, by show k ≤ 200; omega, s3, s4, s5, rfl⟩ (by show k ≤ 100; omega)
      obtain ⟨s3', s4', s5', h4⟩ := ih (addW x t) (k + 1) a b c (fun u hu => hs u (List.mem_cons_of_mem _ hu)) h2 (by omega)
      refine ⟨s3', s4', s5', ?_⟩
      rw [List.map_cons]
      unfold forL
      rw [h1]
      exact h4
  exact key w.ties x 1 s3 s4 s5 (fun _ h => h) (by omega) (by have := hw.len; omega)
theorem law_true (ns : List Int) (_ : ns.length ≤ 63) : Phi tab ext 60 5 [scr ns] = some (.bool true) := by
  show evF (Ph 59) fd5 [scr ns] = _
  obtain ⟨w, h1, hw⟩ := web 57 (mix ns 0) (mix_b ns 0).1
  have h0 := biStr_n w.many (by have := hw.hi; omega)
  have hs := sN_len w.many (by have := hw.hi; omega)
  have lq := l1
  have f0 : opAdd (.str (sN w.many)) (.str (Str.ofString " :")) = _ := add_str (by omega)
  obtain ⟨a, b, c, hf⟩ := law2_for (Ph 59) hw (.val (scr ns)) .no .no .no (x := sN w.many ++ Str.ofString " :") (by rw [app_len]; omega)
  have hmx : Ph 59 2 [scr ns, .int 0] = some (.int (mix ns 0)) := mixed 57 ns 0
  have hwr := written_ok 58 hw
  have eb : fd5.body = (.seq (.set 1 (.call 4 (.cons (.call 2 (.cons (.var 0) (.cons (.ci 0) .nil))) .nil))) (.seq (.set 2 (.bin .Add (.bi .str (.cons (.ix (.bv 1) (.ci 0)) .nil)) (.cs (Str.ofString " :")))) (.seq (.for_ [3, 4, 5] (.ix (.bv 1) (.ci 1)) bodyL2) (.seq (.ret (.cmp .Eq (.call 0 (.cons (.var 1) .nil)) (.bv 2))) .skip)))) := rfl
  unfold evF
  rw [if_pos (show [scr ns].length = fd5.bs.length from rfl), eb]
  simp only [fd5, start0, List.length_cons, List.length_nil, List.replicate_succ, List.replicate_zero, List.cons_append, List.nil_append, evS, evE, evI, evA, getB, getV, List.getElem?_cons_zero, List.getElem?_cons_succ, hmx, h1, ixW1, ixW0, itemsD, Option.map_some, List.set_cons_succ, List.set_cons_zero, evBi, h0, opB, f0, reduceIte, Nat.reduceAdd, Nat.reduceSub, Bool.false_eq_true, hf]
  simp only [text_eq, evR, evE, evA, getB, getV, List.getElem?_cons_zero, List.getElem?_cons_succ, hwr, opC, opEq, scalP, if_true, PyData.eqv, beq_self_eq_true, Option.map_some]
end J

namespace J
open PySem PySem.Spec PyProof.Rows L2
def topS (i : Nat) : Stmt := PySem.Challenge.pw_joinplaces_k02_written.main.body.getD i (.Pass ⟨0, 0, 0, 0⟩)
def rw : Rw := ⟨[("written", 0, [false]), ("_law_cell_at", 1, [false, false]), ("_law_mixed", 2, [false, false]), ("_law_drawn", 3, [false, false]), ("_law_web", 4, [false]), ("law", 5, [false])], ["len", "max", "min", "range", "str", "tuple"], []⟩
def nm0 : List Str := ["web", "ties", "one", "other", "price"]
theorem sc0 : FnScope nm0 ["web"] (defScope (topS 1)) := ⟨rfl, rfl, rfl, by decide +kernel, by decide +kernel, by decide +kernel, by decide +kernel⟩
theorem tr0 : blk (trS rw nm0 (trE rw nm0 40) (defScope (topS 1)) [] 40) nm0 [] (defBody (topS 1)) = some fd0.body := by kernel_rfl
def nm1 : List Str := ["script", "k"]
theorem sc1 : FnScope nm1 ["script", "k"] (defScope (topS 3)) := ⟨rfl, rfl, rfl, by decide +kernel, by decide +kernel, by decide +kernel, by decide +kernel⟩
theorem tr1 : blk (trS rw nm1 (trE rw nm1 40) (defScope (topS 3)) [] 40) nm1 [] (defBody (topS 3)) = some fd1.body := by kernel_rfl
def nm2 : List Str := ["script", "k", "drawn"]
theorem sc2 : FnScope nm2 ["script", "k"] (defScope (topS 4)) := ⟨rfl, rfl, rfl, by decide +kernel, by decide +kernel, by decide +kernel, by decide +kernel⟩
theorem tr2 : blk (trS rw nm2 (trE rw nm2 40) (defScope (topS 4)) [] 40) nm2 [] (defBody (topS 4)) = some fd2.body := by kernel_rfl
def nm3 : List Str := ["number", "k", "drawn"]
theorem sc3 : FnScope nm3 ["number", "k"] (defScope (topS 5)) := ⟨rfl, rfl, rfl, by decide +kernel, by decide +kernel, by decide +kernel, by decide +kernel⟩
theorem tr3 : blk (trS rw nm3 (trE rw nm3 40) (defScope (topS 5)) [] 40) nm3 [] (defBody (topS 5)) = some fd3.body := by kernel_rfl
def nm4 : List Str := ["number", "many", "high", "ties", "place", "drawn", "k", "one", "other", "by"]
theorem sc4 : FnScope nm4 ["number"] (defScope (topS 6)) := ⟨rfl, rfl, rfl, by decide +kernel, by decide +kernel, by decide +kernel, by decide +kernel⟩
theorem tr4 : blk (trS rw nm4 (trE rw nm4 40) (defScope (topS 6)) [3] 40) nm4 [3] (defBody (topS 6)) = some fd4.body := by kernel_rfl
def nm5 : List Str := ["script", "web", "due", "one", "other", "price"]
theorem sc5 : FnScope nm5 ["script"] (defScope (topS 8)) := ⟨rfl, rfl, rfl, by decide +kernel, by decide +kernel, by decide +kernel, by decide +kernel⟩
theorem tr5 : blk (trS rw nm5 (trE rw nm5 40) (defScope (topS 8)) [] 40) nm5 [] (defBody (topS 8)) = some fd5.body := by kernel_rfl
def dd (x : Str) (i : Nat) : He.DefD := ⟨(x, none), x, x, defArgs (topS i), defBody (topS i), defScope (topS i), [], []⟩
def fn : List He.DefD := [dd "written" 1, dd "_law_cell_at" 3, dd "_law_mixed" 4, dd "_law_drawn" 5, dd "_law_web" 6, dd "law" 8]
def fa : List He.Fa := [.glo "written", .glo "_law_cell_at", .glo "_law_mixed", .glo "_law_drawn", .glo "_law_web", .glo "law", .free "len", .free "max", .free "min", .free "range", .free "str", .free "tuple"]
abbrev Rr : PySem.W.OpenRow := PySem.W.OpenLaw.row PySem.Challenge.rw_joinplaces_k02_written
abbrev hk : PySem.W.Hook := He.hookD 4 fa fn
def ob (s : PySem.W.SharedT) : He.AlD := He.obsDG 4 fa fn (HandSHeadRun.getT s)
theorem ob_eq (s : PySem.W.SharedT) : ob s = hk.obs s.abs := He.obsDG_eq (HandSHeadRun.getT_eq s)
def loose : List Str := (["written", "_law_cell_at", "_law_mixed", "_law_drawn", "_law_web", "_law_ends"] : List Str)
theorem run (w : World) : HandSHeadRun.RunEq Rr (PySem.W.view Rr.prog [8]) hk ob 6000 loose w := by
  intro os
  kernel_rfl
theorem facts {P : Program} {w : World} {K : PySem.W.Frag} {h : Heap} {mg : Str → Option Value} {f : Addr} (hlaw : ∀ ns : List Int, ns.length ≤ 63 → Phi tab ext 60 5 [scr ns] = some (.bool true)) (X : K.In h) (G : h.Ns mainGlobals mg) (hfa : mg ("law" : Str) = some (.ref f)) (c : He.SaysD fa fn K) :
    ∃ (fd : FuncData) (sp : Sp), (∀ (s : Shared) (v : Value), BindsTo s fd ⟨[v], []⟩ [("script", v)]) ∧ (∀ (H : Hp) (a : Addr) (ns : List Int), ns.length ≤ 63 → SqL K H a (ns.map V.int) → sp [.ref a] H (fun v _ => v = .bl true) fun _ _ _ => False) ∧ ∀ base : Heap, K.In base → base.Ns mainGlobals mg → FnOk P w K mg base CX0 60 f fd ["script"] sp := by
  obtain ⟨g0, F0⟩ := c.def_ 0 (d := dd "written" 1) rfl
  have m0 : mg "written" = some (.ref (He.ga K "written")) := He.glo_ok X G (c.fact 0 (f := .glo "written") rfl)
  have b0 : Binds K g0 ["web"] [] := FunD.bindsN F0 fun _ _ _ _ _ _ us hl => match us, hl with | [_], _ => rfl
  obtain ⟨g1, F1⟩ := c.def_ 1 (d := dd "_law_cell_at" 3) rfl
  have m1 : mg "_law_cell_at" = some (.ref (He.ga K "_law_cell_at")) := He.glo_ok X G (c.fact 1 (f := .glo "_law_cell_at") rfl)
  have b1 : Binds K g1 ["script", "k"] [] := FunD.bindsN F1 fun _ _ _ _ _ _ us hl => match us, hl with | [_, _], _ => rfl
  obtain ⟨g2, F2⟩ := c.def_ 2 (d := dd "_law_mixed" 4) rfl
  have m2 : mg "_law_mixed" = some (.ref (He.ga K "_law_mixed")) := He.glo_ok X G (c.fact 2 (f := .glo "_law_mixed") rfl)
  have b2 : Binds K g2 ["script", "k"] [] := FunD.bindsN F2 fun _ _ _ _ _ _ us hl => match us, hl with | [_, _], _ => rfl
  obtain ⟨g3, F3⟩ := c.def_ 3 (d := dd "_law_drawn" 5) rfl
  have m3 : mg "_law_drawn" = some (.ref (He.ga K "_law_drawn")) := He.glo_ok X G (c.fact 3 (f := .glo "_law_drawn") rfl)
  have b3 : Binds K g3 ["number", "k"] [] := FunD.bindsN F3 fun _ _ _ _ _ _ us hl => match us, hl with | [_, _], _ => rfl
  obtain ⟨g4, F4⟩ := c.def_ 4 (d := dd "_law_web" 6) rfl
  have m4 : mg "_law_web" = some (.ref (He.ga K "_law_web")) := He.glo_ok X G (c.fact 4 (f := .glo "_law_web") rfl)
  have b4 : Binds K g4 ["number"] [] := FunD.bindsN F4 fun _ _ _ _ _ _ us hl => match us, hl with | [_], _ => rfl
  obtain ⟨g5, F5⟩ := c.def_ 5 (d := dd "law" 8) rfl
  have m5 : mg "law" = some (.ref (He.ga K "law")) := He.glo_ok X G (c.fact 5 (f := .glo "law") rfl)
  have b5 : Binds K g5 ["script"] [] := FunD.bindsN F5 fun _ _ _ _ _ _ us hl => match us, hl with | [_], _ => rfl
  have hfr : ∀ x ∈ rw.frs, mg x = none := by
    intro x hx
    simp only [rw, List.mem_cons, List.not_mem_nil, or_false] at hx
    rcases hx with rfl | rfl | rfl | rfl | rfl | rfl
    · exact He.free_ok X G (c.fact 6 (f := .free "len") rfl)
    · exact He.free_ok X G (c.fact 7 (f := .free "max") rfl)
    · exact He.free_ok X G (c.fact 8 (f := .free "min") rfl)
    · exact He.free_ok X G (c.fact 9 (f := .free "range") rfl)
    · exact He.free_ok X G (c.fact 10 (f := .free "str") rfl)
    · exact He.free_ok X G (c.fact 11 (f := .free "tuple") rfl)
  have hcs : ∀ p ∈ rw.cst, ∃ v u d, mg p.1 = some u ∧ L2.RelV v u ∧ (∀ H, Dr K H v d) ∧ ∀ Φ env, evE Φ p.2 env = some d := by
    intro p hp
    exact absurd hp (by simp [rw])
  have e := hfa.symm.trans m5
  cases e
  refine ⟨g5, spF K [false] (Phi tab ext 60 5), fun s v => FunD.bindsA (ps := ["script"]) F5 (fun _ _ _ _ _ _ us hl => match us, hl with | [_], _ => rfl) s [v] rfl, fun H a ns hl hS => law_sp (hlaw ns hl) hS, fun base hb hg => ?_⟩
  have hd : ∀ p ∈ rw.fns, DefOk P w K mg base rw tab ext p := by
    intro p hp
    simp only [rw, List.mem_cons, List.not_mem_nil, or_false] at hp
    rcases hp with rfl | rfl | rfl | rfl | rfl | rfl
    · exact def_ok F0 m0 b0 sc0 rfl tr0 rfl rfl
    · exact def_ok F1 m1 b1 sc1 rfl tr1 rfl rfl
    · exact def_ok F2 m2 b2 sc2 rfl tr2 rfl rfl
    · exact def_ok F3 m3 b3 sc3 rfl tr3 rfl rfl
    · exact def_ok F4 m4 b4 sc4 rfl tr4 rfl rfl
    · exact def_ok F5 m5 b5 sc5 rfl tr5 rfl rfl
  have A := all_ok hd hfr hcs 60 [] (defScope (topS 0)) List.nodup_nil
  obtain ⟨f', fd', ps', h1, h2, h3, h4⟩ := (A.fn ("law", 5, [false]) (by simp [rw])).ex
  exact (def_level (level := 59) F5 m5 b5 sc5 rfl tr5 rfl rfl (all_ok hd hfr hcs 59))
end J
open PySem PySem.W PySem.Calls PyProof.Rows
set_option maxHeartbeats 0 in
theorem PySem.Challenge.cw_joinplaces_k02_written_holds : PySem.Challenge.rw_joinplaces_k02_written.Holds := by
  w_on; o_law
  refine HandSHeadRun.head_any (r := OpenLaw.row PySem.Challenge.rw_joinplaces_k02_written) (q := view (OpenLaw.row PySem.Challenge.rw_joinplaces_k02_written).prog [8]) (H := J.hk) (ob := J.ob) (M := 6000) (loose := J.loose) (d := HandSHeadRun.topDef (OpenLaw.row PySem.Challenge.rw_joinplaces_k02_written).prog 8) (kwd := []) J.ob_eq
    (by kernel_rfl) (fun s => by kernel_rfl) J.run (by kernel_rfl) (by kernel_rfl) (by kernel_rfl) (by rfl) (by first | assumption | decide +kernel) (by decide +kernel) ⟨rfl, rfl, rfl, rfl, rfl, by decide +kernel⟩ ?hw ?hc
  case hw => w_witness2
  case hc =>
    refine L2.walk_ofE (l := PySem.Challenge.rw_joinplaces_k02_written) (n := 63) (k := 60) (x := "script") (CX := L2.CX0) rfl (by decide) (by kernel_rfl) ⟨rfl, by decide, by decide⟩ ?F (fun _ _ _ _ z => z)
    intro w mg fa h Y G hmg0
    obtain ⟨K, KX, c⟩ := Y
    have hmg : mg ("law" : PySem.Str) = some (.ref fa) := by
      have e : (HandSHeadRun.topDef (OpenLaw.row PySem.Challenge.rw_joinplaces_k02_written).prog 8).name = ("law" : PySem.Str) := by kernel_rfl
      rw [← e]
      exact hmg0
    obtain ⟨fd, sp, hb, hs, hF⟩ := J.facts (P := (PySem.Challenge.rw_joinplaces_k02_written).prog) (w := w) J.law_true KX G hmg c
    exact ⟨K, fd, sp, KX, hb, fun H a ns hl _ hS => hs H a ns hl hS, hF⟩
