import PyProof.Rows.All
import Wide.All
import OpenK.AllK
import Wide.FinOn
import HandS.ForMost
import HandS.Conv
import HandS.Strs
import HandS.TupAny
import HandS.TupMul
import HandS.Style
import HandS.IsInst
import HandS.Zip
import HandS.SortInts
import HandS.SetFor
import HandS.Wide
import HandS.More
import HandS.Defaults
import HandS.Lambda
import HandS.HeadWalk
import HandS.Head0
import HandS.Head1
import HandS.Head2
import HandS.HeadEnd
import HandS.HeadHook1
import HandS.HeadHook2
import KE.GoesEnum
import HandS.Exc
import HandS.ExcOwn
import HandS.ExcIs
import HandS.WordsExc
import KE.SortData
import KE.KDictSum
import PyProof.CompFree
import KE.KSortKeySt
import PySem.Challenge.RW_joinplaces_k70_whole_webs_changed
set_option Elab.async false
set_option linter.all false
set_option maxRecDepth 100000
set_option maxHeartbeats 8000000
set_option autoImplicit false
/-! Data in a heap; the little language and what it evaluates to. -/
namespace J
open PySem PySem.Spec PyProof.Rows L2
abbrev D := PyData

/-! ### how a value stands for data -/
mutual
inductive Dr (K : PySem.W.Frag) (H : Hp) : V → D → Prop
  | non : Dr K H .non .none
  | bl (b : Bool) : Dr K H (.bl b) (.bool b)
  | int (i : Int) : Dr K H (.int i) (.int i)
  | str (x : Str) : Dr K H (.str x) (.str x)
  | lst {a : Addr} {xs : List V} {ds : List D} : H a = some (.lst xs) → DrA K H xs ds → Dr K H (.ref a) (.list ds)
  | tup {a : Addr} {xs : List V} {ds : List D} : H a = some (.tup xs) → DrA K H xs ds → Dr K H (.ref a) (.tuple ds)
  | scr {a : Addr} {ns : List Int} : SqL K H a (ns.map V.int) → Dr K H (.ref a) (.dict (ns.map fun n => (.int n, .none)))
inductive DrA (K : PySem.W.Frag) (H : Hp) : List V → List D → Prop
  | nil : DrA K H [] []
  | cons {v : V} {vs : List V} {d : D} {ds : List D} : Dr K H v d → DrA K H vs ds → DrA K H (v :: vs) (d :: ds)
end
/-! ### heaps that stay, but for the tables of code objects -/
/-- a table of code objects -/
def tbO : HO → Bool
  | .tbl _ => true
  | _ => false
/-- the def that makes a lambda, the lambda's name -/
def lamF : Str := "law"
def lamQ : Str := "law.<locals>.<lambda>"
structure Same (H H' : Hp) : Prop where
  ext : ∀ b o, H b = some o → tbO o = false → H' b = some o
  tbs : ∀ b ps, H b = some (.tbl ps) → ∃ qs, H' b = some (.tbl qs)
  tab : ∀ b, LamX.TabS H b lamQ → LamX.TabS H' b lamQ
theorem Same.at {H H' : Hp} {b : Addr} {o : HO} (e : Same H H') (h : H b = some o) (ho : tbO o = false := by rfl) : H' b = some o := e.ext b o h ho
theorem Same.of {H H' : Hp} (h : ∀ b o, H b = some o → H' b = some o) : Same H H' where
  ext := fun b o e _ => h b o e
  tbs := fun b ps e => ⟨ps, h b _ e⟩
  tab := fun b t => t.ext h
theorem Same.refl (H : Hp) : Same H H := ⟨fun _ _ h _ => h, fun _ ps h => ⟨ps, h⟩, fun _ t => t⟩
theorem Same.trans {H H1 H2 : Hp} (a : Same H H1) (b : Same H1 H2) : Same H H2 := ⟨fun c o h n => b.ext c o (a.ext c o h n) n, fun c ps h => let ⟨_, h1⟩ := a.tbs c ps h; b.tbs c _ h1, fun c t => b.tab c (a.tab c t)⟩
theorem Same.free {H H' : Hp} (e : Same H H') {l : Addr} (h : H' l = Option.none) : H l = Option.none := by
  cases q : H l with
  | none => rfl
  | some o =>
    cases o with
    | tbl ps => obtain ⟨qs, z⟩ := e.tbs l ps q; rw [z] at h; cases h
    | _ => rw [e.at q] at h; cases h
/-- a thing of an unlisted kind -/
def exO : Option HO → Bool
  | some (.ext _) => true
  | _ => false
/-- what is new since H is written -/
theorem Same.upd {H H1 : Hp} {p : Addr} {o : HO} (e : Same H H1) (h0 : H p = none) (hx : exO (H1 p) = false) : Same H (upd H1 p o) where
  ext := fun b u q n => by rw [upd_ne (ne_of_none q h0)]; exact e.ext b u q n
  tbs := fun b ps q => by rw [upd_ne (ne_of_none q h0)]; exact e.tbs b ps q
  tab := fun b t => by
    have hb : b ≠ p := fun z => by obtain ⟨_, q, _⟩ := t; rw [z, h0] at q; cases q
    obtain ⟨ps, q1, q2, q3⟩ := e.tab b t
    refine ⟨ps, by rw [upd_ne hb]; exact q1, q2, fun pos cv hc => ?_⟩
    obtain ⟨c, e1, e2⟩ := q3 pos cv hc
    refine ⟨c, e1, ?_⟩
    rw [upd_ne fun z => by rw [← z, e2] at hx; cases hx]
    exact e2
theorem Same.seq {K : PySem.W.Frag} {H H' : Hp} {a : Addr} {xs : List V} (e : Same H H') (h : SqL K H a xs) : SqL K H' a xs := by
  rcases h with (h | ⟨o, h⟩) | h
  · exact .inl (.inl (e.at h))
  · exact .inl (.inr ⟨o, e.at h⟩)
  · exact .inr h
/-- the tables of the def that makes a lambda -/
def tabP (K : PySem.W.Frag) : List Addr := match K.lookup (He.ga K lamF) with
  | some o => (match o.data with
    | .func fd => (match fd.code with
      | .ref c => (match K.lookup c with
        | some oc => (match oc.data with
          | .fields vs => (match (vs[11]? : Option Value) with
            | some (Value.ref p) => [p]
            | _ => [])
          | _ => [])
        | none => [])
      | _ => [])
    | _ => [])
  | none => []
def TabOk (K : PySem.W.Frag) (H : Hp) : Prop := ∀ b ∈ tabP K, LamX.TabS H b lamQ
theorem TabOk.mono {K : PySem.W.Frag} {H H' : Hp} (t : TabOk K H) (e : Same H H') : TabOk K H' := fun b hb => e.tab b (t b hb)
/-- neither a table nor a thing of an unlisted kind -/
def okW : Option HO → Bool
  | some (.ext _) => false
  | some (.tbl _) => false
  | _ => true
theorem tabS_upd {H : Hp} {p b : Addr} {o : HO} (t : LamX.TabS H b lamQ) (hx : okW (H p) = true) : LamX.TabS (upd H p o) b lamQ := by
  obtain ⟨ps, q1, q2, q3⟩ := t
  refine ⟨ps, by rw [upd_ne fun z => by rw [← z, q1] at hx; cases hx]; exact q1, q2, fun pos cv hc => ?_⟩
  obtain ⟨c, e1, e2⟩ := q3 pos cv hc
  refine ⟨c, e1, ?_⟩
  rw [upd_ne fun z => by rw [← z, e2] at hx; cases hx]
  exact e2
theorem TabOk.upd {K : PySem.W.Frag} {H : Hp} {p : Addr} {o : HO} (t : TabOk K H) (hx : okW (H p) = true) : TabOk K (upd H p o) := fun b hb => tabS_upd (t b hb) hx
theorem same_sqL {K : PySem.W.Frag} {H H' : Hp} {a : Addr} {xs : List V} (e : Same H H') (h : SqL K H a xs) : SqL K H' a xs := e.seq h
mutual
theorem Dr.mono {K : PySem.W.Frag} {H H' : Hp} (e : Same H H') : ∀ (d : D) {v : V}, Dr K H v d → Dr K H' v d
  | .none, _, h => by cases h; exact .non
  | .bool _, _, h => by cases h; exact .bl _
  | .int _, _, h => by cases h; exact .int _
  | .str _, _, h => by cases h; exact .str _
  | .list ds, _, h => by
    cases h with
    | lst h1 h2 => exact .lst (e.at h1) (DrA.mono e ds h2)
  | .tuple ds, _, h => by
    cases h with
    | tup h1 h2 => exact .tup (e.at h1) (DrA.mono e ds h2)
  | .dict _, _, h => by
    cases h with
    | scr h1 => exact .scr (same_sqL e h1)
theorem DrA.mono {K : PySem.W.Frag} {H H' : Hp} (e : Same H H') : ∀ (ds : List D) {vs : List V}, DrA K H vs ds → DrA K H' vs ds
  | [], _, h => by cases h; exact .nil
  | d :: ds, _, h => by
    cases h with
    | cons h1 h2 => exact .cons (Dr.mono e d h1) (DrA.mono e ds h2)
end
section
variable {K : PySem.W.Frag} {H H' : Hp}
theorem DrA.len : ∀ {vs : List V} {ds : List D}, DrA K H vs ds → vs.length = ds.length
  | _, [], h => by cases h; rfl
  | _, d :: ds, h => by
    cases h with
    | cons _ h2 => rw [List.length_cons, List.length_cons, DrA.len h2]
theorem DrA.get : ∀ {vs : List V} {ds : List D} {i : Nat} {d : D}, DrA K H vs ds → ds[i]? = some d → ∃ v, vs[i]? = some v ∧ Dr K H v d
  | _, [], _, _, h, e => by simp at e
  | _, d :: ds, 0, _, h, e => by
    cases h with
    | cons h1 _ => simp at e; subst e; exact ⟨_, rfl, h1⟩
  | _, d :: ds, i + 1, _, h, e => by
    cases h with
    | cons _ h2 =>
      obtain ⟨v, e1, h1⟩ := DrA.get (i := i) h2 (by simpa using e)
      exact ⟨v, by simpa using e1, h1⟩
theorem DrA.app : ∀ {vs ws : List V} {ds es : List D}, DrA K H vs ds → DrA K H ws es → DrA K H (vs ++ ws) (ds ++ es)
  | _, _, [], _, h, h' => by cases h; exact h'
  | _, _, d :: ds, _, h, h' => by
    cases h with
    | cons h1 h2 => exact .cons h1 (DrA.app h2 h')
theorem DrA.take : ∀ {vs : List V} {ds : List D} (n : Nat), DrA K H vs ds → DrA K H (vs.take n) (ds.take n)
  | _, _, 0, _ => by simpa using DrA.nil
  | _, [], n + 1, h => by cases h; simpa using DrA.nil
  | _, d :: ds, n + 1, h => by
    cases h with
    | cons h1 h2 => exact .cons h1 (DrA.take n h2)
theorem DrA.drop : ∀ {vs : List V} {ds : List D} (n : Nat), DrA K H vs ds → DrA K H (vs.drop n) (ds.drop n)
  | _, _, 0, h => h
  | _, [], n + 1, h => by cases h; simpa using DrA.nil
  | _, d :: ds, n + 1, h => by
    cases h with
    | cons _ h2 => exact DrA.drop n h2
theorem DrA.rev {vs : List V} {ds : List D} (h : DrA K H vs ds) : DrA K H vs.reverse ds.reverse := by
  induction ds generalizing vs with
  | nil => cases h; exact .nil
  | cons d ds ih =>
    cases h with
    | cons h1 h2 =>
      rw [List.reverse_cons, List.reverse_cons]
      exact DrA.app (ih h2) (.cons h1 .nil)
theorem DrA.rep {vs : List V} {ds : List D} (h : DrA K H vs ds) : ∀ n : Nat, DrA K H (List.replicate n vs).flatten (List.replicate n ds).flatten
  | 0 => .nil
  | n + 1 => by
    rw [List.replicate_succ, List.replicate_succ, List.flatten_cons, List.flatten_cons]
    exact DrA.app h (DrA.rep h n)
theorem DrA.set {v : V} {d : D} (hv : Dr K H v d) : ∀ {vs : List V} {ds : List D} (i : Nat), DrA K H vs ds → DrA K H (vs.set i v) (ds.set i d)
  | _, [], _, h => by cases h; exact .nil
  | _, e :: ds, 0, h => by
    cases h with
    | cons _ h2 => exact .cons hv h2
  | _, e :: ds, i + 1, h => by
    cases h with
    | cons h1 h2 => exact .cons h1 (DrA.set hv i h2)
theorem DrA.ints : ∀ ns : List Int, DrA K H (ns.map V.int) (ns.map PyData.int)
  | [] => .nil
  | n :: ns => .cons (.int n) (DrA.ints ns)
theorem DrA.strs : ∀ ns : List Str, DrA K H (ns.map V.str) (ns.map PyData.str)
  | [] => .nil
  | n :: ns => .cons (.str n) (DrA.strs ns)
/-- data that are ints: so are the values -/
theorem DrA.ofInts : ∀ {ns : List Int} {vs : List V}, DrA K H vs (ns.map PyData.int) → vs = ns.map V.int
  | [], _, h => by cases h; rfl
  | n :: ns, _, h => by
    cases h with
    | cons h1 h2 => cases h1; rw [DrA.ofInts h2]; rfl
theorem DrA.ofStrs : ∀ {ns : List Str} {vs : List V}, DrA K H vs (ns.map PyData.str) → vs = ns.map V.str
  | [], _, h => by cases h; rfl
  | n :: ns, _, h => by
    cases h with
    | cons h1 h2 => cases h1; rw [DrA.ofStrs h2]; rfl
theorem DrA.ofBls : ∀ {ns : List Bool} {vs : List V}, DrA K H vs (ns.map PyData.bool) → vs = ns.map V.bl
  | [], _, h => by cases h; rfl
  | n :: ns, _, h => by
    cases h with
    | cons h1 h2 => cases h1; rw [DrA.ofBls h2]; rfl
mutual
theorem Dr.dp : ∀ (d : D) {v : V}, SeqAt.shaped d = true → Dr K H v d → Dp K H v d
  | .none, _, _, h => by cases h; exact .non
  | .bool _, _, _, h => by cases h; exact .bl _
  | .int _, _, _, h => by cases h; exact .int _
  | .str _, _, _, h => by cases h; exact .str _
  | .list ds, _, hs, h => by
    cases h with
    | lst h1 h2 => exact .lst (.inl (.inl h1)) (DrA.dp ds (by have := SeqAt.canLay_of_shaped hs; simpa [PyData.canLay0] using this) h2)
  | .tuple ds, _, hs, h => by
    cases h with
    | tup h1 h2 => exact .tup (.inl (.inl h1)) (DrA.dp ds (by have := SeqAt.canLay_of_shaped hs; simpa [PyData.canLay0] using this) h2)
  | .dict _, _, hs, h => by have := SeqAt.canLay_of_shaped hs; simp [PyData.canLay0] at this
theorem DrA.dp : ∀ (ds : List D) {vs : List V}, PyData.canLayAll0 ds = true → DrA K H vs ds → DpAll K H vs ds
  | [], _, _, h => by cases h; exact .nil
  | d :: ds, _, hs, h => by
    cases h with
    | cons h1 h2 =>
      have h3 : d.canLay0 = true ∧ PyData.canLayAll0 ds = true := by simpa [PyData.canLayAll0] using hs
      exact .cons (Dr.dpc d h3.1 h1) (DrA.dp ds h3.2 h2)
theorem Dr.dpc : ∀ (d : D) {v : V}, d.canLay0 = true → Dr K H v d → Dp K H v d
  | .none, _, _, h => by cases h; exact .non
  | .bool _, _, _, h => by cases h; exact .bl _
  | .int _, _, _, h => by cases h; exact .int _
  | .str _, _, _, h => by cases h; exact .str _
  | .list ds, _, hs, h => by
    cases h with
    | lst h1 h2 => exact .lst (.inl (.inl h1)) (DrA.dp ds (by simpa [PyData.canLay0] using hs) h2)
  | .tuple ds, _, hs, h => by
    cases h with
    | tup h1 h2 => exact .tup (.inl (.inl h1)) (DrA.dp ds (by simpa [PyData.canLay0] using hs) h2)
  | .dict _, _, hs, h => by simp [PyData.canLay0] at hs
end
end

/-! ### the heap without some addresses -/
/-- tables are not looked at -/
def hdT : Option HO → Option HO
  | some (.tbl _) => none
  | o => o
def mi (H : Hp) (O : List Addr) : Hp := fun b => if b ∈ O then none else hdT (H b)
/-- something other than a tuple -/
def ntO : Option HO → Bool
  | none => false
  | some (.tup _) => false
  | some _ => true
structure Al (K : PySem.W.Frag) (O : List Addr) (H : Hp) : Prop where
  nt : ∀ a ∈ O, ntO (H a) = true
  tb : TabOk K H
theorem hdT_some {o : Option HO} {u : HO} : hdT o = some u ↔ o = some u ∧ tbO u = false := by
  constructor
  · intro h
    cases o with
    | none => cases h
    | some x =>
      cases x with
      | tbl ps => cases h
      | _ => cases h; exact ⟨rfl, rfl⟩
  · rintro ⟨rfl, h⟩
    cases u with
    | tbl ps => cases h
    | _ => rfl
section
variable {K : PySem.W.Frag} {H H' : Hp} {O : List Addr} {a p : Addr} {o : HO}
theorem mi_some {b : Addr} {u : HO} : mi H O b = some u ↔ b ∉ O ∧ H b = some u ∧ tbO u = false := by
  unfold mi
  split
  · rename_i h
    refine ⟨fun z => ?_, fun z => absurd h z.1⟩
    cases z
  · rename_i h
    rw [hdT_some]
    exact ⟨fun z => ⟨h, z⟩, fun z => z.2⟩
theorem mi_lt {b : Addr} {u : HO} (e : mi H O b = some u) : H b = some u := (mi_some.mp e).2.1
theorem mi_le : Same (mi H O) H := .of fun b u e => mi_lt e
/-- between heaps without tables -/
theorem mi_of {O' : List Addr} (h : ∀ b u, b ∉ O → H b = some u → tbO u = false → b ∉ O' ∧ H' b = some u) : Same (mi H O) (mi H' O') := .of fun b u e => by
  obtain ⟨e1, e2, e3⟩ := mi_some.mp e
  obtain ⟨f1, f2⟩ := h b u e1 e2 e3
  exact mi_some.mpr ⟨f1, f2, e3⟩
theorem mi_same (h : Same H H') : Same (mi H O) (mi H' O) := mi_of fun b u e1 e2 e3 => ⟨e1, h.ext b u e2 e3⟩
theorem Al.mono (h : Al K O H) (e : Same H H') : Al K O H' where
  nt := fun a ha => by
    have := h.nt a ha
    cases q : H a with
    | none => rw [q] at this; cases this
    | some o =>
      cases o with
      | tbl ps => obtain ⟨qs, z⟩ := e.tbs a ps q; rw [z]; rfl
      | _ => rw [e.at q]; rw [q] at this; exact this
  tb := h.tb.mono e
theorem Al.out (h : Al K O H) (hp : H p = none) : p ∉ O := fun z => by have := h.nt p z; rw [hp] at this; cases this
theorem Al.tup (h : Al K O H) {xs : List V} (hp : H p = some (.tup xs)) : p ∉ O := fun z => by have := h.nt p z; rw [hp] at this; cases this
theorem mi_out (h : a ∉ O) : mi H O a = hdT (H a) := by unfold mi; rw [if_neg h]
theorem mi_upd (h : p ∉ O) (ho : tbO o = false := by rfl) : mi (upd H p o) O = upd (mi H O) p o := by
  funext b
  unfold mi upd
  by_cases hb : b = p
  · subst hb; rw [if_neg h, if_pos rfl, if_pos rfl]; exact hdT_some.mpr ⟨rfl, ho⟩
  · rw [if_neg hb, if_neg hb]
theorem same_upd (h : H p = none) : Same H (upd H p o) := .of fun b x e => by
  rw [upd_ne (ne_of_none e h)]
  exact e
theorem mi_sub {O' : List Addr} (h : ∀ a ∈ O', a ∈ O) : Same (mi H O) (mi H O') := mi_of fun b u e1 e2 _ => ⟨fun z => e1 (h b z), e2⟩
theorem mi_new (hp : H p = none) (h : Al K O H) : Same (mi H O) (mi (upd H p o) (p :: O)) := mi_of fun b u e1 e2 _ => by
  have hb : b ≠ p := ne_of_none e2 hp
  exact ⟨by simp only [List.mem_cons, not_or]; exact ⟨hb, e1⟩, by rw [upd_ne hb]; exact e2⟩
/-- a dict whose keys are tuples of ints, as data; an object, as data -/
def dtD (es : List (List Int × D)) : D := .dict ((.none, .none) :: es.map fun p => (.tuple (p.1.map .int), p.2))
def obD (fs : List (Str × D)) : D := .dict (fs.map fun p => (.str p.1, p.2))
/-- data that are neither a script nor plain -/
def objD : List (D × D) → Bool
  | [] => false
  | (.int _, _) :: _ => false
  | _ => true
theorem objD_scr (ns : List Int) : objD (ns.map fun n => ((.int n, .none) : D × D)) = false := by cases ns <;> rfl
def DtR (K : PySem.W.Frag) (O : List Addr) (H : Hp) (v : V) (d : D) : Prop :=
  ∃ a kvs es, v = .ref a ∧ d = dtD es ∧ H a = some (.dT kvs) ∧ kvs.map (·.1) = es.map (fun p => p.1.map Sum.inl) ∧ DrA K (mi H O) (kvs.map (·.2)) (es.map (·.2))
/-- a value at the top: strictly, or a list that may be owned while its items are strict -/
def Tp0 (K : PySem.W.Frag) (O : List Addr) (H : Hp) (v : V) (d : D) : Prop :=
  Dr K (mi H O) v d ∨ (∃ a vs ds, v = .ref a ∧ d = .list ds ∧ H a = some (.lst vs) ∧ DrA K (mi H O) vs ds) ∨ DtR K O H v d
def ObR (K : PySem.W.Frag) (O : List Addr) (H : Hp) (v : V) (d : D) : Prop :=
  ∃ x C dx vs fs, v = .ref x ∧ d = obD fs ∧ fs ≠ [] ∧ H x = some (.ins C dx vs) ∧ Cls K C ∧ ∀ p ∈ fs, NoAttr K C p.1 ∧ ∃ u, vs.lookup p.1 = some u ∧ Tp0 K O H u p.2
def Tp (K : PySem.W.Frag) (O : List Addr) (H : Hp) (v : V) (d : D) : Prop :=
  Dr K (mi H O) v d ∨ (∃ a vs ds, v = .ref a ∧ d = .list ds ∧ H a = some (.lst vs) ∧ DrA K (mi H O) vs ds) ∨ DtR K O H v d ∨ ObR K O H v d
theorem Tp.of {v : V} {d : D} (h : Dr K (mi H O) v d) : Tp K O H v d := .inl h
theorem Tp0.tp {v : V} {d : D} (h : Tp0 K O H v d) : Tp K O H v d := by
  rcases h with h | h | h
  · exact .inl h
  · exact .inr (.inl h)
  · exact .inr (.inr (.inl h))
/-- what is at other addresses, or was there -/
theorem Tp0.mono' {O' : List Addr} {v : V} {d : D} (h : Tp0 K O H v d) (e : Same H H') (e' : Same (mi H O) (mi H' O')) : Tp0 K O' H' v d := by
  rcases h with h | ⟨a, vs, ds, e1, e2, h1, h2⟩ | ⟨a, kvs, es, e1, e2, h1, h2, h3⟩
  · exact .inl (Dr.mono e' d h)
  · exact .inr (.inl ⟨a, vs, ds, e1, e2, e.at h1, DrA.mono e' ds h2⟩)
  · exact .inr (.inr ⟨a, kvs, es, e1, e2, e.at h1, h2, DrA.mono e' _ h3⟩)
theorem Tp.mono' {O' : List Addr} {v : V} {d : D} (h : Tp K O H v d) (e : Same H H') (e' : Same (mi H O) (mi H' O')) : Tp K O' H' v d := by
  rcases h with h | ⟨a, vs, ds, e1, e2, h1, h2⟩ | ⟨a, kvs, es, e1, e2, h1, h2, h3⟩ | ⟨x, C, dx, vs, fs, e1, e2, e3, h1, h2, h3⟩
  · exact .inl (Dr.mono e' d h)
  · exact .inr (.inl ⟨a, vs, ds, e1, e2, e.at h1, DrA.mono e' ds h2⟩)
  · exact .inr (.inr (.inl ⟨a, kvs, es, e1, e2, e.at h1, h2, DrA.mono e' _ h3⟩))
  · exact .inr (.inr (.inr ⟨x, C, dx, vs, fs, e1, e2, e3, e.at h1, h2, fun p hp => ⟨(h3 p hp).1, let ⟨u, q1, q2⟩ := (h3 p hp).2; ⟨u, q1, q2.mono' e e'⟩⟩⟩))
theorem Tp.mono {v : V} {d : D} (h : Tp K O H v d) (e : Same H H') : Tp K O H' v d := h.mono' e (mi_same e)
/-- not a script, not an object -/
def ndict : D → Bool
  | .dict _ => false
  | _ => true
theorem Tp.two {v : V} {d : D} (h : Tp K O H v d) (hd : ndict d = true) : Dr K (mi H O) v d ∨ ∃ a vs ds, v = .ref a ∧ d = .list ds ∧ H a = some (.lst vs) ∧ DrA K (mi H O) vs ds := by
  rcases h with h | h | ⟨a, kvs, es, e1, e2, h1, h2, h3⟩ | ⟨x, C, dx, vs, fs, e1, e2, e3, h1, h2, h3⟩
  · exact .inl h
  · exact .inr h
  · rw [e2] at hd; cases hd
  · rw [e2] at hd; cases hd
theorem Tp.full {v : V} {d : D} (h : Tp K O H v d) (hd : ndict d = true) : Dr K H v d := by
  rcases h.two hd with h | ⟨a, vs, ds, rfl, rfl, h1, h2⟩
  · exact Dr.mono mi_le d h
  · exact .lst h1 (DrA.mono mi_le ds h2)
theorem Tp.list {v : V} {ds : List D} (h : Tp K O H v (.list ds)) : ∃ a vs, v = .ref a ∧ H a = some (.lst vs) ∧ DrA K (mi H O) vs ds := by
  rcases h.two rfl with h | ⟨a, vs, ds', rfl, e, h1, h2⟩
  · cases h with
    | lst h1 h2 => exact ⟨_, _, rfl, mi_lt h1, h2⟩
  · cases e; exact ⟨a, vs, rfl, h1, h2⟩
theorem Tp.tuple {v : V} {ds : List D} (h : Tp K O H v (.tuple ds)) : ∃ a vs, v = .ref a ∧ mi H O a = some (.tup vs) ∧ DrA K (mi H O) vs ds := by
  rcases h.two rfl with h | ⟨a, vs, ds', rfl, e, h1, h2⟩
  · cases h with
    | tup h1 h2 => exact ⟨_, _, rfl, h1, h2⟩
  · cases e
theorem Tp.int {v : V} {i : Int} (h : Tp K O H v (.int i)) : v = .int i := by
  rcases h.two rfl with h | ⟨a, vs, ds', rfl, e, h1, h2⟩
  · cases h; rfl
  · cases e
theorem Tp.bool {v : V} {i : Bool} (h : Tp K O H v (.bool i)) : v = .bl i := by
  rcases h.two rfl with h | ⟨a, vs, ds', rfl, e, h1, h2⟩
  · cases h; rfl
  · cases e
theorem Tp.str {v : V} {i : Str} (h : Tp K O H v (.str i)) : v = .str i := by
  rcases h.two rfl with h | ⟨a, vs, ds', rfl, e, h1, h2⟩
  · cases h; rfl
  · cases e
theorem Tp.non {v : V} (h : Tp K O H v .none) : v = .non := by
  rcases h.two rfl with h | ⟨a, vs, ds', rfl, e, h1, h2⟩
  · cases h; rfl
  · cases e
theorem Tp.dict {v : V} {kvs : List (D × D)} (h : Tp K O H v (.dict kvs)) (ho : objD kvs = false) : ∃ a ns, v = .ref a ∧ kvs = (ns : List Int).map (fun n => (.int n, .none)) ∧ SqL K H a (ns.map V.int) := by
  rcases h with h | ⟨a, vs, ds', rfl, e, h1, h2⟩ | ⟨a, kvs, es, e1, e2, h1, h2, h3⟩ | ⟨x, C, dx, vs, fs, e1, e2, e3, h1, h2, h3⟩
  · cases h with
    | scr h1 => exact ⟨_, _, rfl, rfl, same_sqL mi_le h1⟩
  · cases e
  · cases e2; cases ho
  · cases e2
    cases fs with
    | nil => exact absurd rfl e3
    | cons p r => cases ho
theorem Tp.ref {v : V} {kvs : List (D × D)} (h : Tp K O H v (.dict kvs)) : ∃ a, v = .ref a := by
  rcases h with h | ⟨a, vs, ds', rfl, e, h1, h2⟩ | ⟨a, kvs, es, e1, e2, h1, h2, h3⟩ | ⟨x, C, dx, vs, fs, e1, e2, e3, h1, h2, h3⟩
  · cases h with
    | scr h1 => exact ⟨_, rfl⟩
  · cases e
  · exact ⟨_, e1⟩
  · exact ⟨_, e1⟩
/-- a field of an object -/
def fldD (f : Str) : List (D × D) → Option D
  | (.str g, d) :: r => if g = f then some d else fldD f r
  | _ => none
theorem fldD_mem {f : Str} {d : D} : ∀ {fs : List (Str × D)}, fldD f (fs.map fun p => (.str p.1, p.2)) = some d → (f, d) ∈ fs
  | [], h => by simp [fldD] at h
  | (g, e) :: r, h => by
    simp only [List.map_cons, fldD] at h
    split at h
    · rename_i hg
      cases h
      subst hg
      exact List.mem_cons_self
    · exact List.mem_cons_of_mem _ (fldD_mem h)
theorem fldD_no {f : Str} {ns : List Int} : fldD f (ns.map fun n => (.int n, .none)) = none := by cases ns <;> rfl
theorem Tp.fld {v : V} {kvs : List (D × D)} {f : Str} {d : D} (h : Tp K O H v (.dict kvs)) (hf : fldD f kvs = some d) : ∃ x C dx vs u, v = .ref x ∧ H x = some (.ins C dx vs) ∧ Cls K C ∧ NoAttr K C f ∧ vs.lookup f = some u ∧ Tp0 K O H u d := by
  rcases h with h | ⟨a, vs, ds', rfl, e, h1, h2⟩ | ⟨a, kvs, es, e1, e2, h1, h2, h3⟩ | ⟨x, C, dx, vs, fs, e1, e2, e3, h1, h2, h3⟩
  · cases h with
    | scr h1 => rw [fldD_no] at hf; cases hf
  · cases e
  · cases e2; cases hf
  · cases e2
    obtain ⟨q1, u, q2, q3⟩ := h3 _ (fldD_mem hf)
    exact ⟨x, C, dx, vs, u, e1, h1, h2, q1, q2, q3⟩
/-- a dict with tuples for keys -/
def dgetD (ns : List Int) : List (List Int × D) → Option D
  | [] => none
  | (k, d) :: r => if k = ns then some d else dgetD ns r
def isNon : D → Bool
  | .none => true
  | _ => false
end

/-! ### the little language -/
inductive Bi where
  | len | min | max | sum | all | any | abs | int | str | tuple | list | sorted
  deriving DecidableEq, Repr
inductive Ty where
  | int | bool | str | tuple | list
  deriving DecidableEq, Repr
inductive IE where
  | var (i : Nat) | bv (i : Nat)
  | cn | cb (b : Bool) | ci (i : Int) | cs (s : Str)
  | bin (op : Operator) (a b : IE) | neg (a : IE) | nt (a : IE)
  | cmp (op : CmpOp) (a b : IE) | cmp2 (op op' : CmpOp) (a b c : IE)
  | an (a b : IE) | or (a b : IE)
  | tup (as : IE) | lst (as : IE)
  | nil | cons (a as : IE)
  | call (k : Nat) (as : IE) | bi (b : Bi) (as : IE) | isi (t : Ty) (a : IE)
  | ix (a b : IE) | sl (a lo hi : IE) | rev (a : IE)
  | rgL (lo hi : IE) | rgT (lo hi : IE) | lset (a : IE) | sset (a : IE)
  | comp (elt : IE) (tg : List Nat) (src cond : IE) (vs : List Nat)
  | rg (lo hi : IE) | enum (a : IE) | zip (a b : IE)
  | join (a b : IE) | split (a b : IE)
  | fld (a : IE) (f : Str) | flds (a : IE) (f : Str) | dget (a k d : IE) | dix (a k : IE) | dsort (a : IE)
  deriving DecidableEq, Repr
inductive IS where
  | set (i : Nat) (e : IE) | setO (i : Nat) (e : IE)
  | unp (tg : List Nat) (e : IE) | par (i j : Nat) (a b : IE)
  | app (i : Nat) (e : IE) | sti (i : Nat) (ix e : IE)
  | ifs (c : IE) (t e : IS) | for_ (tg : List Nat) (src : IE) (body : IS) | whl (c : IE) (body : IS)
  | ret (e : IE) | skip | seq (a b : IS) | shr (i : Nat) | nev
  deriving DecidableEq, Repr
inductive Sl where
  | no | val (d : D) | own (ds : List D) | bor (d : D)
abbrev En := List Sl
def getV (env : En) (i : Nat) : Option D := match env[i]? with
  | some (.val d) => some d
  | _ => none
def getB (env : En) (i : Nat) : Option D := match env[i]? with
  | some (.val d) => some d
  | some (.own ds) => some (.list ds)
  | some (.bor d) => some d
  | _ => none

/-! ### operations on data -/
def opAdd : D → D → Option D
  | .int i, .int j => some (.int (i + j))
  | .str x, .str y => if x.length + y.length ≤ 100000 then some (.str (x ++ y)) else none
  | .list xs, .list ys => if xs.length + ys.length ≤ 1000000 then some (.list (xs ++ ys)) else none
  | .tuple xs, .tuple ys => if xs.length + ys.length ≤ 100000 then some (.tuple (xs ++ ys)) else none
  | _, _ => none
def opSub : D → D → Option D
  | .int i, .int j => some (.int (i - j))
  | _, _ => none
def mulOk (i j : Int) : Bool := decide (i.natAbs < 2 ^ 64) || decide (j.natAbs < 2 ^ 64) || (decide (i.natAbs < 2 ^ 100000) && decide (j.natAbs < 2 ^ 100000))
def opMul : D → D → Option D
  | .int i, .int j => if mulOk i j then some (.int (i * j)) else none
  | .list xs, .int k => if 0 ≤ k ∧ k ≤ 1000 ∧ xs.length ≤ 100 then some (.list (List.replicate k.toNat xs).flatten) else none
  | .tuple xs, .int k => if xs ≠ [] ∧ 1 ≤ k ∧ k ≤ 1000 ∧ xs.length ≤ 1000 then some (.tuple (List.replicate k.toNat xs).flatten) else none
  | _, _ => none
def opDiv : D → D → Option D
  | .int i, .int j => if 0 < j ∧ j.natAbs < 2 ^ 8000 then some (.int (i / j)) else none
  | _, _ => none
def opMod : D → D → Option D
  | .int i, .int j => if 0 < j then some (.int (i % j)) else none
  | _, _ => none
def opAnd : D → D → Option D
  | .int i, .int j => some (.int (Builtin.bitAnd i j))
  | _, _ => none
def opPow : D → D → Option D
  | .int i, .int j => if 0 ≤ j ∧ j ≤ 1000 ∧ i.natAbs < 2 ^ 64 then some (.int (i ^ j.toNat)) else none
  | _, _ => none
def opB : Operator → D → D → Option D
  | .Add, x, y => opAdd x y
  | .Sub, x, y => opSub x y
  | .Mult, x, y => opMul x y
  | .FloorDiv, x, y => opDiv x y
  | .Mod, x, y => opMod x y
  | .BitAnd, x, y => opAnd x y
  | .Pow, x, y => opPow x y
  | _, _, _ => none
/-- pairs that are compared whatever their size -/
def scalP : D → D → Bool
  | .none, .none | .none, .int _ | .int _, .none | .none, .bool _ | .bool _, .none | .none, .str _ | .str _, .none | .int _, .int _ | .bool _, .bool _ | .str _, .str _
  | .int _, .str _ | .str _, .int _ | .bool _, .str _ | .str _, .bool _ => true
  | _, _ => false
def opEq (x y : D) : Option Bool := if scalP x y then some (PyData.eqv x y) else if SeqAt.shaped x && SeqAt.shaped y then some (PyData.eqv x y) else none
def opI (f : Int → Int → Bool) : D → D → Option Bool
  | .int i, .int j => some (f i j)
  | _, _ => none
def isNoneD : D → Bool
  | .none => true
  | _ => false
def opIs : D → D → Option Bool
  | x, .none => some (isNoneD x)
  | .bool a, .bool b => some (decide (a = b))
  | _, _ => none
def flatD : D → Bool
  | .none | .bool _ | .int _ | .str _ => true
  | _ => false
def opIn : D → D → Option Bool
  | x, .list ds => if flatD x && ds.all flatD then some (ds.any fun y => PyData.eqv y x) else none
  | x, .tuple ds => if flatD x && ds.all flatD then some (ds.any fun y => PyData.eqv y x) else none
  | .str x, .str z => match x.cps.toList with
    | [c] => some (decide (c ∈ z.cps.toList))
    | _ => none
  | _, _ => none
def opC : CmpOp → D → D → Option Bool
  | .Eq, x, y => opEq x y
  | .NotEq, x, y => (opEq x y).map (! ·)
  | .Lt, x, y => opI (fun i j => decide (i < j)) x y
  | .LtE, x, y => opI (fun i j => decide (i ≤ j)) x y
  | .Gt, x, y => opI (fun i j => decide (j < i)) x y
  | .GtE, x, y => opI (fun i j => decide (j ≤ i)) x y
  | .Is, x, y => opIs x y
  | .IsNot, x, y => (opIs x y).map (! ·)
  | .In, x, y => opIn x y
  | .NotIn, x, y => (opIn x y).map (! ·)
def ints? : List D → Option (List Int)
  | [] => some []
  | .int i :: r => (ints? r).map (i :: ·)
  | _ :: _ => none
def bls? : List D → Option (List Bool)
  | [] => some []
  | .bool i :: r => (bls? r).map (i :: ·)
  | _ :: _ => none
def strs? : List D → Option (List Str)
  | [] => some []
  | .str i :: r => (strs? r).map (i :: ·)
  | _ :: _ => none
def leastI : Int → List Int → Int
  | m, [] => m
  | m, x :: r => leastI (if x < m then x else m) r
def mostI : Int → List Int → Int
  | m, [] => m
  | m, x :: r => mostI (if x > m then x else m) r
def insI (x : Int) : List Int → List Int
  | [] => [x]
  | y :: r => if x ≤ y then x :: y :: r else y :: insI x r
def sortI (l : List Int) : List Int := l.foldr insI []
def undupI : List Int → List Int
  | [] => []
  | x :: r => if x ∈ r then undupI r else x :: undupI r
def biLen : List D → Option D
  | [.list ds] => some (.int ds.length)
  | [.tuple ds] => some (.int ds.length)
  | [.dict ds] => if objD ds = false then some (.int ds.length) else none
  | [.str x] => if x.length ≤ 100000 then some (.int x.length) else none
  | _ => none
def biMin : List D → Option D
  | [.int i, .int j] => some (.int (if j < i then j else i))
  | [.list ds] => match ints? ds with
    | some (n :: ns) => some (.int (leastI n ns))
    | _ => none
  | _ => none
def biMax : List D → Option D
  | [.int i, .int j] => some (.int (if j > i then j else i))
  | [.list ds] => match ints? ds with
    | some (n :: ns) => some (.int (mostI n ns))
    | _ => none
  | _ => none
def biSum : List D → Option D
  | [.list ds] => (ints? ds).map fun ns => .int ns.sum
  | [.tuple ds] => (ints? ds).map fun ns => .int ns.sum
  | _ => none
def biAll : List D → Option D
  | [.list ds] => (bls? ds).map fun ns => .bool (ns.all id)
  | _ => none
def biAny : List D → Option D
  | [.list ds] => (bls? ds).map fun ns => .bool (ns.any id)
  | _ => none
def biAbs : List D → Option D
  | [.int i] => some (.int (if i < 0 then -i else i))
  | _ => none
def biInt : List D → Option D
  | [.int i] => some (.int i)
  | [.bool b] => some (.int (if b = true then 1 else 0))
  | [.str x] => if x.length ≤ 640 then (PySem.intText? x).map .int else none
  | _ => none
def biStr : List D → Option D
  | [.int i] => if i.natAbs < 2 ^ 1900 then some (.str (Str.ofString (toString i))) else none
  | _ => none
def biTuple : List D → Option D
  | [.list ds] => some (.tuple ds)
  | [.tuple ds] => some (.tuple ds)
  | _ => none
def biList : List D → Option D
  | [.list ds] => some (.list ds)
  | [.tuple ds] => some (.list ds)
  | _ => none
def biSorted : List D → Option D
  | [.list ds] => (ints? ds).map fun ns => .list ((sortI ns).map .int)
  | [.tuple ds] => (ints? ds).map fun ns => .list ((sortI ns).map .int)
  | _ => none
def evBi : Bi → List D → Option D
  | .len, ds => biLen ds
  | .min, ds => biMin ds
  | .max, ds => biMax ds
  | .sum, ds => biSum ds
  | .all, ds => biAll ds
  | .any, ds => biAny ds
  | .abs, ds => biAbs ds
  | .int, ds => biInt ds
  | .str, ds => biStr ds
  | .tuple, ds => biTuple ds
  | .list, ds => biList ds
  | .sorted, ds => biSorted ds
def evIsi : Ty → D → Option Bool
  | _, .dict _ => none
  | .int, .int _ => some true
  | .int, .bool _ => some true
  | .int, _ => some false
  | .bool, .bool _ => some true
  | .bool, _ => some false
  | .str, .str _ => some true
  | .str, _ => some false
  | .tuple, .tuple _ => some true
  | .tuple, _ => some false
  | .list, .list _ => some true
  | .list, _ => some false
def opIx : D → D → Option D
  | .list ds, .int i => atI ds i
  | .tuple ds, .int i => atI ds i
  | .dict kvs, .int i => if objD kvs = false then (atI kvs i).map (·.1) else none
  | .str x, .int i => if x.length ≤ 100000 then (atI x.cps.toList i).map fun c => .str ⟨#[c]⟩ else none
  | _, _ => none
def cutD {α : Type} (xs : List α) (lo hi : Option Int) : List α := (xs.drop (HT.sIx xs.length 0 lo)).take (HT.sIx xs.length xs.length hi - HT.sIx xs.length 0 lo)
def opSl : D → Option Int → Option Int → Option D
  | .list ds, lo, hi => some (.list (cutD ds lo hi))
  | .tuple ds, lo, hi => some (.tuple (cutD ds lo hi))
  | .str x, lo, hi => if x.length ≤ 100000 then some (.str (cutS x lo hi)) else none
  | _, _, _ => none
def opRev : D → Option D
  | .list ds => some (.list ds.reverse)
  | .tuple ds => some (.tuple ds.reverse)
  | _ => none
def rgD (lo hi : Int) : List D := (List.range (hi - lo).toNat).map fun i => .int (lo + (i : Nat))
def rgOk (lo hi : Int) : Bool := decide (-100000 ≤ lo) && decide (lo ≤ 100000) && decide (-100000 ≤ hi) && decide (hi ≤ 100000)
def opRg : D → D → Option (List D)
  | .int lo, .int hi => if rgOk lo hi then some (rgD lo hi) else none
  | _, _ => none
def enumD : Nat → List D → List D
  | _, [] => []
  | k, d :: ds => .tuple [.int k, d] :: enumD (k + 1) ds
def zipD : List D → List D → List D
  | x :: xs, y :: ys => .tuple [x, y] :: zipD xs ys
  | _, _ => []
def charsD (x : Str) : List D := x.cps.toList.map fun c => .str ⟨#[c]⟩
def itemsD : D → Option (List D)
  | .list ds => some ds
  | .tuple ds => some ds
  | .dict kvs => some (kvs.map (·.1))
  | .str x => some (charsD x)
  | _ => none
def seq2 : D → Option (List D)
  | .list ds => some ds
  | .tuple ds => some ds
  | _ => none
def zip1 : D → D → Option (List D)
  | .tuple xs, .tuple ys => some (zipD xs ys)
  | .list xs, .list ys => some (zipD xs ys)
  | _, _ => none
def zip2 : D → D → Option (List D)
  | .tuple xs, .tuple ys => some (zipD xs ys)
  | .list xs, .list ys => some (zipD xs ys)
  | .tuple xs, .list ys => some (zipD xs ys)
  | _, _ => none
def opJoin : D → D → Option D
  | .str a, .list ds => (strs? ds).bind fun ys => if (ys.map (·.length)).sum + ys.length * a.length ≤ 100000 then some (.str (Txt.join a ys)) else none
  | _, _ => none
def opSplit : D → D → Option D
  | .str a, .str b => if b.length = 1 ∧ a.length ≤ 100000 then some (.list ((Txt.split a b).map .str)) else none
  | _, _ => none
/-- the pairs of a dict with tuples for keys -/
def undt : List (D × D) → Option (List (List Int × D))
  | [] => some []
  | (.tuple ks, d) :: r => match ints? ks with
    | none => none
    | some ns => match undt r with
      | none => none
      | some es => some ((ns, d) :: es)
  | _ => none
def undtD : D → Option (List (List Int × D))
  | .dict ((.none, .none) :: r) => undt r
  | _ => none
def strictD : D → Bool
  | .list _ => false
  | .dict _ => false
  | _ => true
def opFld (f : Str) : D → Option D
  | .dict kvs => fldD f kvs
  | _ => none
def opFldS (f : Str) (x : D) : Option D := match opFld f x with
  | some d => if strictD d then some d else none
  | none => none
def tupI : D → Option (List Int)
  | .tuple ks => ints? ks
  | _ => none
def opDget (x k z : D) : Option D := match undtD x with
  | none => none
  | some es => match tupI k with
    | none => none
    | some ns => some ((dgetD ns es).getD z)
def opDix (x k : D) : Option D := match undtD x with
  | none => none
  | some es => match tupI k with
    | none => none
    | some ns => dgetD ns es
def sortL (ks : List (List Int)) : List (List Int) := ks.mergeSort fun p q => decide (p ≤ q)
def opDsort (x : D) : Option D := match undtD x with
  | none => none
  | some es => if (es.map (·.1)).all (fun k => !k.isEmpty) ∧ es.length ≤ 1000 then some (.list ((sortL (es.map (·.1))).map fun k => .tuple (k.map .int))) else none
/-- targets -/
def bindEach : List Nat → List D → En → Option En
  | [], [], env => some env
  | i :: tg, d :: ds, env => bindEach tg ds (env.set i (.val d))
  | _, _, _ => none
def bindT : List Nat → D → En → Option En
  | [i], d, env => some (env.set i (.val d))
  | tg, .tuple ds, env => bindEach tg ds env
  | _, _, _ => none
def wipeE (env : En) : List Nat → En
  | [] => env
  | v :: vs => (wipeE env vs).set v .no
/-- what a comprehension makes of its source -/
def compL (f : D → Option (Option D)) : List D → Option (List D)
  | [] => some []
  | x :: r => match f x with
    | none => none
    | some y => match compL f r with
      | none => none
      | some ys => some (match y with | none => ys | some z => z :: ys)
def testD : Option D → Option Bool
  | some (.bool b) => some b
  | _ => none

/-- one turn of a comprehension -/
def turnC (tg vs : List Nat) (cond : En → Option Bool) (elt : En → Option D) (env : En) (x : D) : Option (Option D) := match bindT tg x (wipeE env vs) with
  | none => none
  | some env' => match cond env' with
    | none => none
    | some false => some none
    | some true => match elt env' with
      | none => none
      | some y => some (some y)

/-! ### evaluation -/
section
variable (Φ : Nat → List D → Option D)
mutual
def evE : IE → En → Option D
  | .var i, env => getV env i
  | .bv i, env => getB env i
  | .cn, _ => some .none
  | .cb b, _ => some (.bool b)
  | .ci i, _ => some (.int i)
  | .cs s, _ => some (.str s)
  | .bin op a b, env => match evE a env with
    | none => none
    | some x => match evE b env with
      | none => none
      | some y => opB op x y
  | .neg a, env => match evE a env with
    | some (.int i) => some (.int (-i))
    | _ => none
  | .nt a, env => match evE a env with
    | some (.bool b) => some (.bool !b)
    | _ => none
  | .cmp op a b, env => match evE a env with
    | none => none
    | some x => match evE b env with
      | none => none
      | some y => (opC op x y).map .bool
  | .cmp2 op op' a b c, env => match evE a env with
    | none => none
    | some x => match evE b env with
      | none => none
      | some y => match opC op x y with
        | none => none
        | some false => some (.bool false)
        | some true => match evE c env with
          | none => none
          | some z => (opC op' y z).map .bool
  | .an a b, env => match evE a env with
    | some (.bool true) => evE b env
    | some (.bool false) => some (.bool false)
    | _ => none
  | .or a b, env => match evE a env with
    | some (.bool true) => some (.bool true)
    | some (.bool false) => evE b env
    | _ => none
  | .tup as, env => match evA as env with
    | none => none
    | some ds => if ds.length ≤ 1000 then some (.tuple ds) else none
  | .lst as, env => match evA as env with
    | none => none
    | some ds => if ds.length ≤ 1000 then some (.list ds) else none
  | .call k as, env => match evA as env with
    | none => none
    | some ds => Φ k ds
  | .bi b as, env => match evA as env with
    | none => none
    | some ds => evBi b ds
  | .isi t a, env => match evE a env with
    | none => none
    | some d => (evIsi t d).map .bool
  | .ix a b, env => match evE a env with
    | none => none
    | some x => match evE b env with
      | none => none
      | some y => opIx x y
  | .sl a lo hi, env => match evE a env with
    | none => none
    | some x => match evO lo env with
      | none => none
      | some l => match evO hi env with
        | none => none
        | some h => opSl x l h
  | .rev a, env => match evE a env with
    | none => none
    | some x => opRev x
  | .rgL lo hi, env => match evE lo env with
    | none => none
    | some l => match evE hi env with
      | none => none
      | some h => (opRg l h).map .list
  | .rgT lo hi, env => match evE lo env with
    | none => none
    | some l => match evE hi env with
      | none => none
      | some h => (opRg l h).map .tuple
  | .lset a, env => match evE a env with
    | some (.list ds) => match ints? ds with
      | none => none
      | some ns => if ns.length ≤ 50 then some (.int (undupI ns).length) else none
    | _ => none
  | .sset a, env => match evE a env with
    | none => none
    | some x => match seq2 x with
      | none => none
      | some ds => match ints? ds with
        | none => none
        | some ns => if ns.length ≤ 50 then some (.list ((sortI (undupI ns)).map .int)) else none
  | .comp elt tg src cond vs, env => match evI src env with
    | none => none
    | some ds => if ds.length ≤ 40000 then (compL (turnC tg vs (evC cond) (evE elt) env) ds).map .list else none
  | .join a b, env => match evE a env with
    | none => none
    | some x => match evE b env with
      | none => none
      | some y => opJoin x y
  | .split a b, env => match evE a env with
    | none => none
    | some x => match evE b env with
      | none => none
      | some y => opSplit x y
  | .fld a f, env => match evE a env with
    | none => none
    | some x => opFld f x
  | .flds a f, env => match evE a env with
    | none => none
    | some x => opFldS f x
  | .dget a k d, env => match evE a env with
    | none => none
    | some x => match evE k env with
      | none => none
      | some y => match evE d env with
        | none => none
        | some z => opDget x y z
  | .dix a k, env => match evE a env with
    | none => none
    | some x => match evE k env with
      | none => none
      | some y => opDix x y
  | .dsort a, env => match evE a env with
    | none => none
    | some x => opDsort x
  | .nil, _ => none
  | .cons _ _, _ => none
  | .rg _ _, _ => none
  | .enum _, _ => none
  | .zip _ _, _ => none
def evA : IE → En → Option (List D)
  | .nil, _ => some []
  | .cons a as, env => match evE a env with
    | none => none
    | some x => match evA as env with
      | none => none
      | some xs => some (x :: xs)
  | _, _ => none
/-- a bound of a slice -/
def evO : IE → En → Option (Option Int)
  | .nil, _ => some none
  | e, env => match evE e env with
    | some (.int i) => some (some i)
    | _ => none
/-- a comprehension's test -/
def evC : IE → En → Option Bool
  | .nil, _ => some true
  | e, env => testD (evE e env)
/-- what is walked -/
def evI : IE → En → Option (List D)
  | .rg lo hi, env => match evE lo env with
    | none => none
    | some l => match evE hi env with
      | none => none
      | some h => opRg l h
  | .enum a, env => match evE a env with
    | none => none
    | some x => match seq2 x with
      | none => none
      | some ds => some (enumD 0 ds)
  | .zip a b, env => match evE a env with
    | none => none
    | some x => match evE b env with
      | none => none
      | some y => zip2 x y
  | e, env => match evE e env with
    | none => none
    | some x => itemsD x
end
inductive Fl where
  | nx (env : En) | rt (d : D)
def forL (f : D → En → Option Fl) : List D → En → Option Fl
  | [], env => some (.nx env)
  | x :: r, env => match f x env with
    | some (.nx env') => forL f r env'
    | q => q
def whileL (c : En → Option Bool) (f : En → Option Fl) : Nat → En → Option Fl
  | 0, _ => none
  | n + 1, env => match c env with
    | some true => match f env with
      | some (.nx env') => whileL c f n env'
      | q => q
    | some false => some (.nx env)
    | none => none
/-- one turn of a for; a while's test -/
def forB (tg : List Nat) (g : En → Option Fl) (x : D) (env : En) : Option Fl := match bindT tg x env with
  | none => none
  | some env' => g env'
def tst (f : En → Option D) (env : En) : Option Bool := testD (f env)
def fuelW : Nat := 100000
/-- what a return hands back -/
def evR : IE → En → Option D
  | .var i, env => match env[i]? with
    | some (.val d) => some d
    | some (.own ds) => some (.list ds)
    | _ => none
  | e, env => evE Φ e env
def evS : IS → En → Option Fl
  | .set i e, env => match evE Φ e env with
    | none => none
    | some d => some (.nx (env.set i (.val d)))
  | .setO i e, env => match evE Φ e env with
    | some (.list ds) => some (.nx (env.set i (.own ds)))
    | _ => none
  | .unp tg e, env => match evE Φ e env with
    | some (.tuple ds) => (bindEach tg ds env).map .nx
    | _ => none
  | .par i j a b, env => match evE Φ a env with
    | none => none
    | some x => match evE Φ b env with
      | none => none
      | some y => some (.nx ((env.set i (.val x)).set j (.val y)))
  | .app i e, env => match env[i]? with
    | some (.own ds) => match evE Φ e env with
      | none => none
      | some d => if ds.length < 100000 then some (.nx (env.set i (.own (ds ++ [d])))) else none
    | _ => none
  | .sti i ix e, env => match env[i]? with
    | some (.own ds) => match evE Φ e env with
      | none => none
      | some d => match evE Φ ix env with
        | some (.int k) => match ixN ds.length k with
          | none => none
          | some j => some (.nx (env.set i (.own (ds.set j d))))
        | _ => none
    | _ => none
  | .ifs c t e, env => match testD (evE Φ c env) with
    | none => none
    | some true => evS t env
    | some false => evS e env
  | .for_ tg src body, env => match evI Φ src env with
    | none => none
    | some ds => forL (forB tg (evS body)) ds env
  | .whl c body, env => whileL (tst (evE Φ c)) (evS body) fuelW env
  | .ret e, env => (evR Φ e env).map .rt
  | .skip, env => some (.nx env)
  | .seq a b, env => match evS a env with
    | some (.nx env') => evS b env'
    | q => q
  | .shr i, env => match env[i]? with
    | some (.own ds) => some (.nx (env.set i (.val (.list ds))))
    | _ => some (.nx env)
  | .nev, _ => none
end
/-- a def: its parameters (which of them are borrowed), its slots, its body -/
structure Fd where
  bs : List Bool
  slots : Nat
  body : IS
def start0 : List Bool → List D → En
  | b :: bs, d :: ds => (if b then .bor d else .val d) :: start0 bs ds
  | _, _ => []
def evF (Φ : Nat → List D → Option D) (F : Fd) (ds : List D) : Option D :=
  if ds.length = F.bs.length then
    match evS Φ F.body (start0 F.bs ds ++ List.replicate (F.slots - ds.length) .no) with
    | some (.rt d) => some d
    | some (.nx _) => some .none
    | none => none
  else none
end J

/-! The operations of the machine, by data. -/
namespace J
open PySem PySem.Spec PyProof.Rows L2
def Wk (K : PySem.W.Frag) (O : List Addr) (H : Hp) (d : D) (Q : VK) : Prop := ∀ v H', Same H H' → Dr K (mi H' O) v d → Q v H'
def rG2 (K : PySem.W.Frag) (g : D → D → Option D) : R2 := fun x y H Q => ∃ O dx dy d, Al K O H ∧ Tp K O H x dx ∧ Tp K O H y dy ∧ g dx dy = some d ∧ Wk K O H d Q
theorem log2_lt {n k : Nat} (hk : 0 < k) (h : n < 2 ^ k) : n.log2 < k := by
  by_cases h0 : n = 0
  · subst h0; simpa using hk
  · exact (Nat.log2_lt h0).mpr h
section
variable {X : Cx}
theorem wk_self {K : PySem.W.Frag} {O : List Addr} {H : Hp} {d : D} {Q : VK} {v : V} (q : Wk K O H d Q) (h : Dr K (mi H O) v d) : Q v H := q v H (Same.refl H) h
theorem wk_lst {K : PySem.W.Frag} {O : List Addr} {H : Hp} {ds : List D} {Q : VK} {vs : List V} (q : Wk K O H (.list ds) Q) (al : Al K O H) (h : DrA K (mi H O) vs ds) : ∀ p, H p = none → Q (.ref p) (upd H p (.lst vs)) := fun p hp => by
  refine q _ _ (same_upd hp) (.lst (xs := vs) ?_ ?_)
  · rw [mi_out (al.out hp), upd_same]; rfl
  · exact DrA.mono (mi_same (same_upd hp)) ds h
theorem wk_tup {K : PySem.W.Frag} {O : List Addr} {H : Hp} {ds : List D} {Q : VK} {vs : List V} (q : Wk K O H (.tuple ds) Q) (al : Al K O H) (h : DrA K (mi H O) vs ds) : ∀ p, H p = none → Q (.ref p) (upd H p (.tup vs)) := fun p hp => by
  refine q _ _ (same_upd hp) (.tup (xs := vs) ?_ ?_)
  · rw [mi_out (al.out hp), upd_same]; rfl
  · exact DrA.mono (mi_same (same_upd hp)) ds h
theorem nilDr {K : PySem.W.Frag} {H : Hp} {vs : List V} {ds : List D} (h : DrA K H vs ds) : vs = [] ↔ ds = [] := by
  have := h.len
  constructor
  · intro e; subst e; exact List.eq_nil_of_length_eq_zero this.symm
  · intro e; subst e; exact List.eq_nil_of_length_eq_zero this
theorem szl {n : Nat} (h : n ≤ 100000) : n ≤ sizeLine := Nat.le_trans h (by decide)
theorem szlt {n : Nat} (h : n < 100000) : n < sizeLine := Nat.lt_of_lt_of_le h (by decide)
theorem szl24 {n : Nat} (h : n ≤ 1000000) : n ≤ sizeLine := Nat.le_trans h (by decide)

theorem opr_add : OpR X (binaryOp .Add) (rG2 X.K opAdd) := by
  intro pins s σ H x y v u Q I rx ry ⟨O, dx, dy, d, al, hx, hy, e, q⟩
  unfold opAdd at e
  split at e
  · cases hx.int; cases hy.int; cases e
    exact op_add pins s σ H _ _ v u Q I rx ry ⟨_, _, rfl, rfl, wk_self q (.int _)⟩
  · cases hx.str; cases hy.str
    split at e
    · rename_i hl
      cases e
      exact op_add_str pins s σ H _ _ v u Q I rx ry ⟨_, _, rfl, rfl, szl hl, wk_self q (.str _)⟩
    · cases e
  · obtain ⟨a, vs, rfl, h1, h2⟩ := hx.list
    obtain ⟨b, ws, rfl, h3, h4⟩ := hy.list
    split at e
    · rename_i hl
      cases e
      exact op_cat pins s σ H _ _ v u Q I rx ry ⟨_, _, _, _, rfl, rfl, h1, h3, szl24 (by rw [h2.len, h4.len]; exact hl), wk_lst q al (h2.app h4)⟩
    · cases e
  · obtain ⟨a, vs, rfl, h1, h2⟩ := hx.tuple
    obtain ⟨b, ws, rfl, h3, h4⟩ := hy.tuple
    split at e
    · rename_i hl
      cases e
      refine op_catA pins s σ H _ _ v u Q I rx ry ⟨_, _, _, _, rfl, rfl, .inl (.inl (mi_lt h1)), .inl (.inl (mi_lt h3)), szl (by rw [h2.len, h4.len]; exact hl), fun e1 => ?_, fun e1 e2 => ?_, fun _ _ => wk_tup q al (h2.app h4)⟩
      · subst e1
        have := (nilDr h2).mp rfl
        subst this
        exact wk_self q (.tup h3 h4)
      · subst e2
        have := (nilDr h4).mp rfl
        subst this
        rw [List.append_nil] at q
        exact wk_self q (.tup h1 h2)
    · cases e
  · cases e
theorem opr_sub : OpR X (binaryOp .Sub) (rG2 X.K opSub) := by
  intro pins s σ H x y v u Q I rx ry ⟨O, dx, dy, d, al, hx, hy, e, q⟩
  unfold opSub at e
  split at e
  · cases hx.int; cases hy.int; cases e
    exact op_sub pins s σ H _ _ v u Q I rx ry ⟨_, _, rfl, rfl, wk_self q (.int _)⟩
  · cases e

/-! tuple * 1 -/
theorem tuple_mul1 (l : Addr) (items : Array Value) (n : Nat) (dd : Option Addr) (sl : Array (Option Value)) (u : Tok) :
    Meets (Builtin.«tuple.__mul__» ⟨[.ref l, .int 1 u], []⟩) (fun _ R s => s.heap.get? l = some { cls := .type "tuple", dict := dd, data := .seq items n, slots := sl } ∧
      R (.ok (.ret (Value.ref l))) s) :=
  .of_wp fun prog w A R s h => by
    obtain ⟨hp, g, d, tk, os⟩ := s
    obtain ⟨hl, h⟩ := h
    have f1 := AutoSeq1.idx_int
    have c1 : (items.isEmpty || (1 : Int) == 1) = true := by simp
    wp_walk using wpAny_loadPart' hl
    repeat (first
      | (refine wpAny_ite_false (decide_eq_false (by decide)) ?_; wp_walk using wpAny_loadPart' hl)
      | (refine wpAny_ite_true (decide_eq_true (by rw [c1])) ?_; wp_walk using wpAny_loadPart' hl))
    exact ⟨_, rfl, h⟩

theorem op_rep1 : OpR X (binaryOp .Mult) (fun x y H Q => ∃ l xs, x = .ref l ∧ y = .int 1 ∧ SqT X.K H l xs ∧ Q (.ref l) H) := by
  intro pins s σ H x y v u Q I rx ry h
  obtain ⟨l, xs, rfl, rfl, hT, q⟩ := h
  cases rx
  obtain ⟨t, rfl⟩ := ry
  obtain ⟨its, r, ⟨⟨cls, dd, data, sl⟩, ho, hc, n, hd⟩, hs⟩ := I.tuple hT
  simp only at hc hd
  subst hc hd
  exact wpAny_binaryOp_repeat_ref (T := "tuple") (U := "int") (by decide) ⟨_, ho, rfl⟩ (fun s' => typeIs_int s' 1 t) noFill_tuple_mul F.fills_int_mul F.slot_int_rmul repeat_tuple F.slot_int_index.lookup
    (call_meets F.slot_int_rmul (typeIs_int s 1 t) F.entry_int_rmul (F.args_int_rmul_2 _ _) (int_rmul_tuple 1 t l its.toArray n dd sl)
      ⟨ho, rfl, ⟨_, ho, rfl⟩, call_meets F.slot_tuple_mul ⟨_, ho, rfl⟩ F.entry_tuple_mul (F.args_tuple_mul_2 _ _) (tuple_mul1 l its.toArray n dd sl t) ⟨ho, ⟨.ref l, H, I, rfl, q⟩⟩⟩)
theorem opr_mul : OpR X (binaryOp .Mult) (rG2 X.K opMul) := by
  intro pins s σ H x y v u Q I rx ry ⟨O, dx, dy, d, al, hx, hy, e, q⟩
  unfold opMul at e
  split at e
  · cases hx.int; cases hy.int
    split at e
    · rename_i i j hm
      cases e
      unfold mulOk at hm
      by_cases h1 : i.natAbs < 2 ^ 64
      · exact op_mul pins s σ H _ _ v u Q I rx ry ⟨_, _, rfl, rfl, .inl ⟨by omega, by omega⟩, wk_self q (.int _)⟩
      · by_cases h2 : j.natAbs < 2 ^ 64
        · exact op_mul pins s σ H _ _ v u Q I rx ry ⟨_, _, rfl, rfl, .inr ⟨by omega, by omega⟩, wk_self q (.int _)⟩
        · rw [decide_eq_false h1, decide_eq_false h2, Bool.false_or, Bool.false_or, Bool.and_eq_true] at hm
          have h3 := log2_lt (by decide) (of_decide_eq_true hm.1)
          have h4 := log2_lt (by decide) (of_decide_eq_true hm.2)
          exact op_mulW pins s σ H _ _ v u Q I rx ry ⟨_, _, rfl, rfl, (by show _ + _ < 1000000; omega), wk_self q (.int _)⟩
    · cases e
  · obtain ⟨a, vs, rfl, h1, h2⟩ := hx.list
    cases hy.int
    split at e
    · rename_i ds k hl
      cases e
      refine op_rep pins s σ H _ _ v u Q I rx ry ⟨_, _, _, rfl, rfl, h1, by omega, by omega, ?_, wk_lst q al (h2.rep _)⟩
      rw [h2.len]
      exact szl24 (Nat.le_trans (Nat.mul_le_mul hl.2.2 (show k.toNat ≤ 1000 by omega)) (by decide))
    · cases e
  · obtain ⟨a, vs, rfl, h1, h2⟩ := hx.tuple
    cases hy.int
    split at e
    · rename_i ds k hl
      cases e
      obtain ⟨hn, hl1, hl2, hl3⟩ := hl
      by_cases hk : k = 1
      · subst hk
        refine op_rep1 pins s σ H _ _ v u Q I rx ry ⟨_, _, rfl, rfl, .inl (.inl (mi_lt h1)), ?_⟩
        rw [show (List.replicate (1 : Int).toNat ds).flatten = ds by simp] at q
        exact wk_self q (.tup h1 h2)
      · refine op_repT pins s σ H _ _ v u Q I rx ry ⟨_, _, _, rfl, rfl, .inl (.inl (mi_lt h1)), fun z => hn ((nilDr h2).mp z), by omega, hl2, by rw [h2.len]; exact hl3, wk_tup q al (h2.rep _)⟩
    · cases e
  · cases e
theorem opr_div : OpR X (binaryOp .FloorDiv) (rG2 X.K opDiv) := by
  intro pins s σ H x y v u Q I rx ry ⟨O, dx, dy, d, al, hx, hy, e, q⟩
  unfold opDiv at e
  split at e
  · cases hx.int; cases hy.int
    split at e
    · rename_i hm
      cases e
      exact op_fdivW pins s σ H _ _ v u Q I rx ry ⟨_, _, rfl, rfl, ⟨hm.1, Nat.lt_trans (log2_lt (by decide) hm.2) (by decide)⟩, wk_self q (.int _)⟩
    · cases e
  · cases e
theorem opr_mod : OpR X (binaryOp .Mod) (rG2 X.K opMod) := by
  intro pins s σ H x y v u Q I rx ry ⟨O, dx, dy, d, al, hx, hy, e, q⟩
  unfold opMod at e
  split at e
  · cases hx.int; cases hy.int
    split at e
    · rename_i hm
      cases e
      exact op_mod pins s σ H _ _ v u Q I rx ry ⟨_, _, rfl, rfl, hm, wk_self q (.int _)⟩
    · cases e
  · cases e
theorem opr_and : OpR X (binaryOp .BitAnd) (rG2 X.K opAnd) := by
  intro pins s σ H x y v u Q I rx ry ⟨O, dx, dy, d, al, hx, hy, e, q⟩
  unfold opAnd at e
  split at e
  · cases hx.int; cases hy.int; cases e
    exact op_and pins s σ H _ _ v u Q I rx ry ⟨_, _, rfl, rfl, wk_self q (.int _)⟩
  · cases e
theorem opr_pow : OpR X (binaryOp .Pow) (rG2 X.K opPow) := by
  intro pins s σ H x y v u Q I rx ry ⟨O, dx, dy, d, al, hx, hy, e, q⟩
  unfold opPow at e
  split at e
  · cases hx.int; cases hy.int
    split at e
    · rename_i hm
      cases e
      exact op_pow pins s σ H _ _ v u Q I rx ry ⟨_, _, rfl, rfl, ⟨hm.1, by omega, hm.2.2⟩, wk_self q (.int _)⟩
    · cases e
  · cases e
theorem opr_no {op : Operator} {g : D → D → Option D} (h : ∀ x y, g x y = none) : OpR X (binaryOp op) (rG2 X.K g) := by
  intro pins s σ H x y v u Q I rx ry ⟨O, dx, dy, d, al, hx, hy, e, q⟩
  rw [h] at e
  cases e
theorem opr_B (op : Operator) : OpR X (binaryOp op) (rG2 X.K (opB op)) := by
  cases op
  case Add => exact opr_add
  case Sub => exact opr_sub
  case Mult => exact opr_mul
  case FloorDiv => exact opr_div
  case Mod => exact opr_mod
  case BitAnd => exact opr_and
  case Pow => exact opr_pow
  all_goals exact opr_no fun _ _ => rfl

/-! ### comparisons -/
def rGc (K : PySem.W.Frag) (g : D → D → Option Bool) : R2 := fun x y H Q => ∃ O dx dy b, Al K O H ∧ Tp K O H x dx ∧ Tp K O H y dy ∧ g dx dy = some b ∧ Q (.bl b) H
theorem dec_beq {α : Type} [DecidableEq α] [BEq α] [LawfulBEq α] (a b : α) : decide (a = b) = (a == b) := by
  by_cases h : a = b <;> simp [h]
theorem eqv_scal {K : PySem.W.Frag} {O : List Addr} {H : Hp} {x y : V} {dx dy : D} (hx : Tp K O H x dx) (hy : Tp K O H y dy) (h : scalP dx dy = true) : scal x y = true ∧ decide (x = y) = PyData.eqv dx dy := by
  cases dx <;> cases dy <;> first
    | (exfalso; revert h; simp [scalP]; done)
    | (first | cases hx.non | cases hx.bool | cases hx.int | cases hx.str
       first | cases hy.non | cases hy.bool | cases hy.int | cases hy.str
       refine ⟨rfl, ?_⟩
       (try simp [PyData.eqv])
       first | done | exact dec_beq _ _)
theorem shp_nd {d : D} (h : SeqAt.shaped d = true) : ndict d = true := by
  cases d <;> first | rfl | (have := SeqAt.canLay_of_shaped h; simp [PyData.canLay0] at this)
theorem opr_eq (hu : X.A.units + 64 < cLine) : OpR X (compareOp .Eq) (rGc X.K opEq) := by
  intro pins s σ H x y v u Q I rx ry ⟨O, dx, dy, b, al, hx, hy, e, q⟩
  unfold opEq at e
  split at e
  · rename_i hs
    cases e
    obtain ⟨h1, h2⟩ := eqv_scal hx hy hs
    exact op_eq pins s σ H _ _ v u Q I rx ry ⟨h1, by rw [h2]; exact q⟩
  · split at e
    · rename_i hs
      cases e
      rw [Bool.and_eq_true] at hs
      exact op_eqD hu pins s σ H _ _ v u Q I rx ry ⟨dx, dy, Dr.dp dx hs.1 (hx.full (shp_nd hs.1)), Dr.dp dy hs.2 (hy.full (shp_nd hs.2)), hs.1, hs.2, q⟩
    · cases e
theorem opr_ne (hu : X.A.units + 64 < cLine) : OpR X (compareOp .NotEq) (rGc X.K fun x y => (opEq x y).map (! ·)) := by
  intro pins s σ H x y v u Q I rx ry ⟨O, dx, dy, b, al, hx, hy, e, q⟩
  simp only [opEq] at e
  split at e
  · rename_i hs
    cases e
    obtain ⟨h1, h2⟩ := eqv_scal hx hy hs
    exact op_ne pins s σ H _ _ v u Q I rx ry ⟨h1, by rw [h2]; exact q⟩
  · split at e
    · rename_i hs
      cases e
      rw [Bool.and_eq_true] at hs
      exact op_neD hu pins s σ H _ _ v u Q I rx ry ⟨dx, dy, Dr.dp dx hs.1 (hx.full (shp_nd hs.1)), Dr.dp dy hs.2 (hy.full (shp_nd hs.2)), hs.1, hs.2, q⟩
    · cases e
theorem opr_int {op : CmpOp} {f : Int → Int → Bool} (ho : OpR X (compareOp op) (rI0 fun i j => V.bl (f i j))) : OpR X (compareOp op) (rGc X.K (opI f)) := by
  intro pins s σ H x y v u Q I rx ry ⟨O, dx, dy, b, al, hx, hy, e, q⟩
  unfold opI at e
  split at e
  · cases hx.int; cases hy.int; cases e
    exact ho pins s σ H _ _ v u Q I rx ry ⟨_, _, rfl, rfl, q⟩
  · cases e
theorem opIs_non (dx : D) : opIs dx .none = some (isNoneD dx) := by cases dx <;> rfl
theorem is_non {K : PySem.W.Frag} {O : List Addr} {H : Hp} {x : V} {dx : D} (hx : Tp K O H x dx) : decide (x = V.non) = isNoneD dx := by
  cases dx with
  | none => cases hx.non; rfl
  | bool b => cases hx.bool; rfl
  | int i => cases hx.int; rfl
  | str z => cases hx.str; rfl
  | list ds => obtain ⟨a, vs, rfl, _⟩ := hx.list; rfl
  | tuple ds => obtain ⟨a, vs, rfl, _⟩ := hx.tuple; rfl
  | dict kvs => obtain ⟨a, rfl⟩ := hx.ref; rfl
theorem opr_is : OpR X (compareOp .Is) (rGc X.K opIs) := by
  intro pins s σ H x y v u Q I rx ry ⟨O, dx, dy, b, al, hx, hy, e, q⟩
  cases dy with
  | none =>
    rw [opIs_non] at e
    cases e
    cases hy.non
    refine op_isN pins s σ H _ _ v u Q I rx ry ⟨rfl, ?_⟩
    rw [is_non hx]
    exact q
  | bool c =>
    cases dx <;> first | (simp [opIs] at e; done) | skip
    rename_i a
    have e' : some (decide (a = c)) = some b := e
    cases e'
    cases hx.bool
    cases hy.bool
    exact op_isBl pins s σ H _ _ v u Q I rx ry ⟨_, _, rfl, rfl, q⟩
  | _ => cases dx <;> simp [opIs] at e
theorem opr_isnot : OpR X (compareOp .IsNot) (rGc X.K fun x y => (opIs x y).map (! ·)) := by
  intro pins s σ H x y v u Q I rx ry ⟨O, dx, dy, b, al, hx, hy, e, q⟩
  cases dy with
  | none =>
    dsimp only at e
    rw [opIs_non] at e
    cases e
    cases hy.non
    refine op_notN pins s σ H _ _ v u Q I rx ry ⟨rfl, ?_⟩
    rw [is_non hx]
    exact q
  | bool c =>
    cases dx <;> first | (simp [opIs] at e; done) | skip
    rename_i a
    have e' : some (!decide (a = c)) = some b := e
    cases e'
    cases hx.bool
    cases hy.bool
    exact op_notBl pins s σ H _ _ v u Q I rx ry ⟨_, _, rfl, rfl, q⟩
  | _ => cases dx <;> simp [opIs] at e
theorem flat_of {K : PySem.W.Frag} {H : Hp} {x : V} {dx : D} (hx : Dr K H x dx) (h : flatD dx = true) : flatV x = true := by
  cases hx <;> first | rfl | (simp [flatD] at h)
theorem flatA {K : PySem.W.Frag} {H : Hp} : ∀ {ds : List D} {vs : List V}, DrA K H vs ds → ds.all flatD = true → vs.all flatV = true
  | [], _, h, _ => by cases h; rfl
  | d :: ds, _, h, hf => by
    cases h with
    | cons h1 h2 =>
      rw [List.all_cons, Bool.and_eq_true] at hf ⊢
      exact ⟨flat_of h1 hf.1, flatA h2 hf.2⟩
theorem eqv_flat {K K' : PySem.W.Frag} {H H' : Hp} {x y : V} {dx dy : D} (hx : Dr K H x dx) (hy : Dr K' H' y dy) (fx : flatD dx = true) (fy : flatD dy = true) : eqV x y = PyData.eqv dx dy := by
  cases hx <;> first | (simp [flatD] at fx; done) | skip
  all_goals (cases hy <;> first | (simp [flatD] at fy; done) | skip)
  all_goals simp [eqV, PyData.eqv]
theorem in_any {K K' : PySem.W.Frag} {H H' : Hp} {x : V} {dx : D} (hx : Dr K' H' x dx) (fx : flatD dx = true) : ∀ {ds : List D} {vs : List V}, DrA K H vs ds → ds.all flatD = true → inV x vs = ds.any fun y => PyData.eqv y dx
  | [], _, h, _ => by cases h; rfl
  | d :: ds, _, h, hf => by
    cases h with
    | cons h1 h2 =>
      rw [List.all_cons, Bool.and_eq_true] at hf
      unfold inV
      rw [List.any_cons, List.any_cons, eqv_flat h1 hx hf.1 fx]
      have := in_any hx fx h2 hf.2
      unfold inV at this
      rw [this]
theorem str1 {x : Str} {c : Nat} (h : x.cps.toList = [c]) : x = ⟨#[c]⟩ := by
  cases x with
  | mk cps =>
    congr
    exact Array.toList_inj.mp h
theorem flat_nd {d : D} (h : flatD d = true) : ndict d = true := by cases d <;> first | rfl | (simp [flatD] at h)
theorem opr_in : OpR X (compareOp .In) (rGc X.K opIn) := by
  intro pins s σ H x y v u Q I rx ry ⟨O, dx, dy, b, al, hx, hy, e, q⟩
  have fx := hx.full
  unfold opIn at e
  split at e
  · obtain ⟨a, vs, rfl, h1, h2⟩ := hy.list
    split at e
    · rename_i hf
      cases e
      rw [Bool.and_eq_true] at hf
      have fx := fx (flat_nd hf.1)
      refine op_in_seq pins s σ H _ _ v u Q I rx ry ⟨_, _, rfl, .inl (.inl (.inl h1)), flat_of fx hf.1, flatA h2 hf.2, ?_⟩
      rw [in_any fx hf.1 h2 hf.2]
      exact q
    · cases e
  · obtain ⟨a, vs, rfl, h1, h2⟩ := hy.tuple
    split at e
    · rename_i hf
      cases e
      rw [Bool.and_eq_true] at hf
      have fx := fx (flat_nd hf.1)
      refine op_in_seq pins s σ H _ _ v u Q I rx ry ⟨_, _, rfl, .inr (.inl (.inl (mi_lt h1))), flat_of fx hf.1, flatA h2 hf.2, ?_⟩
      rw [in_any fx hf.1 h2 hf.2]
      exact q
    · cases e
  · cases hx.str
    cases hy.str
    split at e
    · rename_i c hc
      cases e
      have := str1 hc
      subst this
      exact op_in_sign pins s σ H _ _ v u Q I rx ry ⟨_, _, rfl, rfl, q⟩
    · cases e
  · cases e
theorem opr_notin : OpR X (compareOp .NotIn) (rGc X.K fun x y => (opIn x y).map (! ·)) := by
  intro pins s σ H x y v u Q I rx ry ⟨O, dx, dy, b, al, hx, hy, e, q⟩
  have fx := hx.full
  simp only [opIn] at e
  split at e
  · obtain ⟨a, vs, rfl, h1, h2⟩ := hy.list
    split at e
    · rename_i hf
      cases e
      rw [Bool.and_eq_true] at hf
      have fx := fx (flat_nd hf.1)
      refine op_notIn_seq pins s σ H _ _ v u Q I rx ry ⟨_, _, rfl, .inl (.inl (.inl h1)), flat_of fx hf.1, flatA h2 hf.2, ?_⟩
      rw [in_any fx hf.1 h2 hf.2]
      exact q
    · cases e
  · obtain ⟨a, vs, rfl, h1, h2⟩ := hy.tuple
    split at e
    · rename_i hf
      cases e
      rw [Bool.and_eq_true] at hf
      have fx := fx (flat_nd hf.1)
      refine op_notIn_seq pins s σ H _ _ v u Q I rx ry ⟨_, _, rfl, .inr (.inl (.inl (mi_lt h1))), flat_of fx hf.1, flatA h2 hf.2, ?_⟩
      rw [in_any fx hf.1 h2 hf.2]
      exact q
    · cases e
  · cases hx.str
    cases hy.str
    split at e
    · rename_i c hc
      cases e
      have := str1 hc
      subst this
      exact op_notIn_sign pins s σ H _ _ v u Q I rx ry ⟨_, _, rfl, rfl, q⟩
    · cases e
  · cases e
theorem opr_C (hu : X.A.units + 64 < cLine) (op : CmpOp) : OpR X (compareOp op) (rGc X.K (opC op)) := by
  cases op
  case Eq => exact opr_eq hu
  case NotEq => exact opr_ne hu
  case Lt => exact opr_int op_lt
  case LtE => exact opr_int op_le
  case Gt => exact opr_int op_gt
  case GtE => exact opr_int op_ge
  case Is => exact opr_is
  case IsNot => exact opr_isnot
  case In => exact opr_in
  case NotIn => exact opr_notin
end
end J

/-! Calls of built-ins, subscripts, slices, by data. -/
namespace J
open PySem PySem.Spec PyProof.Rows L2
def TpA (K : PySem.W.Frag) (O : List Addr) (H : Hp) : List V → List D → Prop
  | [], [] => True
  | v :: vs, d :: ds => Tp K O H v d ∧ TpA K O H vs ds
  | _, _ => False
theorem TpA.mono {K : PySem.W.Frag} {O : List Addr} {H H' : Hp} (e : Same H H') : ∀ {vs : List V} {ds : List D}, TpA K O H vs ds → TpA K O H' vs ds
  | [], [], _ => trivial
  | _ :: _, _ :: _, ⟨h1, h2⟩ => ⟨h1.mono e, TpA.mono e h2⟩
  | [], _ :: _, h => h.elim
  | _ :: _, [], h => h.elim
theorem TpA.one {K : PySem.W.Frag} {O : List Addr} {H : Hp} {vs : List V} {d : D} (h : TpA K O H vs [d]) : ∃ v, vs = [v] ∧ Tp K O H v d := by
  match vs, h with
  | [v], h => exact ⟨v, rfl, h.1⟩
theorem TpA.two {K : PySem.W.Frag} {O : List Addr} {H : Hp} {vs : List V} {d d' : D} (h : TpA K O H vs [d, d']) : ∃ v v', vs = [v, v'] ∧ Tp K O H v d ∧ Tp K O H v' d' := by
  match vs, h with
  | [v, v'], h => exact ⟨v, v', rfl, h.1, h.2.1⟩
def rGA (K : PySem.W.Frag) (g : List D → Option D) : List V → Hp → VK → Prop := fun vs H Q => ∃ O ds d, Al K O H ∧ TpA K O H vs ds ∧ g ds = some d ∧ Wk K O H d Q
theorem ints_eq : ∀ {ds : List D} {ns : List Int}, ints? ds = some ns → ds = ns.map .int
  | [], ns, h => by cases h; rfl
  | .int i :: r, ns, h => by
    simp only [ints?] at h
    cases q : ints? r with
    | none => rw [q] at h; cases h
    | some m => rw [q] at h; cases h; rw [ints_eq q]; rfl
  | .none :: r, ns, h => by simp [ints?] at h
  | .bool _ :: r, ns, h => by simp [ints?] at h
  | .str _ :: r, ns, h => by simp [ints?] at h
  | .list _ :: r, ns, h => by simp [ints?] at h
  | .tuple _ :: r, ns, h => by simp [ints?] at h
  | .dict _ :: r, ns, h => by simp [ints?] at h
theorem ints_map : ∀ ns : List Int, ints? (ns.map PyData.int) = some ns
  | [] => rfl
  | n :: ns => by rw [List.map_cons]; simp only [ints?, ints_map ns]; rfl
theorem bls_eq : ∀ {ds : List D} {ns : List Bool}, bls? ds = some ns → ds = ns.map .bool
  | [], ns, h => by cases h; rfl
  | .bool i :: r, ns, h => by
    simp only [bls?] at h
    cases q : bls? r with
    | none => rw [q] at h; cases h
    | some m => rw [q] at h; cases h; rw [bls_eq q]; rfl
  | .none :: r, ns, h => by simp [bls?] at h
  | .int _ :: r, ns, h => by simp [bls?] at h
  | .str _ :: r, ns, h => by simp [bls?] at h
  | .list _ :: r, ns, h => by simp [bls?] at h
  | .tuple _ :: r, ns, h => by simp [bls?] at h
  | .dict _ :: r, ns, h => by simp [bls?] at h
theorem strs_eq : ∀ {ds : List D} {ns : List Str}, strs? ds = some ns → ds = ns.map .str
  | [], ns, h => by cases h; rfl
  | .str i :: r, ns, h => by
    simp only [strs?] at h
    cases q : strs? r with
    | none => rw [q] at h; cases h
    | some m => rw [q] at h; cases h; rw [strs_eq q]; rfl
  | .none :: r, ns, h => by simp [strs?] at h
  | .int _ :: r, ns, h => by simp [strs?] at h
  | .bool _ :: r, ns, h => by simp [strs?] at h
  | .list _ :: r, ns, h => by simp [strs?] at h
  | .tuple _ :: r, ns, h => by simp [strs?] at h
  | .dict _ :: r, ns, h => by simp [strs?] at h
theorem leastI_le : ∀ (l : List Int) (m : Int), leastI m l ≤ m ∧ ∀ x ∈ l, leastI m l ≤ x
  | [], m => ⟨Int.le_refl _, fun _ h => by cases h⟩
  | y :: r, m => by
    obtain ⟨h1, h2⟩ := leastI_le r (if y < m then y else m)
    show leastI (if y < m then y else m) r ≤ m ∧ _
    have e : (if y < m then y else m) ≤ m ∧ (if y < m then y else m) ≤ y := by split <;> omega
    refine ⟨Int.le_trans h1 e.1, fun x hx => ?_⟩
    rcases List.mem_cons.mp hx with rfl | hx
    · exact Int.le_trans h1 e.2
    · exact h2 x hx
theorem leastI_mem : ∀ (l : List Int) (m : Int), leastI m l = m ∨ leastI m l ∈ l
  | [], m => .inl rfl
  | y :: r, m => by
    show leastI (if y < m then y else m) r = m ∨ leastI (if y < m then y else m) r ∈ y :: r
    rcases leastI_mem r (if y < m then y else m) with h | h
    · rw [h]
      split
      · exact .inr List.mem_cons_self
      · exact .inl rfl
    · exact .inr (List.mem_cons_of_mem _ h)
theorem mostI_le : ∀ (l : List Int) (m : Int), m ≤ mostI m l ∧ ∀ x ∈ l, x ≤ mostI m l
  | [], m => ⟨Int.le_refl _, fun _ h => by cases h⟩
  | y :: r, m => by
    obtain ⟨h1, h2⟩ := mostI_le r (if y > m then y else m)
    show m ≤ mostI (if y > m then y else m) r ∧ _
    have e : m ≤ (if y > m then y else m) ∧ y ≤ (if y > m then y else m) := by split <;> omega
    refine ⟨Int.le_trans e.1 h1, fun x hx => ?_⟩
    rcases List.mem_cons.mp hx with rfl | hx
    · exact Int.le_trans e.2 h1
    · exact h2 x hx
theorem mostI_mem : ∀ (l : List Int) (m : Int), mostI m l = m ∨ mostI m l ∈ l
  | [], m => .inl rfl
  | y :: r, m => by
    show mostI (if y > m then y else m) r = m ∨ mostI (if y > m then y else m) r ∈ y :: r
    rcases mostI_mem r (if y > m then y else m) with h | h
    · rw [h]
      split
      · exact .inr List.mem_cons_self
      · exact .inl rfl
    · exact .inr (List.mem_cons_of_mem _ h)
theorem least_one {n m : Int} {ns : List Int} (h1 : m ∈ n :: ns) (h2 : ∀ y, y ∈ n :: ns → m ≤ y) : m = leastI n ns := by
  have a := leastI_le ns n
  have b : leastI n ns ∈ n :: ns := by
    rcases leastI_mem ns n with h | h
    · rw [h]; exact List.mem_cons_self
    · exact List.mem_cons_of_mem _ h
  have c : leastI n ns ≤ m := by
    rcases List.mem_cons.mp h1 with h | h
    · rw [h]; exact a.1
    · exact a.2 m h
  have := h2 _ b
  omega
theorem most_one {n m : Int} {ns : List Int} (h1 : m ∈ n :: ns) (h2 : ∀ y, y ∈ n :: ns → y ≤ m) : m = mostI n ns := by
  have a := mostI_le ns n
  have b : mostI n ns ∈ n :: ns := by
    rcases mostI_mem ns n with h | h
    · rw [h]; exact List.mem_cons_self
    · exact List.mem_cons_of_mem _ h
  have c : m ≤ mostI n ns := by
    rcases List.mem_cons.mp h1 with h | h
    · rw [h]; exact a.1
    · exact a.2 m h
  have := h2 _ b
  omega
/-! sorting -/
theorem insI_perm (x : Int) : ∀ l : List Int, (insI x l).Perm (x :: l)
  | [] => .refl _
  | y :: r => by
    unfold insI
    split
    · exact .refl _
    · exact (List.Perm.cons y (insI_perm x r)).trans (List.Perm.swap x y r)
theorem sortI_perm : ∀ l : List Int, (sortI l).Perm l
  | [] => .refl _
  | x :: r => (insI_perm x (sortI r)).trans (List.Perm.cons x (sortI_perm r))
theorem insI_sorted (x : Int) : ∀ l : List Int, l.Pairwise (· ≤ ·) → (insI x l).Pairwise (· ≤ ·)
  | [], _ => List.pairwise_singleton _ _
  | y :: r, h => by
    rw [List.pairwise_cons] at h
    unfold insI
    split
    · rename_i hxy
      refine List.pairwise_cons.mpr ⟨fun z hz => ?_, List.pairwise_cons.mpr h⟩
      rcases List.mem_cons.mp hz with rfl | hz
      · exact hxy
      · exact Int.le_trans hxy (h.1 z hz)
    · rename_i hxy
      refine List.pairwise_cons.mpr ⟨fun z hz => ?_, insI_sorted x r h.2⟩
      rcases List.mem_cons.mp ((insI_perm x r).mem_iff.mp hz) with rfl | hz
      · omega
      · exact h.1 z hz
theorem sortI_sorted : ∀ l : List Int, (sortI l).Pairwise (· ≤ ·)
  | [] => .nil
  | x :: r => insI_sorted x _ (sortI_sorted r)
theorem sorted_uniq : ∀ (l l' : List Int), l.Perm l' → l.Pairwise (· ≤ ·) → l'.Pairwise (· ≤ ·) → l = l'
  | [], l', p, _, _ => (List.nil_perm.mp p).symm
  | x :: r, [], p, _, _ => by have := p.length_eq; simp at this
  | x :: r, y :: r', p, h, h' => by
    rw [List.pairwise_cons] at h h'
    have e : x = y := by
      have m1 : x ∈ y :: r' := p.mem_iff.mp List.mem_cons_self
      have m2 : y ∈ x :: r := p.mem_iff.mpr List.mem_cons_self
      rcases List.mem_cons.mp m1 with e | m1
      · exact e
      · rcases List.mem_cons.mp m2 with e | m2
        · exact e.symm
        · have := h'.1 x m1
          have := h.1 y m2
          omega
    subst e
    rw [sorted_uniq r r' (List.Perm.cons_inv p) h.2 h'.2]
theorem undupI_mem : ∀ (l : List Int) (x : Int), x ∈ undupI l ↔ x ∈ l
  | [], x => Iff.rfl
  | y :: r, x => by
    unfold undupI
    split
    · rename_i h
      rw [undupI_mem r x, List.mem_cons]
      constructor
      · exact .inr
      · rintro (rfl | h')
        · exact h
        · exact h'
    · rw [List.mem_cons, List.mem_cons, undupI_mem r x]
theorem undupI_nodup : ∀ l : List Int, (undupI l).Nodup
  | [] => List.nodup_nil
  | y :: r => by
    unfold undupI
    split
    · exact undupI_nodup r
    · rename_i h
      exact List.nodup_cons.mpr ⟨fun z => h ((undupI_mem r y).mp z), undupI_nodup r⟩
section
variable {X : Cx}
theorem cr_len : CallR X (.builtin "len") (rGA X.K biLen) := by
  intro pins s σ H xs us Q I r ⟨O, ds, d, al, h0, e, q⟩
  unfold biLen at e
  split at e
  · cases e
    obtain ⟨v, rfl, h⟩ := h0.one
    obtain ⟨a, vs, rfl, h1, h2⟩ := h.list
    refine call_len pins s σ H _ us Q I r ⟨_, vs.length, rfl, .inl ⟨vs, .inl (.inl h1), rfl⟩, ?_⟩
    rw [h2.len]
    exact wk_self q (.int _)
  · cases e
    obtain ⟨v, rfl, h⟩ := h0.one
    obtain ⟨a, vs, rfl, h1, h2⟩ := h.tuple
    refine call_len pins s σ H _ us Q I r ⟨_, vs.length, rfl, .inr ⟨vs, .inl (.inl (mi_lt h1)), rfl⟩, ?_⟩
    rw [h2.len]
    exact wk_self q (.int _)
  · split at e
    case isFalse => cases e
    rename_i ho
    cases e
    obtain ⟨v, rfl, h⟩ := h0.one
    obtain ⟨a, ns, rfl, rfl, h1⟩ := h.dict ho
    refine call_len pins s σ H _ us Q I r ⟨_, (ns.map V.int).length, rfl, .inl ⟨_, h1, rfl⟩, ?_⟩
    rw [List.length_map] at q ⊢
    exact wk_self q (.int _)
  · split at e
    · rename_i hl
      cases e
      obtain ⟨v, rfl, h⟩ := h0.one
      cases h.str
      exact call_len pins s σ H _ us Q I r ⟨_, _, rfl, ⟨szl hl, rfl⟩, wk_self q (.int _)⟩
    · cases e
  · cases e
theorem cr_min' (hc : X.calm = true) : CallR X (.builtin "min") (rGA X.K biMin) := by
  intro pins s σ H xs us Q I r ⟨O, ds, d, al, h0, e, q⟩
  unfold biMin at e
  split at e
  · cases e
    obtain ⟨v, v', rfl, h, h'⟩ := h0.two
    cases h.int; cases h'.int
    exact call_min2 hc pins s σ H _ us Q I r ⟨_, _, rfl, wk_self q (.int _)⟩
  · obtain ⟨v, rfl, h⟩ := h0.one
    split at e
    · rename_i n ns hi
      cases e
      have := ints_eq hi
      subst this
      obtain ⟨a, vs, rfl, h1, h2⟩ := h.list
      have := h2.ofInts
      subst this
      refine cr_min hc pins s σ H _ us Q I r ⟨_, _, rfl, .inl (.inl h1), by simp, fun m h3 h4 => ?_⟩
      rw [least_one h3 h4]
      exact wk_self q (.int _)
    · cases e
  · cases e
theorem cr_max' (hc : X.calm = true) : CallR X (.builtin "max") (rGA X.K biMax) := by
  intro pins s σ H xs us Q I r ⟨O, ds, d, al, h0, e, q⟩
  unfold biMax at e
  split at e
  · cases e
    obtain ⟨v, v', rfl, h, h'⟩ := h0.two
    cases h.int; cases h'.int
    exact call_max2 hc pins s σ H _ us Q I r ⟨_, _, rfl, wk_self q (.int _)⟩
  · obtain ⟨v, rfl, h⟩ := h0.one
    split at e
    · rename_i n ns hi
      cases e
      have := ints_eq hi
      subst this
      obtain ⟨a, vs, rfl, h1, h2⟩ := h.list
      have := h2.ofInts
      subst this
      refine cr_max hc pins s σ H _ us Q I r ⟨_, _, rfl, .inl (.inl h1), by simp, fun m h3 h4 => ?_⟩
      rw [most_one h3 h4]
      exact wk_self q (.int _)
    · cases e
  · cases e
theorem sumT_raw {prog : Program} {w : World} {A : Around} {E : Value → Shared → Prop} {s : Shared} {l : Addr} {its : List Value} {ns : List Int} {Q : Value → Shared → Prop} (hh : A.handled = none) (hl : s.heap.IsTuple l its.toArray) (hi : IntsAre its ns)
    (h : ∀ h' tk t', (∀ b o, s.heap.get? b = some o → h'.get? b = some o) → Q (.int ns.sum t') { s with heap := h', toks := tk }) : wpAny (model prog w) A (call (.builtin "sum") [.ref l]) Q E s := by
  obtain ⟨xs, e⟩ := hi.allInts.items
  have hn : numsOf (intItems xs).toList = ns := by rw [← e]; exact hi.numsOf
  rw [nums_intItems] at hn
  rw [e] at hl
  have hlt : l < s.heap.objs.size := by obtain ⟨_, e, _⟩ := hl; exact Heap.lt_size e
  refine call_sum_walkG (wpAny_pyIter_tuple hl ?_)
  refine ⟨_, _, _, _, _, _, numAt xs, rfl, Walks.tuple (A := A.in1) hh s.heap.objs.size l (Nat.ne_of_lt hlt) (intItems xs), ⟨⟨_, Heap.get?_push_size _ rfl, rfl, rfl⟩, hl.push _⟩, fun b hb => ?_, (fun _ _ => intItems_at), fun h' tk t' hk => ?_⟩
  · show b < (s.heap.push _).objs.size
    rw [Heap.size_push]
    simp only [List.mem_cons, List.not_mem_nil, or_false] at hb
    rcases hb with hb | hb
    · rw [hb]; exact Nat.lt_succ_self _
    · rw [hb]; exact Nat.lt_succ_of_lt hlt
  · have := h h' tk t' fun b o q => hk b o (fun z => by simp only [List.mem_cons, List.not_mem_nil, or_false] at z; exact Nat.ne_of_lt (Heap.lt_size q) z) (Heap.get?_push_of_some _ q)
    have hs : preSum (numAt xs) (intItems xs).size = ns.sum := by
      rw [show (intItems xs).size = xs.size by simp [intItems], preSum_eq, List.take_of_length_le (by simp), hn]
    rw [hs]
    exact this
theorem cr_sum' (hc : X.calm = true) : CallR X (.builtin "sum") (rGA X.K biSum) := by
  intro pins s σ H xs us Q I r ⟨O, ds, d, al, h0, e, q⟩
  unfold biSum at e
  split at e
  · obtain ⟨v, rfl, h⟩ := h0.one
    obtain ⟨ns, hi, e⟩ := Option.map_eq_some_iff.mp e
    cases e
    have := ints_eq hi
    subst this
    obtain ⟨a, vs, rfl, h1, h2⟩ := h.list
    have := h2.ofInts
    subst this
    exact cr_sum hc pins s σ H _ us Q I r ⟨_, _, rfl, .inl (.inl h1), wk_self q (.int _)⟩
  · obtain ⟨v, rfl, h⟩ := h0.one
    obtain ⟨ns, hi, e⟩ := Option.map_eq_some_iff.mp e
    cases e
    have := ints_eq hi
    subst this
    obtain ⟨a, vs, rfl, h1, h2⟩ := h.tuple
    have := h2.ofInts
    subst this
    obtain ⟨its, rv, ht, _⟩ := I.tuple (show SqT X.K H a _ from .inl (.inl (mi_lt h1)))
    rw [Vals.ref1 r]
    exact sumT_raw (I.ok.hd hc) ht rv.ints fun h' tk t' hk => ⟨.int _, H, I.kept hk, ⟨_, rfl⟩, wk_self q (.int _)⟩
  · cases e
theorem cr_all' (hc : X.calm = true) : CallR X (.builtin "all") (rGA X.K biAll) := by
  intro pins s σ H xs us Q I r ⟨O, ds, d, al, h0, e, q⟩
  unfold biAll at e
  split at e
  · obtain ⟨v, rfl, h⟩ := h0.one
    obtain ⟨ns, hi, e⟩ := Option.map_eq_some_iff.mp e
    cases e
    have := bls_eq hi
    subst this
    obtain ⟨a, vs, rfl, h1, h2⟩ := h.list
    have := h2.ofBls
    subst this
    exact cr_all hc pins s σ H _ us Q I r ⟨_, _, rfl, .inl (.inl h1), wk_self q (.bl _)⟩
  · cases e
theorem cr_any' (hc : X.calm = true) : CallR X (.builtin "any") (rGA X.K biAny) := by
  intro pins s σ H xs us Q I r ⟨O, ds, d, al, h0, e, q⟩
  unfold biAny at e
  split at e
  · obtain ⟨v, rfl, h⟩ := h0.one
    obtain ⟨ns, hi, e⟩ := Option.map_eq_some_iff.mp e
    cases e
    have := bls_eq hi
    subst this
    obtain ⟨a, vs, rfl, h1, h2⟩ := h.list
    have := h2.ofBls
    subst this
    exact cr_any hc pins s σ H _ us Q I r ⟨_, _, rfl, .inl (.inl h1), wk_self q (.bl _)⟩
  · cases e
theorem cr_abs' : CallR X (.builtin "abs") (rGA X.K biAbs) := by
  intro pins s σ H xs us Q I r ⟨O, ds, d, al, h0, e, q⟩
  unfold biAbs at e
  split at e
  · cases e
    obtain ⟨v, rfl, h⟩ := h0.one
    cases h.int
    exact call_abs pins s σ H _ us Q I r ⟨_, rfl, wk_self q (.int _)⟩
  · cases e
theorem cr_int' : CallR X (.type "int") (rGA X.K biInt) := by
  intro pins s σ H xs us Q I r ⟨O, ds, d, al, h0, e, q⟩
  unfold biInt at e
  split at e
  · cases e
    obtain ⟨v, rfl, h⟩ := h0.one
    cases h.int
    exact call_int1 pins s σ H _ us Q I r (.inl ⟨_, rfl, wk_self q (.int _)⟩)
  · cases e
    obtain ⟨v, rfl, h⟩ := h0.one
    cases h.bool
    exact call_int1 pins s σ H _ us Q I r (.inr ⟨_, rfl, wk_self q (.int _)⟩)
  · obtain ⟨v, rfl, h⟩ := h0.one
    cases h.str
    split at e
    · rename_i hl
      obtain ⟨n, hn, e⟩ := Option.map_eq_some_iff.mp e
      cases e
      exact call_int_str pins s σ H _ us Q I r ⟨_, _, rfl, hn, hl, wk_self q (.int _)⟩
    · cases e
  · cases e
theorem cr_str' : CallR X (.type "str") (rGA X.K biStr) := by
  intro pins s σ H xs us Q I r ⟨O, ds, d, al, h0, e, q⟩
  unfold biStr at e
  split at e
  · split at e
    · rename_i hl
      cases e
      obtain ⟨v, rfl, h⟩ := h0.one
      cases h.int
      exact call_str_int pins s σ H _ us Q I r ⟨_, rfl, Nat.lt_trans (log2_lt (by decide) hl) (by decide), wk_self q (.str _)⟩
    · cases e
  · cases e
theorem cr_tuple' : CallR X (.type "tuple") (rGA X.K biTuple) := by
  intro pins s σ H xs us Q I r ⟨O, ds, d, al, h0, e, q⟩
  unfold biTuple at e
  split at e
  · cases e
    obtain ⟨v, rfl, h⟩ := h0.one
    obtain ⟨a, vs, rfl, h1, h2⟩ := h.list
    exact call_tuple_of pins s σ H _ us Q I r ⟨_, _, rfl, .inl ⟨.inl (.inl h1), wk_tup q al h2⟩⟩
  · cases e
    obtain ⟨v, rfl, h⟩ := h0.one
    obtain ⟨a, vs, rfl, h1, h2⟩ := h.tuple
    exact call_tuple_of pins s σ H _ us Q I r ⟨_, _, rfl, .inr ⟨.inl (.inl (mi_lt h1)), wk_self q (.tup h1 h2)⟩⟩
  · cases e
theorem cr_list' : CallR X (.type "list") (rGA X.K biList) := by
  intro pins s σ H xs us Q I r ⟨O, ds, d, al, h0, e, q⟩
  unfold biList at e
  split at e
  · cases e
    obtain ⟨v, rfl, h⟩ := h0.one
    obtain ⟨a, vs, rfl, h1, h2⟩ := h.list
    exact call_list_of pins s σ H _ us Q I r ⟨_, _, rfl, .inl (.inl (.inl h1)), wk_lst q al h2⟩
  · cases e
    obtain ⟨v, rfl, h⟩ := h0.one
    obtain ⟨a, vs, rfl, h1, h2⟩ := h.tuple
    exact call_list_of pins s σ H _ us Q I r ⟨_, _, rfl, .inr (.inl (.inl (mi_lt h1))), wk_lst q al h2⟩
  · cases e
theorem collect_tup {prog : Program} {w : World} {A : Around} {E : Value → Shared → Prop} {s : Shared} {l : Addr} {vs : List Value} {o : Obj} {n : Nat} {Q : List Value → Shared → Prop} (ho : s.heap.get? l = some o) (hc : o.cls = .type "tuple") (hd : o.data = .seq vs.toArray n)
    (h : Q vs { s with heap := (s.heap.push (seqObj "list" #[] 0)).update s.heap.objs.size (Obj.mapSeq (· ++ vs.toArray)) }) (hsz : vs.length ≤ sizeLine) :
    wpAny (model prog w) A (collect (.ref l)) Q E s := by
  unfold collect
  refine wpAny_bind (wpAny_runValue (codeAny_builtin entry_proto_collect' ?_))
  show wpAny _ _ (do again (.builtin "list.__iadd__" ⟨[← newList [], .ref l], []⟩)) _ _ s
  refine wpAny_bind (wpAny_newList (wpAny_pure ⟨Code.quiet_builtin _ (by decide +kernel), codeAny_builtin entry_list_iadd' ?_⟩))
  show wpAny _ _ (Builtin.List.listExtendWith (.ref s.heap.objs.size) (.ref l) (.ref s.heap.objs.size)) _ _ { s with heap := s.heap.push (seqObj "list" #[] 0) }
  unfold Builtin.List.listExtendWith
  have ho' : (s.heap.push (seqObj "list" #[] 0)).get? l = some o := Heap.get?_push_of_some _ ho
  refine wpAny_bind (wpAny_typeOf (T := "tuple") ⟨o, ho', hc⟩ ?_)
  have ht : (Value.type "tuple" == Value.type "tuple") = true := by rfl
  rw [if_pos (by rw [ht]; simp)]
  refine wpAny_bind (listItems_at ho' hd ?_)
  refine wpAny_bind (listItems_at (xs := #[]) (n := 0) (Heap.get?_push_size _ rfl) rfl ?_)
  rw [if_neg (by simp)]
  refine wpAny_bind (listUpdate_at (xs := #[]) (n := 0) (Heap.get?_push_size _ rfl) rfl ?_ (Nat.zero_le _) (by show (#[] ++ vs.toArray).size ≤ sizeLine + 1; simp only [Array.size_append, List.size_toArray, List.length_nil]; omega))
  refine wpAny_pure ?_
  show wpAny (model prog w) A (do
      let o ← load s.heap.objs.size
      match o.data with
      | .seq xs _ => pure xs.toList
      | _ => unsupported "internal:collect") Q E { s with heap := (s.heap.push (seqObj "list" #[] 0)).update s.heap.objs.size (Obj.mapSeq (· ++ vs.toArray)) }
  refine wpAny_bind (wpAny_load (get?_update_seq (Heap.get?_push_size _ rfl) _) ?_)
  show wpAny _ _ (pure ((#[] : Array Value) ++ vs.toArray).toList) Q E _
  rw [show ((#[] : Array Value) ++ vs.toArray).toList = vs by simp]
  exact wpAny_pure h
/-- sorted of a tuple of ints -/
theorem cr_sortedTI : CallR X (.builtin "sorted") (fun vs H Q => ∃ (a : Addr) (ns : List Int), vs = [V.ref a] ∧ H a = some (.tup (ns.map V.int)) ∧ ∀ (ns' : List Int) (p : Addr), ns'.Perm ns → ns'.Pairwise (· ≤ ·) → H p = none → Q (.ref p) (upd H p (.lst (ns'.map V.int)))) := by
  intro pins s σ H vs us Q I r h
  obtain ⟨a, ns, rfl, ha, q⟩ := h
  obtain ⟨hz, its, rv, o, ho, hc, n, hd⟩ := I.hok a _ ha
  rw [Vals.ref1 r]
  have hi := rv.ints
  have hz' : its.length ≤ sizeLine := by rw [← rv.length]; exact hz
  refine Calls.call_function_entry kind_sorted plain_sorted entry_sorted (args_sorted1 _) ?_
  unfold Builtin.«sorted»
  refine wpAny_bind (m := checkCount "sorted" 1 1 _) (wpAny_pure ?_)
  refine wpAny_bind (collect_tup (vs := its) ho hc hd ?_ hz')
  refine wpAny_bind (wpAny_newList ?_ hz')
  have hsz : ((s.heap.push (seqObj "list" #[] 0)).update s.heap.objs.size (Obj.mapSeq (· ++ its.toArray))).objs.size = s.heap.objs.size + 1 := by
    rw [Heap.size_update, size_push']
  have hoL : (((s.heap.push (seqObj "list" #[] 0)).update s.heap.objs.size (Obj.mapSeq (· ++ its.toArray))).push (seqObj "list" its.toArray 0)).get? (s.heap.objs.size + 1) = some (seqObj "list" its.toArray 0) := by
    rw [← hsz]; exact Heap.get?_push_size _ rfl
  show wpAny _ _ _ _ _ { s with heap := ((s.heap.push (seqObj "list" #[] 0)).update s.heap.objs.size (Obj.mapSeq (· ++ its.toArray))).push (seqObj "list" its.toArray 0) }
  rw [hsz]
  refine wpAny_bind (wpAny_holding (wpAny_call_entry slot_list_sort ⟨_, hoL, rfl⟩ entry_list_sort (SrtO.list_sort_ord SrtO.swo_int hoL hz' (fun h2 => SrtO.ints_sortable hi h2) fun out h1 h2 => ⟨_, rfl, ?_⟩) (args_list_sort _)))
  obtain ⟨k1, k2, k3⟩ := SrtO.ints_out hi h1 h2
  obtain ⟨ep, he'⟩ := PyProof.Rows.sortedAll_at s.heap its out.toArray
  have hlen : ((out.map SrtO.iv).map V.int).length ≤ sizeLine := by
    rw [List.length_map, k2.length_eq]
    rw [List.length_map] at hz
    exact hz
  exact wpAny_pure ⟨_, rfl, .ref _, upd H (s.heap.objs.size + 1) (.lst ((out.map SrtO.iv).map V.int)), I.laid (t' := s.toks) (fun _ _ => PyProof.Rows.sortedAll_old) (Nat.le_succ _) ⟨hlen, out, ep, vals_of_ints k1, he'⟩, rfl, q _ _ k2 k3 (I.hok.fresh (Nat.le_succ _))⟩
theorem cr_sorted' : CallR X (.builtin "sorted") (rGA X.K biSorted) := by
  intro pins s σ H xs us Q I r ⟨O, ds, d, al, h0, e, q⟩
  unfold biSorted at e
  split at e
  · obtain ⟨v, rfl, h⟩ := h0.one
    obtain ⟨ns, hi, e⟩ := Option.map_eq_some_iff.mp e
    cases e
    have := ints_eq hi
    subst this
    obtain ⟨a, vs, rfl, h1, h2⟩ := h.list
    have := h2.ofInts
    subst this
    refine cr_sortedI pins s σ H _ us Q I r ⟨_, _, rfl, .inl (.inl h1), fun ns' p hp hs np => ?_⟩
    have : ns' = sortI ns := sorted_uniq _ _ (hp.trans (sortI_perm ns).symm) hs (sortI_sorted ns)
    subst this
    exact wk_lst q al (DrA.ints _) p np
  · obtain ⟨v, rfl, h⟩ := h0.one
    obtain ⟨ns, hi, e⟩ := Option.map_eq_some_iff.mp e
    cases e
    have := ints_eq hi
    subst this
    obtain ⟨a, vs, rfl, h1, h2⟩ := h.tuple
    have := h2.ofInts
    subst this
    refine cr_sortedTI pins s σ H _ us Q I r ⟨_, _, rfl, mi_lt h1, fun ns' p hp hs np => ?_⟩
    have : ns' = sortI ns := sorted_uniq _ _ (hp.trans (sortI_perm ns).symm) hs (sortI_sorted ns)
    subst this
    exact wk_lst q al (DrA.ints _) p np
  · cases e

/-! ### subscripts, slices -/
theorem atI_map {α β : Type} (f : α → β) (xs : List α) (i : Int) : atI (xs.map f) i = (atI xs i).map f := by
  unfold atI
  rw [List.length_map]
  cases ixN xs.length i with
  | none => rfl
  | some j => simp
theorem DrA.at {K : PySem.W.Frag} {H : Hp} {vs : List V} {ds : List D} {i : Int} {d : D} (h : DrA K H vs ds) (e : atI ds i = some d) : ∃ v, atI vs i = some v ∧ Dr K H v d := by
  unfold atI at e ⊢
  rw [h.len]
  cases q : ixN ds.length i with
  | none => rw [q] at e; cases e
  | some j =>
    rw [q] at e
    obtain ⟨v, h1, h2⟩ := h.get (i := j) e
    exact ⟨v, h1, h2⟩
theorem ixr : IxR X (rG2 X.K opIx) := by
  intro value slice pins s σ H x y v u Q I rx ry ⟨O, dx, dy, d, al, hx, hy, e, q⟩ hs
  unfold opIx at e
  split at e
  · cases hy.int
    obtain ⟨a, vs, rfl, h1, h2⟩ := hx.list
    obtain ⟨w, h3, h4⟩ := h2.at e
    exact ix_seq value slice pins s σ H _ _ v u Q I rx ry (.inl ⟨_, _, _, _, rfl, rfl, .inl (.inl h1), h3, wk_self q h4⟩) hs
  · cases hy.int
    obtain ⟨a, vs, rfl, h1, h2⟩ := hx.tuple
    obtain ⟨w, h3, h4⟩ := h2.at e
    exact ix_seq value slice pins s σ H _ _ v u Q I rx ry (.inr (.inl ⟨_, _, _, _, rfl, rfl, .inl (.inl (mi_lt h1)), h3, wk_self q h4⟩)) hs
  · cases hy.int
    split at e
    case isFalse => cases e
    rename_i ho
    obtain ⟨a, ns, rfl, rfl, h1⟩ := hx.dict ho
    rw [atI_map, Option.map_map] at e
    obtain ⟨n, h3, h4⟩ := Option.map_eq_some_iff.mp e
    cases h4
    exact ix_seq value slice pins s σ H _ _ v u Q I rx ry (.inl ⟨_, _, _, _, rfl, rfl, h1, (by rw [atI_map, h3]; rfl), wk_self q (.int _)⟩) hs
  · cases hx.str
    cases hy.int
    split at e
    · rename_i hl
      obtain ⟨c, h3, h4⟩ := Option.map_eq_some_iff.mp e
      cases h4
      exact ix_seq value slice pins s σ H _ _ v u Q I rx ry (.inr (.inr ⟨_, _, _, rfl, rfl, szl hl, h3, wk_self q (.str _)⟩)) hs
    · cases e
  · cases e
def rGs (K : PySem.W.Frag) (g : D → Option Int → Option Int → Option D) : V → Option Int → Option Int → Hp → VK → Prop := fun x lo hi H Q => ∃ O dx d, Al K O H ∧ Tp K O H x dx ∧ g dx lo hi = some d ∧ Wk K O H d Q
theorem DrA.cut {K : PySem.W.Frag} {H : Hp} {vs : List V} {ds : List D} (h : DrA K H vs ds) (lo hi : Option Int) : DrA K H (cutV vs lo hi) (cutD ds lo hi) := by
  unfold cutV cutD
  rw [h.len]
  exact (h.drop _).take _
theorem cutD_all {α : Type} {ds : List α} {lo hi : Option Int} (h1 : HT.sIx ds.length 0 lo = 0) (h2 : HT.sIx ds.length ds.length hi = ds.length) : cutD ds lo hi = ds := by
  unfold cutD
  rw [h1, h2]
  simp
theorem slr : SlR X (rGs X.K opSl) := by
  intro pins s σ H x v vl vu lo hi sl Q I rx hs pl pu ⟨O, dx, d, al, hx, e, q⟩
  unfold opSl at e
  split at e
  · cases e
    obtain ⟨a, vs, rfl, h1, h2⟩ := hx.list
    exact sl_list pins s σ H _ v vl vu _ _ sl Q I rx hs pl pu ⟨_, _, rfl, .inl (.inl h1), wk_lst q al (h2.cut _ _)⟩
  · cases e
    obtain ⟨a, vs, rfl, h1, h2⟩ := hx.tuple
    refine sl_tupA pins s σ H _ v vl vu _ _ sl Q I rx hs pl pu ⟨_, _, rfl, .inl (.inl (mi_lt h1)), fun hz => ?_, fun _ => wk_tup q al (h2.cut _ _)⟩
    rw [h2.len] at hz
    rw [cutD_all hz.1 hz.2] at q
    exact wk_self q (.tup h1 h2)
  · cases hx.str
    split at e
    · rename_i hl
      cases e
      exact sl_str pins s σ H _ v vl vu _ _ sl Q I rx hs pl pu ⟨_, rfl, szl hl, wk_self q (.str _)⟩
    · cases e
  · cases e
/-! ### isinstance -/
def tyN : Ty → String
  | .int => "int"
  | .bool => "bool"
  | .str => "str"
  | .tuple => "tuple"
  | .list => "list"
theorem cr_isi (T : Ty) : CallR X (.builtin "isinstance") (fun vs H Q => ∃ O x dx b, Al X.K O H ∧ vs = [x, .ty (tyN T)] ∧ Tp X.K O H x dx ∧ evIsi T dx = some b ∧ Q (.bl b) H) := by
  intro pins s σ H xs us Q I r ⟨O, x, dx, b, al, e0, hx, e, q⟩
  subst e0
  have go : ∀ (t : String), TyX X.K H x (.type t) → kitB t (tyN T) = some b → wpAny (model X.prog X.w) X.A (call (.builtin "isinstance") us) (EP X pins σ Q) X.xe s := fun t ht hk =>
    call_isi pins s σ H _ us Q I r ⟨_, _, _, _, _, rfl, .ty _, ht, kit_ty hk, q⟩
  cases dx with
  | none => cases hx.non; exact go "NoneType" (.base .non) (by cases T <;> cases e <;> decide +kernel)
  | bool _ => cases hx.bool; exact go "bool" (.base (.bl _)) (by cases T <;> cases e <;> decide +kernel)
  | int _ => cases hx.int; exact go "int" (.base (.int _)) (by cases T <;> cases e <;> decide +kernel)
  | str _ => cases hx.str; exact go "str" (.base (.str _)) (by cases T <;> cases e <;> decide +kernel)
  | list ds =>
    obtain ⟨a, vs, rfl, h1, h2⟩ := hx.list
    exact go "list" (.base (.lst h1)) (by cases T <;> cases e <;> decide +kernel)
  | tuple ds =>
    obtain ⟨a, vs, rfl, h1, h2⟩ := hx.tuple
    exact go "tuple" (.base (.tup (mi_lt h1))) (by cases T <;> cases e <;> decide +kernel)
  | dict _ => cases T <;> cases e
end
end J

/-! Expressions: what the machine does with them, by data. -/
namespace J
open PySem PySem.Spec PyProof.Rows L2
structure Re (K : PySem.W.Frag) (O : List Addr) (σ : L2.St) (H : Hp) (env : En) : Prop where
  len : σ.length = env.length
  al : Al K O H
  val : ∀ (i : Nat) (d : D), env[i]? = some (Sl.val d) → ∃ v, σ[i]? = some (some v) ∧ Dr K (mi H O) v d
  own : ∀ (i : Nat) (ds : List D), env[i]? = some (Sl.own ds) → ∃ a vs, σ[i]? = some (some (.ref a)) ∧ H a = some (.lst vs) ∧ DrA K (mi H O) vs ds
  bor : ∀ (i : Nat) (d : D), env[i]? = some (Sl.bor d) → ∃ v, σ[i]? = some (some v) ∧ Tp K O H v d
theorem Re.mono {K : PySem.W.Frag} {O : List Addr} {σ : L2.St} {H H' : Hp} {env : En} (h : Re K O σ H env) (e : Same H H') : Re K O σ H' env where
  len := h.len
  al := h.al.mono e
  val := fun i d q => let ⟨v, h1, h2⟩ := h.val i d q; ⟨v, h1, Dr.mono (mi_same e) d h2⟩
  own := fun i ds q => let ⟨a, vs, h1, h2, h3⟩ := h.own i ds q; ⟨a, vs, h1, e.at h2, DrA.mono (mi_same e) ds h3⟩
  bor := fun i d q => let ⟨v, h1, h2⟩ := h.bor i d q; ⟨v, h1, h2.mono e⟩

/-- contexts that differ by the state alone -/
structure Fam where
  P : Program
  w : World
  K : PySem.W.Frag
  mg : Str → Option Value
  base : Heap
  N : List Str
  sc : Scope
  n : Nat
  top : Bool
structure Fam.ok (C : Fam) (X : Cx) : Prop where
  hP : X.prog = C.P
  hw : X.w = C.w
  hK : X.K = C.K
  hmg : X.mg = C.mg
  hb : X.base = C.base
  hN : X.N = C.N
  hsc : X.env.scope = C.sc
  calm : X.calm = true
  room : Room C.n X.A
  xe : X.xe = fun _ _ => False
  fn : C.top = true → ∀ x, X.fn x = true
theorem Fam.ok.hu {C : Fam} {X : Cx} (h : C.ok X) : X.A.units + 64 < cLine := h.room.units
def Fam.blk (C : Fam) (scope : Scope) : Fam := { C with sc := relS scope C.sc, top := false }
theorem Fam.ok.blk {C : Fam} {X : Cx} (h : C.ok X) {s : Shared} {H : Hp} {scope : Scope} {cl : List (Str × Addr)} {A : Addr} {fp : List Addr} : (C.blk scope).ok (X.blk s H scope (compEnvC scope cl A X.env) fp) where
  hP := h.hP
  hw := h.hw
  hK := h.hK
  hmg := h.hmg
  hb := h.hb
  hN := h.hN
  hsc := by
    show relS scope X.env.scope = relS scope C.sc
    rw [h.hsc]
  calm := h.calm
  room := h.room
  xe := rfl
  fn := fun z => nomatch z

def SE (C : Fam) (e : Expr) (f : En → Option D) : Prop :=
  ∃ t, (∀ X, C.ok X → PE X e t) ∧ ∀ O σ H env Q d, Re C.K O σ H env → f env = some d → Wk C.K O H d Q → t σ H Q
def SB (C : Fam) (e : Expr) (f : En → Option D) : Prop :=
  ∃ t, (∀ X, C.ok X → PE X e t) ∧ ∀ O σ H env Q d, Re C.K O σ H env → f env = some d → (∀ v H', Same H H' → Tp C.K O H' v d → Q v H') → t σ H Q
def ST (C : Fam) (e : Expr) (f : En → Option D) : Prop :=
  ∃ t, (∀ X, C.ok X → PT X e t) ∧ ∀ O σ H env Q b, Re C.K O σ H env → f env = some (.bool b) → (∀ H', Same H H' → Q b H') → t σ H Q
/-- arguments: those with true may be borrowed -/
def ArgR (K : PySem.W.Frag) (O : List Addr) (H : Hp) : List Bool → List V → List D → Prop
  | _, [], [] => True
  | true :: bs, v :: vs, d :: ds => Tp K O H v d ∧ ArgR K O H bs vs ds
  | false :: bs, v :: vs, d :: ds => Dr K (mi H O) v d ∧ ArgR K O H bs vs ds
  | _, _, _ => False
def SA (C : Fam) (bs : List Bool) (es : List Expr) (f : En → Option (List D)) : Prop :=
  ∃ t, (∀ X, C.ok X → PA X es t) ∧ ∀ O σ H env Q ds, Re C.K O σ H env → f env = some ds → (∀ vs H', Same H H' → ArgR C.K O H' bs vs ds → Q vs H') → t σ H Q
theorem ArgR.mono {K : PySem.W.Frag} {O : List Addr} {H H' : Hp} (e : Same H H') : ∀ {bs : List Bool} {vs : List V} {ds : List D}, ArgR K O H bs vs ds → ArgR K O H' bs vs ds
  | _, [], [], _ => by unfold ArgR; trivial
  | true :: bs, _ :: _, _ :: _, ⟨h1, h2⟩ => ⟨h1.mono e, ArgR.mono e h2⟩
  | false :: bs, _ :: _, d :: _, ⟨h1, h2⟩ => ⟨Dr.mono (mi_same e) d h1, ArgR.mono e h2⟩
  | [], [], _ :: _, h => by simp [ArgR] at h
  | [], _ :: _, [], h => by simp [ArgR] at h
  | [], _ :: _, _ :: _, h => by simp [ArgR] at h
  | true :: _, [], _ :: _, h => by simp [ArgR] at h
  | true :: _, _ :: _, [], h => by simp [ArgR] at h
  | false :: _, [], _ :: _, h => by simp [ArgR] at h
  | false :: _, _ :: _, [], h => by simp [ArgR] at h
theorem ArgR.weak {K : PySem.W.Frag} {O : List Addr} {H : Hp} : ∀ {bs : List Bool} {vs : List V} {ds : List D}, ArgR K O H bs vs ds → TpA K O H vs ds
  | _, [], [], _ => trivial
  | true :: bs, _ :: _, _ :: _, ⟨h1, h2⟩ => ⟨h1, ArgR.weak h2⟩
  | false :: bs, _ :: _, d :: _, ⟨h1, h2⟩ => ⟨.of h1, ArgR.weak h2⟩
  | [], [], _ :: _, h => by simp [ArgR] at h
  | [], _ :: _, [], h => by simp [ArgR] at h
  | [], _ :: _, _ :: _, h => by simp [ArgR] at h
  | true :: _, [], _ :: _, h => by simp [ArgR] at h
  | true :: _, _ :: _, [], h => by simp [ArgR] at h
  | false :: _, [], _ :: _, h => by simp [ArgR] at h
  | false :: _, _ :: _, [], h => by simp [ArgR] at h
theorem ArgR.len {K : PySem.W.Frag} {O : List Addr} {H : Hp} : ∀ {bs : List Bool} {vs : List V} {ds : List D}, ArgR K O H bs vs ds → vs.length = ds.length
  | _, [], [], _ => rfl
  | true :: bs, _ :: _, _ :: _, ⟨_, h2⟩ => by rw [List.length_cons, List.length_cons, ArgR.len h2]
  | false :: bs, _ :: _, d :: _, ⟨_, h2⟩ => by rw [List.length_cons, List.length_cons, ArgR.len h2]
  | [], [], _ :: _, h => by simp [ArgR] at h
  | [], _ :: _, [], h => by simp [ArgR] at h
  | [], _ :: _, _ :: _, h => by simp [ArgR] at h
  | true :: _, [], _ :: _, h => by simp [ArgR] at h
  | true :: _, _ :: _, [], h => by simp [ArgR] at h
  | false :: _, [], _ :: _, h => by simp [ArgR] at h
  | false :: _, _ :: _, [], h => by simp [ArgR] at h
theorem ArgR.strict {K : PySem.W.Frag} {O : List Addr} {H : Hp} : ∀ {bs : List Bool} {vs : List V} {ds : List D}, ArgR K O H bs vs ds → bs.all (! ·) = true → DrA K (mi H O) vs ds
  | _, [], [], _, _ => .nil
  | true :: bs, _ :: _, _ :: _, _, h => by simp at h
  | false :: bs, _ :: _, d :: _, ⟨h1, h2⟩, h => .cons h1 (ArgR.strict h2 (by simpa using h))
  | [], [], _ :: _, h, _ => by simp [ArgR] at h
  | [], _ :: _, [], h, _ => by simp [ArgR] at h
  | [], _ :: _, _ :: _, h, _ => by simp [ArgR] at h
  | true :: _, [], _ :: _, h, _ => by simp [ArgR] at h
  | true :: _, _ :: _, [], h, _ => by simp [ArgR] at h
  | false :: _, [], _ :: _, h, _ => by simp [ArgR] at h
  | false :: _, _ :: _, [], h, _ => by simp [ArgR] at h

/-- an expression of a form that is served -/
def plainX : Expr → Bool
  | .Starred _ _ | .Slice _ _ _ _ | .Set _ _ _ | .SetComp _ _ _ _ | .DictComp _ _ _ _ _ | .NamedExpr _ _ _ | .Lambda _ _ _ _ | .IfExp _ _ _ _ => false
  | _ => true
theorem star_ok {e : Expr} {es : List Expr} {env : Env} (h : plainX e = true) : starEach (e :: es) env = (false, eval e env) :: starEach es env := by
  cases e <;> first | rfl | (simp [plainX] at h)
theorem star_any : ∀ {es : List Expr} {env : Env} {pos : Pos}, es.all plainX = true → (backTo pos (starEach es env)).any (·.1) = false
  | [], _, _, _ => rfl
  | e :: es, env, pos, h => by
    rw [List.all_cons, Bool.and_eq_true] at h
    rw [star_ok h.1]
    show (false || (backTo pos (starEach es env)).any (·.1)) = false
    rw [star_any h.2, Bool.or_false]
theorem plain_ix {e : Expr} (h : plainX e = true) : PlainIx e := fun o i => by
  cases e <;> first | rfl | (simp [plainX] at h)
theorem nofold {e : Expr} {env : Env} (h : plainX e = true) (x : Value) : foldedSetIterable e env x = pure x := by
  cases e <;> first | rfl | (simp [plainX] at h)
theorem nomark2 {e : Expr} {op : CmpOp} (h : plainX e = true) : behindInMarks op e = false := by
  cases e <;> first | rfl | (simp [plainX] at h)

section
variable {C : Fam} {a b c e : Expr} {es : List Expr} {f g k : En → Option D} {pos : Pos}
theorem SE.cg {f' : En → Option D} (h : SE C e f) (q : ∀ env, f' env = f env) : SE C e f' := by
  have : f' = f := funext q
  rw [this]; exact h
theorem SB.cg {f' : En → Option D} (h : SB C e f) (q : ∀ env, f' env = f env) : SB C e f' := by
  have : f' = f := funext q
  rw [this]; exact h
theorem ST.cg {f' : En → Option D} (h : ST C e f) (q : ∀ env, f' env = f env) : ST C e f' := by
  have : f' = f := funext q
  rw [this]; exact h
theorem SE.sb (h : SE C e f) : SB C e f := by
  obtain ⟨t, h1, h2⟩ := h
  exact ⟨t, h1, fun O σ H env Q d r hf q => h2 O σ H env Q d r hf fun v H' e hv => q v H' e (.of hv)⟩
theorem se_var {x : Str} {i : Nat} (hN : C.N[i]? = some x) (hv : Vis C.sc x) (hd : (x == ("__debug__" : Str)) = false) (hcd : (x == ("__classdict__" : Str)) = false) : SE C (.Name x pos) (fun env => getV env i) := by
  refine ⟨tVar i, fun X hX => pe_var (by rw [hX.hN]; exact hN) (by rw [hX.hsc]; exact hv) hd hcd, fun O σ H env Q d r hf q => ?_⟩
  replace hf : getV env i = some d := hf
  unfold getV at hf
  split at hf
  · rename_i d' hd'
    cases hf
    obtain ⟨v, h1, h2⟩ := r.val _ _ hd'
    exact ⟨v, h1, wk_self q h2⟩
  · cases hf
theorem sb_var {x : Str} {i : Nat} (hN : C.N[i]? = some x) (hv : Vis C.sc x) (hd : (x == ("__debug__" : Str)) = false) (hcd : (x == ("__classdict__" : Str)) = false) : SB C (.Name x pos) (fun env => getB env i) := by
  refine ⟨tVar i, fun X hX => pe_var (by rw [hX.hN]; exact hN) (by rw [hX.hsc]; exact hv) hd hcd, fun O σ H env Q d r hf q => ?_⟩
  replace hf : getB env i = some d := hf
  unfold getB at hf
  split at hf
  · rename_i d' hd'
    cases hf
    obtain ⟨v, h1, h2⟩ := r.val _ _ hd'
    exact ⟨v, h1, q v H (Same.refl H) (.of h2)⟩
  · rename_i ds hd'
    cases hf
    obtain ⟨a, vs, h1, h2, h3⟩ := r.own _ _ hd'
    exact ⟨_, h1, q _ H (Same.refl H) (.inr (.inl ⟨a, vs, ds, rfl, rfl, h2, h3⟩))⟩
  · rename_i d' hd'
    cases hf
    obtain ⟨v, h1, h2⟩ := r.bor _ _ hd'
    exact ⟨v, h1, q v H (Same.refl H) h2⟩
  · cases hf
theorem se_c {v : V} {d : D} (h : ∀ X, C.ok X → PE X e (tC v)) (hd : ∀ H, Dr C.K H v d) : SE C e (fun _ => some d) :=
  ⟨tC v, h, fun O σ H env Q d' r hf q => by cases hf; exact wk_self q (hd _)⟩
theorem se_bin {op : Operator} (ha : SB C a f) (hb : SB C b g) : SE C (.BinOp a op b pos) (fun env => match f env with
    | none => none
    | some x => match g env with
      | none => none
      | some y => opB op x y) := by
  obtain ⟨ta, ha1, ha2⟩ := ha
  obtain ⟨tb, hb1, hb2⟩ := hb
  refine ⟨tOp (rG2 C.K (opB op)) ta tb, fun X hX => ?_, fun O σ H env Q d r hf q => ?_⟩
  · rw [← hX.hK]; exact pe_op (opr_B op) (ha1 X hX) (hb1 X hX)
  · dsimp only at hf
    split at hf
    · cases hf
    · rename_i x hx
      split at hf
      · cases hf
      · rename_i y hy
        refine ha2 O σ H env _ x r hx fun v H1 s1 hv => hb2 O σ H1 env _ y (r.mono s1) hy fun w H2 s2 hw => ?_
        exact ⟨O, x, y, d, (r.mono (s1.trans s2)).al, hv.mono s2, hw, hf, fun z H' s3 hz => q z H' ((s1.trans s2).trans s3) hz⟩
theorem cmp_core {op : CmpOp} {ta tb : TE} (ha2 : ∀ O σ H env Q d, Re C.K O σ H env → f env = some d → (∀ v H', Same H H' → Tp C.K O H' v d → Q v H') → ta σ H Q)
    (hb2 : ∀ O σ H env Q d, Re C.K O σ H env → g env = some d → (∀ v H', Same H H' → Tp C.K O H' v d → Q v H') → tb σ H Q) {O : List Addr} {σ : L2.St} {H : Hp} {env : En} {Q : VK} {d : D} (r : Re C.K O σ H env)
    (hf : (match f env with
      | none => none
      | some x => match g env with
        | none => none
        | some y => (opC op x y).map PyData.bool) = some d) (q : ∀ bb H', Same H H' → d = .bool bb → Q (.bl bb) H') : tOp (rGc C.K (opC op)) ta tb σ H Q := by
  split at hf
  · cases hf
  · rename_i x hx
    split at hf
    · cases hf
    · rename_i y hy
      obtain ⟨bb, hbb, ed⟩ := Option.map_eq_some_iff.mp hf
      refine ha2 O σ H env _ x r hx fun v H1 s1 hv => hb2 O σ H1 env _ y (r.mono s1) hy fun w H2 s2 hw => ?_
      exact ⟨O, x, y, bb, (r.mono (s1.trans s2)).al, hv.mono s2, hw, hbb, q bb H2 (s1.trans s2) ed.symm⟩
theorem se_cmp {op : CmpOp} (ha : SB C a f) (hb : SB C b g) (hp : plainX b = true) : SE C (.Compare a [op] [b] pos) (fun env => match f env with
    | none => none
    | some x => match g env with
      | none => none
      | some y => (opC op x y).map PyData.bool) := by
  obtain ⟨ta, ha1, ha2⟩ := ha
  obtain ⟨tb, hb1, hb2⟩ := hb
  refine ⟨tOp (rGc C.K (opC op)) ta tb, fun X hX => ?_, fun O σ H env Q d r hf q => ?_⟩
  · rw [← hX.hK]; exact pe_cmpR (opr_C hX.hu op) (ha1 X hX) (hb1 X hX) (nomark2 hp)
  · exact cmp_core ha2 hb2 r hf fun bb H' s ed => by subst ed; exact q _ H' s (.bl _)
theorem st_cmp {op : CmpOp} (ha : SB C a f) (hb : SB C b g) (hp : plainX b = true) : ST C (.Compare a [op] [b] pos) (fun env => match f env with
    | none => none
    | some x => match g env with
      | none => none
      | some y => (opC op x y).map PyData.bool) := by
  obtain ⟨ta, ha1, ha2⟩ := ha
  obtain ⟨tb, hb1, hb2⟩ := hb
  refine ⟨tTest (tOp (rGc C.K (opC op)) ta tb), fun X hX => ?_, fun O σ H env Q d r hf q => ?_⟩
  · rw [← hX.hK]; exact pt_cmpR (opr_C hX.hu op) (ha1 X hX) (hb1 X hX) (nomark2 hp)
  · exact cmp_core ha2 hb2 r hf fun bb H' s ed => by cases ed; exact ⟨_, rfl, q H' s⟩
theorem lastM {op op' : CmpOp} (h : plainX c = true) : lastMarks [op, op'] [b, c] = false := nomark2 h
theorem chain_core {op op' : CmpOp} {ta tb tc : TE} (ha2 : ∀ O σ H env Q d, Re C.K O σ H env → f env = some d → (∀ v H', Same H H' → Tp C.K O H' v d → Q v H') → ta σ H Q)
    (hb2 : ∀ O σ H env Q d, Re C.K O σ H env → g env = some d → (∀ v H', Same H H' → Tp C.K O H' v d → Q v H') → tb σ H Q)
    (hc2 : ∀ O σ H env Q d, Re C.K O σ H env → k env = some d → (∀ v H', Same H H' → Tp C.K O H' v d → Q v H') → tc σ H Q) {O : List Addr} {σ : L2.St} {H : Hp} {env : En} {Q : VK} {d : D} (r : Re C.K O σ H env)
    (hf : (match f env with
      | none => none
      | some x => match g env with
        | none => none
        | some y => match opC op x y with
          | none => none
          | some false => some (.bool false)
          | some true => match k env with
            | none => none
            | some z => (opC op' y z).map PyData.bool) = some d) (q : ∀ bb H', Same H H' → d = .bool bb → Q (.bl bb) H') : tChain (rGc C.K (opC op)) (rGc C.K (opC op')) ta tb tc σ H Q := by
  split at hf
  · cases hf
  · rename_i x hx
    split at hf
    · cases hf
    · rename_i y hy
      refine ha2 O σ H env _ x r hx fun v H1 s1 hv => hb2 O σ H1 env _ y (r.mono s1) hy fun w H2 s2 hw => ?_
      split at hf
      · cases hf
      · rename_i ho
        cases hf
        refine ⟨O, x, y, false, (r.mono (s1.trans s2)).al, hv.mono s2, hw, ho, false, rfl, ?_⟩
        exact iteF (q _ H2 (s1.trans s2) rfl)
      · rename_i ho
        refine ⟨O, x, y, true, (r.mono (s1.trans s2)).al, hv.mono s2, hw, ho, true, rfl, ?_⟩
        refine iteT ?_
        split at hf
        · cases hf
        · rename_i z hz
          obtain ⟨bb, hbb, ed⟩ := Option.map_eq_some_iff.mp hf
          refine hc2 O σ H2 env _ z (r.mono (s1.trans s2)) hz fun u H3 s3 hu => ?_
          exact ⟨O, y, z, bb, (r.mono ((s1.trans s2).trans s3)).al, hw.mono s3, hu, hbb, q bb H3 ((s1.trans s2).trans s3) ed.symm⟩
theorem se_cmp2 {op op' : CmpOp} (ha : SB C a f) (hb : SB C b g) (hc : SB C c k) (hp : plainX c = true) : SE C (.Compare a [op, op'] [b, c] pos) (fun env => match f env with
      | none => none
      | some x => match g env with
        | none => none
        | some y => match opC op x y with
          | none => none
          | some false => some (.bool false)
          | some true => match k env with
            | none => none
            | some z => (opC op' y z).map PyData.bool) := by
  obtain ⟨ta, ha1, ha2⟩ := ha
  obtain ⟨tb, hb1, hb2⟩ := hb
  obtain ⟨tc, hc1, hc2⟩ := hc
  refine ⟨tChain (rGc C.K (opC op)) (rGc C.K (opC op')) ta tb tc, fun X hX => ?_, fun O σ H env Q d r hf q => ?_⟩
  · rw [← hX.hK]; exact pe_chain (opr_C hX.hu op) (opr_C hX.hu op') (ha1 X hX) (hb1 X hX) (hc1 X hX) (lastM hp)
  · exact chain_core ha2 hb2 hc2 r hf fun bb H' s ed => by subst ed; exact q _ H' s (.bl _)
theorem st_cmp2 {op op' : CmpOp} (ha : SB C a f) (hb : SB C b g) (hc : SB C c k) (hp : plainX c = true) : ST C (.Compare a [op, op'] [b, c] pos) (fun env => match f env with
      | none => none
      | some x => match g env with
        | none => none
        | some y => match opC op x y with
          | none => none
          | some false => some (.bool false)
          | some true => match k env with
            | none => none
            | some z => (opC op' y z).map PyData.bool) := by
  obtain ⟨ta, ha1, ha2⟩ := ha
  obtain ⟨tb, hb1, hb2⟩ := hb
  obtain ⟨tc, hc1, hc2⟩ := hc
  refine ⟨tTest (tChain (rGc C.K (opC op)) (rGc C.K (opC op')) ta tb tc), fun X hX => ?_, fun O σ H env Q d r hf q => ?_⟩
  · rw [← hX.hK]; exact pt_chain (opr_C hX.hu op) (opr_C hX.hu op') (ha1 X hX) (hb1 X hX) (hc1 X hX) (lastM hp)
  · exact chain_core ha2 hb2 hc2 r hf fun bb H' s ed => by cases ed; exact ⟨_, rfl, q H' s⟩
theorem st_of (h : SE C e f) (hs : ∀ env whole, isTrue e env whole = (do let v ← whole; standAt e.pos; holding [v] (truthy v))) : ST C e f := by
  obtain ⟨t, h1, h2⟩ := h
  refine ⟨tB t, fun X hX => pt_val (h1 X hX) (hs _), fun O σ H env Q b r hf q => h2 O σ H env _ _ r hf fun v H' s hv => ?_⟩
  cases hv
  exact ⟨b, rfl, q H' s⟩
theorem sb_st (h : SB C e f) (hs : ∀ env whole, isTrue e env whole = (do let v ← whole; standAt e.pos; holding [v] (truthy v))) : ST C e f := by
  obtain ⟨t, h1, h2⟩ := h
  refine ⟨tB t, fun X hX => pt_val (h1 X hX) (hs _), fun O σ H env Q b r hf q => h2 O σ H env _ _ r hf fun v H' s hv => ?_⟩
  cases hv.bool
  exact ⟨b, rfl, q H' s⟩
theorem se_neg (ha : SB C a f) : SE C (.UnaryOp .USub a pos) (fun env => match f env with
    | some (.int i) => some (.int (-i))
    | _ => none) := by
  obtain ⟨ta, ha1, ha2⟩ := ha
  refine ⟨tUn (rU fun i => V.int (-i)) ta, fun X hX => pe_un un_neg (ha1 X hX), fun O σ H env Q d r hf q => ?_⟩
  dsimp only at hf
  split at hf
  · rename_i i hi
    cases hf
    refine ha2 O σ H env _ _ r hi fun v H1 s1 hv => ?_
    cases hv.int
    exact ⟨i, rfl, q _ H1 s1 (.int _)⟩
  · cases hf
theorem se_not (ha : SB C a f) : SE C (.UnaryOp .Not a pos) (fun env => match f env with
    | some (.bool b) => some (.bool !b)
    | _ => none) := by
  obtain ⟨ta, ha1, ha2⟩ := ha
  refine ⟨tNotV ta, fun X hX => pe_not (ha1 X hX), fun O σ H env Q d r hf q => ?_⟩
  dsimp only at hf
  split at hf
  · rename_i i hi
    cases hf
    refine ha2 O σ H env _ _ r hi fun v H1 s1 hv => ?_
    cases hv.bool
    exact ⟨i, rfl, q _ H1 s1 (.bl _)⟩
  · cases hf
theorem st_not (ha : ST C a f) : ST C (.UnaryOp .Not a pos) (fun env => match f env with
    | some (.bool b) => some (.bool !b)
    | _ => none) := by
  obtain ⟨ta, ha1, ha2⟩ := ha
  refine ⟨tNot ta, fun X hX => pt_not (ha1 X hX), fun O σ H env Q d r hf q => ?_⟩
  dsimp only at hf
  split at hf
  · rename_i i hi
    cases hf
    exact ha2 O σ H env _ _ r hi fun H1 s1 => q H1 s1
  · cases hf
/-! and, or: as values, as tests -/
theorem se_one {op : BoolOp} (ha : SE C a f) : SE C (.BoolOp op [a] pos) f := by
  obtain ⟨ta, ha1, ha2⟩ := ha
  exact ⟨ta, fun X hX => pe_one (ha1 X hX), ha2⟩
theorem se_and (ha : SB C a f) (hb : SE C (.BoolOp .And (b :: es) pos) g) : SE C (.BoolOp .And (a :: b :: es) pos) (fun env => match f env with
    | some (.bool true) => g env
    | some (.bool false) => some (.bool false)
    | _ => none) := by
  obtain ⟨ta, ha1, ha2⟩ := ha
  obtain ⟨tb, hb1, hb2⟩ := hb
  refine ⟨tAndV ta tb, fun X hX => pe_and (ha1 X hX) (hb1 X hX), fun O σ H env Q d r hf q => ?_⟩
  dsimp only at hf
  split at hf
  · rename_i hi
    refine ha2 O σ H env _ _ r hi fun v H1 s1 hv => ?_
    cases hv.bool
    exact ⟨true, rfl, iteT (hb2 O σ H1 env _ _ (r.mono s1) hf fun v H2 s2 hv => q v H2 (s1.trans s2) hv)⟩
  · rename_i hi
    cases hf
    refine ha2 O σ H env _ _ r hi fun v H1 s1 hv => ?_
    cases hv.bool
    exact ⟨false, rfl, iteF (q _ H1 s1 (.bl _))⟩
  · cases hf
theorem se_or (ha : SB C a f) (hb : SE C (.BoolOp .Or (b :: es) pos) g) : SE C (.BoolOp .Or (a :: b :: es) pos) (fun env => match f env with
    | some (.bool true) => some (.bool true)
    | some (.bool false) => g env
    | _ => none) := by
  obtain ⟨ta, ha1, ha2⟩ := ha
  obtain ⟨tb, hb1, hb2⟩ := hb
  refine ⟨tOrV ta tb, fun X hX => pe_or (ha1 X hX) (hb1 X hX), fun O σ H env Q d r hf q => ?_⟩
  dsimp only at hf
  split at hf
  · rename_i hi
    cases hf
    refine ha2 O σ H env _ _ r hi fun v H1 s1 hv => ?_
    cases hv.bool
    exact ⟨true, rfl, iteT (q _ H1 s1 (.bl _))⟩
  · rename_i hi
    refine ha2 O σ H env _ _ r hi fun v H1 s1 hv => ?_
    cases hv.bool
    exact ⟨false, rfl, iteF (hb2 O σ H1 env _ _ (r.mono s1) hf fun v H2 s2 hv => q v H2 (s1.trans s2) hv)⟩
  · cases hf
/-- a test whatever its whole is -/
def SW (C : Fam) (e : Expr) (f : En → Option D) : Prop :=
  ∃ t, (∀ X, C.ok X → PW X e t) ∧ ∀ O σ H env Q b, Re C.K O σ H env → f env = some (.bool b) → (∀ H', Same H H' → Q b H') → t σ H Q
theorem SW.st (h : SW C e f) : ST C e f := by
  obtain ⟨t, h1, h2⟩ := h
  exact ⟨t, fun X hX => (h1 X hX).pt, h2⟩
theorem SW.cg {f' : En → Option D} (h : SW C e f) (q : ∀ env, f' env = f env) : SW C e f' := by
  have : f' = f := funext q
  rw [this]; exact h
theorem sw_and1 (ha : ST C a f) : SW C (.BoolOp .And [a] pos) f := by
  obtain ⟨ta, ha1, ha2⟩ := ha
  exact ⟨ta, fun X hX => pw_and1 (ha1 X hX), ha2⟩
theorem sw_or1 (ha : ST C a f) : SW C (.BoolOp .Or [a] pos) f := by
  obtain ⟨ta, ha1, ha2⟩ := ha
  exact ⟨ta, fun X hX => pw_or1 (ha1 X hX), ha2⟩
theorem sw_and (ha : ST C a f) (hb : SW C (.BoolOp .And (b :: es) pos) g) : SW C (.BoolOp .And (a :: b :: es) pos) (fun env => match f env with
    | some (.bool true) => g env
    | some (.bool false) => some (.bool false)
    | _ => none) := by
  obtain ⟨ta, ha1, ha2⟩ := ha
  obtain ⟨tb, hb1, hb2⟩ := hb
  refine ⟨tAnd ta tb, fun X hX => pw_and (ha1 X hX) (hb1 X hX), fun O σ H env Q d r hf q => ?_⟩
  dsimp only at hf
  split at hf
  · rename_i hi
    exact ha2 O σ H env _ _ r hi fun H1 s1 => iteT (hb2 O σ H1 env _ _ (r.mono s1) hf fun H2 s2 => q H2 (s1.trans s2))
  · rename_i hi
    cases hf
    exact ha2 O σ H env _ _ r hi fun H1 s1 => iteF (q H1 s1)
  · cases hf
theorem sw_or (ha : ST C a f) (hb : SW C (.BoolOp .Or (b :: es) pos) g) : SW C (.BoolOp .Or (a :: b :: es) pos) (fun env => match f env with
    | some (.bool true) => some (.bool true)
    | some (.bool false) => g env
    | _ => none) := by
  obtain ⟨ta, ha1, ha2⟩ := ha
  obtain ⟨tb, hb1, hb2⟩ := hb
  refine ⟨tOr ta tb, fun X hX => pw_or (ha1 X hX) (hb1 X hX), fun O σ H env Q d r hf q => ?_⟩
  dsimp only at hf
  split at hf
  · rename_i hi
    cases hf
    exact ha2 O σ H env _ _ r hi fun H1 s1 => iteT (q H1 s1)
  · rename_i hi
    exact ha2 O σ H env _ _ r hi fun H1 s1 => iteF (hb2 O σ H1 env _ _ (r.mono s1) hf fun H2 s2 => q H2 (s1.trans s2))
  · cases hf
/-! arguments, displays -/
theorem SA.cg {bs : List Bool} {f f' : En → Option (List D)} (h : SA C bs es f) (q : ∀ env, f' env = f env) : SA C bs es f' := by
  have : f' = f := funext q
  rw [this]; exact h
theorem sa_nil {bs : List Bool} : SA C bs [] (fun _ => some []) :=
  ⟨tNil, fun X hX => pa_nil, fun O σ H env Q ds r hf q => by cases hf; exact q [] H (Same.refl H) (by unfold ArgR; trivial)⟩
theorem sa_cons {bs : List Bool} {h : En → Option (List D)} (ha : SE C a f) (hr : SA C bs es h) (hp : plainX a = true) : SA C (false :: bs) (a :: es) (fun env => match f env with
    | none => none
    | some x => match h env with
      | none => none
      | some xs => some (x :: xs)) := by
  obtain ⟨ta, ha1, ha2⟩ := ha
  obtain ⟨tr, hr1, hr2⟩ := hr
  refine ⟨tCons ta tr, fun X hX => pa_cons (ha1 X hX) (hr1 X hX) (star_ok hp), fun O σ H env Q ds r hf q => ?_⟩
  dsimp only at hf
  split at hf
  · cases hf
  · rename_i x hx
    split at hf
    · cases hf
    · rename_i xs hxs
      cases hf
      refine ha2 O σ H env _ _ r hx fun v H1 s1 hv => hr2 O σ H1 env _ _ (r.mono s1) hxs fun vs H2 s2 hvs => ?_
      exact q _ H2 (s1.trans s2) ⟨Dr.mono (mi_same s2) _ hv, hvs⟩
theorem sa_consb {bs : List Bool} {h : En → Option (List D)} (ha : SB C a f) (hr : SA C bs es h) (hp : plainX a = true) : SA C (true :: bs) (a :: es) (fun env => match f env with
    | none => none
    | some x => match h env with
      | none => none
      | some xs => some (x :: xs)) := by
  obtain ⟨ta, ha1, ha2⟩ := ha
  obtain ⟨tr, hr1, hr2⟩ := hr
  refine ⟨tCons ta tr, fun X hX => pa_cons (ha1 X hX) (hr1 X hX) (star_ok hp), fun O σ H env Q ds r hf q => ?_⟩
  dsimp only at hf
  split at hf
  · cases hf
  · rename_i x hx
    split at hf
    · cases hf
    · rename_i xs hxs
      cases hf
      refine ha2 O σ H env _ _ r hx fun v H1 s1 hv => hr2 O σ H1 env _ _ (r.mono s1) hxs fun vs H2 s2 hvs => ?_
      exact q _ H2 (s1.trans s2) ⟨hv.mono s2, hvs⟩
theorem se_tup {bs : List Bool} {kk : Nat} {h : En → Option (List D)} (ha : SA C bs es h) (hb : bs.all (! ·) = true) : SE C (.Tuple es kk pos) (fun env => match h env with
    | none => none
    | some ds => if ds.length ≤ 1000 then some (.tuple ds) else none) := by
  obtain ⟨ta, ha1, ha2⟩ := ha
  refine ⟨tTup ta, fun X hX => pe_tup (ha1 X hX), fun O σ H env Q d r hf q => ?_⟩
  dsimp only at hf
  split at hf
  · cases hf
  · rename_i ds hds
    split at hf
    · rename_i hl
      cases hf
      refine ha2 O σ H env _ _ r hds fun vs H1 s1 hvs => ⟨szl24 (by rw [hvs.len]; omega), fun p hp => ?_⟩
      exact wk_tup (fun v H' s hv => q v H' (s1.trans s) hv) (r.mono s1).al (hvs.strict hb) p hp
    · cases hf
/-- a new list: fresh, its items strict without it -/
def SF (C : Fam) (e : Expr) (f : En → Option D) : Prop :=
  ∃ t, (∀ X, C.ok X → PE X e t) ∧ ∀ O σ H env (Q : VK) d, Re C.K O σ H env → f env = some d → (∀ p vs ds H', Same H H' → H p = none → d = .list ds → H' p = some (.lst vs) → DrA C.K (mi H' (p :: O)) vs ds → Q (.ref p) H') → t σ H Q
theorem sf_lst {bs : List Bool} {h : En → Option (List D)} (ha : SA C bs es h) (hb : bs.all (! ·) = true) : SF C (.List es pos) (fun env => match h env with
    | none => none
    | some ds => if ds.length ≤ 1000 then some (.list ds) else none) := by
  obtain ⟨ta, ha1, ha2⟩ := ha
  refine ⟨tLst ta, fun X hX => pe_lst (ha1 X hX), fun O σ H env Q d r hf q => ?_⟩
  dsimp only at hf
  split at hf
  · cases hf
  · rename_i ds hds
    split at hf
    · rename_i hl
      cases hf
      refine ha2 O σ H env _ _ r hds fun vs H1 s1 hvs => ⟨szl24 (by rw [hvs.len]; omega), fun p hp => ?_⟩
      exact q p vs ds _ (s1.trans (same_upd hp)) (s1.free hp) rfl upd_same (DrA.mono (mi_new hp (r.mono s1).al) ds (hvs.strict hb))
    · cases hf
theorem SF.cg {f' : En → Option D} (h : SF C e f) (q : ∀ env, f' env = f env) : SF C e f' := by
  have : f' = f := funext q
  rw [this]; exact h
theorem SF.se (h : SF C e f) : SE C e f := by
  obtain ⟨t, h1, h2⟩ := h
  refine ⟨t, h1, fun O σ H env Q d r hf q => h2 O σ H env Q d r hf fun p vs ds H' s hp ed hl hv => ?_⟩
  subst ed
  refine q _ _ s (.lst (xs := vs) ?_ (DrA.mono (mi_sub fun a ha => List.mem_cons_of_mem _ ha) ds hv))
  rw [mi_out (r.al.out hp), hl]; rfl
/-! calls of built-ins -/
theorem se_bi {x : Str} {id : String} {bs : List Bool} {h : En → Option (List D)} {g : List D → Option D} {p : Pos} (hc : ∀ X, C.ok X → CallR X (.builtin id) (rGA X.K g)) (hg : C.sc.names.lookup x = some .globalImplicit) (hm : C.mg x = none)
    (hv : bootBuiltins x = some (.builtin id)) (ha : SA C bs (e :: es) h) (hp : (e :: es).all plainX = true) (hn : x ≠ "__name__") (hdb : (x == ("__debug__" : Str)) = false) :
    SE C (.Call (.Name x p) (e :: es) [] pos) (fun env => match h env with
      | none => none
      | some ds => g ds) := by
  obtain ⟨ta, ha1, ha2⟩ := ha
  rw [List.all_cons, Bool.and_eq_true] at hp
  refine ⟨tCB (rGA C.K g) ta, fun X hX => ?_, fun O σ H env Q d r hf q => ?_⟩
  · rw [← hX.hK]
    exact pe_callB (hc X hX) (show X.env.scope.names.lookup x = _ by rw [hX.hsc]; exact hg) (by rw [hX.hmg]; exact hm) hv (ha1 X hX) hn hdb (star_ok hp.1) (star_any hp.2)
  · dsimp only at hf
    split at hf
    · cases hf
    · rename_i ds hds
      exact ha2 O σ H env _ _ r hds fun vs H1 s1 hvs => ⟨O, ds, d, (r.mono s1).al, hvs.weak, hf, fun v H' s hv => q v H' (s1.trans s) hv⟩
theorem se_ty {x : Str} {T : String} {bs : List Bool} {h : En → Option (List D)} {g : List D → Option D} {p : Pos} (hc : ∀ X, C.ok X → CallR X (.type T) (rGA X.K g)) (hg : C.sc.names.lookup x = some .globalImplicit) (hm : C.mg x = none)
    (hv : bootBuiltins x = some (.type T)) (ha : SA C bs (e :: es) h) (hp : (e :: es).all plainX = true) (hn : x ≠ "__name__") (hdb : (x == ("__debug__" : Str)) = false) :
    SE C (.Call (.Name x p) (e :: es) [] pos) (fun env => match h env with
      | none => none
      | some ds => g ds) := by
  obtain ⟨ta, ha1, ha2⟩ := ha
  rw [List.all_cons, Bool.and_eq_true] at hp
  refine ⟨tCB (rGA C.K g) ta, fun X hX => ?_, fun O σ H env Q d r hf q => ?_⟩
  · rw [← hX.hK]
    exact pe_callTy (hc X hX) (show X.env.scope.names.lookup x = _ by rw [hX.hsc]; exact hg) (by rw [hX.hmg]; exact hm) hv (ha1 X hX) hn hdb (star_ok hp.1) (star_any hp.2)
  · dsimp only at hf
    split at hf
    · cases hf
    · rename_i ds hds
      exact ha2 O σ H env _ _ r hds fun vs H1 s1 hvs => ⟨O, ds, d, (r.mono s1).al, hvs.weak, hf, fun v H' s hv => q v H' (s1.trans s) hv⟩
theorem se_isi {T : Ty} {x : Str} {p p2 : Pos} (ha : SB C a f) (hp : plainX a = true) (hg : C.sc.names.lookup ("isinstance" : Str) = some .globalImplicit) (hm : C.mg "isinstance" = none) (hg2 : C.sc.names.lookup x = some .globalImplicit) (hm2 : C.mg x = none)
    (hv2 : bootBuiltins x = some (.type (tyN T))) (hn : x ≠ "__name__") (hdb : (x == ("__debug__" : Str)) = false) :
    SE C (.Call (.Name "isinstance" p) [a, .Name x p2] [] pos) (fun env => match f env with
      | none => none
      | some d => (evIsi T d).map .bool) := by
  obtain ⟨ta, ha1, ha2⟩ := ha
  refine ⟨tCB (fun vs H Q => ∃ O y dx b, Al C.K O H ∧ vs = [y, .ty (tyN T)] ∧ Tp C.K O H y dx ∧ evIsi T dx = some b ∧ Q (.bl b) H) (tCons ta (tCons (tC (.ty (tyN T))) tNil)), fun X hX => ?_, fun O σ H env Q d r hf q => ?_⟩
  · rw [← hX.hK]
    exact pe_callB (cr_isi T) (show X.env.scope.names.lookup ("isinstance" : Str) = _ by rw [hX.hsc]; exact hg) (by rw [hX.hmg]; exact hm) (by decide +kernel)
      (pa_cons (ha1 X hX) (pa_cons (pe_bltn (show X.env.scope.names.lookup x = _ by rw [hX.hsc]; exact hg2) (by rw [hX.hmg]; exact hm2) hv2 rfl hn hdb) pa_nil) (star_ok hp)) (by decide) (by decide) (star_ok hp) (star_any rfl)
  · dsimp only at hf
    split at hf
    · cases hf
    · rename_i dx hdx
      obtain ⟨b, hb, ed⟩ := Option.map_eq_some_iff.mp hf
      subst ed
      refine ha2 O σ H env _ _ r hdx fun v H1 s1 hv => ?_
      exact ⟨O, v, dx, b, (r.mono s1).al, rfl, hv, hb, q _ H1 s1 (.bl _)⟩
theorem se_ix (ha : SB C a f) (hb : SB C b g) (hp : plainX b = true) : SE C (.Subscript a b pos) (fun env => match f env with
    | none => none
    | some x => match g env with
      | none => none
      | some y => opIx x y) := by
  obtain ⟨ta, ha1, ha2⟩ := ha
  obtain ⟨tb, hb1, hb2⟩ := hb
  refine ⟨tOp (rG2 C.K opIx) ta tb, fun X hX => ?_, fun O σ H env Q d r hf q => ?_⟩
  · rw [← hX.hK]; exact pe_ix ixr (ha1 X hX) (hb1 X hX) (plain_ix hp)
  · dsimp only at hf
    split at hf
    · cases hf
    · rename_i x hx
      split at hf
      · cases hf
      · rename_i y hy
        refine ha2 O σ H env _ x r hx fun v H1 s1 hv => hb2 O σ H1 env _ y (r.mono s1) hy fun w H2 s2 hw => ?_
        exact ⟨O, x, y, d, (r.mono (s1.trans s2)).al, hv.mono s2, hw, hf, fun z H' s3 hz => q z H' ((s1.trans s2).trans s3) hz⟩
/-- a part of a slice -/
def SO (C : Fam) (o : Option Expr) (f : En → Option (Option Int)) : Prop :=
  ∃ t, (∀ X, C.ok X → PO X o t) ∧ ∀ O σ H env Q d, Re C.K O σ H env → f env = some d → (∀ H', Same H H' → Q d H') → t σ H Q
theorem so_none : SO C none (fun _ => some none) := ⟨tNoPart, fun X hX => po_none, fun O σ H env Q d r hf q => by cases hf; exact q H (Same.refl H)⟩
theorem so_some (ha : SB C a f) : SO C (some a) (fun env => match f env with
    | some (.int i) => some (some i)
    | _ => none) := by
  obtain ⟨ta, ha1, ha2⟩ := ha
  refine ⟨tPart ta, fun X hX => po_some (ha1 X hX), fun O σ H env Q d r hf q => ?_⟩
  dsimp only at hf
  split at hf
  · rename_i i hi
    cases hf
    refine ha2 O σ H env _ _ r hi fun v H1 s1 hv => ?_
    cases hv.int
    exact ⟨i, rfl, q H1 s1⟩
  · cases hf
theorem SO.cg {o : Option Expr} {f f' : En → Option (Option Int)} (h : SO C o f) (q : ∀ env, f' env = f env) : SO C o f' := by
  have : f' = f := funext q
  rw [this]; exact h
theorem se_sl {lo hi : Option Expr} {l h : En → Option (Option Int)} {p2 : Pos} (ha : SB C a f) (hl : SO C lo l) (hh : SO C hi h) : SE C (.Subscript a (.Slice lo hi none p2) pos) (fun env => match f env with
    | none => none
    | some x => match l env with
      | none => none
      | some i => match h env with
        | none => none
        | some j => opSl x i j) := by
  obtain ⟨ta, ha1, ha2⟩ := ha
  obtain ⟨tl, hl1, hl2⟩ := hl
  obtain ⟨th, hh1, hh2⟩ := hh
  refine ⟨tSl (rGs C.K opSl) ta tl th, fun X hX => ?_, fun O σ H env Q d r hf q => ?_⟩
  · rw [← hX.hK]; exact pe_slice slr (ha1 X hX) (hl1 X hX) (hh1 X hX)
  · dsimp only at hf
    split at hf
    · cases hf
    · rename_i x hx
      split at hf
      · cases hf
      · rename_i i hi
        split at hf
        · cases hf
        · rename_i j hj
          refine ha2 O σ H env _ x r hx fun v H1 s1 hv => hl2 O σ H1 env _ i (r.mono s1) hi fun H2 s2 => hh2 O σ H2 env _ j (r.mono (s1.trans s2)) hj fun H3 s3 => ?_
          exact ⟨O, x, d, (r.mono ((s1.trans s2).trans s3)).al, hv.mono (s2.trans s3), hf, fun z H' s4 hz => q z H' (((s1.trans s2).trans s3).trans s4) hz⟩
end
end J

/-! Calls of defs, targets, what is walked, comprehensions. -/
namespace J
open PySem PySem.Spec PyProof.Rows L2
/-- what a def promises: the answer of F -/
def spF (K : PySem.W.Frag) (bs : List Bool) (F : List D → Option D) : Sp := fun vs H Q _ => ∃ O ds d, Al K O H ∧ ArgR K O H bs vs ds ∧ F ds = some d ∧ Wk K O H d Q
structure FnAt (C : Fam) (x : Str) (bs : List Bool) (F : List D → Option D) : Prop where
  ex : ∃ f fd ps, C.mg x = some (.ref f) ∧ FnOk C.P C.w C.K C.mg C.base CX0 C.n f fd ps (spF C.K bs F) ∧ PySem.W.keepIn C.K (.ref f) = true ∧ Binds C.K fd ps []
section
variable {C : Fam} {a b c e : Expr} {es : List Expr} {f g k : En → Option D} {pos : Pos}
theorem se_call {x : Str} {bs : List Bool} {F : List D → Option D} {h : En → Option (List D)} {p : Pos} (G : FnAt C x bs F) (hg : C.sc.names.lookup x = some .globalImplicit) (ha : SA C bs (e :: es) h) (hp : (e :: es).all plainX = true)
    (hdb : (x == ("__debug__" : Str)) = false) : SE C (.Call (.Name x p) (e :: es) [] pos) (fun env => match h env with
      | none => none
      | some ds => F ds) := by
  obtain ⟨ta, ha1, ha2⟩ := ha
  obtain ⟨fa, fd, ps, hm, hF, hk, hb⟩ := G.ex
  rw [List.all_cons, Bool.and_eq_true] at hp
  refine ⟨tCall (spF C.K bs F) [] E0 ta, fun X hX => ?_, fun O σ H env Q d r hf q => ?_⟩
  · refine pe_call (CX := CX0) (k := C.n) (f := fa) (fd := fd) (ps := ps) (ds := []) ?_ hX.room (show X.env.scope.names.lookup x = _ by rw [hX.hsc]; exact hg) (by rw [hX.hmg]; exact hm) (by rw [hX.hK]; exact hk) (by rw [hX.hK]; exact hb) .nil pass0 (ha1 X hX) hdb (star_ok hp.1) (star_any hp.2)
    rw [hX.hP, hX.hw, hX.hK, hX.hmg, hX.hb]
    exact hF
  · dsimp only at hf
    split at hf
    · cases hf
    · rename_i ds hds
      refine ha2 O σ H env _ _ r hds fun vs H1 s1 hvs => ?_
      rw [List.append_nil]
      exact ⟨O, ds, d, (r.mono s1).al, hvs, hf, fun v H' s hv => q v H' (s1.trans s) hv⟩

/-! ### join, split -/
def notCall : Expr → Bool
  | .Call _ _ _ _ => false
  | _ => true
theorem base_ok {o : Expr} {name : Str} {env : Env} (h : notCall o = true) : attributeBase o name env (eval o env) = eval o env := by
  cases o <;> first | rfl | (simp [notCall] at h)
theorem star1 {env : Env} (h : plainX e = true) : starEach [e] env = [(false, eval e env)] := star_ok h
theorem se_join {apos : Pos} (ha : SB C a f) (hb : SB C b g) (hp : plainX b = true) (ho : notCall a = true) (hl : (apos.endLine == pos.line) = true) :
    SE C (.Call (.Attribute a "join" apos) [b] [] pos) (fun env => match f env with
      | none => none
      | some x => match g env with
        | none => none
        | some y => opJoin x y) := by
  obtain ⟨ta, ha1, ha2⟩ := ha
  obtain ⟨tb, hb1, hb2⟩ := hb
  refine ⟨tM1 (fun x xs H Q => ∃ a p, ∃ ys : List Str, x = .str a ∧ xs = [.ref p] ∧ (SqL C.K H p (ys.map V.str) ∨ SqT C.K H p (ys.map V.str)) ∧ (ys.map (·.length)).sum + ys.length * a.length ≤ 16777216 ∧ Q (.str (Txt.join a ys)) H) ta tb,
    fun X hX => ?_, fun O σ H env Q d r hf q => ?_⟩
  · rw [← hX.hK]; exact pe_join (ha1 X hX) (hb1 X hX) (star1 hp) (base_ok ho) hl
  · dsimp only at hf
    split at hf
    · cases hf
    · rename_i x hx
      split at hf
      · cases hf
      · rename_i y hy
        refine ha2 O σ H env _ x r hx fun v H1 s1 hv => ?_
        unfold opJoin at hf
        split at hf
        · cases hv.str
          refine ⟨⟨_, rfl⟩, hb2 O σ H1 env _ _ (r.mono s1) hy fun w H2 s2 hw => ?_⟩
          obtain ⟨ys, hys, hf⟩ := Option.bind_eq_some_iff.mp hf
          split at hf
          · rename_i hl
            cases hf
            have := strs_eq hys
            subst this
            obtain ⟨p, vs, rfl, h1, h2⟩ := hw.list
            have := h2.ofStrs
            subst this
            exact ⟨_, p, ys, rfl, rfl, .inl (.inl (.inl h1)), by omega, q _ H2 (s1.trans s2) (.str _)⟩
          · cases hf
        · cases hf
theorem sf_split {apos : Pos} (ha : SB C a f) (hb : SB C b g) (hp : plainX b = true) (ho : notCall a = true) (hl : (apos.endLine == pos.line) = true) :
    SF C (.Call (.Attribute a "split" apos) [b] [] pos) (fun env => match f env with
      | none => none
      | some x => match g env with
        | none => none
        | some y => opSplit x y) := by
  obtain ⟨ta, ha1, ha2⟩ := ha
  obtain ⟨tb, hb1, hb2⟩ := hb
  refine ⟨_, fun X hX => pe_split (ha1 X hX) (hb1 X hX) (star1 hp) (base_ok ho) hl, fun O σ H env Q d r hf q => ?_⟩
  dsimp only at hf
  split at hf
  · cases hf
  · rename_i x hx
    split at hf
    · cases hf
    · rename_i y hy
      refine ha2 O σ H env _ x r hx fun v H1 s1 hv => ?_
      unfold opSplit at hf
      split at hf
      · cases hv.str
        refine ⟨⟨_, rfl⟩, hb2 O σ H1 env _ _ (r.mono s1) hy fun w H2 s2 hw => ?_⟩
        cases hw.str
        split at hf
        · rename_i hl
          cases hf
          refine ⟨_, _, rfl, rfl, by rw [hl.1]; rfl, Nat.le_trans (show _ ≤ 100002 by omega) (by decide), fun p hp => ?_⟩
          exact q p _ _ _ ((s1.trans s2).trans (same_upd hp)) ((s1.trans s2).free hp) rfl upd_same (DrA.strs _)
        · cases hf
      · cases hf
/-! ### list(range(..)), tuple(range(..)) -/
theorem rgV_rgD {K : PySem.W.Frag} {H : Hp} (lo hi : Int) : DrA K H (rgV lo hi) (rgD lo hi) := by
  unfold rgV rgD
  induction (List.range (hi - lo).toNat) with
  | nil => exact .nil
  | cons x r ih => exact .cons (.int _) ih
theorem rgOk_of {lo hi : Int} (h : rgOk lo hi = true) : RgOk lo hi := by
  unfold rgOk at h
  simp only [Bool.and_eq_true, decide_eq_true_eq] at h
  refine ⟨by omega, by omega, by omega, by omega, by omega⟩
/-- range(a), range(a, b) as an argument -/
def SR (C : Fam) (e : Expr) (l h : En → Option D) : Prop :=
  ∃ t, (∀ X, C.ok X → PRg X e t) ∧ ∀ O σ H env (Q : Int → Int → Hp → Prop) i j, Re C.K O σ H env → l env = some (.int i) → h env = some (.int j) → (∀ H', Same H H' → Q i j H') → t σ H Q
theorem sr_1 {p : Pos} (hg : C.sc.names.lookup ("range" : Str) = some .globalImplicit) (hm : C.mg "range" = none) (ha : SB C a f) (hp : plainX a = true) : SR C (.Call (.Name "range" p) [a] [] pos) (fun _ => some (.int 0)) f := by
  obtain ⟨ta, ha1, ha2⟩ := ha
  refine ⟨tRg1 ta, fun X hX => prg_1 (show X.env.scope.names.lookup ("range" : Str) = _ by rw [hX.hsc]; exact hg) (by rw [hX.hmg]; exact hm) (ha1 X hX) (star_ok hp), fun O σ H env Q i j r h1 h2 q => ?_⟩
  cases h1
  refine ha2 O σ H env _ _ r h2 fun v H1 s1 hv => ?_
  cases hv.int
  exact ⟨j, rfl, q H1 s1⟩
theorem sr_2 {p : Pos} (hg : C.sc.names.lookup ("range" : Str) = some .globalImplicit) (hm : C.mg "range" = none) (ha : SB C a f) (hb : SB C b g) (hp : plainX a = true) (hp2 : plainX b = true) : SR C (.Call (.Name "range" p) [a, b] [] pos) f g := by
  obtain ⟨ta, ha1, ha2⟩ := ha
  obtain ⟨tb, hb1, hb2⟩ := hb
  refine ⟨tRg2 ta tb, fun X hX => prg_2 (show X.env.scope.names.lookup ("range" : Str) = _ by rw [hX.hsc]; exact hg) (by rw [hX.hmg]; exact hm) (ha1 X hX) (hb1 X hX) (star_ok hp) (star_ok hp2) (hp := star_any (by rw [List.all_cons, hp2]; rfl)), fun O σ H env Q i j r h1 h2 q => ?_⟩
  refine ha2 O σ H env _ _ r h1 fun v H1 s1 hv => hb2 O σ H1 env _ _ (r.mono s1) h2 fun w H2 s2 hw => ?_
  cases hv.int
  cases hw.int
  exact ⟨i, j, rfl, rfl, q H2 (s1.trans s2)⟩
theorem opRg_of {x y : D} {ds : List D} (h : opRg x y = some ds) : ∃ i j, x = .int i ∧ y = .int j ∧ rgOk i j = true ∧ ds = rgD i j := by
  unfold opRg at h
  split at h
  · split at h
    · rename_i i j hr
      cases h
      exact ⟨_, _, rfl, rfl, hr, rfl⟩
    · cases h
  · cases h
theorem sf_rgL {p : Pos} {l h : En → Option D} (hr : SR C e l h) (hp : plainX e = true) (hg : C.sc.names.lookup ("list" : Str) = some .globalImplicit) (hm : C.mg "list" = none) : SF C (.Call (.Name "list" p) [e] [] pos) (fun env => match l env with
    | none => none
    | some x => match h env with
      | none => none
      | some y => (opRg x y).map .list) := by
  obtain ⟨t, h1, h2⟩ := hr
  refine ⟨tLstRg t, fun X hX => pe_listRg hX.calm (show X.env.scope.names.lookup ("list" : Str) = _ by rw [hX.hsc]; exact hg) (by rw [hX.hmg]; exact hm) (h1 X hX) (star_ok hp), fun O σ H env Q d r hf q => ?_⟩
  dsimp only at hf
  split at hf
  · cases hf
  · rename_i x hx
    split at hf
    · cases hf
    · rename_i y hy
      obtain ⟨ds, hds, ed⟩ := Option.map_eq_some_iff.mp hf
      obtain ⟨i, j, rfl, rfl, hk, rfl⟩ := opRg_of hds
      refine h2 O σ H env _ i j r hx hy fun H1 s1 => ⟨rgOk_of hk, fun p hp => ?_⟩
      exact q p _ _ _ (s1.trans (same_upd hp)) (s1.free hp) ed.symm upd_same (rgV_rgD i j)
theorem se_rgT {p : Pos} {l h : En → Option D} (hr : SR C e l h) (hp : plainX e = true) (hg : C.sc.names.lookup ("tuple" : Str) = some .globalImplicit) (hm : C.mg "tuple" = none) : SE C (.Call (.Name "tuple" p) [e] [] pos) (fun env => match l env with
    | none => none
    | some x => match h env with
      | none => none
      | some y => (opRg x y).map .tuple) := by
  obtain ⟨t, h1, h2⟩ := hr
  refine ⟨tTupRg t, fun X hX => pe_tupRg hX.calm (show X.env.scope.names.lookup ("tuple" : Str) = _ by rw [hX.hsc]; exact hg) (by rw [hX.hmg]; exact hm) (h1 X hX) (star_ok hp), fun O σ H env Q d r hf q => ?_⟩
  dsimp only at hf
  split at hf
  · cases hf
  · rename_i x hx
    split at hf
    · cases hf
    · rename_i y hy
      obtain ⟨ds, hds, ed⟩ := Option.map_eq_some_iff.mp hf
      obtain ⟨i, j, rfl, rfl, hk, rfl⟩ := opRg_of hds
      subst ed
      refine h2 O σ H env _ i j r hx hy fun H1 s1 => ⟨rgOk_of hk, fun p hp => ?_⟩
      exact wk_tup (fun v H' s hv => q v H' (s1.trans s) hv) (r.mono s1).al (rgV_rgD i j) p hp

/-! ### what is walked -/
def ItOk (K : PySem.W.Frag) (J : It) (ds : List D) (G : List (V × D)) : Prop := ∀ O H, Al K O H → (∀ g ∈ G, Dr K (mi H O) g.1 g.2) → ∀ i,
  (∀ d, ds[i]? = some d → J.go i H ∧ ∀ x H', J.yld i H x H' → Same H H' ∧ Dr K (mi H' O) x d) ∧ (ds.length ≤ i → J.stop i H)
def SI (C : Fam) (tg e : Expr) (f : En → Option (List D)) : Prop :=
  ∃ wi, (∀ X, C.ok X → PI X tg e wi) ∧ ∀ O σ H env (R : It → Hp → Prop) ds, Re C.K O σ H env → f env = some ds → (∀ J H1 G, Same H H1 → ItOk C.K J ds G → (∀ g ∈ G, Dr C.K (mi H1 O) g.1 g.2) → R J H1) → wi σ H R
theorem SI.cg {tg : Expr} {f f' : En → Option (List D)} (h : SI C tg e f) (q : ∀ env, f' env = f env) : SI C tg e f' := by
  have : f' = f := funext q
  rw [this]; exact h
theorem it_list {K : PySem.W.Frag} {a : Addr} {ds : List D} : ItOk K (Itl K a) ds [(.ref a, .list ds)] := fun O H al hG i => by
  have hg : Dr K (mi H O) (.ref a) (.list ds) := hG _ List.mem_cons_self
  cases hg with
  | lst h1 h2 =>
    rename_i xs
    have sq : SqL K H a xs := .inl (.inl (mi_lt h1))
    refine ⟨fun d hd => ?_, fun hl => ⟨xs, sq, by rw [h2.len]; exact hl⟩⟩
    obtain ⟨v, hv, hvd⟩ := h2.get hd
    refine ⟨⟨xs, v, sq, hv⟩, fun x H' hy => ?_⟩
    obtain ⟨rfl, hq⟩ := hy
    have := (hq xs sq).symm.trans hv
    cases this
    exact ⟨Same.refl _, hvd⟩
theorem it_tup {K : PySem.W.Frag} {a : Addr} {ds : List D} : ItOk K (Itt K a) ds [(.ref a, .tuple ds)] := fun O H al hG i => by
  have hg : Dr K (mi H O) (.ref a) (.tuple ds) := hG _ List.mem_cons_self
  cases hg with
  | tup h1 h2 =>
    rename_i xs
    have sq : SqT K H a xs := .inl (.inl (mi_lt h1))
    refine ⟨fun d hd => ?_, fun hl => ⟨xs, sq, by rw [h2.len]; exact hl⟩⟩
    obtain ⟨v, hv, hvd⟩ := h2.get hd
    refine ⟨⟨xs, v, sq, hv⟩, fun x H' hy => ?_⟩
    obtain ⟨rfl, hq⟩ := hy
    have := (hq xs sq).symm.trans hv
    cases this
    exact ⟨Same.refl _, hvd⟩
theorem it_scr {K : PySem.W.Frag} {a : Addr} {ns : List Int} : ItOk K (Itl K a) (ns.map .int) [(.ref a, .dict (ns.map fun n => (.int n, .none)))] := fun O H al hG i => by
  have hg : Dr K (mi H O) (.ref a) (.dict (ns.map fun n => (.int n, .none))) := hG _ List.mem_cons_self
  obtain ⟨b, ms, eb, em, sq⟩ := Tp.dict (Tp.of hg) (objD_scr ns)
  cases eb
  have inj : ∀ l l' : List Int, l.map (fun n => ((PyData.int n, PyData.none) : D × D)) = l'.map (fun n => (PyData.int n, PyData.none)) → l = l' := by
    intro l
    induction l with
    | nil => intro l' h; cases l' with
      | nil => rfl
      | cons _ _ => simp at h
    | cons x r ih => intro l' h; cases l' with
      | nil => simp at h
      | cons y r' => simp only [List.map_cons, List.cons.injEq, Prod.mk.injEq, PyData.int.injEq, and_true] at h; rw [h.1, ih r' h.2]
  have := inj _ _ em
  subst this
  refine ⟨fun d hd => ?_, fun hl => ⟨_, sq, by simpa using hl⟩⟩
  rw [List.getElem?_map] at hd
  obtain ⟨n, hn, ed⟩ := Option.map_eq_some_iff.mp hd
  subst ed
  have hv : (ns.map V.int)[i]? = some (.int n) := by rw [List.getElem?_map, hn]; rfl
  refine ⟨⟨_, _, sq, hv⟩, fun x H' hy => ?_⟩
  obtain ⟨rfl, hq⟩ := hy
  have := (hq _ sq).symm.trans hv
  cases this
  exact ⟨Same.refl _, .int _⟩
theorem it_str {K : PySem.W.Frag} {x : Str} : ItOk K (Its x) (charsD x) [] := fun O H al hG i => by
  have hsz : (charsD x).length = x.cps.size := by unfold charsD; rw [List.length_map, Array.length_toList]
  refine ⟨fun d hd => ?_, fun hl => by rw [hsz] at hl; exact hl⟩
  unfold charsD at hd
  rw [List.getElem?_map, Array.getElem?_toList] at hd
  obtain ⟨c, hc, ed⟩ := Option.map_eq_some_iff.mp hd
  subst ed
  refine ⟨(Array.getElem?_eq_some_iff.mp hc).1, fun y H' hy => ?_⟩
  obtain ⟨rfl, c', hc', rfl⟩ := hy
  rw [hc] at hc'
  cases hc'
  exact ⟨Same.refl _, .str _⟩
theorem it_rg {K : PySem.W.Frag} {lo hi : Int} : ItOk K (Itr lo (hi - lo).toNat) (rgD lo hi) [] := fun O H al hG i => by
  have hsz : (rgD lo hi).length = (hi - lo).toNat := by unfold rgD; rw [List.length_map, List.length_range]
  refine ⟨fun d hd => ?_, fun hl => by rw [hsz] at hl; exact hl⟩
  have hi' : i < (hi - lo).toNat := by rw [← hsz]; exact (List.getElem?_eq_some_iff.mp hd).1
  unfold rgD at hd
  rw [List.getElem?_map, List.getElem?_range hi'] at hd
  cases hd
  refine ⟨hi', fun y H' hy => ?_⟩
  obtain ⟨rfl, rfl⟩ := hy
  exact ⟨Same.refl _, .int _⟩
theorem PI.or {X : Cx} {tg e : Expr} {w1 w2 : TI} (h1 : PI X tg e w1) (h2 : PI X tg e w2) : PI X tg e (fun σ H R => w1 σ H R ∨ w2 σ H R) :=
  ⟨fun pins s σ H R I h => h.elim (fun q => h1.run pins s σ H R I q) fun q => h2.run pins s σ H R I q⟩
theorem si_any {tg : Expr} (h : SE C e f) : SI C tg e (fun env => match f env with
    | none => none
    | some x => itemsD x) := by
  obtain ⟨t, h1, h2⟩ := h
  refine ⟨fun σ H R => iList C.K t σ H R ∨ iTup C.K t σ H R ∨ iStr t σ H R, fun X hX => ?_, fun O σ H env R ds r hf q => ?_⟩
  · rw [← hX.hK]
    exact PI.or (pi_list (h1 X hX)) (PI.or (pi_tup (h1 X hX)) (pi_str (h1 X hX)))
  · dsimp only at hf
    split at hf
    · cases hf
    · rename_i x hx
      unfold itemsD at hf
      split at hf
      · cases hf
        refine .inl (h2 O σ H env _ _ r hx fun v H1 s1 hv => ?_)
        cases hv with
        | lst g1 g2 =>
          rename_i a xs
          refine ⟨a, rfl, ⟨xs, .inl (.inl (mi_lt g1))⟩, q _ H1 _ s1 it_list ?_⟩
          intro z hz
          rcases List.mem_singleton.mp hz with rfl
          exact .lst g1 g2
      · cases hf
        refine .inr (.inl (h2 O σ H env _ _ r hx fun v H1 s1 hv => ?_))
        cases hv with
        | tup g1 g2 =>
          rename_i a xs
          refine ⟨a, rfl, ⟨xs, .inl (.inl (mi_lt g1))⟩, q _ H1 _ s1 it_tup ?_⟩
          intro z hz
          rcases List.mem_singleton.mp hz with rfl
          exact .tup g1 g2
      · rename_i kvs
        refine .inl (h2 O σ H env _ _ r hx fun v H1 s1 hv => ?_)
        cases hv with
        | scr g1 =>
          rename_i a ns
          have e1 : (ns.map fun n => ((PyData.int n, PyData.none) : D × D)).map (·.1) = ns.map PyData.int := by rw [List.map_map]; rfl
          rw [e1] at hf
          cases hf
          refine ⟨a, rfl, ⟨_, same_sqL mi_le g1⟩, q _ H1 _ s1 it_scr ?_⟩
          intro z hz
          rcases List.mem_singleton.mp hz with rfl
          exact .scr g1
      · cases hf
        refine .inr (.inr (h2 O σ H env _ _ r hx fun v H1 s1 hv => ?_))
        cases hv
        exact ⟨_, rfl, q _ H1 [] s1 it_str fun z hz => by cases hz⟩
      · cases hf
theorem si_rg1 {tg : Expr} {p : Pos} (hg : C.sc.names.lookup ("range" : Str) = some .globalImplicit) (hm : C.mg "range" = none) (ha : SB C a f) (hp : plainX a = true) : SI C tg (.Call (.Name "range" p) [a] [] pos) (fun env => match (some (.int 0) : Option D) with
    | none => none
    | some l => match f env with
      | none => none
      | some h => opRg l h) := by
  obtain ⟨ta, ha1, ha2⟩ := ha
  refine ⟨iRng1 (tCons ta tNil), fun X hX => pi_range1 (show X.env.scope.names.lookup ("range" : Str) = _ by rw [hX.hsc]; exact hg) (by rw [hX.hmg]; exact hm) (pa_cons (ha1 X hX) pa_nil (star_ok hp)) (star1 hp), fun O σ H env R ds r hf q => ?_⟩
  dsimp only at hf
  split at hf
  · cases hf
  · rename_i y hy
    obtain ⟨i, j, ei, ej, hk, rfl⟩ := opRg_of hf
    cases ei
    subst ej
    unfold rgOk at hk
    simp only [Bool.and_eq_true, decide_eq_true_eq] at hk
    refine ha2 O σ H env _ _ r hy fun v H1 s1 hv => ?_
    cases hv.int
    refine ⟨j, rfl, by omega, by omega, ?_⟩
    have := q (Itr 0 (j - 0).toNat) H1 [] s1 it_rg (fun z hz => by cases hz)
    rw [Int.sub_zero] at this
    exact this
theorem si_rg2 {tg : Expr} {p : Pos} (hg : C.sc.names.lookup ("range" : Str) = some .globalImplicit) (hm : C.mg "range" = none) (ha : SB C a f) (hb : SB C b g) (hp : plainX a = true) (hp2 : plainX b = true) : SI C tg (.Call (.Name "range" p) [a, b] [] pos) (fun env => match f env with
    | none => none
    | some l => match g env with
      | none => none
      | some h => opRg l h) := by
  obtain ⟨ta, ha1, ha2⟩ := ha
  obtain ⟨tb, hb1, hb2⟩ := hb
  refine ⟨iRng2 (tCons ta (tCons tb tNil)), fun X hX => pi_range2 (show X.env.scope.names.lookup ("range" : Str) = _ by rw [hX.hsc]; exact hg) (by rw [hX.hmg]; exact hm) (pa_cons (ha1 X hX) (pa_cons (hb1 X hX) pa_nil (star_ok hp2)) (star_ok hp)) (by rw [star_ok hp, star1 hp2]) (star1 hp2), fun O σ H env R ds r hf q => ?_⟩
  dsimp only at hf
  split at hf
  · cases hf
  · rename_i x hx
    split at hf
    · cases hf
    · rename_i y hy
      obtain ⟨i, j, rfl, rfl, hk, rfl⟩ := opRg_of hf
      unfold rgOk at hk
      simp only [Bool.and_eq_true, decide_eq_true_eq] at hk
      refine ha2 O σ H env _ _ r hx fun v H1 s1 hv => hb2 O σ H1 env _ _ (r.mono s1) hy fun w H2 s2 hw => ?_
      cases hv.int
      cases hw.int
      exact ⟨i, j, rfl, ⟨by omega, by omega, by omega, by omega⟩, q _ H2 [] (s1.trans s2) it_rg fun z hz => by cases hz⟩

/-! ### targets -/
def tgs : List Nat → TGs
  | [] => gNil
  | i :: r => gCons (gName i) (tgs r)
def tgG (K : PySem.W.Frag) : List Nat → TG
  | [i] => gName i
  | tg => gTup K tg.length (tgs tg)
theorem tgs_run {K : PySem.W.Frag} {O : List Addr} {H : Hp} {Pr : L2.St → En → Prop} {Q : L2.St → Hp → Prop} {all : List Nat} (hset : ∀ σ env i v d, i ∈ all → Pr σ env → Dr K (mi H O) v d → Pr (σ.set i (some v)) (env.set i (.val d))) :
    ∀ (tg : List Nat) (vs : List V) (ds : List D) (σ : L2.St) (env env' : En), (∀ i ∈ tg, i ∈ all) → Pr σ env → DrA K (mi H O) vs ds → bindEach tg ds env = some env' → (∀ σ', Pr σ' env' → Q σ' H) → tgs tg vs σ H Q
  | [], vs, ds, σ, env, env', _, hp, hd, hb, q => by
    cases ds with
    | nil => cases hd; cases hb; exact ⟨rfl, q σ hp⟩
    | cons d ds => simp [bindEach] at hb
  | i :: tg, vs, ds, σ, env, env', hi, hp, hd, hb, q => by
    cases ds with
    | nil => simp [bindEach] at hb
    | cons d ds =>
      cases hd with
      | cons h1 h2 => exact ⟨_, _, rfl, tgs_run hset tg _ ds _ _ env' (fun j hj => hi j (List.mem_cons_of_mem _ hj)) (hset _ _ i _ _ (hi i List.mem_cons_self) hp h1) h2 hb q⟩
theorem bindEach_len : ∀ (tg : List Nat) (ds : List D) (env env' : En), bindEach tg ds env = some env' → tg.length = ds.length
  | [], [], _, _, _ => rfl
  | [], _ :: _, _, _, h => by simp [bindEach] at h
  | _ :: _, [], _, _, h => by simp [bindEach] at h
  | i :: tg, d :: ds, env, env', h => by rw [List.length_cons, List.length_cons, bindEach_len tg ds _ env' h]
theorem tgT_run {K : PySem.W.Frag} {O : List Addr} {H : Hp} {Pr : L2.St → En → Prop} {Q : L2.St → Hp → Prop} {tg : List Nat} (hset : ∀ σ env i v d, i ∈ tg → Pr σ env → Dr K (mi H O) v d → Pr (σ.set i (some v)) (env.set i (.val d)))
    {v : V} {ds : List D} {σ : L2.St} {env env' : En} (hp : Pr σ env) (hd : Dr K (mi H O) v (.tuple ds)) (hb : bindEach tg ds env = some env') (q : ∀ σ', Pr σ' env' → Q σ' H) : gTup K tg.length (tgs tg) v σ H Q := by
  cases hd with
  | tup h1 h2 => exact ⟨_, _, rfl, .inl (.inl (mi_lt h1)), by rw [h2.len, ← bindEach_len _ _ _ _ hb], tgs_run hset tg _ ds σ env env' (fun _ h => h) hp h2 hb q⟩
theorem tgG_run {K : PySem.W.Frag} {O : List Addr} {H : Hp} {Pr : L2.St → En → Prop} {Q : L2.St → Hp → Prop} {tg : List Nat} (hset : ∀ σ env i v d, i ∈ tg → Pr σ env → Dr K (mi H O) v d → Pr (σ.set i (some v)) (env.set i (.val d)))
    {v : V} {d : D} {σ : L2.St} {env env' : En} (hp : Pr σ env) (hd : Dr K (mi H O) v d) (hb : bindT tg d env = some env') (q : ∀ σ', Pr σ' env' → Q σ' H) : tgG K tg v σ H Q := by
  match tg with
  | [i] =>
    have hb' : some (env.set i (.val d)) = some env' := hb
    cases hb'
    exact q _ (hset _ _ i _ _ List.mem_cons_self hp hd)
  | [] =>
    cases d <;> first | (simp [bindT] at hb; done) | skip
    exact tgT_run hset hp hd hb q
  | i :: j :: r =>
    cases d <;> first | (simp [bindT] at hb; done) | skip
    exact tgT_run hset hp hd hb q
/-- a target's names -/
inductive TgN (C : Fam) : Expr → Nat → Prop
  | mk {x : Str} {i : Nat} {pos : Pos} (hi : C.N[i]? = some x) (hx : C.sc.names.lookup x = some .local ∨ (C.sc.names.lookup x = some .cell ∧ C.top = true)) : TgN C (.Name x pos) i
theorem TgN.pg {C : Fam} {e : Expr} {i : Nat} (h : TgN C e i) (nd : C.N.Nodup) {X : Cx} (hX : C.ok X) : PG X e (gName i) := by
  cases h with
  | mk hi hx =>
    refine pg_name (by rw [hX.hN]; exact nd) (by rw [hX.hN]; exact hi) ?_ ?_
    · rcases hx with hx | hx
      · exact .inl (by rw [hX.hsc]; exact hx)
      · exact .inr (by rw [hX.hsc]; exact hx.1)
    · rcases hx with hx | hx
      · exact .inr (by rw [hX.hsc]; exact hx)
      · exact .inl (hX.fn hx.2 _)
inductive TgNs (C : Fam) : List Expr → List Nat → Prop
  | nil : TgNs C [] []
  | cons {e : Expr} {es : List Expr} {i : Nat} {is : List Nat} : TgN C e i → TgNs C es is → TgNs C (e :: es) (i :: is)
theorem TgNs.pgs {C : Fam} (nd : C.N.Nodup) {X : Cx} (hX : C.ok X) : ∀ {es : List Expr} {is : List Nat}, TgNs C es is → PGs X es (tgs is)
  | _, _, .nil => pgs_nil
  | _, _, .cons h t => by
    refine pgs_cons (h.pg nd hX) (TgNs.pgs nd hX t) ?_
    cases h
    rfl
theorem TgNs.facts {C : Fam} {env : Env} : ∀ {es : List Expr} {is : List Nat}, TgNs C es is → (assignEach es env).length = is.length ∧ (assignEach es env).findIdx? (·.1) = none
  | _, _, .nil => ⟨rfl, rfl⟩
  | _, _, .cons h t => by
    obtain ⟨h1, h2⟩ := TgNs.facts (env := env) t
    cases h
    refine ⟨?_, ?_⟩
    · show (assignEach _ env).length + 1 = _
      rw [h1]; rfl
    · show List.findIdx? (·.1) ((false, _) :: assignEach _ env) = none
      rw [List.findIdx?_cons, h2]; rfl
/-- a target: a name, or a tuple of names -/
inductive TgOk (C : Fam) : Expr → List Nat → Prop
  | name {e : Expr} {i : Nat} : TgN C e i → TgOk C e [i]
  | tup {es : List Expr} {i j : Nat} {is : List Nat} {k : Nat} {pos : Pos} : TgNs C es (i :: j :: is) → TgOk C (.Tuple es k pos) (i :: j :: is)
theorem TgOk.pg {C : Fam} {e : Expr} {tg : List Nat} (h : TgOk C e tg) (nd : C.N.Nodup) {X : Cx} (hX : C.ok X) : PG X e (tgG C.K tg) := by
  cases h with
  | name h => exact h.pg nd hX
  | tup h =>
    have q := h.facts (env := X.env)
    have := pg_tup (k := ‹Nat›) (pos := ‹Pos›) hX.calm (h.pgs nd hX) q.1 q.2
    rw [hX.hK] at this
    exact this

/-! ### comprehensions -/
theorem wipeE_len {env : En} : ∀ vs : List Nat, (wipeE env vs).length = env.length
  | [] => rfl
  | v :: vs => by unfold wipeE; rw [List.length_set, wipeE_len vs]
theorem wipeE_out {env : En} {i : Nat} : ∀ {vs : List Nat}, i ∉ vs → (wipeE env vs)[i]? = env[i]?
  | [], _ => rfl
  | v :: vs, h => by
    simp only [List.mem_cons, not_or] at h
    unfold wipeE
    rw [List.getElem?_set_ne (fun e => h.1 e.symm), wipeE_out h.2]
theorem wipeE_in {env : En} {i : Nat} {d : Sl} : ∀ {vs : List Nat}, (wipeE env vs)[i]? = some d → d = .no ∨ (i ∉ vs ∧ env[i]? = some d)
  | [], h => .inr ⟨by simp, h⟩
  | v :: vs, h => by
    unfold wipeE at h
    by_cases hi : v = i
    · subst hi
      by_cases hl : v < (wipeE env vs).length
      · rw [List.getElem?_set_self hl] at h
        cases h
        exact .inl rfl
      · rw [List.getElem?_eq_none (by simpa using hl)] at h
        cases h
    · rw [List.getElem?_set_ne hi] at h
      rcases wipeE_in h with h | ⟨h1, h2⟩
      · exact .inl h
      · refine .inr ⟨?_, h2⟩
        simp only [List.mem_cons, not_or]
        exact ⟨fun e => hi e.symm, h1⟩
theorem Re.wipe {K : PySem.W.Frag} {O : List Addr} {σ : L2.St} {H : Hp} {env : En} (h : Re K O σ H env) (vs : List Nat) : Re K O (wipe σ vs) H (wipeE env vs) where
  len := by rw [wipe_length, wipeE_len]; exact h.len
  al := h.al
  val := fun i d q => by
    rcases wipeE_in q with z | ⟨h1, h2⟩
    · cases z
    · rw [wipe_out h1]; exact h.val i d h2
  own := fun i d q => by
    rcases wipeE_in q with z | ⟨h1, h2⟩
    · cases z
    · rw [wipe_out h1]; exact h.own i d h2
  bor := fun i d q => by
    rcases wipeE_in q with z | ⟨h1, h2⟩
    · cases z
    · rw [wipe_out h1]; exact h.bor i d h2
theorem Re.set {K : PySem.W.Frag} {O : List Addr} {σ : L2.St} {H : Hp} {env : En} (h : Re K O σ H env) {i : Nat} {v : V} {d : D} (hv : Dr K (mi H O) v d) : Re K O (σ.set i (some v)) H (env.set i (.val d)) where
  len := by rw [List.length_set, List.length_set]; exact h.len
  al := h.al
  val := fun j e q => by
    by_cases hij : i = j
    · subst hij
      by_cases hil : i < env.length
      · rw [List.getElem?_set_self hil] at q
        cases q
        exact ⟨v, List.getElem?_set_self (by rw [h.len]; exact hil), hv⟩
      · rw [List.getElem?_eq_none (by simpa using hil)] at q
        cases q
    · rw [List.getElem?_set_ne hij] at q
      rw [List.getElem?_set_ne hij]
      exact h.val j e q
  own := fun j e q => by
    by_cases hij : i = j
    · subst hij
      by_cases hil : i < env.length
      · rw [List.getElem?_set_self hil] at q
        cases q
      · rw [List.getElem?_eq_none (by simpa using hil)] at q
        cases q
    · rw [List.getElem?_set_ne hij] at q
      rw [List.getElem?_set_ne hij]
      exact h.own j e q
  bor := fun j e q => by
    by_cases hij : i = j
    · subst hij
      by_cases hil : i < env.length
      · rw [List.getElem?_set_self hil] at q
        cases q
      · rw [List.getElem?_eq_none (by simpa using hil)] at q
        cases q
    · rw [List.getElem?_set_ne hij] at q
      rw [List.getElem?_set_ne hij]
      exact h.bor j e q
end
end J

/-! Comprehensions; statements. -/
namespace J
open PySem PySem.Spec PyProof.Rows L2
theorem wipe_set {σ : L2.St} {i : Nat} {x : Option V} : ∀ {vs : List Nat}, i ∈ vs → wipe (σ.set i x) vs = wipe σ vs
  | [], h => by cases h
  | v :: vs, h => by
    unfold wipe
    by_cases hi : i = v
    · subst hi
      by_cases hm : i ∈ vs
      · rw [wipe_set hm]
      · have e : ∀ (ws : List Nat), i ∉ ws → wipe (σ.set i x) ws = (wipe σ ws).set i x := by
          intro ws
          induction ws with
          | nil => intro _; rfl
          | cons w ws ih =>
            intro hw
            simp only [List.mem_cons, not_or] at hw
            unfold wipe
            rw [ih hw.2, List.set_comm _ _ (fun z => hw.1 z)]
        rw [e vs hm, List.set_set]
    · have hm : i ∈ vs := by
        rcases List.mem_cons.mp h with z | z
        · exact absurd z hi
        · exact z
      rw [wipe_set hm]
theorem wipe_wipe {σ : L2.St} : ∀ (vs ws : List Nat), (∀ i ∈ vs, i ∈ ws) → wipe (wipe σ vs) ws = wipe σ ws
  | [], ws, _ => rfl
  | v :: vs, ws, h => by
    show wipe ((wipe σ vs).set v none) ws = _
    rw [wipe_set (h v List.mem_cons_self), wipe_wipe vs ws fun i hi => h i (List.mem_cons_of_mem _ hi)]
theorem mi_fresh {H H' : Hp} {O : List Addr} {p : Addr} (hp : H p = none) (s : Same H H') : Same (mi H O) (mi H' (p :: O)) := mi_of fun b u e1 e2 e3 => by
  have hb : b ≠ p := ne_of_none e2 hp
  exact ⟨by simp only [List.mem_cons, not_or]; exact ⟨hb, e1⟩, s.ext b u e2 e3⟩
theorem Tp.fresh {K : PySem.W.Frag} {H H' : Hp} {O : List Addr} {p : Addr} {v : V} {d : D} (h : Tp K O H v d) (hp : H p = none) (s : Same H H') : Tp K (p :: O) H' v d := h.mono' s (mi_fresh hp s)
theorem Re.fresh {K : PySem.W.Frag} {O : List Addr} {σ : L2.St} {H H' : Hp} {env : En} {p : Addr} (h : Re K O σ H env) (hp : H p = none) (s : Same H H') (hp' : ntO (H' p) = true) : Re K (p :: O) σ H' env where
  len := h.len
  al := ⟨fun a ha => by
    rcases List.mem_cons.mp ha with rfl | ha
    · exact hp'
    · exact (h.al.mono s).nt a ha, h.al.tb.mono s⟩
  val := fun i d q => let ⟨v, h1, h2⟩ := h.val i d q; ⟨v, h1, Dr.mono (mi_fresh hp s) d h2⟩
  own := fun i ds q => let ⟨a, vs, h1, h2, h3⟩ := h.own i ds q; ⟨a, vs, h1, s.at h2, DrA.mono (mi_fresh hp s) ds h3⟩
  bor := fun i d q => let ⟨v, h1, h2⟩ := h.bor i d q; ⟨v, h1, h2.fresh hp s⟩
/-- a comprehension's tests -/
def SC (C : Fam) (ifs : List Expr) (f : En → Option Bool) : Prop :=
  ∃ t, (∀ X, C.ok X → PTs X ifs t) ∧ ∀ O σ H env Q b, Re C.K O σ H env → f env = some b → (∀ H', Same H H' → Q b H') → t σ H Q
section
variable {C : Fam} {a b c e : Expr} {es : List Expr} {f g k : En → Option D} {pos : Pos}
theorem sc_nil : SC C [] (fun _ => some true) := ⟨tYes, fun X hX => pts_nil, fun O σ H env Q b r hf q => by cases hf; exact q H (Same.refl H)⟩
theorem sc_one (h : ST C a f) : SC C [a] (fun env => testD (f env)) := by
  obtain ⟨t, h1, h2⟩ := h
  refine ⟨t, fun X hX => pts_one (h1 X hX), fun O σ H env Q b r hf q => h2 O σ H env Q b r ?_ q⟩
  dsimp only at hf
  unfold testD at hf
  split at hf
  · rename_i b' hb
    cases hf
    exact hb
  · cases hf
theorem SC.cg {ifs : List Expr} {f f' : En → Option Bool} (h : SC C ifs f) (q : ∀ env, f' env = f env) : SC C ifs f' := by
  have : f' = f := funext q
  rw [this]; exact h
theorem lc_run {K : PySem.W.Frag} {tg vs : List Nat} {tt : TT} {te : TE} {cond : En → Option Bool} {elt : En → Option D} (htg : ∀ i ∈ tg, i ∈ vs)
    (ht : ∀ O σ H env Q b, Re K O σ H env → cond env = some b → (∀ H', Same H H' → Q b H') → tt σ H Q) (he : ∀ O σ H env Q d, Re K O σ H env → elt env = some d → Wk K O H d Q → te σ H Q)
    {O : List Addr} {σ : L2.St} {H : Hp} {env : En} (r : Re K O σ H env) {J : It} {ds tot : List D} {G : List (V × D)} (hJ : ItOk K J ds G) (hG : ∀ z ∈ G, Dr K (mi H O) z.1 z.2) (hz : ds.length ≤ 40000)
    (hc : compL (turnC tg vs cond elt env) ds = some tot) {Dl : Addr} (hD : H Dl = none) {Q : VK} (q : ∀ us H', Same H H' → H' Dl = some (.lst us) → DrA K (mi H' (Dl :: O)) us tot → Q (.ref Dl) H') :
    ∃ W : Nat → Nat → Hp → Prop, (∃ m, W 0 m (upd H Dl (.lst []))) ∧ ∀ i m H, W i m H →
      (J.stop i H ∧ Q (.ref Dl) H) ∨ (J.go i H ∧ ∃ Nx : Hp → Prop, (∀ H', Nx H' → ∃ m', m' < m ∧ W (i + 1) m' H') ∧ ∀ x H', J.yld i H x H' → tgG K tg x (wipe σ vs) H' fun σ2 H2 => wipe σ2 vs = wipe σ vs ∧ tt σ2 H2 fun b H3 =>
        if b = true then te σ2 H3 fun y H4 => ∃ acc, H4 Dl = some (.lst acc) ∧ acc.length < sizeLine ∧ Nx (upd H4 Dl (.lst (acc ++ [y]))) else Nx H3) := by
  refine ⟨fun i m H' => m = ds.length - i ∧ i ≤ ds.length ∧ Same H H' ∧ ∃ us ys rest, H' Dl = some (.lst us) ∧ us.length ≤ i ∧ DrA K (mi H' (Dl :: O)) us ys ∧ compL (turnC tg vs cond elt env) (ds.drop i) = some rest ∧ ys ++ rest = tot,
    ⟨ds.length, rfl, Nat.zero_le _, same_upd hD, [], [], tot, upd_same, Nat.le_refl _, .nil, hc, rfl⟩, fun i m H' hW => ?_⟩
  obtain ⟨em, hi, s, us, ys, rest, hl, hul, hu, hr, et⟩ := hW
  have al' : Al K (Dl :: O) H' := ⟨fun a ha => by
    rcases List.mem_cons.mp ha with rfl | ha
    · rw [hl]; rfl
    · exact (r.al.mono s).nt a ha, r.al.tb.mono s⟩
  have hG' : ∀ z ∈ G, Dr K (mi H' (Dl :: O)) z.1 z.2 := fun z hz => Dr.mono (mi_fresh hD s) _ (hG z hz)
  obtain ⟨j1, j2⟩ := hJ (Dl :: O) H' al' hG' i
  by_cases hin : i < ds.length
  · refine .inr ?_
    have hd : ds[i]? = some ds[i] := List.getElem?_eq_getElem hin
    obtain ⟨hgo, hy⟩ := j1 _ hd
    rw [List.drop_eq_getElem_cons hin] at hr
    unfold compL at hr
    split at hr
    · cases hr
    · rename_i yo hyo
      split at hr
      · cases hr
      · rename_i rest' hr'
        refine ⟨hgo, fun H'' => ∃ m', m' < m ∧ (m' = ds.length - (i + 1) ∧ i + 1 ≤ ds.length ∧ Same H H'' ∧ ∃ us ys rest, H'' Dl = some (.lst us) ∧ us.length ≤ i + 1 ∧ DrA K (mi H'' (Dl :: O)) us ys ∧ compL (turnC tg vs cond elt env) (ds.drop (i + 1)) = some rest ∧ ys ++ rest = tot), fun _ h => h, fun x H2 hx => ?_⟩
        obtain ⟨s2, hxd⟩ := hy x H2 hx
        have hl2 : H2 Dl = some (.lst us) := s2.at hl
        unfold turnC at hyo
        split at hyo
        · cases hyo
        · rename_i env' hb
          have rr : Re K (Dl :: O) (wipe σ vs) H2 (wipeE env vs) := (r.wipe vs).fresh hD (s.trans s2) (by rw [hl2]; rfl)
          refine tgG_run (Pr := fun σ' e' => Re K (Dl :: O) σ' H2 e' ∧ wipe σ' vs = wipe σ vs) (fun σ' e' i' v d hi' hp hv => ⟨hp.1.set hv, by rw [wipe_set (htg i' hi')]; exact hp.2⟩)
            ⟨rr, wipe_wipe vs vs fun _ h => h⟩ hxd hb fun σ2 hp => ⟨hp.2, ?_⟩
          split at hyo
          · cases hyo
          · rename_i hcd
            cases hyo
            refine ht _ σ2 H2 env' _ _ hp.1 hcd fun H3 s3 => iteF ⟨_, by omega, rfl, hin, (s.trans s2).trans s3, us, ys, rest', s3.at hl2, by omega, DrA.mono (mi_same (s2.trans s3)) _ hu, hr', ?_⟩
            cases hr
            exact et
          · rename_i hcd
            split at hyo
            · cases hyo
            · rename_i y hyy
              cases hyo
              cases hr
              refine ht _ σ2 H2 env' _ _ hp.1 hcd fun H3 s3 => iteT (he _ σ2 H3 env' _ _ (hp.1.mono s3) hyy fun v H4 s4 hv => ?_)
              have hl4 : H4 Dl = some (.lst us) := s4.at (s3.at hl2)
              have sal : Same H4 (upd H4 Dl (.lst (us ++ [v]))) → True := fun _ => trivial
              have emi : mi (upd H4 Dl (.lst (us ++ [v]))) (Dl :: O) = mi H4 (Dl :: O) := by
                funext b
                unfold mi
                split
                · rfl
                · rename_i hb
                  simp only [List.mem_cons, not_or] at hb
                  rw [upd_ne hb.1]
              refine ⟨us, hl4, szlt (by omega), _, by omega, rfl, hin, ?_, us ++ [v], ys ++ [y], rest', upd_same, by rw [List.length_append]; show us.length + 1 ≤ i + 1; omega, ?_, hr', by rw [List.append_assoc]; exact et⟩
              · exact ((s.trans s2).trans (s3.trans s4)).upd hD (by rw [hl4]; rfl)
              · rw [emi]
                exact DrA.app (DrA.mono (mi_same ((s2.trans s3).trans s4)) _ hu) (.cons hv .nil)
  · refine .inl ⟨j2 (by omega), ?_⟩
    have ei : i = ds.length := by omega
    rw [ei, List.drop_length] at hr
    cases hr
    rw [List.append_nil] at et
    subst et
    exact q us H' s hl hu
/-- a comprehension's own slots, as the layer wants them -/
def ownOf (N : List Str) (vs : List Nat) : List (Str × Nat) := vs.map fun i => (N.getD i "", i)
theorem ownOf_snd (N : List Str) (vs : List Nat) : (ownOf N vs).map (·.2) = vs := by
  unfold ownOf
  rw [List.map_map]
  exact List.map_id _
theorem sf_comp {elt tge iter : Expr} {ifs : List Expr} {scope : Scope} {tg vs : List Nat} {src : En → Option (List D)} {cond : En → Option Bool} (nd : C.N.Nodup) (hi : SI C tge iter src) (hp : plainX iter = true) (ok : BlkOk C.N C.sc scope (ownOf C.N vs)) (ht : TgOk (C.blk scope) tge tg) (htg : ∀ i ∈ tg, i ∈ vs)
    (hc : SC (C.blk scope) ifs cond) (he : SE (C.blk scope) elt f) : SF C (.ListComp elt [⟨tge, iter, ifs, 0⟩] scope pos) (fun env => match src env with
      | none => none
      | some ds => if ds.length ≤ 40000 then (compL (turnC tg vs cond f env) ds).map PyData.list else none) := by
  obtain ⟨wi, hi1, hi2⟩ := hi
  obtain ⟨tt, hc1, hc2⟩ := hc
  obtain ⟨te, he1, he2⟩ := he
  refine ⟨tLc wi (tgG C.K tg) tt te vs, fun X hX => ?_, fun O σ H env Q d r hf q => ?_⟩
  · have := pe_lc (pos := pos) (own := ownOf C.N vs) hX.calm (by rw [hX.hN]; exact nd) (hi1 X hX) (by rw [hX.hN, hX.hsc]; exact ok) (fun s H A cl fp => ht.pg nd hX.blk) (fun s H A cl fp => hc1 _ hX.blk) (fun s H A cl fp => he1 _ hX.blk) (nofold hp)
    rw [ownOf_snd] at this
    exact this
  · dsimp only at hf
    split at hf
    · cases hf
    · rename_i ds hds
      split at hf
      · rename_i hz
        obtain ⟨tot, htot, ed⟩ := Option.map_eq_some_iff.mp hf
        refine hi2 O σ H env _ ds r hds fun J H1 G s1 hJ hG Dl hD => ?_
        exact lc_run htg hc2 he2 (r.mono s1) hJ hG hz htot hD fun us H' s2 h1 h2 => q Dl us tot H' (s1.trans s2) (s1.free hD) ed.symm h1 h2
      · cases hf
end
end J

/-! Statements. -/
namespace J
open PySem PySem.Spec PyProof.Rows L2
/-- the state between two statements: O0, H0 the entry's; O the addresses that are kept apart, oa i that of the owned list in slot i; G what a loop walks -/
structure Rf (K : PySem.W.Frag) (O0 : List Addr) (H0 : Hp) (G : List (V × D)) (σ : L2.St) (H : Hp) (env : En) (O : List Addr) (oa : Nat → Addr) : Prop where
  len : σ.length = env.length
  al : Al K O H
  val : ∀ (i : Nat) (d : D), env[i]? = some (Sl.val d) → ∃ v, σ[i]? = some (some v) ∧ Dr K (mi H O) v d
  own : ∀ (i : Nat) (ds : List D), env[i]? = some (Sl.own ds) → σ[i]? = some (some (.ref (oa i))) ∧ oa i ∈ O ∧ H0 (oa i) = none ∧ oa i ∉ O0 ∧ ∃ vs, H (oa i) = some (.lst vs) ∧ DrA K (mi H O) vs ds
  bor : ∀ (i : Nat) (d : D), env[i]? = some (Sl.bor d) → ∃ v, σ[i]? = some (some v) ∧ Tp K O0 H0 v d
  inj : ∀ (i j : Nat) (ds es : List D), env[i]? = some (Sl.own ds) → env[j]? = some (Sl.own es) → oa i = oa j → i = j
  gh : ∀ g ∈ G, Dr K (mi H O) g.1 g.2
  ext : Same H0 H
  sub : ∀ a ∈ O0, a ∈ O
  new : ∀ a ∈ O, a ∈ O0 ∨ H0 a = none
def RF (K : PySem.W.Frag) (O0 : List Addr) (H0 : Hp) (G : List (V × D)) (σ : L2.St) (H : Hp) (env : En) : Prop := ∃ O oa, Rf K O0 H0 G σ H env O oa
section
variable {K : PySem.W.Frag} {O0 O : List Addr} {H0 H H' : Hp} {G : List (V × D)} {σ : L2.St} {env : En} {oa : Nat → Addr}
theorem Rf.base (h : Rf K O0 H0 G σ H env O oa) : Same (mi H0 O0) (mi H O) := mi_of fun b u e1 e2 e3 => by
  refine ⟨fun z => ?_, h.ext.ext b u e2 e3⟩
  rcases h.new b z with q | q
  · exact e1 q
  · rw [q] at e2; cases e2
theorem Rf.re (h : Rf K O0 H0 G σ H env O oa) : Re K O σ H env where
  len := h.len
  al := h.al
  val := h.val
  own := fun i ds q => let ⟨h1, _, _, _, vs, h2, h3⟩ := h.own i ds q; ⟨_, vs, h1, h2, h3⟩
  bor := fun i d q => by
    obtain ⟨v, h1, h2⟩ := h.bor i d q
    exact ⟨v, h1, h2.mono' h.ext h.base⟩
theorem Rf.mono (h : Rf K O0 H0 G σ H env O oa) (e : Same H H') : Rf K O0 H0 G σ H' env O oa where
  len := h.len
  al := h.al.mono e
  val := fun i d q => let ⟨v, h1, h2⟩ := h.val i d q; ⟨v, h1, Dr.mono (mi_same e) d h2⟩
  own := fun i ds q => let ⟨h1, h2, h3, h4, vs, h5, h6⟩ := h.own i ds q; ⟨h1, h2, h3, h4, vs, e.at h5, DrA.mono (mi_same e) ds h6⟩
  bor := h.bor
  inj := h.inj
  gh := fun g hg => Dr.mono (mi_same e) _ (h.gh g hg)
  ext := h.ext.trans e
  sub := h.sub
  new := h.new
theorem get_set {α : Type} {l : List α} {i j : Nat} {x y : α} (h : (l.set i x)[j]? = some y) : (i = j ∧ y = x ∧ i < l.length) ∨ (i ≠ j ∧ l[j]? = some y) := by
  by_cases hij : i = j
  · subst hij
    by_cases hil : i < l.length
    · rw [List.getElem?_set_self hil] at h
      cases h
      exact .inl ⟨rfl, rfl, hil⟩
    · rw [List.getElem?_eq_none (by simpa using hil)] at h
      cases h
  · rw [List.getElem?_set_ne hij] at h
    exact .inr ⟨hij, h⟩
theorem Rf.set (h : Rf K O0 H0 G σ H env O oa) {i : Nat} {v : V} {d : D} (hv : Dr K (mi H O) v d) : Rf K O0 H0 G (σ.set i (some v)) H (env.set i (.val d)) O oa where
  len := by rw [List.length_set, List.length_set]; exact h.len
  al := h.al
  val := fun j e q => by
    rcases get_set q with ⟨rfl, e1, hl⟩ | ⟨hij, q⟩
    · cases e1
      exact ⟨v, List.getElem?_set_self (by rw [h.len]; exact hl), hv⟩
    · rw [List.getElem?_set_ne hij]; exact h.val j e q
  own := fun j e q => by
    rcases get_set q with ⟨rfl, e1, hl⟩ | ⟨hij, q⟩
    · cases e1
    · rw [List.getElem?_set_ne hij]; exact h.own j e q
  bor := fun j e q => by
    rcases get_set q with ⟨rfl, e1, hl⟩ | ⟨hij, q⟩
    · cases e1
    · rw [List.getElem?_set_ne hij]; exact h.bor j e q
  inj := fun a b x y q1 q2 e => by
    rcases get_set q1 with ⟨rfl, e1, _⟩ | ⟨_, q1⟩
    · cases e1
    · rcases get_set q2 with ⟨rfl, e1, _⟩ | ⟨_, q2⟩
      · cases e1
      · exact h.inj a b x y q1 q2 e
  gh := h.gh
  ext := h.ext
  sub := h.sub
  new := h.new
/-- a fresh list is taken into slot i -/
theorem Rf.setO (h : Rf K O0 H0 G σ H env O oa) {i : Nat} {p : Addr} {vs : List V} {ds : List D} (s : Same H H') (hp : H p = none) (hl : H' p = some (.lst vs)) (hv : DrA K (mi H' (p :: O)) vs ds) :
    Rf K O0 H0 G (σ.set i (some (.ref p))) H' (env.set i (.own ds)) (p :: O) (fun j => if j = i then p else oa j) := by
  have hp0 : H0 p = none := h.ext.free hp
  have hpO : p ∉ O := h.al.out hp
  have hm : Same (mi H O) (mi H' (p :: O)) := mi_fresh hp s
  refine ⟨by rw [List.length_set, List.length_set]; exact h.len, ?_, fun j e q => ?_, fun j e q => ?_, fun j e q => ?_, fun a b x y q1 q2 e => ?_, fun g hg => Dr.mono hm _ (h.gh g hg), h.ext.trans s, fun a ha => List.mem_cons_of_mem _ (h.sub a ha), fun a ha => ?_⟩
  · refine ⟨fun a ha => ?_, h.al.tb.mono s⟩
    rcases List.mem_cons.mp ha with rfl | ha
    · rw [hl]; rfl
    · exact (h.al.mono s).nt a ha
  · rcases get_set q with ⟨rfl, e1, _⟩ | ⟨hij, q⟩
    · cases e1
    · rw [List.getElem?_set_ne hij]
      obtain ⟨v, h1, h2⟩ := h.val j e q
      exact ⟨v, h1, Dr.mono hm _ h2⟩
  · rcases get_set q with ⟨rfl, e1, hil⟩ | ⟨hij, q⟩
    · cases e1
      rw [if_pos rfl]
      exact ⟨List.getElem?_set_self (by rw [h.len]; exact hil), List.mem_cons_self, hp0, fun z => hpO (h.sub p z), vs, hl, hv⟩
    · rw [List.getElem?_set_ne hij, if_neg fun z => hij z.symm]
      obtain ⟨h1, h2, h3, h4, us, h5, h6⟩ := h.own j e q
      exact ⟨h1, List.mem_cons_of_mem _ h2, h3, h4, us, s.at h5, DrA.mono hm _ h6⟩
  · rcases get_set q with ⟨rfl, e1, _⟩ | ⟨hij, q⟩
    · cases e1
    · rw [List.getElem?_set_ne hij]; exact h.bor j e q
  · have ne : ∀ (j : Nat) (z : List D), env[j]? = some (Sl.own z) → oa j ≠ p := fun j z q e => by
      obtain ⟨_, h2, _⟩ := h.own j z q
      rw [e] at h2; exact hpO h2
    rcases get_set q1 with ⟨rfl, _, _⟩ | ⟨hia, q1⟩
    · rcases get_set q2 with ⟨rfl, _, _⟩ | ⟨hib, q2⟩
      · rfl
      · rw [if_pos rfl, if_neg fun z => hib z.symm] at e
        exact absurd e.symm (ne b y q2)
    · rcases get_set q2 with ⟨rfl, _, _⟩ | ⟨hib, q2⟩
      · rw [if_pos rfl, if_neg fun z => hia z.symm] at e
        exact absurd e (ne a x q1)
      · rw [if_neg fun z => hia z.symm, if_neg fun z => hib z.symm] at e
        exact h.inj a b x y q1 q2 e
  · rcases List.mem_cons.mp ha with rfl | ha
    · exact .inr hp0
    · exact h.new a ha
theorem mi_mut {p : Addr} {o : HO} (h : p ∈ O) : mi (upd H p o) O = mi H O := by
  funext b
  unfold mi
  split
  · rfl
  · rename_i hb
    rw [upd_ne fun z => hb (by rw [z]; exact h)]
/-- the owned list in slot i changes -/
theorem Rf.mut (h : Rf K O0 H0 G σ H env O oa) {i : Nat} {ds ds' : List D} {vs' : List V} (hi : env[i]? = some (Sl.own ds)) (hv : DrA K (mi H O) vs' ds') :
    Rf K O0 H0 G σ (upd H (oa i) (.lst vs')) (env.set i (.own ds')) O oa := by
  obtain ⟨i1, i2, i3, i4, us, i5, i6⟩ := h.own i ds hi
  have em : mi (upd H (oa i) (.lst vs')) O = mi H O := mi_mut i2
  have hil : i < env.length := (List.getElem?_eq_some_iff.mp hi).1
  refine ⟨by rw [List.length_set]; exact h.len, ?_, fun j e q => ?_, fun j e q => ?_, fun j e q => ?_, fun a b x y q1 q2 e => ?_, fun g hg => by rw [em]; exact h.gh g hg, ?_, h.sub, h.new⟩
  · refine ⟨fun a ha => ?_, h.al.tb.upd (by rw [i5]; rfl)⟩
    by_cases e : a = oa i
    · rw [e, upd_same]; rfl
    · rw [upd_ne e]; exact h.al.nt a ha
  · rcases get_set q with ⟨rfl, e1, _⟩ | ⟨hij, q⟩
    · cases e1
    · rw [em]; exact h.val j e q
  · rcases get_set q with ⟨rfl, e1, _⟩ | ⟨hij, q⟩
    · cases e1
      rw [em]
      exact ⟨i1, i2, i3, i4, vs', upd_same, hv⟩
    · obtain ⟨h1, h2, h3, h4, us, h5, h6⟩ := h.own j e q
      rw [em]
      exact ⟨h1, h2, h3, h4, us, by rw [upd_ne fun z => hij (h.inj j i _ _ q hi z).symm]; exact h5, h6⟩
  · rcases get_set q with ⟨rfl, e1, _⟩ | ⟨hij, q⟩
    · cases e1
    · exact h.bor j e q
  · have back : ∀ (j : Nat) (z : List D), (env.set i (.own ds'))[j]? = some (Sl.own z) → ∃ z', env[j]? = some (Sl.own z') := fun j z q => by
      rcases get_set q with ⟨rfl, _, _⟩ | ⟨_, q⟩
      · exact ⟨_, hi⟩
      · exact ⟨_, q⟩
    obtain ⟨x', q1⟩ := back a x q1
    obtain ⟨y', q2⟩ := back b y q2
    exact h.inj a b x' y' q1 q2 e
  · exact h.ext.upd i3 (by rw [i5]; rfl)
/-- the owned list in slot i is shared from now on -/
theorem Rf.shr (h : Rf K O0 H0 G σ H env O oa) {i : Nat} {ds : List D} (hi : env[i]? = some (Sl.own ds)) :
    Rf K O0 H0 G σ H (env.set i (.val (.list ds))) (O.filter fun a => decide (a ≠ oa i)) oa := by
  obtain ⟨i1, i2, i3, i4, us, i5, i6⟩ := h.own i ds hi
  have hsub : ∀ a ∈ O.filter (fun a => decide (a ≠ oa i)), a ∈ O := fun a ha => (List.mem_filter.mp ha).1
  have hm : Same (mi H O) (mi H (O.filter fun a => decide (a ≠ oa i))) := mi_sub hsub
  have hout : oa i ∉ O.filter fun a => decide (a ≠ oa i) := fun z => by
    have := (List.mem_filter.mp z).2
    simp at this
  refine ⟨by rw [List.length_set]; exact h.len, ⟨fun a ha => h.al.nt a (hsub a ha), h.al.tb⟩, fun j e q => ?_, fun j e q => ?_, fun j e q => ?_, fun a b x y q1 q2 e => ?_, fun g hg => Dr.mono hm _ (h.gh g hg), h.ext, fun a ha => ?_, fun a ha => h.new a (hsub a ha)⟩
  · rcases get_set q with ⟨rfl, e1, _⟩ | ⟨hij, q⟩
    · cases e1
      exact ⟨_, i1, .lst (xs := us) (by rw [mi_out hout, i5]; rfl) (DrA.mono hm _ i6)⟩
    · obtain ⟨v, h1, h2⟩ := h.val j e q
      exact ⟨v, h1, Dr.mono hm _ h2⟩
  · rcases get_set q with ⟨rfl, e1, _⟩ | ⟨hij, q⟩
    · cases e1
    · obtain ⟨h1, h2, h3, h4, us, h5, h6⟩ := h.own j e q
      refine ⟨h1, List.mem_filter.mpr ⟨h2, ?_⟩, h3, h4, us, h5, DrA.mono hm _ h6⟩
      exact decide_eq_true fun z => hij (h.inj j i _ _ q hi z).symm
  · rcases get_set q with ⟨rfl, e1, _⟩ | ⟨hij, q⟩
    · cases e1
    · exact h.bor j e q
  · rcases get_set q1 with ⟨rfl, e1, _⟩ | ⟨_, q1⟩
    · cases e1
    · rcases get_set q2 with ⟨rfl, e1, _⟩ | ⟨_, q2⟩
      · cases e1
      · exact h.inj a b x y q1 q2 e
  · refine List.mem_filter.mpr ⟨h.sub a ha, decide_eq_true fun z => ?_⟩
    rw [z] at ha
    exact i4 ha
end
def Post (K : PySem.W.Frag) (O0 : List Addr) (H0 : Hp) (G : List (V × D)) (Dn : Ends) : Fl → Prop
  | .nx env => ∀ σ H, RF K O0 H0 G σ H env → Dn.nx σ H
  | .rt d => ∀ v H, Same H0 H → Dr K (mi H O0) v d → Dn.rt v H
def SS (C : Fam) (sts : List Stmt) (f : En → Option Fl) : Prop :=
  ∃ t, (∀ X, C.ok X → PSs X sts t) ∧ ∀ O0 H0 G σ H env Dn fl, RF C.K O0 H0 G σ H env → f env = some fl → Post C.K O0 H0 G Dn fl → t Dn σ H
def S1 (C : Fam) (st : Stmt) (f : En → Option Fl) : Prop :=
  ∃ t, (∀ X, C.ok X → PS X st t) ∧ ∀ O0 H0 G σ H env Dn fl, RF C.K O0 H0 G σ H env → f env = some fl → Post C.K O0 H0 G Dn fl → t Dn σ H
section
variable {C : Fam} {a b c e : Expr} {es : List Expr} {f g k : En → Option D} {pos : Pos} {st : Stmt} {sts : List Stmt} {F F' : En → Option Fl}
theorem S1.cg (h : S1 C st F) (q : ∀ env, F' env = F env) : S1 C st F' := by
  have : F' = F := funext q
  rw [this]; exact h
theorem SS.cg (h : SS C sts F) (q : ∀ env, F' env = F env) : SS C sts F' := by
  have : F' = F := funext q
  rw [this]; exact h
theorem ss_nil : SS C [] (fun env => some (.nx env)) := ⟨tNext, fun X hX => pss_nil, fun O0 H0 G σ H env Dn fl r hf q => by cases hf; exact q σ H r⟩
theorem ss_cons (h1 : S1 C st F) (h2 : SS C sts F') : SS C (st :: sts) (fun env => match F env with
    | some (.nx env') => F' env'
    | q => q) := by
  obtain ⟨t, a1, a2⟩ := h1
  obtain ⟨u, b1, b2⟩ := h2
  refine ⟨tSeq t u, fun X hX => pss_cons (a1 X hX) (b1 X hX), fun O0 H0 G σ H env Dn fl r hf q => ?_⟩
  dsimp only at hf
  split at hf
  · rename_i env' he
    exact a2 O0 H0 G σ H env _ _ r he fun σ' H' r' => b2 O0 H0 G σ' H' env' Dn fl r' hf q
  · rename_i hn
    cases fl with
    | nx env' => exact absurd hf (hn env')
    | rt d => exact a2 O0 H0 G σ H env _ _ r hf q
theorem ss_shr {i : Nat} (h : SS C sts F) : SS C sts (fun env => match (match env[i]? with
      | some (.own ds) => some (Fl.nx (env.set i (.val (.list ds))))
      | _ => some (.nx env)) with
    | some (.nx env') => F env'
    | q => q) := by
  obtain ⟨t, h1, h2⟩ := h
  refine ⟨t, h1, fun O0 H0 G σ H env Dn fl r hf q => ?_⟩
  dsimp only at hf
  cases he : env[i]? with
  | none => rw [he] at hf; exact h2 _ _ _ _ _ _ _ _ r hf q
  | some sl =>
    rw [he] at hf
    cases sl with
    | own ds =>
      obtain ⟨O, oa, r⟩ := r
      exact h2 _ _ _ _ _ _ _ _ ⟨_, _, r.shr he⟩ hf q
    | no => exact h2 _ _ _ _ _ _ _ _ r hf q
    | val d => exact h2 _ _ _ _ _ _ _ _ r hf q
    | bor d => exact h2 _ _ _ _ _ _ _ _ r hf q

/-! ### x = e -/
def notComp : Expr → Bool
  | .ListComp _ _ _ _ | .SetComp _ _ _ _ | .DictComp _ _ _ _ _ => false
  | _ => true
theorem sw_no {t : Option Expr} {l : Nat} {env : Env} (h : notComp e = true) : swapsWith e t l env = pure false := by
  cases e <;> first | rfl | (simp [notComp] at h)
theorem sw_sole {tg : Expr} {l : Nat} {env : Env} (h : notComp e = true) : swapsWithSole [tg] e l env = pure false := by
  show swapsWith e (some tg) l env = pure false
  exact sw_no h
/-- an assignment to a name: its reading, with a new list as its value | with any value -/
def SGf (C : Fam) (st : Stmt) (i : Nat) (f : En → Option D) : Prop :=
  ∃ t, (∀ X, C.ok X → PS X st (tAsg t (gName i))) ∧ ∀ O σ H env (Q : VK) d, Re C.K O σ H env → f env = some d → (∀ p vs ds H', Same H H' → H p = none → d = .list ds → H' p = some (.lst vs) → DrA C.K (mi H' (p :: O)) vs ds → Q (.ref p) H') → t σ H Q
def SGv (C : Fam) (st : Stmt) (i : Nat) (f : En → Option D) : Prop :=
  ∃ t, (∀ X, C.ok X → PS X st (tAsg t (gName i))) ∧ ∀ O σ H env (Q : VK) d, Re C.K O σ H env → f env = some d → Wk C.K O H d Q → t σ H Q
theorem SGf.cg {i : Nat} {f' : En → Option D} (h : SGf C st i f) (q : ∀ env, f' env = f env) : SGf C st i f' := by
  have : f' = f := funext q
  rw [this]; exact h
theorem SGf.v {i : Nat} (h : SGf C st i f) : SGv C st i f := by
  obtain ⟨t, h1, h2⟩ := h
  refine ⟨t, h1, fun O σ H env Q d r hf q => h2 O σ H env Q d r hf fun p vs ds H' s hp ed hl hv => ?_⟩
  subst ed
  refine q _ _ s (.lst (xs := vs) ?_ (DrA.mono (mi_sub fun a ha => List.mem_cons_of_mem _ ha) ds hv))
  rw [mi_out (r.al.out hp), hl]; rfl
theorem TgN.set {x : Expr} {i : Nat} (h : TgN C x i) (nd : C.N.Nodup) {X : Cx} (hX : C.ok X) {t : TE} (he : PE X e t) (hn : notComp e = true) : PS X (.Assign [x] e pos) (tAsg t (gName i)) := by
  cases h with
  | mk hi hx =>
    refine ps_set (by rw [hX.hN]; exact nd) (by rw [hX.hN]; exact hi) ?_ he (sw_no hn) ?_
    · rcases hx with hx | hx
      · exact .inl (by rw [hX.hsc]; exact hx)
      · exact .inr (by rw [hX.hsc]; exact hx.1)
    · rcases hx with hx | hx
      · exact .inr (by rw [hX.hsc]; exact hx)
      · exact .inl (hX.fn hx.2 _)
theorem sgv {x : Expr} {i : Nat} (nd : C.N.Nodup) (h : TgN C x i) (he : SE C e f) (hn : notComp e = true) : SGv C (.Assign [x] e pos) i f := by
  obtain ⟨t, h1, h2⟩ := he
  exact ⟨t, fun X hX => h.set nd hX (h1 X hX) hn, h2⟩
theorem sgf {x : Expr} {i : Nat} (nd : C.N.Nodup) (h : TgN C x i) (he : SF C e f) (hn : notComp e = true) : SGf C (.Assign [x] e pos) i f := by
  obtain ⟨t, h1, h2⟩ := he
  exact ⟨t, fun X hX => h.set nd hX (h1 X hX) hn, h2⟩
theorem sgf_comp {y : Str} {py lpos : Pos} {i : Nat} {elt tge iter : Expr} {ifs : List Expr} {scope : Scope} {tg vs : List Nat} {src : En → Option (List D)} {cond : En → Option Bool} (nd : C.N.Nodup) (hy : C.N[i]? = some y) (hyl : C.sc.names.lookup y = some .local) (hk : C.sc.kind = .function) (hln : (py.line == lpos.line) = true)
    (hna : (scope.names.any fun (n, k) => n == y && (k == .local || k == .cell)) = false) (hi : SI C tge iter src) (hp : plainX iter = true) (ok : BlkOk C.N C.sc scope (ownOf C.N vs)) (ht : TgOk (C.blk scope) tge tg) (htg : ∀ i ∈ tg, i ∈ vs)
    (hc : SC (C.blk scope) ifs cond) (he : SE (C.blk scope) elt f) : SGf C (.Assign [.Name y py] (.ListComp elt [⟨tge, iter, ifs, 0⟩] scope lpos) pos) i (fun env => match src env with
      | none => none
      | some ds => if ds.length ≤ 40000 then (compL (turnC tg vs cond f env) ds).map PyData.list else none) := by
  obtain ⟨wi, hi1, hi2⟩ := hi
  obtain ⟨tt, hc1, hc2⟩ := hc
  obtain ⟨te, he1, he2⟩ := he
  refine ⟨tLc wi (tgG C.K tg) tt te vs, fun X hX => ?_, fun O σ H env Q d r hf q => ?_⟩
  · have := ps_setLc (pos := lpos) (spos := pos) (own := ownOf C.N vs) hX.calm (by rw [hX.hN]; exact nd) (by rw [hX.hN]; exact hy) (by rw [hX.hsc]; exact hyl) (sw_true (by rw [hX.hsc]; exact hk) (by rw [hX.hsc]; exact hyl) hln hna) (hi1 X hX) (by rw [hX.hN, hX.hsc]; exact ok)
      (fun s H A cl fp => ht.pg nd hX.blk) (fun s H A cl fp => hc1 _ hX.blk) (fun s H A cl fp => he1 _ hX.blk) (nofold hp)
    rw [ownOf_snd] at this
    exact this
  · dsimp only at hf
    split at hf
    · cases hf
    · rename_i ds hds
      split at hf
      · rename_i hz
        obtain ⟨tot, htot, ed⟩ := Option.map_eq_some_iff.mp hf
        refine hi2 O σ H env _ ds r hds fun J H1 G s1 hJ hG Dl hD => ?_
        exact lc_run htg hc2 he2 (r.mono s1) hJ hG hz htot hD fun us H' s2 h1 h2 => q Dl us tot H' (s1.trans s2) (s1.free hD) ed.symm h1 h2
      · cases hf
theorem s1_set {i : Nat} (h : SGv C st i f) : S1 C st (fun env => match f env with
    | none => none
    | some d => some (.nx (env.set i (.val d)))) := by
  obtain ⟨t, h1, h2⟩ := h
  refine ⟨_, h1, fun O0 H0 G σ H env Dn fl r hf q => ?_⟩
  obtain ⟨O, oa, r⟩ := r
  dsimp only at hf
  split at hf
  · cases hf
  · rename_i d hd
    cases hf
    exact h2 O σ H env _ d r.re hd fun v H' s hv => q _ _ ⟨O, oa, (r.mono s).set hv⟩
theorem s1_setO {i : Nat} (h : SGf C st i f) : S1 C st (fun env => match f env with
    | some (.list ds) => some (.nx (env.set i (.own ds)))
    | _ => none) := by
  obtain ⟨t, h1, h2⟩ := h
  refine ⟨_, h1, fun O0 H0 G σ H env Dn fl r hf q => ?_⟩
  obtain ⟨O, oa, r⟩ := r
  dsimp only at hf
  split at hf
  · rename_i ds hd
    cases hf
    refine h2 O σ H env _ _ r.re hd fun p vs ds' H' s hp ed hl hv => ?_
    cases ed
    exact q _ _ ⟨_, _, r.setO s hp hl hv⟩
  · cases hf
/-! ### a, b = e -/
def notTuple : Expr → Bool
  | .Tuple _ _ _ => false
  | _ => true
theorem sws_no {ts : List Expr} {kk : Nat} {tp : Pos} {env : Env} (h : notTuple e = true) : swappedStores [.Tuple ts kk tp] e env = pure none := by
  cases e <;> first | rfl | (simp [notTuple] at h)
theorem s1_unp {ts : List Expr} {kk : Nat} {tp : Pos} {i j : Nat} {is : List Nat} (nd : C.N.Nodup) (h : TgNs C ts (i :: j :: is)) (he : SE C e f) (hn : notComp e = true) (hw : ∀ X, C.ok X → swappedStores [.Tuple ts kk tp] e X.env = pure none) : S1 C (.Assign [.Tuple ts kk tp] e pos) (fun env => match f env with
    | some (.tuple ds) => (bindEach (i :: j :: is) ds env).map .nx
    | _ => none) := by
  obtain ⟨t, h1, h2⟩ := he
  refine ⟨tAsg t (tgG C.K (i :: j :: is)), fun X hX => ps_asg (h1 X hX) (TgOk.pg (.tup h) nd hX) (sw_sole hn) (hw X hX) rfl, fun O0 H0 G σ H env Dn fl r hf q => ?_⟩
  obtain ⟨O, oa, r⟩ := r
  dsimp only at hf
  split at hf
  · rename_i ds hd
    obtain ⟨env', hb, efl⟩ := Option.map_eq_some_iff.mp hf
    subst efl
    refine h2 O σ H env _ _ r.re hd fun v H' s hv => ?_
    exact tgT_run (Pr := fun σ' e' => Rf C.K O0 H0 G σ' H' e' O oa) (fun σ' e' i' v' d' _ hp hv' => hp.set hv') (r.mono s) hv hb fun σ' hp => q σ' H' ⟨O, oa, hp⟩
  · cases hf
theorem s1_par {x y : Str} {px py tp : Pos} {kt k2 : Nat} {p2 : Pos} {i j : Nat} (nd : C.N.Nodup) (hi : C.N[i]? = some x) (hj : C.N[j]? = some y) (hij : i ≠ j) (hx : C.sc.names.lookup x = some .local) (hy : C.sc.names.lookup y = some .local) (ha : SE C a f) (hb : SE C b g)
    (hpa : plainX a = true) (hpb : plainX b = true) (hw : ∀ X, C.ok X → swappedStores [.Tuple [.Name x px, .Name y py] kt tp] (.Tuple [a, b] k2 p2) X.env = pure (some [x, y])) :
    S1 C (.Assign [.Tuple [.Name x px, .Name y py] kt tp] (.Tuple [a, b] k2 p2) pos) (fun env => match f env with
      | none => none
      | some x => match g env with
        | none => none
        | some y => some (.nx ((env.set i (.val x)).set j (.val y)))) := by
  obtain ⟨ta, ha1, ha2⟩ := ha
  obtain ⟨tb, hb1, hb2⟩ := hb
  refine ⟨tPar i j (tCons ta (tCons tb tNil)), fun X hX => ps_par hX.calm (by rw [hX.hN]; exact nd) (by rw [hX.hN]; exact hi) (by rw [hX.hN]; exact hj) hij (by rw [hX.hsc]; exact hx) (by rw [hX.hsc]; exact hy) (pa_cons (ha1 X hX) (pa_cons (hb1 X hX) pa_nil (star_ok hpb)) (star_ok hpa)) (hw X hX) rfl,
    fun O0 H0 G σ H env Dn fl r hf q => ?_⟩
  obtain ⟨O, oa, r⟩ := r
  dsimp only at hf
  split at hf
  · cases hf
  · rename_i d1 hd1
    split at hf
    · cases hf
    · rename_i d2 hd2
      cases hf
      refine ha2 O σ H env _ _ r.re hd1 fun v H1 s1 hv => hb2 O σ H1 env _ _ (r.mono s1).re hd2 fun w H2 s2 hw => ⟨v, w, rfl, ?_⟩
      exact q _ _ ⟨O, oa, (((r.mono s1).mono s2).set (Dr.mono (mi_same s2) _ hv)).set hw⟩
/-! ### xs.append(e), xs[i] = e -/
theorem s1_app {x : Str} {p apos cpos : Pos} {i : Nat} (hN : C.N[i]? = some x) (hv : Vis C.sc x) (hd : (x == ("__debug__" : Str)) = false) (hcd : (x == ("__classdict__" : Str)) = false) (he : SE C e f) (hp : plainX e = true) (hl : (apos.endLine == cpos.line) = true) :
    S1 C (.Expr (.Call (.Attribute (.Name x p) "append" apos) [e] [] cpos) pos) (fun env => match env[i]? with
      | some (.own ds) => match f env with
        | none => none
        | some d => if ds.length < 100000 then some (.nx (env.set i (.own (ds ++ [d])))) else none
      | _ => none) := by
  obtain ⟨t, h1, h2⟩ := he
  refine ⟨tDrop (tBM C.K "list" rAppend (tVar i) (tCons t tNil)), fun X hX => ?_, fun O0 H0 G σ H env Dn fl r hf q => ?_⟩
  · rw [← hX.hK]
    refine ps_expr (pe_bm PySem.F.plainAttrs_list PySem.F.slot_list_append PySem.F.type_list_append mt_append (pe_var (by rw [hX.hN]; exact hN) (by rw [hX.hsc]; exact hv) hd hcd) (pa_cons (h1 X hX) pa_nil (star_ok hp)) rfl ?_ hl (star_ok hp) rfl)
    rw [star_ok hp]
    rfl
  · obtain ⟨O, oa, r⟩ := r
    dsimp only at hf
    split at hf
    · rename_i ds ho
      split at hf
      · cases hf
      · rename_i d hd
        split at hf
        · rename_i hz
          cases hf
          obtain ⟨o1, o2, o3, o4, vs, o5, o6⟩ := r.own i ds ho
          refine ⟨_, o1, .inl ⟨rfl, vs, .inl (.inl o5)⟩, h2 O σ H env _ _ r.re hd fun v H' s hv => ?_⟩
          have r' := r.mono s
          refine ⟨_, vs, v, rfl, rfl, s.at o5, szlt (by rw [o6.len]; exact hz), q _ _ ⟨O, oa, r'.mut ho ?_⟩⟩
          exact DrA.app (DrA.mono (mi_same s) _ o6) (.cons hv .nil)
        · cases hf
    · cases hf
theorem assign_sub {x : Str} {p sp : Pos} {env : Env} (hp : plainX b = true) (v : Value) : assign (.Subscript (.Name x p) b sp) env v = (do
      let ov ← holding [v] (eval (.Name x p) env)
      let iv ← holding [v, ov] (eval b env)
      standAt sp
      holding [v, ov, iv] (setItem ov iv v)
      release [v, ov, iv] []) := by
  cases b <;> first | rfl | (simp [plainX] at hp)
theorem s1_sti {x : Str} {p sp : Pos} {i : Nat} (hN : C.N[i]? = some x) (hv : Vis C.sc x) (hd : (x == ("__debug__" : Str)) = false) (hcd : (x == ("__classdict__" : Str)) = false) (he : SE C e f) (hb : SB C b g) (hp : plainX b = true) (hn : notComp e = true) :
    S1 C (.Assign [.Subscript (.Name x p) b sp] e pos) (fun env => match env[i]? with
      | some (.own ds) => match f env with
        | none => none
        | some d => match g env with
          | some (.int k) => match ixN ds.length k with
            | none => none
            | some j => some (.nx (env.set i (.own (ds.set j d))))
          | _ => none
      | _ => none) := by
  obtain ⟨t, h1, h2⟩ := he
  obtain ⟨tb, hb1, hb2⟩ := hb
  refine ⟨tAsg t (gSub (tVar i) tb rSetL), fun X hX => ?_, fun O0 H0 G σ H env Dn fl r hf q => ?_⟩
  · exact ps_asg (h1 X hX) (pg_sub (pe_var (by rw [hX.hN]; exact hN) (by rw [hX.hsc]; exact hv) hd hcd) (hb1 X hX) set_list (assign_sub hp)) (sw_sole hn) rfl rfl
  · obtain ⟨O, oa, r⟩ := r
    dsimp only at hf
    split at hf
    · rename_i ds ho
      split at hf
      · cases hf
      · rename_i d hd
        split at hf
        · rename_i kk hk
          split at hf
          · cases hf
          · rename_i j hj
            cases hf
            refine h2 O σ H env _ _ r.re hd fun v H1 s1 hv => ?_
            have r1 := r.mono s1
            obtain ⟨o1, o2, o3, o4, vs, o5, o6⟩ := r1.own i ds ho
            refine ⟨_, o1, hb2 O σ H1 env _ _ r1.re hk fun w H2 s2 hw => ?_⟩
            cases hw.int
            have r2 := r1.mono s2
            refine ⟨_, vs, kk, j, rfl, rfl, s2.at o5, by rw [o6.len]; exact hj, q _ _ ⟨O, oa, r2.mut ho ?_⟩⟩
            exact DrA.set (Dr.mono (mi_same s2) _ hv) j (DrA.mono (mi_same s2) _ o6)
        · cases hf
    · cases hf
/-! ### if, for, while, return -/
theorem s1_if {A B : List Stmt} {FA FB : En → Option Fl} (hc : ST C c f) (ha : SS C A FA) (hb : SS C B FB) : S1 C (.If c A B pos) (fun env => match testD (f env) with
    | none => none
    | some true => FA env
    | some false => FB env) := by
  obtain ⟨tc, hc1, hc2⟩ := hc
  obtain ⟨ta, ha1, ha2⟩ := ha
  obtain ⟨tb, hb1, hb2⟩ := hb
  refine ⟨tIfS tc ta tb, fun X hX => ps_if (hc1 X hX) (ha1 X hX) (hb1 X hX), fun O0 H0 G σ H env Dn fl r hf q => ?_⟩
  obtain ⟨O, oa, r⟩ := r
  dsimp only at hf
  have tsv : ∀ bb, testD (f env) = some bb → f env = some (.bool bb) := fun bb h => by
    unfold testD at h
    split at h
    · rename_i b' hb'; cases h; exact hb'
    · cases h
  split at hf
  · cases hf
  · rename_i ht
    exact hc2 O σ H env _ _ r.re (tsv _ ht) fun H1 s1 => iteT (ha2 O0 H0 G σ H1 env Dn fl ⟨O, oa, r.mono s1⟩ hf q)
  · rename_i ht
    exact hc2 O σ H env _ _ r.re (tsv _ ht) fun H1 s1 => iteF (hb2 O0 H0 G σ H1 env Dn fl ⟨O, oa, r.mono s1⟩ hf q)
theorem Rf.gsub {K : PySem.W.Frag} {O0 O : List Addr} {H0 H : Hp} {G G' : List (V × D)} {σ : L2.St} {env : En} {oa : Nat → Addr} (h : Rf K O0 H0 G σ H env O oa) (hg : ∀ z ∈ G', Dr K (mi H O) z.1 z.2) : Rf K O0 H0 G' σ H env O oa :=
  ⟨h.len, h.al, h.val, h.own, h.bor, h.inj, hg, h.ext, h.sub, h.new⟩
theorem s1_for {tge iter : Expr} {tg : List Nat} {src : En → Option (List D)} {A : List Stmt} {FA : En → Option Fl} (nd : C.N.Nodup) (hi : SI C tge iter src) (hp : plainX iter = true) (ht : TgOk C tge tg) (ha : SS C A FA) :
    S1 C (.For tge iter A [] pos) (fun env => match src env with
      | none => none
      | some ds => forL (forB tg FA) ds env) := by
  obtain ⟨wi, hi1, hi2⟩ := hi
  obtain ⟨ta, ha1, ha2⟩ := ha
  refine ⟨tFor wi (tgG C.K tg) ta, fun X hX => ps_for (by rw [hX.xe]; exact PassesOwn.never) hX.calm (hi1 X hX) (ht.pg nd hX) (ha1 X hX) (nofold hp), fun O0 H0 G σ H env Dn fl r hf q => ?_⟩
  obtain ⟨O, oa, r⟩ := r
  dsimp only at hf
  split at hf
  · cases hf
  · rename_i ds hds
    refine hi2 O σ H env _ ds r.re hds fun J H1 GJ s1 hJ hG => ?_
    have r1 := r.mono s1
    refine ⟨fun i m σ' H' => m = ds.length - i ∧ i ≤ ds.length ∧ ∃ env', RF C.K O0 H0 (GJ ++ G) σ' H' env' ∧ forL (forB tg FA) (ds.drop i) env' = some fl, ⟨ds.length, rfl, Nat.zero_le _, env, ⟨O, oa, r1.gsub fun z hz => ?_⟩, hf⟩, fun i m σ' H' hW => ?_⟩
    · rcases List.mem_append.mp hz with hz | hz
      · exact hG z hz
      · exact r1.gh z hz
    · obtain ⟨em, hil, env', ⟨O', oa', r'⟩, hfl⟩ := hW
      obtain ⟨j1, j2⟩ := hJ O' H' r'.al (fun z hz => r'.gh z (List.mem_append_left _ hz)) i
      by_cases hin : i < ds.length
      · refine .inr ?_
        obtain ⟨hgo, hy⟩ := j1 _ (List.getElem?_eq_getElem hin)
        rw [List.drop_eq_getElem_cons hin] at hfl
        unfold forL forB at hfl
        refine ⟨hgo, fun σ2 H2 => ∃ m', m' < m ∧ (m' = ds.length - (i + 1) ∧ i + 1 ≤ ds.length ∧ ∃ env2, RF C.K O0 H0 (GJ ++ G) σ2 H2 env2 ∧ forL (forB tg FA) (ds.drop (i + 1)) env2 = some fl), fun _ _ h => h, fun x H2 hx => ?_⟩
        obtain ⟨s2, hxd⟩ := hy x H2 hx
        cases hb : bindT tg ds[i] env' with
        | none => rw [hb] at hfl; cases hfl
        | some env2 =>
          rw [hb] at hfl
          dsimp only at hfl
          refine tgG_run (Pr := fun σ' e' => Rf C.K O0 H0 (GJ ++ G) σ' H2 e' O' oa') (fun σ' e' i' v' d' _ hp hv' => hp.set hv') (r'.mono s2) hxd hb fun σ2 hp => ?_
          split at hfl
          · rename_i env3 h3
            exact ha2 O0 H0 (GJ ++ G) σ2 H2 env2 _ _ ⟨O', oa', hp⟩ h3 fun σ3 H3 r3 => ⟨_, by omega, rfl, hin, env3, r3, hfl⟩
          · rename_i hn
            cases fl with
            | nx env3 => exact absurd hfl (hn env3)
            | rt d => exact ha2 O0 H0 (GJ ++ G) σ2 H2 env2 _ _ ⟨O', oa', hp⟩ hfl q
      · refine .inl ⟨j2 (by omega), ?_⟩
        have ei : i = ds.length := by omega
        rw [ei, List.drop_length] at hfl
        cases hfl
        exact q σ' H' ⟨O', oa', r'.gsub fun z hz => r'.gh z (List.mem_append_right _ hz)⟩
theorem s1_while {A : List Stmt} {FA : En → Option Fl} {n : Nat} (hc : ST C c f) (ha : SS C A FA) : S1 C (.While c A [] pos) (fun env => whileL (tst f) FA n env) := by
  obtain ⟨tc, hc1, hc2⟩ := hc
  obtain ⟨ta, ha1, ha2⟩ := ha
  refine ⟨tWhile tc ta, fun X hX => ps_while (by rw [hX.xe]; exact PassesOwn.never) (hc1 X hX) (ha1 X hX), fun O0 H0 G σ H env Dn fl r hf q => ?_⟩
  refine ⟨fun m σ' H' => ∃ env', RF C.K O0 H0 G σ' H' env' ∧ whileL (tst f) FA m env' = some fl, ⟨n, env, r, hf⟩, fun m σ' H' hW => ?_⟩
  obtain ⟨env', ⟨O, oa, r'⟩, hw⟩ := hW
  have tsv : ∀ bb, testD (f env') = some bb → f env' = some (.bool bb) := fun bb h => by
    unfold testD at h
    split at h
    · rename_i b' hb'; cases h; exact hb'
    · cases h
  cases m with
  | zero => cases hw
  | succ m =>
    unfold whileL tst at hw
    split at hw
    · rename_i ht
      refine hc2 O σ' H' env' _ _ r'.re (tsv _ ht) fun H1 s1 => iteT ⟨fun σ2 H2 => ∃ m', m' < m + 1 ∧ ∃ env2, RF C.K O0 H0 G σ2 H2 env2 ∧ whileL (tst f) FA m' env2 = some fl, fun _ _ h => h, ?_⟩
      split at hw
      · rename_i env2 h2
        exact ha2 O0 H0 G σ' H1 env' _ _ ⟨O, oa, r'.mono s1⟩ h2 fun σ2 H2 r2 => ⟨m, Nat.lt_succ_self m, env2, r2, hw⟩
      · rename_i hn
        cases fl with
        | nx env3 => exact absurd hw (hn env3)
        | rt d => exact ha2 O0 H0 G σ' H1 env' _ _ ⟨O, oa, r'.mono s1⟩ hw q
    · rename_i ht
      cases hw
      exact hc2 O σ' H' env' _ _ r'.re (tsv _ ht) fun H1 s1 => iteF (q _ _ ⟨O, oa, r'.mono s1⟩)
    · cases hw
theorem s1_ret (he : SE C e f) : S1 C (.Return (some e) pos) (fun env => (f env).map .rt) := by
  obtain ⟨t, h1, h2⟩ := he
  refine ⟨tRet t, fun X hX => ps_ret (h1 X hX), fun O0 H0 G σ H env Dn fl r hf q => ?_⟩
  obtain ⟨O, oa, r⟩ := r
  obtain ⟨d, hd, efl⟩ := Option.map_eq_some_iff.mp hf
  subst efl
  exact h2 O σ H env _ d r.re hd fun v H' s hv => q v H' (r.ext.trans s) (Dr.mono (mi_sub r.sub) _ hv)
theorem s1_retv {x : Str} {p : Pos} {i : Nat} (hN : C.N[i]? = some x) (hv : Vis C.sc x) (hd : (x == ("__debug__" : Str)) = false) (hcd : (x == ("__classdict__" : Str)) = false) : S1 C (.Return (some (.Name x p)) pos) (fun env => (match env[i]? with
    | some (Sl.val d) => some d
    | some (.own ds) => some (.list ds)
    | _ => none).map .rt) := by
  refine ⟨tRet (tVar i), fun X hX => ps_ret (pe_var (by rw [hX.hN]; exact hN) (by rw [hX.hsc]; exact hv) hd hcd), fun O0 H0 G σ H env Dn fl r hf q => ?_⟩
  obtain ⟨O, oa, r⟩ := r
  obtain ⟨d, hd, efl⟩ := Option.map_eq_some_iff.mp hf
  subst efl
  split at hd
  · rename_i d' he
    cases hd
    obtain ⟨v, h1, h2⟩ := r.val _ _ he
    exact ⟨v, h1, q v H r.ext (Dr.mono (mi_sub r.sub) _ h2)⟩
  · rename_i ds he
    cases hd
    obtain ⟨o1, o2, o3, o4, vs, o5, o6⟩ := r.own _ _ he
    exact ⟨_, o1, q _ H r.ext (.lst (xs := vs) (by rw [mi_out o4, o5]; rfl) (DrA.mono (mi_sub r.sub) _ o6))⟩
  · cases hd
theorem s1_nev : S1 C st (fun _ => none) := ⟨tNever, fun X hX => ps_never, fun _ _ _ _ _ _ _ _ _ hf _ => nomatch hf⟩
end
end J

/-! x[::-1], len(set(..)), sorted(set(..)), zip. -/
namespace J
open PySem PySem.Spec PyProof.Rows L2
theorem nodup_len {l l' : List Int} (h : l.Nodup) (h' : l'.Nodup) (hm : ∀ x, x ∈ l ↔ x ∈ l') : l.length = l'.length := ((List.perm_ext_iff_of_nodup h h').mpr hm).length_eq
theorem dedup_fold : ∀ (l acc : List Int), acc.Nodup → (l.foldl step_dedup acc).Nodup ∧ ∀ x, x ∈ l.foldl step_dedup acc ↔ x ∈ acc ∨ x ∈ l
  | [], acc, h => ⟨h, fun x => by simp⟩
  | y :: r, acc, h => by
    have hs : (step_dedup acc y).Nodup ∧ ∀ x, x ∈ step_dedup acc y ↔ x ∈ acc ∨ x = y := by
      unfold step_dedup
      split
      · rename_i ha
        refine ⟨h, fun x => ⟨.inl, fun z => z.elim id fun e => ?_⟩⟩
        obtain ⟨z, hz, he⟩ := List.any_eq_true.mp ha
        rw [e, ← eq_of_beq he]
        exact hz
      · rename_i ha
        refine ⟨List.nodup_append.mpr ⟨h, List.nodup_cons.mpr ⟨(by simp), List.nodup_nil⟩, fun a ha1 b hb e => ?_⟩, fun x => by simp⟩
        rw [List.mem_singleton] at hb
        subst hb
        subst e
        exact ha (List.any_eq_true.mpr ⟨a, ha1, beq_self_eq_true _⟩)
    obtain ⟨h1, h2⟩ := dedup_fold r _ hs.1
    refine ⟨h1, fun x => ?_⟩
    show x ∈ List.foldl step_dedup (step_dedup acc y) r ↔ _
    rw [h2, hs.2, List.mem_cons, or_assoc]
theorem firstMet_len (ns : List Int) : (firstMet (fun i => ns.getD i 0) ns.length).length = (undupI ns).length := by
  have e : (List.range ns.length).map (fun i => ns.getD i 0) = ns := by
    apply List.ext_getElem
    · simp
    · intro i h1 h2
      simp at h1
      simp [h1]
  have := dedup_fold ns [] List.nodup_nil
  unfold firstMet
  rw [e]
  exact nodup_len this.1 (undupI_nodup ns) fun x => by rw [this.2, undupI_mem]; simp
section
variable {C : Fam} {a b c e : Expr} {es : List Expr} {f g k : En → Option D} {pos : Pos}
/-! ### len(set(list of ints)) -/
theorem pe_lset {X : Cx} {ta : TE} {p p2 q : Pos} (hc : X.calm = true) (hg : Gl X "len") (hm : X.mg "len" = none) (hg2 : Gl X "set") (hm2 : X.mg "set" = none) (ha : PE X a ta) (na : starEach [a] X.env = (false, eval a X.env) :: starEach [] X.env) :
    PE X (.Call (.Name "len" p) [.Call (.Name "set" p2) [a] [] q] [] pos) (fun σ H Q => ta σ H fun x H1 => ∃ (l : Addr) (ns : List Int), x = .ref l ∧ SqL X.K H1 l (ns.map V.int) ∧ ns.length ≤ 50 ∧ Q (.int ((undupI ns).length : Nat)) H1) := by
  refine ⟨fun pins s σ H Q I h => ?_⟩
  refine Call_ (ld_blt I hg hm boot_len (callWith_builtin1 (args_cons ?_ rfl) rfl rfl))
  refine Call_ (ld_blt I hg2 hm2 (show bootBuiltins ("set" : Str) = some (.type "set") by decide +kernel) (callWith_type1 (args_cons (thn (ha.run pins s σ H _ I h) fun v s1 ⟨x, H1, I1, r1, q1⟩ => args_nil ?_) na) na rfl))
  obtain ⟨l, ns, rfl, hq, hl, q1⟩ := q1
  cases r1
  obtain ⟨its, r, pl, hz⟩ := I1.list hq
  have hlen : its.toArray.size = ns.length := by rw [List.size_toArray, ← r.length, List.length_map]
  refine call_set_list (I1.ok.hd hc) pl.isList (by simpa using intsAre_of r) (by rw [hlen]; unfold scanBound; omega) fun h' tk hS hk => args_nil ?_
  rw [hlen] at hS
  obtain ⟨o, es, ep, t, ho, hex, hd, _, _, _, hf, hn⟩ := hS
  rw [firstMet_len] at hn
  have hu : (undupI ns).length ≤ 50 := by
    have := firstMet_length_le (fun i => ns.getD i 0) ns.length
    rw [firstMet_len] at this
    omega
  have I2 : Inv X pins σ H1 { s1 with heap := h', toks := tk } := I1.kept fun b o e => hk b o (Heap.lt_size e) e
  exact call_len_set ho hex hd hf (by rw [hn] <;> omega) ⟨.int (undupI ns).length, H1, I2.tok _, ⟨_, by rw [hn]⟩, q1⟩
/-! ### set(list of ints) as a record -/
abbrev newSet (w : World) : Obj := { cls := .type "set", dict := none, data := .set #[] 0 (.fresh 0 0 (!w.params.followText "set-order")) }
set_option maxHeartbeats 3200000 in
theorem call_set_lstI {P : Program} {w : World} {A : Around} {E : Value → Shared → Prop} {s : Shared} {p : Addr} {us : Array Value} (zs : List Int) {Q : Value → Shared → Prop} (hq : A.handled = none) (hp : s.heap.IsList p us) (hz : IntsAre us.toList zs) (hlen : zs.length + 1 < scanBound)
    (k : ∀ (g : Heap) (tk m : Nat), SetR w g s.heap.objs.size (fun j => decide (j ∈ zs)) m → m ≤ zs.length → (∀ b o, s.heap.get? b = some o → g.get? b = some o) → Q (.ref s.heap.objs.size) { s with heap := g, toks := tk }) :
    wpAny (model P w) A (call (.type "set") [.ref p]) Q E s := by
  have hus : us.size = zs.length := by have q := IntsAre.length hz; rw [Array.length_toList] at q; exact q
  obtain ⟨c0, tl0, hmro⟩ := F.called_set.mro
  have hmade := F.called_set.made
  have hsub := F.called_set.sub
  refine wpAny_call (codeAny_of_tree ?_)
  show wpAny _ _ (callAny (.type "set") _) _ _ _
  refine wpAny_pure ⟨Code.quiet_builtin _ (by decide +kernel), codeAny_builtin F.entry_type_call ?_⟩
  rw [Around.under_plain (weight_type_call_type "set" [.ref p] []) rfl]
  have u1 := F.called_set.notType
  have u2 := F.called_set.canCreate
  have u3 := F.typeCall_set_1 (.ref p)
  repeat (any_goals (first | assumption | wp_step))
  refine codeAny_mono (code_set_led1 (.ref p) (E := E) (Q₁ := fun z t => z = .ref s.heap.objs.size ∧ t = { s with heap := s.heap.push (newSet w) }) ⟨rfl, rfl⟩) fun r t hr => ?_
  cases r with
  | error e => exact hr
  | ok fl =>
    cases fl with
    | ret z =>
      obtain ⟨rfl, rfl⟩ := hr
      have g0 : (s.heap.push (newSet w)).get? s.heap.objs.size = some (newSet w) := Heap.get?_push_size _ rfl
      have gT : Shared.TypeIs { s with heap := s.heap.push (newSet w) } (.ref s.heap.objs.size) "set" := ⟨_, g0, rfl⟩
      have u4 := F.called_set.init.lookup
      have u5 := F.called_set.init.bind (.ref s.heap.objs.size)
      repeat (any_goals (first | assumption | wp_step))
      refine codeAny_mono (codeAny_call_builtin (R := wants (fun v t => v = .none ∧ ∃ g tk m, t = { s with heap := g, toks := tk } ∧ SetR w g s.heap.objs.size (fun j => decide (j ∈ zs)) m ∧ m ≤ zs.length ∧
          (∀ b o, s.heap.get? b = some o → g.get? b = some o)) E) F.called_set.init.plain F.entry_set_init (check_set_init_1 gT ?_)) fun v t hv => ?_
      · obtain ⟨⟨lc, ld, lx, ls⟩, el, ec, en, ed⟩ := hp
        simp only at ec ed
        subst ec; subst ed
        have el' : (s.heap.push (newSet w)).get? p = some { cls := .type "list", dict := ld, data := .seq us en, slots := ls } := Heap.get?_push_of_some _ el
        have v1 := F.sub_list_set
        have v2 := F.sub_list_frozenset
        have v3 : (Value.type "list" == Value.type "dict") = false := by decide
        have v4 : (s.heap.push (newSet w)).IsList p us := ⟨_, el', rfl, en, rfl⟩
        unfold Builtin.«set.__init__» noKeywords Builtin.Frozenset.updateFrom
        generalize hPI : pyIter = PI
        wp_walk
        subst hPI
        refine wpAny_pyIter_list v4 ?_
        refine wpAny_bind (wpAny_runValue ?_)
        have lp : p < s.heap.objs.size := Heap.lt_size el
        have hn3 : A.in1.in1.in1.handled = none := by simp [hq]
        have zz : (s.heap.push (newSet w)).objs.size = s.heap.objs.size + 1 := Heap.size_push ..
        have nI1 : p ≠ (s.heap.push (newSet w)).objs.size := by rw [zz]; exact Nat.ne_of_lt (Nat.lt_succ_of_lt lp)
        have nI2 : s.heap.objs.size ∉ [(s.heap.push (newSet w)).objs.size, p] := by
          rw [zz]
          simp only [List.mem_cons, List.not_mem_nil, or_false, not_or]
          exact ⟨Nat.ne_of_lt (Nat.lt_succ_self _), Nat.ne_of_gt lp⟩
        have vals : ∀ (i : Nat) (v : Value), us[i]? = some v → ∃ k t, zs[i]? = some k ∧ v = .int k t := fun i v hv => by
          have hi : i < zs.length := by rw [← hus]; exact (Array.getElem?_eq_some_iff.mp hv).1
          obtain ⟨t, e⟩ := PyProof.Rows.IntsAre.int_at hz i v (by rw [Array.getElem?_toList]; exact hv)
          exact ⟨zs[i], t, List.getElem?_eq_getElem hi, by rw [e, List.getD_eq_getElem?_getD, List.getElem?_eq_getElem hi] <;> rfl⟩
        refine set_update_ints ((Walks.list hn3 _ p nI1 us).toS) s.heap.objs.size nI2 zs hus hlen vals (us.size - 0) 0 _ (by omega) (Nat.zero_le _) ⟨⟨_, Heap.get?_push_size _ rfl, rfl, rfl⟩, (v4.push _)⟩ ⟨0, Nat.le_refl 0, setR_new_at (Heap.get?_push_of_some _ g0)⟩ fun t m hm hc hS => ?_
        obtain ⟨g, a1, a2, a3, a4⟩ := t
        have e1 : a1 = s.gens := hm.gens
        have e2 : a2 = s.drawn := hm.drawn
        have e3 : a4 = s.os := hm.os
        subst e1; subst e2; subst e3
        show wpAny _ _ _ _ _ _
        refine wpAny_pure ?_
        show wpAny _ _ (ret Value.none) _ _ _
        rw [hus] at hc
        refine wpAny_pure ⟨rfl, g, a3, m, rfl, hS, hc, fun b o q => ?_⟩
        have lb : b < s.heap.objs.size := Heap.lt_size q
        refine hm.heap b o ?_ (Heap.get?_push_of_some _ (Heap.get?_push_of_some _ q))
        rw [zz]
        simp only [List.mem_cons, List.not_mem_nil, or_false, not_or]
        exact ⟨Nat.ne_of_lt lb, Nat.ne_of_lt (Nat.lt_succ_of_lt lb)⟩
      · cases v with
        | error e => exact hv
        | ok fl =>
          cases fl with
          | ret z =>
            obtain ⟨rfl, g, tk, m, rfl, y1, y2, y3⟩ := hv
            repeat (any_goals (first | assumption | wp_step))
            exact k _ _ _ y1 y2 y3
          | _ => exact hv.elim
    | _ => exact hr.elim
/-! ### sorted(set(tuple of ints)) -/
def rSetT (K : PySem.W.Frag) (w : World) : List V → Hp → VK → Prop := fun vs H Q => ∃ (l : Addr) (ns : List Int), vs = [.ref l] ∧ SqT K H l (ns.map V.int) ∧ ns.length ≤ 50 ∧ ∀ p n, H p = none → n ≤ ns.length → Q (.ref p) (upd H p (SetO w p (fun j => decide (j ∈ ns)) n))
theorem cr_setT {X : Cx} (hc : X.calm = true) : CallR X (.type "set") (rSetT X.K X.w) := by
  intro pins s σ H vs us Q I r h
  obtain ⟨l, ns, rfl, hq, hl, q⟩ := h
  rw [Vals.ref1 r]
  obtain ⟨its, rv, pl, hz⟩ := I.tuple hq
  refine call_set_tupI ns (I.ok.hd hc) pl (by simpa using intsAre_of rv) (by unfold scanBound; omega) fun h' tk n hS hn hk => ?_
  refine ⟨.ref _, _, I.laid (t' := tk) (o := SetO X.w s.heap.objs.size (fun j => decide (j ∈ ns)) n) hk (Nat.le_refl _) ?_, rfl, q _ _ (I.hok.fresh (Nat.le_refl _)) hn⟩
  exact ⟨hS, ⟨_, hS.choose_spec.choose_spec.choose_spec.choose_spec.1⟩, fun h1 h2 p1 k1 => p1.at k1⟩
theorem cr_setL {X : Cx} (hc : X.calm = true) : CallR X (.type "set") (fun vs H Q => ∃ (l : Addr) (ns : List Int), vs = [.ref l] ∧ SqL X.K H l (ns.map V.int) ∧ ns.length ≤ 50 ∧ ∀ p n, H p = none → n ≤ ns.length → Q (.ref p) (upd H p (SetO X.w p (fun j => decide (j ∈ ns)) n))) := by
  intro pins s σ H vs us Q I r h
  obtain ⟨l, ns, rfl, hq, hl, q⟩ := h
  rw [Vals.ref1 r]
  obtain ⟨its, rv, pl, hz⟩ := I.list hq
  refine call_set_lstI ns (I.ok.hd hc) pl.isList (by simpa using intsAre_of rv) (by unfold scanBound; omega) fun h' tk n hS hn hk => ?_
  refine ⟨.ref _, _, I.laid (t' := tk) (o := SetO X.w s.heap.objs.size (fun j => decide (j ∈ ns)) n) hk (Nat.le_refl _) ?_, rfl, q _ _ (I.hok.fresh (Nat.le_refl _)) hn⟩
  exact ⟨hS, ⟨_, hS.choose_spec.choose_spec.choose_spec.choose_spec.1⟩, fun h1 h2 p1 k1 => p1.at k1⟩
def rSetS (K : PySem.W.Frag) (w : World) : List V → Hp → VK → Prop := fun vs H Q => ∃ (l : Addr) (ns : List Int), vs = [.ref l] ∧ (SqT K H l (ns.map V.int) ∨ SqL K H l (ns.map V.int)) ∧ ns.length ≤ 50 ∧ ∀ p n, H p = none → n ≤ ns.length → Q (.ref p) (upd H p (SetO w p (fun j => decide (j ∈ ns)) n))
theorem cr_setS {X : Cx} (hc : X.calm = true) : CallR X (.type "set") (rSetS X.K X.w) := by
  intro pins s σ H vs us Q I r h
  obtain ⟨l, ns, e, hq | hq, hl, q⟩ := h
  · exact cr_setT hc pins s σ H vs us Q I r ⟨l, ns, e, hq, hl, q⟩
  · exact cr_setL hc pins s σ H vs us Q I r ⟨l, ns, e, hq, hl, q⟩
theorem se_sset {p p2 q : Pos} (hg : C.sc.names.lookup ("sorted" : Str) = some .globalImplicit) (hm : C.mg "sorted" = none) (hg2 : C.sc.names.lookup ("set" : Str) = some .globalImplicit) (hm2 : C.mg "set" = none) (ha : SB C a f) (hp : plainX a = true) :
    SE C (.Call (.Name "sorted" p) [.Call (.Name "set" p2) [a] [] q] [] pos) (fun env => match f env with
      | none => none
      | some x => match seq2 x with
        | none => none
        | some ds => match ints? ds with
          | none => none
          | some ns => if ns.length ≤ 50 then some (.list ((sortI (undupI ns)).map .int)) else none) := by
  obtain ⟨ta, ha1, ha2⟩ := ha
  refine ⟨tCB (rSortedSet C.w) (tCons (tCB (rSetS C.K C.w) (tCons ta tNil)) tNil), fun X hX => ?_, fun O σ H env Q d r hf qq => ?_⟩
  · rw [← hX.hK, ← hX.hw]
    exact pe_callB (cr_sortedSet hX.calm) (show X.env.scope.names.lookup ("sorted" : Str) = _ by rw [hX.hsc]; exact hg) (by rw [hX.hmg]; exact hm) (by decide +kernel)
      (pa_cons (pe_callTy (cr_setS hX.calm) (show X.env.scope.names.lookup ("set" : Str) = _ by rw [hX.hsc]; exact hg2) (by rw [hX.hmg]; exact hm2) (by decide +kernel) (pa_cons (ha1 X hX) pa_nil (star_ok hp)) (by decide) (by decide) (star_ok hp) rfl) pa_nil rfl) (by decide) (by decide) rfl rfl
  · dsimp only at hf
    split at hf
    · cases hf
    · rename_i x hd
      split at hf
      · cases hf
      · rename_i ds hsq
        split at hf
        · cases hf
        · rename_i ns hi
          split at hf
          · rename_i hl
            cases hf
            have := ints_eq hi
            subst this
            refine ha2 O σ H env _ _ r hd fun v H1 s1 hv => ?_
            have hS : ∃ l, v = .ref l ∧ (SqT C.K H1 l (ns.map V.int) ∨ SqL C.K H1 l (ns.map V.int)) := by
              unfold seq2 at hsq
              split at hsq
              · cases hsq
                obtain ⟨l, vs, rfl, h1, h2⟩ := hv.list
                have := h2.ofInts
                subst this
                exact ⟨l, rfl, .inr (.inl (.inl h1))⟩
              · cases hsq
                obtain ⟨l, vs, rfl, h1, h2⟩ := hv.tuple
                have := h2.ofInts
                subst this
                exact ⟨l, rfl, .inl (.inl (.inl (mi_lt h1)))⟩
              · cases hsq
            obtain ⟨l, rfl, hS⟩ := hS
            refine ⟨l, ns, rfl, hS, hl, fun p n hp hn => ⟨p, _, n, rfl, upd_same, by omega, fun ms p' hs hms hlen hp' => ?_⟩⟩
            have e : ms = sortI (undupI ns) := by
              refine sorted_uniq _ _ ?_ (hs.imp fun h => Int.le_of_lt h) (sortI_sorted _)
              have nd : ms.Nodup := hs.imp fun h => Int.ne_of_lt h
              refine ((List.perm_ext_iff_of_nodup nd (undupI_nodup ns)).mpr fun x => ?_).trans (sortI_perm _).symm
              rw [hms, undupI_mem]
              simp
            subst e
            have s2 := (s1.trans (same_upd (o := SetO C.w p (fun j => decide (j ∈ ns)) n) hp)).trans (same_upd (o := .lst ((sortI (undupI ns)).map V.int)) hp')
            refine qq _ _ s2 (.lst (xs := (sortI (undupI ns)).map V.int) ?_ (DrA.ints _))
            rw [mi_out (r.al.out ((s1.trans (same_upd hp)).free hp')), upd_same]; rfl
          · cases hf
theorem se_lset {p p2 q : Pos} (hg : C.sc.names.lookup ("len" : Str) = some .globalImplicit) (hm : C.mg "len" = none) (hg2 : C.sc.names.lookup ("set" : Str) = some .globalImplicit) (hm2 : C.mg "set" = none) (ha : SB C a f) (hp : plainX a = true) :
    SE C (.Call (.Name "len" p) [.Call (.Name "set" p2) [a] [] q] [] pos) (fun env => match f env with
      | some (.list ds) => match ints? ds with
        | none => none
        | some ns => if ns.length ≤ 50 then some (.int (undupI ns).length) else none
      | _ => none) := by
  obtain ⟨ta, ha1, ha2⟩ := ha
  refine ⟨fun σ H Q => ta σ H fun x H1 => ∃ (l : Addr) (ns : List Int), x = .ref l ∧ SqL C.K H1 l (ns.map V.int) ∧ ns.length ≤ 50 ∧ Q (.int ((undupI ns).length : Nat)) H1, fun X hX => ?_, fun O σ H env Q d r hf qq => ?_⟩
  · rw [← hX.hK]
    exact pe_lset hX.calm (show X.env.scope.names.lookup ("len" : Str) = _ by rw [hX.hsc]; exact hg) (by rw [hX.hmg]; exact hm) (show X.env.scope.names.lookup ("set" : Str) = _ by rw [hX.hsc]; exact hg2) (by rw [hX.hmg]; exact hm2) (ha1 X hX) (star_ok hp)
  · dsimp only at hf
    split at hf
    · rename_i ds hd
      split at hf
      · cases hf
      · rename_i ns hi
        split at hf
        · rename_i hl
          cases hf
          have := ints_eq hi
          subst this
          refine ha2 O σ H env _ _ r hd fun v H1 s1 hv => ?_
          obtain ⟨l, vs, rfl, h1, h2⟩ := hv.list
          have := h2.ofInts
          subst this
          exact ⟨l, ns, rfl, .inl (.inl h1), hl, qq _ H1 s1 (.int _)⟩
        · cases hf
    · cases hf
/-! ### zip -/
theorem zipD_get : ∀ {xs ys : List D} {i : Nat} {d : D}, (zipD xs ys)[i]? = some d → ∃ x y, xs[i]? = some x ∧ ys[i]? = some y ∧ d = .tuple [x, y]
  | [], _, _, _, h => by simp [zipD] at h
  | _ :: _, [], _, _, h => by simp [zipD] at h
  | x :: xs, y :: ys, 0, d, h => by
    simp [zipD] at h
    exact ⟨x, y, rfl, rfl, h.symm⟩
  | x :: xs, y :: ys, i + 1, d, h => by
    obtain ⟨u, v, h1, h2, h3⟩ := zipD_get (xs := xs) (ys := ys) (i := i) (by simpa [zipD] using h)
    exact ⟨u, v, by simpa using h1, by simpa using h2, h3⟩
theorem zipD_len : ∀ (xs ys : List D), (zipD xs ys).length = min xs.length ys.length
  | [], _ => by simp [zipD]
  | _ :: _, [] => by simp [zipD]
  | x :: xs, y :: ys => by simp only [zipD, List.length_cons, zipD_len xs ys]; omega
theorem it_zipT {K : PySem.W.Frag} {a b : Addr} {xs ys : List D} : ItOk K (RZ.ItzT K a b) (zipD xs ys) [(.ref a, .tuple xs), (.ref b, .tuple ys)] := fun O H al hG i => by
  have g1 : Dr K (mi H O) (.ref a) (.tuple xs) := hG _ List.mem_cons_self
  have g2 : Dr K (mi H O) (.ref b) (.tuple ys) := hG _ (List.mem_cons_of_mem _ List.mem_cons_self)
  cases g1 with
  | tup h1 h2 =>
    rename_i vs
    cases g2 with
    | tup h3 h4 =>
      rename_i us
      have q1 : SqT K H a vs := .inl (.inl (mi_lt h1))
      have q2 : SqT K H b us := .inl (.inl (mi_lt h3))
      refine ⟨fun d hd => ?_, fun hl => ⟨vs, us, q1, q2, ?_⟩⟩
      · obtain ⟨x, y, hx, hy, rfl⟩ := zipD_get hd
        obtain ⟨v, hv, hvd⟩ := h2.get hx
        obtain ⟨u, hu, hud⟩ := h4.get hy
        refine ⟨⟨vs, us, v, u, q1, q2, hv, hu⟩, fun z H' hz => ?_⟩
        obtain ⟨T, v', u', rfl, hT, rfl, e1, e2⟩ := hz
        have := (e1 vs q1).symm.trans hv
        cases this
        have := (e2 us q2).symm.trans hu
        cases this
        have sm : Same H (upd H T (.tup [v, u])) := same_upd hT
        refine ⟨sm, .tup (xs := [v, u]) ?_ (.cons (Dr.mono (mi_same sm) _ hvd) (.cons (Dr.mono (mi_same sm) _ hud) .nil))⟩
        rw [mi_out (al.out hT), upd_same]; rfl
      · rw [zipD_len] at hl
        have := h2.len
        have := h4.len
        by_cases h : vs.length ≤ i
        · exact .inl h
        · exact .inr (by omega)
theorem it_zipL {K : PySem.W.Frag} {a b : Addr} {xs ys : List D} : ItOk K (Itz K a b) (zipD xs ys) [(.ref a, .list xs), (.ref b, .list ys)] := fun O H al hG i => by
  have g1 : Dr K (mi H O) (.ref a) (.list xs) := hG _ List.mem_cons_self
  have g2 : Dr K (mi H O) (.ref b) (.list ys) := hG _ (List.mem_cons_of_mem _ List.mem_cons_self)
  cases g1 with
  | lst h1 h2 =>
    rename_i vs
    cases g2 with
    | lst h3 h4 =>
      rename_i us
      have q1 : SqL K H a vs := .inl (.inl (mi_lt h1))
      have q2 : SqL K H b us := .inl (.inl (mi_lt h3))
      refine ⟨fun d hd => ?_, fun hl => ⟨vs, us, q1, q2, ?_⟩⟩
      · obtain ⟨x, y, hx, hy, rfl⟩ := zipD_get hd
        obtain ⟨v, hv, hvd⟩ := h2.get hx
        obtain ⟨u, hu, hud⟩ := h4.get hy
        refine ⟨⟨vs, us, v, u, q1, q2, hv, hu⟩, fun z H' hz => ?_⟩
        obtain ⟨T, v', u', rfl, hT, rfl, e1, e2⟩ := hz
        have := (e1 vs q1).symm.trans hv
        cases this
        have := (e2 us q2).symm.trans hu
        cases this
        have sm : Same H (upd H T (.tup [v, u])) := same_upd hT
        refine ⟨sm, .tup (xs := [v, u]) ?_ (.cons (Dr.mono (mi_same sm) _ hvd) (.cons (Dr.mono (mi_same sm) _ hud) .nil))⟩
        rw [mi_out (al.out hT), upd_same]; rfl
      · rw [zipD_len] at hl
        have := h2.len
        have := h4.len
        by_cases h : vs.length ≤ i
        · exact .inl h
        · exact .inr (by omega)
theorem si_zip {elts : List Expr} {kk : Nat} {tpos p : Pos} (hg : C.sc.names.lookup ("zip" : Str) = some .globalImplicit) (hm : C.mg "zip" = none) (ha : SE C a f) (hb : SE C b g) (hp : plainX a = true) (hp2 : plainX b = true) :
    SI C (.Tuple elts kk tpos) (.Call (.Name "zip" p) [a, b] [] pos) (fun env => match f env with
      | none => none
      | some x => match g env with
        | none => none
        | some y => zip1 x y) := by
  obtain ⟨ta, ha1, ha2⟩ := ha
  obtain ⟨tb, hb1, hb2⟩ := hb
  refine ⟨RZ.iZipA C.K (tCons ta (tCons tb tNil)), fun X hX => ?_, fun O σ H env R ds r hf q => ?_⟩
  · rw [← hX.hK]
    exact RZ.pi_zipA (show X.env.scope.names.lookup ("zip" : Str) = _ by rw [hX.hsc]; exact hg) (by rw [hX.hmg]; exact hm) (pa_cons (ha1 X hX) (pa_cons (hb1 X hX) pa_nil (star_ok hp2)) (star_ok hp)) (star_ok hp) (star_any (by rw [List.all_cons, hp2]; rfl))
  · dsimp only at hf
    split at hf
    · cases hf
    · rename_i x hx
      split at hf
      · cases hf
      · rename_i y hy
        refine ha2 O σ H env _ _ r hx fun v H1 s1 hv => hb2 O σ H1 env _ _ (r.mono s1) hy fun w H2 s2 hw => ?_
        have hv2 := Dr.mono (mi_same s2) _ hv
        unfold zip1 at hf
        split at hf
        · cases hf
          cases hv2 with
          | tup h1 h2 =>
            cases hw with
            | tup h3 h4 =>
              refine ⟨_, _, _, _, rfl, .inr ⟨.inl (.inl (mi_lt h1)), .inl (.inl (mi_lt h3)), q _ H2 _ (s1.trans s2) it_zipT fun z hz => ?_⟩⟩
              rcases List.mem_cons.mp hz with rfl | hz
              · exact .tup h1 h2
              · rw [List.mem_singleton.mp hz]; exact .tup h3 h4
        · cases hf
          cases hv2 with
          | lst h1 h2 =>
            cases hw with
            | lst h3 h4 =>
              refine ⟨_, _, _, _, rfl, .inl ⟨.inl (.inl (mi_lt h1)), .inl (.inl (mi_lt h3)), q _ H2 _ (s1.trans s2) it_zipL fun z hz => ?_⟩⟩
              rcases List.mem_cons.mp hz with rfl | hz
              · exact .lst h1 h2
              · rw [List.mem_singleton.mp hz]; exact .lst h3 h4
        · cases hf
/-! ### x[::-1] -/
theorem rev_places (n : Nat) : Builtin.Slice.sliceAdjust none none (-1) (n : Int) = ((n : Int) - 1, -1) ∧ Builtin.Slice.slicePlaces ((n : Int) - 1) (-1) (-1) = n := by
  refine ⟨rfl, ?_⟩
  unfold Builtin.Slice.slicePlaces
  rw [if_neg (by decide)]
  by_cases h : (n : Int) - 1 > -1
  · rw [if_pos h, show (-(-1 : Int)) = 1 from rfl, Int.ediv_one]; omega
  · rw [if_neg h]; omega
theorem rev_pick (xs : Array Value) : ((List.range xs.size).filterMap fun (m : Nat) => xs[(((xs.size : Int) - 1) + (m : Int) * (-1)).toNat]?).toArray = xs.toList.reverse.toArray := by
  congr 1
  have e : ∀ k : Nat, k ≤ xs.size → ((List.range k).filterMap fun (m : Nat) => xs[(((xs.size : Int) - 1) + (m : Int) * (-1)).toNat]?) = xs.toList.reverse.take k := by
    intro k
    induction k with
    | zero => intro _; rfl
    | succ k ih =>
      intro hk
      rw [List.range_succ, List.filterMap_append, ih (by omega), List.take_add_one]
      congr 1
      have e1 : ((((xs.size : Int) - 1) + (k : Int) * (-1)).toNat) = xs.size - 1 - k := by omega
      rw [List.filterMap_cons, e1, List.filterMap_nil, List.getElem?_reverse (by simp; omega), Array.length_toList, Array.getElem?_toList, Array.getElem?_eq_getElem (show xs.size - 1 - k < xs.size by omega)]
      rfl
  rw [e xs.size (Nat.le_refl _)]
  exact List.take_of_length_le (by simp)
theorem applied_rev {P : Program} {w : World} {A : Around} {E : Value → Shared → Prop} {s : Shared} {sl : Addr} {vl vu vs : Value} {n : Nat} {Q : Int × Int × Nat → Shared → Prop} (hs : s.heap.IsSliceOf sl vl vu vs) (pl : IsPart vl none) (pu : IsPart vu none) (ps : IsPart vs (some (-1)))
    (h : Q ((n : Int) - 1, -1, n) s) : wpAny (model P w) A (Builtin.Slice.sliceApplied (.ref sl) (pure (n : Int))) Q E s := by
  obtain ⟨os, hos, hcs, hds⟩ := id hs
  unfold Builtin.Slice.sliceApplied Builtin.Slice.sliceFields
  refine wpAny_bind (wpAny_bind (wpAny_field hos hds (x := vl) rfl (wpAny_bind (wpAny_field hos hds (x := vu) rfl (wpAny_bind (wpAny_field hos hds (x := vs) rfl (wpAny_pure ?_)))))))
  refine wpAny_bind (HT.slicePart_ ps ?_)
  show wpAny _ _ (if ((-1 : Int) == 0) = true then _ else _) _ _ s
  rw [if_neg (by decide)]
  refine wpAny_bind (HT.slicePart_ pl (wpAny_bind (HT.slicePart_ pu (wpAny_bind (wpAny_pure ?_)))))
  show wpAny _ _ (match Builtin.Slice.sliceAdjust none none (-1) (n : Int) with | (lo, hi) => pure (lo, (-1 : Int), Builtin.Slice.slicePlaces lo hi (-1))) _ _ s
  rw [(rev_places n).1]
  show wpAny _ _ (pure ((n : Int) - 1, (-1 : Int), Builtin.Slice.slicePlaces ((n : Int) - 1) (-1) (-1))) _ _ s
  rw [(rev_places n).2]
  exact wpAny_pure h
theorem tuple_rev {P : Program} {w : World} {A : Around} {E : Value → Shared → Prop} {s : Shared} {t sl : Addr} {items : Array Value} {vl vu vs : Value} {Q : Value → Shared → Prop} (ht : IsTup s.heap t items) (hs : s.heap.IsSliceOf sl vl vu vs) (pl : IsPart vl none) (pu : IsPart vu none) (ps : IsPart vs (some (-1)))
    (h : Q (.ref s.heap.objs.size) { s with heap := s.heap.push { cls := .type "tuple", data := .seq items.toList.reverse.toArray } }) (hsz : items.size ≤ sizeLine) : wpAny (model P w) A (getItem (.ref t) (.ref sl)) Q E s := by
  obtain ⟨os, hos, hcs, hds⟩ := id hs
  have hTs : s.TypeIs (.ref sl) "slice" := ⟨os, hos, hcs⟩
  have htake : sizeOk (.seq items.toList.reverse.toArray) := by
    show items.toList.reverse.toArray.size ≤ sizeLine
    rw [List.size_toArray, List.length_reverse, Array.length_toList]
    exact hsz
  unfold getItem
  try with_reducible refine wpAny_holding ?_
  first | refine wpAny_bind (wpAny_pure ?_) | skip
  refine wpAny_bind (wpAny_sequenceKey ht.typeIs (by decide) ?_)
  refine wpAny_bind (wpAny_callSpecial?_slot (name := Str.ofString "__getitem__") ht.typeIs PyProof.Rows.slot_tuple_getitem (wpAny_call_entry PyProof.Rows.slot_tuple_getitem ht.typeIs PyProof.Rows.entry_tuple_getitem ?_ (PyProof.Rows.args_tuple_getitem _ _)))
  show wpAny _ _ (Builtin.Tuple.tupleItemsOf (.ref t) >>= _) _ _ s
  refine wpAny_bind (PyProof.Rows.tupleItemsOf_ ht ?_)
  refine wpAny_bind (wpAny_typeOf hTs ?_)
  rw [if_pos (by decide)]
  refine wpAny_bind (applied_rev hs pl pu ps ?_)
  have hno : ¬ (((((items.size : Int) - 1) == 0) && ((-1 : Int) == 1) && (items.size == items.size)) = true) := by simp
  show wpAny _ _ (if ((((items.size : Int) - 1) == 0) && ((-1 : Int) == 1) && (items.size == items.size)) = true then _ else _) _ _ s
  rw [if_neg hno, rev_pick]
  first
    | exact wpAny_bind (m := Builtin.Tuple.tupleExact _) (wpAny_newObj_type (wpAny_pure ⟨_, rfl, wpAny_pure h⟩) htake)
    | exact wpAny_bind (m := Builtin.Tuple.tupleExact _) (wpAny_newObj_type (wpAny_bind (wpAny_pure (wpAny_pure ⟨_, rfl, wpAny_pure h⟩))) htake)
    | exact wpAny_bind (wpAny_bind (m := Builtin.Tuple.tupleExact _) (wpAny_newObj_type (wpAny_pure (wpAny_pure ⟨_, rfl, wpAny_pure h⟩)) htake))
    | exact wpAny_bind (wpAny_bind (m := Builtin.Tuple.tupleExact _) (wpAny_newObj_type (wpAny_pure ⟨_, rfl, wpAny_pure h⟩) htake))
theorem vals_rev : ∀ {xs : List V} {us : List Value}, Vals xs us → Vals xs.reverse us.reverse
  | _, _, .nil => .nil
  | _, _, .cons r t => by
    rw [List.reverse_cons, List.reverse_cons]
    exact (vals_rev t).append (.cons r .nil)
theorem pe_revT {X : Cx} {e : Expr} {te : TE} {k : Nat} {p1 p2 p3 pos : Pos} (he : PE X e te) : PE X (.Subscript e (.Slice none none (some (.UnaryOp .USub (.Constant (.int 1) k p1) p2)) p3) pos)
    (fun σ H Q => te σ H fun x H1 => ∃ a xs, x = .ref a ∧ SqT X.K H1 a xs ∧ ∀ p, H1 p = none → Q (.ref p) (upd H1 p (.tup xs.reverse))) := by
  refine ⟨fun pins s σ H Q I h => ?_⟩
  refine Subscript_ (thn (he.run pins s σ H _ I h) fun v s1 ⟨x, H1, I1, r1, q1⟩ => ?_)
  obtain ⟨a, xs, ex, hx, q⟩ := q1
  subst ex
  cases r1
  have hst : PO X (some (.UnaryOp .USub (.Constant (.int 1) k p1) p2)) (tPart (tUn (rU fun i => .int (-i)) (tC (.int 1)))) := po_some (pe_un un_neg pe_int)
  refine wpAny_Slice (thn (po_none.run pins s1 σ H1 (fun o H2 => o = none ∧ H2 = H1) I1 ⟨rfl, rfl⟩) fun vl s2 ⟨l, H2, I2, pl, el, e2⟩ => ?_)
  subst el e2
  refine thn (po_none.run pins s2 σ H2 (fun o H3 => o = none ∧ H3 = H2) I2 ⟨rfl, rfl⟩) fun vu s3 ⟨u, H3, I3, pu, eu, e3⟩ => ?_
  subst eu e3
  refine thn (hst.run pins s3 σ H3 (fun o H4 => o = some (-1) ∧ H4 = H3) I3 ⟨1, rfl, -1, rfl, rfl, rfl⟩) fun vs s4 ⟨o, H4, I4, ps, eo, e4⟩ => ?_
  subst eo e4
  have I5 : Inv X pins σ H4 { s4 with heap := s4.heap.push { cls := .type "slice", data := .fields #[vl, vu, vs] } } := I4.kept (t' := s4.toks) fun b ob q => Heap.get?_push_of_some _ q
  obtain ⟨its, r, ht, hz⟩ := I5.tuple hx
  have hlen := r.length
  show wpAny (model X.prog X.w) X.A (subscriptTail e (.Slice none none (some (.UnaryOp .USub (.Constant (.int 1) k p1) p2)) p3) (.ref a) (.ref s4.heap.objs.size)) (EP X pins σ Q) X.xe { s4 with heap := s4.heap.push { cls := .type "slice", data := .fields #[vl, vu, vs] } }
  refine tail_any (ops := [.ref a, .ref s4.heap.objs.size]) ht.typeIs (PyProof.Rows.slot_tuple_getitem.lookup) ?_ (by with_unfolding_all rfl)
  refine tuple_rev ht (Heap.IsSliceOf.new _ vl vu vs) pl pu ps ?_ (by rw [List.size_toArray]; omega)
  refine ⟨.ref _, _, I5.laid (t' := s4.toks) (o := .tup xs.reverse) (fun b ob q => Heap.get?_push_of_some _ q) (Nat.le_refl _) ?_, rfl, q _ (I5.hok.fresh (Nat.le_refl _))⟩
  exact ⟨by rw [List.length_reverse]; exact hz, _, vals_rev r, IsTup.new _ _⟩
theorem PE.or {X : Cx} {e : Expr} {t u : TE} (h : PE X e t) (h' : PE X e u) : PE X e (fun σ H Q => t σ H Q ∨ u σ H Q) :=
  ⟨fun pins s σ H Q I hw => hw.elim (fun q => h.run pins s σ H Q I q) fun q => h'.run pins s σ H Q I q⟩
theorem se_rev {k : Nat} {p1 p2 p3 : Pos} (ha : SB C a f) : SE C (.Subscript a (.Slice none none (some (.UnaryOp .USub (.Constant (.int 1) k p1) p2)) p3) pos) (fun env => match f env with
    | none => none
    | some x => opRev x) := by
  obtain ⟨ta, ha1, ha2⟩ := ha
  refine ⟨fun σ H Q => tRevL C.K ta σ H Q ∨ ta σ H fun x H1 => ∃ a xs, x = .ref a ∧ SqT C.K H1 a xs ∧ ∀ p, H1 p = none → Q (.ref p) (upd H1 p (.tup xs.reverse)), fun X hX => ?_, fun O σ H env Q d r hf q => ?_⟩
  · rw [← hX.hK]; exact PE.or (pe_revL (ha1 X hX)) (pe_revT (ha1 X hX))
  · dsimp only at hf
    split at hf
    · cases hf
    · rename_i x hx
      unfold opRev at hf
      split at hf
      · cases hf
        refine .inl (ha2 O σ H env _ _ r hx fun v H1 s1 hv => ?_)
        obtain ⟨p, vs, rfl, h1, h2⟩ := hv.list
        exact ⟨p, vs, rfl, .inl (.inl h1), wk_lst (fun v H' s hv => q v H' (s1.trans s) hv) (r.mono s1).al h2.rev⟩
      · cases hf
        refine .inr (ha2 O σ H env _ _ r hx fun v H1 s1 hv => ?_)
        obtain ⟨p, vs, rfl, h1, h2⟩ := hv.tuple
        exact ⟨p, vs, rfl, .inl (.inl (mi_lt h1)), wk_tup (fun v H' s hv => q v H' (s1.trans s) hv) (r.mono s1).al h2.rev⟩
      · cases hf
end
end J

/-! enumerate over tuples and lists. -/
namespace J
open PySem PySem.Spec PyProof.Rows L2
theorem en_new {v : Value} {ob : Obj} {Hq : Heap → Prop} (B : Begins v ob Hq) :
    Meets (Builtin.«enumerate.__new__» ⟨[.type "enumerate", v], []⟩) (fun _ R s => Hq s.heap ∧
      R (.ok (.ret (.ref (s.heap.push ob).objs.size))) { s with heap := (s.heap.push ob).push { cls := .type "enumerate", data := .fields #[.none, .bool false, .ref s.heap.objs.size, rawInt 0, .none, .none] } }) :=
  .of_wp fun P w A R s h => by
    obtain ⟨h0, g0, d0, t0, o0⟩ := s
    obtain ⟨hq, h⟩ := h
    have z1 := sub_enumerate
    have q1 : ∀ {A' : Around} {E : Value → Shared → Prop} {Q : Value → Shared → Prop}, Q (.ref h0.objs.size) ⟨h0.push ob, g0, d0, t0, o0⟩ → wpAny (model P w) A' (pyIter v) Q E ⟨h0, g0, d0, t0, o0⟩ :=
      fun q => B.iter P w _ _ ⟨h0, g0, d0, t0, o0⟩ _ hq q
    wp_walk using q1
    refine wpAny_stack_any fun st => wpAny_pure ?_
    split
    · rename_i c _ _ _ _ _
      cases (c == Value.type "enumerate") <;> (wp_walk using q1; exact ⟨_, rfl, h⟩)
    · wp_walk using q1
      exact ⟨_, rfl, h⟩
theorem en_call {P : Program} {w : World} {A : Around} {E : Value → Shared → Prop} {s : Shared} {v : Value} {ob : Obj} {Hq : Heap → Prop} {Q : Value → Shared → Prop} (B : Begins v ob Hq) (h1 : Hq s.heap)
    (h : ∀ g, IsEnum g (s.heap.objs.size + 1) s.heap.objs.size 0 .none → g.get? s.heap.objs.size = some ob → (∀ b o, s.heap.get? b = some o → g.get? b = some o) → Q (.ref (s.heap.objs.size + 1)) { s with heap := g }) :
    wpAny (model P w) A (call (.type "enumerate") [v]) Q E s := by
  refine callType_new F.called_enumerate (by decide) (F.typeCall_enumerate_1 _) (F.newCall_enumerate_1 _) (fun z => F.args_object_init_2 z _) F.entry_enumerate_new (en_new B) ⟨h1, ?_⟩
  have hz : (s.heap.push ob).objs.size = s.heap.objs.size + 1 := Heap.size_push ..
  show _ ∧ _
  rw [hz]
  have he : IsEnum ((s.heap.push ob).push { cls := .type "enumerate", data := .fields #[.none, .bool false, .ref s.heap.objs.size, rawInt 0, .none, .none] }) (s.heap.objs.size + 1) s.heap.objs.size 0 .none := by
    have := Heap.get?_push_size (s.heap.push ob) (o := { cls := .type "enumerate", data := .fields #[.none, .bool false, .ref s.heap.objs.size, rawInt 0, .none, .none] }) rfl
    rw [hz] at this
    exact this
  exact ⟨⟨_, he, rfl⟩, h _ he (Heap.get?_push_of_some _ (Heap.get?_push_size _ B.free)) fun b o x => Heap.get?_push_of_some _ (Heap.get?_push_of_some _ x)⟩
theorem en_end {P : Program} {w : World} {A : Around} {E : Value → Shared → Prop} {s : Shared} {e it t : Addr} {c : Int} {i : Nat} {ys : Array Value} {old : Value} {Q : Option Value → Shared → Prop} (hq : A.in1.handled = none) (he : IsEnum s.heap e it c old) (hi : s.heap.IsTupleIter it t i) (ht : s.heap.IsTuple t ys) (hn : ys[i]? = none)
    (k : ∀ g, Heap.ExtBut it s.heap g → Q none { s with heap := g }) : wpAny (model P w) A (pyNext (.ref e)) Q E s := by
  have tE : s.TypeIs (.ref e) "enumerate" := ⟨_, he, rfl⟩
  unfold pyNext
  refine wpAny_bind (wpAny_attempt (wpAny_callSpecial?_slot (name := Str.ofString "__next__") tE F.slot_enumerate_next (wpAny_call_entry F.slot_enumerate_next tE F.entry_enumerate_next ?_ (F.args_enumerate_next_1 _))))
  show wpAny _ _ (field (.ref e) 2 >>= fun _ => _) _ _ _
  refine wpAny_bind (wpAny_field he rfl (x := .ref it) rfl ?_)
  refine wpAny_bind (wpAny_nextOf_tuple_end hq hi ht hn fun g x y z => ?_)
  obtain ⟨o, ho, hc⟩ := z
  exact wpAny_bind (wpAny_isInstance (T := "StopIteration") (b := true) ⟨o, ho, hc⟩ isSubtype_stop (wpAny_pure (k _ y)))
/-- the tuple at a, each item in a new pair -/
def IteT (K : PySem.W.Frag) (a : Addr) : It :=
  ⟨fun i H => ∃ (xs : List V) (x : V), SqT K H a xs ∧ xs[i]? = some x, fun i H v H' => ∃ T x, v = .ref T ∧ H T = none ∧ H' = upd H T (.tup [.int (i : Nat), x]) ∧ ∀ xs, SqT K H a xs → xs[i]? = some x, fun i H => ∃ xs : List V, SqT K H a xs ∧ xs.length ≤ i⟩
theorem turn_enT {P : Program} {w : World} {K : PySem.W.Frag} {elts : List Expr} {kk : Nat} {tpos : Pos} (a e it : Addr) (hai : a ≠ it) (hea : e ≠ a) :
    Turn P w K (.Tuple elts kk tpos) (IteT K a) [e, it] e (fun i h => (∃ old, IsEnum h e it ((i : Nat) : Int) old) ∧ h.IsTupleIter it a i ∧ e ≠ it) where
  mem := by simp
  obj := fun i h st b hb => by
    obtain ⟨⟨old, he⟩, ⟨o, ho, hc, hd⟩, _⟩ := st
    simp only [List.mem_cons, List.not_mem_nil, or_false] at hb
    rcases hb with z | z
    · rw [z]; exact ⟨_, he, fun v q => nomatch q⟩
    · rw [z]; exact ⟨o, ho, fun v q => by rw [hd] at q; cases q⟩
  keep := fun i h h' st k => let ⟨⟨old, he⟩, hi, hne⟩ := st; ⟨⟨old, k e (by simp) _ he⟩, hi.at fun o q => k it (by simp) o q, hne⟩
  item := by
    intro X hP hw hK hc i pins s σ H E I hf st hg
    subst hP hw hK
    obtain ⟨⟨old, he⟩, hit, hne⟩ := st
    obtain ⟨xs, x, hq, hx⟩ := hg
    obtain ⟨its, rv, p, hz⟩ := I.tuple hq
    obtain ⟨u, hu, ru⟩ := rv.get hx
    have hel : e < s.heap.objs.size := Heap.lt_size he
    have hil : it < s.heap.objs.size := by obtain ⟨_, q, _⟩ := hit; exact Heap.lt_size q
    have hlen : i < its.toArray.size := by
      rw [List.size_toArray]
      exact (List.getElem?_eq_some_iff.mp hu).1
    refine wpAny_pyNext_enum_itemC (Draws.tuple (A := X.A.in1) (I.ok.hd hc) it a hai its.toArray) he ⟨hit, p⟩ hlen hne (by simp; exact ⟨hne, hea⟩) fun y g tk hP ho hst hT hsz hk => ?_
    have ey : y = u := by
      have : its.toArray[i]? = some u := by simpa using hu
      rw [this] at hP
      cases hP
      rfl
    subst ey
    refine ⟨_, rfl, wpAny_letOwnedTupleGo_enum (s := { s with heap := g, toks := tk + 1 }) ho fun g' he' sb => ?_⟩
    have hT2 : g'.get? s.heap.objs.size = some { cls := .type "tuple", data := .seq #[.int i tk, y] } := (sb.2 _ (Nat.ne_of_gt hel)).trans hT
    have new : ObjOk X.prog X.w (upd H s.heap.objs.size (.tup [.int (i : Nat), x])) g' s.heap.objs.size (.tup [.int (i : Nat), x]) :=
      ⟨by show 2 ≤ sizeLine; decide, [.int i tk, y], .cons ⟨_, rfl⟩ (.cons ru .nil), ⟨_, hT2, rfl, _, rfl⟩⟩
    have I1 : Inv X pins σ (upd H s.heap.objs.size (.tup [.int (i : Nat), x])) { s with heap := g', toks := tk + 1 } :=
      I.turnedNew (ch := [e, it]) (fun b ob hb q => (sb.2 b (fun z => hb (by simp [z]))).trans (hk b ob (fun z => hb (by simp [z])) (fun z => hb (by simp [z])) q)) hf (Nat.le_refl _) new
    refine ⟨.ref s.heap.objs.size, _, I1, rfl, ⟨_, x, rfl, I.hok.fresh (Nat.le_refl _), rfl, fun ys hy => by rw [I.tuple_inj hy hq]; exact hx⟩, ⟨⟨y, ?_⟩, hst.1.at fun o q => (sb.2 it (Ne.symm hne)).trans q, hne⟩, fun b hb => ?_⟩
    · have e1 : ((i + 1 : Nat) : Int) = (i : Int) + 1 := by omega
      rw [e1]; exact he'
    · have hb' : b < s.heap.objs.size := by
        simp only [List.mem_cons, List.not_mem_nil, or_false] at hb
        rcases hb with z | z
        · rw [z]; exact hel
        · rw [z]; exact hil
      rw [upd_ne (Nat.ne_of_lt hb')]
      exact (hf b hb).1
  done := by
    intro X hP hw hK hc i pins s σ H E I hf st hg
    subst hP hw hK
    obtain ⟨⟨old, he⟩, hit, hne⟩ := st
    obtain ⟨xs, hq, hx⟩ := hg
    obtain ⟨its, rv, p, hz⟩ := I.tuple hq
    obtain ⟨f0, f1, f2, f3, f4, f5⟩ := hf it (by simp)
    have hl := rv.length
    exact en_end (I.ok.hd hc) he hit p (by simp; omega) fun g eb => ⟨rfl, I.turned (t' := s.toks) (fun b o hb q => eb b o hb q) f0 f1 f3 f4 f5⟩
  self := fun A i s Q E st h => let ⟨⟨_, he⟩, _⟩ := st; wpAny_pyIter_enum he h
/-- enumerate(list or tuple) -/
def iEn (K : PySem.W.Frag) (ta : TA) : TI := fun σ H R => ta σ H fun vs H1 => ∃ a xs, vs = [.ref a] ∧ (SqL K H1 a xs ∧ R (Ite K a) H1 ∨ SqT K H1 a xs ∧ R (IteT K a) H1)
theorem pi_en {X : Cx} {e : Expr} {ta : TA} {p pos tpos : Pos} {elts : List Expr} {kk : Nat} (hg : Gl X "enumerate") (hm : X.mg "enumerate" = none) (ha : PA X [e] ta) (hs : starEach [e] X.env = [(false, eval e X.env)]) :
    PI X (.Tuple elts kk tpos) (.Call (.Name "enumerate" p) [e] [] pos) (iEn X.K ta) := by
  refine ⟨fun pins s σ H R I h => ?_⟩
  refine Call_ (ld_blt I hg hm boot_enumerate (PyProof.Rows.callWith_type1 (thn (ha.run pos pins s σ H _ I h) fun us s1 ⟨vs, H1, I1, r1, q1⟩ => ?_) hs rfl))
  obtain ⟨a, xs, ex, hq⟩ := q1
  subst ex
  have r2 := Vals.ref1 r1
  subst r2
  have fr : ∀ b : Addr, b ∈ [s1.heap.objs.size + 1, s1.heap.objs.size] → s1.heap.objs.size ≤ b := fun b hb => by
    simp only [List.mem_cons, List.not_mem_nil, or_false] at hb
    rcases hb with z | z
    · rw [z]; exact Nat.le_add_right _ _
    · rw [z]; exact Nat.le_refl _
  rcases hq with ⟨hq, q⟩ | ⟨hq, q⟩
  · obtain ⟨its, rv, p', hz⟩ := I1.list hq
    refine en_call (begins_list a its.toArray) p'.isList fun g he hit hk => wpAny_pyIter_enum he ?_
    have I2 : Inv X pins σ H1 { s1 with heap := g } := I1.kept (t' := s1.toks) hk
    exact ⟨s1.heap.objs.size + 1, [s1.heap.objs.size + 1, s1.heap.objs.size], _, _, H1, rfl, I2, turn_enum a (s1.heap.objs.size + 1) s1.heap.objs.size, ⟨⟨.none, he⟩, ⟨_, hit, rfl, rfl⟩, Nat.succ_ne_self _⟩, fun b hb => I1.fpOk (fr b hb) (I1.hok.fresh (fr b hb)), q⟩
  · obtain ⟨its, rv, p', hz⟩ := I1.tuple hq
    have la : a < s1.heap.objs.size := by obtain ⟨_, q, _⟩ := p'; exact Heap.lt_size q
    refine en_call (begins_tuple a its.toArray) p' fun g he hit hk => wpAny_pyIter_enum he ?_
    have I2 : Inv X pins σ H1 { s1 with heap := g } := I1.kept (t' := s1.toks) hk
    exact ⟨s1.heap.objs.size + 1, [s1.heap.objs.size + 1, s1.heap.objs.size], _, _, H1, rfl, I2, turn_enT a (s1.heap.objs.size + 1) s1.heap.objs.size (Nat.ne_of_lt la) (Nat.ne_of_gt (Nat.lt_succ_of_lt la)), ⟨⟨.none, he⟩, ⟨_, hit, rfl, rfl⟩, Nat.succ_ne_self _⟩, fun b hb => I1.fpOk (fr b hb) (I1.hok.fresh (fr b hb)), q⟩
theorem enumD_get : ∀ {xs : List D} {k i : Nat} {d : D}, (enumD k xs)[i]? = some d → ∃ x, xs[i]? = some x ∧ d = .tuple [.int ((k + i : Nat) : Int), x]
  | [], _, _, _, h => by simp [enumD] at h
  | x :: xs, k, 0, d, h => by
    simp [enumD] at h
    exact ⟨x, rfl, h.symm⟩
  | x :: xs, k, i + 1, d, h => by
    obtain ⟨y, h1, h2⟩ := enumD_get (xs := xs) (k := k + 1) (i := i) (by simpa [enumD] using h)
    exact ⟨y, by simpa using h1, by rw [h2, show k + 1 + i = k + (i + 1) by omega]⟩
theorem enumD_len : ∀ (xs : List D) (k : Nat), (enumD k xs).length = xs.length
  | [], _ => rfl
  | x :: xs, k => by simp only [enumD, List.length_cons, enumD_len xs (k + 1)]
theorem it_enT {K : PySem.W.Frag} {a : Addr} {xs : List D} : ItOk K (IteT K a) (enumD 0 xs) [(.ref a, .tuple xs)] := fun O H al hG i => by
  have g1 : Dr K (mi H O) (.ref a) (.tuple xs) := hG _ List.mem_cons_self
  cases g1 with
  | tup h1 h2 =>
    rename_i vs
    have q1 : SqT K H a vs := .inl (.inl (mi_lt h1))
    refine ⟨fun d hd => ?_, fun hl => ⟨vs, q1, by rw [enumD_len] at hl; rw [h2.len]; exact hl⟩⟩
    obtain ⟨x, hx, rfl⟩ := enumD_get hd
    obtain ⟨v, hv, hvd⟩ := h2.get hx
    refine ⟨⟨vs, v, q1, hv⟩, fun z H' hz => ?_⟩
    obtain ⟨T, v', rfl, hT, rfl, e1⟩ := hz
    have := (e1 vs q1).symm.trans hv
    cases this
    have sm : Same H (upd H T (.tup [.int (i : Nat), v])) := same_upd hT
    refine ⟨sm, .tup (xs := [.int (i : Nat), v]) ?_ (.cons (by rw [Nat.zero_add]; exact .int _) (.cons (Dr.mono (mi_same sm) _ hvd) .nil))⟩
    rw [mi_out (al.out hT), upd_same]; rfl
theorem it_enL {K : PySem.W.Frag} {a : Addr} {xs : List D} : ItOk K (Ite K a) (enumD 0 xs) [(.ref a, .list xs)] := fun O H al hG i => by
  have g1 : Dr K (mi H O) (.ref a) (.list xs) := hG _ List.mem_cons_self
  cases g1 with
  | lst h1 h2 =>
    rename_i vs
    have q1 : SqL K H a vs := .inl (.inl (mi_lt h1))
    refine ⟨fun d hd => ?_, fun hl => ⟨vs, q1, by rw [enumD_len] at hl; rw [h2.len]; exact hl⟩⟩
    obtain ⟨x, hx, rfl⟩ := enumD_get hd
    obtain ⟨v, hv, hvd⟩ := h2.get hx
    refine ⟨⟨vs, v, q1, hv⟩, fun z H' hz => ?_⟩
    obtain ⟨T, v', rfl, hT, rfl, e1⟩ := hz
    have := (e1 vs q1).symm.trans hv
    cases this
    have sm : Same H (upd H T (.tup [.int (i : Nat), v])) := same_upd hT
    refine ⟨sm, .tup (xs := [.int (i : Nat), v]) ?_ (.cons (by rw [Nat.zero_add]; exact .int _) (.cons (Dr.mono (mi_same sm) _ hvd) .nil))⟩
    rw [mi_out (al.out hT), upd_same]; rfl
section
variable {C : Fam} {a : Expr} {f : En → Option D} {pos : Pos}
theorem si_enum {elts : List Expr} {kk : Nat} {tpos p : Pos} (hg : C.sc.names.lookup ("enumerate" : Str) = some .globalImplicit) (hm : C.mg "enumerate" = none) (ha : SE C a f) (hp : plainX a = true) :
    SI C (.Tuple elts kk tpos) (.Call (.Name "enumerate" p) [a] [] pos) (fun env => match f env with
      | none => none
      | some x => match seq2 x with
        | none => none
        | some ds => some (enumD 0 ds)) := by
  obtain ⟨ta, ha1, ha2⟩ := ha
  refine ⟨iEn C.K (tCons ta tNil), fun X hX => ?_, fun O σ H env R ds r hf q => ?_⟩
  · rw [← hX.hK]
    exact pi_en (show X.env.scope.names.lookup ("enumerate" : Str) = _ by rw [hX.hsc]; exact hg) (by rw [hX.hmg]; exact hm) (pa_cons (ha1 X hX) pa_nil (star_ok hp)) (star_ok hp)
  · dsimp only at hf
    split at hf
    · cases hf
    · rename_i x hx
      split at hf
      · cases hf
      · rename_i es hs
        cases hf
        refine ha2 O σ H env _ _ r hx fun v H1 s1 hv => ?_
        unfold seq2 at hs
        split at hs
        · cases hs
          cases hv with
          | lst h1 h2 => exact ⟨_, _, rfl, .inl ⟨.inl (.inl (mi_lt h1)), q _ H1 _ s1 it_enL fun z hz => by rw [List.mem_singleton.mp hz]; exact .lst h1 h2⟩⟩
        · cases hs
          cases hv with
          | tup h1 h2 => exact ⟨_, _, rfl, .inr ⟨.inl (.inl (mi_lt h1)), q _ H1 _ s1 it_enT fun z hz => by rw [List.mem_singleton.mp hz]; exact .tup h1 h2⟩⟩
        · cases hs
end
end J

/-! zip over a tuple and a list. -/
namespace J
open PySem PySem.Spec PyProof.Rows L2
theorem dr_tEnd {P : Program} {w : World} {A : Around} (hq : A.handled = none) (it t : Addr) (ys : Array Value) (n : Nat) (hn : ys[n]? = none) :
    Draws P w A it [it, t] n (fun i v => ys[i]? = some v) (fun i h => i = n ∧ h.IsTupleIter it t i ∧ h.IsTuple t ys) where
  live := fun _ _ st => let ⟨o, ho, _⟩ := st.2.1; ⟨o, ho⟩
  frame := fun _ _ _ st hk => ⟨st.1, st.2.1.at fun o e => hk it (by simp) o e, st.2.2.at fun o e => hk t (by simp) o e⟩
  item := fun i s Q E hi st _ => absurd st.1 (Nat.ne_of_lt hi)
  done := fun s Q E st hE => wpAny_nextOf_tuple_end hq st.2.1 st.2.2 hn hE
theorem dr_lEnd {P : Program} {w : World} {A : Around} (hq : A.handled = none) (it t : Addr) (ys : Array Value) (n : Nat) (hn : ys[n]? = none) :
    Draws P w A it [it, t] n (fun i v => ys[i]? = some v) (fun i h => i = n ∧ h.IsListIter it t i ∧ h.IsList t ys) where
  live := fun _ _ st => let ⟨o, ho, _⟩ := st.2.1; ⟨o, ho⟩
  frame := fun _ _ _ st hk => ⟨st.1, st.2.1.at fun o e => hk it (by simp) o e, st.2.2.at fun o e => hk t (by simp) o e⟩
  item := fun i s Q E hi st _ => absurd st.1 (Nat.ne_of_lt hi)
  done := fun s Q E st hE => wpAny_nextOf_list_end hq st.2.1 st.2.2 hn fun h' x he hx => hE h' x he hx
/-- the tuple at a and the list at b, the items in new pairs -/
def ItzM (K : PySem.W.Frag) (a b : Addr) : It :=
  ⟨fun i H => ∃ (xs ys : List V) (x y : V), SqT K H a xs ∧ SqL K H b ys ∧ xs[i]? = some x ∧ ys[i]? = some y,
    fun i H v H' => ∃ T x y, v = .ref T ∧ H T = none ∧ H' = upd H T (.tup [x, y]) ∧ (∀ xs, SqT K H a xs → xs[i]? = some x) ∧ ∀ ys, SqL K H b ys → ys[i]? = some y,
    fun i H => ∃ xs ys : List V, SqT K H a xs ∧ SqL K H b ys ∧ (xs.length ≤ i ∨ ys.length ≤ i)⟩
theorem turn_zipM {P : Program} {w : World} {K : PySem.W.Frag} {elts : List Expr} {kk : Nat} {tpos : Pos} {a b z TI TO i1 i2 : Addr} (S : ZipSep2 z TI TO i1 i2 [i1, a] [i2, b]) (ne1 : a ≠ i1) (ne2 : b ≠ i2) :
    Turn P w K (.Tuple elts kk tpos) (ItzM K a b) [z, TI, TO, i1, i2] z (fun i h => IsZip h z TI TO .none ∧ IsTupOf2 h TI (.ref i1) (.ref i2) ∧ (∃ x y, IsTupOf2 h TO x y) ∧ h.IsTupleIter i1 a i ∧ h.IsListIter i2 b i) where
  mem := by simp
  obj := fun i h st c hc => by
    obtain ⟨hz, hTI, ⟨x, y, hTO⟩, ⟨o1, e1, _, d1⟩, ⟨o2, e2, _, d2⟩⟩ := st
    simp only [List.mem_cons, List.not_mem_nil, or_false] at hc
    rcases hc with q | q | q | q | q <;> rw [q]
    · exact ⟨_, hz, fun v q => nomatch q⟩
    · exact ⟨_, hTI, fun v q => nomatch q⟩
    · exact ⟨_, hTO, fun v q => nomatch q⟩
    · exact ⟨o1, e1, fun v q => by rw [d1] at q; cases q⟩
    · exact ⟨o2, e2, fun v q => by rw [d2] at q; cases q⟩
  keep := fun i h h' st k => by
    obtain ⟨hz, hTI, ⟨x, y, hTO⟩, h1, h2⟩ := st
    exact ⟨k z (by simp) _ hz, k TI (by simp) _ hTI, ⟨x, y, k TO (by simp) _ hTO⟩, h1.at fun o q => k i1 (by simp) o q, h2.at fun o q => k i2 (by simp) o q⟩
  item := by
    intro X hP hw hK hc i pins s σ H E I hf st hg
    subst hP hw hK
    obtain ⟨hz, hTI, ⟨x0, y0, hTO⟩, h1, h2⟩ := st
    obtain ⟨xs, ys, x, y, hqx, hqy, hx, hy⟩ := hg
    obtain ⟨its, rv, p, _⟩ := I.tuple hqx
    obtain ⟨its2, rv2, p2, _⟩ := I.list hqy
    obtain ⟨u, hu, ru⟩ := rv.get hx
    obtain ⟨u2, hu2, ru2⟩ := rv2.get hy
    have hx' : its.toArray[i]? = some u := by simpa using hu
    have hy' : its2.toArray[i]? = some u2 := by simpa using hu2
    have hzl : z < s.heap.objs.size := Heap.lt_size hz
    have l1 : i < its.toArray.size := (Array.getElem?_eq_some_iff.mp hx').1
    have l2 : i < its2.toArray.size := (Array.getElem?_eq_some_iff.mp hy').1
    refine wpAny_pyNext_zipD2_item S (Draws.tuple (A := X.A.in1) (I.ok.hd hc) i1 a ne1 its.toArray) (Draws.list (A := X.A.in1) (I.ok.hd hc) i2 b ne2 its2.toArray) hz hTI hTO ⟨h1, p⟩ ⟨h2, p2.isList⟩ l1 l2 fun v1 v2 g tk y1 y2 z' TO' s1 s2 hT hsz hk => ?_
    have e1 : v1 = u := by rw [hx'] at y1; cases y1; rfl
    have e2 : v2 = u2 := by rw [hy'] at y2; cases y2; rfl
    subst e1 e2
    refine ⟨_, rfl, wpAny_letOwnedTupleGo_zip (s := { s with heap := g, toks := tk }) z' fun g' z'' sb => ?_⟩
    have hT2 : g'.get? s.heap.objs.size = some { cls := .type "tuple", data := .seq #[v1, v2] } := (sb.2 _ (Nat.ne_of_gt hzl)).trans hT
    have new : ObjOk X.prog X.w (upd H s.heap.objs.size (.tup [x, y])) g' s.heap.objs.size (.tup [x, y]) := ⟨by show 2 ≤ sizeLine; decide, [v1, v2], .cons ru (.cons ru2 .nil), ⟨_, hT2, rfl, _, rfl⟩⟩
    have I1 : Inv X pins σ (upd H s.heap.objs.size (.tup [x, y])) { s with heap := g', toks := tk } :=
      I.turnedNew (t' := tk) (ch := [z, TI, TO, i1, i2]) (fun c o hb q => (sb.2 c (fun q' => hb (by simp [q']))).trans (hk c o (fun q' => hb (by simp [q'])) (fun q' => hb (by simp [q'])) (fun q' => hb (by simp [q'])) (fun q' => hb (by simp [q'])) q)) hf (Nat.le_refl _) new
    refine ⟨.ref s.heap.objs.size, _, I1, rfl, ⟨_, x, y, rfl, I.hok.fresh (Nat.le_refl _), rfl, fun l hl => by rw [I.tuple_inj hl hqx]; exact hx, fun l hl => by rw [I.list_inj hl hqy]; exact hy⟩, ⟨z'', ?_, ⟨v1, v2, ?_⟩, ?_, ?_⟩, fun c hcm => ?_⟩
    · exact (sb.2 _ S.TIz).trans (hk _ _ S.TIz S.TITO S.TIi1 S.TIi2 hTI)
    · exact (sb.2 _ S.TOz).trans TO'
    · exact s1.1.at fun o q => (sb.2 _ (Ne.symm S.zi1)).trans q
    · exact s2.1.at fun o q => (sb.2 _ (Ne.symm S.zi2)).trans q
    · have hlt : c < s.heap.objs.size := by
        simp only [List.mem_cons, List.not_mem_nil, or_false] at hcm
        rcases hcm with q | q | q | q | q <;> rw [q]
        · exact hzl
        · exact Heap.lt_size hTI
        · exact Heap.lt_size hTO
        · obtain ⟨_, e1, _⟩ := h1; exact Heap.lt_size e1
        · obtain ⟨_, e2, _⟩ := h2; exact Heap.lt_size e2
      rw [upd_ne (Nat.ne_of_lt hlt)]
      exact (hf c hcm).1
  done := by
    intro X hP hw hK hc i pins s σ H E I hf st hg
    subst hP hw hK
    obtain ⟨hz, hTI, ⟨x0, y0, hTO⟩, h1, h2⟩ := st
    obtain ⟨xs, ys, hqx, hqy, hend⟩ := hg
    obtain ⟨its, rv, p, _⟩ := I.tuple hqx
    obtain ⟨its2, rv2, p2, _⟩ := I.list hqy
    have l1 := rv.length
    have l2 := rv2.length
    have fin : ∀ (g : Heap) (tk : Nat), (∀ c o, c ≠ z → c ≠ TO → c ≠ i1 → c ≠ i2 → s.heap.get? c = some o → g.get? c = some o) → (none : Option Value) = none ∧ Inv X pins σ H { s with heap := g, toks := tk } := fun g tk hk =>
      ⟨rfl, I.turnedL (t' := tk) (ch := [z, TI, TO, i1, i2]) (fun c o hb q => hk c o (fun q' => hb (by simp [q'])) (fun q' => hb (by simp [q'])) (fun q' => hb (by simp [q'])) (fun q' => hb (by simp [q'])) q) hf⟩
    by_cases c1 : i < its.length
    · by_cases c2 : i < its2.length
      · exfalso
        rcases hend with q | q <;> omega
      · exact wpAny_pyNext_zipD2_end S (Draws.tuple (A := X.A.in1) (I.ok.hd hc) i1 a ne1 its.toArray) (dr_lEnd (A := X.A.in1) (I.ok.hd hc) i2 b its2.toArray i (by simp; omega)) hz hTI hTO ⟨h1, p⟩ ⟨rfl, h2, p2.isList⟩ (by simp; omega) (Nat.le_refl _) (.inr rfl) fin
    · by_cases c2 : i < its2.length
      · exact wpAny_pyNext_zipD2_end S (dr_tEnd (A := X.A.in1) (I.ok.hd hc) i1 a its.toArray i (by simp; omega)) (Draws.list (A := X.A.in1) (I.ok.hd hc) i2 b ne2 its2.toArray) hz hTI hTO ⟨rfl, h1, p⟩ ⟨h2, p2.isList⟩ (Nat.le_refl _) (by simp; omega) (.inl rfl) fin
      · exact wpAny_pyNext_zipD2_end S (dr_tEnd (A := X.A.in1) (I.ok.hd hc) i1 a its.toArray i (by simp; omega)) (dr_lEnd (A := X.A.in1) (I.ok.hd hc) i2 b its2.toArray i (by simp; omega)) hz hTI hTO ⟨rfl, h1, p⟩ ⟨rfl, h2, p2.isList⟩ (Nat.le_refl _) (Nat.le_refl _) (.inl rfl) fin
  self := fun A i s Q E st h => wpAny_pyIter_zip st.1 h
/-- zip of two of any kind -/
def iZipM (K : PySem.W.Frag) (ta : TA) : TI := fun σ H R => ta σ H fun vs H1 => ∃ a b xs ys, vs = [.ref a, .ref b] ∧ SqT K H1 a xs ∧ SqL K H1 b ys ∧ R (ItzM K a b) H1
theorem pi_zipM {X : Cx} {e e2 : Expr} {ta : TA} {p pos tpos : Pos} {elts : List Expr} {kk : Nat} (hg : Gl X "zip") (hm : X.mg "zip" = none) (ha : PA X [e, e2] ta) (hs : starEach [e, e2] X.env = (false, eval e X.env) :: starEach [e2] X.env) (hpl : (backTo pos (starEach [e2] X.env)).any (·.1) = false) :
    PI X (.Tuple elts kk tpos) (.Call (.Name "zip" p) [e, e2] [] pos) (iZipM X.K ta) := by
  refine ⟨fun pins s σ H R I h => ?_⟩
  refine Call_ (ld_blt I hg hm PyProof.Rows.boot_zip (PyProof.Rows.callWith_type1 (thn (ha.run pos pins s σ H _ I h) fun us s1 ⟨vs, H1, I1, r1, q1⟩ => ?_) hs hpl))
  obtain ⟨a, b, xs, ys, ex, hqx, hqy, q⟩ := q1
  subst ex
  have ru : us = [.ref a, .ref b] := by
    cases r1 with
    | cons r rr =>
      cases rr with
      | cons r' rr' =>
        cases rr'
        cases r
        cases r'
        rfl
  subst ru
  have fr : ∀ c, c ∈ [s1.heap.objs.size + 4, s1.heap.objs.size + 2, s1.heap.objs.size + 3, s1.heap.objs.size, s1.heap.objs.size + 1] → FpOk X pins H1 c := fun c hcm => by
    have hle : s1.heap.objs.size ≤ c := by
      simp only [List.mem_cons, List.not_mem_nil, or_false] at hcm
      rcases hcm with z | z | z | z | z
      · rw [z]; exact Nat.le_add_right _ 4
      · rw [z]; exact Nat.le_add_right _ 2
      · rw [z]; exact Nat.le_add_right _ 3
      · rw [z]; exact Nat.le_refl _
      · rw [z]; exact Nat.le_add_right _ 1
    exact I1.fpOk hle (I1.hok.fresh hle)
  obtain ⟨its, rv, p1, _⟩ := I1.tuple hqx
  obtain ⟨its2, rv2, p2, _⟩ := I1.list hqy
  have la : a < s1.heap.objs.size := by obtain ⟨_, q, _⟩ := p1; exact Heap.lt_size q
  have lb : b < s1.heap.objs.size := p2.lt
  refine zip_begins2 (begins_tuple a its.toArray) (begins_list b its2.toArray) p1 p2.isList fun g hz hTI hTO g1 g2 hsz hk => wpAny_pyIter_zip hz ?_
  have I2 : Inv X pins σ H1 { s1 with heap := g } := I1.kept (t' := s1.toks) hk
  exact ⟨s1.heap.objs.size + 4, [s1.heap.objs.size + 4, s1.heap.objs.size + 2, s1.heap.objs.size + 3, s1.heap.objs.size, s1.heap.objs.size + 1], _, _, H1, rfl, I2, turn_zipM (zip_sep2 (N := s1.heap.objs.size) (fp1 := [a]) (fp2 := [b]) (fun c hc => by rw [List.mem_singleton.mp hc]; exact la) (fun c hc => by rw [List.mem_singleton.mp hc]; exact lb)) (Nat.ne_of_lt la) (Nat.ne_of_lt (Nat.lt_succ_of_lt lb)), ⟨hz, hTI, ⟨_, _, hTO⟩, ⟨_, g1, rfl, rfl⟩, ⟨_, g2, rfl, rfl⟩⟩, fr, q⟩
theorem it_zipM {K : PySem.W.Frag} {a b : Addr} {xs ys : List D} : ItOk K (ItzM K a b) (zipD xs ys) [(.ref a, .tuple xs), (.ref b, .list ys)] := fun O H al hG i => by
  have g1 : Dr K (mi H O) (.ref a) (.tuple xs) := hG _ List.mem_cons_self
  have g2 : Dr K (mi H O) (.ref b) (.list ys) := hG _ (List.mem_cons_of_mem _ List.mem_cons_self)
  cases g1 with
  | tup h1 h2 =>
    rename_i vs
    cases g2 with
    | lst h3 h4 =>
      rename_i us
      have q1 : SqT K H a vs := .inl (.inl (mi_lt h1))
      have q2 : SqL K H b us := .inl (.inl (mi_lt h3))
      refine ⟨fun d hd => ?_, fun hl => ⟨vs, us, q1, q2, ?_⟩⟩
      · obtain ⟨x, y, hx, hy, rfl⟩ := zipD_get hd
        obtain ⟨v, hv, hvd⟩ := h2.get hx
        obtain ⟨u, hu, hud⟩ := h4.get hy
        refine ⟨⟨vs, us, v, u, q1, q2, hv, hu⟩, fun z H' hz => ?_⟩
        obtain ⟨T, v', u', rfl, hT, rfl, e1, e2⟩ := hz
        have := (e1 vs q1).symm.trans hv
        cases this
        have := (e2 us q2).symm.trans hu
        cases this
        have sm : Same H (upd H T (.tup [v, u])) := same_upd hT
        refine ⟨sm, .tup (xs := [v, u]) ?_ (.cons (Dr.mono (mi_same sm) _ hvd) (.cons (Dr.mono (mi_same sm) _ hud) .nil))⟩
        rw [mi_out (al.out hT), upd_same]; rfl
      · rw [zipD_len] at hl
        have := h2.len
        have := h4.len
        by_cases h : vs.length ≤ i
        · exact .inl h
        · exact .inr (by omega)
theorem PI.or2 {X : Cx} {tg e : Expr} {t u : TI} (h : PI X tg e t) (h' : PI X tg e u) : PI X tg e (fun σ H R => t σ H R ∨ u σ H R) :=
  ⟨fun pins s σ H R I hw => hw.elim (fun q => h.run pins s σ H R I q) fun q => h'.run pins s σ H R I q⟩
section
variable {C : Fam} {a b : Expr} {f g : En → Option D} {pos : Pos}
theorem si_zipM {elts : List Expr} {kk : Nat} {tpos p : Pos} (hg : C.sc.names.lookup ("zip" : Str) = some .globalImplicit) (hm : C.mg "zip" = none) (ha : SE C a f) (hb : SE C b g) (hp : plainX a = true) (hp2 : plainX b = true) :
    SI C (.Tuple elts kk tpos) (.Call (.Name "zip" p) [a, b] [] pos) (fun env => match f env with
      | none => none
      | some x => match g env with
        | none => none
        | some y => zip2 x y) := by
  have hA := ha
  have hB := hb
  obtain ⟨ti, t1, t2⟩ := si_zip (elts := elts) (kk := kk) (tpos := tpos) (p := p) (pos := pos) hg hm hA hB hp hp2
  obtain ⟨ta, ha1, ha2⟩ := ha
  obtain ⟨tb, hb1, hb2⟩ := hb
  refine ⟨fun σ H R => ti σ H R ∨ iZipM C.K (tCons ta (tCons tb tNil)) σ H R, fun X hX => ?_, fun O σ H env R ds r hf q => ?_⟩
  · refine PI.or2 (t1 X hX) ?_
    rw [← hX.hK]
    exact pi_zipM (show X.env.scope.names.lookup ("zip" : Str) = _ by rw [hX.hsc]; exact hg) (by rw [hX.hmg]; exact hm) (pa_cons (ha1 X hX) (pa_cons (hb1 X hX) pa_nil (star_ok hp2)) (star_ok hp)) (star_ok hp) (star_any (by rw [List.all_cons, hp2]; rfl))
  · dsimp only at hf
    split at hf
    · cases hf
    · rename_i x hx
      split at hf
      · cases hf
      · rename_i y hy
        unfold zip2 at hf
        split at hf
        · refine .inl (t2 O σ H env R ds r ?_ q)
          dsimp only
          rw [hx]
          dsimp only
          rw [hy]
          exact hf
        · refine .inl (t2 O σ H env R ds r ?_ q)
          dsimp only
          rw [hx]
          dsimp only
          rw [hy]
          exact hf
        · cases hf
          refine .inr (ha2 O σ H env _ _ r hx fun v H1 s1 hv => hb2 O σ H1 env _ _ (r.mono s1) hy fun w H2 s2 hw => ?_)
          have hv2 := Dr.mono (mi_same s2) _ hv
          cases hv2 with
          | tup h1 h2 =>
            cases hw with
            | lst h3 h4 =>
              refine ⟨_, _, _, _, rfl, .inl (.inl (mi_lt h1)), .inl (.inl (mi_lt h3)), q _ H2 _ (s1.trans s2) it_zipM fun z hz => ?_⟩
              rcases List.mem_cons.mp hz with e | hz
              · rw [e]; exact .tup h1 h2
              · rw [List.mem_singleton.mp hz]; exact .lst h3 h4
        · cases hf
end
end J

/-! Fields of an object; dicts with tuples for keys. -/
namespace J
open PySem PySem.Spec PyProof.Rows L2
def encK (k : List Int) : PyData := .tuple (k.map .int)
theorem encK_le : PySem.W.dataLe false encK = fun p q => decide (p ≤ q) := by
  funext p q
  show (!PySem.W.dataLt (.tuple (q.map .int)) (.tuple (p.map .int))) = _
  rw [PySem.W.dataLt_tuple]
  show (!PySem.W.rowLt (q.map .int) (p.map .int)) = _
  rw [PySem.W.dataLt_ints]
  by_cases h : q < p
  · have h' : ¬ p ≤ q := fun r => List.not_lt.mpr r h
    simp [h, h']
  · have h' : p ≤ q := List.not_lt.mp h
    simp [h, h']
/-- addresses of tuples of ints -/
def KsAt (H : Hp) : List Addr → List (List Int) → Prop
  | [], [] => True
  | b :: bs, k :: ks => H b = some (.tup (k.map V.int)) ∧ KsAt H bs ks
  | _, _ => False
theorem ksAt_of {H : Hp} : ∀ {out : List Value} {ks : List (List Int)}, PySem.W.EachIs (fun v k => ∃ b, v = Value.ref b ∧ H b = some (.tup (k.map V.int))) out ks → ∃ bs, out = bs.map Value.ref ∧ KsAt H bs ks
  | _, _, .nil => ⟨[], rfl, trivial⟩
  | _, _, .cons ⟨b, e, h⟩ t => by
    obtain ⟨bs, e2, h2⟩ := ksAt_of t
    exact ⟨b :: bs, by rw [e, e2]; rfl, h, h2⟩
theorem KsAt.len {H : Hp} : ∀ {bs : List Addr} {ks : List (List Int)}, KsAt H bs ks → bs.length = ks.length
  | [], [], _ => rfl
  | b :: bs, k :: ks, h => by rw [List.length_cons, List.length_cons, KsAt.len h.2]
  | [], _ :: _, h => h.elim
  | _ :: _, [], h => h.elim
theorem KsAt.dr {K : PySem.W.Frag} {H H' : Hp} (e : ∀ b k, H b = some (.tup k) → H' b = some (.tup k)) : ∀ {bs : List Addr} {ks : List (List Int)}, KsAt H bs ks → DrA K H' (bs.map V.ref) (ks.map fun k => .tuple (k.map .int))
  | [], [], _ => .nil
  | b :: bs, k :: ks, h => .cons (.tup (e _ _ h.1) (DrA.ints k)) (KsAt.dr e h.2)
  | [], _ :: _, h => h.elim
  | _ :: _, [], h => h.elim
theorem kV_ints (k : List Int) : (k.map (Sum.inl : Int → Key)).map kV = k.map V.int := by
  rw [List.map_map]; rfl
section
variable {X : Cx}
theorem each_keys {H : Hp} {h : Heap} {P : Program} {w : World} (hok : HOk P w H h) : ∀ {kvs : List (List Key × V)} {xs : List (List Key × Addr × Value)} {ks : List (List Int)}, Paired (fun (p : List Key × V) (q : List Key × Addr × Value) => p.1 = q.1 ∧ H q.2.1 = some (.tup (p.1.map kV)) ∧ RelV p.2 q.2.2) kvs xs →
    kvs.map (·.1) = ks.map (fun k => k.map Sum.inl) →
    PySem.W.EachIs (fun v k => ∃ b, v = Value.ref b ∧ H b = some (.tup (k.map V.int))) (xs.map fun x => Value.ref x.2.1) ks ∧ PySem.W.EachIs (fun v k => Reads h v (encK k) []) (xs.map fun x => Value.ref x.2.1) ks
  | _, _, [], .nil, _ => ⟨.nil, .nil⟩
  | _, _, _ :: _, .nil, e => by simp at e
  | _, _, [], .cons _ _, e => by simp at e
  | _, _, k :: ks, .cons (a := a) (b := b) q t, e => by
    simp only [List.map_cons, List.cons.injEq] at e
    obtain ⟨h1, h2⟩ := each_keys hok t e.2
    have hb : H b.2.1 = some (.tup (k.map V.int)) := by rw [q.2.1, e.1, kV_ints]
    obtain ⟨_, its, rv, o, ho, hc, n, hd⟩ := hok _ _ hb
    exact ⟨.cons ⟨_, rfl, hb⟩ h1, .cons (reads_tuple_at ho hc hd (by simpa using (rv.ints).reads h)) h2⟩
/-- sorted(d) of a dict with tuples of ints for keys -/
theorem call_sortedDT (hcalm : X.calm = true) (hu : X.A.units + 64 < cLine) : CallR X (.builtin "sorted") (fun xs H Q => ∃ (a : Addr) (kvs : List (List Key × V)) (ks : List (List Int)), xs = [.ref a] ∧ H a = some (.dT kvs) ∧ kvs.map (·.1) = ks.map (fun k => k.map Sum.inl) ∧ ks.length ≤ 1000 ∧ (∀ k ∈ ks, k ≠ []) ∧
    ∀ (p : Addr) (bs : List Addr), KsAt H bs (sortL ks) → H p = none → Q (.ref p) (upd H p (.lst (bs.map V.ref)))) := by
  intro pins s σ H xs us Q I r q
  obtain ⟨a, kvs, ks, ex, hd, hks, h64, hne, q⟩ := q
  subst ex
  obtain ⟨u, eu, rx⟩ := vals1 r
  subst eu
  cases rx
  obtain ⟨z, hs, xs', pr, o, es, ep, ho, hx, hdt, he, hn⟩ := (show ObjOk X.prog X.w H s.heap a (.dT kvs) from I.hok a _ hd)
  have l1 : es.size = xs'.length := size_of_entries he
  have l2 : kvs.length = xs'.length := Paired.length pr
  have l3 : kvs.length = ks.length := by
    have e := congrArg List.length hks
    rw [List.length_map, List.length_map] at e
    exact e
  refine Calls.call_function_entry PyProof.Rows.kind_sorted PyProof.Rows.plain_sorted PyProof.Rows.entry_sorted (PyProof.Rows.args_sorted1 _) ?_
  unfold Builtin.«sorted»
  refine wpAny_bind (m := checkCount "sorted" 1 1 _) (wpAny_pure ?_)
  refine wpAny_bind (PySem.W.kdu_collect (A := X.A.in1) (kdl_raw hs hx hdt) (I.ok.hd hcalm) ho (by omega) fun h' tk acc hk hacc => ?_)
  have ea : acc.toList = xs'.map fun x => Value.ref x.2.1 := by
    have hl : acc.toList.length = xs'.length := by rw [Array.length_toList, hacc.1]; exact l1
    apply List.ext_getElem?
    intro j
    rw [List.getElem?_map]
    cases hj : acc.toList[j]? with
    | none =>
      have h1 := List.getElem?_eq_none_iff.mp hj
      rw [List.getElem?_eq_none (by omega)]
      all_goals rfl
    | some v =>
      obtain ⟨en, hen, hv⟩ := hacc.2 j v (by rw [← Array.getElem?_toList]; exact hj)
      have qe := entry_at he j
      rw [hen] at qe
      cases hb : xs'[j]? with
      | none =>
        rw [hb] at qe
        exact nomatch (show some en = none from qe)
      | some b =>
        rw [hb] at qe
        have e2 : en = entryOfKey (tupleKind (mixKind X.prog X.w)) b := Option.some.inj qe
        rw [hv, e2]
        all_goals rfl
  have I1 : Inv X pins σ H { s with heap := h', toks := tk } := I.kept hk
  have hal : acc.toList.length = ks.length := by rw [ea, List.length_map]; omega
  refine wpAny_bind (wpAny_newList ?_ (by rw [hal, sizeLine_eq]; omega))
  have hoL : (h'.push (seqObj "list" acc.toList.toArray 0)).get? h'.objs.size = some (seqObj "list" acc.toList.toArray 0) := Heap.get?_push_size _ rfl
  show wpAny _ _ _ _ _ { s with heap := h'.push (seqObj "list" acc.toList.toArray 0), toks := tk }
  obtain ⟨k1, k2⟩ := each_keys I1.hok pr hks
  rw [← ea] at k1 k2
  refine wpAny_bind (wpAny_holding (PySem.W.list_sort_data (s := { s with heap := h'.push (seqObj "list" acc.toList.toArray 0), toks := tk }) (enc := encK) hoL k1 (k2.mono fun v k hv => ⟨[], PyProof.Rows.Reads.keeps (fun b o e => Heap.get?_push_of_some _ e) hv, by simp⟩) (PySem.W.AllAlike.of fun k k' => by
      show PySem.W.alike (.tuple _) (.tuple _) = true
      simp only [PySem.W.alike]
      exact PySem.W.alike_ints k k') (.inl fun d hd => ?_) (by omega) (fun k _ => ?_) fun out hl hR => ?_))
  · obtain ⟨k, hk', rfl⟩ := List.mem_map.mp hd
    cases k with
    | nil => exact absurd rfl (hne _ hk')
    | cons x r => exact ⟨_, _, rfl⟩
  · have e0 : (encK k).depth ≤ 1 := by
      unfold encK
      simp only [PyData.depth, PySem.W.depth_ints]
      omega
    have e1 : X.A.in1.units ≤ X.A.units + 8 := by simp [Around.in1]
    omega
  · rw [encK_le] at hR
    obtain ⟨bs, rfl, hbs⟩ := ksAt_of hR
    obtain ⟨e', he'⟩ := PyProof.Rows.sortedHeap_at (vs := acc.toList) (out := (bs.map Value.ref).toArray) hoL
    have hlen : (bs.map V.ref).length ≤ sizeLine := by
      rw [List.length_map] at hl ⊢
      rw [hl, sizeLine_eq]; omega
    refine wpAny_pure ⟨_, rfl, .ref h'.objs.size, upd H h'.objs.size (.lst (bs.map V.ref)), I1.laid (t' := tk) (fun b u e => ?_) (Nat.le_refl _)
      (show ObjOk X.prog X.w _ _ _ (.lst (bs.map V.ref)) from ⟨hlen, bs.map Value.ref, e', vals_refs bs, he'⟩), rfl, q _ bs hbs (I1.hok.fresh (Nat.le_refl _))⟩
    have hb : b < h'.objs.size := Heap.lt_size e
    rw [PyProof.Rows.sortedHeap_old (Nat.ne_of_lt hb) (by rw [size_push']; exact Nat.lt_succ_of_lt hb)]
    exact Heap.get?_push_of_some _ e
end
end J
namespace J
open PySem PySem.Spec PyProof.Rows L2
theorem undt_eq : ∀ {r : List (D × D)} {es : List (List Int × D)}, undt r = some es → r = es.map fun p => (.tuple (p.1.map .int), p.2)
  | [], es, h => by cases h; rfl
  | (.tuple ks, d) :: r, es, h => by
    simp only [undt] at h
    split at h
    · cases h
    · rename_i ns hn
      split at h
      · cases h
      · rename_i es' he
        cases h
        rw [undt_eq he, ints_eq hn]; rfl
  | (.none, d) :: r, es, h => by simp [undt] at h
  | (.bool _, d) :: r, es, h => by simp [undt] at h
  | (.int _, d) :: r, es, h => by simp [undt] at h
  | (.str _, d) :: r, es, h => by simp [undt] at h
  | (.list _, d) :: r, es, h => by simp [undt] at h
  | (.dict _, d) :: r, es, h => by simp [undt] at h
theorem undtD_eq {x : D} {es : List (List Int × D)} (h : undtD x = some es) : x = dtD es := by
  unfold undtD at h
  split at h
  · rw [undt_eq h]; rfl
  · cases h
theorem dtD_inj {es es' : List (List Int × D)} (h : dtD es = dtD es') : es = es' := by
  unfold dtD at h
  injection h with h
  injection h with _ h
  have key : ∀ (es es' : List (List Int × D)), es.map (fun p => ((.tuple (p.1.map .int), p.2) : D × D)) = es'.map (fun p => (.tuple (p.1.map .int), p.2)) → es = es' := by
    intro es
    induction es with
    | nil => intro es' h; cases es' with
      | nil => rfl
      | cons _ _ => simp at h
    | cons p r ih => intro es' h; cases es' with
      | nil => simp at h
      | cons q r' =>
        simp only [List.map_cons, List.cons.injEq, Prod.mk.injEq, PyData.tuple.injEq] at h
        obtain ⟨⟨h1, h2⟩, h3⟩ := h
        have h4 : p.1 = q.1 := by
          exact (List.map_inj_right (f := (PyData.int : Int → D)) (fun a b e => by injection e)).mp h1
        rw [ih _ h3]
        congr 1
        exact Prod.ext h4 h2
  exact key _ _ h
theorem Tp.dt {K : PySem.W.Frag} {O : List Addr} {H : Hp} {v : V} {es : List (List Int × D)} (h : Tp K O H v (dtD es)) : ∃ a kvs, v = .ref a ∧ H a = some (.dT kvs) ∧ kvs.map (·.1) = es.map (fun p => p.1.map Sum.inl) ∧ DrA K (mi H O) (kvs.map (·.2)) (es.map (·.2)) := by
  rcases h with h | ⟨a, vs, ds', rfl, e, h1, h2⟩ | ⟨a, kvs, es', e1, e2, h1, h2, h3⟩ | ⟨x, C, dx, vs, fs, e1, e2, e3, h1, h2, h3⟩
  · generalize hd : dtD es = d at h
    cases h with
    | scr h1 =>
      rename_i ns
      unfold dtD at hd
      injection hd with hd
      cases ns <;> simp at hd
    | _ => unfold dtD at hd; cases hd
  · cases e
  · have := dtD_inj e2
    subst this
    exact ⟨a, kvs, e1, h1, h2, h3⟩
  · cases fs with
    | nil => exact absurd rfl e3
    | cons p r => cases e2
theorem val_get {K : PySem.W.Frag} {H : Hp} {ns : List Int} : ∀ {kvs : List (List Key × V)} {es : List (List Int × D)}, kvs.map (·.1) = es.map (fun p => p.1.map Sum.inl) → DrA K H (kvs.map (·.2)) (es.map (·.2)) →
    (∀ d, dgetD ns es = some d → ∃ v, valV kvs (ns.map Sum.inl) = some v ∧ Dr K H v d) ∧ (dgetD ns es = none → valV kvs (ns.map Sum.inl) = none)
  | [], [], _, _ => ⟨(fun d h => by cases h), fun _ => valV_nil⟩
  | [], _ :: _, e, _ => by simp at e
  | _ :: _, [], e, _ => by simp at e
  | p :: kvs, q :: es, e, h => by
    simp only [List.map_cons, List.cons.injEq] at e h
    cases h with
    | cons h1 h2 =>
      obtain ⟨k1, k2⟩ := val_get e.2 h2
      obtain ⟨qk, qd⟩ := q
      simp only [dgetD]
      by_cases hq : qk = ns
      · subst hq
        have e1 : valV (p :: kvs) (qk.map Sum.inl) = some p.2 := valV_pos e.1
        rw [if_pos rfl, e1]
        exact ⟨fun d hd => by cases hd; exact ⟨_, rfl, h1⟩, fun z => by cases z⟩
      · have e1 : valV (p :: kvs) (ns.map Sum.inl) = valV kvs (ns.map Sum.inl) := valV_neg (fun z => hq (by
          have z' := e.1.symm.trans z
          exact (List.map_inj_right (f := (Sum.inl : Int → Key)) (fun a b e => by injection e)).mp z'))
        rw [if_neg hq, e1]
        exact ⟨k1, k2⟩
theorem tupI_eq {x : D} {ns : List Int} (h : tupI x = some ns) : x = .tuple (ns.map .int) := by
  unfold tupI at h
  split at h
  · rw [ints_eq h]
  · cases h
section
variable {C : Fam} {a b c e : Expr} {es : List Expr} {f g k : En → Option D} {pos : Pos}
theorem sb_fld {n : Str} (ha : SB C a f) (ho : notCall a = true) : SB C (.Attribute a n pos) (fun env => match f env with
    | none => none
    | some x => opFld n x) := by
  obtain ⟨ta, ha1, ha2⟩ := ha
  refine ⟨tFld C.K ta n, fun X hX => ?_, fun O σ H env Q d r hf q => ?_⟩
  · rw [← hX.hK]; exact pe_fld (ha1 X hX) (base_ok ho)
  · dsimp only at hf
    split at hf
    · cases hf
    · rename_i x hx
      refine ha2 O σ H env _ x r hx fun v H1 s1 hv => ?_
      unfold opFld at hf
      split at hf
      · obtain ⟨x, C', dx, vs, u, rfl, h1, h2, h3, h4, h5⟩ := hv.fld hf
        exact ⟨x, C', dx, vs, u, rfl, h1, h2, h3, h4, q u H1 s1 h5.tp⟩
      · cases hf
theorem Tp0.str {K : PySem.W.Frag} {O : List Addr} {H : Hp} {v : V} {d : D} (h : Tp0 K O H v d) (hs : strictD d = true) : Dr K (mi H O) v d := by
  rcases h with h | ⟨a, vs, ds', rfl, e, h1, h2⟩ | ⟨a, kvs, es, e1, e2, h1, h2, h3⟩
  · exact h
  · rw [e] at hs; cases hs
  · rw [e2] at hs; cases hs
theorem se_flds {n : Str} (ha : SB C a f) (ho : notCall a = true) : SE C (.Attribute a n pos) (fun env => match f env with
    | none => none
    | some x => opFldS n x) := by
  obtain ⟨ta, ha1, ha2⟩ := ha
  refine ⟨tFld C.K ta n, fun X hX => ?_, fun O σ H env Q d r hf q => ?_⟩
  · rw [← hX.hK]; exact pe_fld (ha1 X hX) (base_ok ho)
  · dsimp only at hf
    split at hf
    · cases hf
    · rename_i x hx
      refine ha2 O σ H env _ x r hx fun v H1 s1 hv => ?_
      unfold opFldS at hf
      split at hf
      · rename_i d' hd'
        split at hf
        · rename_i hs
          cases hf
          unfold opFld at hd'
          split at hd'
          · obtain ⟨x, C', dx, vs, u, rfl, h1, h2, h3, h4, h5⟩ := hv.fld hd'
            exact ⟨x, C', dx, vs, u, rfl, h1, h2, h3, h4, q u H1 s1 (h5.str hs)⟩
          · cases hd'
        · cases hf
      · cases hf
theorem se_dix (ha : SB C a f) (hb : SB C b g) (hp : plainX b = true) : SE C (.Subscript a b pos) (fun env => match f env with
    | none => none
    | some x => match g env with
      | none => none
      | some y => opDix x y) := by
  obtain ⟨ta, ha1, ha2⟩ := ha
  obtain ⟨tb, hb1, hb2⟩ := hb
  refine ⟨tDGet ta tb, fun X hX => ?_, fun O σ H env Q d r hf q => ?_⟩
  · exact pe_dget (by have := hX.hu; omega) (ha1 X hX) (hb1 X hX) (plain_ix hp)
  · dsimp only at hf
    split at hf
    · cases hf
    · rename_i x hx
      split at hf
      · cases hf
      · rename_i y hy
        refine ha2 O σ H env _ x r hx fun v H1 s1 hv => hb2 O σ H1 env _ y (r.mono s1) hy fun w H2 s2 hw => ?_
        unfold opDix at hf
        split at hf
        · cases hf
        · rename_i es he
          split at hf
          · cases hf
          · rename_i ns hn
            have := undtD_eq he
            subst this
            have := tupI_eq hn
            subst this
            obtain ⟨p, kvs, rfl, h1, h2, h3⟩ := (hv.mono s2).dt
            obtain ⟨b', ws, rfl, h4, h5⟩ := hw.tuple
            have := h5.ofInts
            subst this
            obtain ⟨v', h6, h7⟩ := (val_get (ns := ns) h2 h3).1 _ hf
            refine ⟨p, v', rfl, ?_, q v' H2 (s1.trans s2) h7⟩
            rw [← h6]
            exact DGet.t h1 (by rw [kV_ints]; exact mi_lt h4)
theorem m2_ok {X : Cx} {apos cpos : Pos} {m : Str} (h1 : plainX b = true) (h2 : plainX c = true) (ho : notCall a = true) (hl : (apos.endLine == cpos.line) = true) : M2 X a m apos b c cpos where
  base := base_ok ho
  few := by
    have : starEach [b, c] X.env = [(false, eval b X.env), (false, eval c X.env)] := by rw [star_ok h1, star_ok h2]; rfl
    rw [this]; rfl
  line := hl
  trees := by
    have : starEach [b, c] X.env = [(false, eval b X.env), (false, eval c X.env)] := by rw [star_ok h1, star_ok h2]; rfl
    rw [this]; rfl
theorem se_dget {apos : Pos} (ha : SB C a f) (hb : SB C b g) (hc : SE C c k) (hp : plainX b = true) (hp2 : plainX c = true) (ho : notCall a = true) (hl : (apos.endLine == pos.line) = true) : SE C (.Call (.Attribute a "get" apos) [b, c] [] pos) (fun env => match f env with
    | none => none
    | some x => match g env with
      | none => none
      | some y => match k env with
        | none => none
        | some z => opDget x y z) := by
  obtain ⟨ta, ha1, ha2⟩ := ha
  obtain ⟨tb, hb1, hb2⟩ := hb
  obtain ⟨tc, hc1, hc2⟩ := hc
  refine ⟨tDGet2 ta tb tc, fun X hX => ?_, fun O σ H env Q d r hf q => ?_⟩
  · exact pe_dget2 (by have := hX.hu; omega) (ha1 X hX) (hb1 X hX) (hc1 X hX) (m2_ok hp hp2 ho hl)
  · dsimp only at hf
    split at hf
    · cases hf
    · rename_i x hx
      split at hf
      · cases hf
      · rename_i y hy
        split at hf
        · cases hf
        · rename_i z hz
          refine ha2 O σ H env _ x r hx fun v H1 s1 hv => ?_
          unfold opDget at hf
          split at hf
          · cases hf
          · rename_i es he
            split at hf
            · cases hf
            · rename_i ns hn
              cases hf
              have := undtD_eq he
              subst this
              have := tupI_eq hn
              subst this
              obtain ⟨p, kvs, rfl, h1, h2, h3⟩ := hv.dt
              refine ⟨p, rfl, .inr ⟨kvs, .inl h1⟩, hb2 O σ H1 env _ _ (r.mono s1) hy fun w H2 s2 hw => hc2 O σ H2 env _ _ ((r.mono s1).mono s2) hz fun u H3 s3 hu => ?_⟩
              obtain ⟨b', ws, rfl, h4, h5⟩ := hw.tuple
              have := h5.ofInts
              subst this
              have h3' := DrA.mono (mi_same (O := O) (s2.trans s3)) _ h3
              refine ⟨valV kvs (ns.map Sum.inl), DGet.t (s3.at (s2.at h1)) (by rw [kV_ints]; exact s3.at (mi_lt h4)), ?_⟩
              refine q _ H3 ((s1.trans s2).trans s3) ?_
              obtain ⟨g1, g2⟩ := val_get (ns := ns) h2 h3'
              cases hg : dgetD ns es with
              | none => rw [g2 hg]; exact hu
              | some d' =>
                obtain ⟨v', h6, h7⟩ := g1 _ hg
                rw [h6]; exact h7
theorem se_dsort {p : Pos} (ha : SB C a f) (hp : plainX a = true) (hg : C.sc.names.lookup ("sorted" : Str) = some .globalImplicit) (hm : C.mg "sorted" = none) : SE C (.Call (.Name "sorted" p) [a] [] pos) (fun env => match f env with
    | none => none
    | some x => opDsort x) := by
  obtain ⟨ta, ha1, ha2⟩ := ha
  refine ⟨tCB (fun xs H Q => ∃ (a : Addr) (kvs : List (List Key × V)) (ks : List (List Int)), xs = [.ref a] ∧ H a = some (.dT kvs) ∧ kvs.map (·.1) = ks.map (fun k => k.map Sum.inl) ∧ ks.length ≤ 1000 ∧ (∀ k ∈ ks, k ≠ []) ∧
    ∀ (p : Addr) (bs : List Addr), KsAt H bs (sortL ks) → H p = none → Q (.ref p) (upd H p (.lst (bs.map V.ref)))) (tCons ta tNil), fun X hX => ?_, fun O σ H env Q d r hf q => ?_⟩
  · exact pe_callB (call_sortedDT hX.calm hX.hu) (show X.env.scope.names.lookup ("sorted" : Str) = _ by rw [hX.hsc]; exact hg) (by rw [hX.hmg]; exact hm) (by decide +kernel) (pa_cons (ha1 X hX) pa_nil (star_ok hp)) (by decide) (by decide) (star_ok hp) rfl
  · dsimp only at hf
    split at hf
    · cases hf
    · rename_i x hx
      refine ha2 O σ H env _ x r hx fun v H1 s1 hv => ?_
      unfold opDsort at hf
      split at hf
      · cases hf
      · rename_i es he
        split at hf
        · rename_i hc
          cases hf
          have := undtD_eq he
          subst this
          obtain ⟨p', kvs, rfl, h1, h2, h3⟩ := hv.dt
          refine ⟨p', kvs, es.map (·.1), rfl, h1, by rw [h2, List.map_map]; rfl, by rw [List.length_map]; exact hc.2, fun k hk => ?_, fun p bs hbs hp => ?_⟩
          · have := List.all_eq_true.mp hc.1 k hk
            intro z
            subst z
            cases this
          · have al := (r.mono s1).al
            refine q _ _ (s1.trans (same_upd hp)) (.lst (by rw [mi_out (al.out hp), upd_same]; rfl) (hbs.dr fun b k hb => ?_))
            rw [mi_upd (al.out hp), upd_ne (ne_of_none hb hp), mi_out (al.tup hb)]
            rw [hb]; rfl
        · cases hf
end
end J

/-! From the text to the little language. -/
namespace J
open PySem PySem.Spec PyProof.Rows L2
/-- what a row's module holds: its defs (their numbers, the borrowed parameters), built-in names that it leaves alone, constants -/
structure Rw where
  fns : List (Str × Nat × List Bool)
  frs : List Str
  cst : List (Str × IE)
structure Rw.ok (R : Rw) (Φ : Nat → List D → Option D) (C : Fam) : Prop where
  nd : C.N.Nodup
  fn : ∀ p ∈ R.fns, FnAt C p.1 p.2.2 (Φ p.2.1)
  fr : ∀ x ∈ R.frs, C.mg x = none
  cs : ∀ p ∈ R.cst, ∃ v u d, C.mg p.1 = some u ∧ L2.RelV v u ∧ (∀ H, Dr C.K H v d) ∧ ∀ env, evE Φ p.2 env = some d
theorem Rw.ok.blk {R : Rw} {Φ : Nat → List D → Option D} {C : Fam} (h : R.ok Φ C) (scope : Scope) : R.ok Φ (C.blk scope) :=
  ⟨h.nd, fun p hp => ⟨(h.fn p hp).ex⟩, h.fr, h.cs⟩
def idx : List Str → Str → Nat → Option Nat
  | [], _, _ => none
  | y :: r, x, k => if y = x then some k else idx r x (k + 1)
theorem idx_ok : ∀ {N : List Str} {x : Str} {k i : Nat}, idx N x k = some i → k ≤ i ∧ N[i - k]? = some x
  | [], _, _, _, h => by cases h
  | y :: r, x, k, i, h => by
    unfold idx at h
    split at h
    · rename_i e
      cases h
      rw [Nat.sub_self, e]
      exact ⟨Nat.le_refl _, rfl⟩
    · obtain ⟨h1, h2⟩ := idx_ok h
      refine ⟨by omega, ?_⟩
      rw [show i - k = (i - (k + 1)) + 1 by omega]
      exact h2
theorem idx_get {N : List Str} {x : Str} {i : Nat} (h : idx N x 0 = some i) : N[i]? = some x := (idx_ok h).2
def visB (sc : Scope) (x : Str) : Bool := (match sc.names.lookup x with
  | some .local => true
  | some .cell => true
  | some .free => true
  | _ => false) && !(x == ("__debug__" : Str)) && !(x == ("__classdict__" : Str))
theorem visB_ok {sc : Scope} {x : Str} (h : visB sc x = true) : Vis sc x ∧ (x == ("__debug__" : Str)) = false ∧ (x == ("__classdict__" : Str)) = false := by
  unfold visB at h
  rw [Bool.and_eq_true, Bool.and_eq_true] at h
  obtain ⟨⟨h1, h2⟩, h3⟩ := h
  refine ⟨?_, by simpa using h2, by simpa using h3⟩
  split at h1
  · exact .inl (by assumption)
  · exact .inr (.inl (by assumption))
  · exact .inr (.inr (by assumption))
  · cases h1
def glB (sc : Scope) (x : Str) : Bool := (match sc.names.lookup x with
  | some .globalImplicit => true
  | _ => false) && !(x == ("__debug__" : Str)) && !(x == ("__name__" : Str))
theorem glB_ok {sc : Scope} {x : Str} (h : glB sc x = true) : sc.names.lookup x = some .globalImplicit ∧ (x == ("__debug__" : Str)) = false ∧ x ≠ ("__name__" : Str) := by
  unfold glB at h
  rw [Bool.and_eq_true, Bool.and_eq_true] at h
  obtain ⟨⟨h1, h2⟩, h3⟩ := h
  refine ⟨?_, by simpa using h2, fun e => ?_⟩
  · split at h1
    · assumption
    · cases h1
  · rw [e] at h3; simp at h3
def biOf (x : Str) : Option Bi :=
  if x = "len" then some .len else if x = "min" then some .min else if x = "max" then some .max else if x = "sum" then some .sum else if x = "all" then some .all else if x = "any" then some .any else if x = "abs" then some .abs
  else if x = "int" then some .int else if x = "str" then some .str else if x = "tuple" then some .tuple else if x = "list" then some .list else if x = "sorted" then some .sorted else none
inductive BiFact (b : Bi) (x : Str) : Prop
  | fn (id : String) (h : bootBuiltins x = some (.builtin id)) (hc : ∀ X : Cx, X.calm = true → CallR X (.builtin id) (rGA X.K (evBi b)))
  | ty (T : String) (h : bootBuiltins x = some (.type T)) (hc : ∀ X : Cx, X.calm = true → CallR X (.type T) (rGA X.K (evBi b)))
theorem biOf_ok {x : Str} {b : Bi} (h : biOf x = some b) : BiFact b x := by
  unfold biOf at h
  split at h
  · cases h; subst_vars; exact .fn "len" (by decide +kernel) fun X hc => cr_len
  split at h
  · cases h; subst_vars; exact .fn "min" (by decide +kernel) fun X hc => cr_min' hc
  split at h
  · cases h; subst_vars; exact .fn "max" (by decide +kernel) fun X hc => cr_max' hc
  split at h
  · cases h; subst_vars; exact .fn "sum" (by decide +kernel) fun X hc => cr_sum' hc
  split at h
  · cases h; subst_vars; exact .fn "all" (by decide +kernel) fun X hc => cr_all' hc
  split at h
  · cases h; subst_vars; exact .fn "any" (by decide +kernel) fun X hc => cr_any' hc
  split at h
  · cases h; subst_vars; exact .fn "abs" (by decide +kernel) fun X hc => cr_abs'
  split at h
  · cases h; subst_vars; exact .ty "int" (by decide +kernel) fun X hc => cr_int'
  split at h
  · cases h; subst_vars; exact .ty "str" (by decide +kernel) fun X hc => cr_str'
  split at h
  · cases h; subst_vars; exact .ty "tuple" (by decide +kernel) fun X hc => cr_tuple'
  split at h
  · cases h; subst_vars; exact .ty "list" (by decide +kernel) fun X hc => cr_list'
  split at h
  · cases h; subst_vars; exact .fn "sorted" (by decide +kernel) fun X hc => cr_sorted'
  cases h
def tyOf (x : Str) : Option Ty :=
  if x = "int" then some .int else if x = "bool" then some .bool else if x = "str" then some .str else if x = "tuple" then some .tuple else if x = "list" then some .list else none
theorem tyOf_ok {x : Str} {t : Ty} (h : tyOf x = some t) : bootBuiltins x = some (.type (tyN t)) := by
  unfold tyOf at h
  split at h
  · cases h; subst_vars; decide +kernel
  split at h
  · cases h; subst_vars; decide +kernel
  split at h
  · cases h; subst_vars; decide +kernel
  split at h
  · cases h; subst_vars; decide +kernel
  split at h
  · cases h; subst_vars; decide +kernel
  cases h
abbrev Rec := Scope → Bool → Expr → Option IE
/-- arguments, by the flags (none more: strict) -/
def trA (rc : Rec) (sc : Scope) : List Bool → List Expr → Option IE
  | _, [] => some .nil
  | [], _ :: _ => none
  | b :: bs, e :: es => match rc sc b e with
    | none => none
    | some a => match trA rc sc bs es with
      | none => none
      | some as => some (.cons a as)
def trB (rc : Rec) (sc : Scope) (op : BoolOp) : List Expr → Option IE
  | [] => none
  | [e] => rc sc false e
  | e :: es => match rc sc true e with
    | none => none
    | some a => match trB rc sc op es with
      | none => none
      | some b => some (match op with | .And => .an a b | .Or => .or a b)
/-- range(..) -/
def trR (R : Rw) (rc : Rec) (sc : Scope) : Expr → Option (IE × IE)
  | .Call (.Name x _) [a] [] _ => if x = "range" ∧ glB sc x = true ∧ x ∈ R.frs then (rc sc true a).map fun a' => (.ci 0, a') else none
  | .Call (.Name x _) [a, b] [] _ => if x = "range" ∧ glB sc x = true ∧ x ∈ R.frs then match rc sc true a, rc sc true b with
    | some a', some b' => some (a', b')
    | _, _ => none else none
  | _ => none
def isTupX : Expr → Bool
  | .Tuple _ _ _ => true
  | _ => false
/-- zip(..) -/
def trZ (R : Rw) (rc : Rec) (sc : Scope) (tg : Expr) : Expr → Option IE
  | .Call (.Name x _) [a, b] [] _ => if x = "zip" ∧ glB sc x = true ∧ x ∈ R.frs ∧ isTupX tg = true then match rc sc false a, rc sc false b with
    | some a', some b' => some (.zip a' b')
    | _, _ => none else none
  | _ => none
/-- enumerate(..) -/
def trEn (R : Rw) (rc : Rec) (sc : Scope) (tg : Expr) : Expr → Option IE
  | .Call (.Name x _) [a] [] _ => if x = "enumerate" ∧ glB sc x = true ∧ x ∈ R.frs ∧ isTupX tg = true then match rc sc false a with
    | some a' => some (.enum a')
    | none => none else none
  | _ => none
/-- what is walked -/
def trI (R : Rw) (rc : Rec) (sc : Scope) (tg e : Expr) : Option IE := match trR R rc sc e with
  | some (a, b) => some (.rg a b)
  | none => match trZ R rc sc tg e with
    | some z => some z
    | none => match trEn R rc sc tg e with
     | some z => some z
     | none => match rc sc false e with
      | some (.rg _ _) => none
      | some (.enum _) => none
      | some (.zip _ _) => none
      | q => q
def nameOf : Expr → Option Str
  | .Name x _ => some x
  | _ => none
/-- a name that is assigned to -/
def trN (N : List Str) (sc : Scope) (top : Bool) : Expr → Option Nat
  | .Name x _ => match sc.names.lookup x with
    | some .local => idx N x 0
    | some .cell => if top then idx N x 0 else none
    | _ => none
  | _ => none
def trNs (N : List Str) (sc : Scope) (top : Bool) : List Expr → Option (List Nat)
  | [] => some []
  | e :: es => match trN N sc top e, trNs N sc top es with
    | some i, some is => some (i :: is)
    | _, _ => none
def trT (N : List Str) (sc : Scope) (top : Bool) : Expr → Option (List Nat)
  | .Tuple es _ _ => match trNs N sc top es with
    | some (i :: j :: is) => some (i :: j :: is)
    | _ => none
  | e => (trN N sc top e).map fun i => [i]
def trO (rc : Rec) (sc : Scope) : Option Expr → Option IE
  | none => some .nil
  | some e => match rc sc true e with
    | some .nil => none
    | q => q
def trC (rc : Rec) (sc : Scope) : List Expr → Option IE
  | [] => some .nil
  | [e] => match rc sc true e with
    | some .nil => none
    | q => q
  | _ => none
/-- the slots of a comprehension's own names -/
def ownSlots (N : List Str) (scope : Scope) : List Nat := (List.range N.length).filter fun i => match N[i]? with
  | some x => match scope.names.lookup x with
    | some .local => true
    | some .cell => true
    | _ => false
  | none => false
def trComp (R : Rw) (N : List Str) (rc : Rec) (sc : Scope) (elt tg iter : Expr) (ifs : List Expr) (scope : Scope) : Option IE :=
  match trI R rc sc tg iter, trT N (relS scope sc) false tg, trC rc (relS scope sc) ifs, rc (relS scope sc) false elt with
  | some src, some tgs, some cond, some e => if blkC N sc scope (ownOf N (ownSlots N scope)) = true ∧ (∀ i ∈ tgs, i ∈ ownSlots N scope) then some (.comp e tgs src cond (ownSlots N scope)) else none
  | _, _, _, _ => none
/-- set(a) as the only argument -/
def setArg (R : Rw) (sc : Scope) : List Expr → Option Expr
  | [.Call (.Name x _) [a] [] _] => if x = "set" ∧ glB sc x = true ∧ x ∈ R.frs then some a else none
  | _ => none
/-- a field that is a dict -/
def isDF : Expr → Bool
  | .Attribute _ n _ => decide (n = "fences")
  | _ => false
def dfArg : List Expr → Option Expr
  | [e] => if isDF e = true then some e else none
  | _ => none
def trCall (R : Rw) (rc : Rec) (sc : Scope) (x : Str) (args : List Expr) : Option IE :=
  if glB sc x = true then match R.fns.lookup x with
    | some (k, bs) => if args ≠ [] ∧ bs.length = args.length then (trA rc sc bs args).map (.call k) else none
    | none => if x ∈ R.frs then match x == ("isinstance" : Str), args with
      | true, [a, .Name t _] => if t ∈ R.frs ∧ glB sc t = true then match tyOf t, rc sc true a with
        | some ty, some a' => some (.isi ty a')
        | _, _ => none else none
      | true, _ => none
      | false, args => match setArg R sc args with
       | some a => if x = "len" then (rc sc true a).map .lset else if x = "sorted" then (rc sc true a).map .sset else none
       | none => match dfArg args with
        | some a => if x = "sorted" then (rc sc true a).map .dsort else none
        | none => match (if x = "list" ∨ x = "tuple" then match args with | [e] => trR R rc sc e | _ => none else none) with
        | some (a, b) => some (if x = "list" then .rgL a b else .rgT a b)
        | none => match biOf x with
          | some b => if args ≠ [] then (trA rc sc (args.map fun _ => true) args).map (.bi b) else none
          | none => none
      else none
  else none
def isJoin (m : Str) : Option Bool := if m = "join" then some true else if m = "split" then some false else none
def isM1 : Expr → Bool
  | .UnaryOp .USub (.Constant (.int i) _ _) _ => decide (i = 1)
  | _ => false
def trRev (rc : Rec) (sc : Scope) (a : Expr) : Option Expr → Option Expr → Expr → Option IE
  | none, none, st => if isM1 st = true then (rc sc true a).map .rev else none
  | _, _, _ => none
def stepE (R : Rw) (N : List Str) (rc : Rec) (sc : Scope) (w : Bool) : Expr → Option IE
  | .Name x _ => if visB sc x then (idx N x 0).map (if w then .bv else .var) else if glB sc x then match R.cst.lookup x with
      | some c => some c
      | none => none
    else none
  | .Constant .none _ _ => some .cn
  | .Constant (.bool b) _ _ => some (.cb b)
  | .Constant (.int i) _ _ => some (.ci i)
  | .Constant (.str s) _ _ => some (.cs s)
  | .BinOp a op b _ => match rc sc true a, rc sc true b with
    | some a', some b' => some (.bin op a' b')
    | _, _ => none
  | .UnaryOp .USub a _ => (rc sc true a).map .neg
  | .UnaryOp .Not a _ => (rc sc true a).map .nt
  | .BoolOp op vs _ => trB rc sc op vs
  | .Compare a [op] [b] _ => match rc sc true a, rc sc true b with
    | some a', some b' => some (.cmp op a' b')
    | _, _ => none
  | .Compare a [op, op'] [b, c] _ => match rc sc true a, rc sc true b, rc sc true c with
    | some a', some b', some c' => some (.cmp2 op op' a' b' c')
    | _, _, _ => none
  | .Tuple es _ _ => (trA rc sc (es.map fun _ => false) es).map .tup
  | .List es _ => (trA rc sc (es.map fun _ => false) es).map .lst
  | .Subscript a (.Slice lo hi none _) _ => match rc sc true a, trO rc sc lo, trO rc sc hi with
    | some a', some l, some h => some (.sl a' l h)
    | _, _, _ => none
  | .Subscript a (.Slice lo hi (some st) _) _ => trRev rc sc a lo hi st
  | .Subscript a b _ => match rc sc true a, rc sc true b with
    | some a', some b' => some (if isDF a = true then .dix a' b' else .ix a' b')
    | _, _ => none
  | .Call (.Name x _) args [] _ => trCall R rc sc x args
  | .Call (.Attribute o m apos) [a] [] pos => match isJoin m, rc sc true o, rc sc true a with
    | some j, some o', some a' => if notCall o = true ∧ (apos.endLine == pos.line) = true then some (if j then .join o' a' else .split o' a') else none
    | _, _, _ => none
  | .Call (.Attribute o m apos) [a, b] [] pos => match rc sc true o, rc sc true a, rc sc false b with
    | some o', some a', some b' => if m = "get" ∧ notCall o = true ∧ (apos.endLine == pos.line) = true then some (.dget o' a' b') else none
    | _, _, _ => none
  | .Attribute a n _ => match rc sc true a with
    | some a' => if notCall a = true then some (if w then .fld a' n else .flds a' n) else none
    | none => none
  | .ListComp elt [⟨tg, iter, ifs, 0⟩] scope _ => trComp R N rc sc elt tg iter ifs scope
  | _ => none
def trE (R : Rw) (N : List Str) : Nat → Rec
  | 0 => fun _ _ _ => none
  | n + 1 => stepE R N (trE R N n)
end J

/-! The translation is sound: expressions. -/
namespace J
open PySem PySem.Spec PyProof.Rows L2
structure Good (C : Fam) (Φ : Nat → List D → Option D) (w : Bool) (e : Expr) (ie : IE) : Prop where
  sb : SB C e (evE Φ ie)
  se : w = false → SE C e (evE Φ ie)
  st : ST C e (evE Φ ie)
  pl : plainX e = true
theorem Good.of {C : Fam} {Φ : Nat → List D → Option D} {w : Bool} {e : Expr} {ie : IE} (h : SE C e (evE Φ ie)) (ht : ST C e (evE Φ ie)) (hp : plainX e = true) : Good C Φ w e ie := ⟨h.sb, fun _ => h, ht, hp⟩
def Snd (R : Rw) (N : List Str) (Φ : Nat → List D → Option D) (rc : Rec) : Prop := ∀ C : Fam, C.N = N → R.ok Φ C → ∀ (w : Bool) (e : Expr) (ie : IE), rc C.sc w e = some ie → Good C Φ w e ie
section
variable {R : Rw} {N : List Str} {Φ : Nat → List D → Option D} {rc : Rec} {C : Fam}
theorem trA_ok (S : Snd R N Φ rc) (hN : C.N = N) (hR : R.ok Φ C) : ∀ (bs : List Bool) (es : List Expr) (as : IE), trA rc C.sc bs es = some as → SA C bs es (evA Φ as) ∧ es.all plainX = true
  | bs, [], as, h => by
    have : as = .nil := by cases bs <;> (simp only [trA] at h; cases h; rfl)
    subst this
    exact ⟨sa_nil.cg fun env => by (simp only [evA] <;> rfl), rfl⟩
  | [], e :: es, as, h => by simp [trA] at h
  | b :: bs, e :: es, as, h => by
    simp only [trA] at h
    split at h
    · cases h
    · rename_i a ha
      split at h
      · cases h
      · rename_i as' has
        cases h
        obtain ⟨h1, h2⟩ := trA_ok S hN hR bs es as' has
        have G := S C hN hR b e a ha
        refine ⟨?_, by rw [List.all_cons, G.pl, h2]; rfl⟩
        cases b with
        | true => exact (sa_consb G.sb h1 G.pl).cg fun env => by (simp only [evA] <;> rfl)
        | false => exact (sa_cons (G.se rfl) h1 G.pl).cg fun env => by (simp only [evA] <;> rfl)
theorem trB_ok (S : Snd R N Φ rc) (hN : C.N = N) (hR : R.ok Φ C) {op : BoolOp} {pos : Pos} : ∀ (es : List Expr) (ie : IE), trB rc C.sc op es = some ie → SE C (.BoolOp op es pos) (evE Φ ie) ∧ SW C (.BoolOp op es pos) (evE Φ ie)
  | [], ie, h => by simp [trB] at h
  | [e], ie, h => by
    have G := S C hN hR false e ie h
    refine ⟨se_one (G.se rfl), ?_⟩
    cases op with
    | And => exact sw_and1 G.st
    | Or => exact sw_or1 G.st
  | e :: e2 :: es, ie, h => by
    simp only [trB] at h
    split at h
    · cases h
    · rename_i a ha
      split at h
      · cases h
      · rename_i b hb
        cases h
        obtain ⟨h1, h2⟩ := trB_ok S hN hR (e2 :: es) b hb
        have G := S C hN hR true e a ha
        cases op with
        | And => exact ⟨(se_and G.sb h1).cg fun env => by (simp only [evE] <;> rfl), (sw_and G.st h2).cg fun env => by (simp only [evE] <;> rfl)⟩
        | Or => exact ⟨(se_or G.sb h1).cg fun env => by (simp only [evE] <;> rfl), (sw_or G.st h2).cg fun env => by (simp only [evE] <;> rfl)⟩
theorem trR_ok (S : Snd R N Φ rc) (hN : C.N = N) (hR : R.ok Φ C) {e : Expr} {a b : IE} (h : trR R rc C.sc e = some (a, b)) : SR C e (evE Φ a) (evE Φ b) ∧ plainX e = true ∧ ∀ tg, SI C tg e (evI Φ (.rg a b)) := by
  unfold trR at h
  split at h
  · split at h
    · rename_i hx
      obtain ⟨rfl, hg, hf⟩ := hx
      obtain ⟨a', ha, ea⟩ := Option.map_eq_some_iff.mp h
      cases ea
      have G := S C hN hR true _ _ ha
      have g := glB_ok hg
      have m := hR.fr _ hf
      refine ⟨?_, rfl, fun tg => (si_rg1 g.1 m G.sb G.pl).cg fun env => by (simp only [evI, evE] <;> rfl)⟩
      have := sr_1 (p := ‹Pos›) (pos := ‹Pos›) g.1 m G.sb G.pl
      have e1 : evE Φ (.ci 0) = fun _ => some (.int 0) := by funext env; simp only [evE]
      rw [e1]
      exact sr_1 g.1 m G.sb G.pl
    · cases h
  · split at h
    · rename_i hx
      obtain ⟨rfl, hg, hf⟩ := hx
      split at h
      · rename_i a' b' ha hb
        cases h
        have G := S C hN hR true _ _ ha
        have G' := S C hN hR true _ _ hb
        have g := glB_ok hg
        have m := hR.fr _ hf
        exact ⟨sr_2 g.1 m G.sb G'.sb G.pl G'.pl, rfl, fun tg => (si_rg2 g.1 m G.sb G'.sb G.pl G'.pl).cg fun env => by (simp only [evI] <;> rfl)⟩
      · cases h
    · cases h
  · cases h
theorem evI_any {ie : IE} (h1 : ∀ a b, ie ≠ .rg a b) (h2 : ∀ a, ie ≠ .enum a) (h3 : ∀ a b, ie ≠ .zip a b) (env : En) : evI Φ ie env = (match evE Φ ie env with
    | none => none
    | some x => itemsD x) := by
  cases ie <;> first
    | (simp only [evI] <;> rfl)
    | exact absurd rfl (h1 _ _)
    | exact absurd rfl (h2 _)
    | exact absurd rfl (h3 _ _)
theorem trZ_ok (S : Snd R N Φ rc) (hN : C.N = N) (hR : R.ok Φ C) {tg e : Expr} {ie : IE} (h : trZ R rc C.sc tg e = some ie) : SI C tg e (evI Φ ie) ∧ plainX e = true := by
  unfold trZ at h
  split at h
  · split at h
    · rename_i hx
      obtain ⟨rfl, hg, hf, ht⟩ := hx
      split at h
      · rename_i a' b' ha hb
        cases h
        have G := S C hN hR false _ _ ha
        have G' := S C hN hR false _ _ hb
        cases tg <;> first | (simp [isTupX] at ht; done) | skip
        exact ⟨(si_zipM (glB_ok hg).1 (hR.fr _ hf) (G.se rfl) (G'.se rfl) G.pl G'.pl).cg fun env => by (simp only [evI] <;> rfl), rfl⟩
      · cases h
    · cases h
  · cases h
theorem trEn_ok (S : Snd R N Φ rc) (hN : C.N = N) (hR : R.ok Φ C) {tg e : Expr} {ie : IE} (h : trEn R rc C.sc tg e = some ie) : SI C tg e (evI Φ ie) ∧ plainX e = true := by
  unfold trEn at h
  split at h
  · split at h
    · rename_i hx
      obtain ⟨rfl, hg, hf, ht⟩ := hx
      split at h
      · rename_i a' ha
        cases h
        have G := S C hN hR false _ _ ha
        cases tg <;> first | (simp [isTupX] at ht; done) | skip
        exact ⟨(si_enum (glB_ok hg).1 (hR.fr _ hf) (G.se rfl) G.pl).cg fun env => by (simp only [evI] <;> rfl), rfl⟩
      · cases h
    · cases h
  · cases h
theorem trI_ok (S : Snd R N Φ rc) (hN : C.N = N) (hR : R.ok Φ C) {tg e : Expr} {ie : IE} (h : trI R rc C.sc tg e = some ie) : SI C tg e (evI Φ ie) ∧ plainX e = true := by
  unfold trI at h
  split at h
  · rename_i a b hr
    cases h
    obtain ⟨_, h2, h3⟩ := trR_ok S hN hR hr
    exact ⟨h3 tg, h2⟩
  · split at h
    · rename_i z hz
      cases h
      exact trZ_ok S hN hR hz
    · split at h
      · rename_i z hz
        cases h
        exact trEn_ok S hN hR hz
      · split at h
        · cases h
        · cases h
        · cases h
        · rename_i n1 n2 n3
          have G := S C hN hR false _ _ h
          refine ⟨(si_any (G.se rfl)).cg fun env => evI_any (fun a b z => ?_) (fun a z => ?_) (fun a b z => ?_) env, G.pl⟩
          · rw [z] at h; exact n1 a b h
          · rw [z] at h; exact n2 a h
          · rw [z] at h; exact n3 a b h
theorem trN_ok {C : Fam} {e : Expr} {i : Nat} (h : trN C.N C.sc C.top e = some i) : TgN C e i := by
  unfold trN at h
  split at h
  · split at h
    · rename_i hl
      exact .mk (idx_get h) (.inl hl)
    · rename_i hl
      split at h
      · rename_i ht
        exact .mk (idx_get h) (.inr ⟨hl, ht⟩)
      · cases h
    · cases h
  · cases h
theorem trNs_ok {C : Fam} : ∀ {es : List Expr} {is : List Nat}, trNs C.N C.sc C.top es = some is → TgNs C es is
  | [], is, h => by cases h; exact .nil
  | e :: es, is, h => by
    simp only [trNs] at h
    split at h
    · rename_i i is' hi his
      cases h
      exact .cons (trN_ok hi) (trNs_ok his)
    · cases h
theorem trT_ok {C : Fam} {e : Expr} {tg : List Nat} (h : trT C.N C.sc C.top e = some tg) : TgOk C e tg := by
  unfold trT at h
  split at h
  · split at h
    · rename_i i j is hs
      cases h
      exact .tup (trNs_ok hs)
    · cases h
  · obtain ⟨i, hi, e1⟩ := Option.map_eq_some_iff.mp h
    subst e1
    exact .name (trN_ok hi)
theorem evO_any {ie : IE} (h : ie ≠ .nil) (env : En) : evO Φ ie env = (match evE Φ ie env with
    | some (.int i) => some (some i)
    | _ => none) := by
  cases ie <;> first
    | exact absurd rfl h
    | (simp only [evO] <;> rfl)
theorem evC_any {ie : IE} (h : ie ≠ .nil) (env : En) : evC Φ ie env = testD (evE Φ ie env) := by
  cases ie <;> first
    | exact absurd rfl h
    | (simp only [evC] <;> rfl)
theorem trO_ok (S : Snd R N Φ rc) (hN : C.N = N) (hR : R.ok Φ C) {o : Option Expr} {ie : IE} (h : trO rc C.sc o = some ie) : SO C o (evO Φ ie) := by
  unfold trO at h
  split at h
  · cases h
    exact so_none.cg fun env => by (simp only [evO] <;> rfl)
  · split at h
    · cases h
    · rename_i n1
      have G := S C hN hR true _ _ h
      exact (so_some G.sb).cg fun env => evO_any (fun z => by rw [z] at h; exact n1 h) env
theorem trC_ok (S : Snd R N Φ rc) (hN : C.N = N) (hR : R.ok Φ C) {ifs : List Expr} {ie : IE} (h : trC rc C.sc ifs = some ie) : SC C ifs (evC Φ ie) := by
  unfold trC at h
  split at h
  · cases h
    exact sc_nil.cg fun env => by (simp only [evC] <;> rfl)
  · split at h
    · cases h
    · rename_i n1
      have G := S C hN hR true _ _ h
      exact (sc_one G.st).cg fun env => evC_any (fun z => by rw [z] at h; exact n1 h) env
  · cases h
theorem trComp_parts (S : Snd R N Φ rc) (hN : C.N = N) (hR : R.ok Φ C) {elt tg iter : Expr} {ifs : List Expr} {scope : Scope} {ie : IE} (h : trComp R N rc C.sc elt tg iter ifs scope = some ie) :
    ∃ e tgl src cond vs, ie = .comp e tgl src cond vs ∧ SI C tg iter (evI Φ src) ∧ plainX iter = true ∧ BlkOk C.N C.sc scope (ownOf C.N vs) ∧ TgOk (C.blk scope) tg tgl ∧ (∀ i ∈ tgl, i ∈ vs) ∧ SC (C.blk scope) ifs (evC Φ cond) ∧ SE (C.blk scope) elt (evE Φ e) := by
  unfold trComp at h
  split at h
  · rename_i src tgl cond e h1 h2 h3 h4
    split at h
    · rename_i hb
      cases h
      subst hN
      have i1 := trI_ok S rfl hR h1
      exact ⟨e, tgl, src, cond, _, rfl, i1.1, i1.2, blkOk_by hb.1, trT_ok (C := C.blk scope) h2, hb.2, trC_ok (C := C.blk scope) S rfl (hR.blk scope) h3, (S (C.blk scope) rfl (hR.blk scope) false _ _ h4).se rfl⟩
    · cases h
  · cases h
theorem comp_eq {e : IE} {tgl : List Nat} {src cond : IE} {vs : List Nat} (env : En) : evE Φ (.comp e tgl src cond vs) env = (match evI Φ src env with
      | none => none
      | some ds => if ds.length ≤ 40000 then (compL (turnC tgl vs (evC Φ cond) (evE Φ e) env) ds).map PyData.list else none) := by
  (simp only [evE] <;> rfl)
theorem trComp_ok (S : Snd R N Φ rc) (hN : C.N = N) (hR : R.ok Φ C) {elt tg iter : Expr} {ifs : List Expr} {scope : Scope} {ie : IE} {pos : Pos} (h : trComp R N rc C.sc elt tg iter ifs scope = some ie) :
    SF C (.ListComp elt [⟨tg, iter, ifs, 0⟩] scope pos) (evE Φ ie) := by
  obtain ⟨e, tgl, src, cond, vs, rfl, h1, h2, h3, h4, h5, h6, h7⟩ := trComp_parts S hN hR h
  exact (sf_comp hR.nd h1 h2 h3 h4 h5 h6 h7).cg fun env => comp_eq env
theorem lookup_mem {α β : Type} [BEq α] [LawfulBEq α] {l : List (α × β)} {x : α} {y : β} (h : l.lookup x = some y) : (x, y) ∈ l := by
  induction l with
  | nil => cases h
  | cons p r ih =>
    obtain ⟨a, b⟩ := p
    rw [List.lookup_cons] at h
    split at h
    · rename_i he
      cases h
      rw [eq_of_beq he]
      exact List.mem_cons_self
    · exact List.mem_cons_of_mem _ (ih h)
theorem setArg_ok {sc : Scope} {args : List Expr} {a : Expr} (h : setArg R sc args = some a) : ∃ p q, args = [.Call (.Name "set" p) [a] [] q] ∧ glB sc "set" = true ∧ ("set" : Str) ∈ R.frs := by
  unfold setArg at h
  split at h
  · split at h
    · rename_i hx
      cases h
      obtain ⟨rfl, h1, h2⟩ := hx
      exact ⟨_, _, rfl, h1, h2⟩
    · cases h
  · cases h
theorem trCall_ok (S : Snd R N Φ rc) (hN : C.N = N) (hR : R.ok Φ C) {x : Str} {p pos : Pos} {args : List Expr} {ie : IE} (h : trCall R rc C.sc x args = some ie) : SE C (.Call (.Name x p) args [] pos) (evE Φ ie) := by
  unfold trCall at h
  split at h
  · rename_i hg
    have g := glB_ok hg
    split at h
    · rename_i k bs hl
      split at h
      · rename_i hb
        obtain ⟨as, ha, ea⟩ := Option.map_eq_some_iff.mp h
        subst ea
        obtain ⟨h1, h2⟩ := trA_ok S hN hR _ _ _ ha
        cases args with
        | nil => exact absurd rfl hb.1
        | cons e es => exact (se_call (hR.fn _ (lookup_mem hl)) g.1 h1 h2 g.2.1).cg fun env => by (simp only [evE] <;> rfl)
      · cases h
    · split at h
      · rename_i hf
        split at h
        · rename_i a t tp hx
          have ex : x = ("isinstance" : Str) := eq_of_beq hx
          subst ex
          split at h
          · rename_i ht
            split at h
            · rename_i ty a' hty ha
              cases h
              have G := S C hN hR true _ _ ha
              have g2 := glB_ok ht.2
              exact (se_isi G.sb G.pl g.1 (hR.fr _ hf) g2.1 (hR.fr _ ht.1) (tyOf_ok hty) g2.2.2 g2.2.1).cg fun env => by (simp only [evE] <;> rfl)
            · cases h
          · cases h
        · cases h
        · split at h
          · rename_i a hsa
            obtain ⟨p2, q2, rfl, hg2, hf2⟩ := setArg_ok hsa
            split at h
            · rename_i hx
              subst hx
              obtain ⟨a', ha, ea⟩ := Option.map_eq_some_iff.mp h
              subst ea
              have G := S C hN hR true _ _ ha
              exact (se_lset g.1 (hR.fr _ hf) (glB_ok hg2).1 (hR.fr _ hf2) G.sb G.pl).cg fun env => by (simp only [evE] <;> rfl)
            · split at h
              · rename_i hx
                subst hx
                obtain ⟨a', ha, ea⟩ := Option.map_eq_some_iff.mp h
                subst ea
                have G := S C hN hR true _ _ ha
                exact (se_sset g.1 (hR.fr _ hf) (glB_ok hg2).1 (hR.fr _ hf2) G.sb G.pl).cg fun env => by (simp only [evE] <;> rfl)
              · cases h
          split at h
          · rename_i a hda
            split at h
            · rename_i hx
              subst hx
              obtain ⟨a', ha, ea⟩ := Option.map_eq_some_iff.mp h
              subst ea
              have G := S C hN hR true _ _ ha
              unfold dfArg at hda
              split at hda
              · split at hda
                · cases hda
                  exact (se_dsort G.sb G.pl g.1 (hR.fr _ hf)).cg fun env => by (simp only [evE] <;> rfl)
                · cases hda
              · cases hda
            · cases h
          split at h
          · rename_i a b hr
            cases h
            split at hr
            · rename_i hlt
              split at hr
              · obtain ⟨r1, r2, _⟩ := trR_ok S hN hR hr
                by_cases hx : x = ("list" : Str)
                · rw [if_pos hx]
                  subst hx
                  exact ((sf_rgL r1 r2 g.1 (hR.fr _ hf)).se).cg fun env => by (simp only [evE] <;> rfl)
                · rw [if_neg hx]
                  have hx2 : x = ("tuple" : Str) := hlt.resolve_left hx
                  subst hx2
                  exact (se_rgT r1 r2 g.1 (hR.fr _ hf)).cg fun env => by (simp only [evE] <;> rfl)
              · cases hr
            · cases hr
          · split at h
            · rename_i b hb
              split at h
              · rename_i hne
                obtain ⟨as, ha, ea⟩ := Option.map_eq_some_iff.mp h
                subst ea
                obtain ⟨h1, h2⟩ := trA_ok S hN hR _ _ _ ha
                obtain ⟨e, es, rfl⟩ := List.exists_cons_of_ne_nil hne
                cases biOf_ok hb with
                | fn id hv hc => exact (se_bi (fun X hX => hc X hX.calm) g.1 (hR.fr _ hf) hv h1 h2 g.2.2 g.2.1).cg fun env => by (simp only [evE] <;> rfl)
                | ty T hv hc => exact (se_ty (fun X hX => hc X hX.calm) g.1 (hR.fr _ hf) hv h1 h2 g.2.2 g.2.1).cg fun env => by (simp only [evE] <;> rfl)
              · cases h
            · cases h
      · cases h
  · cases h
theorem all_false (es : List Expr) : (es.map fun _ => false).all (! ·) = true := by simp
theorem sub_ix {a b : Expr} {pos : Pos} (S : Snd R N Φ rc) (hN : C.N = N) (hR : R.ok Φ C) {ie : IE} {w : Bool} (h : (match rc C.sc true a, rc C.sc true b with
    | some a', some b' => some (if isDF a = true then IE.dix a' b' else IE.ix a' b')
    | _, _ => none) = some ie) : Good C Φ w (.Subscript a b pos) ie := by
  split at h
  · rename_i a' b' ha hb
    cases h
    have G := S C hN hR true _ _ ha
    have G' := S C hN hR true _ _ hb
    split
    · have q : SE C (.Subscript a b pos) (evE Φ (.dix a' b')) := (se_dix G.sb G'.sb G'.pl).cg fun env => by (simp only [evE] <;> rfl)
      exact .of q (st_of q fun _ _ => rfl) rfl
    · have q : SE C (.Subscript a b pos) (evE Φ (.ix a' b')) := (se_ix G.sb G'.sb G'.pl).cg fun env => by (simp only [evE] <;> rfl)
      exact .of q (st_of q fun _ _ => rfl) rfl
  · cases h
theorem isM1_ok {e : Expr} (h : isM1 e = true) : ∃ k p1 p2, e = .UnaryOp .USub (.Constant (.int 1) k p1) p2 := by
  unfold isM1 at h
  split at h
  · have := of_decide_eq_true h
    subst this
    exact ⟨_, _, _, rfl⟩
  · cases h
set_option maxHeartbeats 4000000 in
theorem step_ok (S : Snd R N Φ rc) : Snd R N Φ (stepE R N rc) := by
  intro C hN hR w e ie h
  cases e <;> try (cases h; done)
  case Name x pos =>
    simp only [stepE] at h
    split at h
    · rename_i hv
      obtain ⟨i, hi, ei⟩ := Option.map_eq_some_iff.mp h
      subst ei
      have v := visB_ok hv
      subst hN
      have sb : SB C (.Name x pos) (fun env => getB env i) := sb_var (idx_get hi) v.1 v.2.1 v.2.2
      have se : SE C (.Name x pos) (fun env => getV env i) := se_var (idx_get hi) v.1 v.2.1 v.2.2
      cases w with
      | true =>
        have q : SB C (.Name x pos) (evE Φ (.bv i)) := sb.cg fun env => by (simp only [evE] <;> rfl)
        exact ⟨q, (fun z => nomatch z), sb_st q (fun _ _ => rfl), rfl⟩
      | false =>
        have q : SE C (.Name x pos) (evE Φ (.var i)) := se.cg fun env => by (simp only [evE] <;> rfl)
        exact .of q (st_of q fun _ _ => rfl) rfl
    · split at h
      · rename_i hg
        split at h
        · rename_i c hc
          cases h
          obtain ⟨v, u, d, h1, h2, h3, h4⟩ := hR.cs _ (lookup_mem hc)
          have g := glB_ok hg
          have q : SE C (.Name x pos) (evE Φ ie) := (se_c (fun X hX => pe_glob (show X.env.scope.names.lookup x = _ by rw [hX.hsc]; exact g.1) (by rw [hX.hmg]; exact h1) h2 g.2.1) h3).cg h4
          exact .of q (st_of q fun _ _ => rfl) rfl
        · cases h
      · cases h
  case Constant c k pos =>
    cases c <;> try (cases h; done)
    case none =>
      cases h
      have q : SE C (.Constant .none k pos) (evE Φ .cn) := (se_c (fun X hX => pe_non) fun H => .non).cg fun env => by (simp only [evE] <;> rfl)
      exact .of q (st_of q fun _ _ => rfl) rfl
    case bool b =>
      cases h
      have q : SE C (.Constant (.bool b) k pos) (evE Φ (.cb b)) := (se_c (fun X hX => pe_bl) fun H => .bl b).cg fun env => by (simp only [evE] <;> rfl)
      exact .of q (st_of q fun _ _ => rfl) rfl
    case int b =>
      cases h
      have q : SE C (.Constant (.int b) k pos) (evE Φ (.ci b)) := (se_c (fun X hX => pe_int) fun H => .int b).cg fun env => by (simp only [evE] <;> rfl)
      exact .of q (st_of q fun _ _ => rfl) rfl
    case str b =>
      cases h
      have q : SE C (.Constant (.str b) k pos) (evE Φ (.cs b)) := (se_c (fun X hX => pe_str) fun H => .str b).cg fun env => by (simp only [evE] <;> rfl)
      exact .of q (st_of q fun _ _ => rfl) rfl
  case BinOp a op b pos =>
    simp only [stepE] at h
    split at h
    · rename_i a' b' ha hb
      cases h
      have G := S C hN hR true _ _ ha
      have G' := S C hN hR true _ _ hb
      have q : SE C (.BinOp a op b pos) (evE Φ (.bin op a' b')) := (se_bin G.sb G'.sb).cg fun env => by (simp only [evE] <;> rfl)
      exact .of q (st_of q fun _ _ => rfl) rfl
    · cases h
  case UnaryOp op a pos =>
    cases op <;> try (cases h; done)
    case USub =>
      obtain ⟨a', ha, ea⟩ := Option.map_eq_some_iff.mp (show (rc C.sc true a).map IE.neg = some ie from h)
      subst ea
      have G := S C hN hR true _ _ ha
      have q : SE C (.UnaryOp .USub a pos) (evE Φ (.neg a')) := (se_neg G.sb).cg fun env => by (simp only [evE] <;> rfl)
      exact .of q (st_of q fun _ _ => rfl) rfl
    case Not =>
      obtain ⟨a', ha, ea⟩ := Option.map_eq_some_iff.mp (show (rc C.sc true a).map IE.nt = some ie from h)
      subst ea
      have G := S C hN hR true _ _ ha
      exact .of ((se_not G.sb).cg fun env => by (simp only [evE] <;> rfl)) ((st_not G.st).cg fun env => by (simp only [evE] <;> rfl)) rfl
  case BoolOp op vs pos =>
    obtain ⟨h1, h2⟩ := trB_ok S hN hR (pos := pos) vs ie h
    exact .of h1 h2.st rfl
  case Compare a ops cs pos =>
    match ops, cs, h with
    | [op], [b], h =>
      simp only [stepE] at h
      split at h
      · rename_i a' b' ha hb
        cases h
        have G := S C hN hR true _ _ ha
        have G' := S C hN hR true _ _ hb
        exact .of ((se_cmp G.sb G'.sb G'.pl).cg fun env => by (simp only [evE] <;> rfl)) ((st_cmp G.sb G'.sb G'.pl).cg fun env => by (simp only [evE] <;> rfl)) rfl
      · cases h
    | [op, op'], [b, c], h =>
      simp only [stepE] at h
      split at h
      · rename_i a' b' c' ha hb hc
        cases h
        have G := S C hN hR true _ _ ha
        have G' := S C hN hR true _ _ hb
        have G'' := S C hN hR true _ _ hc
        exact .of ((se_cmp2 G.sb G'.sb G''.sb G''.pl).cg fun env => by (simp only [evE] <;> rfl)) ((st_cmp2 G.sb G'.sb G''.sb G''.pl).cg fun env => by (simp only [evE] <;> rfl)) rfl
      · cases h
  case Tuple es k pos =>
    obtain ⟨as, ha, ea⟩ := Option.map_eq_some_iff.mp (show (trA rc C.sc (es.map fun _ => false) es).map IE.tup = some ie from h)
    subst ea
    obtain ⟨h1, h2⟩ := trA_ok S hN hR _ _ _ ha
    have q : SE C (.Tuple es k pos) (evE Φ (.tup as)) := (se_tup h1 (all_false es)).cg fun env => by (simp only [evE] <;> rfl)
    exact .of q (st_of q fun _ _ => rfl) rfl
  case List es pos =>
    obtain ⟨as, ha, ea⟩ := Option.map_eq_some_iff.mp (show (trA rc C.sc (es.map fun _ => false) es).map IE.lst = some ie from h)
    subst ea
    obtain ⟨h1, h2⟩ := trA_ok S hN hR _ _ _ ha
    have q : SE C (.List es pos) (evE Φ (.lst as)) := ((sf_lst h1 (all_false es)).se).cg fun env => by (simp only [evE] <;> rfl)
    exact .of q (st_of q fun _ _ => rfl) rfl
  case ListComp elt gs scope pos =>
    match gs, h with
    | [⟨tg, iter, ifs, 0⟩], h =>
      have q := (trComp_ok (pos := pos) S hN hR h).se
      exact .of q (st_of q fun _ _ => rfl) rfl
  case Subscript a b pos =>
    by_cases hs : ∃ lo hi st p, b = .Slice lo hi st p
    · obtain ⟨lo, hi, st, p, rfl⟩ := hs
      cases st with
      | some z =>
        have h' : trRev rc C.sc a lo hi z = some ie := h
        unfold trRev at h'
        split at h'
        · split at h'
          · rename_i hm
            obtain ⟨k, p1, p2, rfl⟩ := isM1_ok hm
            obtain ⟨a', ha, ea⟩ := Option.map_eq_some_iff.mp h'
            subst ea
            have G := S C hN hR true _ _ ha
            have q : SE C (.Subscript a (.Slice none none (some (.UnaryOp .USub (.Constant (.int 1) k p1) p2)) p) pos) (evE Φ (.rev a')) := (se_rev G.sb).cg fun env => by (simp only [evE] <;> rfl)
            exact .of q (st_of q fun _ _ => rfl) rfl
          · cases h'
        · cases h'
      | none =>
        simp only [stepE] at h
        split at h
        · rename_i a' l hh ha hl hh'
          cases h
          have G := S C hN hR true _ _ ha
          have q : SE C (.Subscript a (.Slice lo hi none p) pos) (evE Φ (.sl a' l hh)) := (se_sl G.sb (trO_ok S hN hR hl) (trO_ok S hN hR hh')).cg fun env => by (simp only [evE] <;> rfl)
          exact .of q (st_of q fun _ _ => rfl) rfl
        · cases h
    · cases b <;> first | exact absurd ⟨_, _, _, _, rfl⟩ hs | exact sub_ix S hN hR h
  case Call f args kws pos =>
    cases kws with
    | cons _ _ => cases f <;> cases args <;> first | (cases h; done) | (rename_i r; cases r <;> first | (cases h; done) | (rename_i r2; cases r2 <;> (cases h; done)))
    | nil =>
      cases f <;> try (cases args <;> first | (cases h; done) | (rename_i r; cases r <;> first | (cases h; done) | (rename_i r2; cases r2 <;> (cases h; done))))
      case Name x p =>
        have q := trCall_ok (p := p) (pos := pos) S hN hR (show trCall R rc C.sc x args = some ie by
          cases args <;> first | exact h | (rename_i r; cases r <;> first | exact h | (rename_i r2; cases r2 <;> exact h)))
        exact .of q (st_of q fun _ _ => rfl) rfl
      case Attribute o m apos =>
        match args, h with
        | [a], h =>
          simp only [stepE] at h
          split at h
          · rename_i j o' a' hj ho ha
            split at h
            · rename_i hc
              cases h
              have G := S C hN hR true _ _ ho
              have G' := S C hN hR true _ _ ha
              unfold isJoin at hj
              split at hj
              · cases hj
                subst_vars
                have q : SE C (.Call (.Attribute o "join" apos) [a] [] pos) (evE Φ (.join o' a')) := (se_join G.sb G'.sb G'.pl hc.1 hc.2).cg fun env => by (simp only [evE] <;> rfl)
                exact .of q (st_of q fun _ _ => rfl) rfl
              · split at hj
                · cases hj
                  subst_vars
                  have q : SE C (.Call (.Attribute o "split" apos) [a] [] pos) (evE Φ (.split o' a')) := ((sf_split G.sb G'.sb G'.pl hc.1 hc.2).se).cg fun env => by (simp only [evE] <;> rfl)
                  exact .of q (st_of q fun _ _ => rfl) rfl
                · cases hj
            · cases h
          · cases h
        | [a, b], h =>
          simp only [stepE] at h
          split at h
          · rename_i o' a' b' ho ha hb
            split at h
            · rename_i hc
              cases h
              obtain ⟨rfl, hc1, hc2⟩ := hc
              have G := S C hN hR true _ _ ho
              have G' := S C hN hR true _ _ ha
              have G2 := S C hN hR false _ _ hb
              have q : SE C (.Call (.Attribute o "get" apos) [a, b] [] pos) (evE Φ (.dget o' a' b')) := (se_dget G.sb G'.sb (G2.se rfl) G'.pl G2.pl hc1 hc2).cg fun env => by (simp only [evE] <;> rfl)
              exact .of q (st_of q fun _ _ => rfl) rfl
            · cases h
          · cases h
  case Attribute a n pos =>
    simp only [stepE] at h
    split at h
    · rename_i a' ha
      split at h
      · rename_i hc
        cases h
        have G := S C hN hR true _ _ ha
        cases w with
        | true =>
          have q : SB C (.Attribute a n pos) (evE Φ (.fld a' n)) := (sb_fld G.sb hc).cg fun env => by (simp only [evE] <;> rfl)
          exact ⟨q, (fun z => nomatch z), sb_st q (fun _ _ => rfl), rfl⟩
        | false =>
          have q : SE C (.Attribute a n pos) (evE Φ (.flds a' n)) := (se_flds G.sb hc).cg fun env => by (simp only [evE] <;> rfl)
          exact .of q (st_of q fun _ _ => rfl) rfl
      · cases h
    · cases h
theorem trE_ok (R : Rw) (N : List Str) (Φ : Nat → List D → Option D) : ∀ n : Nat, Snd R N Φ (trE R N n)
  | 0 => fun _ _ _ _ _ _ h => by cases h
  | n + 1 => step_ok (trE_ok R N Φ n)
end
end J

/-! The translation of statements, and its soundness. -/
namespace J
open PySem PySem.Spec PyProof.Rows L2
section
variable {C : Fam} {a b c e : Expr} {es : List Expr} {f g k : En → Option D} {pos : Pos}
/-- [..] * n, a new list -/
theorem sf_mul (ha : SB C a f) (hb : SB C b g) : SF C (.BinOp a .Mult b pos) (fun env => match f env with
    | some (.list xs) => match g env with
      | some (.int k) => opMul (.list xs) (.int k)
      | _ => none
    | _ => none) := by
  obtain ⟨ta, ha1, ha2⟩ := ha
  obtain ⟨tb, hb1, hb2⟩ := hb
  refine ⟨tOp rRep ta tb, fun X hX => pe_op op_rep (ha1 X hX) (hb1 X hX), fun O σ H env Q d r hf q => ?_⟩
  dsimp only at hf
  split at hf
  · rename_i xs hx
    split at hf
    · rename_i kk hk
      simp only [opMul] at hf
      split at hf
      · rename_i hl
        cases hf
        refine ha2 O σ H env _ _ r hx fun v H1 s1 hv => hb2 O σ H1 env _ _ (r.mono s1) hk fun w H2 s2 hw => ?_
        cases hw.int
        obtain ⟨p, vs, rfl, h1, h2⟩ := (hv.mono s2).list
        refine ⟨p, kk, vs, rfl, rfl, h1, by omega, by omega, ?_, fun l hl => ?_⟩
        · rw [h2.len]
          exact szl24 (Nat.le_trans (Nat.mul_le_mul hl.2.2 (show kk.toNat ≤ 1000 by omega)) (by decide))
        · exact q l _ _ _ ((s1.trans s2).trans (same_upd hl)) ((s1.trans s2).free hl) rfl upd_same (DrA.mono (mi_new hl (r.mono (s1.trans s2)).al) _ (h2.rep _))
      · cases hf
    · cases hf
  · cases hf
/-- [..] + [..], a new list -/
theorem sf_add (ha : SB C a f) (hb : SB C b g) : SF C (.BinOp a .Add b pos) (fun env => match f env with
    | some (.list xs) => match g env with
      | some (.list ys) => opAdd (.list xs) (.list ys)
      | _ => none
    | _ => none) := by
  obtain ⟨ta, ha1, ha2⟩ := ha
  obtain ⟨tb, hb1, hb2⟩ := hb
  refine ⟨tOp rCat ta tb, fun X hX => pe_op op_cat (ha1 X hX) (hb1 X hX), fun O σ H env Q d r hf q => ?_⟩
  dsimp only at hf
  split at hf
  · rename_i xs hx
    split at hf
    · rename_i ys hy
      simp only [opAdd] at hf
      split at hf
      · rename_i hl
        cases hf
        refine ha2 O σ H env _ _ r hx fun v H1 s1 hv => hb2 O σ H1 env _ _ (r.mono s1) hy fun w H2 s2 hw => ?_
        obtain ⟨p, vs, rfl, h1, h2⟩ := (hv.mono s2).list
        obtain ⟨p2, ws, rfl, h3, h4⟩ := hw.list
        refine ⟨p, p2, vs, ws, rfl, rfl, h1, h3, szl24 (by rw [h2.len, h4.len]; exact hl), fun l hl => ?_⟩
        exact q l _ _ _ ((s1.trans s2).trans (same_upd hl)) ((s1.trans s2).free hl) rfl upd_same (DrA.mono (mi_new hl (r.mono (s1.trans s2)).al) _ (h2.app h4))
      · cases hf
    · cases hf
  · cases hf
end
/-- a new list, for a slot that owns it -/
def stepF (R : Rw) (rc : Rec) (sc : Scope) : Expr → Option IE
  | .List es _ => (trA rc sc (es.map fun _ => false) es).map .lst
  | .BinOp a .Mult b _ => match rc sc true a, rc sc true b with
    | some a', some b' => some (.bin .Mult a' b')
    | _, _ => none
  | .BinOp a .Add b _ => match rc sc true a, rc sc true b with
    | some a', some b' => some (.bin .Add a' b')
    | _, _ => none
  | .Call (.Name x _) [e] [] _ => if x = "list" ∧ glB sc x = true ∧ x ∈ R.frs then match trR R rc sc e with
    | some (a, b) => some (.rgL a b)
    | none => none else none
  | .Call (.Attribute o m apos) [a] [] pos => match isJoin m, rc sc true o, rc sc true a with
    | some false, some o', some a' => if notCall o = true ∧ (apos.endLine == pos.line) = true then some (.split o' a') else none
    | _, _, _ => none
  | _ => none
theorem stepF_ok {R : Rw} {N : List Str} {Φ : Nat → List D → Option D} {rc : Rec} {C : Fam} (S : Snd R N Φ rc) (hN : C.N = N) (hR : R.ok Φ C) {e : Expr} {ie : IE} (h : stepF R rc C.sc e = some ie) :
    ∃ F : En → Option D, SF C e F ∧ notComp e = true ∧ ∀ env ds, evE Φ ie env = some (.list ds) → F env = some (.list ds) := by
  unfold stepF at h
  split at h
  · obtain ⟨as, ha, ea⟩ := Option.map_eq_some_iff.mp h
    subst ea
    obtain ⟨h1, h2⟩ := trA_ok S hN hR _ _ _ ha
    exact ⟨_, sf_lst h1 (all_false _), rfl, fun env ds hd => by simp only [evE] at hd; exact hd⟩
  · split at h
    · rename_i a' b' ha hb
      cases h
      have G := S C hN hR true _ _ ha
      have G' := S C hN hR true _ _ hb
      refine ⟨_, sf_mul G.sb G'.sb, rfl, fun env ds hd => ?_⟩
      simp only [evE] at hd
      split at hd
      · cases hd
      · rename_i x hx
        split at hd
        · cases hd
        · rename_i y hy
          rw [hx, hy]
          have hd' : opMul x y = some (.list ds) := hd
          cases x <;> cases y <;> first
            | exact hd'
            | (simp [opMul] at hd'; done)
            | (simp only [opMul] at hd'; split at hd' <;> cases hd')
    · cases h
  · split at h
    · rename_i a' b' ha hb
      cases h
      have G := S C hN hR true _ _ ha
      have G' := S C hN hR true _ _ hb
      refine ⟨_, sf_add G.sb G'.sb, rfl, fun env ds hd => ?_⟩
      simp only [evE] at hd
      split at hd
      · cases hd
      · rename_i x hx
        split at hd
        · cases hd
        · rename_i y hy
          rw [hx, hy]
          have hd' : opAdd x y = some (.list ds) := hd
          cases x <;> cases y <;> first
            | exact hd'
            | (simp [opAdd] at hd'; done)
            | (simp only [opAdd] at hd'; split at hd' <;> cases hd')
    · cases h
  · split at h
    · rename_i hx
      obtain ⟨rfl, hg, hf⟩ := hx
      split at h
      · rename_i a b hr
        cases h
        obtain ⟨r1, r2, _⟩ := trR_ok S hN hR hr
        exact ⟨_, sf_rgL r1 r2 (glB_ok hg).1 (hR.fr _ hf), rfl, fun env ds hd => by simp only [evE] at hd; exact hd⟩
      · cases h
    · cases h
  · split at h
    · rename_i o' a' hj ho ha
      split at h
      · rename_i hc
        cases h
        have G := S C hN hR true _ _ ho
        have G' := S C hN hR true _ _ ha
        unfold isJoin at hj
        split at hj
        · cases hj
        · split at hj
          · subst_vars
            exact ⟨_, sf_split G.sb G'.sb G'.pl hc.1 hc.2, rfl, fun env ds hd => by simp only [evE] at hd; exact hd⟩
          · cases hj
      · cases h
    · cases h
  · cases h
/-! ### which statements change a slot -/
def isN (x : Str) : Expr → Bool
  | .Name y _ => y == x
  | _ => false
def tgtN (x : Str) : Expr → Bool
  | .Name y _ => y == x
  | .Subscript (.Name y _) _ _ => y == x
  | _ => false
def mutS (x : Str) : Nat → Stmt → Bool
  | 0, _ => true
  | n + 1, s => match s with
    | .Assign ts _ _ => ts.any (tgtN x)
    | .Expr (.Call (.Attribute o _ _) _ _ _) _ => isN x o
    | .If _ a b _ => a.any (mutS x n) || b.any (mutS x n)
    | .For _ _ a _ _ => a.any (mutS x n)
    | .While _ a _ _ => a.any (mutS x n)
    | _ => false
def endsRet : List Stmt → Bool
  | [] => false
  | [.Return _ _] => true
  | _ :: r => endsRet r
def addShr : List Nat → IS → IS
  | [], b => b
  | i :: is, b => .seq (.shr i) (addShr is b)
def mutI (N : List Str) (i : Nat) (s : Stmt) : Bool := match N[i]? with
  | some x => mutS x 20 s
  | none => true
def trBlk (tr1 : Stmt → Option IS) (N : List Str) (ow : List Nat) (fin : Bool) : Option Stmt → List Stmt → Option IS
  | _, [] => some .skip
  | prev, s :: r => match tr1 s, trBlk tr1 N ow fin (some s) r with
    | some a, some b => some (addShr (if fin then ow.filter fun i => (match prev with | some p => mutI N i p | none => false) && !((s :: r).any (mutI N i)) else []) (.seq a b))
    | _, _ => none
def blk (tr1 : Stmt → Option IS) (N : List Str) (ow : List Nat) (sts : List Stmt) : Option IS := trBlk tr1 N ow (endsRet sts) none sts
/-- x, y = .. -/
def parN (N : List Str) (sc : Scope) : List Expr → Option (Nat × Nat)
  | [.Name x px, .Name y py] => match idx N x 0, idx N y 0 with
    | some i, some j => if i ≠ j ∧ sc.names.lookup x = some .local ∧ sc.names.lookup y = some .local ∧ (py.line == px.line) = true ∧ (x == y) = false then some (i, j) else none
    | _, _ => none
  | _ => none
/-- two names, not both plain locals -/
def cellN (sc : Scope) : List Expr → Bool
  | [.Name x _, .Name y _] => !(decide (sc.names.lookup x = some .local) && decide (sc.names.lookup y = some .local))
  | _ => false
def cInt : Expr → Bool
  | .Constant (.int _) _ _ => true
  | _ => false
def stepS (R : Rw) (N : List Str) (rc : Rec) (sc : Scope) (ow : List Nat) (tr1 : Stmt → Option IS) : Stmt → Option IS
  | .Assign [.Name x px] (.ListComp elt [⟨tg, iter, ifs, 0⟩] scope lpos) _ => match trN N sc true (.Name x px), trComp R N rc sc elt tg iter ifs scope with
    | some i, some e => if sc.names.lookup x = some .local ∧ (px.line == lpos.line) = true ∧ (scope.names.any fun (n, k) => n == x && (k == .local || k == .cell)) = false then some (if i ∈ ow then .setO i e else .set i e) else none
    | _, _ => none
  | .Assign [.Name x px] e _ => match trN N sc true (.Name x px) with
    | some i => if i ∈ ow then (stepF R rc sc e).map (.setO i) else if notComp e = true then (rc sc false e).map (.set i) else none
    | none => none
  | .Assign [.Tuple ts _ _] (.Tuple [a, b] _ _) _ => if (cInt a && cInt b) || cellN sc ts then match trNs N sc true ts, rc sc false a, rc sc false b with
      | some [i, j], some a', some b' => some (.unp [i, j] (.tup (.cons a' (.cons b' .nil))))
      | _, _, _ => none
    else if foldedForSure 8 a || foldedForSure 8 b || constantsAlone 8 a then none else match parN N sc ts, rc sc false a, rc sc false b with
      | some (i, j), some a', some b' => some (.par i j a' b')
      | _, _, _ => none
  | .Assign [.Tuple ts _ _] e _ => if notComp e = true ∧ notTuple e = true then match trNs N sc true ts, rc sc false e with
      | some (i :: j :: is), some e' => some (.unp (i :: j :: is) e')
      | _, _ => none else none
  | .Assign [.Subscript (.Name x _) b _] e _ => if visB sc x = true ∧ notComp e = true then match idx N x 0, rc sc true b, rc sc false e with
      | some i, some b', some e' => some (.sti i b' e')
      | _, _, _ => none else none
  | .Expr (.Call (.Attribute (.Name x _) m apos) [e] [] cpos) _ => if m = "append" ∧ visB sc x = true ∧ (apos.endLine == cpos.line) = true then match idx N x 0, rc sc false e with
      | some i, some e' => some (.app i e')
      | _, _ => none else none
  | .If c a b _ => match rc sc true c, blk tr1 N ow a, blk tr1 N ow b with
    | some c', some a', some b' => some (.ifs c' a' b')
    | _, _, _ => none
  | .For tg iter a [] _ => match trT N sc true tg, trI R rc sc tg iter, blk tr1 N ow a with
    | some t, some i, some a' => some (.for_ t i a')
    | _, _, _ => none
  | .While c a [] _ => match rc sc true c, blk tr1 N ow a with
    | some c', some a' => some (.whl c' a')
    | _, _ => none
  | .Return (some (.Name x _)) _ => if visB sc x = true then (idx N x 0).map fun i => .ret (.var i) else none
  | .Return (some e) _ => match rc sc false e with
    | some (.var _) => none
    | some e' => some (.ret e')
    | none => none
  | .Raise _ _ _ => some .nev
  | _ => none
def trS (R : Rw) (N : List Str) (rc : Rec) (sc : Scope) (ow : List Nat) : Nat → Stmt → Option IS
  | 0 => fun _ => none
  | n + 1 => stepS R N rc sc ow (trS R N rc sc ow n)
/-! ### soundness -/
def SndS (C : Fam) (Φ : Nat → List D → Option D) (tr1 : Stmt → Option IS) : Prop := ∀ st is, tr1 st = some is → S1 C st (evS Φ is)
section
variable {R : Rw} {N : List Str} {Φ : Nat → List D → Option D} {rc : Rec} {C : Fam} {tr1 : Stmt → Option IS} {ow : List Nat}
theorem addShr_ok {sts : List Stmt} : ∀ (is : List Nat) (b : IS), SS C sts (evS Φ b) → SS C sts (evS Φ (addShr is b))
  | [], b, h => h
  | i :: is, b, h => (ss_shr (i := i) (addShr_ok is b h)).cg fun env => by
    show evS Φ (.seq (.shr i) (addShr is b)) env = _
    simp only [evS] <;> rfl
theorem trBlk_ok (T : SndS C Φ tr1) {fin : Bool} : ∀ (sts : List Stmt) (prev : Option Stmt) (is : IS), trBlk tr1 N ow fin prev sts = some is → SS C sts (evS Φ is)
  | [], prev, is, h => by
    have : is = .skip := by cases prev <;> (simp only [trBlk] at h; cases h; rfl)
    subst this
    exact ss_nil.cg fun env => by (simp only [evS] <;> rfl)
  | s :: r, prev, is, h => by
    simp only [trBlk] at h
    split at h
    · rename_i a b ha hb
      cases h
      refine addShr_ok _ _ ?_
      exact (ss_cons (T s a ha) (trBlk_ok T r (some s) b hb)).cg fun env => by (simp only [evS] <;> rfl)
    · cases h
theorem blk_ok (T : SndS C Φ tr1) {sts : List Stmt} {is : IS} (h : blk tr1 N ow sts = some is) : SS C sts (evS Φ is) := trBlk_ok T sts none is h
theorem sws_int {a b : Expr} {ts : List Expr} {kk k2 : Nat} {tp p2 : Pos} {env : Env} (ha : cInt a = true) (hb : cInt b = true) : swappedStores [.Tuple ts kk tp] (.Tuple [a, b] k2 p2) env = pure none := by
  have fa : foldedForSure 8 a = true := by
    cases a <;> first | (simp [cInt] at ha; done) | skip
    rename_i c _ _
    cases c <;> first | rfl | (simp [cInt] at ha; done)
  have fb : foldedForSure 8 b = true := by
    cases b <;> first | (simp [cInt] at hb; done) | skip
    rename_i c _ _
    cases c <;> first | rfl | (simp [cInt] at hb; done)
  have fab : [a, b].all (foldedForSure 8) = true := by rw [List.all_cons, List.all_cons, fa, fb]; rfl
  unfold swappedStores
  simp only [fab, if_true]
  split <;> first | rfl | skip
  split <;> first | rfl | skip
  split <;> rfl
theorem sws_cell {a b : Expr} {ts : List Expr} {kk k2 : Nat} {tp p2 : Pos} {env : Env} (h : cellN env.scope ts = true) : swappedStores [.Tuple ts kk tp] (.Tuple [a, b] k2 p2) env = pure none := by
  unfold cellN at h
  split at h
  · rename_i x px y py
    have hn : ([Expr.Name x px, .Name y py].filterMap fun
      | .Name id pos => if env.kindOf id == some .local && pos.line == px.line then some id else none
      | _ => none).length ≠ 2 := by
      have kx : env.kindOf x = env.scope.names.lookup x := rfl
      have ky : env.kindOf y = env.scope.names.lookup y := rfl
      simp only [List.filterMap_cons, List.filterMap_nil, kx, ky]
      by_cases h1 : env.scope.names.lookup x = some .local
      · have h2 : ¬ env.scope.names.lookup y = some .local := fun z => by simp [h1, z] at h
        have h2' : (env.scope.names.lookup y == some .local) = false := beq_eq_false_iff_ne.mpr h2
        rw [h2']
        split <;> simp
      · have h1' : (env.scope.names.lookup x == some .local) = false := beq_eq_false_iff_ne.mpr h1
        rw [h1']
        simp only [Bool.false_and, Bool.false_eq_true, if_false]
        split <;> simp
    unfold swappedStores
    simp only []
    split
    · rfl
    split
    · rfl
    split
    · rfl
    · rename_i q
      exfalso
      apply q
      have : ((([Expr.Name x px, .Name y py].filterMap fun
        | .Name id pos => if env.kindOf id == some .local && pos.line == px.line then some id else none
        | _ => none).length != 2) = true) := by simpa using hn
      rw [Bool.or_eq_true]
      exact .inl this
  · cases h
theorem sws_par {a b : Expr} {x y : Str} {px py : Pos} {kk k2 : Nat} {tp p2 : Pos} {env : Env} (hk : env.scope.kind = .function) (hx : env.scope.names.lookup x = some .local) (hy : env.scope.names.lookup y = some .local) (hl : (py.line == px.line) = true) (hxy : (x == y) = false)
    (ha : plainX a = true) (hb : plainX b = true) (fa : foldedForSure 8 a = false) (ca : constantsAlone 8 a = false) : swappedStores [.Tuple [.Name x px, .Name y py] kk tp] (.Tuple [a, b] k2 p2) env = pure (some [x, y]) := by
  have kx : env.kindOf x = some .local := hx
  have ky : env.kindOf y = some .local := hy
  have hbk : env.blockKind = .function := by unfold Env.blockKind; rw [hk]; rfl
  have st : ∀ z : Expr, plainX z = true → (match z with | .Starred .. => true | _ => false) = false := fun z hz => by cases z <;> first | rfl | (simp [plainX] at hz)
  unfold swappedStores
  have hne : ¬ x = y := fun e => by rw [e] at hxy; simp at hxy
  have hed : [x, y].eraseDups = [x, y] := by
    rw [List.eraseDups_cons]
    have : ([y].filter fun z => !z == x) = [y] := by
      have : (y == x) = false := beq_eq_false_iff_ne.mpr fun e => hne e.symm
      simp [this]
    rw [this]
    rfl
  have fab : [a, b].all (foldedForSure 8) = false := by rw [List.all_cons, fa]; rfl
  have cab : [a, b].all (constantsAlone 8) = false := by rw [List.all_cons, ca]; rfl
  have sab : ([a, b].any fun | .Starred .. => true | _ => false) = false := List.any_eq_false.mpr fun z hz => by
    have : plainX z = true := by
      rcases List.mem_cons.mp hz with rfl | hz
      · exact ha
      · rw [List.mem_singleton.mp hz]; exact hb
    rw [st z this]
    decide
  have hlx : (px.line == px.line) = true := beq_self_eq_true _
  simp only [hbk, fab, cab, kx, ky, hl, Expr.pos, List.filterMap_cons, List.filterMap_nil, List.head?_cons, Option.map_some, Option.getD_some, hlx, hed]
  simp [sab, hed]
  rintro (h | h)
  · exact absurd (h.symm.trans (st a ha)) (by decide)
  · exact absurd (h.symm.trans (st b hb)) (by decide)
theorem evR_any {e : IE} (h : ∀ i, e ≠ .var i) (env : En) : evR Φ e env = evE Φ e env := by
  cases e <;> first
    | exact absurd rfl (h _)
    | rfl
theorem parN_ok {ts : List Expr} {i j : Nat} (h : parN N C.sc ts = some (i, j)) : ∃ x y px py, ts = [.Name x px, .Name y py] ∧ N[i]? = some x ∧ N[j]? = some y ∧ i ≠ j ∧ C.sc.names.lookup x = some .local ∧ C.sc.names.lookup y = some .local ∧ (py.line == px.line) = true ∧ (x == y) = false := by
  unfold parN at h
  split at h
  · split at h
    · rename_i i' j' hi hj
      split at h
      · rename_i hc
        cases h
        exact ⟨_, _, _, _, rfl, idx_get hi, idx_get hj, hc.1, hc.2.1, hc.2.2.1, hc.2.2.2.1, hc.2.2.2.2⟩
      · cases h
    · cases h
  · cases h
set_option maxHeartbeats 8000000 in
theorem stepS_ok (S : Snd R N Φ rc) (hN : C.N = N) (hR : R.ok Φ C) (hk : C.sc.kind = .function) (htop : C.top = true) (T : SndS C Φ tr1) : SndS C Φ (stepS R N rc C.sc ow tr1) := by
  intro st is h
  unfold stepS at h
  split at h
  · rename_i x px elt tg iter ifs scope lpos pos
    split at h
    · rename_i i e hi hc
      split at h
      · rename_i hcond
        cases h
        obtain ⟨el, tgl, src, cond, vs, rfl, h1, h2, h3, h4, h5, h6, h7⟩ := trComp_parts S hN hR hc
        subst hN
        have hidx : C.N[i]? = some x := by
          have := hi
          unfold trN at this
          simp only [hcond.1] at this
          exact idx_get this
        have q : SGf C (.Assign [.Name x px] (.ListComp elt [⟨tg, iter, ifs, 0⟩] scope lpos) pos) i (evE Φ (.comp el tgl src cond vs)) :=
          (sgf_comp hR.nd hidx hcond.1 hk hcond.2.1 hcond.2.2 h1 h2 h3 h4 h5 h6 h7).cg fun env => comp_eq env
        split
        · exact (s1_setO q).cg fun env => by (simp only [evS] <;> rfl)
        · exact (s1_set q.v).cg fun env => by (simp only [evS] <;> rfl)
      · cases h
    · cases h
  · rename_i x px e pos hne
    split at h
    · rename_i i hi
      subst hN
      have tn : TgN C (.Name x px) i := trN_ok (by rw [htop]; exact hi)
      split at h
      · obtain ⟨e', he, ee⟩ := Option.map_eq_some_iff.mp h
        subst ee
        obtain ⟨F, q1, q2, q3⟩ := stepF_ok S rfl hR he
        obtain ⟨t, p1, p2⟩ := s1_setO (sgf (pos := pos) hR.nd tn q1 q2)
        refine ⟨t, p1, fun O0 H0 G σ H env Dn fl r hf q => p2 O0 H0 G σ H env Dn fl r ?_ q⟩
        simp only [evS] at hf
        split at hf
        · rename_i ds hd
          dsimp only
          rw [q3 env ds hd]
          exact hf
        · cases hf
      · split at h
        · rename_i hn
          obtain ⟨e', he, ee⟩ := Option.map_eq_some_iff.mp h
          subst ee
          have G := S C rfl hR false _ _ he
          exact (s1_set (sgv (pos := pos) hR.nd tn (G.se rfl) hn)).cg fun env => by (simp only [evS] <;> rfl)
        · cases h
    · cases h
  · rename_i ts kk tp a b k2 p2 pos
    split at h
    · rename_i hc
      split at h
      · rename_i i j a' b' h1 h2 h3
        cases h
        subst hN
        have G := S C rfl hR false _ _ h2
        have G' := S C rfl hR false _ _ h3
        have tn : TgNs C ts [i, j] := trNs_ok (by rw [htop]; exact h1)
        have q : SE C (.Tuple [a, b] k2 p2) (evE Φ (.tup (.cons a' (.cons b' .nil)))) := (se_tup (bs := [false, false]) (sa_cons (G.se rfl) (sa_cons (G'.se rfl) (sa_nil (bs := [])) G'.pl) G.pl) rfl).cg fun env => by (simp only [evE, evA] <;> rfl)
        refine (s1_unp (pos := pos) hR.nd tn q rfl fun X hX => ?_).cg fun env => by (simp only [evS] <;> rfl)
        rw [Bool.or_eq_true] at hc
        rcases hc with hc | hc
        · rw [Bool.and_eq_true] at hc
          exact sws_int hc.1 hc.2
        · exact sws_cell (by rw [hX.hsc]; exact hc)
      · cases h
    · split at h
      · cases h
      · rename_i hfold
        split at h
        · rename_i i j a' b' h1 h2 h3
          cases h
          subst hN
          have G := S C rfl hR false _ _ h2
          have G' := S C rfl hR false _ _ h3
          obtain ⟨x, y, px, py, rfl, p1, p2, p3, p4, p5, p6, p7⟩ := parN_ok h1
          simp only [Bool.or_eq_true, not_or, Bool.not_eq_true] at hfold
          exact (s1_par (pos := pos) hR.nd p1 p2 p3 p4 p5 (G.se rfl) (G'.se rfl) G.pl G'.pl fun X hX => sws_par (by rw [hX.hsc]; exact hk) (by rw [hX.hsc]; exact p4) (by rw [hX.hsc]; exact p5) p6 p7 G.pl G'.pl hfold.1.1 hfold.2).cg fun env => by (simp only [evS] <;> rfl)
        · cases h
  · rename_i ts kk tp e pos hne
    split at h
    · rename_i hc
      split at h
      · rename_i i j is e' h1 h2
        cases h
        subst hN
        have G := S C rfl hR false _ _ h2
        have tn : TgNs C ts (i :: j :: is) := trNs_ok (by rw [htop]; exact h1)
        exact (s1_unp (pos := pos) hR.nd tn (G.se rfl) hc.1 fun X hX => sws_no hc.2).cg fun env => by (simp only [evS] <;> rfl)
      · cases h
    · cases h
  · rename_i x xp b sp e pos
    split at h
    · rename_i hc
      split at h
      · rename_i i b' e' h1 h2 h3
        cases h
        subst hN
        have G := S C rfl hR true _ _ h2
        have G' := S C rfl hR false _ _ h3
        have v := visB_ok hc.1
        exact (s1_sti (pos := pos) (idx_get h1) v.1 v.2.1 v.2.2 (G'.se rfl) G.sb G.pl hc.2).cg fun env => by (simp only [evS] <;> rfl)
      · cases h
    · cases h
  · rename_i x xp m apos e cpos pos
    split at h
    · rename_i hc
      obtain ⟨rfl, hc2, hc3⟩ := hc
      split at h
      · rename_i i e' h1 h2
        cases h
        subst hN
        have G := S C rfl hR false _ _ h2
        have v := visB_ok hc2
        exact (s1_app (pos := pos) (idx_get h1) v.1 v.2.1 v.2.2 (G.se rfl) G.pl hc3).cg fun env => by (simp only [evS] <;> rfl)
      · cases h
    · cases h
  · rename_i c a b pos
    split at h
    · rename_i c' a' b' h1 h2 h3
      cases h
      have G := S C hN hR true _ _ h1
      exact (s1_if (pos := pos) G.st (blk_ok T h2) (blk_ok T h3)).cg fun env => by (simp only [evS] <;> rfl)
    · cases h
  · rename_i tg iter a pos
    split at h
    · rename_i t i a' h1 h2 h3
      cases h
      subst hN
      obtain ⟨q1, q2⟩ := trI_ok S rfl hR h2
      exact (s1_for (pos := pos) hR.nd q1 q2 (trT_ok (by rw [htop]; exact h1)) (blk_ok T h3)).cg fun env => by (simp only [evS] <;> rfl)
    · cases h
  · rename_i c a pos
    split at h
    · rename_i c' a' h1 h2
      cases h
      have G := S C hN hR true _ _ h1
      exact (s1_while (pos := pos) (n := fuelW) G.st (blk_ok T h2)).cg fun env => by (simp only [evS] <;> rfl)
    · cases h
  · rename_i x xp pos
    split at h
    · rename_i hc
      obtain ⟨i, hi, ei⟩ := Option.map_eq_some_iff.mp h
      subst ei
      subst hN
      have v := visB_ok hc
      exact (s1_retv (pos := pos) (idx_get hi) v.1 v.2.1 v.2.2).cg fun env => by (simp only [evS, evR] <;> rfl)
    · cases h
  · rename_i e pos hne
    split at h
    · cases h
    · rename_i e' hnv he
      cases h
      have G := S C hN hR false _ _ he
      refine (s1_ret (pos := pos) (G.se rfl)).cg fun env => ?_
      simp only [evS]
      rw [evR_any (fun i z => hnv i (by rw [z])) env]
    · cases h
  · cases h
    exact s1_nev.cg fun env => by (simp only [evS] <;> rfl)
  · cases h
theorem trS_ok (S : Snd R N Φ rc) (hN : C.N = N) (hR : R.ok Φ C) (hk : C.sc.kind = .function) (htop : C.top = true) : ∀ n : Nat, SndS C Φ (trS R N rc C.sc ow n)
  | 0 => fun _ _ h => by cases h
  | n + 1 => stepS_ok S hN hR hk htop (trS_ok S hN hR hk htop n)
end
end J

/-! A def keeps its promise; all defs of a row, by fuel; the law. -/
namespace J
open PySem PySem.Spec PyProof.Rows L2
theorem start_val {K : PySem.W.Frag} {O : List Addr} {H : Hp} : ∀ {bs : List Bool} {vs : List V} {ds : List D} {i : Nat} {d : D}, ArgR K O H bs vs ds → (start0 bs ds)[i]? = some (Sl.val d) → ∃ v, vs[i]? = some v ∧ Dr K (mi H O) v d
  | [], vs, ds, i, d, _, h => by simp [start0] at h
  | b :: bs, vs, [], i, d, _, h => by simp [start0] at h
  | b :: bs, [], e :: ds, i, d, ha, h => by cases b <;> simp [ArgR] at ha
  | true :: bs, v :: vs, e :: ds, 0, d, ha, h => by simp [start0] at h
  | false :: bs, v :: vs, e :: ds, 0, d, ha, h => by
    simp [start0] at h
    subst h
    exact ⟨v, rfl, ha.1⟩
  | b :: bs, v :: vs, e :: ds, i + 1, d, ha, h => by
    have ha2 : ArgR K O H bs vs ds := by cases b <;> exact ha.2
    exact (start_val (i := i) ha2 (by simpa [start0] using h)).imp fun u hu => ⟨by simpa using hu.1, hu.2⟩
theorem start_bor {K : PySem.W.Frag} {O : List Addr} {H : Hp} : ∀ {bs : List Bool} {vs : List V} {ds : List D} {i : Nat} {d : D}, ArgR K O H bs vs ds → (start0 bs ds)[i]? = some (Sl.bor d) → ∃ v, vs[i]? = some v ∧ Tp K O H v d
  | [], vs, ds, i, d, _, h => by simp [start0] at h
  | b :: bs, vs, [], i, d, _, h => by simp [start0] at h
  | b :: bs, [], e :: ds, i, d, ha, h => by cases b <;> simp [ArgR] at ha
  | true :: bs, v :: vs, e :: ds, 0, d, ha, h => by
    simp [start0] at h
    subst h
    exact ⟨v, rfl, ha.1⟩
  | false :: bs, v :: vs, e :: ds, 0, d, ha, h => by simp [start0] at h
  | b :: bs, v :: vs, e :: ds, i + 1, d, ha, h => by
    have ha2 : ArgR K O H bs vs ds := by cases b <;> exact ha.2
    exact (start_bor (i := i) ha2 (by simpa [start0] using h)).imp fun u hu => ⟨by simpa using hu.1, hu.2⟩
theorem start_own : ∀ {bs : List Bool} {ds : List D} {i : Nat} {es : List D}, (start0 bs ds)[i]? ≠ some (Sl.own es)
  | [], ds, i, es, h => by simp [start0] at h
  | b :: bs, [], i, es, h => by simp [start0] at h
  | b :: bs, e :: ds, 0, es, h => by cases b <;> simp [start0] at h
  | b :: bs, e :: ds, i + 1, es, h => start_own (bs := bs) (ds := ds) (i := i) (by simpa [start0] using h)
theorem start0_len : ∀ (bs : List Bool) (ds : List D), ds.length = bs.length → (start0 bs ds).length = ds.length
  | [], [], _ => rfl
  | [], _ :: _, h => by simp at h
  | _ :: _, [], h => by simp at h
  | b :: bs, d :: ds, h => by simp only [start0, List.length_cons] at h ⊢; rw [start0_len bs ds (by omega)]
theorem app_no {l : En} {n i : Nat} {s : Sl} (h : (l ++ List.replicate n Sl.no)[i]? = some s) : s = .no ∨ l[i]? = some s := by
  by_cases hi : i < l.length
  · rw [List.getElem?_append_left hi] at h
    exact .inr h
  · rw [List.getElem?_append_right (by omega)] at h
    have := List.mem_of_getElem? h
    exact .inl (List.eq_of_mem_replicate this)
theorem fn_ok {P : Program} {w : World} {K : PySem.W.Frag} {mg : Str → Option Value} {base : Heap} {x y : Str} {params : Arguments} {body : List Stmt} {scope : Scope} {f : Addr} {fd : FuncData} {N ps : List Str} {n : Nat}
    {R : Rw} {Φ : Nat → List D → Option D} {F : Fd} {ow : List Nat} {m : Nat} (hF : FunD K x y params body scope [] [] f fd) (S : FnScope N ps scope) (hR : R.ok Φ ⟨P, w, K, mg, base, N, scope, n, true⟩)
    (htr : blk (trS R N (trE R N m) scope ow m) N ow body = some F.body) (hsl : F.slots = N.length) (hbs : F.bs.length = ps.length) : FnOk P w K mg base CX0 (n + 1) f fd ps (spF K F.bs (evF Φ F)) := by
  have hlen : ∀ vs H (Q : VK) (E : XK), spF K F.bs (evF Φ F) vs H Q E → vs.length = ps.length := fun vs H Q E h => by
    obtain ⟨O, ds, d, _, ha, hf, _⟩ := h
    rw [ha.len]
    unfold evF at hf
    split at hf
    · rename_i hl; rw [hl, hbs]
    · cases hf
  refine hF.ok S hlen (fun cdv A outer s H vs Q E hr h => ?_)
  let C : Fam := ⟨P, w, K, mg, base, N, scope, n, true⟩
  have T := trS_ok (ow := ow) (C := C) (trE_ok R N Φ m) rfl hR S.kind rfl m
  obtain ⟨t, h1, h2⟩ := blk_ok T htr
  have hl := hlen vs H Q E h
  obtain ⟨O, ds, d, al, ha, hf, q⟩ := h
  refine ⟨t, PSs.nox (h1 _ ⟨rfl, rfl, rfl, rfl, rfl, rfl, rfl, rfl, hr, rfl, fun _ _ => rfl⟩), ?_⟩
  unfold evF at hf
  split at hf
  · rename_i hdl
    have hpl : ps.length ≤ N.length := by have := congrArg List.length S.pre; rw [List.length_take] at this; omega
    have e0 := start0_len F.bs ds hdl
    have hst : ∀ i v, vs[i]? = some v → (L2.start N vs)[i]? = some (some v) := fun i v hv => by
      have hi : i < vs.length := (List.getElem?_eq_some_iff.mp hv).1
      unfold L2.start
      rw [List.getElem?_append_left (by rw [List.length_map]; exact hi), List.getElem?_map, hv]
      rfl
    have rf : RF K O H [] (L2.start N vs) H (start0 F.bs ds ++ List.replicate (F.slots - ds.length) Sl.no) := by
      refine ⟨O, fun _ => 0, ?_, al, fun i d hd => ?_, fun i es hd => ?_, fun i d hd => ?_, fun i j es es' hd => ?_, (fun g hg => by cases hg), Same.refl H, (fun a ha => ha), (fun a ha => .inl ha)⟩
      · unfold L2.start
        rw [List.length_append, List.length_append, List.length_map, List.length_replicate, List.length_replicate, e0, hsl, ← ha.len]
      · rcases app_no hd with z | z
        · cases z
        · obtain ⟨v, hv, hdr⟩ := start_val ha z
          exact ⟨v, hst i v hv, hdr⟩
      · rcases app_no hd with z | z
        · cases z
        · exact absurd z start_own
      · rcases app_no hd with z | z
        · cases z
        · obtain ⟨v, hv, hdr⟩ := start_bor ha z
          exact ⟨v, hst i v hv, hdr⟩
      · rcases app_no hd with z | z
        · cases z
        · exact absurd z start_own
    split at hf
    · rename_i d' he
      cases hf
      exact h2 O H [] _ H _ _ _ rf he fun v H' s hv => q v H' s hv
    · rename_i env' he
      cases hf
      refine h2 O H [] _ H _ _ _ rf he fun σ' H' r' => ?_
      obtain ⟨O', oa', r'⟩ := r'
      exact q _ H' r'.ext .non
    · cases hf
  · cases hf

/-! ### all defs of a row -/
/-- one turn of the fuel: the tables of the little language, or one's own functions -/
def stepP (tab : Nat → Option Fd) (ext : Nat → (Nat → List D → Option D) → List D → Option D) (Φ : Nat → List D → Option D) (k : Nat) : List D → Option D := match tab k with
  | some F => evF Φ F
  | none => ext k Φ
def Phi (tab : Nat → Option Fd) (ext : Nat → (Nat → List D → Option D) → List D → Option D) : Nat → Nat → List D → Option D
  | 0 => fun _ _ => none
  | n + 1 => stepP tab ext (Phi tab ext n)
/-- what stands behind the head of one def -/
structure DefOk (P : Program) (w : World) (K : PySem.W.Frag) (mg : Str → Option Value) (base : Heap) (R : Rw) (tab : Nat → Option Fd) (ext : Nat → (Nat → List D → Option D) → List D → Option D) (p : Str × Nat × List Bool) : Prop where
  ex : ∃ f fd ps, mg p.1 = some (.ref f) ∧ PySem.W.keepIn K (.ref f) = true ∧ Binds K fd ps [] ∧
    ∀ n Φ, (∀ N sc, N.Nodup → R.ok Φ ⟨P, w, K, mg, base, N, sc, n, true⟩) → FnOk P w K mg base CX0 (n + 1) f fd ps (spF K p.2.2 (stepP tab ext Φ p.2.1))
theorem def_ok {P : Program} {w : World} {K : PySem.W.Frag} {mg : Str → Option Value} {base : Heap} {R : Rw} {tab : Nat → Option Fd} {ext : Nat → (Nat → List D → Option D) → List D → Option D} {x : Str} {k : Nat} {params : Arguments} {body : List Stmt} {scope : Scope} {f : Addr} {fd : FuncData} {N ps : List Str}
    {F : Fd} {ow : List Nat} {m : Nat} (hF : FunD K x x params body scope [] [] f fd) (hm : mg x = some (.ref f)) (hb : Binds K fd ps []) (S : FnScope N ps scope) (hk : tab k = some F) (htr : blk (trS R N (trE R N m) scope ow m) N ow body = some F.body) (hsl : F.slots = N.length) (hbs : F.bs.length = ps.length) :
    DefOk P w K mg base R tab ext (x, k, F.bs) := by
  refine ⟨f, fd, ps, hm, hF.kp, hb, fun n Φ hR => ?_⟩
  have : stepP tab ext Φ k = evF Φ F := by unfold stepP; rw [hk]
  show FnOk P w K mg base CX0 (n + 1) f fd ps (spF K F.bs (stepP tab ext Φ k))
  rw [this]
  exact fn_ok hF S (hR N scope S.nd) htr hsl hbs
/-- the script as data -/
def scr (ns : List Int) : D := .dict (ns.map fun n => (.int n, .none))
theorem law_sp {K : PySem.W.Frag} {F : List D → Option D} {H : Hp} {a : Addr} {ns : List Int} (hF : F [scr ns] = some (.bool true)) (hS : SqL K H a (ns.map V.int)) (ht : TabOk K H) : spF K [false] F [.ref a] H (fun v _ => v = .bl true) fun _ _ _ => False := by
  refine ⟨[], [scr ns], .bool true, ⟨(fun a ha => by cases ha), ht⟩, ?_, hF, (fun v H' s hv => by cases hv; rfl)⟩
  refine ⟨?_, by unfold ArgR; trivial⟩
  refine .scr ?_
  have hm : ∀ {b : Addr} {u : HO}, H b = some u → tbO u = false → mi H [] b = some u := fun h1 h2 => mi_some.mpr ⟨by simp, h1, h2⟩
  rcases hS with (h | ⟨o, h⟩) | h
  · exact .inl (.inl (hm h rfl))
  · exact .inl (.inr ⟨o, hm h rfl⟩)
  · exact .inr h
end J
namespace J
open PySem PySem.Spec PyProof.Rows L2
end J

/-! A def with a dict, by hand: the ends that a law draws. -/
namespace J
open PySem PySem.Spec PyProof.Rows L2
def ieA : IE := .bin .Mod (.bv 0) (.ix (.bv 1) (.ci 0))
def ieB : IE := .bin .Mod (.bin .FloorDiv (.bv 0) (.ci 7)) (.bv 2)
def ieC (kd : Nat) : IE := .bin .Mod (.bin .FloorDiv (.call kd (.cons (.var 0) (.cons (.var 4) .nil))) (.ci 4)) (.ix (.bv 1) (.ci 0))
def drawsF (kd : Nat) (Φ : Nat → List D → Option D) (a w m : D) : List D → Option (List Int)
  | [] => some []
  | r :: rs => match evE Φ (ieC kd) [.val a, .val w, .val m, .no, .val r] with
    | some (.int x) => (drawsF kd Φ a w m rs).map (x :: ·)
    | _ => none
def endsF (kd : Nat) (Φ : Nat → List D → Option D) : List D → Option D
  | [a, w, m] => match evE Φ ieA [.val a, .val w, .val m, .no, .no] with
    | some (.int x) => match evI Φ (.rg (.ci 0) ieB) [.val a, .val w, .val m, .no, .no] with
      | some rs => if rs.length ≤ 50 then (drawsF kd Φ a w m rs).map fun xs => .tuple ((sortI (undupI (x :: xs))).map .int) else none
      | none => none
    | _ => none
  | _ => none
/-- the keys of a dict filled with truths -/
theorem putK_keys {kvs : List (Key × V)} {ks : List Int} {x : Int} {v : V} (h : kvs.map (·.1) = ks.map Sum.inl) (hn : ks.Nodup) : ∃ ks' : List Int, (putK kvs (Sum.inl x) v).map (·.1) = ks'.map Sum.inl ∧ ks'.Nodup ∧ (∀ y, y ∈ ks' ↔ y ∈ ks ∨ y = x) ∧ ks'.length ≤ ks.length + 1 := by
  have hm : (kvs.any fun kv => decide (kv.1 = Sum.inl x)) = decide (x ∈ ks) := by
    rw [Bool.eq_iff_iff, List.any_eq_true, decide_eq_true_eq]
    constructor
    · rintro ⟨kv, hk, he⟩
      have he := of_decide_eq_true he
      have : kv.1 ∈ kvs.map (·.1) := List.mem_map_of_mem hk
      rw [h, he] at this
      obtain ⟨y, hy, e⟩ := List.mem_map.mp this
      cases e
      exact hy
    · intro hx
      have : (Sum.inl x : Key) ∈ kvs.map (·.1) := by rw [h]; exact List.mem_map_of_mem hx
      obtain ⟨kv, hk, he⟩ := List.mem_map.mp this
      exact ⟨kv, hk, decide_eq_true he⟩
  unfold putK
  rw [hm]
  by_cases hx : x ∈ ks
  · rw [if_pos (decide_eq_true hx)]
    refine ⟨ks, ?_, hn, fun y => ⟨.inl, fun z => z.elim id fun e => e ▸ hx⟩, by omega⟩
    rw [List.map_map, ← h]
    refine List.map_congr_left fun kv _ => ?_
    show (if kv.1 = Sum.inl x then (kv.1, v) else kv).1 = kv.1
    split <;> rfl
  · rw [if_neg (by simpa using hx)]
    refine ⟨ks ++ [x], by rw [List.map_append, h, List.map_append]; rfl, List.nodup_append.mpr ⟨hn, List.nodup_cons.mpr ⟨by simp, List.nodup_nil⟩, fun a ha b hb e => ?_⟩, fun y => by simp, by simp⟩
    rw [List.mem_singleton] at hb
    subst hb
    subst e
    exact hx ha

section
variable {K : PySem.W.Frag} {O : List Addr} {σ : L2.St} {H H' : Hp} {env : En} {p : Addr} {o : HO}
def plainE (env : En) : Prop := ∀ (i : Nat) (s : Sl), env[i]? = some s → (∃ d, s = .val d) ∨ s = .no
theorem Re.put (h : Re K O σ H env) (hp : plainE env) (hO : p ∈ O) (ho : ntO (some o) = true) (hw : okW (H p) = true) : Re K O σ (upd H p o) env where
  len := h.len
  al := ⟨fun a ha => by
    by_cases e : a = p
    · subst e; rw [upd_same]; exact ho
    · rw [upd_ne e]; exact h.al.nt a ha, h.al.tb.upd hw⟩
  val := fun i d q => by rw [mi_mut hO]; exact h.val i d q
  own := fun i d q => by rcases hp i _ q with ⟨_, z⟩ | z <;> cases z
  bor := fun i d q => by rcases hp i _ q with ⟨_, z⟩ | z <;> cases z
theorem Re.addO (h : Re K O σ H env) (hp : plainE env) (s : Same H H') (hn : H p = none) (hs : ntO (H' p) = true) : Re K (p :: O) σ H' env where
  len := h.len
  al := ⟨fun a ha => by
    rcases List.mem_cons.mp ha with e | ha
    · subst e; exact hs
    · exact (h.al.mono s).nt a ha, h.al.tb.mono s⟩
  val := fun i d q => let ⟨v, h1, h2⟩ := h.val i d q; ⟨v, h1, Dr.mono (mi_fresh hn s) d h2⟩
  own := fun i d q => by rcases hp i _ q with ⟨_, z⟩ | z <;> cases z
  bor := fun i d q => by rcases hp i _ q with ⟨_, z⟩ | z <;> cases z
theorem Re.setN (h : Re K O σ H env) (hp : plainE env) {i : Nat} {x : Option V} (hi : env[i]? = some .no) : Re K O (σ.set i x) H env where
  len := by rw [List.length_set]; exact h.len
  al := h.al
  val := fun j d q => by
    by_cases e : i = j
    · subst e; rw [hi] at q; cases q
    · rw [List.getElem?_set_ne e]; exact h.val j d q
  own := fun i d q => by rcases hp i _ q with ⟨_, z⟩ | z <;> cases z
  bor := fun i d q => by rcases hp i _ q with ⟨_, z⟩ | z <;> cases z
theorem Re.setV (h : Re K O σ H env) (hp : plainE env) {i : Nat} {v : V} {d : D} (hv : Dr K (mi H O) v d) : Re K O (σ.set i (some v)) H (env.set i (.val d)) where
  len := by rw [List.length_set, List.length_set]; exact h.len
  al := h.al
  val := fun j e q => by
    rcases get_set q with ⟨rfl, e1, hl⟩ | ⟨hij, q⟩
    · cases e1
      exact ⟨v, List.getElem?_set_self (by rw [h.len]; exact hl), hv⟩
    · rw [List.getElem?_set_ne hij]; exact h.val j e q
  own := fun j e q => by
    rcases get_set q with ⟨rfl, e1, hl⟩ | ⟨hij, q⟩
    · cases e1
    · rcases hp j _ q with ⟨_, z⟩ | z <;> cases z
  bor := fun j e q => by
    rcases get_set q with ⟨rfl, e1, hl⟩ | ⟨hij, q⟩
    · cases e1
    · rcases hp j _ q with ⟨_, z⟩ | z <;> cases z
end
/-- a def whose body answers as f -/
theorem fn_okS {P : Program} {w : World} {K : PySem.W.Frag} {mg : Str → Option Value} {base : Heap} {x : Str} {params : Arguments} {body : List Stmt} {scope : Scope} {f : Addr} {fd : FuncData} {N ps : List Str} {n : Nat}
    {bs : List Bool} {g : En → Option Fl} (hF : FunD K x x params body scope [] [] f fd) (S : FnScope N ps scope) (hS : SS ⟨P, w, K, mg, base, N, scope, n, true⟩ body g) (hbs : bs.length = ps.length) :
    FnOk P w K mg base CX0 (n + 1) f fd ps (spF K bs fun ds => if ds.length = bs.length then (match g (start0 bs ds ++ List.replicate (N.length - ds.length) Sl.no) with
      | some (.rt d) => some d
      | some (.nx _) => some .none
      | none => none) else none) := by
  have hlen : ∀ vs H (Q : VK) (E : XK), spF K bs (fun ds => if ds.length = bs.length then (match g (start0 bs ds ++ List.replicate (N.length - ds.length) Sl.no) with
      | some (.rt d) => some d
      | some (.nx _) => some .none
      | none => none) else none) vs H Q E → vs.length = ps.length := fun vs H Q E h => by
    obtain ⟨O, ds, d, _, ha, hf, _⟩ := h
    rw [ha.len]
    dsimp only at hf
    split at hf
    · rename_i hl; rw [hl, hbs]
    · cases hf
  refine hF.ok S hlen (fun cdv A outer s H vs Q E hr h => ?_)
  obtain ⟨t, h1, h2⟩ := hS
  have hl := hlen vs H Q E h
  obtain ⟨O, ds, d, al, ha, hf, q⟩ := h
  refine ⟨t, PSs.nox (h1 _ ⟨rfl, rfl, rfl, rfl, rfl, rfl, rfl, rfl, hr, rfl, fun _ _ => rfl⟩), ?_⟩
  dsimp only at hf
  split at hf
  · rename_i hdl
    have hpl : ps.length ≤ N.length := by have := congrArg List.length S.pre; rw [List.length_take] at this; omega
    have e0 := start0_len bs ds hdl
    have hst : ∀ i v, vs[i]? = some v → (L2.start N vs)[i]? = some (some v) := fun i v hv => by
      have hi : i < vs.length := (List.getElem?_eq_some_iff.mp hv).1
      unfold L2.start
      rw [List.getElem?_append_left (by rw [List.length_map]; exact hi), List.getElem?_map, hv]
      rfl
    have rf : RF K O H [] (L2.start N vs) H (start0 bs ds ++ List.replicate (N.length - ds.length) Sl.no) := by
      refine ⟨O, fun _ => 0, ?_, al, fun i d hd => ?_, fun i es hd => ?_, fun i d hd => ?_, fun i j es es' hd => ?_, (fun g hg => by cases hg), Same.refl H, (fun a ha => ha), (fun a ha => .inl ha)⟩
      · unfold L2.start
        rw [List.length_append, List.length_append, List.length_map, List.length_replicate, List.length_replicate, e0, ← ha.len]
      · rcases app_no hd with z | z
        · cases z
        · obtain ⟨v, hv, hdr⟩ := start_val ha z
          exact ⟨v, hst i v hv, hdr⟩
      · rcases app_no hd with z | z
        · cases z
        · exact absurd z start_own
      · rcases app_no hd with z | z
        · cases z
        · obtain ⟨v, hv, hdr⟩ := start_bor ha z
          exact ⟨v, hst i v hv, hdr⟩
      · rcases app_no hd with z | z
        · cases z
        · exact absurd z start_own
    split at hf
    · rename_i d' he
      cases hf
      exact h2 O H [] _ H _ _ _ rf he fun v H' s hv => q v H' s hv
    · rename_i env' he
      cases hf
      refine h2 O H [] _ H _ _ _ rf he fun σ' H' r' => ?_
      obtain ⟨O', oa', r'⟩ := r'
      exact q _ H' r'.ext .non
    · cases hf
  · cases hf
def endsB (kd : Nat) (Φ : Nat → List D → Option D) : En → Option Fl
  | [.val a, .val w, .val m, .no, .no] => (endsF kd Φ [a, w, m]).map .rt
  | _ => none
theorem plain5 {a w m : D} {s : Sl} (hs : (∃ d, s = .val d) ∨ s = .no) : plainE [.val a, .val w, .val m, .no, s] := by
  intro i t h
  match i, h with
  | 0, h => cases h; exact .inl ⟨_, rfl⟩
  | 1, h => cases h; exact .inl ⟨_, rfl⟩
  | 2, h => cases h; exact .inl ⟨_, rfl⟩
  | 3, h => cases h; exact .inr rfl
  | 4, h => cases h; exact hs
  | n + 5, h => cases h
theorem sort_same {ys ks xs : List Int} (h1 : ys.Perm ks) (h2 : ys.Pairwise (· ≤ ·)) (nd : ks.Nodup) (hm : ∀ y, y ∈ ks ↔ y ∈ xs) : ys = sortI (undupI xs) := by
  refine sorted_uniq _ _ ?_ h2 (sortI_sorted _)
  refine (h1.trans ((List.perm_ext_iff_of_nodup nd (undupI_nodup xs)).mpr fun x => ?_)).trans (sortI_perm _).symm
  rw [hm, undupI_mem]

def endsChk (R : Rw) (N : List Str) (sc : Scope) (kd : Nat) : List Stmt → Bool
  | [.Assign [.Name x1 p1] (.Dict [some e1] [v1] _) _, .For tg iter [.Assign [.Subscript (.Name x2 _) e3 _] v2 _] [] _, .Return (some (.Call (.Name tu _) [.Call (.Name so _) [.Name x3 _] [] _] [] _)) _] =>
    decide (trN N sc true (.Name x1 p1) = some 3) && (decide (trE R N 40 sc false e1 = some ieA) && (decide (trE R N 40 sc false v1 = some (.cb true)) && (decide (trT N sc true tg = some [4]) && (decide (trI R (trE R N 40) sc tg iter = some (.rg (.ci 0) ieB))
    && (visB sc x2 && (decide (idx N x2 0 = some 3) && (decide (trE R N 40 sc false e3 = some (ieC kd)) && (decide (trE R N 40 sc false v2 = some (.cb true)) && (notComp v2 && (decide (tu = "tuple") && (decide (so = "sorted") && (decide (("tuple" : Str) ∈ R.frs) && (decide (("sorted" : Str) ∈ R.frs)
    && (glB sc "tuple" && (glB sc "sorted" && (visB sc x3 && decide (idx N x3 0 = some 3)))))))))))))))))
  | _ => false
theorem putK_one {x : Int} : mergeK [] [((Sum.inl x : Key), V.bl true)] = [(Sum.inl x, V.bl true)] := rfl
theorem ends_ss {C : Fam} {R : Rw} {N : List Str} {Φ : Nat → List D → Option D} {kd : Nat} {body : List Stmt} (hN : C.N = N) (hR : R.ok Φ C) (htop : C.top = true) (h : endsChk R N C.sc kd body = true) : SS C body (endsB kd Φ) := by
  subst hN
  unfold endsChk at h
  split at h
  · rename_i x1 p1 e1 v1 p2 p3 tg iter x2 p5 e3 p6 v2 p7 p8 tu p9 so p10 x3 p11 p12 p13 p14
    simp only [Bool.and_eq_true, decide_eq_true_eq] at h
    obtain ⟨c1, c2, c3, c4, c5, c6, c7, c8, c9, c10, rfl, rfl, c13, c14, c15, c16, c17, c18⟩ := h
    have nd := hR.nd
    have T1 : TgN C (.Name x1 p1) 3 := trN_ok (by rw [htop]; exact c1)
    have T4 : TgOk C tg [4] := trT_ok (by rw [htop]; exact c4)
    have S := trE_ok R C.N Φ 40
    have G1 := (S C rfl hR false e1 _ c2)
    have Gv1 := (S C rfl hR false v1 _ c3)
    have G3 := (S C rfl hR false e3 _ c8)
    have Gv2 := (S C rfl hR false v2 _ c9)
    obtain ⟨GI, pI⟩ := trI_ok S rfl hR c5
    obtain ⟨t1, a1, b1⟩ := G1.se rfl
    obtain ⟨tv, av, bv⟩ := Gv1.se rfl
    obtain ⟨t3, a3, b3⟩ := G3.se rfl
    obtain ⟨tw, aw, bw⟩ := Gv2.se rfl
    obtain ⟨wi, ai, bi⟩ := GI
    obtain ⟨l1, l2⟩ := visB_ok c6
    obtain ⟨m1, m2⟩ := visB_ok c17
    obtain ⟨g1, g2⟩ := glB_ok c15
    obtain ⟨g3, g4⟩ := glB_ok c16
    refine ⟨tSeq (tAsg (tDisp [(t1, tv)]) (gName 3)) (tSeq (tFor wi (tgG C.K [4]) (tSeq (sDPut (tVar 3) t3 tw) tNext)) (tSeq (tRet (tCB (fun xs H Q => ∃ p ys, xs = [.ref p] ∧ ((SqL C.K H p ys ∧ ∀ l, H l = none → Q (.ref l) (upd H l (.tup ys))) ∨ (SqT C.K H p ys ∧ Q (.ref p) H)))
      (tCons (tCB (fun xs H Q => ∃ (a : Addr) (kvs : List (Key × V)) (ks : List Int), xs = [.ref a] ∧ Rd H a (.dK kvs) ∧ kvs.map (·.1) = ks.map Sum.inl ∧ ks.length < 64 ∧
    ∀ (ys : List Int) (p : Addr), ys.Perm ks → ys.Pairwise (· ≤ ·) → H p = none → Q (.ref p) (upd H p (.lst (ys.map V.int)))) (tCons (tVar 3) tNil)) tNil))) tNext)), fun X hX => ?_, fun O0 H0 G σ H env Dn fl r hf q => ?_⟩
    · refine pss_cons (T1.set nd hX (pe_disp (pps_cons (a1 X hX) (av X hX) pps_nil) rfl rfl (by simp) (by simp)) rfl) (pss_cons (ps_for (by rw [hX.xe]; exact PassesOwn.never) hX.calm (ai X hX) (T4.pg nd hX) (pss_cons (ps_dput ?_ (pe_var (by rw [hX.hN]; exact idx_get c7) (by rw [hX.hsc]; exact l1) l2.1 l2.2) (a3 X hX) (aw X hX) (sw_no c10)) pss_nil) (nofold pI)) (pss_cons (ps_ret ?_) pss_nil))
      · have := hX.hu; omega
      · rw [← hX.hK]
        exact pe_callTy call_tuple_of (show X.env.scope.names.lookup ("tuple" : Str) = _ by rw [hX.hsc]; exact g1) (by rw [hX.hmg]; exact hR.fr _ c13) (by decide +kernel)
          (pa_cons (pe_callB (call_sortedDI hX.calm) (show X.env.scope.names.lookup ("sorted" : Str) = _ by rw [hX.hsc]; exact g3) (by rw [hX.hmg]; exact hR.fr _ c14) (by decide +kernel) (pa_cons (pe_var (by rw [hX.hN]; exact idx_get c18) (by rw [hX.hsc]; exact m1) m2.1 m2.2) pa_nil rfl) (by decide) (by decide) rfl rfl) pa_nil rfl) (by decide) (by decide) rfl rfl
    · unfold endsB at hf
      split at hf
      · rename_i a w m
        obtain ⟨d, hd, efl⟩ := Option.map_eq_some_iff.mp hf
        subst efl
        unfold endsF at hd
        dsimp only at hd
        split at hd
        · rename_i x hx
          split at hd
          · rename_i rs hrs
            split at hd
            · rename_i hl
              obtain ⟨xs, hxs, ed⟩ := Option.map_eq_some_iff.mp hd
              subst ed
              obtain ⟨O, oa, r⟩ := r
              have pl := plain5 (a := a) (w := w) (m := m) (s := .no) (.inr rfl)
              -- the dict is made
              intro p hp
              have re0 := r.re.addO (p := p) (H' := upd H p (.dK [])) pl (same_upd hp) hp (by rw [upd_same]; rfl)
              refine b1 (p :: O) σ _ _ _ _ re0 hx fun v1' H1 s1 hv1 => ?_
              have re1 := re0.mono s1
              refine bv (p :: O) σ H1 _ _ (.bool true) re1 (by simp only [evE]) fun v2' H2 s2 hv2 => ?_
              cases hv1
              cases hv2
              have hp2 : H2 p = some (.dK []) := s2.at (s1.at upd_same)
              refine ⟨hp2, [(Sum.inl x, V.bl true)], rfl, by simp, ?_⟩
              rw [putK_one]
              have hp0 : H0 p = none := r.ext.free hp
              have pO : p ∈ p :: O := List.mem_cons_self
              have re2 := ((re1.mono s2).put (o := .dK [(Sum.inl x, V.bl true)]) pl pO rfl (by rw [hp2]; rfl)).setN (i := 3) (x := some (.ref p)) pl rfl
              have sm : Same H0 (upd H2 p (.dK [(Sum.inl x, V.bl true)])) := (((r.ext.trans (same_upd hp)).trans s1).trans s2).upd hp0 (by rw [hp2]; rfl)
              have h3 : (σ.set 3 (some (.ref p)))[3]? = some (some (.ref p)) := List.getElem?_set_self (by rw [r.len]; exact (by decide : 3 < 5))
              have re2' : Re C.K (p :: O) (σ.set 3 (some (.ref p))) (upd H2 p (.dK [(Sum.inl x, V.bl true)])) [.val a, .val w, .val m, .no, .no] := re2
              refine bi (p :: O) _ _ _ _ rs re2' hrs fun J H4 GJ s4 hJ hG => ?_
              refine ⟨fun i mm σ' H' => mm = rs.length - i ∧ i ≤ rs.length ∧ ∃ s4 ks kvs ys, ((∃ d, s4 = Sl.val d) ∨ s4 = .no) ∧ Re C.K (p :: O) σ' H' [.val a, .val w, .val m, .no, s4] ∧ (∀ g ∈ GJ, Dr C.K (mi H' (p :: O)) g.1 g.2) ∧ σ'[3]? = some (some (.ref p)) ∧ H' p = some (.dK kvs) ∧
                kvs.map (·.1) = (ks : List Int).map Sum.inl ∧ ks.Nodup ∧ ks.length ≤ i + 1 ∧ drawsF kd Φ a w m (rs.drop i) = some ys ∧ (∀ y, (y ∈ ks ∨ y ∈ ys) ↔ y ∈ x :: xs) ∧ Same H0 H', ⟨rs.length, rfl, Nat.zero_le _, .no, [x], _, xs, .inr rfl, re2'.mono s4, hG, h3, s4.at upd_same, rfl, by simp, by simp, hxs, by simp, sm.trans s4⟩, fun i mm σ' H' hW => ?_⟩
              obtain ⟨em, hil, sl, ks, kvs, ys, hsl, re', hg', h3', hk', hks, hnd, hkl, hys, hmem, sm'⟩ := hW
              obtain ⟨j1, j2⟩ := hJ (p :: O) H' re'.al hg' i
              by_cases hin : i < rs.length
              · refine .inr ?_
                obtain ⟨hgo, hy⟩ := j1 _ (List.getElem?_eq_getElem hin)
                rw [List.drop_eq_getElem_cons hin] at hys
                unfold drawsF at hys
                split at hys
                · rename_i z hz
                  obtain ⟨ys', hys', ey⟩ := Option.map_eq_some_iff.mp hys
                  subst ey
                  refine ⟨hgo, fun σ2 H2 => ∃ m', m' < mm ∧ (m' = rs.length - (i + 1) ∧ i + 1 ≤ rs.length ∧ ∃ s4 ks kvs ys, ((∃ d, s4 = Sl.val d) ∨ s4 = .no) ∧ Re C.K (p :: O) σ2 H2 [.val a, .val w, .val m, .no, s4] ∧ (∀ g ∈ GJ, Dr C.K (mi H2 (p :: O)) g.1 g.2) ∧ σ2[3]? = some (some (.ref p)) ∧ H2 p = some (.dK kvs) ∧
                    kvs.map (·.1) = (ks : List Int).map Sum.inl ∧ ks.Nodup ∧ ks.length ≤ i + 1 + 1 ∧ drawsF kd Φ a w m (rs.drop (i + 1)) = some ys ∧ (∀ y, (y ∈ ks ∨ y ∈ ys) ↔ y ∈ x :: xs) ∧ Same H0 H2), fun _ _ h => h, fun v H5 hv5 => ?_⟩
                  obtain ⟨s5, hxd⟩ := hy v H5 hv5
                  refine tgG_run (O := p :: O) (Pr := fun σ2 e' => Re C.K (p :: O) σ2 H5 e' ∧ plainE e' ∧ σ2[3]? = some (some (.ref p))) (fun σ2 e' i' v' d' hi' hp hv' => ⟨hp.1.setV hp.2.1 hv', fun j t ht => ?_, ?_⟩) (env := [.val a, .val w, .val m, .no, sl]) ⟨re'.mono s5, plain5 hsl, h3'⟩ hxd rfl fun σ2 hp2 => ?_
                  · rcases get_set ht with ⟨_, e1, _⟩ | ⟨_, q⟩
                    · exact .inl ⟨_, e1⟩
                    · exact hp.2.1 j t q
                  · have : i' = 4 := by simpa using hi'
                    subst this
                    rw [List.getElem?_set_ne (by decide)]
                    exact hp.2.2
                  obtain ⟨re5, _, h35⟩ := hp2
                  have re5 : Re C.K (p :: O) σ2 H5 [.val a, .val w, .val m, .no, .val rs[i]] := re5
                  refine bw (p :: O) σ2 H5 _ _ (.bool true) re5 (by simp only [evE]) fun v6 H6 s6 hv6 => ?_
                  cases hv6
                  refine ⟨.ref p, h35, ?_⟩
                  refine b3 (p :: O) σ2 H6 _ _ _ (re5.mono s6) hz fun v7 H7 s7 hv7 => ?_
                  cases hv7
                  have hk7 : H7 p = some (.dK kvs) := s7.at (s6.at (s5.at hk'))
                  have hlk : kvs.length = ks.length := by
                    have e := congrArg List.length hks
                    rw [List.length_map, List.length_map] at e
                    exact e
                  refine ⟨p, _, rfl, DPut.k (k := Sum.inl z) hk7 (by rw [hlk, sizeLine_eq]; omega), ?_⟩
                  obtain ⟨ks', q1, q2, q3, q4⟩ := putK_keys (x := z) (v := V.bl true) hks hnd
                  refine ⟨_, by omega, rfl, hin, _, ks', _, ys', .inl ⟨_, rfl⟩, ((re5.mono s6).mono s7).put (plain5 (.inl ⟨_, rfl⟩)) pO rfl (by rw [hk7]; rfl), fun g hg => ?_, h35, upd_same, q1, q2, by omega, hys', fun y => ?_, ?_⟩
                  · rw [mi_mut pO]
                    exact Dr.mono (mi_same ((s5.trans s6).trans s7)) _ (hg' g hg)
                  · rw [q3, ← hmem, List.mem_cons, or_assoc]
                  · exact (sm'.trans ((s5.trans s6).trans s7)).upd hp0 (by rw [hk7]; rfl)
                · cases hys
              · refine .inl ⟨j2 (by omega), ?_⟩
                have ei : i = rs.length := by omega
                rw [ei, List.drop_length] at hys
                cases hys
                refine ⟨.ref p, h3', p, kvs, ks, rfl, .inl hk', hks, by omega, fun zs l hpm hso hl' => ⟨l, zs.map V.int, rfl, .inl ⟨.inl (.inl upd_same), fun l2 hl2 => ?_⟩⟩⟩
                have ez : zs = sortI (undupI (x :: xs)) := sort_same hpm hso hnd fun y => by rw [← hmem]; simp
                subst ez
                have s8 : Same H' (upd H' l (.lst ((sortI (undupI (x :: xs))).map V.int))) := same_upd hl'
                have s9 := s8.trans (same_upd (o := .tup ((sortI (undupI (x :: xs))).map V.int)) hl2)
                refine q _ _ (sm'.trans s9) (.tup (xs := (sortI (undupI (x :: xs))).map V.int) ?_ (DrA.ints _))
                rw [mi_out fun z => re'.al.out (s8.free hl2) (List.mem_cons_of_mem _ (r.sub _ z)), upd_same]; rfl
            · cases hd
          · cases hd
        · cases hd
      · cases hf
  · cases h

theorem ends_ok {P : Program} {w : World} {K : PySem.W.Frag} {mg : Str → Option Value} {base : Heap} {R : Rw} {tab : Nat → Option Fd} {ext : Nat → (Nat → List D → Option D) → List D → Option D} {x : Str} {k kd : Nat} {params : Arguments} {body : List Stmt} {scope : Scope} {f : Addr} {fd : FuncData} {N ps : List Str}
    (hF : FunD K x x params body scope [] [] f fd) (hm : mg x = some (.ref f)) (hb : Binds K fd ps []) (S : FnScope N ps scope) (hk : tab k = none) (hx : ∀ Φ, ext k Φ = endsF kd Φ) (hN : N.length = 5) (hps : ps.length = 3) (hc : endsChk R N scope kd body = true) :
    DefOk P w K mg base R tab ext (x, k, [false, false, false]) := by
  refine ⟨f, fd, ps, hm, hF.kp, hb, fun n Φ hR => ?_⟩
  have e1 : stepP tab ext Φ k = endsF kd Φ := by unfold stepP; rw [hk]; exact hx Φ
  show FnOk P w K mg base CX0 (n + 1) f fd ps (spF K [false, false, false] (stepP tab ext Φ k))
  rw [e1]
  have := fn_okS (bs := [false, false, false]) (n := n) hF S (ends_ss (C := ⟨P, w, K, mg, base, N, scope, n, true⟩) rfl (hR N scope S.nd) rfl hc) hps.symm
  have e2 : (fun ds : List D => if ds.length = [false, false, false].length then (match endsB kd Φ (start0 [false, false, false] ds ++ List.replicate (N.length - ds.length) Sl.no) with
      | some (.rt d) => some d
      | some (.nx _) => some .none
      | none => none) else none) = endsF kd Φ := by
    funext ds
    match ds with
    | [] => rfl
    | [_] => rfl
    | [_, _] => rfl
    | [a, b, c] =>
      rw [if_pos (show [a, b, c].length = [false, false, false].length from rfl), hN]
      show (match (endsF kd Φ [a, b, c]).map Fl.rt with
        | some (.rt d) => some d
        | some (.nx _) => some .none
        | none => none) = _
      cases endsF kd Φ [a, b, c] <;> rfl
    | _ :: _ :: _ :: _ :: r => 
      rw [if_neg (by simp)]
      rfl
  exact e2 ▸ this
end J

/-! Defs that raise; a def that catches it. -/
namespace J
open PySem PySem.Spec PyProof.Rows L2
/-- what a def promises that raises: of the class at cn, where F says so -/
def spX (K : PySem.W.Frag) (bs : List Bool) (cn : Addr) (F : List D → Option D) : Sp := fun vs H _ E => ∃ O ds, Al K O H ∧ ArgR K O H bs vs ds ∧ F ds = some (.bool true) ∧ ∀ H', Same H H' → E (.ref cn) none H'
/-- a def that raises, for its callers -/
structure FnAtX (C : Fam) (x : Str) (bs : List Bool) (cn : Addr) (F : List D → Option D) : Prop where
  ex : ∃ f fd ps, C.mg x = some (.ref f) ∧ FnOk C.P C.w C.K C.mg C.base (L2.CX C.P C.w) C.n f fd ps (spX C.K bs cn F) ∧ PySem.W.keepIn C.K (.ref f) = true ∧ Binds C.K fd ps []
def refF (bs : List Bool) (Ψ : List D → Option D) (ds : List D) : Option D := if ds.length = bs.length then (match Ψ ds with
  | some (.bool true) => some (.bool true)
  | _ => none) else none
/-! ### read off the text -/
/-! ### all defs, and those that raise -/
structure DefOk2 (P : Program) (w : World) (K : PySem.W.Frag) (mg : Str → Option Value) (base : Heap) (R : Rw) (xs : List (Str × Nat × List Bool)) (cn : Addr) (tab : Nat → Option Fd) (ext : Nat → (Nat → List D → Option D) → List D → Option D) (p : Str × Nat × List Bool) : Prop where
  ex : ∃ f fd ps, mg p.1 = some (.ref f) ∧ PySem.W.keepIn K (.ref f) = true ∧ Binds K fd ps [] ∧
    ∀ n Φ, (∀ N sc, N.Nodup → R.ok Φ ⟨P, w, K, mg, base, N, sc, n, true⟩) → (∀ q ∈ xs, ∀ N sc, FnAtX ⟨P, w, K, mg, base, N, sc, n, true⟩ q.1 q.2.2 cn (Φ q.2.1)) → FnOk P w K mg base CX0 (n + 1) f fd ps (spF K p.2.2 (stepP tab ext Φ p.2.1))
section
variable {P : Program} {w : World} {K : PySem.W.Frag} {mg : Str → Option Value} {base : Heap} {R : Rw} {xs : List (Str × Nat × List Bool)} {cn : Addr} {tab : Nat → Option Fd} {ext : Nat → (Nat → List D → Option D) → List D → Option D}
theorem DefOk.two {p : Str × Nat × List Bool} (h : DefOk P w K mg base R tab ext p) : DefOk2 P w K mg base R xs cn tab ext p := by
  obtain ⟨f, fd, ps, h1, h2, h3, h4⟩ := h.ex
  exact ⟨f, fd, ps, h1, h2, h3, fun n Φ hR _ => h4 n Φ hR⟩
end
/-! ### the head: classes looked at, too -/
end J

/-! The class Grower, by hand: its object, its methods that change it. -/
namespace J
open PySem PySem.Spec PyProof.Rows L2
def objG (w e : D) (left : List D) (es : List (List Int × D)) (s : D) : D := obD [("web", w), ("ends", e), ("left", .list left), ("fences", dtD es), ("some", s)]
def fldsG (vw ve : V) (l d : Addr) (vs : V) : List (Str × V) := [("web", vw), ("ends", ve), ("left", .ref l), ("fences", .ref d), ("some", vs)]
structure ClG (K : PySem.W.Frag) (C : Addr) : Prop where
  cl : Cls K C
  n1 : NoAttr K C "web"
  n2 : NoAttr K C "ends"
  n3 : NoAttr K C "left"
  n4 : NoAttr K C "fences"
  n5 : NoAttr K C "some"
theorem lkW (vw ve : V) (l d : Addr) (vs : V) : (fldsG vw ve l d vs).lookup ("web" : Str) = some vw := by rfl
theorem lkE (vw ve : V) (l d : Addr) (vs : V) : (fldsG vw ve l d vs).lookup ("ends" : Str) = some ve := by rfl
theorem lkL (vw ve : V) (l d : Addr) (vs : V) : (fldsG vw ve l d vs).lookup ("left" : Str) = some (.ref l) := by rfl
theorem lkF (vw ve : V) (l d : Addr) (vs : V) : (fldsG vw ve l d vs).lookup ("fences" : Str) = some (.ref d) := by rfl
theorem lkS (vw ve : V) (l d : Addr) (vs : V) : (fldsG vw ve l d vs).lookup ("some" : Str) = some vs := by rfl
abbrev OG (x l d : Addr) (O0 : List Addr) : List Addr := x :: l :: d :: O0
/-- a Grower stands at x -/
structure GrAt (K : PySem.W.Frag) (C : Addr) (H : Hp) (O0 : List Addr) (x l d dx : Addr) (vw ve : V) (w e : D) (left : List D) (es : List (List Int × D)) (s : D) : Prop where
  al : Al K (OG x l d O0) H
  dw : Dr K (mi H (OG x l d O0)) vw w
  de : Dr K (mi H (OG x l d O0)) ve e
  ob : ∃ vs, H x = some (.ins C dx (fldsG vw ve l d vs)) ∧ Dr K (mi H (OG x l d O0)) vs s
  ls : ∃ us, H l = some (.lst us) ∧ DrA K (mi H (OG x l d O0)) us left
  ds : ∃ kvs, H d = some (.dT kvs) ∧ kvs.map (·.1) = es.map (fun p => p.1.map Sum.inl) ∧ DrA K (mi H (OG x l d O0)) (kvs.map (·.2)) (es.map (·.2))
section
variable {K : PySem.W.Frag} {C : Addr} {H H' : Hp} {O0 : List Addr} {x l d dx : Addr} {vw ve : V} {w e : D} {left left' : List D} {es es' : List (List Int × D)} {s s' : D}
theorem GrAt.tp (c : ClG K C) (g : GrAt K C H O0 x l d dx vw ve w e left es s) : Tp K (OG x l d O0) H (.ref x) (objG w e left es s) := by
  obtain ⟨vs, h1, h2⟩ := g.ob
  refine .inr (.inr (.inr ⟨x, C, dx, _, _, rfl, rfl, List.cons_ne_nil _ _, h1, c.cl, fun p hp => ?_⟩))
  simp only [List.mem_cons, List.not_mem_nil, or_false] at hp
  rcases hp with rfl | rfl | rfl | rfl | rfl
  · exact ⟨c.n1, vw, lkW .., .inl g.dw⟩
  · exact ⟨c.n2, ve, lkE .., .inl g.de⟩
  · obtain ⟨us, h3, h4⟩ := g.ls
    exact ⟨c.n3, _, lkL .., .inr (.inl ⟨l, us, _, rfl, rfl, h3, h4⟩)⟩
  · obtain ⟨kvs, h3, h4, h5⟩ := g.ds
    exact ⟨c.n4, _, lkF .., .inr (.inr ⟨d, kvs, es, rfl, rfl, h3, h4, h5⟩)⟩
  · exact ⟨c.n5, vs, lkS .., .inl h2⟩
theorem GrAt.mono (g : GrAt K C H O0 x l d dx vw ve w e left es s) (sm : Same H H') : GrAt K C H' O0 x l d dx vw ve w e left es s where
  al := g.al.mono sm
  dw := Dr.mono (mi_same sm) _ g.dw
  de := Dr.mono (mi_same sm) _ g.de
  ob := let ⟨vs, h1, h2⟩ := g.ob; ⟨vs, sm.at h1, Dr.mono (mi_same sm) _ h2⟩
  ls := let ⟨us, h1, h2⟩ := g.ls; ⟨us, sm.at h1, DrA.mono (mi_same sm) _ h2⟩
  ds := let ⟨kvs, h1, h2, h3⟩ := g.ds; ⟨kvs, sm.at h1, h2, DrA.mono (mi_same sm) _ h3⟩
theorem GrAt.ne (g : GrAt K C H O0 x l d dx vw ve w e left es s) : x ≠ l ∧ x ≠ d ∧ l ≠ d := by
  obtain ⟨vs, h1, _⟩ := g.ob
  obtain ⟨us, h2, _⟩ := g.ls
  obtain ⟨kvs, h3, _⟩ := g.ds
  exact ⟨ne_of h1 h2 (by intro z; cases z), ne_of h1 h3 (by intro z; cases z), ne_of h2 h3 (by intro z; cases z)⟩
end
/-- all but the object's own stays -/
structure SmX (x l d : Addr) (H H' : Hp) : Prop where
  ext : ∀ b o, b ≠ x → b ≠ l → b ≠ d → H b = some o → tbO o = false → H' b = some o
  tbs : ∀ b ps, H b = some (.tbl ps) → ∃ qs, H' b = some (.tbl qs)
  tab : ∀ b, LamX.TabS H b lamQ → LamX.TabS H' b lamQ
theorem SmX.refl {x l d : Addr} (H : Hp) : SmX x l d H H := ⟨fun _ _ _ _ _ h _ => h, fun _ ps h => ⟨ps, h⟩, fun _ t => t⟩
theorem SmX.then {x l d : Addr} {H H1 H2 : Hp} (a : SmX x l d H H1) (e : Same H1 H2) : SmX x l d H H2 := ⟨fun b o h1 h2 h3 h n => e.ext b o (a.ext b o h1 h2 h3 h n) n, fun b ps h => let ⟨_, z⟩ := a.tbs b ps h; e.tbs b _ z, fun b t => e.tab b (a.tab b t)⟩
theorem SmX.upd {x l d p : Addr} {o : HO} {H H1 : Hp} (a : SmX x l d H H1) (hp : p = x ∨ p = l ∨ p = d) (hw : okW (H1 p) = true) : SmX x l d H (upd H1 p o) where
  ext := fun b u h1 h2 h3 h n => by
    have hb : b ≠ p := fun z => by
      subst z
      rcases hp with e | e | e
      · exact h1 e
      · exact h2 e
      · exact h3 e
    rw [upd_ne hb]
    exact a.ext b u h1 h2 h3 h n
  tbs := fun b ps h => by
    obtain ⟨qs, z⟩ := a.tbs b ps h
    rw [upd_ne fun e => by rw [← e, z] at hw; cases hw]
    exact ⟨qs, z⟩
  tab := fun b t => tabS_upd (a.tab b t) hw
/-- a dict entry put -/
def putD (es : List (List Int × D)) (ns : List Int) (v : D) : List (List Int × D) := if es.any (fun p => decide (p.1 = ns)) then es.map (fun p => if p.1 = ns then (p.1, v) else p) else es ++ [(ns, v)]
/-! ### what grow does, by data -/
def ieBy : IE := .call 70 (.cons (.ix (.bv 2) (.ci 1)) (.cons (.tup (.cons (.ci 0) (.cons (.ci 1) .nil))) .nil))
def ieP : IE := .call 70 (.cons (.dget (.fld (.bv 0) (Str.ofString "fences")) (.bv 4) (.tup (.cons (.ci 0) (.cons (.ci 1) .nil)))) (.cons (.var 3) .nil))
def ieEn : IE := .enum (.ix (.fld (.bv 0) (Str.ofString "web")) (.ci 1))
def ieCnd : IE := .an (.cmp .IsNot (.ix (.fld (.bv 0) (Str.ofString "left")) (.bv 5)) .cn) (.cmp .NotEq (.cmp .In (.ix (.bv 6) (.ci 0)) (.bv 4)) (.cmp .In (.ix (.bv 6) (.ci 1)) (.bv 4)))
def ieM : IE := .call 126 (.cons (.ix (.fld (.bv 0) (Str.ofString "left")) (.bv 5)) (.cons (.var 3) .nil))
def ieSo : IE := .bi .tuple (.cons (.bi .sorted (.cons (.bin .Add (.fld (.bv 0) (Str.ofString "some")) (.tup (.cons (.ix (.bv 2) (.ci 0)) .nil))) .nil)) .nil)
section
variable (Φ : Nat → List D → Option D)
def tiesF (w e : D) (es : List (List Int × D)) (s sd fd by_ si : D) : List D → List D → Option (List D)
  | [], left => some left
  | .tuple [.int k, t] :: r, left => match testD (evE Φ ieCnd [.bor (objG w e left es s), .val sd, .val fd, .val by_, .val si, .val (.int k), .val t]) with
    | none => none
    | some false => tiesF w e es s sd fd by_ si r left
    | some true => match evE Φ ieM [.bor (objG w e left es s), .val sd, .val fd, .val by_, .val si, .val (.int k), .val t] with
      | none => none
      | some v => match ixN left.length k with
        | none => none
        | some j => tiesF w e es s sd fd by_ si r (left.set j v)
  | _ :: _, _ => none
def sidesF (w e s sd fd by_ : D) : List D → List D → List (List Int × D) → Option (List D × List (List Int × D))
  | [], left, es => some (left, es)
  | si :: r, left, es => match evE Φ ieP [.bor (objG w e left es s), .val sd, .val fd, .val by_, .val si, .no, .no] with
    | none => none
    | some v => match tupI si with
      | none => none
      | some ns => if es.length ≤ 1000 then (match evI Φ ieEn [.bor (objG w e left (putD es ns v) s), .val sd, .val fd, .val by_, .val si, .no, .no] with
        | none => none
        | some its => match tiesF Φ w e (putD es ns v) s sd fd by_ si its left with
          | none => none
          | some left' => sidesF w e s sd fd by_ r left' (putD es ns v)) else none
def growF (w e : D) (left : List D) (es : List (List Int × D)) (s : D) : Option (Option (List D × List (List Int × D) × D)) := match Φ 127 [objG w e left es s] with
  | some (.list ss) => match Φ 128 [objG w e left es s, .list ss] with
    | some fd => if isNoneD fd then some none else match evE Φ ieBy [.bor (objG w e left es s), .val (.list ss), .val fd, .no, .no, .no, .no] with
      | some by_ => match sidesF Φ w e s (.list ss) fd by_ ss left es with
        | some (left', es') => match evE Φ ieSo [.bor (objG w e left' es' s), .val (.list ss), .val fd, .val by_, .no, .no, .no] with
          | some s' => some (some (left', es', s'))
          | none => none
        | none => none
      | none => none
    | none => none
  | _ => none
end
def unG : D → Option (D × D × List D × List (List Int × D) × D)
  | .dict [(_, w), (_, e), (_, .list left), (_, f), (_, s)] => match undtD f with
    | some es => some (w, e, left, es, s)
    | none => none
  | _ => none
def growD (Φ : Nat → List D → Option D) : List D → Option D
  | [o] => match unG o with
    | some (w, e, left, es, s) => match growF Φ w e left es s with
      | some none => some (.tuple [.bool false, objG w e left es s])
      | some (some (left', es', s')) => some (.tuple [.bool true, objG w e left' es' s'])
      | none => none
    | none => none
  | _ => none
section
variable {K : PySem.W.Frag} {C : Addr} {H H' H0 : Hp} {O0 : List Addr} {x l d dx : Addr} {vw ve : V} {w e : D} {left left' : List D} {es es' : List (List Int × D)} {s s' : D} {σ : L2.St} {ss : List Sl}
/-- between two steps of a method -/
structure Wg (K : PySem.W.Frag) (C : Addr) (O0 : List Addr) (x l d dx : Addr) (vw ve : V) (w e : D) (H0 : Hp) (σ : L2.St) (H : Hp) (left : List D) (es : List (List Int × D)) (s : D) (ss : List Sl) : Prop where
  re : Re K (OG x l d O0) σ H (.bor (objG w e left es s) :: ss)
  pl : ∀ t ∈ ss, (∃ d, t = Sl.val d) ∨ t = .no
  h0 : σ[0]? = some (some (.ref x))
  gr : GrAt K C H O0 x l d dx vw ve w e left es s
  sm : SmX x l d H0 H
theorem Wg.mono (h : Wg K C O0 x l d dx vw ve w e H0 σ H left es s ss) (q : Same H H') : Wg K C O0 x l d dx vw ve w e H0 σ H' left es s ss :=
  ⟨h.re.mono q, h.pl, h.h0, h.gr.mono q, h.sm.then q⟩
theorem Wg.set (h : Wg K C O0 x l d dx vw ve w e H0 σ H left es s ss) {i : Nat} {v : V} {dv : D} (hv : Dr K (mi H (OG x l d O0)) v dv) : Wg K C O0 x l d dx vw ve w e H0 (σ.set (i + 1) (some v)) H left es s (ss.set i (.val dv)) :=
  ⟨h.re.set (i := i + 1) hv, fun t ht => by
    rcases List.mem_or_eq_of_mem_set ht with z | z
    · exact h.pl t z
    · exact .inl ⟨_, z⟩, by rw [List.getElem?_set_ne (by omega)]; exact h.h0, h.gr, h.sm⟩
end
section
variable {K : PySem.W.Frag} {C : Addr} {H H' H0 : Hp} {O0 : List Addr} {x l d dx : Addr} {vw ve : V} {w e : D} {left left' : List D} {es es' : List (List Int × D)} {s s' sd fd by_ si : D} {σ : L2.St} {ss : List Sl} {Φ : Nat → List D → Option D}
theorem Wg.start (c : ClG K C) (g : GrAt K C H O0 x l d dx vw ve w e left es s) (h0 : σ[0]? = some (some (.ref x))) {n : Nat} (hl : σ.length = n + 1) : Wg K C O0 x l d dx vw ve w e H σ H left es s (List.replicate n .no) where
  re := {
    len := by rw [hl, List.length_cons, List.length_replicate]
    al := g.al
    val := fun i d q => by
      cases i with
      | zero => cases q
      | succ i => have := List.mem_of_getElem? (show (List.replicate n Sl.no)[i]? = some (Sl.val d) by simpa using q); cases List.eq_of_mem_replicate this
    own := fun i d q => by
      cases i with
      | zero => cases q
      | succ i => have := List.mem_of_getElem? (show (List.replicate n Sl.no)[i]? = some (Sl.own d) by simpa using q); cases List.eq_of_mem_replicate this
    bor := fun i d q => by
      cases i with
      | zero => cases q; exact ⟨_, h0, g.tp c⟩
      | succ i => have := List.mem_of_getElem? (show (List.replicate n Sl.no)[i]? = some (Sl.bor d) by simpa using q); cases List.eq_of_mem_replicate this }
  pl := fun t ht => .inr (List.eq_of_mem_replicate ht)
  h0 := h0
  gr := g
  sm := SmX.refl _
end
end J

/-! The class Grower, by hand: how it is made; the def that uses it. -/
namespace J
open PySem PySem.Spec PyProof.Rows L2
def leftOf (d : D) : D := if isNoneD d then .none else .tuple [d, .int 1]
def initD : List D → Option D
  | [w, e, .list ps] => if ps.length ≤ 1000 then some (objG w e (ps.map leftOf) [] (.tuple [])) else none
  | _ => none
end J

/-! The def that uses a Grower; rows with this class. -/
namespace J
open PySem PySem.Spec PyProof.Rows L2
def ieJ : IE := .nt (.call 20 (.cons (.var 0) (.cons (.flds (.bv 3) (Str.ofString "some")) (.cons (.var 1) .nil))))
def loopF (Φ : Nat → List D → Option D) (w e p : D) : Nat → List D → List (List Int × D) → D → Option (Option (List D × List (List Int × D) × D))
  | 0, _, _, _ => none
  | n + 1, left, es, s => match evE Φ ieJ [.val w, .val e, .val p, .bor (objG w e left es s)] with
    | some (.bool false) => some (some (left, es, s))
    | some (.bool true) => match Φ 130 [objG w e left es s] with
      | some (.tuple [.bool false, _]) => some none
      | some (.tuple [.bool true, o]) => match unG o with
        | some (_, _, left', es', s') => loopF Φ w e p n left' es' s'
        | none => none
      | _ => none
    | _ => none
def grownF (Φ : Nat → List D → Option D) : List D → Option D
  | [w, e, p] => match Φ 131 [w, e, p] with
    | none => none
    | some o => match unG o with
      | none => none
      | some (_, _, left, es, s) => match loopF Φ w e p 200 left es s with
        | none => none
        | some none => some .none
        | some (some (left', es', s')) => match Φ 129 [objG w e left' es' s'] with
          | none => none
          | some fs => some (.tuple [s', fs])
  | _ => none
end J

/-! Rows with the class Grower: all defs, by fuel. -/
namespace J
open PySem PySem.Spec PyProof.Rows L2
structure DefOkE (P : Program) (w : World) (K : PySem.W.Frag) (mg : Str → Option Value) (base : Heap) (R : Rw) (E : Nat → (Nat → List D → Option D) → Prop) (tab : Nat → Option Fd) (ext : Nat → (Nat → List D → Option D) → List D → Option D) (p : Str × Nat × List Bool) : Prop where
  ex : ∃ f fd ps, mg p.1 = some (.ref f) ∧ PySem.W.keepIn K (.ref f) = true ∧ Binds K fd ps [] ∧
    ∀ n Φ, (∀ N sc, N.Nodup → R.ok Φ ⟨P, w, K, mg, base, N, sc, n, true⟩) → E n Φ → FnOk P w K mg base CX0 (n + 1) f fd ps (spF K p.2.2 (stepP tab ext Φ p.2.1))
section
variable {P : Program} {w : World} {K : PySem.W.Frag} {mg : Str → Option Value} {base : Heap} {R : Rw} {E : Nat → (Nat → List D → Option D) → Prop} {tab : Nat → Option Fd} {ext : Nat → (Nat → List D → Option D) → List D → Option D}
theorem DefOk.e {p : Str × Nat × List Bool} (h : DefOk P w K mg base R tab ext p) : DefOkE P w K mg base R E tab ext p := by
  obtain ⟨f, fd, ps, h1, h2, h3, h4⟩ := h.ex
  exact ⟨f, fd, ps, h1, h2, h3, fun n Φ hR _ => h4 n Φ hR⟩
theorem all_okE (hd : ∀ p ∈ R.fns, DefOkE P w K mg base R E tab ext p) (hfr : ∀ x ∈ R.frs, mg x = none)
    (hcs : ∀ p ∈ R.cst, ∃ v u d, mg p.1 = some u ∧ L2.RelV v u ∧ (∀ H, Dr K H v d) ∧ ∀ Φ env, evE Φ p.2 env = some d) (h0 : E 0 (Phi tab ext 0))
    (hs : ∀ n, (∀ j, j ≤ n → ∀ (N : List Str) (sc : Scope), N.Nodup → R.ok (Phi tab ext j) ⟨P, w, K, mg, base, N, sc, j, true⟩) → E n (Phi tab ext n) → E (n + 1) (Phi tab ext (n + 1))) :
    ∀ (n : Nat), (∀ j, j ≤ n → ∀ (N : List Str) (sc : Scope), N.Nodup → R.ok (Phi tab ext j) ⟨P, w, K, mg, base, N, sc, j, true⟩) ∧ E n (Phi tab ext n) := by
  intro n
  induction n with
  | zero =>
    refine ⟨fun j hj N sc nd => ?_, h0⟩
    obtain rfl : j = 0 := by omega
    refine ⟨nd, fun p hp => ?_, hfr, fun p hp => ?_⟩
    · obtain ⟨f, fd, ps, h1, h2, h3, h4⟩ := (hd p hp).ex
      refine ⟨f, fd, ps, h1, ⟨fun vs H Q E h => ?_, fun A outer s H args us vs Q E _ _ _ _ h => ?_⟩, h2, h3⟩
      · obtain ⟨_, _, _, _, _, z, _⟩ := h; cases z
      · obtain ⟨_, _, _, _, _, z, _⟩ := h; cases z
    · obtain ⟨v, u, d, h1, h2, h3, h4⟩ := hcs p hp
      exact ⟨v, u, d, h1, h2, h3, h4 _⟩
  | succ n ih =>
    refine ⟨fun j hj N sc nd => ?_, hs n ih.1 ih.2⟩
    by_cases hjn : j ≤ n
    · exact ih.1 j hjn N sc nd
    obtain rfl : j = n + 1 := by omega
    refine ⟨nd, fun p hp => ?_, hfr, fun p hp => ?_⟩
    · obtain ⟨f, fd, ps, h1, h2, h3, h4⟩ := (hd p hp).ex
      exact ⟨f, fd, ps, h1, h4 n _ (ih.1 n (Nat.le_refl n)) ih.2, h2, h3⟩
    · obtain ⟨v, u, d, h1, h2, h3, h4⟩ := hcs p hp
      exact ⟨v, u, d, h1, h2, h3, h4 _⟩
/-- a method that the little language serves -/
structure MtOk (K : PySem.W.Frag) (R : Rw) (Cl : Addr) (m : Str) (F : Fd) (np : Nat) : Prop where
  ex : ∃ y params body scope f fd N ps ow, FunD K m y params body scope [] [] f fd ∧ Meth K Cl m f ∧ Binds K fd ps [] ∧ FnScope N ps scope ∧ ps.length = np ∧ F.slots = N.length ∧ F.bs.length = ps.length ∧ blk (trS R N (trE R N 40) scope ow 40) N ow body = some F.body
theorem MtOk.ok {Cl : Addr} {m : Str} {F : Fd} {np n : Nat} {Φ : Nat → List D → Option D} (h : MtOk K R Cl m F np) (hR : ∀ N sc, N.Nodup → R.ok Φ ⟨P, w, K, mg, base, N, sc, n, true⟩) : ∃ f fd ps, Meth K Cl m f ∧ FnOk P w K mg base CX0 (n + 1) f fd ps (spF K F.bs (evF Φ F)) ∧ Binds K fd ps [] := by
  obtain ⟨y, params, body, scope, f, fd, N, ps, ow, hF, hm, hb, S, _, hsl, hbs, htr⟩ := h.ex
  exact ⟨f, fd, ps, hm, fn_ok hF S (hR N scope S.nd) htr hsl hbs, hb⟩
end
end J

/-! Rows with the class Grower and with defs that raise. -/
namespace J
open PySem PySem.Spec PyProof.Rows L2
def ExX (P : Program) (w : World) (K : PySem.W.Frag) (mg : Str → Option Value) (base : Heap) (xs : List (Str × Nat × List Bool)) (cn : Addr) (n : Nat) (Φ : Nat → List D → Option D) : Prop := ∀ q ∈ xs, ∀ N sc, FnAtX ⟨P, w, K, mg, base, N, sc, n, true⟩ q.1 q.2.2 cn (Φ q.2.1)
section
variable {P : Program} {w : World} {K : PySem.W.Frag} {mg : Str → Option Value} {base : Heap} {R : Rw} {E E' : Nat → (Nat → List D → Option D) → Prop} {tab : Nat → Option Fd} {ext : Nat → (Nat → List D → Option D) → List D → Option D} {xs : List (Str × Nat × List Bool)} {cn : Addr} {p : Str × Nat × List Bool}
theorem DefOkE.mono (h : DefOkE P w K mg base R E tab ext p) (hE : ∀ n Φ, E' n Φ → E n Φ) : DefOkE P w K mg base R E' tab ext p := by
  obtain ⟨f, fd, ps, h1, h2, h3, h4⟩ := h.ex
  exact ⟨f, fd, ps, h1, h2, h3, fun n Φ hR e => h4 n Φ hR (hE n Φ e)⟩
theorem DefOk2.e (h : DefOk2 P w K mg base R xs cn tab ext p) : DefOkE P w K mg base R (fun n Φ => E n Φ ∧ ExX P w K mg base xs cn n Φ) tab ext p := by
  obtain ⟨f, fd, ps, h1, h2, h3, h4⟩ := h.ex
  exact ⟨f, fd, ps, h1, h2, h3, fun n Φ hR e => h4 n Φ hR e.2⟩
end
end J

/-! A lambda with one parameter that is handed to a def, which hands it on to itself. -/
namespace J
open PySem PySem.Spec PyProof.Rows L2
/-! ### the making -/
theorem lam_make3 {X : Cx} {pins : List (Addr × Obj)} {σ : L2.St} {H : Hp} {s : Shared} {c tP : Addr} {params : Arguments} {body : Expr} {scope : Scope} {pos : Pos} {E : Value → Shared → Prop} {Q : Value → Shared → Prop}
    (I : Inv X pins σ H s) (TB : LamX.TabB X.base X.mg c tP) (hcode : X.env.code = .ref c) (hq : X.env.qual ++ "<lambda>" = lamQ) (hT : LamX.TabS H tP lamQ) (hdef : defaultsOf params X.env = ([], [])) (hfree : ∀ y ∈ scope.names, y.2 = .free → ∃ c, X.env.cells.lookup y.1 = some c)
    (h : ∀ (f cd : Addr) (pm ctv : Value) (H1 : Hp) (s1 : Shared), Inv X pins σ H1 s1 → Same H H1 → s1.heap.get? f = some (PySem.W.kla_obj "<lambda>" lamQ params body scope (cloFrom X.env.cells scope.names []) pm cd ctv) → H1 f = none → f ∉ frs X.stack → H1 cd = some (LamX.CodeO cd lamQ) → Q (.ref f) s1) :
    wpAny (model X.prog X.w) X.A (eval (.Lambda params body scope pos) X.env) Q E s := by
  obtain ⟨ps, t1, t2, t3⟩ := hT
  refine PySem.W.kla_eval hdef ?_
  rw [hq]
  have hb1 : s.heap.BuiltinsAt X.mg tP := TB.bm.keeps I.bk
  have ht1 : s.heap.get? tP = some { cls := .none, data := .fields ps } := I.hok tP _ t1
  have hnew : ∀ f, s.heap.objs.size ≤ f → f ∉ frs X.stack := fun f hf hz => by
    rcases List.mem_cons.mp (I.stkSub f hz) with e | e
    · rw [e] at hf
      exact Nat.lt_irrefl _ (Nat.lt_of_lt_of_le I.lt hf)
    · exact I.nofs hf e
  cases hc : codeAmong pos ps.toList with
  | none =>
    refine PySem.W.kla_makeFunction (mg := X.mg) (c := c) (P := tP) (ps := ps) (closure_ok hfree) I.ok.glob (I.mod.glob.keeps I.bk) hcode (TB.code.keeps I.bk) ht1 t2 hc TB.gP hb1 fun cd ctv h1 tk hx hge hlt hrec htb => ?_
    obtain ⟨c2, oc, vs, t, ec, hoc, hd, hv⟩ := hrec
    cases ec
    have hle : s.heap.objs.size ≤ h1.objs.size := by omega
    have nC : H cd = none := I.hok.fresh hge
    have I1 := LamX.inv_table (t' := tk) (q := lamQ) (more := #[rawInt pos.line, rawInt pos.col, .ref cd]) (h' := h1.push (PySem.W.kla_obj "<lambda>" lamQ params body scope (cloFrom X.env.cells scope.names []) ((X.mg "__name__").getD .none) cd ctv)) I t1
      (fun b o hb e => Heap.get?_push_of_some _ (hx b o hb e)) (Heap.get?_push_of_some _ htb) hge ⟨oc, vs, t, Heap.get?_push_of_some _ hoc, hd, hv⟩
    have el : (ps ++ #[rawInt pos.line, rawInt pos.col, .ref cd]).toList = ps.toList ++ [rawInt pos.line, rawInt pos.col, .ref cd] := by simp
    have nb : ∀ b u, H b = some u → b ≠ tP → (upd (upd H tP (.tbl (ps ++ #[rawInt pos.line, rawInt pos.col, .ref cd]))) cd (LamX.CodeO cd lamQ)) b = some u := fun b u e n => by rw [upd_ne (ne_of_none e nC), upd_ne n]; exact e
    have nP : (upd (upd H tP (.tbl (ps ++ #[rawInt pos.line, rawInt pos.col, .ref cd]))) cd (LamX.CodeO cd lamQ)) tP = some (.tbl (ps ++ #[rawInt pos.line, rawInt pos.col, .ref cd])) := by rw [upd_ne (ne_of_none t1 nC), upd_same]
    have hsm : Same H (upd (upd H tP (.tbl (ps ++ #[rawInt pos.line, rawInt pos.col, .ref cd]))) cd (LamX.CodeO cd lamQ)) := by
      refine ⟨fun b o e n => nb b o e fun z => ?_, fun b qs e => ?_, fun b tb => ?_⟩
      · rw [z, t1] at e; cases e; cases n
      · by_cases z : b = tP
        · rw [z]; exact ⟨_, nP⟩
        · exact ⟨qs, nb b _ e z⟩
      · obtain ⟨qs, a1, a2, a3⟩ := tb
        have code : ∀ {d : Addr}, H d = some (LamX.CodeO d lamQ) → (upd (upd H tP (.tbl (ps ++ #[rawInt pos.line, rawInt pos.col, .ref cd]))) cd (LamX.CodeO cd lamQ)) d = some (LamX.CodeO d lamQ) := fun {d} e => nb d _ e fun z => by rw [z, t1] at e; cases e
        by_cases z : b = tP
        · subst z
          rw [t1] at a1
          cases a1
          refine ⟨_, nP, by rw [el]; exact PySem.TriplesOk_snoc _ _ _ _ a2, fun p' cv hcv => ?_⟩
          rw [el] at hcv
          rcases LamX.among_app _ a2 hcv with y | y
          · obtain ⟨c0, e1, e2⟩ := a3 p' cv y
            exact ⟨c0, e1, code e2⟩
          · exact ⟨cd, y, upd_same⟩
        · exact ⟨qs, nb b _ a1 z, a2, fun p' cv hcv => let ⟨c0, e1, e2⟩ := a3 p' cv hcv; ⟨c0, e1, code e2⟩⟩
    refine h h1.objs.size cd _ ctv _ _ I1 hsm (Heap.get?_push_size _ rfl) ?_ (hnew _ hle) upd_same
    have htl := Heap.lt_size ht1
    rw [upd_ne (show h1.objs.size ≠ cd by omega), upd_ne (Nat.ne_of_gt (Nat.lt_of_lt_of_le htl hle))]
    exact I.hok.fresh hle
  | some cv =>
    obtain ⟨cd, e, hco⟩ := t3 pos cv hc
    subst e
    refine PySem.W.kla_makeFunctionHit (mg := X.mg) (c := c) (P := tP) (ps := ps) (closure_ok hfree) I.ok.glob (I.mod.glob.keeps I.bk) hcode (TB.code.keeps I.bk) ht1 t2 hc hb1 fun ctv h1 tk hx hsz => ?_
    exact h h1.objs.size cd _ ctv H _ (I.kept fun b o e => Heap.get?_push_of_some _ (hx b o e)) (Same.refl H) (Heap.get?_push_size _ rfl) (I.hok.fresh hsz) (hnew _ hsz) hco
/-! ### the call -/
structure LamB (scope : Scope) : Prop where
  kind : scope.kind = .function
  co : scope.isCoroutine = false
  gen : scope.isGenerator = false
  own : ∀ y ∈ scope.names, y.2 ≠ .cell
  par : scope.names.lookup ("bent_part" : Str) = some .local
  fre : ∀ y ∈ scope.names, y.2 = .free → y.1 = ("number" : Str)
  num : scope.names.lookup ("number" : Str) = some .free
  clo : (scope.names.filter fun y => y.2 == .free) = [(("number" : Str), .free)]
theorem clo_gen {cells : List (Str × Addr)} : ∀ (l : List (Str × NameKind)) (acc : List (Str × Addr)), cloFrom cells l acc = ((l.filter fun y => y.2 == .free).map fun y => (y.1, (cells.lookup y.1).getD 0)).reverse ++ acc
  | [], acc => rfl
  | (n, k) :: r, acc => by
    unfold cloFrom
    by_cases h : (k == NameKind.free) = true
    · rw [if_pos h, clo_gen r, List.filter_cons, if_pos h, List.map_cons, List.reverse_cons, List.append_assoc]
      rfl
    · rw [if_neg h, clo_gen r, List.filter_cons, if_neg h]
theorem LamB.clos {scope : Scope} (B : LamB scope) {cells : List (Str × Addr)} {cc : Addr} (h : cells.lookup ("number" : Str) = some cc) : cloFrom cells scope.names [] = [(("number" : Str), cc)] := by
  rw [clo_gen, B.clo]
  simp [h]
/-- the lambda at f, its captured number in the cell at cc -/
structure LamSt (o : Obj) (f cc : Addr) (num : Int) (s : Shared) (H : Hp) (outer : List Env) : Prop where
  ob : s.heap.get? f = some o
  nf : H f = none
  fr : f ∉ frs outer
  ce : ∃ t, s.heap.IsCell cc (some (.int num t))
  nc : H cc = none
/-- deeper within calls -/
theorem LamSt.step {o : Obj} {f cc : Addr} {num : Int} {s s1 : Shared} {H H1 : Hp} {outer stack : List Env} (L : LamSt o f cc num s H outer) (u : Un (frs outer) [] H H1 s.heap s1.heap) (hs : ∀ b ∈ frs stack, b ∈ frs outer ∨ s.heap.objs.size ≤ b) : LamSt o f cc num s1 H1 stack where
  ob := u.keep f o L.ob L.nf L.fr (by simp)
  nf := u.free f o L.ob L.nf (by simp)
  fr := fun z => by
    rcases hs f z with e | e
    · exact L.fr e
    · exact Nat.lt_irrefl _ (Nat.lt_of_lt_of_le (Heap.lt_size L.ob) e)
  ce := by
    obtain ⟨t, oc, h1, h2⟩ := L.ce
    obtain ⟨sl, h3⟩ := u.any h1 L.nc (by simp)
    exact ⟨t, _, h3, h2⟩
  nc := by
    obtain ⟨t, oc, h1, h2⟩ := L.ce
    exact u.free cc oc h1 L.nc (by simp)
section
variable {P : Program} {w : World} {K : PySem.W.Frag} {mg : Str → Option Value} {base : Heap}
def lamD (ib : IE) (Φ : Nat → List D → Option D) : List D → Option D
  | [d, m] => evE Φ ib [.val d, .val m]
  | _ => none
end
/-! ### the def that hands it on to itself -/
def ieW : IE := .cmp .Eq (.bv 1) (.tup .nil)
def ieAt : IE := .ix (.bv 1) (.ci 0)
def ieB1 : IE := .ix (.bv 0) (.bv 3)
def ieB2 : IE := .sl (.bv 1) (.ci 1) .nil
def ieE4 : IE := .bin .Add (.bin .Add (.sl (.bv 0) .nil (.bv 3)) (.tup (.cons (.var 4) .nil))) (.sl (.bv 0) (.bin .Add (.bv 3) (.ci 1)) .nil)
def putDD (kp kl : Nat) (Φ : Nat → List D → Option D) : List D → Option D
  | [a, b, m] => match evE Φ ieW [.val a, .val b, .no, .no, .no] with
    | some (.bool true) => Φ kl [a, m]
    | some (.bool false) => (match evE Φ ieAt [.val a, .val b, .no, .no, .no] with
      | some x => (match evE Φ ieB1 [.val a, .val b, .no, .val x, .no] with
        | some y => (match evE Φ ieB2 [.val a, .val b, .no, .val x, .no] with
          | some z => (match Φ kp [y, z, m] with
            | some r => evE Φ ieE4 [.val a, .val b, .no, .val x, .val r]
            | none => none)
          | none => none)
        | none => none)
      | none => none)
    | _ => none
  | _ => none
section
variable {P : Program} {w : World} {K : PySem.W.Frag} {mg : Str → Option Value} {base : Heap}
/-! ### the def that makes it -/
def ieS1 (k : Nat) : IE := .call k (.cons (.var 0) (.cons (.tup .nil) .nil))
def ieS2 : IE := .ix (.bv 3) (.bin .Mod (.bv 1) (.bi .len (.cons (.bv 3) .nil)))
def spoD (kp ks : Nat) (Φ : Nat → List D → Option D) : List D → Option D
  | [a, .int n, m] => match evE Φ (ieS1 ks) [.val a, .val (.int n), .val m, .no, .no] with
    | some x => (match evE Φ ieS2 [.val a, .val (.int n), .val m, .val x, .no] with
      | some y => Φ kp [a, y, .int n]
      | none => none)
    | none => none
  | _ => none
end
end J

/-! Rows with a lambda: all defs, by fuel; the head. -/
namespace J
open PySem PySem.Spec PyProof.Rows L2
section
variable {P : Program} {w : World} {K : PySem.W.Frag} {mg : Str → Option Value} {base : Heap} {R : Rw} {tab : Nat → Option Fd} {ext : Nat → (Nat → List D → Option D) → List D → Option D}
end
/-! ### the head: tables of code objects -/
def isTb (g : Addr → Option Obj) (a : Addr) : Bool := match g a with
  | some ⟨.none, none, .fields vs, sl⟩ => vs.size == 0 && sl.size == 0
  | _ => false
def asT (g : Addr → Option Obj) (n : Nat) : List Addr := (He.asD g n).filter fun a => !isTb g a
def tbChk (g : Addr → Option Obj) (K : PySem.W.Frag) : Bool := match K.lookup (He.ga K lamF) with
  | some ⟨_, _, .func fd, _⟩ => (match fd.code with
    | .ref c => (match K.lookup c with
      | some ⟨.type t, _, .fields vs, _⟩ => (match (vs[11]? : Option Value), vs.getD 11 .none, vs.getD 18 .none, vs.getD 7 .none, vs.getD 9 .none, vs.getD 10 .none with
        | some (Value.ref p), Value.ref p', Value.str _ _, Value.int _ _, Value.bool _, Value.int _ _ => decide (t = "code") && (decide (p = p') && (decide (c ≠ p) && ((K.lookup p).isNone && isTb g p)))
        | _, _, _, _, _, _ => false)
      | _ => false)
    | _ => false)
  | _ => false
structure TabAt (K : PySem.W.Frag) (h : Heap) (c tP : Addr) : Prop where
  code : ∃ oc od fd osl, K.lookup (He.ga K lamF) = some ⟨oc, od, .func fd, osl⟩ ∧ fd.code = .ref c
  tab : tabP K = [tP]
  emp : h.get? tP = some { cls := .none, data := .fields #[] }
  out : K.lookup tP = none
  hd : PySem.W.CodeHd h c tP
theorem isTb_ok {h : Heap} {a : Addr} (e : isTb h.get? a = true) : h.get? a = some { cls := .none, data := .fields #[] } := by
  unfold isTb at e
  split at e
  · rename_i vs sl q
    rw [Bool.and_eq_true, beq_iff_eq, beq_iff_eq] at e
    rw [q, Array.eq_empty_of_size_eq_zero e.1, Array.eq_empty_of_size_eq_zero e.2]
  · cases e
theorem tbChk_ok {h : Heap} {K : PySem.W.Frag} (hK : K.In h) (e : tbChk h.get? K = true) : ∃ c tP, TabAt K h c tP := by
  unfold tbChk at e
  split at e
  · rename_i oc od fd osl q1
    split at e
    · rename_i c q2
      split at e
      · rename_i t od2 vs sl2 q3
        split at e
        · rename_i p p' x1 y1 x2 y2 x3 x4 y4 q4 q5 q6 q7 q8 q9
          simp only [Bool.and_eq_true, decide_eq_true_eq] at e
          obtain ⟨rfl, rfl, e3, e4, e5⟩ := e
          refine ⟨c, p, ⟨_, _, _, _, q1, q2⟩, ?_, isTb_ok e5, by simpa using e4, _, vs, _, _, _, _, _, _, _, hK _ _ q3, rfl, rfl, q4, q5, q6, q7, q8, q9, e3⟩
          unfold tabP
          simp only [q1, q2, q3, q4]
        · cases e
      · cases e
    · cases e
  · cases e
def obsT (n : Nat) (fa : List He.Fa) (fn : List He.DefD) (ex : PySem.W.Frag → Bool) (g : Addr → Option Obj) : He.AlD × Bool := (He.obsD fa fn (He.frG g (asT g n)), ex (He.frG g (asT g n)) && tbChk g (He.frG g (asT g n)))
def hookT (n : Nat) (fa : List He.Fa) (fn : List He.DefD) (ex : PySem.W.Frag → Bool) : PySem.W.Hook where
  α := He.AlD × Bool
  obs := fun s => obsT n fa fn ex s.heap.get?
  val := fun _ => (He.valD fn, true)
  says := fun _ h => ∃ K : PySem.W.Frag, K.In h ∧ He.SaysD fa fn K ∧ ex K = true ∧ ∃ c tP, TabAt K h c tP
  of := fun w s e => by
    have e2 := Bool.and_eq_true_iff.mp (congrArg Prod.snd e)
    exact ⟨_, He.frG_in, congrArg Prod.fst e, e2.1, tbChk_ok He.frG_in e2.2⟩
  keeps := fun _ _ _ ⟨K, hK, c, x, a, b, t⟩ k => ⟨K, PySem.W.Frag.In.keeps hK k, c, x, a, b, ⟨t.code, t.tab, k _ _ t.emp, t.out, t.hd.keeps k⟩⟩
theorem obsT_eq {n : Nat} {fa : List He.Fa} {fn : List He.DefD} {ex : PySem.W.Frag → Bool} {g : Addr → Option Obj} {s : Shared} (h : ∀ a, g a = s.heap.get? a) : obsT n fa fn ex g = (hookT n fa fn ex).obs s := by
  have e : g = s.heap.get? := funext h
  rw [e] <;> rfl
end J

/-! An exception out of a comprehension. -/
namespace J
open PySem PySem.Spec PyProof.Rows L2
/-! ### the block, its own environment kept -/
/-! ### what a call in the block lets out -/
section
variable {X : Cx} {pins : List (Addr × Obj)} {σ : L2.St} {H3 : Hp} {s3 : Shared} {scope : Scope} {ce : Env} {fp : List Addr} {W : WX} {E : XK} {Q : Value → Shared → Prop} {acc : Value}
end
end J

/-! Defs that raise out of calls: number_of, tie_of, read. -/
namespace J
open PySem PySem.Spec PyProof.Rows L2
/-! ### a call that returns, or raises -/
/-- a def with one parameter that returns, or raises -/
structure FnAt2 (C : Fam) (x : Str) (cn : Addr) (F G : List D → Option D) : Prop where
  ex : ∃ f fd1 ps1 fd2 ps2, C.mg x = some (.ref f) ∧ FnOk C.P C.w C.K C.mg C.base CX0 C.n f fd1 ps1 (spF C.K [false] F) ∧ FnOk C.P C.w C.K C.mg C.base (L2.CX C.P C.w) C.n f fd2 ps2 (spX C.K [false] cn G) ∧ PySem.W.keepIn C.K (.ref f) = true ∧ Binds C.K fd1 ps1 [] ∧ Binds C.K fd2 ps2 []
theorem FnAt2.blk {C : Fam} {x : Str} {cn : Addr} {F G : List D → Option D} (h : FnAt2 C x cn F G) (scope : Scope) : FnAt2 (C.blk scope) x cn F G := ⟨h.ex⟩
/-! ### arguments that are such calls -/
def argX (kn kx : Nat) (Φ : Nat → List D → Option D) : List IE → En → Option Bool
  | [], _ => some false
  | a :: r, env => match evE Φ a env with
    | some d => (match Φ kx [d] with
      | some (.bool true) => some true
      | some (.bool false) => (match Φ kn [d] with
        | some _ => argX kn kx Φ r env
        | none => none)
      | _ => none)
    | none => none
/-! ### a suite that raises -/
def rz (xn : Str) : List Stmt → Bool
  | [.Raise (some (.Call (.Name x _) [.Constant (.str _) _ _] [] _)) none _] => decide (x = xn)
  | _ => false
section
variable {P : Program} {w : World} {K : PySem.W.Frag} {mg : Str → Option Value} {base : Heap} {x xn : Str} {params : Arguments} {scope : Scope} {body : List Stmt} {f cn : Addr} {fd : FuncData} {n : Nat} {R : Rw} {Φ : Nat → List D → Option D}
/-! ### the first statement raises -/
/-! ### tie_of -/
def ieT1 : IE := .split (.bv 0) (.cs (Str.ofString "="))
def ieCn (i : Nat) : IE := .cmp .NotEq (.bi .len (.cons (.bv i) .nil)) (.ci 2)
def ieT2 : IE := .split (.ix (.bv 1) (.ci 0)) (.cs (Str.ofString "-"))
def ieA1 : IE := .ix (.bv 2) (.ci 0)
def ieA2 : IE := .ix (.bv 2) (.ci 1)
def ieA3 : IE := .ix (.bv 1) (.ci 1)
def tieXD (kn kx : Nat) (Φ : Nat → List D → Option D) : List D → Option D
  | [t] => match evE Φ ieT1 [.val t, .no, .no] with
    | some p => (match evE Φ (ieCn 1) [.val t, .val p, .no] with
      | some (.bool true) => some (.bool true)
      | some (.bool false) => (match evE Φ ieT2 [.val t, .val p, .no] with
        | some q => (match evE Φ (ieCn 2) [.val t, .val p, .val q] with
          | some (.bool true) => some (.bool true)
          | some (.bool false) => (argX kn kx Φ [ieA1, ieA2, ieA3] [.val t, .val p, .val q]).map .bool
          | _ => none)
        | none => none)
      | _ => none)
    | none => none
  | _ => none
theorem one_arg2 {K : PySem.W.Frag} {O : List Addr} {H : Hp} {vs : List V} {d : D} (h : ArgR K O H [false] vs [d]) : ∃ v, vs = [v] ∧ Dr K (mi H O) v d := by
  match vs, h with
  | [v], h => exact ⟨v, rfl, h.1⟩
  | [], h => exact h.elim
  | _ :: _ :: _, h => exact h.2.elim
end
end J

/-! read: an exception out of a call, or out of a comprehension. -/
namespace J
open PySem PySem.Spec PyProof.Rows L2
/-! ### read -/
def ieR0 : IE := .nt (.isi .str (.bv 0))
def ieR1 : IE := .split (.bv 0) (.cs (Str.ofString " "))
def ieR2 : IE := .or (.cmp .Lt (.bi .len (.cons (.bv 1) .nil)) (.ci 2)) (.cmp .NotEq (.ix (.bv 1) (.ci 1)) (.cs (Str.ofString ":")))
def ieRa : IE := .ix (.bv 1) (.ci 0)
def ieRs : IE := .sl (.bv 1) (.ci 2) .nil
def ieR3 (kn kt : Nat) : IE := .tup (.cons (.call kn (.cons ieRa .nil)) (.cons (.bi .tuple (.cons (.comp (.call kt (.cons (.var 3) .nil)) [3] ieRs .nil [3]) .nil)) .nil))
def ieR4 (kw kp : Nat) : IE := .or (.nt (.call kw (.cons (.var 2) .nil))) (.cmp .NotEq (.call kp (.cons (.var 2) .nil)) (.bv 0))
def wordsX (kt tx : Nat) (Φ : Nat → List D → Option D) : List D → Option Bool
  | [] => some false
  | d :: r => match Φ tx [d] with
    | some (.bool true) => some true
    | some (.bool false) => (match Φ kt [d] with
      | some _ => wordsX kt tx Φ r
      | none => none)
    | _ => none
def readXD (kn nx kt tx kw kp : Nat) (Φ : Nat → List D → Option D) : List D → Option D
  | [t] => match evE Φ ieR0 [.val t, .no, .no, .no] with
    | some (.bool false) => (match evE Φ ieR1 [.val t, .no, .no, .no] with
      | some ws => (match evE Φ ieR2 [.val t, .val ws, .no, .no] with
        | some (.bool true) => some (.bool true)
        | some (.bool false) => (match argX kn nx Φ [ieRa] [.val t, .val ws, .no, .no] with
          | some true => some (.bool true)
          | some false => (match evI Φ ieRs [.val t, .val ws, .no, .no] with
            | some ds => if ds.length ≤ 40000 then (match wordsX kt tx Φ ds with
              | some true => some (.bool true)
              | some false => (match evE Φ (ieR3 kn kt) [.val t, .val ws, .no, .no] with
                | some d => evE Φ (ieR4 kw kp) [.val t, .val ws, .val d, .no]
                | none => none)
              | none => none) else none
            | none => none)
          | none => none)
        | _ => none)
      | none => none)
    | _ => none
  | _ => none
section
variable {P : Program} {w : World} {K : PySem.W.Frag} {mg : Str → Option Value} {base : Heap} {x xn : Str} {params : Arguments} {scope : Scope} {body : List Stmt} {f cn : Addr} {fd : FuncData} {n : Nat} {R : Rw} {Φ : Nat → List D → Option D}
end
end J

/-! try: found = read(text), except .. as e: .. -/
namespace J
open PySem PySem.Spec PyProof.Rows L2
/-- what such a def tells: rx whether the call raises, kr what it returns -/
def tryF (kr rx : Nat) (exc : D) (ret : IE) (m : Nat) (Φ : Nat → List D → Option D) : List D → Option D
  | [t] => match Φ rx [t] with
    | some (.bool true) => some exc
    | some (.bool false) => (match Φ kr [t] with
      | some d => evE Φ ret (.val t :: .val d :: List.replicate m .no)
      | none => none)
    | _ => none
  | _ => none
section
variable {P : Program} {w : World} {K : PySem.W.Frag} {mg : Str → Option Value} {base : Heap} {x g xn xj xt en : Str} {params : Arguments} {scope : Scope} {f cn cx cj ct : Addr} {fd : FuncData} {N : List Str} {n i kr rx m : Nat} {R : Rw} {Φ : Nat → List D → Option D} {exc : D} {ret : IE}
/-! ### read off the text -/
end
end J

/-! Rows with read: the defs that raise, by fuel. -/
namespace J
open PySem PySem.Spec PyProof.Rows L2
def ieTold : IE := .ix (.lst (.cons (.var 1) (.cons (.ci 0) .nil))) (.bi .int (.cons (.cmp .Is (.bv 1) .cn) .nil))
def ieRight (kw kp : Nat) : IE := .an (.cmp .Is (.call kw (.cons (.var 1) .nil)) (.cb true)) (.cmp .Eq (.call kp (.cons (.var 1) .nil)) (.bv 0))
section
variable {P : Program} {w : World} {K : PySem.W.Frag} {mg : Str → Option Value} {base : Heap} {R : Rw} {tab : Nat → Option Fd} {ext : Nat → (Nat → List D → Option D) → List D → Option D} {xs : List (Str × Nat × List Bool)} {cn : Addr}
end
end J

/-! sorted(range(..), key=lambda k: ..), the lambda with one captured name. -/
namespace J
open PySem PySem.Spec PyProof.Rows L2
def keyN : List Str := ["k", "script"]
structure LamK (scope : Scope) : Prop where
  kind : scope.kind = .function
  co : scope.isCoroutine = false
  gen : scope.isGenerator = false
  own : ∀ y ∈ scope.names, y.2 ≠ .cell
  par : scope.names.lookup ("k" : Str) = some .local
  fre : ∀ y ∈ scope.names, y.2 = .free → y.1 = ("script" : Str)
  num : scope.names.lookup ("script" : Str) = some .free
  clo : (scope.names.filter fun y => y.2 == .free) = [(("script" : Str), .free)]
theorem LamK.clos {scope : Scope} (B : LamK scope) {cells : List (Str × Addr)} {cc : Addr} (h : cells.lookup ("script" : Str) = some cc) : cloFrom cells scope.names [] = [(("script" : Str), cc)] := by
  rw [clo_gen, B.clo]
  simp [h]
/-- the lambda at f, its captured number in the cell at cc -/
structure LamStK (o : Obj) (f cc : Addr) (uv : Value) (s : Shared) (H : Hp) (outer : List Env) : Prop where
  ob : s.heap.get? f = some o
  nf : H f = none
  fr : f ∉ frs outer
  ce : s.heap.IsCell cc (some uv)
  nc : H cc = none
/-- deeper within calls -/
theorem LamStK.step {o : Obj} {f cc : Addr} {uv : Value} {s s1 : Shared} {H H1 : Hp} {outer stack : List Env} (L : LamStK o f cc uv s H outer) (u : Un (frs outer) [] H H1 s.heap s1.heap) (hs : ∀ b ∈ frs stack, b ∈ frs outer ∨ s.heap.objs.size ≤ b) : LamStK o f cc uv s1 H1 stack where
  ob := u.keep f o L.ob L.nf L.fr (by simp)
  nf := u.free f o L.ob L.nf (by simp)
  fr := fun z => by
    rcases hs f z with e | e
    · exact L.fr e
    · exact Nat.lt_irrefl _ (Nat.lt_of_lt_of_le (Heap.lt_size L.ob) e)
  ce := by
    obtain ⟨oc, h1, h2⟩ := L.ce
    obtain ⟨sl, h3⟩ := u.any h1 L.nc (by simp)
    exact ⟨_, h3, h2⟩
  nc := by
    obtain ⟨oc, h1, h2⟩ := L.ce
    exact u.free cc oc h1 L.nc (by simp)
abbrev envK (scope : Scope) (l f cd cc : Addr) : Env := PySem.W.envX lamQ scope l f (.ref cd) [(("script" : Str), cc)]
def keyCx (P : Program) (w : World) (K : PySem.W.Frag) (mg : Str → Option Value) (base : Heap) (A : Around) (outer : List Env) (s : Shared) (H : Hp) (scope : Scope) (f cd cc : Addr) : Cx where
  prog := P
  w := w
  K := K
  mg := mg
  base := base
  A := A.deeper (envK scope s.heap.objs.size f cd cc)
  N := keyN
  s_0 := s
  H_0 := H
  env := envK scope s.heap.objs.size f cd cc
  outer := outer
  stack := envK scope s.heap.objs.size f cd cc :: outer
  ex := []
  fn := fun _ => false
  calm := true
  pn := []
  xe := fun _ _ => False
section
variable {P : Program} {w : World} {K : PySem.W.Frag} {mg : Str → Option Value} {base : Heap}
theorem key_inv {A : Around} {outer : List Env} {s : Shared} {H : Hp} {scope : Scope} {o : Obj} {f cd cc : Addr} {uv : Value} {h1 : Heap} {tk : Nat} {u : Value} {v sv : V} (B : LamK scope) (e0 : Env0 P w K mg base A outer s H) (hd : A.handled = none) (L : LamStK o f cc uv s H outer) (rv : RelV v u) (rs : RelV sv uv)
    (hns : h1.Ns s.heap.objs.size fun y => ([(("k" : Str), u)] : List (Str × Value)).reverse.lookup y) (kp : ∀ b o, s.heap.get? b = some o → h1.get? b = some o) :
    Inv (keyCx P w K mg base A outer s H scope f cd cc) [] [some v, some sv] H { s with heap := h1, toks := tk } := by
  obtain ⟨oc, hc1, hc2⟩ := L.ce
  have one : ∀ {y : Str} {c : Addr}, ([(("script" : Str), cc)] : List (Str × Addr)).lookup y = some c → y = ("script" : Str) ∧ c = cc := fun {y c} e => by
    rw [List.lookup_cons] at e
    split at e
    · rename_i hy
      cases e
      exact ⟨by simpa using hy, rfl⟩
    · cases e
  have lk : ([(("script" : Str), cc)] : List (Str × Addr)).lookup ("script" : Str) = some cc := by simp
  have noA : ∀ b : Addr, b ∉ ([] : List Addr) := fun b => by simp
  refine ⟨⟨e0.mod, B.kind, rfl, rfl, Nat.le_refl _, fun y z c e1 e2 => ?_, fun y hy => ?_, fun y c z _ => ?_, fun _ => hd, Around.frames_deeper e0.frames, .inr ⟨rfl, rfl⟩, fun b z => absurd z (noA b), e0.bs, e0.bsz, fun b _ _ => noA b, fun b z => absurd z (noA b), e0.funs, e0.frf⟩,
    rfl, e0.bare, Un.kept kp, ⟨_, hns, fun i y x e1 e2 e3 => ?_⟩, fun y c e => ?_, e0.hok.fresh (Nat.le_refl _), fun y c e => ?_, fun q hq => absurd (show q ∈ ([] : List (Addr × Obj)) from hq) (by simp), e0.hok.kept kp, rfl⟩
  · rw [(one e1).1, (one e2).1]
  · have hy : scope.names.lookup y = some .cell ∨ scope.names.lookup y = some .free := hy
    rcases hy with hy | hy
    · exact absurd rfl (B.own _ (PySem.mem_of_lookup hy))
    · have := B.fre _ (PySem.mem_of_lookup hy) rfl
      exact ⟨cc, by show ([(("script" : Str), cc)] : List (Str × Addr)).lookup y = some cc; rw [show y = ("script" : Str) from this]; exact lk⟩
  · have z : false = true := z
    cases z
  · match i, e1, e2 with
    | 0, e1, e2 =>
      cases e1
      cases e2
      exact ⟨u, rv, .inl ⟨B.par, by simp⟩⟩
    | 1, e1, e2 =>
      cases e1
      cases e2
      exact ⟨uv, rs, .inr ⟨.inr B.num, cc, lk, oc, kp _ _ hc1, hc2⟩⟩
    | i + 2, e1, e2 => cases e1
  · obtain ⟨_, rfl⟩ := one e
    exact ⟨_, oc, kp _ _ hc1, hc2⟩
  · obtain ⟨_, rfl⟩ := one e
    exact L.nc
/-- what a call of the lambda promises, at the very state -/
def KeyCall (P : Program) (w : World) (K : PySem.W.Frag) (mg : Str → Option Value) (base : Heap) (params : Arguments) (body : Expr) (scope : Scope) (n : Nat) (F : List D → Option D) : Prop :=
  ∀ (A : Around) (outer : List Env) (s : Shared) (H : Hp) (u uv : Value) (v sv : V) (d sd r : D) (Q : VK) (O : List Addr) (f cc cd : Addr) (pm ctv : Value), Room n A → Env0 P w K mg base A outer s H → LamStK (PySem.W.kla_obj "<lambda>" lamQ params body scope [(("script" : Str), cc)] pm cd ctv) f cc uv s H outer →
    H cd = some (LamX.CodeO cd lamQ) → RelV v u → RelV sv uv → Al K O H → Dr K (mi H O) v d → Dr K (mi H O) sv sd → F [d, sd] = some r → Wk K O H r Q → codeAny (model P w) A (.call (.ref f) ⟨[u], []⟩) (CR CX0 outer P w H s Q E0) s
def keyD (ib : IE) (Φ : Nat → List D → Option D) : List D → Option D
  | [d, m] => evE Φ ib [.val d, .val m]
  | _ => none
theorem key_call {R : Rw} {Φ : Nat → List D → Option D} {n : Nat} {params : Arguments} {body : Expr} {scope : Scope} {ib : IE} (B : LamK scope) (hR : R.ok Φ ⟨P, w, K, mg, base, keyN, scope, n, false⟩) (hb : trE R keyN 40 scope false body = some ib)
    (hbind : ∀ (cl : List (Str × Addr)) (pm cv ctv u : Value), bindArgs (PySem.W.kla_fn "<lambda>" lamQ params body scope cl pm cv ctv) ⟨[u], []⟩ = pure [(("k" : Str), u)]) : KeyCall P w K mg base params body scope (n + 1) (keyD ib Φ) := by
  intro A outer s H u uv v sv d sd r Q O f cc cd pm ctv hr e0 L hcd rv rs al hd hsd hF hQ
  obtain ⟨⟨oc, vs, t, hoc, hdc, hvc⟩, _, _⟩ := e0.hok cd _ hcd
  have G := trE_ok R keyN Φ 40 ⟨P, w, K, mg, base, keyN, scope, n, false⟩ rfl hR _ _ _ hb
  obtain ⟨tb, r1, q1⟩ := G.se rfl
  refine PySem.W.kla_callFunE hr.depth L.ob rfl B.co B.gen rfl ⟨cd, oc, vs, t, rfl, hoc, hdc, hvc⟩ ?_
  rw [hbind]
  refine wpAny_pure (wpAny_newFunctionEnv (fun y hy => B.own y hy) (fun y hy => by rw [List.mem_singleton.mp hy]; exact B.par) (fun h1 hns hsb => ⟨(e0.mod.nolimit.keeps fun b o e => (e0.bs b o e).1).fresh _ hsb, ?_⟩) B.kind)
  show codeAny _ _ (.expr body (envK scope s.heap.objs.size f cd cc)) _ _
  have kp : ∀ b o, s.heap.get? b = some o → h1.get? b = some o := fun b o e => hsb.extBut b o (Nat.ne_of_lt (Heap.lt_size e)) (Heap.get?_push_of_some _ e)
  have J1 := key_inv (tk := s.toks + ([(("k" : Str), u)] : List (Str × Value)).length) (cd := cd) B e0 hr.hd L rv rs hns kp
  have re : Re K O [some v, some sv] H [.val d, .val sd] := {
    len := rfl
    al := al
    val := fun i x q => by
      match i, q with
      | 0, q => cases q; exact ⟨v, rfl, hd⟩
      | 1, q => cases q; exact ⟨sv, rfl, hsd⟩
      | i + 2, q => cases q
    own := fun i x q => by
      match i, q with
      | 0, q => cases q
      | 1, q => cases q
      | i + 2, q => cases q
    bor := fun i x q => by
      match i, q with
      | 0, q => cases q
      | 1, q => cases q
      | i + 2, q => cases q }
  have hX : Fam.ok ⟨P, w, K, mg, base, keyN, scope, n, false⟩ (keyCx P w K mg base A outer s H scope f cd cc) := ⟨rfl, rfl, rfl, rfl, rfl, rfl, rfl, rfl, hr.deeper _, rfl, fun z => nomatch z⟩
  refine PySem.W.kla_codeExpr (wpAny_mono ((r1 _ hX).run [] _ _ H Q J1 (q1 O _ H _ Q r re hF hQ)) (fun x s2 hq => ?_) fun e s2 hq => False.elim hq)
  obtain ⟨v2, H2, J2, rv2, q2⟩ := hq
  exact ⟨v2, H2, J2.os, J2.bare, J2.base, J2.hok, rv2, q2⟩
end
/-! ### sorting by a key -/
theorem adopt {X : Cx} {pins : List (Addr × Obj)} {σ : L2.St} {H : Hp} {s : Shared} {T : Addr} {ob : HO} (I : Inv X pins σ H s) (hf : FpOk X pins H T) (new : ObjOk X.prog X.w (upd H T ob) s.heap T ob) : Inv X pins σ (upd H T ob) s := by
  have hn : H T = none := hf.1
  refine I.step (g' := s.gens) (d' := s.drawn) (t' := s.toks) (h' := s.heap) (ch := [T]) (fun b hb => ?_) (fun b o _ _ _ e _ => e) (fun b o _ _ _ e _ => ⟨o.slots, e⟩) (fun b o hc _ n => ?_) (fun b o _ e => ⟨o, e⟩) (fun b xs e => ?_) (fun b o u e => ?_) (fun b ps e => ⟨#[], ?_⟩) (fun m hm => hm) (fun b u e => ?_) I.bare
  · rw [List.mem_singleton.mp hb]
    exact ⟨hf.2.2.2.1, hf.2.1, hf.2.2.2.2.1, hf.2.2.2.2.2⟩
  · rw [upd_ne (fun z => hc (by simp [z]))]; exact n
  · rw [upd_ne (ne_of_none e hn)]; exact e
  · rw [upd_ne (ne_of_none e hn)]; exact e
  · rw [upd_ne (ne_of_none e hn), e]; simp
  · by_cases hb : b = T
    · subst hb
      rw [upd_same] at e
      cases e
      exact new
    · rw [upd_ne hb] at e
      exact (I.hok b u e).stay (fun c v _ q => q) (fun c q => by rw [upd_ne (ne_of_none q hn)]; exact q) fun c xs q => by rw [upd_ne (ne_of_none q hn)]; exact q
/-- while the keys are made: the list at Dl is empty, the keys are at kS -/
structure Kst (X : Cx) (pins : List (Addr × Obj)) (σ : L2.St) (H0 : Hp) (ob : Obj) (f cc : Addr) (uv : Value) (Dl kS : Addr) (e1 : Nat) (ks : Array Value) (s : Shared) (H : Hp) : Prop where
  I : Inv X pins σ H s
  sm : Same H0 H
  L : LamStK ob f cc uv s H X.stack
  oD : s.heap.get? Dl = some (seqObj "list" #[] e1)
  oK : ∃ e, s.heap.get? kS = some (seqObj "list" ks e)
  nD : H Dl = none
  nK : H kS = none
section
variable {X : Cx} {pins : List (Addr × Obj)} {σ : L2.St} {H0 : Hp} {ob : Obj} {f cc Dl kS : Addr} {uv : Value} {e1 : Nat} {ks : Array Value} {s : Shared} {H : Hp}
/-- another thing at kS -/
theorem Kst.put (K : Kst X pins σ H0 ob f cc uv Dl kS e1 ks s H) (fK : FpOk X pins H kS) (hne : kS ≠ Dl) (hkf : kS ≠ f) (hkc : kS ≠ cc) (g : Array Value → Array Value) : Kst X pins σ H0 ob f cc uv Dl kS e1 (g ks) { s with heap := s.heap.update kS (Obj.mapSeq g) } H := by
  obtain ⟨e, hk⟩ := K.oK
  have sb := Heap.SameBut.update s.heap kS (Obj.mapSeq g)
  have st : ∀ b o, b ≠ kS → s.heap.get? b = some o → (s.heap.update kS (Obj.mapSeq g)).get? b = some o := fun b o hb q => (sb.2 b hb).trans q
  obtain ⟨f0, f1, f2, f3, f4, f5⟩ := fK
  refine ⟨K.I.turned (t' := s.toks) st f0 f1 f3 f4 f5, K.sm, ⟨st _ _ (Ne.symm hkf) K.L.ob, K.L.nf, K.L.fr, ?_, K.L.nc⟩, st _ _ (Ne.symm hne) K.oD, ⟨_, get?_update_seq hk g⟩, K.nD, K.nK⟩
  obtain ⟨oc, h1, h2⟩ := K.L.ce
  exact ⟨oc, st _ _ (Ne.symm hkc) h1, h2⟩
/-- behind a call of the key -/
theorem Kst.call {Q : VK} {u : Value} {s' : Shared} (K : Kst X pins σ H0 ob f cc uv Dl kS e1 ks s H) (hD : Dl ∉ frs X.stack) (hK : kS ∉ frs X.stack) (hq : CE X.stack X.prog X.w H s Q u s') (hs : ∀ v H', Q v H' → Same H H') : ∃ v H', Kst X pins σ H0 ob f cc uv Dl kS e1 ks s' H' ∧ RelV v u ∧ Q v H' := by
  obtain ⟨v, H', os, ag, un, hok, rv, q⟩ := hq
  obtain ⟨e, hk⟩ := K.oK
  refine ⟨v, H', ⟨K.I.call' (ch := []) os un hok ag (fun _ z => nomatch z), K.sm.trans (hs v H' q), K.L.step un (fun b hb => .inl hb), un.keep _ _ K.oD K.nD hD (by simp), ⟨e, un.keep _ _ hk K.nK hK (by simp)⟩, un.free _ _ K.oD K.nD (by simp), un.free _ _ hk K.nK (by simp)⟩, rv, q⟩
/-- the end: the list, sorted -/
theorem key_tail {A : Around} {E : Value → Shared → Prop} {Pp : PySem.Fin → Shared → Prop} {vs : List Value} {kz : List Int} {st : SortSt} (K : Kst X pins σ H0 ob f cc uv Dl kS e1 ks s H) (fD : FpOk X pins H Dl) (fK : FpOk X pins H kS) (hne : kS ≠ Dl) (hkf : kS ≠ f) (hkc : kS ≠ cc)
    (hk : IntsAre ks.toList kz) (hlen : kz.length = vs.length) (hz : vs.length ≤ 1000) (hp : (arrOf st).Perm (ks.zip vs.toArray)) (hfl : failedOf st = none)
    (h : ∀ s' out c, Inv X pins σ H s' → s'.heap.get? Dl = some (seqObj "list" out c) → out.toList.Perm vs → Pp (.done (.ret .none)) s') : wpAny (model X.prog X.w) A (ksk_tail Dl false e1 (.ref kS) st) Pp E s := by
  have ksz : ks.size = vs.length := by
    have := hk.length
    rw [Array.length_toList] at this
    omega
  have asz : (arrOf st).size = vs.length := by rw [hp.size_eq, Array.size_zip, ksz, List.size_toArray, Nat.min_self]
  obtain ⟨e, hkS⟩ := K.oK
  have K1 := K.put fK hne hkf hkc fun _ => #[]
  have sb2 := Heap.SameBut.update (s.heap.update kS (Obj.mapSeq fun _ => (#[] : Array Value))) Dl (Obj.mapSeq fun _ => (arrOf st).map (·.2))
  obtain ⟨c2, hc2⟩ : ∃ c2, ((s.heap.update kS (Obj.mapSeq fun _ => (#[] : Array Value))).update Dl (Obj.mapSeq fun _ => (arrOf st).map (·.2))).get? Dl = some (seqObj "list" ((arrOf st).map (·.2)) c2) := ⟨_, get?_update_seq K1.oD fun _ => (arrOf st).map (·.2)⟩
  unfold ksk_tail
  dsimp only
  refine wpAny_bind (listUpdate_at hkS rfl ?_ (by rw [ksz, sizeLine_eq]; omega) (Nat.zero_le _))
  refine wpAny_bind (wpAny_letGo (wpAny_bind (seqEpoch_at K1.oD rfl ?_)))
  refine wpAny_bind (listUpdate_at K1.oD rfl ?_ (Nat.zero_le _) ?_)
  · rw [hfl]
    simp only [bne_self_eq_false, Bool.false_eq_true, if_false]
    obtain ⟨f0, f1, f2, f3, f4, f5⟩ := fD
    refine wpAny_pure (h _ _ c2 (K1.I.turned (t' := s.toks) (fun b o hb q => (sb2.2 b hb).trans q) f0 f1 f3 f4 f5) hc2 ?_)
    have hl : ((arrOf st).toList).Perm (ks.toList.zip vs) := by rw [← ksk_zip]; exact Array.perm_iff_toList_perm.mp hp
    have h2 := hl.map Prod.snd
    rw [List.map_snd_zip (show vs.length ≤ ks.toList.length by have e := @Array.length_toList _ ks; omega)] at h2
    rw [Array.toList_map]
    exact h2
  · simp only [Bool.false_eq_true, if_false, Array.size_map]
    rw [asz, sizeLine_eq]
    omega
theorem key_end {A : Around} {E : Value → Shared → Prop} {Pp : PySem.Fin → Shared → Prop} {vs : List Value} {kz : List Int} (K : Kst X pins σ H0 ob f cc uv Dl kS e1 ks s H) (fD : FpOk X pins H Dl) (fK : FpOk X pins H kS) (hne : kS ≠ Dl) (hkf : kS ≠ f) (hkc : kS ≠ cc)
    (hk : IntsAre ks.toList kz) (hlen : kz.length = vs.length) (hz : vs.length ≤ 1000)
    (h : ∀ s' out c, Inv X pins σ H s' → s'.heap.get? Dl = some (seqObj "list" out c) → out.toList.Perm vs → Pp (.done (.ret .none)) s') : wpAny (model X.prog X.w) A (ksk_end Dl false vs.toArray e1 (.ref kS) ks) Pp E s := by
  have ksz : ks.size = vs.length := by
    have := hk.length
    rw [Array.length_toList] at this
    omega
  have zsz : (ks.zip vs.toArray).size = vs.length := by rw [Array.size_zip, ksz, List.size_toArray, Nat.min_self]
  unfold ksk_end
  dsimp only
  rw [if_neg (by decide)]
  by_cases h2 : vs.toArray.size < 2
  · rw [if_pos h2, if_pos h2]
    refine wpAny_bind (wpAny_pure ?_)
    rw [StateT.run_pure]
    refine wpAny_bind (wpAny_pure ?_)
    exact key_tail (st := SortSt.mk' general' (if false = true then (ks.zip vs.toArray).reverse else ks.zip vs.toArray) #[] 7 none) K fD fK hne hkf hkc hk hlen hz (Array.Perm.refl _) rfl h
  · rw [if_neg h2, if_neg h2]
    rw [List.size_toArray] at h2
    rw [ksk_kind hk (by rw [ksz]; omega)]
    refine wpAny_bind (wpAny_pure ?_)
    refine wpAny_bind (wpAny_mono (wpS_sortRunsSt (κ := intKind) (a₀ := ks.zip vs.toArray) (st := SortSt.mk' oneType' (ks.zip vs.toArray) #[] 7 none)
      (Q := fun _ z => (arrOf z).Perm (ks.zip vs.toArray) ∧ failedOf z = none) intKind_oneLt (ksk_keysOfInt (ksk_intKeys hk)) ⟨Array.Perm.refl _, rfl, rfl⟩ rfl (Stable.refl _) (by rw [zsz]; omega) fun z a1 a2 _ _ => ⟨a1, a2⟩) ?_ fun _ _ q => q)
    rintro ⟨⟨⟩, z⟩ s' ⟨rfl, a1, a2⟩
    exact key_tail K fD fK hne hkf hkc hk hlen hz a1 a2 h
/-- the keys, one by one -/
theorem key_rest {A : Around} {E : Value → Shared → Prop} {Pp : PySem.Fin → Shared → Prop} {vs : List Value} (K : Kst X pins σ H0 ob f cc uv Dl kS e1 #[] s H) (fD : ∀ H', H' Dl = none → FpOk X pins H' Dl) (fK : ∀ H', H' kS = none → FpOk X pins H' kS) (hne : kS ≠ Dl) (hkf : kS ≠ f) (hkc : kS ≠ cc) (hz : vs.length ≤ 1000)
    (hDf : Dl ∉ frs X.stack) (hKf : kS ∉ frs X.stack)
    (turn : ∀ (ks : Array Value) (s' : Shared) (H' : Hp) (v : Value), v ∈ vs → Kst X pins σ H0 ob f cc uv Dl kS e1 ks s' H' → codeAny (model X.prog X.w) A (.call (.ref f) ⟨[v], []⟩) (CR CX0 X.stack X.prog X.w H' s' (fun z H'' => ∃ i, z = .int i ∧ Same H' H'') E0) s')
    (h : ∀ H' s' out c, Inv X pins σ H' s' → Same H0 H' → H' Dl = none → s'.heap.get? Dl = some (seqObj "list" out c) → out.toList.Perm vs → Pp (.done (.ret .none)) s') : wpAny (model X.prog X.w) A (ksk_rest Dl (.ref f) false vs.toArray e1 (.ref kS)) Pp E s := by
  unfold ksk_rest
  refine wpAny_bind (wpAny_rule ?_)
  first
    | rw [List.forIn_toArray]
    | (rw [← Array.forIn_toList]; simp only [List.toList_toArray])
  refine wpAny_bind (ksk_fold (fun i s' => ∃ H' kA kz, Kst X pins σ H0 ob f cc uv Dl kS e1 kA s' H' ∧ IntsAre kA.toList kz ∧ kz.length = i) vs 0 s ⟨H, #[], [], K, by simpa using IntsAre.nil, rfl⟩ ?step ?done)
  case step =>
    rintro j x s' hx ⟨H', kA, kz, K', hk, hl⟩
    have hj : j < vs.length := (List.getElem?_eq_some_iff.mp hx).1
    have hsz : kA.size ≤ vs.length := by
      have h1 := hk.length
      rw [Array.length_toList] at h1
      omega
    refine wpAny_bind (wpAny_attempt (wpAny_call (codeAny_mono (turn kA s' H' x (List.mem_of_getElem? hx) K') fun r s2 hq => ?_)))
    cases r with
    | error e => exact (show False from hq).elim
    | ok fl =>
      cases fl with
      | ret u =>
        obtain ⟨z, H2, K2, rv, i, rfl, sm⟩ := K'.call hDf hKf hq (fun _ _ ⟨_, _, q⟩ => q)
        obtain ⟨t2, rfl⟩ : ∃ t2, u = .int i t2 := rv
        obtain ⟨e, hkS⟩ := K2.oK
        dsimp only
        refine wpAny_bind (listUpdate_at hkS rfl ?_ (by rw [sizeLine_eq]; omega) (Nat.le_trans (Nat.le_of_eq (Array.size_push ..)) (by rw [sizeLine_eq]; omega)))
        refine wpAny_pure ⟨rfl, H2, kA.push (.int i t2), kz ++ [i], K2.put (fK H2 K2.nK) hne hkf hkc (·.push (.int i t2)), ?_, by rw [List.length_append, hl]; rfl⟩
        rw [Array.toList_push]
        exact ksk_snoc hk
      | next => exact False.elim hq
      | brk => exact False.elim hq
      | cont => exact False.elim hq
  case done =>
    rintro s' ⟨H', kA, kz, K', hk, hl⟩
    obtain ⟨e, hkS⟩ := K'.oK
    refine wpAny_bind (listItems_at hkS rfl ?_)
    exact key_end K' (fD H' K'.nD) (fK H' K'.nK) hne hkf hkc hk (by omega) hz fun s9 out c I9 o9 p9 => h H' s9 out c I9 K'.sm K'.nD o9 p9
/-- sorted(range, key=f) -/
theorem sorted_key {E : Value → Shared → Prop} {Q : Value → Shared → Prop} {r : Addr} {m : Nat} {t u v : Tok} (hc : X.calm = true) (I : Inv X pins σ H s) (L : LamStK ob f cc uv s H X.stack) (hr : IsRange s.heap r 0 (m : Int) 1 t u v) (hm : m ≤ 1000)
    (turn : ∀ (Dl kS : Addr) (e1 : Nat) (ks : Array Value) (s' : Shared) (H' : Hp) (k : Nat) (tk : Tok), k < m → Kst X pins σ H ob f cc uv Dl kS e1 ks s' H' → codeAny (model X.prog X.w) X.A.in1.in1 (.call (.ref f) ⟨[.int (k : Int) tk], []⟩) (CR CX0 X.stack X.prog X.w H' s' (fun z H'' => ∃ i, z = .int i ∧ Same H' H'') E0) s')
    (h : ∀ (H' : Hp) (s' : Shared) (Dl : Addr) (ns : List Int), Inv X pins σ (upd H' Dl (.lst (ns.map V.int))) s' → Same H H' → H' Dl = none → ns.Perm ((List.range m).map fun k : Nat => (k : Int)) → Q (.ref Dl) s') :
    wpAny (model X.prog X.w) X.A (call (.builtin "sorted") [.ref r] [(Str.ofString "key", .ref f)]) Q E s := by
  have hh : X.A.handled = none := I.ok.hd hc
  refine call_function_entry_kw kind_sorted plain_sorted entry_sorted (ksk_s1 _ _) ?_
  unfold Builtin.«sorted»
  refine wpAny_bind (m := checkCount "sorted" 1 1 _) (wpAny_pure ?_)
  have hsize : Builtin.Range.rangeSize 0 (m : Int) 1 = (m : Int) := by
    have := rangeSize_nat 0 (m : Int)
    rw [this]
    omega
  refine wpAny_bind (collect_range (A := X.A.in1) hh hr (small_one (by omega) (by omega) (by omega) (by omega)) (n := m) (by rw [hsize]) (by omega) fun h1 tk1 acc k1 hit => ?_)
  obtain ⟨asz, hget⟩ := hit
  have hal : acc.toList.length = m := by rw [Array.length_toList, asz]
  have hsz24 : acc.toList.length ≤ sizeLine := by rw [hal, sizeLine_eq]; omega
  refine wpAny_bind (wpAny_newList ?_ hsz24)
  generalize eD : h1.objs.size = Dl
  have oD0 : (h1.push (seqObj "list" acc.toList.toArray 0)).get? Dl = some (seqObj "list" acc.toList.toArray 0) := by rw [← eD]; exact Heap.get?_push_size _ rfl
  refine wpAny_bind (wpAny_holding (wpAny_call_entry_kw slot_list_sort ⟨_, oD0, rfl⟩ entry_list_sort ?body (ksk_l1 _ _)))
  case body =>
    show wpAny (model X.prog X.w) X.A.in1.in1 (Builtin.«list.sort» ⟨[.ref Dl], [(Str.ofString "key", .ref f)]⟩) _ _ _
    rw [ksk_t1]
    have I1 : Inv X pins σ H { s with heap := h1, toks := tk1 } := I.kept (t' := tk1) k1
    have ltf : f < Dl := by rw [← eD]; exact Heap.lt_size (k1 _ _ L.ob)
    have ltc : cc < Dl := by
      obtain ⟨oc, q1, _⟩ := L.ce
      rw [← eD]
      exact Heap.lt_size (k1 _ _ q1)
    have nD : H Dl = none := I1.hok.fresh (Nat.le_of_eq eD)
    have sbD := Heap.SameBut.update (h1.push (seqObj "list" acc.toList.toArray 0)) Dl (Obj.mapSeq fun _ => (#[] : Array Value))
    obtain ⟨e1, oD1⟩ : ∃ e1, ((h1.push (seqObj "list" acc.toList.toArray 0)).update Dl (Obj.mapSeq fun _ => (#[] : Array Value))).get? Dl = some (seqObj "list" #[] e1) := ⟨_, get?_update_seq oD0 fun _ => #[]⟩
    unfold ksk_tree
    refine wpAny_bind (listItems_at oD0 rfl ?_)
    refine wpAny_bind (listUpdate_at oD0 rfl ?_ (by rw [List.size_toArray]; exact hsz24) (Nat.zero_le _))
    refine wpAny_bind (seqEpoch_at oD1 rfl ?_)
    refine wpAny_bind (wpAny_newTuple ?_ (by simpa using hsz24))
    refine wpAny_bind (wpAny_newList ?_ (Nat.zero_le _))
    refine wpAny_holding ?_
    generalize e3 : (h1.push (seqObj "list" acc.toList.toArray 0)).update Dl (Obj.mapSeq fun _ => (#[] : Array Value)) = h3 at oD1 sbD ⊢
    have old : ∀ b o, h1.get? b = some o → h3.get? b = some o := fun b o q => (sbD.2 b (by rw [← eD]; exact Nat.ne_of_lt (Heap.lt_size q))).trans (Heap.get?_push_of_some _ q)
    have sz3 : h3.objs.size = Dl + 1 := by rw [← e3, Heap.size_update, size_push', eD]
    generalize e4 : h3.push (seqObj "tuple" acc.toList.toArray.toList.toArray 0) = h4 at ⊢
    have sz4 : h4.objs.size = Dl + 2 := by rw [← e4, size_push', sz3]
    have old4 : ∀ b o, h3.get? b = some o → h4.get? b = some o := fun b o q => by rw [← e4]; exact Heap.get?_push_of_some _ q
    have old5 : ∀ b o, h3.get? b = some o → (h4.push (seqObj "list" ([] : List Value).toArray 0)).get? b = some o := fun b o q => Heap.get?_push_of_some _ (old4 b o q)
    have fp : ∀ b, Dl ≤ b → ∀ H', H' b = none → FpOk X pins H' b := fun b hb H' hn => I1.fpOk (by show h1.objs.size ≤ b; rw [eD]; exact hb) hn
    have out : ∀ b, Dl ≤ b → b ∉ frs X.stack := fun b hb hz => by
      obtain ⟨_, o, q, _⟩ := I1.stack.mem hz
      have := Heap.lt_size q
      have e : h1.objs.size = Dl := eD
      have this : b < h1.objs.size := this
      omega
    have nK : H h4.objs.size = none := I1.hok.fresh (by show h1.objs.size ≤ _; rw [eD, sz4]; omega)
    have K5 : Kst X pins σ H ob f cc uv Dl h4.objs.size e1 #[] { s with heap := h4.push (seqObj "list" ([] : List Value).toArray 0), toks := tk1 } H := by
      refine ⟨I.kept (t' := tk1) fun b o q => old5 b o (old b o (k1 b o q)), Same.refl H, ⟨old5 _ _ (old _ _ (k1 _ _ L.ob)), L.nf, L.fr, ?_, L.nc⟩, old5 _ _ oD1, ⟨0, Heap.get?_push_size _ rfl⟩, nD, nK⟩
      obtain ⟨oc, q1, q2⟩ := L.ce
      exact ⟨oc, old5 _ _ (old _ _ (k1 _ _ q1)), q2⟩
    have hels : ∀ x ∈ acc.toList, ∃ k : Nat, k < m ∧ ∃ t, x = .int (k : Int) t := fun x hx => by
      obtain ⟨j, hj, e⟩ := List.getElem_of_mem hx
      have hj' : j < acc.size := by simpa using hj
      obtain ⟨t, q⟩ := hget j x (by rw [Array.getElem?_eq_getElem hj']; simpa using e)
      exact ⟨j, by omega, t, by rw [q]; congr 1; omega⟩
    have ltk : Dl < h4.objs.size := by rw [sz4]; exact Nat.lt_succ_of_lt (Nat.lt_succ_self _)
    show wpAny (model X.prog X.w) X.A.in1.in1 (ksk_rest Dl (.ref f) false acc.toList.toArray e1 (.ref h4.objs.size)) _ _ { s with heap := h4.push (seqObj "list" ([] : List Value).toArray 0), toks := tk1 }
    refine key_rest (kS := h4.objs.size) (vs := acc.toList) K5 (fp Dl (Nat.le_refl _)) (fp _ (by omega)) (Nat.ne_of_gt ltk) (Nat.ne_of_gt (Nat.lt_trans ltf ltk)) (Nat.ne_of_gt (Nat.lt_trans ltc ltk)) (by omega) (out _ (Nat.le_refl _)) (out _ (by omega)) (fun ks s' H' x hx K' => ?_) fun H' s' o9 c9 I9 sm9 n9 g9 p9 => ⟨_, rfl, wpAny_pure ⟨_, rfl, ?_⟩⟩
    · obtain ⟨k, hk, t, rfl⟩ := hels x hx
      exact turn Dl _ e1 ks s' H' k t hk K'
    · have hin : ∀ x ∈ o9.toList, ∃ i t, x = Value.int i t := fun x hx => by
        obtain ⟨k, _, t, q⟩ := hels x (p9.mem_iff.mp hx)
        exact ⟨_, t, q⟩
      have hI := SrtO.ints_iv hin
      have hacc : acc.toList.map SrtO.iv = (List.range m).map fun k : Nat => (k : Int) := by
        refine List.ext_getElem (by rw [List.length_map, List.length_map, List.length_range, hal]) fun i q1 q2 => ?_
        rw [List.getElem_map, List.getElem_map, List.getElem_range]
        have hi : i < acc.size := by simpa using q1
        obtain ⟨t, q⟩ := hget i acc[i] (Array.getElem?_eq_getElem hi)
        rw [Array.getElem_toList, q]
        show (0 + (i : Int) * 1) = _
        omega
      refine h H' s' Dl (o9.toList.map SrtO.iv) (adopt I9 (fp Dl (Nat.le_refl _) H' n9) ⟨?_, o9.toList, c9, vals_of_ints hI, ?_⟩) sm9 n9 ?_
      · rw [List.length_map, List.length_map, p9.length_eq]
        exact hsz24
      · rw [g9]
      · rw [← hacc]
        exact p9.map _
end
end J

/-! A law whose fourth statement sorts a range by a lambda. -/
namespace J
open PySem PySem.Spec PyProof.Rows L2
theorem cr_range1 {X : Cx} : CallR X (.type "range") (fun vs H Q => ∃ j, vs = [V.int j] ∧ ∀ p, H p = none → Q (.ref p) (upd H p (.rng 0 j))) := by
  intro pins s0 σ H vs us Q I r h
  obtain ⟨j, rfl, q⟩ := h
  obtain ⟨u1, rfl, rj⟩ : ∃ u1, us = [u1] ∧ RelV (V.int j) u1 := by
    cases r with
    | cons h1 h2 => cases h2; exact ⟨_, rfl, h1⟩
  obtain ⟨t, rfl⟩ := rj
  refine call_range_1 ⟨.ref s0.heap.objs.size, upd H s0.heap.objs.size (.rng 0 j), I.laid (t' := s0.toks + 1 + 1) (fun b o e => Heap.get?_push_of_some _ e) (Nat.le_refl _) ?_, rfl, q _ (I.hok.fresh (Nat.le_refl _))⟩
  exact ⟨s0.toks, t, s0.toks + 1, Heap.get?_push_size _ rfl⟩
def ieMk : IE := .ix (.bv 1) (.ci 0)
def LawOk (kl2 : Nat) (ie1 ie2 ie3 : IE) (post : IS) (k : Nat) (Φ : Nat → List D → Option D) (ds : List D) : Prop :=
  ∃ (s wb e d : D) (m : Nat), ds = [s] ∧ evE Φ ie1 (.val s :: List.replicate (k + 4) .no) = some wb ∧ evE Φ ie2 (.val s :: .val wb :: List.replicate (k + 3) .no) = some e ∧ evE Φ ie3 (.val s :: .val wb :: .val e :: List.replicate (k + 2) .no) = some d ∧
    evE Φ ieMk (.val s :: .val wb :: .val e :: .val d :: List.replicate (k + 1) .no) = some (.int (m : Int)) ∧ 1 ≤ m ∧ m ≤ 1000 ∧ (∀ j : Nat, j < m → ∃ i, Φ kl2 [.int (j : Int), s] = some (.int i)) ∧
    ∀ l : List Int, l.Perm ((List.range m).map fun j : Nat => (j : Int)) → evS Φ post (.val s :: .val wb :: .val e :: .val d :: .val (.list (l.map .int)) :: List.replicate k .no) = some (.rt (.bool true))
open Classical in
noncomputable def lawD (kl2 : Nat) (ie1 ie2 ie3 : IE) (post : IS) (k : Nat) (Φ : Nat → List D → Option D) : List D → Option D := fun ds => if LawOk kl2 ie1 ie2 ie3 post k Φ ds then some (.bool true) else none
theorem lawD_some {kl2 : Nat} {ie1 ie2 ie3 : IE} {post : IS} {k : Nat} {Φ : Nat → List D → Option D} {ds : List D} {r : D} (h : lawD kl2 ie1 ie2 ie3 post k Φ ds = some r) : LawOk kl2 ie1 ie2 ie3 post k Φ ds ∧ r = .bool true := by
  unfold lawD at h
  split at h
  · rename_i q
    cases h
    exact ⟨q, rfl⟩
  · cases h
theorem rf_of {K : PySem.W.Frag} {O : List Addr} {σ : L2.St} {H : Hp} {env : En} (r : Re K O σ H env) (hn : ∀ (i : Nat) (ds : List D), env[i]? ≠ some (Sl.own ds)) : RF K O H [] σ H env :=
  ⟨O, fun _ => 0, r.len, r.al, fun i d hd => r.val i d hd, fun i es hd => absurd hd (hn i es), fun i d hd => r.bor i d hd, fun i j es es' hd => absurd hd (hn i es), (fun g hg => by cases hg), Same.refl H, (fun a ha => ha), (fun a ha => .inl ha)⟩
def kwL : List Stmt → Arguments × Expr
  | _ :: _ :: _ :: .Assign _ (.Call _ _ [⟨_, .Lambda lp lb _ _, _⟩] _) _ :: _ => (lp, lb)
  | _ => (⟨[], [], none, [], [], none, []⟩, .Constant .none 0 ⟨0, 0, 0, 0⟩)
def kwS (d : Scope) : List Stmt → Scope
  | _ :: _ :: _ :: .Assign _ (.Call _ _ [⟨_, .Lambda _ _ ls _, _⟩] _) _ :: _ => ls
  | _ => d
def lawChk (R : Rw) (N : List Str) (ie1 ie2 ie3 : IE) (post : IS) (sc : Scope) : List Stmt → Bool
  | .Assign [t1] e1 _ :: .Assign [t2] e2 _ :: .Assign [t3] e3 _ :: .Assign [t4] (.Call (.Name y1 _) [.Call (.Name y2 _) [em] [] _] [⟨some kw, .Lambda _ _ _ _, _⟩] _) _ :: rest =>
    decide (y1 = "sorted" ∧ y2 = "range" ∧ kw = "key") && (glB sc "sorted" && (glB sc "range" && (decide (("sorted" : Str) ∈ R.frs) && (decide (("range" : Str) ∈ R.frs) && (decide (trN N sc true t1 = some 1) && (decide (trN N sc true t2 = some 2) && (decide (trN N sc true t3 = some 3) && (decide (trN N sc true t4 = some 4)
    && (notComp e1 && (notComp e2 && (notComp e3 && (decide (trE R N 40 sc false e1 = some ie1) && (decide (trE R N 40 sc false e2 = some ie2) && (decide (trE R N 40 sc false e3 = some ie3) && (decide (trE R N 40 sc true em = some ieMk)
    && (decide (blk (trS R N (trE R N 40) sc [] 40) N [] rest = some post) && decide (sc.names.lookup ("script" : Str) = some .cell)))))))))))))))))
  | _ => false
section
variable {P : Program} {w : World} {K : PySem.W.Frag} {mg : Str → Option Value} {base : Heap} {R : Rw} {Φ : Nat → List D → Option D}
theorem law_k {n kl2 k : Nat} {ie1 ie2 ie3 : IE} {post : IS} {params : Arguments} {scope dsc : Scope} {body : List Stmt} {f c tP : Addr} {fd : FuncData} {N : List Str} (hF : FunD K "law" "law" params body scope [] [] f fd) (S : FnScope N ["script"] scope) (hR : R.ok Φ ⟨P, w, K, mg, base, N, scope, n, true⟩) (hNl : N.length = k + 5) (hN0 : N[0]? = some ("script" : Str))
    (hK : ∀ m, n = m + 2 → KeyCall P w K mg base (kwL body).1 (kwL body).2 (kwS dsc body) m (Φ kl2)) (hK0 : n < 2 → ∀ ds, Φ kl2 ds = none) (B : LamK (kwS dsc body)) (hdef : ∀ env, defaultsOf (kwL body).1 env = ([], [])) (hql : ((("law" : Str) ++ ".<locals>.") ++ "<lambda>" : Str) = lamQ)
    (hcd : fd.code = .ref c) (hT : tP ∈ tabP K) (TB : LamX.TabB base mg c tP) (hc : lawChk R N ie1 ie2 ie3 post scope body = true) : FnOk P w K mg base CX0 (n + 1) f fd ["script"] (spF K [false] (lawD kl2 ie1 ie2 ie3 post k Φ)) := by
  have hlen : ∀ vs H (Q : VK) (E : XK), spF K [false] (lawD kl2 ie1 ie2 ie3 post k Φ) vs H Q E → vs.length = (["script"] : List Str).length := fun vs H Q E h => by
    obtain ⟨O, ds, d, _, ha, hf, _⟩ := h
    obtain ⟨⟨_, _, _, _, _, rfl, _⟩, _⟩ := lawD_some hf
    rw [ha.len]
    rfl
  obtain ⟨oc, od, dV, kV, doc, pm', an, cdv, ct, osl, rfl, lk, hcg, _, _⟩ := hF.ex
  have hcd : cdv = .ref c := hcd
  unfold lawChk at hc
  split at hc
  case h_2 => cases hc
  rename_i t1 e1 p1 t2 e2 p2 t3 e3 p3 t4 y1 p4 y2 p5 em p6 kw lp lb ls lpos kp p7 p8 rest
  simp only [Bool.and_eq_true, decide_eq_true_eq] at hc
  obtain ⟨⟨rfl, rfl, rfl⟩, k2, k3, k4, k5, k6, k7, k8, k9, k10, k11, k12, k13, k14, k15, k16, k17, k18⟩ := hc
  have hK : ∀ m, n = m + 2 → KeyCall P w K mg base lp lb ls m (Φ kl2) := hK
  have B : LamK ls := B
  have hdef : ∀ env, defaultsOf lp env = ([], []) := hdef
  refine fn_of lk hcg S hlen fun A outer s H vs Q E hr hsp => ?_
  obtain ⟨O, ds, d0, al, ha, hf, hQ⟩ := hsp
  obtain ⟨⟨sd, wb, e, d, m, rfl, f1, f2, f3, f4, m1, m2, f5, f6⟩, rfl⟩ := lawD_some hf
  obtain ⟨v, rfl, hv⟩ := one_arg2 ha
  let C : Fam := ⟨P, w, K, mg, base, N, scope, n, true⟩
  let Z : Cx := (cxOf CX0 P w K mg base N "law" scope f cdv A outer s H E).nox
  have hZ : C.ok Z := ⟨rfl, rfl, rfl, rfl, rfl, rfl, rfl, rfl, hr, rfl, fun _ _ => rfl⟩
  have nd : C.N.Nodup := hR.nd
  have Sn := trE_ok R N Φ 40
  have T1 := trN_ok (C := C) k6
  have T2 := trN_ok (C := C) k7
  have T3 := trN_ok (C := C) k8
  have T4 := trN_ok (C := C) k9
  obtain ⟨te1, r1, q1⟩ := (Sn C rfl hR _ _ _ k13).se rfl
  obtain ⟨te2, r2, q2⟩ := (Sn C rfl hR _ _ _ k14).se rfl
  obtain ⟨te3, r3, q3⟩ := (Sn C rfl hR _ _ _ k15).se rfl
  have Gm := Sn C rfl hR _ _ _ k16
  obtain ⟨tem, r4, q4⟩ := Gm.sb
  obtain ⟨tpo, r5, q5⟩ := blk_ok (trS_ok (ow := []) (C := C) Sn rfl hR S.kind rfl 40) k17
  have gs := glB_ok k2
  have gr := glB_ok k3
  -- the range
  have peR := pe_callTy (X := Z) (p := p5) (pos := p6) cr_range1 (show Z.env.scope.names.lookup ("range" : Str) = _ from gr.1) (hR.fr _ k5) (by decide +kernel) (pa_cons (r4 Z hZ) pa_nil (star_ok Gm.pl)) (by decide) (by decide) (star_ok Gm.pl) rfl
  let tR : TE := tCB (fun vs H Q => ∃ j, vs = [V.int j] ∧ ∀ p, H p = none → Q (.ref p) (upd H p (.rng 0 j))) (tCons tem tNil)
  let tS : TE := fun σ H1 Q => tCons tR tNil σ H1 fun zs H2 => ∃ (p : Addr) (O' : List Addr) (sv : V), zs = [.ref p] ∧ H2 p = some (.rng 0 (m : Int)) ∧ σ[0]? = some (some sv) ∧ Al K O' H2 ∧ Dr K (mi H2 O') sv sd ∧
    ∀ (H3 : Hp) (q : Addr) (l : List Int), Same H2 H3 → H3 q = some (.lst (l.map V.int)) → l.Perm ((List.range m).map fun j : Nat => (j : Int)) → q ∉ O' → Q (.ref q) H3
  have peS : PE Z (.Call (.Name "sorted" p4) [.Call (.Name "range" p5) [em] [] p6] [⟨some "key", .Lambda lp lb ls lpos, kp⟩] p7) tS := by
    refine ⟨fun pins s1 σ1 H1 Q1 I1 h1 => ?_⟩
    refine wpAny_Call_Name_kw (ld_blt I1 (show Z.env.scope.names.lookup ("sorted" : Str) = _ from gs.1) (hR.fr _ k4) (show bootBuiltins ("sorted" : Str) = some (.builtin "sorted") by decide +kernel) ?_)
    refine PyProof.Rows.callWith_kw (thn ((pa_cons peR pa_nil (star_ok rfl)).run p7 pins s1 σ1 H1 _ I1 h1) fun us s2 ⟨zs, H2, I2, rvs, hz⟩ => ?_) rfl rfl rfl rfl
    obtain ⟨p, O', sv, rfl, hp, hs0, al2, hsv, hq⟩ := hz
    obtain rfl : us = [.ref p] := by
      cases rvs with
      | cons a1 a2 =>
        cases a2
        have a1 : _ = Value.ref p := a1
        rw [a1]
    show wpAny _ _ (evalAll ((do let v ← eval (.Lambda lp lb ls lpos) Z.env; standAt p7; pure v) :: [])) _ _ s2
    have hfree : ∀ y ∈ ls.names, y.2 = .free → ∃ c, Z.env.cells.lookup y.1 = some c := fun y hy e => by
      rw [B.fre y hy e]
      exact I2.ok.has _ (.inl k18)
    refine wpAny_evalAll_cons (wpAny_bind (lam_make3 (tP := tP) (c := c) I2 TB hcd hql (al2.tb tP hT) (hdef _) hfree fun fl cd pm ctv H4 s4 I4 sm hob hnf hfr hco => wpAny_bind (wpAny_standAt (wpAny_pure (wpAny_evalAll_nil ?_)))))
    show wpAny _ _ (call (.builtin "sorted") [.ref p] [(Str.ofString "key", .ref fl)]) _ _ s4
    obtain ⟨mm, _, hl⟩ := I4.loc
    obtain ⟨uu, ru, lk2⟩ := hl 0 "script" sv hN0 hs0 (.inr (.inl k18))
    have hcell : ∃ cc, Z.env.cells.lookup ("script" : Str) = some cc ∧ s4.heap.IsCell cc (some uu) := by
      rcases lk2 with ⟨z, _⟩ | ⟨_, cc, e1, e2⟩
      · have z : scope.names.lookup ("script" : Str) = some .local := z
        rw [k18] at z; cases z
      · exact ⟨cc, e1, e2⟩
    obtain ⟨cc, ec, ic⟩ := hcell
    rw [B.clos ec] at hob
    have LS : LamStK (PySem.W.kla_obj "<lambda>" lamQ lp lb ls [(("script" : Str), cc)] pm cd ctv) fl cc uu s4 H4 Z.stack := ⟨hob, hnf, hfr, ic, I4.freeC _ _ ec⟩
    obtain ⟨ta, tb, tc, hrng⟩ := I4.hok p _ (sm.at hp)
    obtain ⟨n', rfl⟩ : ∃ n', n = n' + 2 := by
      refine ⟨n - 2, ?_⟩
      rcases Nat.lt_or_ge n 2 with z | z
      · obtain ⟨i, hi⟩ := f5 0 (by omega)
        rw [hK0 z] at hi
        cases hi
      · omega
    have HK := hK n' rfl
    refine sorted_key (m := m) (hZ.calm) I4 LS hrng m2 (fun Dl kS e1 ks s' H' j tk hj K' => ?_) fun H' s' Dl l I9 sm9 n9 pm9 => ⟨.ref Dl, _, I9, rfl, ?_⟩
    · obtain ⟨i, hi⟩ := f5 j hj
      have al' : Al K O' H' := (al2.mono sm).mono K'.sm
      exact HK _ _ s' H' _ uu (.int (j : Int)) sv (.int (j : Int)) sd (.int i) _ O' fl cc cd pm ctv (hZ.room.in1.in1) K'.I.env0.in1.in1 K'.L (K'.sm.at hco) ⟨tk, rfl⟩ ru al' (.int _) (Dr.mono (mi_same K'.sm) _ (Dr.mono (mi_same sm) _ hsv)) hi fun v2 H2' s2' hv2 => by
        cases hv2
        exact ⟨i, rfl, s2'⟩
    · exact hq _ Dl l ((sm.trans sm9).trans (same_upd n9)) upd_same pm9 (((al2.mono sm).mono sm9).out n9)
  refine ⟨tSeq (tAsg te1 (gName 1)) (tSeq (tAsg te2 (gName 2)) (tSeq (tAsg te3 (gName 3)) (tSeq (tAsg tS (gName 4)) tpo))),
    PSs.nox (pss_cons (T1.set nd hZ (r1 Z hZ) k10) (pss_cons (T2.set nd hZ (r2 Z hZ) k11) (pss_cons (T3.set nd hZ (r3 Z hZ) k12) (pss_cons (T4.set nd hZ peS rfl) (r5 Z hZ))))), ?_⟩
  have noi : ∀ {env0 : En} {j : Nat} {x : Sl} {a : Nat}, (List.replicate a Sl.no)[j]? = some x → x = .no := fun {env0 j x a} hq => by
    rw [List.getElem?_replicate] at hq
    split at hq
    · cases hq; rfl
    · cases hq
  have hlS : (L2.start N [v]).length = k + 5 := by
    unfold L2.start
    rw [List.length_append, List.length_map, List.length_replicate, hNl]
    simp
    omega
  have re : Re K O (L2.start N [v]) H (.val sd :: List.replicate (k + 4) .no) := {
    len := by rw [hlS]; simp
    al := al
    val := fun j z qz => by
      match j, qz with
      | 0, qz => cases qz; exact ⟨v, rfl, hv⟩
      | j + 1, qz => exact absurd (noi (env0 := []) (by simpa using qz)) (by simp)
    own := fun j z qz => by
      match j, qz with
      | 0, qz => cases qz
      | j + 1, qz => exact absurd (noi (env0 := []) (by simpa using qz)) (by simp)
    bor := fun j z qz => by
      match j, qz with
      | 0, qz => cases qz
      | j + 1, qz => exact absurd (noi (env0 := []) (by simpa using qz)) (by simp) }
  refine q1 O _ H _ _ wb re f1 fun v1 H1 s1 hv1 => ?_
  have re1 : Re K O ((L2.start N [v]).set 1 (some v1)) H1 (.val sd :: .val wb :: List.replicate (k + 3) .no) := (re.mono s1).set (i := 1) hv1
  refine q2 O _ H1 _ _ e re1 f2 fun v2 H2 s2 hv2 => ?_
  have re2 : Re K O (((L2.start N [v]).set 1 (some v1)).set 2 (some v2)) H2 (.val sd :: .val wb :: .val e :: List.replicate (k + 2) .no) := (re1.mono s2).set (i := 2) hv2
  refine q3 O _ H2 _ _ d re2 f3 fun v3 H3 s3 hv3 => ?_
  have re3 : Re K O ((((L2.start N [v]).set 1 (some v1)).set 2 (some v2)).set 3 (some v3)) H3 (.val sd :: .val wb :: .val e :: .val d :: List.replicate (k + 1) .no) := (re2.mono s3).set (i := 3) hv3
  have s13 := (s1.trans s2).trans s3
  refine q4 O _ H3 _ _ (.int (m : Int)) re3 f4 fun v4 H4 s4 hv4 => ⟨(m : Int), by cases hv4.int; rfl, fun p hp => ?_⟩
  have s35 := s4.trans (same_upd (o := .rng 0 (m : Int)) hp)
  have re5 := re3.mono s35
  obtain ⟨sv, hs0, hdv⟩ := re5.val 0 sd rfl
  refine ⟨p, O, sv, rfl, upd_same, hs0, re5.al, hdv, fun H6 q l s6 hq6 pm hqO => ?_⟩
  have re6 : Re K O (((((L2.start N [v]).set 1 (some v1)).set 2 (some v2)).set 3 (some v3)).set 4 (some (.ref q))) H6 (.val sd :: .val wb :: .val e :: .val d :: .val (.list (l.map .int)) :: List.replicate k .no) := by
    refine (re5.mono s6).set (i := 4) (.lst (xs := l.map V.int) ?_ (DrA.ints l))
    rw [mi_out hqO, hq6]
    rfl
  refine q5 O H6 [] _ H6 _ _ _ (rf_of re6 fun i ds hi => ?_) (f6 l pm) fun v7 H7 s7 hv7 => ?_
  · match i, hi with
    | 0, hi => cases hi
    | 1, hi => cases hi
    | 2, hi => cases hi
    | 3, hi => cases hi
    | 4, hi => cases hi
    | i + 5, hi => exact absurd (noi (env0 := []) (by simpa using hi)) (by simp)
  · exact hQ v7 H7 (((s13.trans s35).trans s6).trans s7) hv7
end
end J

/-! Rows with such a law: the lambda, by fuel. -/
namespace J
open PySem PySem.Spec PyProof.Rows L2
def ExK (P : Program) (w : World) (K : PySem.W.Frag) (mg : Str → Option Value) (base : Heap) (lp : Arguments) (lb : Expr) (ls : Scope) (kl kl1 kl2 : Nat) (n : Nat) (Φ : Nat → List D → Option D) : Prop :=
  KeyCall P w K mg base lp lb ls n (Φ kl) ∧ (∀ m, n = m + 1 → KeyCall P w K mg base lp lb ls m (Φ kl1)) ∧ (∀ m, n = m + 2 → KeyCall P w K mg base lp lb ls m (Φ kl2)) ∧ (n < 1 → ∀ ds, Φ kl1 ds = none) ∧ (n < 2 → ∀ ds, Φ kl2 ds = none)
section
variable {P : Program} {w : World} {K : PySem.W.Frag} {mg : Str → Option Value} {base : Heap} {R : Rw} {tab : Nat → Option Fd} {ext : Nat → (Nat → List D → Option D) → List D → Option D}
theorem exK_all {kl kl1 kl2 : Nat} {lp : Arguments} {lb : Expr} {ls : Scope} {ib : IE} (B : LamK ls) (hbd : trE R keyN 40 ls false lb = some ib) (hbind : ∀ (cl : List (Str × Addr)) (pm cv ctv u : Value), bindArgs (PySem.W.kla_fn "<lambda>" lamQ lp lb ls cl pm cv ctv) ⟨[u], []⟩ = pure [(("k" : Str), u)])
    (k0 : tab kl = none) (k1 : tab kl1 = none) (k2 : tab kl2 = none) (x0 : ∀ Φ, ext kl Φ = keyD ib Φ) (x1 : ∀ Φ, ext kl1 Φ = Φ kl) (x2 : ∀ Φ, ext kl2 Φ = Φ kl1) :
    ExK P w K mg base lp lb ls kl kl1 kl2 0 (Phi tab ext 0) ∧ ∀ n, (∀ j, j ≤ n → ∀ (N : List Str) (sc : Scope), N.Nodup → R.ok (Phi tab ext j) ⟨P, w, K, mg, base, N, sc, j, true⟩) → ExK P w K mg base lp lb ls kl kl1 kl2 n (Phi tab ext n) → ExK P w K mg base lp lb ls kl kl1 kl2 (n + 1) (Phi tab ext (n + 1)) := by
  have sx : ∀ n k, tab k = none → Phi tab ext (n + 1) k = ext k (Phi tab ext n) := fun n k h => by
    show stepP tab ext (Phi tab ext n) k = _
    unfold stepP; rw [h]
  refine ⟨⟨?_, fun m h => by omega, fun m h => by omega, fun _ ds => rfl, fun _ ds => rfl⟩, fun n hR E => ⟨?_, fun m h => ?_, fun m h => ?_, fun h => by omega, fun h ds => ?_⟩⟩
  · intro A outer s H u uv v sv d sd r Q O f cc cd pm ctv _ _ _ _ _ _ _ _ _ h
    cases h
  · rw [sx n kl k0, x0]
    have h := hR n (Nat.le_refl n) keyN ls (by decide +kernel)
    exact key_call B ⟨h.nd, fun p hp => ⟨(h.fn p hp).ex⟩, h.fr, h.cs⟩ hbd hbind
  · have e : m = n := by omega
    subst e
    rw [sx m kl1 k1, x1]
    exact E.1
  · rw [sx n kl2 k2, x2]
    exact E.2.1 m (by omega)
  · rw [sx n kl2 k2, x2]
    exact E.2.2.2.1 (by omega) ds
end
end J

namespace J
open PySem
/-- written -/
def fd0 : Fd := ⟨[false], 5, (.seq (.set 1 (.comp (.bin .Add (.bin .Add (.bin .Add (.bin .Add (.bi .str (.cons (.bv 2) .nil)) (.cs (Str.ofString "-"))) (.bi .str (.cons (.bv 3) .nil))) (.cs (Str.ofString "="))) (.bi .str (.cons (.bv 4) .nil))) [2, 3, 4] (.ix (.bv 0) (.ci 1)) .nil [2, 3, 4])) (.seq (.ret (.join (.cs (Str.ofString " ")) (.bin .Add (.lst (.cons (.bi .str (.cons (.ix (.bv 0) (.ci 0)) .nil)) (.cons (.cs (Str.ofString ":")) .nil))) (.bv 1)))) .skip))⟩
/-- _law_cell_at -/
def fd1 : Fd := ⟨[false, false], 2, (.seq (.ifs (.cmp .Lt (.bv 1) (.bi .len (.cons (.bv 0) .nil))) (.seq (.ret (.ix (.bv 0) (.bv 1))) .skip) .skip) (.seq (.ret (.ci 0)) .skip))⟩
/-- _law_mixed -/
def fd2 : Fd := ⟨[false, false], 3, (.seq (.set 2 (.bin .Mod (.bin .Mult (.bin .Add (.bin .Add (.call 1 (.cons (.var 0) (.cons (.var 1) .nil))) (.bin .Mult (.ci 7919) (.bv 1))) (.ci 1)) (.ci 48271)) (.ci 2147483647))) (.seq (.ret (.bin .Mod (.bin .Add (.bin .Add (.bin .Mult (.bv 2) (.bv 2)) (.bin .Mult (.ci 7) (.bv 2))) (.bv 1)) (.ci 2147483629))) .skip))⟩
/-- _law_drawn -/
def fd3 : Fd := ⟨[false, false], 3, (.seq (.set 2 (.bin .Mod (.bin .Mult (.bin .Add (.bin .Add (.bv 0) (.bin .Mult (.ci 104729) (.bv 1))) (.ci 17)) (.ci 69621)) (.ci 2147483647))) (.seq (.ret (.bin .Mod (.bin .Add (.bin .Add (.bin .Mult (.bv 2) (.bv 2)) (.bin .Mult (.ci 3) (.bv 2))) (.bv 1)) (.ci 2147483629))) .skip))⟩
/-- _law_web -/
def fd4 : Fd := ⟨[false], 10, (.seq (.set 1 (.ix (.tup (.cons (.ci 2) (.cons (.ci 3) (.cons (.ci 4) (.cons (.ci 5) (.cons (.ci 6) (.cons (.ci 7) (.cons (.ci 4) (.cons (.ci 1) .nil))))))))) (.bin .Mod (.bv 0) (.ci 8)))) (.seq (.set 2 (.ix (.tup (.cons (.ci 1) (.cons (.ci 3) (.cons (.ci 10) (.cons (.ci 100) .nil))))) (.bin .Mod (.bin .FloorDiv (.bv 0) (.ci 8)) (.ci 4)))) (.seq (.setO 3 (.lst .nil)) (.seq (.for_ [4] (.rg (.ci 1) (.bv 1)) (.seq (.set 5 (.bin .FloorDiv (.call 3 (.cons (.var 0) (.cons (.var 4) .nil))) (.ci 4))) (.seq (.ifs (.cmp .Gt (.bin .Mod (.bv 5) (.ci 16)) (.ci 0)) (.seq (.app 3 (.tup (.cons (.bin .Mod (.bin .FloorDiv (.bv 5) (.ci 16)) (.bv 4)) (.cons (.var 4) (.cons (.bin .Mod (.bin .FloorDiv (.bv 5) (.ci 512)) (.bv 2)) .nil))))) .skip) .skip) .skip))) (.seq (.ifs (.cmp .Gt (.bv 1) (.ci 1)) (.seq (.for_ [6] (.rg (.ci 0) (.bin .Mod (.bin .FloorDiv (.bv 0) (.ci 32)) (.bin .Sub (.ci 11) (.bi .len (.cons (.bv 3) .nil))))) (.seq (.set 5 (.bin .FloorDiv (.call 3 (.cons (.var 0) (.cons (.bin .Add (.ci 20) (.bv 6)) .nil))) (.ci 4))) (.seq (.set 7 (.bin .Mod (.bv 5) (.bv 1))) (.seq (.set 8 (.bin .Mod (.bin .Add (.bin .Add (.bv 7) (.ci 1)) (.bin .Mod (.bin .FloorDiv (.bv 5) (.ci 8)) (.bin .Sub (.bv 1) (.ci 1)))) (.bv 1))) (.seq (.app 3 (.tup (.cons (.bi .min (.cons (.bv 7) (.cons (.bv 8) .nil))) (.cons (.bi .max (.cons (.bv 7) (.cons (.bv 8) .nil))) (.cons (.bin .Mod (.bin .FloorDiv (.bv 5) (.ci 512)) (.bv 2)) .nil))))) .skip))))) .skip) .skip) (.seq (.shr 3) (.seq (.set 9 (.bin .Mod (.bin .FloorDiv (.bv 0) (.ci 1024)) (.ci 5))) (.seq (.ret (.tup (.cons (.var 1) (.cons (.bi .tuple (.cons (.bin .Add (.sl (.bv 3) (.bv 9) .nil) (.sl (.bv 3) .nil (.bv 9))) .nil)) .nil)))) .skip))))))))⟩
/-- is_number -/
def fd6 : Fd := ⟨[false, false, false], 3, (.seq (.ret (.an (.isi .int (.bv 0)) (.an (.nt (.isi .bool (.bv 0))) (.cmp2 .LtE .LtE (.bv 1) (.bv 0) (.bv 2))))) .skip)⟩
/-- are_some -/
def fd9 : Fd := ⟨[false, false], 5, (.seq (.ifs (.or (.nt (.isi .tuple (.bv 0))) (.nt (.bi .all (.cons (.comp (.call 6 (.cons (.var 2) (.cons (.ci 0) (.cons (.bin .Sub (.bv 1) (.ci 1)) .nil)))) [2] (.var 0) .nil [2]) .nil)))) (.seq (.ret (.cb false)) .skip) .skip) (.seq (.ret (.bi .all (.cons (.comp (.cmp .Lt (.bv 3) (.bv 4)) [3, 4] (.zip (.sl (.bv 0) .nil (.neg (.ci 1))) (.sl (.bv 0) (.ci 1) .nil)) .nil [3, 4]) .nil))) .skip))⟩
/-- _law_odd -/
def fd12 : Fd := ⟨[false], 2, (.seq (.set 1 (.lst (.cons (.neg (.ci 1)) (.cons (.ci 0) (.cons (.ci 1) (.cons (.ci 6) (.cons (.ci 7) (.cons (.ci 99) (.cons (.ci 100) (.cons (.cb true) (.cons (.cb false) (.cons .cn (.cons (.cs (Str.ofString "")) (.cons (.cs (Str.ofString "fences")) (.cons (.cs (Str.ofString "apart")) (.cons (.tup .nil) (.cons (.lst .nil) (.cons (.tup (.cons (.ci 0) .nil)) (.cons (.tup (.cons (.ci 0) (.cons (.ci 1) .nil))) (.cons (.tup (.cons (.ci 1) (.cons (.ci 0) .nil))) (.cons (.tup (.cons (.ci 0) (.cons (.ci 1) (.cons (.ci 5) .nil)))) .nil))))))))))))))))))))) (.seq (.set 1 (.bin .Add (.bv 1) (.lst (.cons (.tup (.cons (.ci 1) (.cons (.ci 1) (.cons (.ci 2) .nil)))) (.cons (.tup (.cons (.ci 0) (.cons (.ci 1) (.cons (.cb true) .nil)))) (.cons (.tup (.cons (.cs (Str.ofString "apart")) .nil)) (.cons (.tup (.cons (.cs (Str.ofString "fences")) (.cons (.tup .nil) .nil))) (.cons (.tup (.cons (.ci 1) (.cons (.ci 2) .nil))) (.cons (.tup (.cons (.ci 2) (.cons (.ci 4) .nil))) (.cons (.tup (.cons (.ci 0) (.cons (.ci 9) (.cons (.ci 1) .nil)))) (.cons (.lst (.cons (.ci 0) .nil)) (.cons (.tup (.cons (.tup (.cons (.ci 0) .nil)) (.cons (.tup (.cons (.ci 1) (.cons (.ci 1) .nil))) .nil))) .nil)))))))))))) (.seq (.ret (.ix (.bin .Add (.bv 1) (.lst (.cons (.tup (.cons (.cs (Str.ofString "cases")) (.cons (.ci 0) .nil))) (.cons (.tup (.cons (.ci 0) (.cons (.ci 0) .nil))) (.cons (.cs (Str.ofString "0")) (.cons (.bin .Pow (.ci 10) (.ci 30)) .nil)))))) (.bin .Mod (.bv 0) (.ci 32)))) .skip)))⟩
/-- _law_spoilt -/
def fd13 : Fd := ⟨[false, false, false], 5, (.seq (.ifs (.an (.cmp .Gt (.bv 2) (.ci 0)) (.an (.isi .tuple (.bv 0)) (.an (.cmp .Gt (.bi .len (.cons (.bv 0) .nil)) (.ci 0)) (.cmp .Gt (.bin .Mod (.bv 1) (.ci 6)) (.ci 0))))) (.seq (.set 3 (.bin .Mod (.bin .FloorDiv (.bv 1) (.ci 6)) (.bi .len (.cons (.bv 0) .nil)))) (.seq (.set 4 (.call 13 (.cons (.ix (.bv 0) (.bv 3)) (.cons (.bin .FloorDiv (.bv 1) (.ci 126)) (.cons (.bin .Sub (.bv 2) (.ci 1)) .nil))))) (.seq (.ret (.bin .Add (.bin .Add (.sl (.bv 0) .nil (.bv 3)) (.tup (.cons (.var 4) .nil))) (.sl (.bv 0) (.bin .Add (.bv 3) (.ci 1)) .nil))) .skip))) .skip) (.seq (.ifs (.an (.isi .tuple (.bv 0)) (.an (.cmp .Gt (.bi .len (.cons (.bv 0) .nil)) (.ci 0)) (.cmp .Eq (.bin .Mod (.bin .FloorDiv (.bv 1) (.ci 6)) (.ci 2)) (.ci 0)))) (.seq (.ret (.ix (.lst (.cons (.bi .list (.cons (.bv 0) .nil)) (.cons (.sl (.bv 0) .nil (.neg (.ci 1))) (.cons (.bin .Add (.bv 0) (.sl (.bv 0) (.neg (.ci 1)) .nil)) (.cons (.sl (.bv 0) (.ci 1) .nil) (.cons (.rev (.bv 0)) (.cons (.bin .Mult (.bv 0) (.ci 2)) .nil))))))) (.bin .Mod (.bin .FloorDiv (.bv 1) (.ci 12)) (.ci 6)))) .skip) .skip) (.seq (.ifs (.an (.isi .int (.bv 0)) (.cmp .Eq (.bin .Mod (.bin .FloorDiv (.bv 1) (.ci 6)) (.ci 2)) (.ci 0))) (.seq (.ret (.ix (.lst (.cons (.bi .str (.cons (.bv 0) .nil)) (.cons (.neg (.bv 0)) (.cons (.bin .Add (.bv 0) (.ci 1)) (.cons (.cmp .Eq (.bv 0) (.ci 1)) (.cons (.bin .Sub (.bv 0) (.ci 1)) (.cons (.bin .Add (.bv 0) (.ci 50)) .nil))))))) (.bin .Mod (.bin .FloorDiv (.bv 1) (.ci 12)) (.ci 6)))) .skip) .skip) (.seq (.ret (.call 12 (.cons (.bin .FloorDiv (.bv 1) (.ci 6)) .nil))) .skip))))⟩
/-- pieces -/
def fd19 : Fd := ⟨[false, false], 10, (.seq (.set 2 (.rgL (.ci 0) (.ix (.bv 0) (.ci 0)))) (.seq (.for_ [3] (.var 1) (.seq (.unp [4, 5, 6] (.ix (.ix (.bv 0) (.ci 1)) (.bv 3))) (.seq (.set 7 (.bi .min (.cons (.ix (.bv 2) (.bv 4)) (.cons (.ix (.bv 2) (.bv 5)) .nil)))) (.seq (.set 8 (.bi .max (.cons (.ix (.bv 2) (.bv 4)) (.cons (.ix (.bv 2) (.bv 5)) .nil)))) (.seq (.set 2 (.comp (.ix (.lst (.cons (.var 9) (.cons (.var 7) .nil))) (.bi .int (.cons (.cmp .Eq (.bv 9) (.bv 8)) .nil))) [9] (.var 2) .nil [9])) .skip))))) (.seq (.ret (.var 2)) .skip)))⟩
/-- joins -/
def fd20 : Fd := ⟨[false, false, false], 5, (.seq (.set 3 (.call 19 (.cons (.var 0) (.cons (.var 1) .nil)))) (.seq (.ret (.cmp .LtE (.lset (.comp (.ix (.bv 3) (.bv 4)) [4] (.var 2) .nil [4])) (.ci 1))) .skip))⟩
/-- cost -/
def fd21 : Fd := ⟨[false, false], 3, (.seq (.ret (.bi .sum (.cons (.comp (.ix (.ix (.ix (.bv 0) (.ci 1)) (.bv 2)) (.ci 2)) [2] (.var 1) .nil [2]) .nil))) .skip)⟩
/-- is_tree -/
def fd22 : Fd := ⟨[false, false, false], 4, (.seq (.ifs (.or (.nt (.call 9 (.cons (.var 2) (.cons (.bi .len (.cons (.ix (.bv 0) (.ci 1)) .nil)) .nil)))) (.nt (.call 20 (.cons (.var 0) (.cons (.var 2) (.cons (.var 1) .nil)))))) (.seq (.ret (.cb false)) .skip) .skip) (.seq (.ret (.nt (.bi .any (.cons (.comp (.call 20 (.cons (.var 0) (.cons (.bin .Add (.sl (.bv 2) .nil (.bv 3)) (.sl (.bv 2) (.bin .Add (.bv 3) (.ci 1)) .nil)) (.cons (.var 1) .nil)))) [3] (.rg (.ci 0) (.bi .len (.cons (.bv 2) .nil))) .nil [3]) .nil)))) .skip))⟩
/-- pruned -/
def fd23 : Fd := ⟨[false, false, false], 7, (.seq (.set 3 (.var 1)) (.seq (.for_ [4] (.rev (.bv 1)) (.seq (.set 5 (.bi .tuple (.cons (.comp (.var 6) [6] (.var 3) (.cmp .NotEq (.bv 6) (.bv 4)) [6]) .nil))) (.seq (.ifs (.call 20 (.cons (.var 0) (.cons (.var 5) (.cons (.var 2) .nil)))) (.seq (.set 3 (.var 5)) .skip) .skip) .skip))) (.seq (.ret (.var 3)) .skip)))⟩
/-- _law_pieces -/
def fd24 : Fd := ⟨[false, false], 7, (.seq (.set 2 (.rgL (.ci 0) (.ix (.bv 0) (.ci 0)))) (.seq (.for_ [3] (.var 1) (.seq (.set 4 (.ix (.bv 2) (.ix (.ix (.ix (.bv 0) (.ci 1)) (.bv 3)) (.ci 0)))) (.seq (.set 5 (.ix (.bv 2) (.ix (.ix (.ix (.bv 0) (.ci 1)) (.bv 3)) (.ci 1)))) (.seq (.set 2 (.comp (.ix (.lst (.cons (.var 6) (.cons (.bi .min (.cons (.bv 4) (.cons (.bv 5) .nil))) .nil))) (.bi .int (.cons (.cmp .Eq (.bv 6) (.bi .max (.cons (.bv 4) (.cons (.bv 5) .nil)))) .nil))) [6] (.var 2) .nil [6])) .skip)))) (.seq (.ret (.var 2)) .skip)))⟩
/-- _law_joins -/
def fd25 : Fd := ⟨[false, false, false], 5, (.seq (.set 3 (.call 24 (.cons (.var 0) (.cons (.var 1) .nil)))) (.seq (.ret (.cmp .Eq (.comp (.var 4) [4] (.var 2) (.cmp .NotEq (.ix (.bv 3) (.bv 4)) (.ix (.bv 3) (.ix (.bv 2) (.ci 0)))) [4]) (.lst .nil))) .skip))⟩
/-- _law_cost -/
def fd26 : Fd := ⟨[false, false], 3, (.seq (.ret (.bi .sum (.cons (.comp (.ix (.ix (.ix (.bv 0) (.ci 1)) (.bv 2)) (.ci 2)) [2] (.var 1) .nil [2]) .nil))) .skip)⟩
/-- _law_are_some -/
def fd27 : Fd := ⟨[false, false], 3, (.seq (.ifs (.nt (.isi .tuple (.bv 0))) (.seq (.ret (.cb false)) .skip) .skip) (.seq (.for_ [2] (.var 0) (.seq (.ifs (.or (.nt (.isi .int (.bv 2))) (.or (.isi .bool (.bv 2)) (.nt (.cmp2 .LtE .Lt (.ci 0) (.bv 2) (.bv 1))))) (.seq (.ret (.cb false)) .skip) .skip) .skip)) (.seq (.ret (.cmp .Eq (.bi .list (.cons (.bv 0) .nil)) (.sset (.bv 0)))) .skip)))⟩
/-- _law_is_tree -/
def fd28 : Fd := ⟨[false, false, false], 5, (.seq (.ifs (.or (.nt (.call 27 (.cons (.var 2) (.cons (.bi .len (.cons (.ix (.bv 0) (.ci 1)) .nil)) .nil)))) (.nt (.call 25 (.cons (.var 0) (.cons (.var 2) (.cons (.var 1) .nil)))))) (.seq (.ret (.cb false)) .skip) .skip) (.seq (.for_ [3] (.var 2) (.seq (.ifs (.call 25 (.cons (.var 0) (.cons (.comp (.var 4) [4] (.var 2) (.cmp .NotEq (.bv 4) (.bv 3)) [4]) (.cons (.var 1) .nil)))) (.seq (.ret (.cb false)) .skip) .skip) .skip)) (.seq (.ret (.cb true)) .skip)))⟩
/-- _law_some -/
def fd30 : Fd := ⟨[false, false], 3, (.seq (.ret (.bi .tuple (.cons (.comp (.var 2) [2] (.rg (.ci 0) (.bi .len (.cons (.ix (.bv 0) (.ci 1)) .nil))) (.cmp .Gt (.bin .Mod (.bin .FloorDiv (.call 3 (.cons (.var 1) (.cons (.bin .Add (.ci 40) (.bv 2)) .nil))) (.ci 4)) (.ci 3)) (.ci 0)) [2]) .nil))) .skip)⟩
/-- kept_to -/
def fd32 : Fd := ⟨[false, false], 3, (.seq (.ret (.tup (.cons (.ix (.bv 0) (.ci 0)) (.cons (.bi .tuple (.cons (.comp (.ix (.ix (.bv 0) (.ci 1)) (.bv 2)) [2] (.var 1) .nil [2]) .nil)) .nil)))) .skip)⟩
/-- all_far -/
def fd33 : Fd := ⟨[false, false], 9, (.seq (.setO 2 (.bin .Mult (.lst (.cons .cn .nil)) (.ix (.bv 0) (.ci 0)))) (.seq (.sti 2 (.bv 1) (.ci 0)) (.seq (.for_ [3] (.rg (.ci 0) (.ix (.bv 0) (.ci 0))) (.seq (.for_ [4, 5, 6] (.ix (.bv 0) (.ci 1)) (.seq (.for_ [7, 8] (.tup (.cons (.tup (.cons (.var 4) (.cons (.var 5) .nil))) (.cons (.tup (.cons (.var 5) (.cons (.var 4) .nil))) .nil))) (.seq (.ifs (.an (.cmp .IsNot (.ix (.bv 2) (.bv 7)) .cn) (.or (.cmp .Is (.ix (.bv 2) (.bv 8)) .cn) (.cmp .Lt (.bin .Add (.ix (.bv 2) (.bv 7)) (.bv 6)) (.ix (.bv 2) (.bv 8))))) (.seq (.sti 2 (.bv 8) (.bin .Add (.ix (.bv 2) (.bv 7)) (.bv 6))) .skip) .skip) .skip)) .skip)) .skip)) (.seq (.shr 2) (.seq (.ret (.var 2)) .skip)))))⟩
/-- lesser -/
def fd34 : Fd := ⟨[false, false], 2, (.seq (.ifs (.or (.cmp .Is (.bv 0) .cn) (.an (.cmp .IsNot (.bv 1) .cn) (.cmp .Lt (.bv 1) (.bv 0)))) (.seq (.ret (.var 1)) .skip) .skip) (.seq (.ret (.var 0)) .skip))⟩
/-- both -/
def fd35 : Fd := ⟨[false, false], 2, (.seq (.ifs (.or (.cmp .Is (.bv 0) .cn) (.cmp .Is (.bv 1) .cn)) (.seq (.ret .cn) .skip) .skip) (.seq (.ret (.bin .Add (.bv 0) (.bv 1))) .skip))⟩
/-- spread -/
def fd36 : Fd := ⟨[false, false], 6, (.seq (.setO 2 (.lst .nil)) (.seq (.for_ [3] (.rg (.ci 0) (.bi .len (.cons (.bv 1) .nil))) (.seq (.set 4 .cn) (.seq (.for_ [5] (.rg (.ci 0) (.bi .len (.cons (.bv 1) .nil))) (.seq (.set 4 (.call 34 (.cons (.var 4) (.cons (.call 35 (.cons (.ix (.bv 1) (.bv 5)) (.cons (.ix (.ix (.bv 0) (.bv 5)) (.bv 3)) .nil))) .nil)))) .skip)) (.seq (.app 2 (.var 4)) .skip)))) (.seq (.shr 2) (.seq (.ret (.var 2)) .skip))))⟩
/-- table -/
def fd37 : Fd := ⟨[false, false], 9, (.seq (.set 2 (.comp (.call 33 (.cons (.var 0) (.cons (.var 3) .nil))) [3] (.rg (.ci 0) (.ix (.bv 0) (.ci 0))) .nil [3])) (.seq (.setO 4 (.lst (.cons (.bin .Mult (.lst (.cons (.ci 0) .nil)) (.ix (.bv 0) (.ci 0))) .nil))) (.seq (.set 5 (.ci 1)) (.seq (.for_ [6] (.var 1) (.seq (.for_ [7] (.rg (.bv 5) (.bin .Mult (.ci 2) (.bv 5))) (.seq (.ifs (.cmp .Eq (.bv 7) (.bv 5)) (.seq (.app 4 (.bi .list (.cons (.ix (.bv 2) (.bv 6)) .nil))) .skip) (.seq (.app 4 (.call 36 (.cons (.var 2) (.cons (.call 38 (.cons (.bv 4) (.cons (.var 7) (.cons (.ix (.bv 0) (.ci 0)) .nil)))) .nil)))) .skip)) .skip)) (.seq (.set 5 (.bin .Mult (.ci 2) (.bv 5))) .skip))) (.seq (.shr 4) (.seq (.ret (.bi .tuple (.cons (.comp (.bi .tuple (.cons (.bv 8) .nil)) [8] (.var 4) .nil [8]) .nil))) .skip))))))⟩
/-- parted_row -/
def fd38 : Fd := ⟨[true, false, false], 6, (.seq (.setO 3 (.bin .Mult (.lst (.cons .cn .nil)) (.bv 2))) (.seq (.for_ [4] (.rg (.ci 1) (.bv 1)) (.seq (.ifs (.cmp .Eq (.bin .BitAnd (.bv 4) (.bv 1)) (.bv 4)) (.seq (.for_ [5] (.rg (.ci 0) (.bv 2)) (.seq (.sti 3 (.bv 5) (.call 34 (.cons (.ix (.bv 3) (.bv 5)) (.cons (.call 35 (.cons (.ix (.ix (.bv 0) (.bv 4)) (.bv 5)) (.cons (.ix (.ix (.bv 0) (.bin .Sub (.bv 1) (.bv 4))) (.bv 5)) .nil))) .nil)))) .skip)) .skip) .skip) .skip)) (.seq (.shr 3) (.seq (.ret (.var 3)) .skip))))⟩
/-- least_cost -/
def fd39 : Fd := ⟨[false, false], 2, (.seq (.ret (.ix (.ix (.call 37 (.cons (.var 0) (.cons (.var 1) .nil))) (.neg (.ci 1))) (.ix (.bv 1) (.ci 0)))) .skip)⟩
/-- cheapest -/
def fd40 : Fd := ⟨[false, false], 7, (.seq (.set 2 (.call 39 (.cons (.var 0) (.cons (.var 1) .nil)))) (.seq (.ifs (.cmp .Is (.bv 2) .cn) (.seq .nev .skip) .skip) (.seq (.set 3 (.rgT (.ci 0) (.bi .len (.cons (.ix (.bv 0) (.ci 1)) .nil)))) (.seq (.for_ [4] (.rg (.ci 0) (.bi .len (.cons (.ix (.bv 0) (.ci 1)) .nil))) (.seq (.set 5 (.bi .tuple (.cons (.comp (.var 6) [6] (.var 3) (.cmp .NotEq (.bv 6) (.bv 4)) [6]) .nil))) (.seq (.ifs (.cmp .Eq (.call 39 (.cons (.call 32 (.cons (.var 0) (.cons (.var 5) .nil))) (.cons (.var 1) .nil))) (.bv 2)) (.seq (.set 3 (.var 5)) .skip) .skip) .skip))) (.seq (.ret (.var 3)) .skip)))))⟩
/-- without_tie -/
def fd46 : Fd := ⟨[false, false], 2, (.seq (.ret (.tup (.cons (.ix (.bv 0) (.ci 0)) (.cons (.bin .Add (.sl (.ix (.bv 0) (.ci 1)) .nil (.bv 1)) (.sl (.ix (.bv 0) (.ci 1)) (.bin .Add (.bv 1) (.ci 1)) .nil)) .nil)))) .skip)⟩
/-- at_once -/
def fd47 : Fd := ⟨[false, false, false], 6, (.seq (.unp [3, 4, 5] (.ix (.ix (.bv 0) (.ci 1)) (.bv 1))) (.seq (.ret (.tup (.cons (.ix (.bv 0) (.ci 0)) (.cons (.bin .Add (.bin .Add (.sl (.ix (.bv 0) (.ci 1)) .nil (.bv 1)) (.tup (.cons (.tup (.cons (.var 3) (.cons (.var 4) (.cons (.var 2) .nil)))) .nil))) (.sl (.ix (.bv 0) (.ci 1)) (.bin .Add (.bv 1) (.ci 1)) .nil)) .nil)))) .skip))⟩
/-- how_dear -/
def fd49 : Fd := ⟨[false, false, false], 3, (.seq (.ret (.ix (.call 33 (.cons (.var 0) (.cons (.var 1) .nil))) (.bv 2))) .skip)⟩
/-- renamed -/
def fd61 : Fd := ⟨[false, false], 6, (.seq (.setO 2 (.lst .nil)) (.seq (.for_ [3, 4, 5] (.ix (.bv 0) (.ci 1)) (.seq (.app 2 (.tup (.cons (.bi .min (.cons (.ix (.bv 1) (.bv 3)) (.cons (.ix (.bv 1) (.bv 4)) .nil))) (.cons (.bi .max (.cons (.ix (.bv 1) (.bv 3)) (.cons (.ix (.bv 1) (.bv 4)) .nil))) (.cons (.var 5) .nil))))) .skip)) (.seq (.shr 2) (.seq (.ret (.tup (.cons (.ix (.bv 0) (.ci 0)) (.cons (.bi .tuple (.cons (.bv 2) .nil)) .nil)))) .skip))))⟩
/-- scaled -/
def fd62 : Fd := ⟨[false, false], 5, (.seq (.ret (.tup (.cons (.ix (.bv 0) (.ci 0)) (.cons (.bi .tuple (.cons (.comp (.tup (.cons (.var 2) (.cons (.var 3) (.cons (.bin .Mult (.bv 1) (.bv 4)) .nil)))) [2, 3, 4] (.ix (.bv 0) (.ci 1)) .nil [2, 3, 4]) .nil)) .nil)))) .skip)⟩
/-- parted -/
def fd63 : Fd := ⟨[false, false, false], 8, (.seq (.set 3 (.ix (.bv 0) (.ci 0))) (.seq (.unp [4, 5, 6] (.ix (.ix (.bv 0) (.ci 1)) (.bv 1))) (.seq (.set 7 (.bin .Add (.bin .Add (.sl (.ix (.bv 0) (.ci 1)) .nil (.bv 1)) (.tup (.cons (.tup (.cons (.var 4) (.cons (.var 3) (.cons (.var 2) .nil)))) .nil))) (.sl (.ix (.bv 0) (.ci 1)) (.bin .Add (.bv 1) (.ci 1)) .nil))) (.seq (.ret (.tup (.cons (.bin .Add (.bv 3) (.ci 1)) (.cons (.bin .Add (.bv 7) (.tup (.cons (.tup (.cons (.var 5) (.cons (.var 3) (.cons (.bin .Sub (.bv 6) (.bv 2)) .nil)))) .nil))) .nil)))) .skip))))⟩
/-- _law_no_less -/
def fd64 : Fd := ⟨[false, false], 2, (.seq (.ret (.or (.cmp .Is (.bv 1) .cn) (.an (.cmp .IsNot (.bv 0) .cn) (.cmp .LtE (.bv 0) (.bv 1))))) .skip)⟩
/-- _law_with_ties -/
def fd65 : Fd := ⟨[false, false, false, false], 9, (.seq (.set 4 (.bin .Mod (.bv 3) (.bi .len (.cons (.ix (.bv 0) (.ci 1)) .nil)))) (.seq (.set 5 (.ix (.ix (.bv 0) (.ci 1)) (.bv 4))) (.seq (.set 6 (.bin .Mod (.bin .FloorDiv (.bv 3) (.ci 16)) (.bin .Add (.ix (.bv 5) (.ci 2)) (.ci 1)))) (.seq (.set 7 (.bin .Add (.bin .Add (.bin .Add (.sl (.ix (.bv 0) (.ci 1)) .nil (.bv 4)) (.tup (.cons (.tup (.cons (.ix (.bv 5) (.ci 0)) (.cons (.ix (.bv 0) (.ci 0)) (.cons (.var 6) .nil)))) .nil))) (.sl (.ix (.bv 0) (.ci 1)) (.bin .Add (.bv 4) (.ci 1)) .nil)) (.tup (.cons (.tup (.cons (.ix (.bv 5) (.ci 1)) (.cons (.ix (.bv 0) (.ci 0)) (.cons (.bin .Sub (.ix (.bv 5) (.ci 2)) (.bv 6)) .nil)))) .nil)))) (.seq (.set 8 (.call 63 (.cons (.var 0) (.cons (.var 4) (.cons (.var 6) .nil))))) (.seq (.ifs (.or (.cmp .NotEq (.bv 8) (.tup (.cons (.bin .Add (.ix (.bv 0) (.ci 0)) (.ci 1)) (.cons (.var 7) .nil)))) (.cmp .NotEq (.call 39 (.cons (.var 8) (.cons (.var 1) .nil))) (.bv 2))) (.seq (.ret (.cb false)) .skip) .skip) (.seq (.set 8 (.call 46 (.cons (.var 0) (.cons (.var 4) .nil)))) (.seq (.ifs (.or (.cmp .NotEq (.bv 8) (.tup (.cons (.ix (.bv 0) (.ci 0)) (.cons (.bin .Add (.sl (.ix (.bv 0) (.ci 1)) .nil (.bv 4)) (.sl (.ix (.bv 0) (.ci 1)) (.bin .Add (.bv 4) (.ci 1)) .nil)) .nil)))) (.nt (.call 64 (.cons (.var 2) (.cons (.call 39 (.cons (.var 8) (.cons (.var 1) .nil))) .nil))))) (.seq (.ret (.cb false)) .skip) .skip) (.seq (.set 8 (.call 47 (.cons (.var 0) (.cons (.var 4) (.cons (.bin .Add (.ix (.bv 5) (.ci 2)) (.bv 6)) .nil))))) (.seq (.ifs (.cmp .NotEq (.bv 8) (.tup (.cons (.ix (.bv 0) (.ci 0)) (.cons (.bin .Add (.bin .Add (.sl (.ix (.bv 0) (.ci 1)) .nil (.bv 4)) (.tup (.cons (.bin .Add (.sl (.bv 5) .nil (.ci 2)) (.tup (.cons (.bin .Add (.ix (.bv 5) (.ci 2)) (.bv 6)) .nil))) .nil))) (.sl (.ix (.bv 0) (.ci 1)) (.bin .Add (.bv 4) (.ci 1)) .nil)) .nil)))) (.seq (.ret (.cb false)) .skip) .skip) (.seq (.ret (.call 64 (.cons (.var 2) (.cons (.call 39 (.cons (.var 8) (.cons (.var 1) .nil))) .nil)))) .skip)))))))))))⟩
def post66 : IS := (.seq (.set 5 (.comp (.tup (.cons (.bi .min (.cons (.ix (.bv 4) (.bv 6)) (.cons (.ix (.bv 4) (.bv 7)) .nil))) (.cons (.bi .max (.cons (.ix (.bv 4) (.bv 6)) (.cons (.ix (.bv 4) (.bv 7)) .nil))) (.cons (.var 8) .nil)))) [6, 7, 8] (.ix (.bv 1) (.ci 1)) .nil [6, 7, 8])) (.seq (.set 7 (.call 61 (.cons (.var 1) (.cons (.bi .tuple (.cons (.bv 4) .nil)) .nil)))) (.seq (.ifs (.cmp .NotEq (.bv 7) (.tup (.cons (.ix (.bv 1) (.ci 0)) (.cons (.bi .tuple (.cons (.bv 5) .nil)) .nil)))) (.seq (.ret (.cb false)) .skip) .skip) (.seq (.ifs (.cmp .NotEq (.call 39 (.cons (.var 7) (.cons (.bi .tuple (.cons (.bi .sorted (.cons (.comp (.ix (.bv 4) (.bv 9)) [9] (.var 2) .nil [9]) .nil)) .nil)) .nil))) (.bv 3)) (.seq (.ret (.cb false)) .skip) .skip) (.seq (.set 10 (.bin .Add (.ci 1) (.bin .Mod (.call 2 (.cons (.var 0) (.cons (.ci 3) .nil))) (.ci 9)))) (.seq (.set 7 (.call 62 (.cons (.var 1) (.cons (.var 10) .nil)))) (.seq (.ifs (.cmp .NotEq (.bv 7) (.tup (.cons (.ix (.bv 1) (.ci 0)) (.cons (.bi .tuple (.cons (.comp (.bin .Add (.sl (.bv 11) .nil (.ci 2)) (.tup (.cons (.bin .Mult (.bv 10) (.ix (.bv 11) (.ci 2))) .nil))) [11] (.ix (.bv 1) (.ci 1)) .nil [11]) .nil)) .nil)))) (.seq (.ret (.cb false)) .skip) .skip) (.seq (.set 12 (.call 39 (.cons (.var 7) (.cons (.var 2) .nil)))) (.seq (.ifs (.or (.cmp .NotEq (.cmp .Is (.bv 12) .cn) (.cmp .Is (.bv 3) .cn)) (.an (.cmp .IsNot (.bv 3) .cn) (.cmp .NotEq (.bv 12) (.bin .Mult (.bv 10) (.bv 3))))) (.seq (.ret (.cb false)) .skip) .skip) (.seq (.ret (.or (.cmp .Eq (.ix (.bv 1) (.ci 1)) (.tup .nil)) (.call 65 (.cons (.var 1) (.cons (.var 2) (.cons (.var 3) (.cons (.call 2 (.cons (.var 0) (.cons (.ci 4) .nil))) .nil))))))) .skip))))))))))
def tab : Nat → Option Fd
  | 0 => some fd0
  | 1 => some fd1
  | 2 => some fd2
  | 3 => some fd3
  | 4 => some fd4
  | 6 => some fd6
  | 9 => some fd9
  | 12 => some fd12
  | 13 => some fd13
  | 19 => some fd19
  | 20 => some fd20
  | 21 => some fd21
  | 22 => some fd22
  | 23 => some fd23
  | 24 => some fd24
  | 25 => some fd25
  | 26 => some fd26
  | 27 => some fd27
  | 28 => some fd28
  | 30 => some fd30
  | 32 => some fd32
  | 33 => some fd33
  | 34 => some fd34
  | 35 => some fd35
  | 36 => some fd36
  | 37 => some fd37
  | 38 => some fd38
  | 39 => some fd39
  | 40 => some fd40
  | 46 => some fd46
  | 47 => some fd47
  | 49 => some fd49
  | 61 => some fd61
  | 62 => some fd62
  | 63 => some fd63
  | 64 => some fd64
  | 65 => some fd65
  | _ => none
end J
namespace J
open PySem
/-- what the law of k70 draws -/
def ie70a : IE := .call 4 (.cons (.call 2 (.cons (.var 0) (.cons (.ci 0) .nil))) .nil)
def ie70b : IE := .call 11 (.cons (.call 2 (.cons (.var 0) (.cons (.ci 1) .nil))) (.cons (.var 1) (.cons (.ci 5) .nil)))
def ie70c : IE := .call 39 (.cons (.var 1) (.cons (.var 2) .nil))
def ie70k : IE := .call 3 (.cons (.call 2 (.cons (.var 1) (.cons (.ci 2) .nil))) (.cons (.var 0) .nil))
noncomputable def ext : Nat → (Nat → List D → Option D) → List D → Option D := fun k Φ => if k = 11 then endsF 3 Φ else if k = 43 then refF (List.replicate 2 false) (Φ 123) else if k = 84 then refF (List.replicate 3 false) (Φ 124) else if k = 101 then refF (List.replicate 2 false) (Φ 125) else if k = 86 then grownF Φ else if k = 130 then growD Φ else if k = 131 then Φ 132 else if k = 132 then initD else if k = 114 then putDD 114 133 Φ else if k = 116 then spoD 114 113 Φ else if k = 133 then lamD (.call 115 (.cons (.var 0) (.cons (.bin .FloorDiv (.bv 1) (.ci 4096)) .nil))) Φ else if k = 108 then tryF 105 136 .none ieTold 2 Φ else if k = 110 then tryF 105 136 (.bool true) (ieRight 8 0) 1 Φ else if k = 135 then tieXD 103 134 Φ else if k = 136 then readXD 103 134 104 135 8 0 Φ else if k = 66 then lawD 139 ie70a ie70b ie70c post66 8 Φ else if k = 137 then keyD ie70k Φ else if k = 138 then Φ 137 else if k = 139 then Φ 138 else fun _ => none
noncomputable abbrev Ph : Nat → Nat → List D → Option D := Phi tab ext
theorem atI_nat {α : Type} {xs : List α} {k : Nat} : L2.atI xs (k : Int) = xs[k]? := by
  unfold L2.atI L2.ixN
  by_cases h : k < xs.length
  · rw [if_pos (by omega), if_pos (by omega)]
    simp
  · rw [if_pos (by omega), if_neg (by omega), List.getElem?_eq_none (by omega)]
    rfl
theorem ix_scr {ns : List Int} {k : Nat} (h : k < ns.length) : opIx (scr ns) (.int k) = some (.int ns[k]) := by
  simp only [scr, opIx, objD_scr, if_true]
  rw [atI_map, Option.map_map, atI_nat, List.getElem?_eq_getElem h]
  rfl
theorem cell_at (n : Nat) (ns : List Int) (k : Nat) : Ph (n + 1) 1 [scr ns, .int k] = some (.int (ns.getD k 0)) := by
  show evF (Ph n) fd1 [scr ns, .int k] = _
  by_cases h : k < ns.length
  · have h' : (k : Int) < ns.length := by omega
    have hx := ix_scr h
    unfold scr at hx
    simp only [evF, start0, evS, evE, evA, evI, evO, evC, evR, getB, getV, evBi, biLen, biMin, biMax, biSum, biAll, biAny, biAbs, biInt, biStr, biTuple, biList, biSorted, opB, opAdd, opSub, opAnd, opPow, opC, opI, opIs, isNoneD, testD, bindT, bindEach, wipeE, opRg, evIsi, itemsD, seq2, opSl, opRev, Option.map_some, Option.map_none, List.length_cons, List.length_nil, List.getElem?_cons_zero, List.getElem?_cons_succ, List.set_cons_zero, List.set_cons_succ, List.cons_append, List.nil_append, List.replicate_succ, List.replicate_zero, if_true, if_false, reduceIte, Nat.reduceAdd, Nat.reduceSub, Nat.reduceLeDiff, Bool.true_and, Bool.and_true, Bool.false_and, Bool.and_false, reduceCtorEq, fd1, scr, objD_scr, List.length_map, hx, h', decide_true]
    simp [h]
  · have h' : ¬ (k : Int) < ns.length := by omega
    simp only [evF, start0, evS, evE, evA, evI, evO, evC, evR, getB, getV, evBi, biLen, biMin, biMax, biSum, biAll, biAny, biAbs, biInt, biStr, biTuple, biList, biSorted, opB, opAdd, opSub, opAnd, opPow, opC, opI, opIs, isNoneD, testD, bindT, bindEach, wipeE, opRg, evIsi, itemsD, seq2, opSl, opRev, Option.map_some, Option.map_none, List.length_cons, List.length_nil, List.getElem?_cons_zero, List.getElem?_cons_succ, List.set_cons_zero, List.set_cons_succ, List.cons_append, List.nil_append, List.replicate_succ, List.replicate_zero, if_true, if_false, reduceIte, Nat.reduceAdd, Nat.reduceSub, Nat.reduceLeDiff, Bool.true_and, Bool.and_true, Bool.false_and, Bool.and_false, reduceCtorEq, fd1, scr, objD_scr, List.length_map, h', decide_false]
    simp [h]
theorem mulOk_r {i j : Int} (h : j.natAbs < 2 ^ 64) : mulOk i j = true := by
  unfold mulOk
  simp [h]
theorem mulOk_l {i j : Int} (h : i.natAbs < 2 ^ 64) : mulOk i j = true := by
  unfold mulOk
  simp [h]
theorem mul_r {i j : Int} (h : j.natAbs < 2 ^ 64) : opMul (.int i) (.int j) = some (.int (i * j)) := by
  simp only [opMul, mulOk_r h, if_true]
theorem mul_l {i j : Int} (h : i.natAbs < 2 ^ 64) : opMul (.int i) (.int j) = some (.int (i * j)) := by
  simp only [opMul, mulOk_l h, if_true]
theorem modOk0 {i j : Int} (h : 0 < j) : opMod (.int i) (.int j) = some (.int (i % j)) := by
  simp only [opMod]
  rw [if_pos h]
def mix0 (ns : List Int) (k : Nat) : Int := (ns.getD k 0 + 7919 * k + 1) * 48271 % 2147483647
def mix (ns : List Int) (k : Nat) : Int := (mix0 ns k * mix0 ns k + 7 * mix0 ns k + k) % 2147483629
def drw0 (a k : Int) : Int := (a + 104729 * k + 17) * 69621 % 2147483647
def drw (a k : Int) : Int := (drw0 a k * drw0 a k + 3 * drw0 a k + k) % 2147483629
theorem mix0_b (ns : List Int) (k : Nat) : 0 ≤ mix0 ns k ∧ mix0 ns k < 2147483647 := by
  unfold mix0; omega
theorem drw0_b (a k : Int) : 0 ≤ drw0 a k ∧ drw0 a k < 2147483647 := by
  unfold drw0; omega
theorem mix_b (ns : List Int) (k : Nat) : 0 ≤ mix ns k ∧ mix ns k < 2147483629 := by
  unfold mix; omega
theorem drw_b (a k : Int) : 0 ≤ drw a k ∧ drw a k < 2147483629 := by
  unfold drw; omega
theorem mixed (n : Nat) (ns : List Int) (k : Nat) : Ph (n + 2) 2 [scr ns, .int k] = some (.int (mix ns k)) := by
  show evF (Ph (n + 1)) fd2 [scr ns, .int k] = _
  have b := mix0_b ns k
  simp only [evF, start0, evS, evE, evA, evI, evO, evC, evR, getB, getV, evBi, biLen, biMin, biMax, biSum, biAll, biAny, biAbs, biInt, biStr, biTuple, biList, biSorted, opB, opAdd, opSub, opAnd, opPow, opC, opI, opIs, isNoneD, testD, bindT, bindEach, wipeE, opRg, evIsi, itemsD, seq2, opSl, opRev, Option.map_some, Option.map_none, List.length_cons, List.length_nil, List.getElem?_cons_zero, List.getElem?_cons_succ, List.set_cons_zero, List.set_cons_succ, List.cons_append, List.nil_append, List.replicate_succ, List.replicate_zero, if_true, if_false, reduceIte, Nat.reduceAdd, Nat.reduceSub, Nat.reduceLeDiff, Bool.true_and, Bool.and_true, Bool.false_and, Bool.and_false, reduceCtorEq, fd2, cell_at, modOk0 (show (0 : Int) < 2147483647 from by decide), modOk0 (show (0 : Int) < 2147483629 from by decide), mul_l (i := 7919) (by decide), mul_r (j := 48271) (by decide), show (0 : Int) < 2147483647 from by decide]
  rw [show (ns.getD k 0 + 7919 * (k : Int) + 1) * 48271 % 2147483647 = mix0 ns k from rfl]
  simp only [evF, start0, evS, evE, evA, evI, evO, evC, evR, getB, getV, evBi, biLen, biMin, biMax, biSum, biAll, biAny, biAbs, biInt, biStr, biTuple, biList, biSorted, opB, opAdd, opSub, opAnd, opPow, opC, opI, opIs, isNoneD, testD, bindT, bindEach, wipeE, opRg, evIsi, itemsD, seq2, opSl, opRev, Option.map_some, Option.map_none, List.length_cons, List.length_nil, List.getElem?_cons_zero, List.getElem?_cons_succ, List.set_cons_zero, List.set_cons_succ, List.cons_append, List.nil_append, List.replicate_succ, List.replicate_zero, if_true, if_false, reduceIte, Nat.reduceAdd, Nat.reduceSub, Nat.reduceLeDiff, Bool.true_and, Bool.and_true, Bool.false_and, Bool.and_false, reduceCtorEq, modOk0 (show (0 : Int) < 2147483629 from by decide), mul_l (i := mix0 ns k) (j := mix0 ns k) (by omega), mul_l (i := 7) (by decide), show (0 : Int) < 2147483629 from by decide]
  rfl
theorem drawn (n : Nat) (a k : Int) : Ph (n + 1) 3 [.int a, .int k] = some (.int (drw a k)) := by
  show evF (Ph n) fd3 [.int a, .int k] = _
  have b := drw0_b a k
  simp only [evF, start0, evS, evE, evA, evI, evO, evC, evR, getB, getV, evBi, biLen, biMin, biMax, biSum, biAll, biAny, biAbs, biInt, biStr, biTuple, biList, biSorted, opB, opAdd, opSub, opAnd, opPow, opC, opI, opIs, isNoneD, testD, bindT, bindEach, wipeE, opRg, evIsi, itemsD, seq2, opSl, opRev, Option.map_some, Option.map_none, List.length_cons, List.length_nil, List.getElem?_cons_zero, List.getElem?_cons_succ, List.set_cons_zero, List.set_cons_succ, List.cons_append, List.nil_append, List.replicate_succ, List.replicate_zero, if_true, if_false, reduceIte, Nat.reduceAdd, Nat.reduceSub, Nat.reduceLeDiff, Bool.true_and, Bool.and_true, Bool.false_and, Bool.and_false, reduceCtorEq, fd3, modOk0 (show (0 : Int) < 2147483647 from by decide), modOk0 (show (0 : Int) < 2147483629 from by decide), mul_l (i := 104729) (by decide), mul_r (j := 69621) (by decide), show (0 : Int) < 2147483647 from by decide]
  rw [show (a + 104729 * k + 17) * 69621 % 2147483647 = drw0 a k from rfl]
  simp only [evF, start0, evS, evE, evA, evI, evO, evC, evR, getB, getV, evBi, biLen, biMin, biMax, biSum, biAll, biAny, biAbs, biInt, biStr, biTuple, biList, biSorted, opB, opAdd, opSub, opAnd, opPow, opC, opI, opIs, isNoneD, testD, bindT, bindEach, wipeE, opRg, evIsi, itemsD, seq2, opSl, opRev, Option.map_some, Option.map_none, List.length_cons, List.length_nil, List.getElem?_cons_zero, List.getElem?_cons_succ, List.set_cons_zero, List.set_cons_succ, List.cons_append, List.nil_append, List.replicate_succ, List.replicate_zero, if_true, if_false, reduceIte, Nat.reduceAdd, Nat.reduceSub, Nat.reduceLeDiff, Bool.true_and, Bool.and_true, Bool.false_and, Bool.and_false, reduceCtorEq, modOk0 (show (0 : Int) < 2147483629 from by decide), mul_l (i := drw0 a k) (j := drw0 a k) (by omega), mul_l (i := 3) (by decide), show (0 : Int) < 2147483629 from by decide]
  rfl
end J

namespace J
open PySem
theorem forL_inv {f : D → En → Option Fl} (I : Nat → En → Prop) : ∀ (ds : List D) (env : En), I 0 env → (∀ i x env, ds[i]? = some x → I i env → ∃ env', f x env = some (.nx env') ∧ I (i + 1) env') → ∃ env', forL f ds env = some (.nx env') ∧ I ds.length env' := by
  intro ds env h0 hs
  have go : ∀ (r : List D) (k : Nat) (env : En), (∀ i x, r[i]? = some x → ds[k + i]? = some x) → I k env → ∃ env', forL f r env = some (.nx env') ∧ I (k + r.length) env' := by
    intro r
    induction r with
    | nil => intro k env _ h; exact ⟨env, rfl, h⟩
    | cons x r ih =>
      intro k env hr h
      obtain ⟨e1, h1, h2⟩ := hs k x env (hr 0 x rfl) h
      obtain ⟨e2, h3, h4⟩ := ih (k + 1) e1 (fun i y hy => by rw [show k + 1 + i = k + (i + 1) by omega]; exact hr (i + 1) y hy) h2
      refine ⟨e2, ?_, ?_⟩
      · unfold forL
        rw [h1]
        exact h3
      · rw [List.length_cons, show k + (r.length + 1) = k + 1 + r.length by omega]
        exact h4
  have := go ds 0 env (fun i x h => by rw [Nat.zero_add]; exact h) h0
  rw [Nat.zero_add] at this
  exact this
theorem rgD_get {lo hi : Int} {i : Nat} {x : D} (h : (rgD lo hi)[i]? = some x) : x = .int (lo + i) ∧ lo + i < hi := by
  unfold rgD at h
  by_cases hi' : i < (hi - lo).toNat
  · rw [List.getElem?_map, List.getElem?_range hi'] at h
    cases h
    exact ⟨rfl, by omega⟩
  · rw [List.getElem?_eq_none (by simp; omega)] at h
    cases h
theorem rgD_len (lo hi : Int) : (rgD lo hi).length = (hi - lo).toNat := by unfold rgD; simp
theorem cutD_from {α : Type} (xs : List α) (k : Nat) : cutD xs (some (k : Int)) none = xs.drop k := by
  unfold cutD
  rw [HT.sIx_nat, HT.sIx_none]
  by_cases h : k ≤ xs.length
  · rw [Nat.min_eq_left h]
    exact List.take_of_length_le (by simp)
  · rw [Nat.min_eq_right (by omega), List.drop_length, List.drop_eq_nil_of_le (by omega)]
    simp
theorem cutD_to {α : Type} (xs : List α) (k : Nat) : cutD xs none (some (k : Int)) = xs.take k := by
  unfold cutD
  rw [HT.sIx_nat, HT.sIx_none]
  by_cases h : k ≤ xs.length
  · rw [Nat.min_eq_left h]; simp
  · rw [Nat.min_eq_right (by omega), List.take_of_length_le (show xs.length ≤ k by omega)]
    simp
abbrev T3 := Nat × Nat × Nat
def encT (t : T3) : D := .tuple [.int t.1, .int t.2.1, .int t.2.2]
structure Web where
  many : Nat
  ties : List T3
def encW (w : Web) : D := .tuple [.int w.many, .tuple (w.ties.map encT)]
def Tok (many : Nat) (t : T3) : Prop := t.1 < t.2.1 ∧ t.2.1 < many ∧ t.2.2 ≤ 99
structure Wok (w : Web) : Prop where
  lo : 1 ≤ w.many
  hi : w.many ≤ 7
  len : w.ties.length ≤ 10
  ok : ∀ t ∈ w.ties, Tok w.many t
theorem pick8 (k : Int) : ∃ m : Nat, 1 ≤ m ∧ m ≤ 7 ∧ opIx (.tuple [.int 2, .int 3, .int 4, .int 5, .int 6, .int 7, .int 4, .int 1]) (.int (k % 8)) = some (.int m) := by
  have h : k % 8 = 0 ∨ k % 8 = 1 ∨ k % 8 = 2 ∨ k % 8 = 3 ∨ k % 8 = 4 ∨ k % 8 = 5 ∨ k % 8 = 6 ∨ k % 8 = 7 := by omega
  rcases h with h | h | h | h | h | h | h | h <;> rw [h]
  · exact ⟨2, by decide, by decide, rfl⟩
  · exact ⟨3, by decide, by decide, rfl⟩
  · exact ⟨4, by decide, by decide, rfl⟩
  · exact ⟨5, by decide, by decide, rfl⟩
  · exact ⟨6, by decide, by decide, rfl⟩
  · exact ⟨7, by decide, by decide, rfl⟩
  · exact ⟨4, by decide, by decide, rfl⟩
  · exact ⟨1, by decide, by decide, rfl⟩
theorem pick4 (k : Int) : ∃ m : Nat, 1 ≤ m ∧ m ≤ 100 ∧ opIx (.tuple [.int 1, .int 3, .int 10, .int 100]) (.int (k % 4)) = some (.int m) := by
  have h : k % 4 = 0 ∨ k % 4 = 1 ∨ k % 4 = 2 ∨ k % 4 = 3 := by omega
  rcases h with h | h | h | h <;> rw [h]
  · exact ⟨1, by decide, by decide, rfl⟩
  · exact ⟨3, by decide, by decide, rfl⟩
  · exact ⟨10, by decide, by decide, rfl⟩
  · exact ⟨100, by decide, by decide, rfl⟩
theorem divOk {i j : Int} (h : 0 < j) (h2 : j < 2 ^ 64) : opDiv (.int i) (.int j) = some (.int (i / j)) := by
  simp only [opDiv]
  rw [if_pos ⟨h, Nat.lt_of_lt_of_le (show j.natAbs < 2 ^ 64 by omega) (Nat.pow_le_pow_right (by decide) (by decide))⟩]
theorem modOk {i j : Int} (h : 0 < j) : opMod (.int i) (.int j) = some (.int (i % j)) := by
  simp only [opMod]
  rw [if_pos h]
theorem toN {x : Int} (h : 0 ≤ x) : ((x.toNat : Nat) : Int) = x := by omega
def bodyW1 : IS := (.seq (.set 5 (.bin .FloorDiv (.call 3 (.cons (.var 0) (.cons (.var 4) .nil))) (.ci 4))) (.seq (.ifs (.cmp .Gt (.bin .Mod (.bv 5) (.ci 16)) (.ci 0)) (.seq (.app 3 (.tup (.cons (.bin .Mod (.bin .FloorDiv (.bv 5) (.ci 16)) (.bv 4)) (.cons (.var 4) (.cons (.bin .Mod (.bin .FloorDiv (.bv 5) (.ci 512)) (.bv 2)) .nil))))) .skip) .skip) .skip))
def W1 (a many high : Int) (m : Nat) (k : Nat) (i : Nat) (env : En) : Prop := ∃ (ts : List T3) (s4 s5 s6 s7 s8 s9 : Sl), env = [.val (.int a), .val (.int many), .val (.int high), .own (ts.map encT), s4, s5, s6, s7, s8, s9] ∧ ts.length ≤ k + i ∧ ∀ t ∈ ts, Tok m t
theorem web1 (n : Nat) (a : Int) (m h : Nat) (hm : m ≤ 7) (hh : 1 ≤ h) (hh2 : h ≤ 100) (i : Nat) (x : D) (env : En) (hx : (rgD 1 (m : Int))[i]? = some x) (hI : W1 a m h m 0 i env) :
    ∃ env', forB [4] (evS (Ph (n + 1)) bodyW1) x env = some (.nx env') ∧ W1 a m h m 0 (i + 1) env' := by
  obtain ⟨rfl, hlt⟩ := rgD_get hx
  obtain ⟨ts, s4, s5, s6, s7, s8, s9, rfl, hl, hts⟩ := hI
  generalize hd : drw a (1 + i) / 4 = d
  have hd0 : 0 ≤ d := by have := drw_b a (1 + i); omega
  by_cases hc : d % 16 > 0
  · have hc' : (0 : Int) < d % 16 := hc
    simp only [forB, evF, start0, evS, evE, evA, evI, evO, evC, evR, getB, getV, evBi, biLen, biMin, biMax, biSum, biAll, biAny, biAbs, biInt, biStr, biTuple, biList, biSorted, opB, opAdd, opSub, opAnd, opPow, opC, opI, opIs, isNoneD, testD, bindT, bindEach, wipeE, opRg, evIsi, itemsD, seq2, opSl, opRev, Option.map_some, Option.map_none, List.length_cons, List.length_nil, List.getElem?_cons_zero, List.getElem?_cons_succ, List.set_cons_zero, List.set_cons_succ, List.cons_append, List.nil_append, List.replicate_succ, List.replicate_zero, if_true, if_false, reduceIte, Nat.reduceAdd, Nat.reduceSub, Nat.reduceLeDiff, Bool.true_and, Bool.and_true, Bool.false_and, Bool.and_false, reduceCtorEq, bodyW1, drawn, divOk (j := 4) (by decide) (by decide), hd, modOk (j := 16) (by decide), hc', decide_true, divOk (j := 16) (by decide) (by decide), divOk (j := 512) (by decide) (by decide), modOk (show (0 : Int) < 1 + (i : Int) by omega), modOk (show (0 : Int) < (h : Int) by omega)]
    have hz : (ts.map encT).length < 100000 := by rw [List.length_map]; omega
    simp only [hz, if_true]
    refine ⟨_, rfl, ts ++ [((d / 16 % (1 + i)).toNat, 1 + i, (d / 512 % h).toNat)], .val (.int (1 + i)), .val (.int d), s6, s7, s8, s9, ?_, by rw [List.length_append]; simp; omega, fun t ht => ?_⟩
    · rw [List.map_append]
      simp only [encT, List.map_cons, List.map_nil]
      rw [toN (Int.emod_nonneg _ (by omega)), toN (Int.emod_nonneg _ (by omega))]
      rfl
    · rcases List.mem_append.mp ht with ht | ht
      · exact hts t ht
      · rw [List.mem_singleton.mp ht]
        have e1 := Int.emod_nonneg (d / 16) (show (1 + (i : Int)) ≠ 0 by omega)
        have e2 := Int.emod_lt_of_pos (d / 16) (show 0 < (1 + (i : Int)) by omega)
        have e3 := Int.emod_lt_of_pos (d / 512) (show 0 < (h : Int) by omega)
        have e4 := Int.emod_nonneg (d / 512) (show (h : Int) ≠ 0 by omega)
        refine ⟨?_, ?_, ?_⟩
        · show (d / 16 % (1 + i)).toNat < 1 + i; omega
        · show 1 + i < m; omega
        · show (d / 512 % h).toNat ≤ 99; omega
  · have hc' : ¬ (0 : Int) < d % 16 := hc
    simp only [forB, evF, start0, evS, evE, evA, evI, evO, evC, evR, getB, getV, evBi, biLen, biMin, biMax, biSum, biAll, biAny, biAbs, biInt, biStr, biTuple, biList, biSorted, opB, opAdd, opSub, opAnd, opPow, opC, opI, opIs, isNoneD, testD, bindT, bindEach, wipeE, opRg, evIsi, itemsD, seq2, opSl, opRev, Option.map_some, Option.map_none, List.length_cons, List.length_nil, List.getElem?_cons_zero, List.getElem?_cons_succ, List.set_cons_zero, List.set_cons_succ, List.cons_append, List.nil_append, List.replicate_succ, List.replicate_zero, if_true, if_false, reduceIte, Nat.reduceAdd, Nat.reduceSub, Nat.reduceLeDiff, Bool.true_and, Bool.and_true, Bool.false_and, Bool.and_false, reduceCtorEq, bodyW1, drawn, divOk (j := 4) (by decide) (by decide), hd, modOk (j := 16) (by decide), hc', decide_false]
    exact ⟨_, rfl, ts, .val (.int (1 + i)), .val (.int d), s6, s7, s8, s9, rfl, by omega, hts⟩
def bodyW2 : IS := (.seq (.set 5 (.bin .FloorDiv (.call 3 (.cons (.var 0) (.cons (.bin .Add (.ci 20) (.bv 6)) .nil))) (.ci 4))) (.seq (.set 7 (.bin .Mod (.bv 5) (.bv 1))) (.seq (.set 8 (.bin .Mod (.bin .Add (.bin .Add (.bv 7) (.ci 1)) (.bin .Mod (.bin .FloorDiv (.bv 5) (.ci 8)) (.bin .Sub (.bv 1) (.ci 1)))) (.bv 1))) (.seq (.app 3 (.tup (.cons (.bi .min (.cons (.bv 7) (.cons (.bv 8) .nil))) (.cons (.bi .max (.cons (.bv 7) (.cons (.bv 8) .nil))) (.cons (.bin .Mod (.bin .FloorDiv (.bv 5) (.ci 512)) (.bv 2)) .nil))))) .skip))))
/-- another place than o, by a step of 1 to m - 1 -/
theorem other_ne {o m q : Int} (h0 : 0 ≤ o) (h1 : o < m) (h2 : 0 ≤ q) (h3 : q < m - 1) : 0 ≤ (o + 1 + q) % m ∧ (o + 1 + q) % m < m ∧ (o + 1 + q) % m ≠ o := by
  have hm : 0 < m := by omega
  by_cases h : o + 1 + q < m
  · rw [Int.emod_eq_of_lt (by omega) h]
    omega
  · have : (o + 1 + q) % m = o + 1 + q - m := by
      rw [← Int.sub_emod_right]
      exact Int.emod_eq_of_lt (by omega) (by omega)
    rw [this]
    omega
theorem web2 (n : Nat) (a : Int) (m h c : Nat) (hm : m ≤ 7) (hm2 : 1 < m) (hh : 1 ≤ h) (hh2 : h ≤ 100) (cnt : Int) (k : Nat) (hk : k ≤ 10) (hcnt : k + cnt ≤ 10) (i : Nat) (x : D) (env : En) (hx : (rgD 0 cnt)[i]? = some x) (hI : W1 a m h m k i env) :
    ∃ env', forB [6] (evS (Ph (n + 1)) bodyW2) x env = some (.nx env') ∧ W1 a m h m k (i + 1) env' := by
  obtain ⟨rfl, hlt⟩ := rgD_get hx
  obtain ⟨ts, s4, s5, s6, s7, s8, s9, rfl, hl, hts⟩ := hI
  generalize hd : drw a (20 + (0 + i)) / 4 = d
  have hd0 : 0 ≤ d := by have := drw_b a (20 + (0 + i)); omega
  have hz : (ts.map encT).length < 100000 := by rw [List.length_map]; omega
  simp only [forB, evF, start0, evS, evE, evA, evI, evO, evC, evR, getB, getV, evBi, biLen, biMin, biMax, biSum, biAll, biAny, biAbs, biInt, biStr, biTuple, biList, biSorted, opB, opAdd, opSub, opAnd, opPow, opC, opI, opIs, isNoneD, testD, bindT, bindEach, wipeE, opRg, evIsi, itemsD, seq2, opSl, opRev, Option.map_some, Option.map_none, List.length_cons, List.length_nil, List.getElem?_cons_zero, List.getElem?_cons_succ, List.set_cons_zero, List.set_cons_succ, List.cons_append, List.nil_append, List.replicate_succ, List.replicate_zero, if_true, if_false, reduceIte, Nat.reduceAdd, Nat.reduceSub, Nat.reduceLeDiff, Bool.true_and, Bool.and_true, Bool.false_and, Bool.and_false, reduceCtorEq, bodyW2, drawn, divOk (j := 4) (by decide) (by decide), hd, modOk (show (0 : Int) < (m : Int) by omega), divOk (j := 8) (by decide) (by decide), modOk (show (0 : Int) < (m : Int) - 1 by omega), divOk (j := 512) (by decide) (by decide), modOk (show (0 : Int) < (h : Int) by omega), hz]
  have a1 := Int.emod_nonneg d (show (m : Int) ≠ 0 by omega)
  have a2 := Int.emod_lt_of_pos d (show 0 < (m : Int) by omega)
  have a3 := Int.emod_nonneg (d / 8) (show (m : Int) - 1 ≠ 0 by omega)
  have a4 := Int.emod_lt_of_pos (d / 8) (show 0 < (m : Int) - 1 by omega)
  have a5 := Int.emod_nonneg (d / 512) (show (h : Int) ≠ 0 by omega)
  have a6 := Int.emod_lt_of_pos (d / 512) (show 0 < (h : Int) by omega)
  generalize d % m = o at *
  generalize d / 8 % (m - 1) = q at *
  generalize d / 512 % h = p at *
  obtain ⟨b1, b2, b3⟩ := other_ne a1 a2 a3 a4
  generalize (o + 1 + q) % m = z at *
  refine ⟨_, rfl, ts ++ [((if z < o then z else o).toNat, (if z > o then z else o).toNat, p.toNat)], s4, .val (.int d), .val (.int (0 + i)), .val (.int o), .val (.int z), s9, ?_, by rw [List.length_append]; simp; omega, fun t ht => ?_⟩
  · rw [List.map_append]
    simp only [encT, List.map_cons, List.map_nil]
    rw [toN (show 0 ≤ (if z < o then z else o) by split <;> omega), toN (show 0 ≤ (if z > o then z else o) by split <;> omega), toN a5]
  · rcases List.mem_append.mp ht with ht | ht
    · exact hts t ht
    · rw [List.mem_singleton.mp ht]
      refine ⟨?_, ?_, ?_⟩
      · show (if z < o then z else o).toNat < (if z > o then z else o).toNat
        split <;> split <;> omega
      · show (if z > o then z else o).toNat < m
        split <;> omega
      · show p.toNat ≤ 99; omega
theorem web (n : Nat) (a : Int) (ha : 0 ≤ a) : ∃ w, Ph (n + 2) 4 [.int a] = some (encW w) ∧ Wok w := by
  obtain ⟨m, m1, m2, hm⟩ := pick8 a
  obtain ⟨h, h1, h2, hh⟩ := pick4 (a / 8)
  have st : W1 a m h m 0 0 [.val (.int a), .val (.int m), .val (.int h), .own [], .no, .no, .no, .no, .no, .no] := ⟨[], .no, .no, .no, .no, .no, .no, rfl, Nat.le_refl _, fun t ht => by cases ht⟩
  obtain ⟨e1, f1, w1⟩ := forL_inv (W1 a m h m 0) (rgD 1 m) _ st (web1 n a m h m2 h1 h2)
  rw [rgD_len] at w1
  have main : ∃ e2, (∃ ts : List T3, ∃ s4 s5 s6 s7 s8 s9 : Sl, e2 = [.val (.int a), .val (.int m), .val (.int h), .own (ts.map encT), s4, s5, s6, s7, s8, s9] ∧ ts.length ≤ 10 ∧ ∀ t ∈ ts, Tok m t) ∧
      evS (Ph (n + 1)) (.ifs (.cmp .Gt (.bv 1) (.ci 1)) (.seq (.for_ [6] (.rg (.ci 0) (.bin .Mod (.bin .FloorDiv (.bv 0) (.ci 32)) (.bin .Sub (.ci 11) (.bi .len (.cons (.bv 3) .nil))))) bodyW2) .skip) .skip) e1 = some (.nx e2) := by
    obtain ⟨ts, s4, s5, s6, s7, s8, s9, rfl, hl, hts⟩ := w1
    have hl6 : ts.length ≤ 6 := by omega
    by_cases hm2 : (1 : Int) < m
    · have c0 := Int.emod_nonneg (a / 32) (show (11 - (ts.length : Int)) ≠ 0 by omega)
      have c1 := Int.emod_lt_of_pos (a / 32) (show 0 < (11 - (ts.length : Int)) by omega)
      simp only [evF, start0, evS, evE, evA, evI, evO, evC, evR, getB, getV, evBi, biLen, biMin, biMax, biSum, biAll, biAny, biAbs, biInt, biStr, biTuple, biList, biSorted, opB, opAdd, opSub, opAnd, opPow, opC, opI, opIs, isNoneD, testD, bindT, bindEach, wipeE, opRg, evIsi, itemsD, seq2, opSl, opRev, Option.map_some, Option.map_none, List.length_cons, List.length_nil, List.getElem?_cons_zero, List.getElem?_cons_succ, List.set_cons_zero, List.set_cons_succ, List.cons_append, List.nil_append, List.replicate_succ, List.replicate_zero, if_true, if_false, reduceIte, Nat.reduceAdd, Nat.reduceSub, Nat.reduceLeDiff, Bool.true_and, Bool.and_true, Bool.false_and, Bool.and_false, reduceCtorEq, hm2, decide_true, List.length_map, divOk (j := 32) (by decide) (by decide), modOk (show (0 : Int) < 11 - (ts.length : Int) by omega)]
      generalize hcnt : a / 32 % (11 - (ts.length : Int)) = cnt at *
      have hrg : rgOk 0 cnt = true := by unfold rgOk; simp; omega
      simp only [hrg, if_true]
      obtain ⟨e2, f2, w2⟩ := forL_inv (W1 a m h m ts.length) (rgD 0 cnt) _ ⟨ts, s4, s5, s6, s7, s8, s9, rfl, Nat.le_refl _, hts⟩ (web2 n a m h 0 m2 (by omega) h1 h2 cnt ts.length (by omega) (by omega))
      rw [rgD_len] at w2
      refine ⟨e2, ?_, ?_⟩
      · obtain ⟨ts', s4, s5, s6, s7, s8, s9, rfl, hl', hts'⟩ := w2
        exact ⟨ts', s4, s5, s6, s7, s8, s9, rfl, by omega, hts'⟩
      · exact (by rw [f2])
    · simp only [evF, start0, evS, evE, evA, evI, evO, evC, evR, getB, getV, evBi, biLen, biMin, biMax, biSum, biAll, biAny, biAbs, biInt, biStr, biTuple, biList, biSorted, opB, opAdd, opSub, opAnd, opPow, opC, opI, opIs, isNoneD, testD, bindT, bindEach, wipeE, opRg, evIsi, itemsD, seq2, opSl, opRev, Option.map_some, Option.map_none, List.length_cons, List.length_nil, List.getElem?_cons_zero, List.getElem?_cons_succ, List.set_cons_zero, List.set_cons_succ, List.cons_append, List.nil_append, List.replicate_succ, List.replicate_zero, if_true, if_false, reduceIte, Nat.reduceAdd, Nat.reduceSub, Nat.reduceLeDiff, Bool.true_and, Bool.and_true, Bool.false_and, Bool.and_false, reduceCtorEq, hm2, decide_false]
      exact ⟨_, ⟨ts, s4, s5, s6, s7, s8, s9, rfl, by omega, hts⟩, rfl⟩
  obtain ⟨e2, ⟨ts, s4, s5, s6, s7, s8, s9, rfl, hl, hts⟩, hmain⟩ := main
  have hrg : rgOk 1 (m : Int) = true := by unfold rgOk; simp; omega
  have c0 := Int.emod_nonneg (a / 1024) (show (5 : Int) ≠ 0 by omega)
  have c1 := Int.emod_lt_of_pos (a / 1024) (show 0 < (5 : Int) by omega)
  generalize hby : a / 1024 % 5 = by_ at *
  obtain ⟨j, rfl⟩ : ∃ j : Nat, by_ = j := ⟨by_.toNat, by omega⟩
  refine ⟨⟨m, ts.drop j ++ ts.take j⟩, ?_, m1, m2, ?_, fun t ht => ?_⟩
  · show evF (Ph (n + 1)) fd4 [.int a] = _
    have hlen : ((ts.map encT).drop j).length + ((ts.map encT).take j).length ≤ 1000000 := by
      rw [List.length_drop, List.length_take, List.length_map]; omega
    have eb : fd4.body = (.seq (.set 1 (.ix (.tup (.cons (.ci 2) (.cons (.ci 3) (.cons (.ci 4) (.cons (.ci 5) (.cons (.ci 6) (.cons (.ci 7) (.cons (.ci 4) (.cons (.ci 1) .nil))))))))) (.bin .Mod (.bv 0) (.ci 8)))) (.seq (.set 2 (.ix (.tup (.cons (.ci 1) (.cons (.ci 3) (.cons (.ci 10) (.cons (.ci 100) .nil))))) (.bin .Mod (.bin .FloorDiv (.bv 0) (.ci 8)) (.ci 4)))) (.seq (.setO 3 (.lst .nil)) (.seq (.for_ [4] (.rg (.ci 1) (.bv 1)) bodyW1)
      (.seq (.ifs (.cmp .Gt (.bv 1) (.ci 1)) (.seq (.for_ [6] (.rg (.ci 0) (.bin .Mod (.bin .FloorDiv (.bv 0) (.ci 32)) (.bin .Sub (.ci 11) (.bi .len (.cons (.bv 3) .nil))))) bodyW2) .skip) .skip) (.seq (.shr 3) (.seq (.set 9 (.bin .Mod (.bin .FloorDiv (.bv 0) (.ci 1024)) (.ci 5))) (.seq (.ret (.tup (.cons (.var 1) (.cons (.bi .tuple (.cons (.bin .Add (.sl (.bv 3) (.bv 9) .nil) (.sl (.bv 3) .nil (.bv 9))) .nil)) .nil)))) .skip)))))))) := rfl
    unfold evF
    rw [if_pos (show [PyData.int a].length = fd4.bs.length from rfl), eb]
    generalize hif : (IS.ifs (.cmp .Gt (.bv 1) (.ci 1)) (.seq (.for_ [6] (.rg (.ci 0) (.bin .Mod (.bin .FloorDiv (.bv 0) (.ci 32)) (.bin .Sub (.ci 11) (.bi .len (.cons (.bv 3) .nil))))) bodyW2) .skip) .skip) = IF at *
    simp only [evF, start0, evS, evE, evA, evI, evO, evC, evR, getB, getV, evBi, biLen, biMin, biMax, biSum, biAll, biAny, biAbs, biInt, biStr, biTuple, biList, biSorted, opB, opAdd, opSub, opAnd, opPow, opC, opI, opIs, isNoneD, testD, bindT, bindEach, wipeE, opRg, evIsi, itemsD, seq2, opSl, opRev, Option.map_some, Option.map_none, List.length_cons, List.length_nil, List.getElem?_cons_zero, List.getElem?_cons_succ, List.set_cons_zero, List.set_cons_succ, List.cons_append, List.nil_append, List.replicate_succ, List.replicate_zero, if_true, if_false, reduceIte, Nat.reduceAdd, Nat.reduceSub, Nat.reduceLeDiff, Bool.true_and, Bool.and_true, Bool.false_and, Bool.and_false, reduceCtorEq, fd4, modOk (j := 8) (by decide), hm, divOk (j := 8) (by decide) (by decide), modOk (j := 4) (by decide), hh, hrg, f1]
    simp only [hmain, evF, start0, evS, evE, evA, evI, evO, evC, evR, getB, getV, evBi, biLen, biMin, biMax, biSum, biAll, biAny, biAbs, biInt, biStr, biTuple, biList, biSorted, opB, opAdd, opSub, opAnd, opPow, opC, opI, opIs, isNoneD, testD, bindT, bindEach, wipeE, opRg, evIsi, itemsD, seq2, opSl, opRev, Option.map_some, Option.map_none, List.length_cons, List.length_nil, List.getElem?_cons_zero, List.getElem?_cons_succ, List.set_cons_zero, List.set_cons_succ, List.cons_append, List.nil_append, List.replicate_succ, List.replicate_zero, if_true, if_false, reduceIte, Nat.reduceAdd, Nat.reduceSub, Nat.reduceLeDiff, Bool.true_and, Bool.and_true, Bool.false_and, Bool.and_false, reduceCtorEq, divOk (j := 1024) (by decide) (by decide), modOk (j := 5) (by decide), hby, cutD_from, cutD_to, hlen]
    simp only [encW, List.map_append, List.map_drop, List.map_take]
  · rw [List.length_append, List.length_drop, List.length_take]; show _ ≤ 10; omega
  · rcases List.mem_append.mp ht with ht | ht
    · exact hts t (List.mem_of_mem_drop ht)
    · exact hts t (List.mem_of_mem_take ht)
end J

namespace J
open PySem
/-! texts -/
theorem l1 : (Str.ofString "-").length = 1 ∧ (Str.ofString "=").length = 1 ∧ (Str.ofString " ").length = 1 ∧ (Str.ofString ":").length = 1 ∧ (Str.ofString " :").length = 2 := by decide +kernel
theorem ixW0 (w : Web) : opIx (encW w) (.int 0) = some (.int w.many) := rfl
theorem ixW1 (w : Web) : opIx (encW w) (.int 1) = some (.tuple (w.ties.map encT)) := rfl
end J

/-! What a text comes to, told backwards. -/
namespace J
open PySem
def O1 {α : Type} (o : Option α) (Q : α → Prop) : Prop := ∃ d, o = some d ∧ Q d
section
variable {α β : Type} {Q : α → Prop}
theorem o1_some {a : α} : O1 (some a) Q ↔ Q a := ⟨fun ⟨_, e, h⟩ => by cases e; exact h, fun h => ⟨a, rfl, h⟩⟩
theorem o1_none : O1 (none : Option α) Q ↔ False := ⟨fun ⟨_, e, _⟩ => (by cases e), False.elim⟩
theorem o1_map {o : Option β} {f : β → α} : O1 (o.map f) Q ↔ O1 o fun x => Q (f x) := by
  cases o with
  | none => rw [Option.map_none, o1_none, o1_none]
  | some x => rw [Option.map_some, o1_some, o1_some]
theorem o1_if {p : Prop} [Decidable p] {o : Option α} : O1 (if p then o else none) Q ↔ p ∧ O1 o Q := by
  by_cases h : p
  · rw [if_pos h]; exact ⟨fun z => ⟨h, z⟩, fun z => z.2⟩
  · rw [if_neg h, o1_none]; exact ⟨False.elim, fun z => h z.1⟩
theorem O1.mp {o : Option α} {R : α → Prop} (h : O1 o R) (q : ∀ a, R a → Q a) : O1 o Q := let ⟨a, e, r⟩ := h; ⟨a, e, q a r⟩
theorem o1_eq {o : Option α} {a : α} : O1 o (· = a) ↔ o = some a := ⟨fun ⟨_, e, h⟩ => by rw [e, h], fun h => ⟨a, h, rfl⟩⟩
theorem o1_of {o : Option α} {a : α} (h : o = some a) : O1 o Q ↔ Q a := by rw [h, o1_some]
end
section
variable {Φ : Nat → List D → Option D} {env : En} {a b c lo hi src cond elt : IE} {as : IE} {Q : D → Prop}
def boolD : D → Option Bool
  | .bool b => some b
  | _ => none
def intD : D → Option Int
  | .int b => some b
  | _ => none
theorem ev_var {i : Nat} : evE Φ (.var i) env = getV env i := by simp only [evE]
theorem ev_bv {i : Nat} : evE Φ (.bv i) env = getB env i := by simp only [evE]
theorem ev_cn : evE Φ .cn env = some .none := by simp only [evE]
theorem ev_cb {x : Bool} : evE Φ (.cb x) env = some (.bool x) := by simp only [evE]
theorem ev_ci {x : Int} : evE Φ (.ci x) env = some (.int x) := by simp only [evE]
theorem ev_cs {x : Str} : evE Φ (.cs x) env = some (.str x) := by simp only [evE]
theorem ev_bin {op : Operator} : O1 (evE Φ (.bin op a b) env) Q ↔ O1 (evE Φ a env) fun x => O1 (evE Φ b env) fun y => O1 (opB op x y) Q := by
  simp only [evE]
  cases evE Φ a env with
  | none => simp only [o1_none]
  | some x =>
    rw [o1_some]
    cases evE Φ b env with
    | none => simp only [o1_none]
    | some y => rw [o1_some]
theorem ev_neg : O1 (evE Φ (.neg a) env) Q ↔ O1 (evE Φ a env) fun x => O1 (intD x) fun i => Q (.int (-i)) := by
  simp only [evE]
  cases evE Φ a env with
  | none => simp only [o1_none]
  | some x => cases x <;> simp only [intD, o1_some, o1_none]
theorem ev_nt : O1 (evE Φ (.nt a) env) Q ↔ O1 (evE Φ a env) fun x => O1 (boolD x) fun i => Q (.bool (!i)) := by
  simp only [evE]
  cases evE Φ a env with
  | none => simp only [o1_none]
  | some x => cases x <;> simp only [boolD, o1_some, o1_none]
theorem ev_cmp {op : CmpOp} : O1 (evE Φ (.cmp op a b) env) Q ↔ O1 (evE Φ a env) fun x => O1 (evE Φ b env) fun y => O1 (opC op x y) fun r => Q (.bool r) := by
  simp only [evE]
  cases evE Φ a env with
  | none => simp only [o1_none]
  | some x =>
    rw [o1_some]
    cases evE Φ b env with
    | none => simp only [o1_none]
    | some y => rw [o1_some, o1_map]
theorem ev_cmp2 {op op' : CmpOp} : O1 (evE Φ (.cmp2 op op' a b c) env) Q ↔ O1 (evE Φ a env) fun x => O1 (evE Φ b env) fun y => O1 (opC op x y) fun r => if r = true then O1 (evE Φ c env) fun z => O1 (opC op' y z) fun r => Q (.bool r) else Q (.bool false) := by
  simp only [evE]
  cases evE Φ a env with
  | none => simp only [o1_none]
  | some x =>
    rw [o1_some]
    cases evE Φ b env with
    | none => simp only [o1_none]
    | some y =>
      rw [o1_some]
      dsimp only
      cases opC op x y with
      | none => simp only [o1_none]
      | some r =>
        cases r with
        | false => simp only [o1_some, if_false, Bool.false_eq_true]
        | true =>
          rw [o1_some, if_pos rfl]
          cases evE Φ c env with
          | none => simp only [o1_none]
          | some z => rw [o1_some, o1_map]
theorem ev_an : O1 (evE Φ (.an a b) env) Q ↔ O1 (evE Φ a env) fun x => O1 (boolD x) fun i => if i = true then O1 (evE Φ b env) Q else Q (.bool false) := by
  simp only [evE]
  cases evE Φ a env with
  | none => simp only [o1_none]
  | some x => cases x <;> simp only [boolD, o1_some, o1_none] <;> (rename_i z; cases z <;> simp only [o1_some, if_true, if_false, Bool.false_eq_true])
theorem ev_or : O1 (evE Φ (.or a b) env) Q ↔ O1 (evE Φ a env) fun x => O1 (boolD x) fun i => if i = true then Q (.bool true) else O1 (evE Φ b env) Q := by
  simp only [evE]
  cases evE Φ a env with
  | none => simp only [o1_none]
  | some x => cases x <;> simp only [boolD, o1_some, o1_none] <;> (rename_i z; cases z <;> simp only [o1_some, if_true, if_false, Bool.false_eq_true])
theorem ev_tup : O1 (evE Φ (.tup as) env) Q ↔ O1 (evA Φ as env) fun ds => ds.length ≤ 1000 ∧ Q (.tuple ds) := by
  simp only [evE]
  cases evA Φ as env with
  | none => simp only [o1_none]
  | some x => rw [o1_some, o1_if, o1_some]
theorem ev_lst : O1 (evE Φ (.lst as) env) Q ↔ O1 (evA Φ as env) fun ds => ds.length ≤ 1000 ∧ Q (.list ds) := by
  simp only [evE]
  cases evA Φ as env with
  | none => simp only [o1_none]
  | some x => rw [o1_some, o1_if, o1_some]
theorem ev_call {k : Nat} : O1 (evE Φ (.call k as) env) Q ↔ O1 (evA Φ as env) fun ds => O1 (Φ k ds) Q := by
  simp only [evE]
  cases evA Φ as env with
  | none => simp only [o1_none]
  | some x => rw [o1_some]
theorem ev_bi {k : Bi} : O1 (evE Φ (.bi k as) env) Q ↔ O1 (evA Φ as env) fun ds => O1 (evBi k ds) Q := by
  simp only [evE]
  cases evA Φ as env with
  | none => simp only [o1_none]
  | some x => rw [o1_some]
theorem ev_isi {t : Ty} : O1 (evE Φ (.isi t a) env) Q ↔ O1 (evE Φ a env) fun d => O1 (evIsi t d) fun r => Q (.bool r) := by
  simp only [evE]
  cases evE Φ a env with
  | none => simp only [o1_none]
  | some x => rw [o1_some, o1_map]
theorem ev_ix : O1 (evE Φ (.ix a b) env) Q ↔ O1 (evE Φ a env) fun x => O1 (evE Φ b env) fun y => O1 (opIx x y) Q := by
  simp only [evE]
  cases evE Φ a env with
  | none => simp only [o1_none]
  | some x =>
    rw [o1_some]
    cases evE Φ b env with
    | none => simp only [o1_none]
    | some y => rw [o1_some]
theorem ev_sl : O1 (evE Φ (.sl a lo hi) env) Q ↔ O1 (evE Φ a env) fun x => O1 (evO Φ lo env) fun l => O1 (evO Φ hi env) fun h => O1 (opSl x l h) Q := by
  simp only [evE]
  cases evE Φ a env with
  | none => simp only [o1_none]
  | some x =>
    rw [o1_some]
    cases evO Φ lo env with
    | none => simp only [o1_none]
    | some l =>
      rw [o1_some]
      cases evO Φ hi env with
      | none => simp only [o1_none]
      | some y => rw [o1_some]
theorem ev_rev : O1 (evE Φ (.rev a) env) Q ↔ O1 (evE Φ a env) fun x => O1 (opRev x) Q := by
  simp only [evE]
  cases evE Φ a env with
  | none => simp only [o1_none]
  | some x => rw [o1_some]
theorem ev_rgL : O1 (evE Φ (.rgL a b) env) Q ↔ O1 (evE Φ a env) fun x => O1 (evE Φ b env) fun y => O1 (opRg x y) fun ds => Q (.list ds) := by
  simp only [evE]
  cases evE Φ a env with
  | none => simp only [o1_none]
  | some x =>
    rw [o1_some]
    cases evE Φ b env with
    | none => simp only [o1_none]
    | some y => rw [o1_some, o1_map]
theorem ev_rgT : O1 (evE Φ (.rgT a b) env) Q ↔ O1 (evE Φ a env) fun x => O1 (evE Φ b env) fun y => O1 (opRg x y) fun ds => Q (.tuple ds) := by
  simp only [evE]
  cases evE Φ a env with
  | none => simp only [o1_none]
  | some x =>
    rw [o1_some]
    cases evE Φ b env with
    | none => simp only [o1_none]
    | some y => rw [o1_some, o1_map]
def listD : D → Option (List D)
  | .list b => some b
  | _ => none
def tupD : D → Option (List D)
  | .tuple b => some b
  | _ => none
theorem ev_lset : O1 (evE Φ (.lset a) env) Q ↔ O1 (evE Φ a env) fun x => O1 (listD x) fun ds => O1 (ints? ds) fun ns => ns.length ≤ 50 ∧ Q (.int (undupI ns).length) := by
  simp only [evE]
  cases evE Φ a env with
  | none => simp only [o1_none]
  | some x =>
    cases x <;> simp only [listD, o1_some, o1_none]
    rename_i ds
    cases ints? ds with
    | none => simp only [o1_none]
    | some ns => simp only [o1_some, o1_if]
theorem ev_sset : O1 (evE Φ (.sset a) env) Q ↔ O1 (evE Φ a env) fun x => O1 (seq2 x) fun ds => O1 (ints? ds) fun ns => ns.length ≤ 50 ∧ Q (.list ((sortI (undupI ns)).map .int)) := by
  simp only [evE]
  cases evE Φ a env with
  | none => simp only [o1_none]
  | some x =>
    rw [o1_some]
    dsimp only
    cases seq2 x with
    | none => simp only [o1_none]
    | some ds =>
      rw [o1_some]
      dsimp only
      cases ints? ds with
      | none => simp only [o1_none]
      | some ns => simp only [o1_some, o1_if]
theorem ev_comp {tg vs : List Nat} : O1 (evE Φ (.comp elt tg src cond vs) env) Q ↔ O1 (evI Φ src env) fun ds => ds.length ≤ 40000 ∧ O1 (compL (turnC tg vs (evC Φ cond) (evE Φ elt) env) ds) fun ys => Q (.list ys) := by
  simp only [evE]
  cases evI Φ src env with
  | none => simp only [o1_none]
  | some x => rw [o1_some, o1_if, o1_map]
theorem ev_join : O1 (evE Φ (.join a b) env) Q ↔ O1 (evE Φ a env) fun x => O1 (evE Φ b env) fun y => O1 (opJoin x y) Q := by
  simp only [evE]
  cases evE Φ a env with
  | none => simp only [o1_none]
  | some x =>
    rw [o1_some]
    cases evE Φ b env with
    | none => simp only [o1_none]
    | some y => rw [o1_some]
theorem ev_split : O1 (evE Φ (.split a b) env) Q ↔ O1 (evE Φ a env) fun x => O1 (evE Φ b env) fun y => O1 (opSplit x y) Q := by
  simp only [evE]
  cases evE Φ a env with
  | none => simp only [o1_none]
  | some x =>
    rw [o1_some]
    cases evE Φ b env with
    | none => simp only [o1_none]
    | some y => rw [o1_some]
theorem ea_nil : evA Φ .nil env = some [] := by simp only [evA]
theorem ea_cons {Q : List D → Prop} : O1 (evA Φ (.cons a as) env) Q ↔ O1 (evE Φ a env) fun x => O1 (evA Φ as env) fun xs => Q (x :: xs) := by
  simp only [evA]
  cases evE Φ a env with
  | none => simp only [o1_none]
  | some x =>
    rw [o1_some]
    cases evA Φ as env with
    | none => simp only [o1_none]
    | some y => simp only [o1_some]
def isNil : IE → Bool
  | .nil => true
  | _ => false
theorem eo_nil : evO Φ .nil env = some none := by simp only [evO]
theorem eo_e {Q : Option Int → Prop} (h : isNil a = false) : O1 (evO Φ a env) Q ↔ O1 (evE Φ a env) fun x => O1 (intD x) fun i => Q (some i) := by
  cases a <;> simp only [isNil, reduceCtorEq] at h
  all_goals
    simp only [evO]
    generalize evE Φ _ env = z
    cases z with
    | none => simp only [o1_none]
    | some x => cases x <;> simp only [intD, o1_some, o1_none]
theorem ec_nil : evC Φ .nil env = some true := by simp only [evC]
theorem o1_test {o : Option D} {Q : Bool → Prop} : O1 (testD o) Q ↔ O1 o fun x => O1 (boolD x) Q := by
  cases o with
  | none => simp only [testD, o1_none]
  | some x => cases x <;> simp only [testD, boolD, o1_some, o1_none]
theorem ec_e {Q : Bool → Prop} (h : isNil a = false) : O1 (evC Φ a env) Q ↔ O1 (evE Φ a env) fun x => O1 (boolD x) Q := by
  cases a <;> simp only [isNil, reduceCtorEq] at h
  all_goals (simp only [evC, o1_test])
def plainI : IE → Bool
  | .rg _ _ | .enum _ | .zip _ _ => false
  | _ => true
theorem ei_rg {Q : List D → Prop} : O1 (evI Φ (.rg a b) env) Q ↔ O1 (evE Φ a env) fun x => O1 (evE Φ b env) fun y => O1 (opRg x y) Q := by
  simp only [evI]
  cases evE Φ a env with
  | none => simp only [o1_none]
  | some x =>
    rw [o1_some]
    cases evE Φ b env with
    | none => simp only [o1_none]
    | some y => rw [o1_some]
theorem ei_zip {Q : List D → Prop} : O1 (evI Φ (.zip a b) env) Q ↔ O1 (evE Φ a env) fun x => O1 (evE Φ b env) fun y => O1 (zip2 x y) Q := by
  simp only [evI]
  cases evE Φ a env with
  | none => simp only [o1_none]
  | some x =>
    rw [o1_some]
    cases evE Φ b env with
    | none => simp only [o1_none]
    | some y => rw [o1_some]
theorem ei_enum {Q : List D → Prop} : O1 (evI Φ (.enum a) env) Q ↔ O1 (evE Φ a env) fun x => O1 (seq2 x) fun ds => Q (enumD 0 ds) := by
  simp only [evI]
  cases evE Φ a env with
  | none => simp only [o1_none]
  | some x =>
    rw [o1_some]
    dsimp only
    cases seq2 x with
    | none => simp only [o1_none]
    | some y => simp only [o1_some]
theorem ei_e {Q : List D → Prop} (h : plainI a = true) : O1 (evI Φ a env) Q ↔ O1 (evE Φ a env) fun x => O1 (itemsD x) Q := by
  cases a <;> simp only [plainI, reduceCtorEq, Bool.false_eq_true] at h
  all_goals
    simp only [evI]
    generalize evE Φ _ env = z
    cases z with
    | none => simp only [o1_none]
    | some x => simp only [o1_some]
/-! statements -/
def nxt (fl : Fl) (f : En → Prop) (Q : Fl → Prop) : Prop := match fl with
  | .nx env => f env
  | .rt d => Q (.rt d)
theorem nxt_nx {env : En} {f : En → Prop} {Q : Fl → Prop} : nxt (.nx env) f Q ↔ f env := Iff.rfl
theorem nxt_rt {d : D} {f : En → Prop} {Q : Fl → Prop} : nxt (.rt d) f Q ↔ Q (.rt d) := Iff.rfl
variable {P : Fl → Prop} {s t : IS}
theorem es_set {i : Nat} : O1 (evS Φ (.set i a) env) P ↔ O1 (evE Φ a env) fun d => P (.nx (env.set i (.val d))) := by
  simp only [evS]
  cases evE Φ a env with
  | none => simp only [o1_none]
  | some x => simp only [o1_some]
theorem es_setO {i : Nat} : O1 (evS Φ (.setO i a) env) P ↔ O1 (evE Φ a env) fun d => O1 (listD d) fun ds => P (.nx (env.set i (.own ds))) := by
  simp only [evS]
  cases evE Φ a env with
  | none => simp only [o1_none]
  | some x => cases x <;> simp only [listD, o1_some, o1_none]
theorem es_unp {tg : List Nat} : O1 (evS Φ (.unp tg a) env) P ↔ O1 (evE Φ a env) fun d => O1 (tupD d) fun ds => O1 (bindEach tg ds env) fun env' => P (.nx env') := by
  simp only [evS]
  cases evE Φ a env with
  | none => simp only [o1_none]
  | some x => cases x <;> simp only [tupD, o1_some, o1_none, o1_map]
theorem es_par {i j : Nat} : O1 (evS Φ (.par i j a b) env) P ↔ O1 (evE Φ a env) fun x => O1 (evE Φ b env) fun y => P (.nx ((env.set i (.val x)).set j (.val y))) := by
  simp only [evS]
  cases evE Φ a env with
  | none => simp only [o1_none]
  | some x =>
    rw [o1_some]
    cases evE Φ b env with
    | none => simp only [o1_none]
    | some y => simp only [o1_some]
def ownS : Option Sl → Option (List D)
  | some (.own ds) => some ds
  | _ => none
theorem es_app {i : Nat} : O1 (evS Φ (.app i a) env) P ↔ O1 (ownS env[i]?) fun ds => O1 (evE Φ a env) fun d => ds.length < 100000 ∧ P (.nx (env.set i (.own (ds ++ [d])))) := by
  simp only [evS]
  cases env[i]? with
  | none => simp only [ownS, o1_none]
  | some sl =>
    cases sl <;> simp only [ownS, o1_none, o1_some]
    cases evE Φ a env with
    | none => simp only [o1_none]
    | some x => simp only [o1_some, o1_if]
theorem es_sti {i : Nat} : O1 (evS Φ (.sti i b a) env) P ↔ O1 (ownS env[i]?) fun ds => O1 (evE Φ a env) fun d => O1 (evE Φ b env) fun x => O1 (intD x) fun k => O1 (L2.ixN ds.length k) fun j => P (.nx (env.set i (.own (ds.set j d)))) := by
  simp only [evS]
  cases env[i]? with
  | none => simp only [ownS, o1_none]
  | some sl =>
    cases sl <;> simp only [ownS, o1_none, o1_some]
    cases evE Φ a env with
    | none => simp only [o1_none]
    | some x =>
      simp only [o1_some]
      cases evE Φ b env with
      | none => simp only [o1_none]
      | some y =>
        cases y <;> simp only [intD, o1_some, o1_none]
        generalize L2.ixN _ _ = z
        cases z <;> simp only [o1_some, o1_none]
theorem es_ifs : O1 (evS Φ (.ifs c s t) env) P ↔ O1 (evE Φ c env) fun x => O1 (boolD x) fun r => if r = true then O1 (evS Φ s env) P else O1 (evS Φ t env) P := by
  simp only [evS]
  rw [← o1_test]
  cases testD (evE Φ c env) with
  | none => simp only [o1_none]
  | some r => cases r <;> simp only [o1_some, if_true, if_false, Bool.false_eq_true]
theorem es_for {tg : List Nat} : O1 (evS Φ (.for_ tg src s) env) P ↔ O1 (evI Φ src env) fun ds => O1 (forL (forB tg (evS Φ s)) ds env) P := by
  simp only [evS]
  cases evI Φ src env with
  | none => simp only [o1_none]
  | some x => simp only [o1_some]
theorem es_skip : evS Φ .skip env = some (.nx env) := by simp only [evS]
theorem es_seq : O1 (evS Φ (.seq s t) env) P ↔ O1 (evS Φ s env) fun fl => nxt fl (fun env' => O1 (evS Φ t env') P) P := by
  simp only [evS]
  cases evS Φ s env with
  | none => simp only [o1_none]
  | some fl => cases fl <;> simp only [o1_some, nxt]
def valS : Option Sl → Option D
  | some (.val d) => some d
  | some (.own ds) => some (.list ds)
  | _ => none
def isVar : IE → Bool
  | .var _ => true
  | _ => false
theorem es_retv {i : Nat} : O1 (evS Φ (.ret (.var i)) env) P ↔ O1 (valS env[i]?) fun d => P (.rt d) := by
  simp only [evS, evR]
  cases env[i]? with
  | none => simp only [valS, Option.map_none, o1_none]
  | some sl => cases sl <;> simp only [valS, Option.map_none, Option.map_some, o1_none, o1_some]
theorem es_ret (h : isVar a = false) : O1 (evS Φ (.ret a) env) P ↔ O1 (evE Φ a env) fun d => P (.rt d) := by
  cases a <;> simp only [isVar, reduceCtorEq, Bool.true_eq_false] at h
  all_goals (simp only [evS, evR, o1_map])
theorem es_shr {i : Nat} {ds : List D} (h : env[i]? = some (.own ds)) : evS Φ (.shr i) env = some (.nx (env.set i (.val (.list ds)))) := by
  simp only [evS, h]
def retD : Fl → D
  | .rt d => d
  | .nx _ => .none
theorem ef_of {F : Fd} {ds : List D} (hl : ds.length = F.bs.length) : O1 (evF Φ F ds) Q ↔ O1 (evS Φ F.body (start0 F.bs ds ++ List.replicate (F.slots - ds.length) .no)) fun fl => Q (retD fl) := by
  unfold evF
  rw [if_pos hl]
  cases evS Φ F.body (start0 F.bs ds ++ List.replicate (F.slots - ds.length) .no) with
  | none => simp only [o1_none]
  | some fl => cases fl <;> simp only [o1_some, retD]
theorem turn_of {tg vs : List Nat} {cd : En → Option Bool} {el : En → Option D} {x : D} {R : Option D → Prop} : O1 (turnC tg vs cd el env x) R ↔ O1 (bindT tg x (wipeE env vs)) fun env' => O1 (cd env') fun r => if r = true then O1 (el env') fun y => R (some y) else R none := by
  unfold turnC
  cases bindT tg x (wipeE env vs) with
  | none => simp only [o1_none]
  | some env' =>
    simp only [o1_some]
    cases cd env' with
    | none => simp only [o1_none]
    | some r =>
      cases r with
      | false => simp only [o1_some, if_false, Bool.false_eq_true]
      | true =>
        simp only [o1_some, if_true]
        cases el env' <;> simp only [o1_some, o1_none]
theorem forB_of {tg : List Nat} {g : En → Option Fl} {x : D} : O1 (forB tg g x env) P ↔ O1 (bindT tg x env) fun env' => O1 (g env') P := by
  unfold forB
  cases bindT tg x env <;> simp only [o1_some, o1_none]
theorem bindT1 {i : Nat} {d : D} : bindT [i] d env = some (env.set i (.val d)) := by simp only [bindT]
theorem bindT2 {i j : Nat} {is : List Nat} {ds : List D} : bindT (i :: j :: is) (.tuple ds) env = bindEach (i :: j :: is) ds env := by simp only [bindT]
theorem ei_var {x1 : Nat} {Q : List D → Prop} : O1 (evI Φ (.var x1) env) Q ↔ O1 (evE Φ (.var x1) env) fun x => O1 (itemsD x) Q := ei_e rfl
theorem ei_bv {x1 : Nat} {Q : List D → Prop} : O1 (evI Φ (.bv x1) env) Q ↔ O1 (evE Φ (.bv x1) env) fun x => O1 (itemsD x) Q := ei_e rfl
theorem ei_ix {x1 : IE} {x2 : IE} {Q : List D → Prop} : O1 (evI Φ (.ix x1 x2) env) Q ↔ O1 (evE Φ (.ix x1 x2) env) fun x => O1 (itemsD x) Q := ei_e rfl
theorem ei_call {x1 : Nat} {x2 : IE} {Q : List D → Prop} : O1 (evI Φ (.call x1 x2) env) Q ↔ O1 (evE Φ (.call x1 x2) env) fun x => O1 (itemsD x) Q := ei_e rfl
theorem ei_bi {x1 : Bi} {x2 : IE} {Q : List D → Prop} : O1 (evI Φ (.bi x1 x2) env) Q ↔ O1 (evE Φ (.bi x1 x2) env) fun x => O1 (itemsD x) Q := ei_e rfl
theorem ei_tup {x1 : IE} {Q : List D → Prop} : O1 (evI Φ (.tup x1) env) Q ↔ O1 (evE Φ (.tup x1) env) fun x => O1 (itemsD x) Q := ei_e rfl
theorem ei_lst {x1 : IE} {Q : List D → Prop} : O1 (evI Φ (.lst x1) env) Q ↔ O1 (evE Φ (.lst x1) env) fun x => O1 (itemsD x) Q := ei_e rfl
theorem ei_comp {x1 : IE} {x2 : List Nat} {x3 : IE} {x4 : IE} {x5 : List Nat} {Q : List D → Prop} : O1 (evI Φ (.comp x1 x2 x3 x4 x5) env) Q ↔ O1 (evE Φ (.comp x1 x2 x3 x4 x5) env) fun x => O1 (itemsD x) Q := ei_e rfl
theorem ei_rev {x1 : IE} {Q : List D → Prop} : O1 (evI Φ (.rev x1) env) Q ↔ O1 (evE Φ (.rev x1) env) fun x => O1 (itemsD x) Q := ei_e rfl
theorem ei_bin {x1 : Operator} {x2 : IE} {x3 : IE} {Q : List D → Prop} : O1 (evI Φ (.bin x1 x2 x3) env) Q ↔ O1 (evE Φ (.bin x1 x2 x3) env) fun x => O1 (itemsD x) Q := ei_e rfl
theorem ei_rgL {x1 : IE} {x2 : IE} {Q : List D → Prop} : O1 (evI Φ (.rgL x1 x2) env) Q ↔ O1 (evE Φ (.rgL x1 x2) env) fun x => O1 (itemsD x) Q := ei_e rfl
theorem ei_rgT {x1 : IE} {x2 : IE} {Q : List D → Prop} : O1 (evI Φ (.rgT x1 x2) env) Q ↔ O1 (evE Φ (.rgT x1 x2) env) fun x => O1 (itemsD x) Q := ei_e rfl
theorem ei_sset {x1 : IE} {Q : List D → Prop} : O1 (evI Φ (.sset x1) env) Q ↔ O1 (evE Φ (.sset x1) env) fun x => O1 (itemsD x) Q := ei_e rfl
theorem ei_sl {x1 : IE} {x2 : IE} {x3 : IE} {Q : List D → Prop} : O1 (evI Φ (.sl x1 x2 x3) env) Q ↔ O1 (evE Φ (.sl x1 x2 x3) env) fun x => O1 (itemsD x) Q := ei_e rfl
theorem ei_split {x1 : IE} {x2 : IE} {Q : List D → Prop} : O1 (evI Φ (.split x1 x2) env) Q ↔ O1 (evE Φ (.split x1 x2) env) fun x => O1 (itemsD x) Q := ei_e rfl
theorem ec_cmp {x1 : CmpOp} {x2 : IE} {x3 : IE} {Q : Bool → Prop} : O1 (evC Φ (.cmp x1 x2 x3) env) Q ↔ O1 (evE Φ (.cmp x1 x2 x3) env) fun x => O1 (boolD x) Q := ec_e rfl
theorem ec_cmp2 {x1 : CmpOp} {x2 : CmpOp} {x3 : IE} {x4 : IE} {x5 : IE} {Q : Bool → Prop} : O1 (evC Φ (.cmp2 x1 x2 x3 x4 x5) env) Q ↔ O1 (evE Φ (.cmp2 x1 x2 x3 x4 x5) env) fun x => O1 (boolD x) Q := ec_e rfl
theorem ec_an {x1 : IE} {x2 : IE} {Q : Bool → Prop} : O1 (evC Φ (.an x1 x2) env) Q ↔ O1 (evE Φ (.an x1 x2) env) fun x => O1 (boolD x) Q := ec_e rfl
theorem ec_or {x1 : IE} {x2 : IE} {Q : Bool → Prop} : O1 (evC Φ (.or x1 x2) env) Q ↔ O1 (evE Φ (.or x1 x2) env) fun x => O1 (boolD x) Q := ec_e rfl
theorem ec_nt {x1 : IE} {Q : Bool → Prop} : O1 (evC Φ (.nt x1) env) Q ↔ O1 (evE Φ (.nt x1) env) fun x => O1 (boolD x) Q := ec_e rfl
theorem ec_call {x1 : Nat} {x2 : IE} {Q : Bool → Prop} : O1 (evC Φ (.call x1 x2) env) Q ↔ O1 (evE Φ (.call x1 x2) env) fun x => O1 (boolD x) Q := ec_e rfl
theorem ec_isi {x1 : Ty} {x2 : IE} {Q : Bool → Prop} : O1 (evC Φ (.isi x1 x2) env) Q ↔ O1 (evE Φ (.isi x1 x2) env) fun x => O1 (boolD x) Q := ec_e rfl
theorem ec_bv {x1 : Nat} {Q : Bool → Prop} : O1 (evC Φ (.bv x1) env) Q ↔ O1 (evE Φ (.bv x1) env) fun x => O1 (boolD x) Q := ec_e rfl
theorem ec_var {x1 : Nat} {Q : Bool → Prop} : O1 (evC Φ (.var x1) env) Q ↔ O1 (evE Φ (.var x1) env) fun x => O1 (boolD x) Q := ec_e rfl
theorem ec_bi {x1 : Bi} {x2 : IE} {Q : Bool → Prop} : O1 (evC Φ (.bi x1 x2) env) Q ↔ O1 (evE Φ (.bi x1 x2) env) fun x => O1 (boolD x) Q := ec_e rfl
theorem ec_cb {x1 : Bool} {Q : Bool → Prop} : O1 (evC Φ (.cb x1) env) Q ↔ O1 (evE Φ (.cb x1) env) fun x => O1 (boolD x) Q := ec_e rfl
theorem eo_ci {x1 : Int} {Q : Option Int → Prop} : O1 (evO Φ (.ci x1) env) Q ↔ O1 (evE Φ (.ci x1) env) fun x => O1 (intD x) fun i => Q (some i) := eo_e rfl
theorem eo_bv {x1 : Nat} {Q : Option Int → Prop} : O1 (evO Φ (.bv x1) env) Q ↔ O1 (evE Φ (.bv x1) env) fun x => O1 (intD x) fun i => Q (some i) := eo_e rfl
theorem eo_var {x1 : Nat} {Q : Option Int → Prop} : O1 (evO Φ (.var x1) env) Q ↔ O1 (evE Φ (.var x1) env) fun x => O1 (intD x) fun i => Q (some i) := eo_e rfl
theorem eo_neg {x1 : IE} {Q : Option Int → Prop} : O1 (evO Φ (.neg x1) env) Q ↔ O1 (evE Φ (.neg x1) env) fun x => O1 (intD x) fun i => Q (some i) := eo_e rfl
theorem eo_bin {x1 : Operator} {x2 : IE} {x3 : IE} {Q : Option Int → Prop} : O1 (evO Φ (.bin x1 x2 x3) env) Q ↔ O1 (evE Φ (.bin x1 x2 x3) env) fun x => O1 (intD x) fun i => Q (some i) := eo_e rfl
theorem eo_bi {x1 : Bi} {x2 : IE} {Q : Option Int → Prop} : O1 (evO Φ (.bi x1 x2) env) Q ↔ O1 (evE Φ (.bi x1 x2) env) fun x => O1 (intD x) fun i => Q (some i) := eo_e rfl
theorem eo_ix {x1 : IE} {x2 : IE} {Q : Option Int → Prop} : O1 (evO Φ (.ix x1 x2) env) Q ↔ O1 (evE Φ (.ix x1 x2) env) fun x => O1 (intD x) fun i => Q (some i) := eo_e rfl
theorem eo_call {x1 : Nat} {x2 : IE} {Q : Option Int → Prop} : O1 (evO Φ (.call x1 x2) env) Q ↔ O1 (evE Φ (.call x1 x2) env) fun x => O1 (intD x) fun i => Q (some i) := eo_e rfl
theorem er_bv {x1 : Nat} : O1 (evS Φ (.ret (.bv x1)) env) P ↔ O1 (evE Φ (.bv x1) env) fun d => P (.rt d) := es_ret rfl
theorem er_ix {x1 : IE} {x2 : IE} : O1 (evS Φ (.ret (.ix x1 x2)) env) P ↔ O1 (evE Φ (.ix x1 x2) env) fun d => P (.rt d) := es_ret rfl
theorem er_call {x1 : Nat} {x2 : IE} : O1 (evS Φ (.ret (.call x1 x2)) env) P ↔ O1 (evE Φ (.call x1 x2) env) fun d => P (.rt d) := es_ret rfl
theorem er_bi {x1 : Bi} {x2 : IE} : O1 (evS Φ (.ret (.bi x1 x2)) env) P ↔ O1 (evE Φ (.bi x1 x2) env) fun d => P (.rt d) := es_ret rfl
theorem er_tup {x1 : IE} : O1 (evS Φ (.ret (.tup x1)) env) P ↔ O1 (evE Φ (.tup x1) env) fun d => P (.rt d) := es_ret rfl
theorem er_lst {x1 : IE} : O1 (evS Φ (.ret (.lst x1)) env) P ↔ O1 (evE Φ (.lst x1) env) fun d => P (.rt d) := es_ret rfl
theorem er_comp {x1 : IE} {x2 : List Nat} {x3 : IE} {x4 : IE} {x5 : List Nat} : O1 (evS Φ (.ret (.comp x1 x2 x3 x4 x5)) env) P ↔ O1 (evE Φ (.comp x1 x2 x3 x4 x5) env) fun d => P (.rt d) := es_ret rfl
theorem er_rev {x1 : IE} : O1 (evS Φ (.ret (.rev x1)) env) P ↔ O1 (evE Φ (.rev x1) env) fun d => P (.rt d) := es_ret rfl
theorem er_bin {x1 : Operator} {x2 : IE} {x3 : IE} : O1 (evS Φ (.ret (.bin x1 x2 x3)) env) P ↔ O1 (evE Φ (.bin x1 x2 x3) env) fun d => P (.rt d) := es_ret rfl
theorem er_rgL {x1 : IE} {x2 : IE} : O1 (evS Φ (.ret (.rgL x1 x2)) env) P ↔ O1 (evE Φ (.rgL x1 x2) env) fun d => P (.rt d) := es_ret rfl
theorem er_rgT {x1 : IE} {x2 : IE} : O1 (evS Φ (.ret (.rgT x1 x2)) env) P ↔ O1 (evE Φ (.rgT x1 x2) env) fun d => P (.rt d) := es_ret rfl
theorem er_sset {x1 : IE} : O1 (evS Φ (.ret (.sset x1)) env) P ↔ O1 (evE Φ (.sset x1) env) fun d => P (.rt d) := es_ret rfl
theorem er_lset {x1 : IE} : O1 (evS Φ (.ret (.lset x1)) env) P ↔ O1 (evE Φ (.lset x1) env) fun d => P (.rt d) := es_ret rfl
theorem er_sl {x1 : IE} {x2 : IE} {x3 : IE} : O1 (evS Φ (.ret (.sl x1 x2 x3)) env) P ↔ O1 (evE Φ (.sl x1 x2 x3) env) fun d => P (.rt d) := es_ret rfl
theorem er_split {x1 : IE} {x2 : IE} : O1 (evS Φ (.ret (.split x1 x2)) env) P ↔ O1 (evE Φ (.split x1 x2) env) fun d => P (.rt d) := es_ret rfl
theorem er_join {x1 : IE} {x2 : IE} : O1 (evS Φ (.ret (.join x1 x2)) env) P ↔ O1 (evE Φ (.join x1 x2) env) fun d => P (.rt d) := es_ret rfl
theorem er_cmp {x1 : CmpOp} {x2 : IE} {x3 : IE} : O1 (evS Φ (.ret (.cmp x1 x2 x3)) env) P ↔ O1 (evE Φ (.cmp x1 x2 x3) env) fun d => P (.rt d) := es_ret rfl
theorem er_cmp2 {x1 : CmpOp} {x2 : CmpOp} {x3 : IE} {x4 : IE} {x5 : IE} : O1 (evS Φ (.ret (.cmp2 x1 x2 x3 x4 x5)) env) P ↔ O1 (evE Φ (.cmp2 x1 x2 x3 x4 x5) env) fun d => P (.rt d) := es_ret rfl
theorem er_an {x1 : IE} {x2 : IE} : O1 (evS Φ (.ret (.an x1 x2)) env) P ↔ O1 (evE Φ (.an x1 x2) env) fun d => P (.rt d) := es_ret rfl
theorem er_or {x1 : IE} {x2 : IE} : O1 (evS Φ (.ret (.or x1 x2)) env) P ↔ O1 (evE Φ (.or x1 x2) env) fun d => P (.rt d) := es_ret rfl
theorem er_nt {x1 : IE} : O1 (evS Φ (.ret (.nt x1)) env) P ↔ O1 (evE Φ (.nt x1) env) fun d => P (.rt d) := es_ret rfl
theorem er_isi {x1 : Ty} {x2 : IE} : O1 (evS Φ (.ret (.isi x1 x2)) env) P ↔ O1 (evE Φ (.isi x1 x2) env) fun d => P (.rt d) := es_ret rfl
theorem er_ci {x1 : Int} : O1 (evS Φ (.ret (.ci x1)) env) P ↔ O1 (evE Φ (.ci x1) env) fun d => P (.rt d) := es_ret rfl
theorem er_cb {x1 : Bool} : O1 (evS Φ (.ret (.cb x1)) env) P ↔ O1 (evE Φ (.cb x1) env) fun d => P (.rt d) := es_ret rfl
theorem er_cn  : O1 (evS Φ (.ret .cn) env) P ↔ O1 (evE Φ .cn env) fun d => P (.rt d) := es_ret rfl
theorem er_cs {x1 : Str} : O1 (evS Φ (.ret (.cs x1)) env) P ↔ O1 (evE Φ (.cs x1) env) fun d => P (.rt d) := es_ret rfl
theorem er_neg {x1 : IE} : O1 (evS Φ (.ret (.neg x1)) env) P ↔ O1 (evE Φ (.neg x1) env) fun d => P (.rt d) := es_ret rfl
theorem valS_val {d : D} : valS (some (.val d)) = some d := rfl
theorem valS_own {d : List D} : valS (some (.own d)) = some (.list d) := rfl
theorem retD_rt {d : D} : retD (.rt d) = d := rfl
theorem retD_nx : retD (.nx env) = .none := rfl
theorem boolD_b {x : Bool} : boolD (.bool x) = some x := rfl
theorem intD_i {x : Int} : intD (.int x) = some x := rfl
theorem listD_l {x : List D} : listD (.list x) = some x := rfl
theorem tupD_t {x : List D} : tupD (.tuple x) = some x := rfl
theorem ownS_o {x : List D} : ownS (some (.own x)) = some x := rfl
theorem items_l {x : List D} : itemsD (.list x) = some x := rfl
theorem items_t {x : List D} : itemsD (.tuple x) = some x := rfl
theorem isi_b {x : Bool} : evIsi .bool (.bool x) = some true := rfl
theorem isi_i {x : Int} : evIsi .bool (.int x) = some false := rfl
theorem isi_n : evIsi .bool .none = some false := rfl
theorem isi_ii {x : Int} : evIsi .int (.int x) = some true := rfl
theorem isi_tt {x : List D} : evIsi .tuple (.tuple x) = some true := rfl
theorem len_l {x : List D} : biLen [.list x] = some (.int x.length) := rfl
theorem len_t {x : List D} : biLen [.tuple x] = some (.int x.length) := rfl
theorem tu_l {x : List D} : biTuple [.list x] = some (.tuple x) := rfl
theorem tu_t {x : List D} : biTuple [.tuple x] = some (.tuple x) := rfl
theorem li_l {x : List D} : biList [.list x] = some (.list x) := rfl
theorem li_t {x : List D} : biList [.tuple x] = some (.list x) := rfl
theorem int_b {x : Bool} : biInt [.bool x] = some (.int (if x = true then 1 else 0)) := rfl
theorem add_i {x y : Int} : opAdd (.int x) (.int y) = some (.int (x + y)) := rfl
theorem add_l {x y : List D} : opAdd (.list x) (.list y) = if x.length + y.length ≤ 1000000 then some (.list (x ++ y)) else none := rfl
theorem add_t {x y : List D} : opAdd (.tuple x) (.tuple y) = if x.length + y.length ≤ 100000 then some (.tuple (x ++ y)) else none := rfl
theorem sub_i {x y : Int} : opSub (.int x) (.int y) = some (.int (x - y)) := rfl
theorem opI_i {f : Int → Int → Bool} {x y : Int} : opI f (.int x) (.int y) = some (f x y) := rfl
theorem rev_l {x : List D} : opRev (.list x) = some (.list x.reverse) := rfl
theorem rev_t {x : List D} : opRev (.tuple x) = some (.tuple x.reverse) := rfl
theorem sl_l {x : List D} {l h : Option Int} : opSl (.list x) l h = some (.list (cutD x l h)) := rfl
theorem sl_t {x : List D} {l h : Option Int} : opSl (.tuple x) l h = some (.tuple (cutD x l h)) := rfl
theorem zip_t {x y : List D} : zip2 (.tuple x) (.tuple y) = some (zipD x y) := rfl
theorem zip_tl {x y : List D} : zip2 (.tuple x) (.list y) = some (zipD x y) := rfl
theorem sq2_t {x : List D} : seq2 (.tuple x) = some x := rfl
theorem sq2_l {x : List D} : seq2 (.list x) = some x := rfl
theorem zip_l {x y : List D} : zip2 (.list x) (.list y) = some (zipD x y) := rfl
theorem bi_len {ds : List D} : evBi .len ds = biLen ds := rfl
theorem bi_min {ds : List D} : evBi .min ds = biMin ds := rfl
theorem bi_max {ds : List D} : evBi .max ds = biMax ds := rfl
theorem bi_sum {ds : List D} : evBi .sum ds = biSum ds := rfl
theorem bi_all {ds : List D} : evBi .all ds = biAll ds := rfl
theorem bi_any {ds : List D} : evBi .any ds = biAny ds := rfl
theorem bi_int {ds : List D} : evBi .int ds = biInt ds := rfl
theorem bi_str {ds : List D} : evBi .str ds = biStr ds := rfl
theorem bi_tuple {ds : List D} : evBi .tuple ds = biTuple ds := rfl
theorem bi_list {ds : List D} : evBi .list ds = biList ds := rfl
theorem bi_sorted {ds : List D} : evBi .sorted ds = biSorted ds := rfl
theorem opB_add {x y : D} : opB .Add x y = opAdd x y := rfl
theorem opB_sub {x y : D} : opB .Sub x y = opSub x y := rfl
theorem opB_mul {x y : D} : opB .Mult x y = opMul x y := rfl
theorem opB_div {x y : D} : opB .FloorDiv x y = opDiv x y := rfl
theorem opB_mod {x y : D} : opB .Mod x y = opMod x y := rfl
theorem opC_eq {x y : D} : opC .Eq x y = opEq x y := rfl
theorem opC_ne {x y : D} : opC .NotEq x y = (opEq x y).map (! ·) := rfl
theorem opC_lt {x y : D} : opC .Lt x y = opI (fun i j => decide (i < j)) x y := rfl
theorem opC_le {x y : D} : opC .LtE x y = opI (fun i j => decide (i ≤ j)) x y := rfl
theorem opC_gt {x y : D} : opC .Gt x y = opI (fun i j => decide (j < i)) x y := rfl
theorem opC_ge {x y : D} : opC .GtE x y = opI (fun i j => decide (j ≤ i)) x y := rfl
theorem opC_is {x : D} : opC .Is x .none = some (isNoneD x) := by cases x <;> rfl
theorem opC_isn {x : D} : opC .IsNot x .none = some (!isNoneD x) := by cases x <;> rfl
theorem opC_isb {x y : Bool} : opC .Is (.bool x) (.bool y) = some (decide (x = y)) := rfl
theorem opC_isnb {x y : Bool} : opC .IsNot (.bool x) (.bool y) = some (!decide (x = y)) := rfl
theorem opC_in {x y : D} : opC .In x y = opIn x y := rfl
theorem opC_nin {x y : D} : opC .NotIn x y = (opIn x y).map (! ·) := rfl
theorem isN_n : isNoneD .none = true := rfl
theorem isN_i {x : Int} : isNoneD (.int x) = false := rfl
/-! walks -/
theorem comp_fm {α β : Type} {e : α → D} {e' : β → D} (g : α → Option β) {f : D → Option (Option D)} {Q : List D → Prop} {xs : List α} (h : ∀ x ∈ xs, O1 (f (e x)) (· = (g x).map e')) (q : Q ((xs.filterMap g).map e')) : O1 (compL f (xs.map e)) Q := by
  have : compL f (xs.map e) = some ((xs.filterMap g).map e') := by
    clear q
    induction xs with
    | nil => rfl
    | cons x r ih =>
      rw [List.map_cons]
      unfold compL
      rw [o1_eq.mp (h x List.mem_cons_self), ih fun y hy => h y (List.mem_cons_of_mem _ hy), List.filterMap_cons]
      cases g x <;> rfl
  rw [o1_of this]
  exact q
theorem comp_map {α β : Type} {e : α → D} {e' : β → D} (g : α → β) {f : D → Option (Option D)} {Q : List D → Prop} {xs : List α} (h : ∀ x ∈ xs, O1 (f (e x)) (· = some (e' (g x)))) (q : Q ((xs.map g).map e')) : O1 (compL f (xs.map e)) Q := by
  refine comp_fm (e' := e') (fun x => some (g x)) h ?_
  rw [List.filterMap_eq_map']
  exact q
/-- a for: I of what is behind it -/
theorem for_pre {α : Type} {e : α → D} (I : List α → En → Prop) {f : D → En → Option Fl} {xs : List α} (h0 : I [] env) (h : ∀ pre x post env, xs = pre ++ x :: post → I pre env → O1 (f (e x) env) fun fl => nxt fl (I (pre ++ [x])) P) (q : ∀ env, I xs env → P (.nx env)) : O1 (forL f (xs.map e) env) P := by
  have key : ∀ (post pre : List α) (env : En), xs = pre ++ post → I pre env → O1 (forL f (post.map e) env) P := by
    intro post
    induction post with
    | nil =>
      intro pre env hx hI
      rw [List.append_nil] at hx
      rw [List.map_nil, forL, o1_some]
      exact q env (hx ▸ hI)
    | cons x post ih =>
      intro pre env hx hI
      rw [List.map_cons]
      unfold forL
      obtain ⟨fl, e1, e2⟩ := h pre x post env hx hI
      rw [e1]
      cases fl with
      | nx env' => exact ih (pre ++ [x]) env' (by rw [List.append_assoc]; exact hx) e2
      | rt d => exact ⟨_, rfl, e2⟩
  exact key xs [] env rfl h0
/-- a for that folds -/
theorem for_fold {α β : Type} {e : α → D} (S : β → En → Prop) (g : β → α → β) {b : β} {f : D → En → Option Fl} {xs : List α} (h0 : S b env) (h : ∀ b x env, x ∈ xs → S b env → O1 (f (e x) env) fun fl => nxt fl (S (g b x)) P) (q : ∀ env, S (xs.foldl g b) env → P (.nx env)) : O1 (forL f (xs.map e) env) P := by
  refine for_pre (fun pre env => S (pre.foldl g b) env) h0 (fun pre x post env hx hI => ?_) q
  rw [List.foldl_append]
  exact h _ x env (by rw [hx]; simp) hI
end
end J

/-! pieces, joins, cost: what they compute. -/
namespace J
open PySem
def nI (i : Nat) : D := .int i
def Web.tie (w : Web) (k : Nat) : T3 := w.ties.getD k (0, 0, 0)
theorem biMin2 {i j : Nat} : biMin [.int i, .int j] = some (nI (min i j)) := by
  simp only [biMin, nI]
  congr 2
  split <;> omega
theorem biMax2 {i j : Nat} : biMax [.int i, .int j] = some (nI (max i j)) := by
  simp only [biMax, nI]
  congr 2
  split <;> omega
theorem ix_l {f : List Nat} {k : Nat} (h : k < f.length) : opIx (.list (f.map nI)) (.int k) = some (nI (f.getD k 0)) := by
  simp only [opIx]
  rw [atI_nat, List.getElem?_map, List.getElem?_eq_getElem h, List.getD_eq_getElem?_getD, List.getElem?_eq_getElem h]
  rfl
theorem ix_t {f : List Nat} {k : Nat} (h : k < f.length) : opIx (.tuple (f.map nI)) (.int k) = some (nI (f.getD k 0)) := by
  simp only [opIx]
  rw [atI_nat, List.getElem?_map, List.getElem?_eq_getElem h, List.getD_eq_getElem?_getD, List.getElem?_eq_getElem h]
  rfl
theorem ix_w {w : Web} {k : Nat} (h : k < w.ties.length) : opIx (.tuple (w.ties.map encT)) (.int k) = some (encT (w.tie k)) := by
  simp only [opIx]
  rw [atI_nat, List.getElem?_map, List.getElem?_eq_getElem h]
  unfold Web.tie
  rw [List.getD_eq_getElem?_getD, List.getElem?_eq_getElem h]
  rfl
theorem ix_e0 {t : T3} : opIx (encT t) (.int 0) = some (nI t.1) := rfl
theorem ix_e1 {t : T3} : opIx (encT t) (.int 1) = some (nI t.2.1) := rfl
theorem ix_e2 {t : T3} : opIx (encT t) (.int 2) = some (nI t.2.2) := rfl
theorem tup_e {t : T3} : tupD (encT t) = some [nI t.1, nI t.2.1, nI t.2.2] := rfl
theorem Wok.tie {w : Web} (hw : Wok w) {k : Nat} (h : k < w.ties.length) : Tok w.many (w.tie k) := by
  refine hw.ok _ ?_
  unfold Web.tie
  rw [List.getD_eq_getElem?_getD, List.getElem?_eq_getElem h]
  exact List.getElem_mem h
theorem rgD_nI (n : Nat) : rgD 0 n = (List.range n).map nI := by
  unfold rgD nI
  simp
theorem rg_nI {n : Nat} (h : n ≤ 100000) : opRg (.int 0) (.int n) = some ((List.range n).map nI) := by
  simp only [opRg]
  rw [if_pos, rgD_nI]
  unfold rgOk
  simp
  omega
theorem eqv_int {i j : Int} : PyData.eqv (.int i) (.int j) = decide (i = j) := by
  simp only [PyData.eqv]
  rfl
theorem opEq_nI {i j : Nat} : opEq (.int i) (.int j) = some (decide (i = j)) := by
  simp only [opEq, scalP, if_true, eqv_int]
  congr 1
  rw [Bool.eq_iff_iff, decide_eq_true_eq, decide_eq_true_eq]
  omega
theorem opEq_bb {x y : Bool} : opEq (.bool x) (.bool y) = some (decide (x = y)) := by cases x <;> cases y <;> rfl
theorem ints_nI (xs : List Nat) : ints? (xs.map nI) = some (xs.map fun n : Nat => (n : Int)) := by
  induction xs with
  | nil => rfl
  | cons x r ih => rw [List.map_cons, nI, ints?, ih]; rfl
theorem len40 {α : Type} {f : List α} {e : α → D} (h : f.length ≤ 40000) : (f.map e).length ≤ 40000 := by rw [List.length_map]; exact h
end J

/-! The ends that a law draws; cost; what joins means. -/
namespace J
open PySem
theorem mod_lt {a : Int} {m : Nat} (hm : 1 ≤ m) : 0 ≤ a % m ∧ a % m < m := ⟨Int.emod_nonneg _ (by omega), Int.emod_lt_of_pos _ (by omega)⟩
theorem draws (n : Nat) {a : Int} {w : Web} (hw : Wok w) {m : D} : ∀ rs : List Int, ∃ xs, drawsF 3 (Ph (n + 1)) (.int a) (encW w) m (rs.map .int) = some xs ∧ xs.length = rs.length ∧ ∀ x ∈ xs, 0 ≤ x ∧ x < w.many
  | [] => ⟨[], rfl, rfl, fun x hx => nomatch hx⟩
  | r :: rs => by
    obtain ⟨xs, h1, h2, h3⟩ := draws n (a := a) hw (m := m) rs
    have hm := hw.lo
    have e : evE (Ph (n + 1)) (ieC 3) [.val (.int a), .val (encW w), .val m, .no, .val (.int r)] = some (.int (drw a r / 4 % w.many)) := by
      rw [← o1_eq]
      simp only [o1_some, o1_none, o1_map, o1_if, o1_test, ev_var, ev_bv, ev_cn, ev_cb, ev_ci, ev_cs, ev_bin, ev_neg, ev_nt, ev_cmp, ev_cmp2, ev_an, ev_or, ev_tup, ev_lst, ev_call, ev_bi, ev_isi, ev_ix, ev_sl, ev_rev, ev_rgL, ev_rgT, ev_lset, ev_sset, ev_comp, ev_join, ev_split, ea_nil, ea_cons, eo_nil, ec_nil, ei_rg, ei_zip, ei_enum, nxt_nx, nxt_rt, es_set, es_setO, es_unp, es_par, es_app, es_sti, es_ifs, es_for, es_skip, es_seq, es_retv, turn_of, forB_of, bindT1, bindT2, bindEach, wipeE, getV, getB, start0, List.length_cons, List.length_nil, List.getElem?_cons_zero, List.getElem?_cons_succ, List.set_cons_zero, List.set_cons_succ, List.cons_append, List.nil_append, List.replicate_succ, List.replicate_zero, if_true, if_false, reduceIte, Nat.reduceAdd, Nat.reduceSub, Nat.reduceLeDiff, Bool.false_eq_true, Bool.true_eq_false, Bool.not_true, Bool.not_false, reduceCtorEq, Nat.zero_add, true_and, and_true, ei_var, ei_bv, ei_ix, ei_call, ei_bi, ei_tup, ei_lst, ei_comp, ei_rev, ei_bin, ei_rgL, ei_rgT, ei_sset, ei_sl, ei_split, ec_cmp, ec_cmp2, ec_an, ec_or, ec_nt, ec_call, ec_isi, ec_bv, ec_var, ec_bi, ec_cb, eo_ci, eo_bv, eo_var, eo_neg, eo_bin, eo_bi, eo_ix, eo_call, er_bv, er_ix, er_call, er_bi, er_tup, er_lst, er_comp, er_rev, er_bin, er_rgL, er_rgT, er_sset, er_lset, er_sl, er_split, er_join, er_cmp, er_cmp2, er_an, er_or, er_nt, er_isi, er_ci, er_cb, er_cn, er_cs, er_neg, valS_val, valS_own, retD_rt, retD_nx, boolD_b, intD_i, listD_l, tupD_t, ownS_o, items_l, items_t, isi_b, isi_i, isi_n, isi_ii, isi_tt, len_l, len_t, tu_l, tu_t, li_l, li_t, int_b, add_i, add_l, add_t, sub_i, opI_i, rev_l, rev_t, sl_l, sl_t, zip_t, zip_l, zip_tl, sq2_t, sq2_l, bi_len, bi_min, bi_max, bi_sum, bi_all, bi_any, bi_int, bi_str, bi_tuple, bi_list, bi_sorted, opB_add, opB_sub, opB_mul, opB_div, opB_mod, opC_eq, opC_ne, opC_lt, opC_le, opC_gt, opC_ge, opC_is, opC_isn, opC_isb, opC_isnb, opC_in, opC_nin, isN_n, isN_i, nI, biMin2, biMax2, opEq_nI, ixW0, ixW1, ix_e0, ix_e1, ix_e2, tup_e, decide_eq_true_eq, ieC, drawn, divOk (show (0 : Int) < 4 by decide) (by decide), modOk (show (0 : Int) < (w.many : Int) by omega)]
    refine ⟨drw a r / 4 % w.many :: xs, ?_, by rw [List.length_cons, List.length_cons, h2], fun x hx => ?_⟩
    · rw [List.map_cons]
      unfold drawsF
      rw [e]
      dsimp only
      rw [h1]
      rfl
    · rcases List.mem_cons.mp hx with e | hx
      · subst e; exact mod_lt hm
      · exact h3 x hx
theorem lt_of_sorted {l : List Int} (h1 : l.Pairwise (· ≤ ·)) (h2 : l.Nodup) : l.Pairwise (· < ·) := by
  induction l with
  | nil => exact List.Pairwise.nil
  | cons x r ih =>
    rw [List.pairwise_cons] at h1 ⊢
    rw [List.nodup_cons] at h2
    refine ⟨fun y hy => ?_, ih h1.2 h2.2⟩
    have := h1.1 y hy
    have hne : x ≠ y := fun e => h2.1 (e ▸ hy)
    omega
theorem nat_of {l : List Int} (h : ∀ x ∈ l, 0 ≤ x) : (l.map Int.toNat).map nI = l.map PyData.int := by
  rw [List.map_map]
  refine List.map_congr_left fun x hx => ?_
  have := h x hx
  show PyData.int ((x.toNat : Nat) : Int) = _
  rw [toN this]
theorem len_lt : ∀ (es : List Nat) (k m : Nat), es.Pairwise (· < ·) → (∀ e ∈ es, k ≤ e ∧ e < m) → es.length ≤ m - k
  | [], k, m, _, _ => Nat.zero_le _
  | e :: r, k, m, h1, h2 => by
    rw [List.pairwise_cons] at h1
    have := h2 e List.mem_cons_self
    have := len_lt r (e + 1) m h1.2 fun x hx => ⟨h1.1 x hx, (h2 x (List.mem_cons_of_mem _ hx)).2⟩
    rw [List.length_cons]
    omega
structure Eok (w : Web) (es : List Nat) : Prop where
  ne : es ≠ []
  lt : ∀ e ∈ es, e < w.many
  st : es.Pairwise (· < ·)
theorem Eok.len {w : Web} {es : List Nat} (h : Eok w es) : es.length ≤ w.many := len_lt es 0 w.many h.st fun e he => ⟨Nat.zero_le _, h.lt e he⟩
theorem ends (n : Nat) {a : Int} (ha : 0 ≤ a) {w : Web} (hw : Wok w) {m : Nat} (hm : 1 ≤ m) (hm2 : m ≤ 20) : ∃ es : List Nat, Ph (n + 2) 11 [.int a, encW w, .int m] = some (.tuple (es.map nI)) ∧ Eok w es ∧ es.length ≤ m := by
  have h1 := hw.lo
  show ∃ es : List Nat, endsF 3 (Ph (n + 1)) [.int a, encW w, .int m] = _ ∧ _
  have eA : evE (Ph (n + 1)) ieA [.val (.int a), .val (encW w), .val (.int m), .no, .no] = some (.int (a % w.many)) := by
    rw [← o1_eq]
    simp only [o1_some, o1_none, o1_map, o1_if, o1_test, ev_var, ev_bv, ev_cn, ev_cb, ev_ci, ev_cs, ev_bin, ev_neg, ev_nt, ev_cmp, ev_cmp2, ev_an, ev_or, ev_tup, ev_lst, ev_call, ev_bi, ev_isi, ev_ix, ev_sl, ev_rev, ev_rgL, ev_rgT, ev_lset, ev_sset, ev_comp, ev_join, ev_split, ea_nil, ea_cons, eo_nil, ec_nil, ei_rg, ei_zip, ei_enum, nxt_nx, nxt_rt, es_set, es_setO, es_unp, es_par, es_app, es_sti, es_ifs, es_for, es_skip, es_seq, es_retv, turn_of, forB_of, bindT1, bindT2, bindEach, wipeE, getV, getB, start0, List.length_cons, List.length_nil, List.getElem?_cons_zero, List.getElem?_cons_succ, List.set_cons_zero, List.set_cons_succ, List.cons_append, List.nil_append, List.replicate_succ, List.replicate_zero, if_true, if_false, reduceIte, Nat.reduceAdd, Nat.reduceSub, Nat.reduceLeDiff, Bool.false_eq_true, Bool.true_eq_false, Bool.not_true, Bool.not_false, reduceCtorEq, Nat.zero_add, true_and, and_true, ei_var, ei_bv, ei_ix, ei_call, ei_bi, ei_tup, ei_lst, ei_comp, ei_rev, ei_bin, ei_rgL, ei_rgT, ei_sset, ei_sl, ei_split, ec_cmp, ec_cmp2, ec_an, ec_or, ec_nt, ec_call, ec_isi, ec_bv, ec_var, ec_bi, ec_cb, eo_ci, eo_bv, eo_var, eo_neg, eo_bin, eo_bi, eo_ix, eo_call, er_bv, er_ix, er_call, er_bi, er_tup, er_lst, er_comp, er_rev, er_bin, er_rgL, er_rgT, er_sset, er_lset, er_sl, er_split, er_join, er_cmp, er_cmp2, er_an, er_or, er_nt, er_isi, er_ci, er_cb, er_cn, er_cs, er_neg, valS_val, valS_own, retD_rt, retD_nx, boolD_b, intD_i, listD_l, tupD_t, ownS_o, items_l, items_t, isi_b, isi_i, isi_n, isi_ii, isi_tt, len_l, len_t, tu_l, tu_t, li_l, li_t, int_b, add_i, add_l, add_t, sub_i, opI_i, rev_l, rev_t, sl_l, sl_t, zip_t, zip_l, zip_tl, sq2_t, sq2_l, bi_len, bi_min, bi_max, bi_sum, bi_all, bi_any, bi_int, bi_str, bi_tuple, bi_list, bi_sorted, opB_add, opB_sub, opB_mul, opB_div, opB_mod, opC_eq, opC_ne, opC_lt, opC_le, opC_gt, opC_ge, opC_is, opC_isn, opC_isb, opC_isnb, opC_in, opC_nin, isN_n, isN_i, nI, biMin2, biMax2, opEq_nI, ixW0, ixW1, ix_e0, ix_e1, ix_e2, tup_e, decide_eq_true_eq, ieA, modOk (show (0 : Int) < (w.many : Int) by omega)]
  have hk := mod_lt (a := a / 7) hm
  have eB : evI (Ph (n + 1)) (.rg (.ci 0) ieB) [.val (.int a), .val (encW w), .val (.int m), .no, .no] = some (((List.range (a / 7 % m).toNat).map fun i : Nat => (i : Int)).map .int) := by
    rw [← o1_eq]
    simp only [o1_some, o1_none, o1_map, o1_if, o1_test, ev_var, ev_bv, ev_cn, ev_cb, ev_ci, ev_cs, ev_bin, ev_neg, ev_nt, ev_cmp, ev_cmp2, ev_an, ev_or, ev_tup, ev_lst, ev_call, ev_bi, ev_isi, ev_ix, ev_sl, ev_rev, ev_rgL, ev_rgT, ev_lset, ev_sset, ev_comp, ev_join, ev_split, ea_nil, ea_cons, eo_nil, ec_nil, ei_rg, ei_zip, ei_enum, nxt_nx, nxt_rt, es_set, es_setO, es_unp, es_par, es_app, es_sti, es_ifs, es_for, es_skip, es_seq, es_retv, turn_of, forB_of, bindT1, bindT2, bindEach, wipeE, getV, getB, start0, List.length_cons, List.length_nil, List.getElem?_cons_zero, List.getElem?_cons_succ, List.set_cons_zero, List.set_cons_succ, List.cons_append, List.nil_append, List.replicate_succ, List.replicate_zero, if_true, if_false, reduceIte, Nat.reduceAdd, Nat.reduceSub, Nat.reduceLeDiff, Bool.false_eq_true, Bool.true_eq_false, Bool.not_true, Bool.not_false, reduceCtorEq, Nat.zero_add, true_and, and_true, ei_var, ei_bv, ei_ix, ei_call, ei_bi, ei_tup, ei_lst, ei_comp, ei_rev, ei_bin, ei_rgL, ei_rgT, ei_sset, ei_sl, ei_split, ec_cmp, ec_cmp2, ec_an, ec_or, ec_nt, ec_call, ec_isi, ec_bv, ec_var, ec_bi, ec_cb, eo_ci, eo_bv, eo_var, eo_neg, eo_bin, eo_bi, eo_ix, eo_call, er_bv, er_ix, er_call, er_bi, er_tup, er_lst, er_comp, er_rev, er_bin, er_rgL, er_rgT, er_sset, er_lset, er_sl, er_split, er_join, er_cmp, er_cmp2, er_an, er_or, er_nt, er_isi, er_ci, er_cb, er_cn, er_cs, er_neg, valS_val, valS_own, retD_rt, retD_nx, boolD_b, intD_i, listD_l, tupD_t, ownS_o, items_l, items_t, isi_b, isi_i, isi_n, isi_ii, isi_tt, len_l, len_t, tu_l, tu_t, li_l, li_t, int_b, add_i, add_l, add_t, sub_i, opI_i, rev_l, rev_t, sl_l, sl_t, zip_t, zip_l, zip_tl, sq2_t, sq2_l, bi_len, bi_min, bi_max, bi_sum, bi_all, bi_any, bi_int, bi_str, bi_tuple, bi_list, bi_sorted, opB_add, opB_sub, opB_mul, opB_div, opB_mod, opC_eq, opC_ne, opC_lt, opC_le, opC_gt, opC_ge, opC_is, opC_isn, opC_isb, opC_isnb, opC_in, opC_nin, isN_n, isN_i, nI, biMin2, biMax2, opEq_nI, ixW0, ixW1, ix_e0, ix_e1, ix_e2, tup_e, decide_eq_true_eq, ieB, divOk (show (0 : Int) < 7 by decide) (by decide), modOk (show (0 : Int) < (m : Int) by omega)]
    rw [← toN hk.1, rg_nI (by omega), o1_some, List.map_map, toN hk.1]
    rfl
  obtain ⟨xs, d1, d2, d3⟩ := draws n (a := a) hw (m := .int m) ((List.range (a / 7 % m).toNat).map fun i : Nat => (i : Int))
  have hx := mod_lt (a := a) h1
  let l := sortI (undupI (a % w.many :: xs))
  have hmem : ∀ x, x ∈ l ↔ x ∈ a % w.many :: xs := fun x => by
    show x ∈ sortI _ ↔ _
    rw [(sortI_perm _).mem_iff, undupI_mem]
  have hb : ∀ x ∈ l, 0 ≤ x ∧ x < w.many := fun x hx' => by
    rcases List.mem_cons.mp ((hmem x).mp hx') with e | h
    · subst e; exact hx
    · exact d3 x h
  have hst : l.Pairwise (· < ·) := lt_of_sorted (sortI_sorted _) ((sortI_perm _).nodup_iff.mpr (undupI_nodup _))
  refine ⟨l.map Int.toNat, ?_, ⟨?_, fun e he => ?_, ?_⟩, ?_⟩
  · rw [nat_of fun x hx => (hb x hx).1]
    unfold endsF
    dsimp only
    rw [eA]
    dsimp only
    rw [eB]
    dsimp only
    rw [if_pos (by rw [List.length_map, List.length_map, List.length_range]; omega), d1]
    rfl
  · intro e
    have : a % w.many ∈ l := (hmem _).mpr List.mem_cons_self
    rw [List.map_eq_nil_iff.mp e] at this
    cases this
  · obtain ⟨x, hx, rfl⟩ := List.mem_map.mp he
    have := hb x hx
    omega
  · rw [List.pairwise_map]
    refine List.Pairwise.imp_of_mem (fun {x y} hx hy h => ?_) hst
    have := hb x hx
    have := hb y hy
    omega
  · rw [List.length_map]
    have e1 : l.length = (undupI (a % w.many :: xs)).length := (sortI_perm _).length_eq
    have e2 : ∀ q : List Int, (undupI q).length ≤ q.length := fun q => by
      induction q with
      | nil => exact Nat.le_refl _
      | cons x r ih =>
        unfold undupI
        split
        · rw [List.length_cons]; omega
        · rw [List.length_cons, List.length_cons]; omega
    have := e2 (a % w.many :: xs)
    rw [List.length_cons, d2, List.length_map, List.length_range] at this
    omega
def cst (w : Web) (is : List Nat) : Nat := (is.map fun k => (w.tie k).2.2).sum
/-! ### joined -/
inductive Cn (w : Web) (S : Nat → Prop) : Nat → Nat → Prop
  | rf (a : Nat) : Cn w S a a
  | tie (k : Nat) : S k → k < w.ties.length → Cn w S (w.tie k).1 (w.tie k).2.1
  | sm {a b : Nat} : Cn w S a b → Cn w S b a
  | tr {a b c : Nat} : Cn w S a b → Cn w S b c → Cn w S a c
theorem Cn.mono {w : Web} {S T : Nat → Prop} (h : ∀ k, S k → T k) {a b : Nat} (c : Cn w S a b) : Cn w T a b := by
  induction c with
  | rf a => exact .rf a
  | tie k hk hl => exact .tie k (h k hk) hl
  | sm _ ih => exact .sm ih
  | tr _ _ i1 i2 => exact .tr i1 i2
/-- one tie more -/
theorem Cn.add {w : Web} {S : Nat → Prop} {k : Nat} (hk : k < w.ties.length) {a b : Nat} : Cn w (fun j => S j ∨ j = k) a b ↔ Cn w S a b ∨ (Cn w S a (w.tie k).1 ∧ Cn w S (w.tie k).2.1 b) ∨ (Cn w S a (w.tie k).2.1 ∧ Cn w S (w.tie k).1 b) := by
  constructor
  · intro c
    induction c with
    | rf a => exact .inl (.rf a)
    | tie j hj hl =>
      rcases hj with hj | rfl
      · exact .inl (.tie j hj hl)
      · exact .inr (.inl ⟨.rf _, .rf _⟩)
    | sm _ ih =>
      rcases ih with h | ⟨h1, h2⟩ | ⟨h1, h2⟩
      · exact .inl h.sm
      · exact .inr (.inr ⟨h2.sm, h1.sm⟩)
      · exact .inr (.inl ⟨h2.sm, h1.sm⟩)
    | tr _ _ i1 i2 =>
      rcases i1 with h | ⟨h1, h2⟩ | ⟨h1, h2⟩
      · rcases i2 with g | ⟨g1, g2⟩ | ⟨g1, g2⟩
        · exact .inl (h.tr g)
        · exact .inr (.inl ⟨h.tr g1, g2⟩)
        · exact .inr (.inr ⟨h.tr g1, g2⟩)
      · rcases i2 with g | ⟨g1, g2⟩ | ⟨g1, g2⟩
        · exact .inr (.inl ⟨h1, h2.tr g⟩)
        · exact .inr (.inl ⟨h1, g2⟩)
        · exact .inl (h1.tr g2)
      · rcases i2 with g | ⟨g1, g2⟩ | ⟨g1, g2⟩
        · exact .inr (.inr ⟨h1, h2.tr g⟩)
        · exact .inl (h1.tr g2)
        · exact .inr (.inr ⟨h1, g2⟩)
  · intro h
    have m : ∀ {x y : Nat}, Cn w S x y → Cn w (fun j => S j ∨ j = k) x y := fun c => c.mono fun j hj => .inl hj
    have t : Cn w (fun j => S j ∨ j = k) (w.tie k).1 (w.tie k).2.1 := .tie k (.inr rfl) hk
    rcases h with h | ⟨h1, h2⟩ | ⟨h1, h2⟩
    · exact m h
    · exact ((m h1).tr t).tr (m h2)
    · exact ((m h1).tr t.sm).tr (m h2)
end J

/-! Things that may be anything: what tells numbers, ties, trees. -/
namespace J
open PySem
/-- no dict here -/
def nd (d : D) : Bool := match d with
  | .dict _ => false
  | _ => true
/-! ### trees -/
end J

/-! pruned. -/
namespace J
open PySem
end J

/-! Spoilt things. -/
namespace J
open PySem
def leafF (B : Nat) : D → Prop
  | .none => True
  | .bool _ => True
  | .int i => i.natAbs ≤ B
  | .str s => PyData.strOk s = true
  | _ => False
def Fit (L B : Nat) : Nat → D → Prop
  | 0, d => leafF B d
  | k + 1, d => match d with
    | .list xs => xs.length ≤ L ∧ ∀ x ∈ xs, Fit L B k x
    | .tuple xs => xs.length ≤ L ∧ ∀ x ∈ xs, Fit L B k x
    | d => leafF B d
theorem Fit.nd {L B k : Nat} {d : D} (h : Fit L B k d) : J.nd d = true := by
  cases d <;> first | rfl | (cases k <;> simp only [Fit, leafF] at h)
theorem all_lay : ∀ {xs : List D}, (∀ x ∈ xs, PyData.canLay0 x = true) → PyData.canLayAll0 xs = true
  | [], _ => by simp only [PyData.canLayAll0]
  | x :: r, h => by
    simp only [PyData.canLayAll0, Bool.and_eq_true]
    exact ⟨h x List.mem_cons_self, all_lay fun y hy => h y (List.mem_cons_of_mem _ hy)⟩
theorem all_dep {k : Nat} : ∀ {xs : List D}, (∀ x ∈ xs, PyData.depth x ≤ k) → PyData.depthAll xs ≤ k
  | [], _ => by simp only [PyData.depthAll]; omega
  | x :: r, h => by
    simp only [PyData.depthAll]
    have := h x List.mem_cons_self
    have := all_dep (xs := r) fun y hy => h y (List.mem_cons_of_mem _ hy)
    omega
theorem Fit.lay {L B : Nat} : ∀ {k : Nat} {d : D}, Fit L B k d → PyData.canLay0 d = true ∧ PyData.depth d ≤ k
  | 0, d, h => by
    cases d <;> simp only [Fit, leafF] at h <;> simp only [PyData.canLay0, PyData.depth, Nat.le_refl, and_self, h]
  | k + 1, d, h => by
    cases d <;> simp only [Fit, leafF] at h <;> simp only [PyData.canLay0, PyData.depth, Nat.zero_le, and_self, h]
    · exact ⟨all_lay fun x hx => (h.2 x hx).lay.1, by have := all_dep fun x hx => (h.2 x hx).lay.2; omega⟩
    · exact ⟨all_lay fun x hx => (h.2 x hx).lay.1, by have := all_dep fun x hx => (h.2 x hx).lay.2; omega⟩
theorem Fit.shaped {L B k : Nat} {d : D} (h : Fit L B k d) (hk : k ≤ 64) : SeqAt.shaped d = true := by
  unfold SeqAt.shaped
  rw [h.lay.1, Bool.true_and]
  exact decide_eq_true (by have := h.lay.2; omega)
end J

/-! More on ties: both together, pruned again. -/
namespace J
open PySem
theorem nodup_of {is : List Nat} (h : is.Pairwise (· < ·)) : is.Nodup := h.imp fun q => Nat.ne_of_lt q
end J

/-! The least cost of ties that join places: what can be had, ways, packets. -/
namespace J
def Ok (w : Web) (is : List Nat) : Prop := ∀ k ∈ is, k < w.ties.length
def Jn (w : Web) (is es : List Nat) : Prop := ∀ a ∈ es, ∀ b ∈ es, Cn w (· ∈ is) a b
def Ac (w : Web) (es : List Nat) (c : Nat) : Prop := ∃ is, Ok w is ∧ Jn w is es ∧ cst w is ≤ c
def leC (o : Option Nat) (c : Nat) : Prop := ∃ x, o = some x ∧ x ≤ c
theorem leC_none {c : Nat} : leC none c ↔ False := ⟨fun ⟨_, e, _⟩ => (by cases e), False.elim⟩
theorem leC_some {x c : Nat} : leC (some x) c ↔ x ≤ c := ⟨fun ⟨_, e, h⟩ => by cases e; exact h, fun h => ⟨x, rfl, h⟩⟩
theorem leC.mono {o : Option Nat} {c d : Nat} (h : leC o c) (hd : c ≤ d) : leC o d := let ⟨x, e, hx⟩ := h; ⟨x, e, by omega⟩
theorem leC_ext {a b : Option Nat} (h : ∀ c, leC a c ↔ leC b c) : a = b := by
  cases a with
  | none =>
    cases b with
    | none => rfl
    | some y => exact (leC_none.mp ((h y).mpr (leC_some.mpr (Nat.le_refl y)))).elim
  | some x =>
    cases b with
    | none => exact (leC_none.mp ((h x).mp (leC_some.mpr (Nat.le_refl x)))).elim
    | some y =>
      have h1 := leC_some.mp ((h x).mp (leC_some.mpr (Nat.le_refl x)))
      have h2 := leC_some.mp ((h y).mpr (leC_some.mpr (Nat.le_refl y)))
      congr 1; omega
def lsr (a b : Option Nat) : Option Nat := match a, b with
  | none, b => b
  | some x, none => some x
  | some x, some y => if y < x then some y else some x
def bth (a b : Option Nat) : Option Nat := match a, b with
  | some x, some y => some (x + y)
  | _, _ => none
theorem leC_lsr {a b : Option Nat} {c : Nat} : leC (lsr a b) c ↔ leC a c ∨ leC b c := by
  cases a <;> cases b <;> simp only [lsr, leC_none, leC_some, false_or, or_false, or_self]
  split <;> rw [leC_some] <;> omega
theorem leC_bth {a b : Option Nat} {c : Nat} : leC (bth a b) c ↔ ∃ x y, leC a x ∧ leC b y ∧ x + y ≤ c := by
  cases a <;> cases b <;> simp only [bth, leC_none, leC_some, false_and, and_false, exists_false]
  rename_i x y
  exact ⟨fun h => ⟨x, y, Nat.le_refl _, Nat.le_refl _, h⟩, fun ⟨p, q, h1, h2, h3⟩ => by omega⟩
/-! costs -/
theorem cst_nil {w : Web} : cst w [] = 0 := rfl
theorem cst_cons {w : Web} {k : Nat} {r : List Nat} : cst w (k :: r) = (w.tie k).2.2 + cst w r := by unfold cst; rw [List.map_cons, List.sum_cons]
theorem csA {w : Web} : ∀ {a b : List Nat}, cst w (a ++ b) = cst w a + cst w b
  | [], b => by rw [List.nil_append, cst_nil, Nat.zero_add]
  | k :: r, b => by rw [List.cons_append, cst_cons, cst_cons, csA, Nat.add_assoc]
theorem csS {w : Web} (p : Nat → Bool) : ∀ is : List Nat, cst w (is.filter p) + cst w (is.filter fun k => !p k) = cst w is
  | [] => rfl
  | k :: r => by
    have := csS (w := w) p r
    rw [List.filter_cons, List.filter_cons, cst_cons]
    cases p k <;> simp [cst_cons] <;> omega
theorem cst_erase {w : Web} {k : Nat} : ∀ {is : List Nat}, k ∈ is → cst w is = (w.tie k).2.2 + cst w (is.erase k)
  | j :: r, h => by
    by_cases e : j = k
    · subst e; rw [List.erase_cons_head, cst_cons]
    · rw [List.erase_cons_tail (by simpa using e), cst_cons, cst_cons, cst_erase (is := r) (by rcases List.mem_cons.mp h with h | h; exact absurd h.symm e; exact h)]
      omega
theorem cst_sub {w : Web} : ∀ {l is : List Nat}, l.Nodup → (∀ k ∈ l, k ∈ is) → cst w l ≤ cst w is
  | [], _, _, _ => Nat.zero_le _
  | k :: r, is, hn, hs => by
    rw [List.nodup_cons] at hn
    rw [cst_erase (hs k List.mem_cons_self), cst_cons]
    have := cst_sub (w := w) (l := r) (is := is.erase k) hn.2 fun j hj => by
      have hne : j ≠ k := fun e => hn.1 (e ▸ hj)
      exact (List.mem_erase_of_ne hne).mpr (hs j (List.mem_cons_of_mem _ hj))
    omega
/-! joined -/
theorem Cn.rest {w : Web} {S : Nat → Prop} {a p q : Nat} (h : Cn w S p q) : Cn w S a p → Cn w (fun k => S k ∧ Cn w S a (w.tie k).1) p q := by
  induction h with
  | rf x => exact fun _ => .rf x
  | tie k hk hl => exact fun ha => .tie k ⟨hk, ha⟩ hl
  | sm c ih => exact fun ha => (ih (ha.tr c.sm)).sm
  | tr c1 c2 i1 i2 => exact fun ha => (i1 ha).tr (i2 (ha.tr c1))
theorem Cn.none {w : Web} {S : Nat → Prop} (hS : ∀ k, ¬ S k) {a b : Nat} (h : Cn w S a b) : a = b := by
  induction h with
  | rf x => rfl
  | tie k hk _ => exact (hS k hk).elim
  | sm _ ih => exact ih.symm
  | tr _ _ i1 i2 => exact i1.trans i2
theorem Ac.mono {w : Web} {es : List Nat} {c d : Nat} (h : Ac w es c) (hd : c ≤ d) : Ac w es d := let ⟨is, a, b, e⟩ := h; ⟨is, a, b, by omega⟩
theorem Ac.sub {w : Web} {es fs : List Nat} {c : Nat} (h : Ac w es c) (hs : ∀ x ∈ fs, x ∈ es) : Ac w fs c := let ⟨is, a, b, e⟩ := h; ⟨is, a, fun x hx y hy => b x (hs x hx) y (hs y hy), e⟩
theorem Ac.congr {w : Web} {es fs : List Nat} {c : Nat} (hs : ∀ x, x ∈ fs ↔ x ∈ es) : Ac w es c ↔ Ac w fs c := ⟨fun h => h.sub fun x hx => (hs x).mp hx, fun h => h.sub fun x hx => (hs x).mpr hx⟩
theorem Ac.one {w : Web} {es : List Nat} {v : Nat} (h : ∀ x ∈ es, x = v) : Ac w es 0 := ⟨[], fun _ h => (by cases h), fun a ha b hb => by rw [h a ha, h b hb]; exact .rf v, Nat.le_refl _⟩
theorem Ac.join {w : Web} {es fs : List Nat} {u c d : Nat} (h1 : Ac w (u :: es) c) (h2 : Ac w (u :: fs) d) : Ac w (u :: (es ++ fs)) (c + d) := by
  obtain ⟨is, a1, b1, c1⟩ := h1
  obtain ⟨js, a2, b2, c2⟩ := h2
  have key : ∀ x ∈ u :: (es ++ fs), Cn w (· ∈ is ++ js) u x := fun x hx => by
    rcases List.mem_cons.mp hx with e | hx
    · subst e; exact .rf x
    · rcases List.mem_append.mp hx with hx | hx
      · exact (b1 u List.mem_cons_self x (List.mem_cons_of_mem _ hx)).mono fun k hk => List.mem_append.mpr (.inl hk)
      · exact (b2 u List.mem_cons_self x (List.mem_cons_of_mem _ hx)).mono fun k hk => List.mem_append.mpr (.inr hk)
  refine ⟨is ++ js, fun k hk => ?_, fun a ha b hb => (key a ha).sm.tr (key b hb), by rw [csA]; omega⟩
  rcases List.mem_append.mp hk with hk | hk
  · exact a1 k hk
  · exact a2 k hk
def Ed (w : Web) (x y p : Nat) : Prop := ∃ k, k < w.ties.length ∧ ((w.tie k).1 = x ∧ (w.tie k).2.1 = y ∨ (w.tie k).1 = y ∧ (w.tie k).2.1 = x) ∧ (w.tie k).2.2 = p
theorem Ed.sm {w : Web} {x y p : Nat} (h : Ed w x y p) : Ed w y x p := let ⟨k, a, b, c⟩ := h; ⟨k, a, b.symm, c⟩
theorem Ed.ac {w : Web} {x y p : Nat} (h : Ed w x y p) : Ac w [x, y] p := by
  obtain ⟨k, a, b, c⟩ := h
  have t : Cn w (· ∈ [k]) (w.tie k).1 (w.tie k).2.1 := .tie k (List.mem_singleton.mpr rfl) a
  have e : Cn w (· ∈ [k]) x y := by
    rcases b with ⟨b1, b2⟩ | ⟨b1, b2⟩
    · rw [b1, b2] at t; exact t
    · rw [b1, b2] at t; exact t.sm
  refine ⟨[k], fun j hj => by rw [List.mem_singleton.mp hj]; exact a, fun u hu v hv => ?_, by rw [cst_cons, cst_nil]; omega⟩
  rcases List.mem_cons.mp hu with hu | hu <;> rcases List.mem_cons.mp hv with hv | hv
  · rw [hu, hv]; exact .rf x
  · rw [hu, List.mem_singleton.mp hv]; exact e
  · rw [hv, List.mem_singleton.mp hu]; exact e.sm
  · rw [List.mem_singleton.mp hu, List.mem_singleton.mp hv]; exact .rf y
/-- a tie parts what it joins in two -/
theorem cut_tie {w : Web} {k : Nat} {r : List Nat} (hk : k < w.ties.length) {v q : Nat} (hq : Cn w (· ∈ k :: r) q v) (hn : ¬ Cn w (· ∈ r) q v) :
    ∃ x y, Ed w x y (w.tie k).2.2 ∧ Cn w (· ∈ r) x v ∧ Cn w (· ∈ r) q y ∧ ¬ Cn w (· ∈ r) y v ∧ ∀ p, Cn w (· ∈ k :: r) p v → ¬ Cn w (· ∈ r) p v → Cn w (· ∈ r) p y := by
  have am : ∀ {p : Nat}, Cn w (· ∈ k :: r) p v → ¬ Cn w (· ∈ r) p v → (Cn w (· ∈ r) p (w.tie k).1 ∧ Cn w (· ∈ r) (w.tie k).2.1 v) ∨ (Cn w (· ∈ r) p (w.tie k).2.1 ∧ Cn w (· ∈ r) (w.tie k).1 v) := fun {p} h hn => by
    have := (Cn.add (S := (· ∈ r)) hk (a := p) (b := v)).mp (h.mono fun j hj => (List.mem_cons.mp hj).elim .inr .inl)
    exact this.resolve_left hn
  rcases am hq hn with ⟨h1, h2⟩ | ⟨h1, h2⟩
  · refine ⟨(w.tie k).2.1, (w.tie k).1, ⟨k, hk, .inr ⟨rfl, rfl⟩, rfl⟩, h2, h1, fun z => hn (h1.tr z), fun p hp hpn => ?_⟩
    rcases am hp hpn with ⟨g1, g2⟩ | ⟨g1, g2⟩
    · exact g1
    · exact (hn (h1.tr g2)).elim
  · refine ⟨(w.tie k).1, (w.tie k).2.1, ⟨k, hk, .inl ⟨rfl, rfl⟩, rfl⟩, h2, h1, fun z => hn (h1.tr z), fun p hp hpn => ?_⟩
    rcases am hp hpn with ⟨g1, g2⟩ | ⟨g1, g2⟩
    · exact (hn (h1.tr g2)).elim
    · exact g1
open Classical in
/-- ties by themselves: those that are joined to y, and the others -/
theorem cut_set {w : Web} (r : List Nat) (y v : Nat) (hy : ¬ Cn w (· ∈ r) y v) : ∃ r1 r2, (∀ k ∈ r1, k ∈ r) ∧ (∀ k ∈ r2, k ∈ r) ∧ r1.length ≤ r.length ∧ r2.length ≤ r.length ∧ cst w r1 + cst w r2 = cst w r ∧ (∀ p, Cn w (· ∈ r) p v → Cn w (· ∈ r1) p v) ∧ ∀ p, Cn w (· ∈ r) p y → Cn w (· ∈ r2) p y := by
  refine ⟨r.filter fun k => !decide (Cn w (· ∈ r) y (w.tie k).1), r.filter fun k => decide (Cn w (· ∈ r) y (w.tie k).1), fun k hk => (List.mem_filter.mp hk).1, fun k hk => (List.mem_filter.mp hk).1, List.length_filter_le .., List.length_filter_le .., ?_, fun p hp => ?_, fun p hp => ?_⟩
  · rw [Nat.add_comm]; exact csS _ r
  · refine ((hp.sm.rest (a := v) (.rf v)).mono fun k hk => ?_).sm
    rw [List.mem_filter]
    refine ⟨hk.1, ?_⟩
    rw [Bool.not_eq_true', decide_eq_false_iff_not]
    exact fun z => hy (z.tr hk.2.sm)
  · refine ((hp.sm.rest (a := y) (.rf y)).mono fun k hk => ?_).sm
    rw [List.mem_filter]
    exact ⟨hk.1, decide_eq_true hk.2⟩
/-! ways -/
inductive Pth (w : Web) (a : Nat) : Nat → Nat → List Nat → Prop
  | nil : Pth w a a 0 [a]
  | snoc {b c d p : Nat} {vs : List Nat} : Pth w a b c vs → Ed w b d p → Pth w a d (c + p) (d :: vs)
theorem Pth.app {w : Web} {a x y b c d p : Nat} {vs us : List Nat} (h1 : Pth w a x c vs) (he : Ed w x y p) (h2 : Pth w y b d us) : Pth w a b (c + p + d) (us ++ vs) := by
  induction h2 with
  | nil => rw [Nat.add_zero]; exact .snoc h1 he
  | snoc h e ih => rw [← Nat.add_assoc]; exact .snoc ih e
theorem Pth.ac {w : Web} {a b c : Nat} {vs : List Nat} (h : Pth w a b c vs) : Ac w [a, b] c := by
  induction h with
  | nil => exact Ac.one (v := a) fun x hx => by simpa using hx
  | snoc h e ih =>
    rename_i b c d p vs
    have := Ac.join (u := b) (es := [a]) (fs := [d]) (ih.sub fun x hx => by simp at hx ⊢; omega) (Ed.ac e)
    exact this.sub fun x hx => by simp at hx ⊢; omega
theorem path {w : Web} : ∀ (n : Nat) (is : List Nat), is.length ≤ n → Ok w is → ∀ a b, Cn w (· ∈ is) a b → ∃ c vs, Pth w a b c vs ∧ c ≤ cst w is ∧ vs.Nodup ∧ ∀ u ∈ vs, Cn w (· ∈ is) a u := by
  intro n
  induction n with
  | zero =>
    intro is hl _ a b h
    have : is = [] := List.eq_nil_of_length_eq_zero (by omega)
    subst this
    have := h.none fun k hk => nomatch hk
    subst this
    exact ⟨0, [a], .nil, Nat.le_refl _, by simp, fun u hu => by rw [List.mem_singleton.mp hu]; exact .rf a⟩
  | succ n ih =>
    intro is hl ho a b h
    match is with
    | [] =>
      have := h.none fun k hk => nomatch hk
      subst this
      exact ⟨0, [a], .nil, Nat.le_refl _, by simp, fun u hu => by rw [List.mem_singleton.mp hu]; exact .rf a⟩
    | k :: r =>
      have hok : Ok w r := fun j hj => ho j (List.mem_cons_of_mem _ hj)
      rw [List.length_cons] at hl
      by_cases hr : Cn w (· ∈ r) a b
      · obtain ⟨c, vs, h1, h2, h3, h4⟩ := ih r (by omega) hok a b hr
        exact ⟨c, vs, h1, by rw [cst_cons]; omega, h3, fun u hu => (h4 u hu).mono fun j hj => List.mem_cons_of_mem _ hj⟩
      · obtain ⟨x, y, he, hx, hy, hyn, _⟩ := cut_tie (ho k List.mem_cons_self) h.sm fun z => hr z.sm
        obtain ⟨r1, r2, s1, s2, l1, l2, cs, c1, c2⟩ := cut_set r y a hyn
        obtain ⟨c, vs, g1, g2, g3, g4⟩ := ih r1 (by omega) (fun j hj => hok j (s1 j hj)) a x (c1 x hx).sm
        obtain ⟨d, us, f1, f2, f3, f4⟩ := ih r2 (by omega) (fun j hj => hok j (s2 j hj)) y b (c2 b hy).sm
        have e1 : ∀ u ∈ vs, Cn w (· ∈ r) a u := fun u hu => (g4 u hu).mono s1
        have e2 : ∀ u ∈ us, Cn w (· ∈ r) y u := fun u hu => (f4 u hu).mono s2
        refine ⟨_, _, g1.app he f1, by rw [cst_cons]; omega, ?_, fun u hu => ?_⟩
        · rw [List.nodup_append]
          exact ⟨f3, g3, fun p hp q hq e => hyn ((e2 p hp).tr (e ▸ (e1 q hq).sm))⟩
        · rcases List.mem_append.mp hu with hu | hu
          · have t := (f4 u hu).mono fun j hj => List.mem_cons_of_mem k (s2 j hj)
            have t2 : Cn w (· ∈ k :: r) b y := hy.mono fun j hj => List.mem_cons_of_mem k hj
            exact (h.tr t2).tr t
          · exact (e1 u hu).mono fun j hj => List.mem_cons_of_mem _ hj
theorem ndl_len : ∀ (m : Nat) (l : List Nat), l.Nodup → (∀ x ∈ l, x < m) → l.length ≤ m
  | 0, l, _, h => by
    cases l with
    | nil => exact Nat.le_refl _
    | cons x r => exact absurd (h x List.mem_cons_self) (by omega)
  | m + 1, l, hn, h => by
    have h1 := ndl_len m (l.erase m) (hn.erase m) fun x hx => by
      have := (List.Nodup.mem_erase_iff hn).mp hx
      have := h x this.2
      omega
    by_cases hm : m ∈ l
    · rw [List.length_erase_of_mem hm] at h1
      omega
    · rw [List.erase_of_not_mem hm] at h1
      omega
/-! packets: groups by bits -/
def Dj (g h : Nat) : Prop := ∀ i, g.testBit i = true → h.testBit i = false
def Sb (g R : Nat) : Prop := ∀ i, g.testBit i = true → R.testBit i = true
def Un : List (Nat × Nat × Nat) → Nat
  | [] => 0
  | p :: r => p.1 ||| Un r
def sm : List (Nat × Nat × Nat) → Nat
  | [] => 0
  | p :: r => p.2.2 + sm r
theorem Un_bit {i : Nat} : ∀ {ps : List (Nat × Nat × Nat)}, (Un ps).testBit i = true ↔ ∃ p ∈ ps, p.1.testBit i = true
  | [] => by simp [Un]
  | p :: r => by
    unfold Un
    rw [Nat.testBit_or, Bool.or_eq_true, Un_bit]
    simp
theorem Un_nz {ps : List (Nat × Nat × Nat)} (h : ps ≠ []) (hz : ∀ p ∈ ps, p.1 ≠ 0) : Un ps ≠ 0 := by
  match ps with
  | p :: r =>
    intro e
    have := Nat.left_le_or (n := p.1) (m := Un r)
    unfold Un at e
    have := hz p List.mem_cons_self
    omega
theorem bit_ext {a b : Nat} (h : ∀ i, a.testBit i = true ↔ b.testBit i = true) : a = b := Nat.eq_of_testBit_eq fun i => Bool.eq_iff_iff.mpr (h i)
theorem sm_split (q : Nat × Nat × Nat → Bool) : ∀ ps : List (Nat × Nat × Nat), sm (ps.filter q) + sm (ps.filter fun p => !q p) = sm ps
  | [] => rfl
  | p :: r => by
    have := sm_split q r
    rw [List.filter_cons, List.filter_cons]
    cases q p <;> simp [sm] <;> omega
theorem Un_split (q : Nat × Nat × Nat → Bool) (ps : List (Nat × Nat × Nat)) : Un (ps.filter fun p => !q p) ||| Un (ps.filter q) = Un ps := by
  refine bit_ext fun i => ?_
  rw [Nat.testBit_or, Bool.or_eq_true, Un_bit, Un_bit, Un_bit]
  constructor
  · rintro (⟨p, h1, h2⟩ | ⟨p, h1, h2⟩)
    · exact ⟨p, (List.mem_filter.mp h1).1, h2⟩
    · exact ⟨p, (List.mem_filter.mp h1).1, h2⟩
  · rintro ⟨p, h1, h2⟩
    cases hq : q p with
    | true => exact .inr ⟨p, List.mem_filter.mpr ⟨h1, hq⟩, h2⟩
    | false => exact .inl ⟨p, List.mem_filter.mpr ⟨h1, by rw [hq]; rfl⟩, h2⟩
theorem Un_dj {ps : List (Nat × Nat × Nat)} {g : Nat} (h : ∀ p ∈ ps, Dj g p.1) : Dj g (Un ps) := by
  intro i hi
  cases e : (Un ps).testBit i with
  | false => rfl
  | true =>
    obtain ⟨p, h1, h2⟩ := Un_bit.mp e
    rw [h p h1 i hi] at h2
    cases h2
theorem Dj.sm {g h : Nat} (d : Dj g h) : Dj h g := fun i hi => by
  cases e : g.testBit i with
  | false => rfl
  | true => rw [d i e] at hi; cases hi
theorem pw_dj : ∀ {ps : List (Nat × Nat × Nat)}, ps.Pairwise (fun p q => Dj p.1 q.1) → ∀ {p q : Nat × Nat × Nat}, p ≠ q → p ∈ ps → q ∈ ps → Dj p.1 q.1
  | a :: r, h, p, q, hne, hp, hq => by
    rw [List.pairwise_cons] at h
    rcases List.mem_cons.mp hp with e | hp
    · rcases List.mem_cons.mp hq with e' | hq
      · exact (hne (e.trans e'.symm)).elim
      · rw [e]; exact h.1 q hq
    · rcases List.mem_cons.mp hq with e' | hq
      · rw [e']; exact (h.1 p hp).sm
      · exact pw_dj h.2 hne hp hq
open Classical in
theorem packs {w : Web} {τ : Nat → Nat → Option Nat} {R : Nat} (V : Nat → Prop) (hV : ∀ x y p, Ed w x y p → (V x ↔ V y))
    (hM : ∀ g h v x y, V v → Sb (g ||| h) R → Dj g h → g ≠ 0 → h ≠ 0 → leC (τ g v) x → leC (τ h v) y → leC (τ (g ||| h) v) (x + y))
    (hE : ∀ g x y p c, V x → V y → Sb g R → g ≠ 0 → Ed w x y p → leC (τ g x) c → leC (τ g y) (c + p)) :
    ∀ (n : Nat) (is : List Nat), is.length ≤ n → Ok w is → ∀ (v : Nat) (ps : List (Nat × Nat × Nat)), V v → ps ≠ [] → ps.Pairwise (fun p q => Dj p.1 q.1) →
      (∀ p ∈ ps, p.1 ≠ 0 ∧ Sb p.1 R ∧ leC (τ p.1 p.2.1) p.2.2 ∧ Cn w (· ∈ is) p.2.1 v) → leC (τ (Un ps) v) (cst w is + sm ps) := by
  have base : ∀ (v : Nat) (ps : List (Nat × Nat × Nat)), V v → ps ≠ [] → ps.Pairwise (fun p q => Dj p.1 q.1) → (∀ p ∈ ps, p.1 ≠ 0 ∧ Sb p.1 R ∧ leC (τ p.1 p.2.1) p.2.2 ∧ Cn w (· ∈ ([] : List Nat)) p.2.1 v) → leC (τ (Un ps) v) (sm ps) := by
    intro v ps hv
    induction ps with
    | nil => intro h; exact (h rfl).elim
    | cons p r ih =>
      intro _ hd hp
      obtain ⟨h1, h2, h3, h4⟩ := hp p List.mem_cons_self
      have e := h4.none fun k hk => nomatch hk
      rw [e] at h3
      rw [List.pairwise_cons] at hd
      cases r with
      | nil =>
        simp only [Un, sm, Nat.or_zero, Nat.add_zero]
        exact h3
      | cons q t =>
        have hr := ih (by simp) hd.2 fun z hz => hp z (List.mem_cons_of_mem _ hz)
        show leC (τ (p.1 ||| Un (q :: t)) v) (p.2.2 + sm (q :: t))
        refine hM _ _ _ _ _ hv (fun i hi => ?_) (Un_dj hd.1) h1 (Un_nz (by simp) fun z hz => (hp z (List.mem_cons_of_mem _ hz)).1) h3 hr
        rw [Nat.testBit_or, Bool.or_eq_true] at hi
        rcases hi with hi | hi
        · exact h2 i hi
        · obtain ⟨z, z1, z2⟩ := Un_bit.mp hi
          exact (hp z (List.mem_cons_of_mem _ z1)).2.1 i z2
  intro n
  induction n with
  | zero =>
    intro is hl ho v ps hv hn hd hp
    have : is = [] := List.eq_nil_of_length_eq_zero (by omega)
    subst this
    rw [cst_nil, Nat.zero_add]
    exact base v ps hv hn hd hp
  | succ n ih =>
    intro is hl ho v ps hv hn hd hp
    match is with
    | [] =>
      rw [cst_nil, Nat.zero_add]
      exact base v ps hv hn hd hp
    | k :: r =>
      have hok : Ok w r := fun j hj => ho j (List.mem_cons_of_mem _ hj)
      rw [List.length_cons] at hl
      by_cases hr : ∀ p ∈ ps, Cn w (· ∈ r) p.2.1 v
      · refine (ih r (by omega) hok v ps hv hn hd fun p hp' => ?_).mono (by rw [cst_cons]; omega)
        obtain ⟨h1, h2, h3, h4⟩ := hp p hp'
        exact ⟨h1, h2, h3, hr p hp'⟩
      · have hr' : ∃ p ∈ ps, ¬ Cn w (· ∈ r) p.2.1 v := by
          apply Classical.byContradiction
          intro z
          exact hr fun p hp => Classical.byContradiction fun q => z ⟨p, hp, q⟩
        obtain ⟨p0, hp0, hp0n⟩ := hr'
        obtain ⟨x, y, he, hx, hy, hyn, hall⟩ := cut_tie (ho k List.mem_cons_self) (hp p0 hp0).2.2.2 hp0n
        obtain ⟨r1, r2, s1, s2, l1, l2, cs, c1, c2⟩ := cut_set r y v hyn
        have hVc : ∀ {S : Nat → Prop} {a b : Nat}, Cn w S a b → (V a ↔ V b) := fun {S a b} c => by
          induction c with
          | rf a => exact Iff.rfl
          | tie j _ hj => exact hV _ _ _ ⟨j, hj, .inl ⟨rfl, rfl⟩, rfl⟩
          | sm _ i => exact i.symm
          | tr _ _ i1 i2 => exact i1.trans i2
        have vx : V x := (hVc hx).mpr hv
        have vy : V y := (hV _ _ _ he).mp vx
        let q : Nat × Nat × Nat → Bool := fun p => decide (Cn w (· ∈ r) p.2.1 v)
        have m2 : ∀ p ∈ ps.filter (fun p => !q p), p ∈ ps ∧ ¬ Cn w (· ∈ r) p.2.1 v := fun p hp => by
          have := List.mem_filter.mp hp
          exact ⟨this.1, by simpa [q] using this.2⟩
        have m1 : ∀ p ∈ ps.filter q, p ∈ ps ∧ Cn w (· ∈ r) p.2.1 v := fun p hp => by
          have := List.mem_filter.mp hp
          exact ⟨this.1, by simpa [q] using this.2⟩
        have n2 : ps.filter (fun p => !q p) ≠ [] := fun z => by
          have : p0 ∈ ps.filter (fun p => !q p) := List.mem_filter.mpr ⟨hp0, by simp [q, hp0n]⟩
          rw [z] at this
          cases this
        have z2 : Un (ps.filter fun p => !q p) ≠ 0 := Un_nz n2 fun p hp' => (hp p (m2 p hp').1).1
        have b2 : Sb (Un (ps.filter fun p => !q p)) R := fun i hi => by
          obtain ⟨p, h1, h2⟩ := Un_bit.mp hi
          exact (hp p (m2 p h1).1).2.1 i h2
        have g2 := ih r2 (by omega) (fun j hj => hok j (s2 j hj)) y (ps.filter fun p => !q p) vy n2 (hd.filter _) fun p hp' => by
          obtain ⟨h1, h2, h3, h4⟩ := hp p (m2 p hp').1
          exact ⟨h1, h2, h3, c2 _ (hall _ h4 (m2 p hp').2)⟩
        have g3 := hE _ _ _ _ _ vy vx b2 z2 he.sm g2
        have key : ∀ p ∈ ps.filter q, Dj (Un (ps.filter fun p => !q p)) p.1 := fun p hp' => Dj.sm (Un_dj fun p2 hp2 => by
          have hne : p ≠ p2 := fun e => (m2 p2 hp2).2 (e ▸ (m1 p hp').2)
          exact pw_dj hd hne (m1 p hp').1 (m2 p2 hp2).1)
        have g4 := ih r1 (by omega) (fun j hj => hok j (s1 j hj)) v ((Un (ps.filter fun p => !q p), x, cst w r2 + sm (ps.filter fun p => !q p) + (w.tie k).2.2) :: ps.filter q) hv (by simp) (List.pairwise_cons.mpr ⟨key, hd.filter _⟩) fun p hp' => by
          rcases List.mem_cons.mp hp' with e | hp'
          · subst e
            exact ⟨z2, b2, g3, c1 _ hx⟩
          · obtain ⟨h1, h2, h3, h4⟩ := hp p (m1 p hp').1
            exact ⟨h1, h2, h3, c1 _ (m1 p hp').2⟩
        have e1 : Un ((Un (ps.filter fun p => !q p), x, cst w r2 + sm (ps.filter fun p => !q p) + (w.tie k).2.2) :: ps.filter q) = Un ps := Un_split q ps
        rw [e1] at g4
        refine g4.mono ?_
        have e2 := sm_split q ps
        show cst w r1 + ((cst w r2 + sm (ps.filter fun p => !q p) + (w.tie k).2.2) + sm (ps.filter q)) ≤ _
        rw [cst_cons]
        omega
end J

/-! Cheapest ways by rounds; cheapest joins by groups. -/
namespace J
structure Wl (w : Web) : Prop where
  lo : 1 ≤ w.many
  hi : w.many ≤ 20
  len : w.ties.length ≤ 30
  ok : ∀ t ∈ w.ties, t.1 < t.2.1 ∧ t.2.1 < w.many
theorem Wok.wl {w : Web} (h : Wok w) : Wl w := ⟨h.lo, Nat.le_trans h.hi (by decide), Nat.le_trans h.len (by decide), fun t ht => ⟨(h.ok t ht).1, (h.ok t ht).2.1⟩⟩
theorem tie_mem {w : Web} {k : Nat} (h : k < w.ties.length) : w.tie k ∈ w.ties := by
  unfold Web.tie
  rw [List.getD_eq_getElem?_getD, List.getElem?_eq_getElem h]
  exact List.getElem_mem h
theorem Wl.tie {w : Web} (hw : Wl w) {k : Nat} (h : k < w.ties.length) : (w.tie k).1 < (w.tie k).2.1 ∧ (w.tie k).2.1 < w.many := hw.ok _ (tie_mem h)
theorem Wl.ed {w : Web} (hw : Wl w) {x y p : Nat} (h : Ed w x y p) : x < w.many ∧ y < w.many := by
  obtain ⟨k, h1, h2, _⟩ := h
  have := hw.tie h1
  omega
theorem Ed.of {w : Web} {t : T3} (h : t ∈ w.ties) : Ed w t.1 t.2.1 t.2.2 := by
  obtain ⟨k, hk, rfl⟩ := List.getElem_of_mem h
  have : w.tie k = w.ties[k] := by unfold Web.tie; rw [List.getD_eq_getElem?_getD, List.getElem?_eq_getElem hk]; rfl
  exact ⟨k, hk, .inl ⟨by rw [this], by rw [this]⟩, by rw [this]⟩
theorem Ed.mem {w : Web} {x y p : Nat} (h : Ed w x y p) : ∃ t ∈ w.ties, (t.1 = x ∧ t.2.1 = y ∨ t.1 = y ∧ t.2.1 = x) ∧ t.2.2 = p := let ⟨k, a, b, c⟩ := h; ⟨w.tie k, tie_mem a, b, c⟩
theorem Cn.lt {w : Web} (hw : Wl w) {S : Nat → Prop} {a b : Nat} (h : Cn w S a b) : a < w.many ↔ b < w.many := by
  induction h with
  | rf x => exact Iff.rfl
  | tie k _ hk => have := hw.tie hk; omega
  | sm _ ih => exact ih.symm
  | tr _ _ i1 i2 => exact i1.trans i2
abbrev Row := List (Option Nat)
def at_ (f : Row) (v : Nat) : Option Nat := f.getD v none
theorem at_set {f : Row} {t v : Nat} {o : Option Nat} (ht : t < f.length) : at_ (f.set t o) v = if v = t then o else at_ f v := by
  unfold at_
  rw [List.getD_eq_getElem?_getD, List.getElem?_set]
  by_cases h : t = v
  · subst h; rw [if_pos rfl, if_pos rfl, if_pos ht]; rfl
  · rw [if_neg h, if_neg (Ne.symm h), List.getD_eq_getElem?_getD]
def rlx (f : Row) (h t p : Nat) : Row := f.set t (lsr (at_ f t) (bth (at_ f h) (some p)))
theorem rlx_len {f : Row} {h t p : Nat} : (rlx f h t p).length = f.length := by unfold rlx; rw [List.length_set]
theorem rlx_le {f : Row} {h t p v c : Nat} (ht : t < f.length) : leC (at_ (rlx f h t p) v) c ↔ leC (at_ f v) c ∨ (v = t ∧ ∃ x, leC (at_ f h) x ∧ x + p ≤ c) := by
  unfold rlx
  rw [at_set ht]
  by_cases e : v = t
  · subst e
    rw [if_pos rfl, leC_lsr, leC_bth]
    simp only [leC_some, true_and]
    constructor
    · rintro (h | ⟨x, y, h1, h2, h3⟩)
      · exact .inl h
      · exact .inr ⟨x, h1, by omega⟩
    · rintro (h | ⟨x, h1, h2⟩)
      · exact .inl h
      · exact .inr ⟨x, p, h1, Nat.le_refl _, h2⟩
  · rw [if_neg e]
    exact ⟨.inl, fun h => h.elim id fun z => (e z.1).elim⟩
def far1 (f : Row) (t : T3) : Row := rlx (rlx f t.1 t.2.1 t.2.2) t.2.1 t.1 t.2.2
def farR (w : Web) (f : Row) : Row := w.ties.foldl far1 f
def far0 (w : Web) (a : Nat) : Row := (List.replicate w.many none).set a (some 0)
def far (w : Web) (a : Nat) : Row := (List.range w.many).foldl (fun f _ => farR w f) (far0 w a)
theorem far1_len {f : Row} {t : T3} : (far1 f t).length = f.length := by unfold far1; rw [rlx_len, rlx_len]
theorem farF_len : ∀ (ts : List T3) (f : Row), (ts.foldl far1 f).length = f.length
  | [], f => rfl
  | t :: r, f => by rw [List.foldl_cons, farF_len r, far1_len]
theorem farR_len {w : Web} {f : Row} : (farR w f).length = f.length := farF_len _ _
theorem farN_len {w : Web} : ∀ (l : List Nat) (f : Row), (l.foldl (fun f _ => farR w f) f).length = f.length
  | [], f => rfl
  | t :: r, f => by rw [List.foldl_cons, farN_len r, farR_len]
theorem far_len {w : Web} {a : Nat} : (far w a).length = w.many := by unfold far; rw [farN_len]; unfold far0; simp
theorem far1_mono {f : Row} {t : T3} {v c : Nat} (h1 : t.1 < f.length) (h2 : t.2.1 < f.length) (h : leC (at_ f v) c) : leC (at_ (far1 f t) v) c := by
  unfold far1
  rw [rlx_le (by rw [rlx_len]; exact h1), rlx_le h2]
  exact .inl (.inl h)
theorem farF_mono : ∀ (ts : List T3) {f : Row} {v c : Nat}, (∀ t ∈ ts, t.1 < f.length ∧ t.2.1 < f.length) → leC (at_ f v) c → leC (at_ (ts.foldl far1 f) v) c
  | [], f, v, c, _, h => h
  | t :: r, f, v, c, ht, h => by
    rw [List.foldl_cons]
    have := ht t List.mem_cons_self
    exact farF_mono r (fun s hs => by rw [far1_len]; exact ht s (List.mem_cons_of_mem _ hs)) (far1_mono this.1 this.2 h)
theorem farF_ed : ∀ (ts : List T3) {f : Row} {x y p c : Nat}, (∀ t ∈ ts, t.1 < f.length ∧ t.2.1 < f.length) → (∃ t ∈ ts, (t.1 = x ∧ t.2.1 = y ∨ t.1 = y ∧ t.2.1 = x) ∧ t.2.2 = p) → leC (at_ f x) c → leC (at_ (ts.foldl far1 f) y) (c + p)
  | [], f, x, y, p, c, _, ⟨t, h, _⟩, _ => by cases h
  | s :: r, f, x, y, p, c, ht, ⟨t, h, hxy, hp⟩, hf => by
    rw [List.foldl_cons]
    have h0 := ht s List.mem_cons_self
    have hr : ∀ t ∈ r, t.1 < (far1 f s).length ∧ t.2.1 < (far1 f s).length := fun t hs => by rw [far1_len]; exact ht t (List.mem_cons_of_mem _ hs)
    rcases List.mem_cons.mp h with e | h
    · subst e
      refine farF_mono r hr ?_
      unfold far1
      rw [rlx_le (by rw [rlx_len]; exact h0.1), rlx_le h0.2]
      rcases hxy with ⟨e1, e2⟩ | ⟨e1, e2⟩
      · exact .inl (.inr ⟨e2.symm, c, by rw [e1]; exact hf, by omega⟩)
      · exact .inr ⟨e1.symm, c, by rw [e2, rlx_le (by omega)]; exact .inl hf, by omega⟩
    · exact farF_ed r hr ⟨t, h, hxy, hp⟩ (far1_mono h0.1 h0.2 hf)
def Sdd (w : Web) (a : Nat) (f : Row) : Prop := ∀ v c, leC (at_ f v) c → ∃ d vs, Pth w a v d vs ∧ d ≤ c
theorem rlx_snd {w : Web} {a : Nat} {f : Row} {h t p : Nat} (ht : t < f.length) (he : Ed w h t p) (hs : Sdd w a f) : Sdd w a (rlx f h t p) := by
  intro v c hc
  rw [rlx_le ht] at hc
  rcases hc with hc | ⟨rfl, x, h1, h2⟩
  · exact hs v c hc
  · obtain ⟨d, vs, h3, h4⟩ := hs h x h1
    exact ⟨_, _, h3.snoc he, by omega⟩
theorem far1_snd {w : Web} {a : Nat} {f : Row} {t : T3} (h1 : t.1 < f.length) (h2 : t.2.1 < f.length) (he : Ed w t.1 t.2.1 t.2.2) (hs : Sdd w a f) : Sdd w a (far1 f t) := by
  unfold far1
  exact rlx_snd (by rw [rlx_len]; exact h1) he.sm (rlx_snd h2 he hs)
theorem farF_snd {w : Web} {a : Nat} : ∀ (ts : List T3) {f : Row}, (∀ t ∈ ts, t.1 < f.length ∧ t.2.1 < f.length ∧ Ed w t.1 t.2.1 t.2.2) → Sdd w a f → Sdd w a (ts.foldl far1 f)
  | [], f, _, h => h
  | t :: r, f, ht, h => by
    rw [List.foldl_cons]
    have := ht t List.mem_cons_self
    exact farF_snd r (fun s hs => by rw [far1_len]; exact ht s (List.mem_cons_of_mem _ hs)) (far1_snd this.1 this.2.1 this.2.2 h)
theorem farR_snd {w : Web} (hw : Wl w) {a : Nat} {f : Row} (hl : f.length = w.many) (h : Sdd w a f) : Sdd w a (farR w f) := by
  refine farF_snd _ (fun t ht => ?_) h
  have := hw.ok t ht
  exact ⟨by omega, by omega, Ed.of ht⟩
theorem farN_snd {w : Web} (hw : Wl w) {a : Nat} : ∀ (l : List Nat) {f : Row}, f.length = w.many → Sdd w a f → Sdd w a (l.foldl (fun f _ => farR w f) f)
  | [], f, _, h => h
  | t :: r, f, hl, h => by rw [List.foldl_cons]; exact farN_snd hw r (by rw [farR_len]; exact hl) (farR_snd hw hl h)
theorem at_far0 {w : Web} {a v : Nat} (ha : a < w.many) : at_ (far0 w a) v = if v = a then some 0 else none := by
  unfold far0
  rw [at_set (by simpa using ha)]
  congr 1
  unfold at_
  rw [List.getD_eq_getElem?_getD, List.getElem?_replicate]
  split <;> rfl
def Cmp (w : Web) (a r : Nat) (f : Row) : Prop := ∀ v c vs, Pth w a v c vs → vs.length ≤ r + 1 → leC (at_ f v) c
theorem Pth.len {w : Web} {a v c : Nat} {vs : List Nat} (h : Pth w a v c vs) : 1 ≤ vs.length := by cases h <;> simp
theorem Pth.len1 {w : Web} {a v c : Nat} {vs : List Nat} (h : Pth w a v c vs) (hl : vs.length ≤ 1) : v = a ∧ c = 0 := by
  cases h with
  | nil => exact ⟨rfl, rfl⟩
  | snoc h e => have := h.len; rw [List.length_cons] at hl; omega
theorem farR_cmp {w : Web} (hw : Wl w) {a r : Nat} {f : Row} (hl : f.length = w.many) (h : Cmp w a r f) : Cmp w a (r + 1) (farR w f) := by
  have ht : ∀ t ∈ w.ties, t.1 < f.length ∧ t.2.1 < f.length := fun t ht => by have := hw.ok t ht; omega
  intro v c vs hp hlen
  cases hp with
  | nil => exact farF_mono _ ht (h a 0 [a] .nil (by simp))
  | snoc hp e =>
    rw [List.length_cons] at hlen
    exact farF_ed _ ht e.mem (h _ _ _ hp (by omega))
theorem farN_cmp {w : Web} (hw : Wl w) {a : Nat} : ∀ (l : List Nat) {r : Nat} {f : Row}, f.length = w.many → Cmp w a r f → Cmp w a (r + l.length) (l.foldl (fun f _ => farR w f) f)
  | [], r, f, _, h => h
  | t :: l, r, f, hl, h => by
    rw [List.foldl_cons, List.length_cons, show r + (l.length + 1) = r + 1 + l.length by omega]
    exact farN_cmp hw l (by rw [farR_len]; exact hl) (farR_cmp hw hl h)
theorem far_iff {w : Web} (hw : Wl w) {a v c : Nat} (ha : a < w.many) : leC (at_ (far w a) v) c ↔ Ac w [a, v] c := by
  have h0l : (far0 w a).length = w.many := by unfold far0; simp
  constructor
  · intro h
    have h0 : Sdd w a (far0 w a) := fun v c h => by
      rw [at_far0 ha] at h
      split at h
      · rename_i e; subst e; exact ⟨0, _, .nil, Nat.zero_le _⟩
      · exact (leC_none.mp h).elim
    obtain ⟨d, vs, h1, h2⟩ := farN_snd hw (List.range w.many) h0l h0 v c h
    exact h1.ac.mono h2
  · rintro ⟨is, h1, h2, h3⟩
    have h0 : Cmp w a 0 (far0 w a) := fun v c vs hp hl => by
      obtain ⟨rfl, rfl⟩ := hp.len1 hl
      rw [at_far0 ha, if_pos rfl]
      exact leC_some.mpr (Nat.le_refl _)
    have hc := farN_cmp hw (List.range w.many) h0l h0
    obtain ⟨d, vs, g1, g2, g3, g4⟩ := path is.length is (Nat.le_refl _) h1 a v (h2 a (by simp) v (by simp))
    have := ndl_len w.many vs g3 fun x hx => ((g4 x hx).lt hw).mp ha
    refine (hc v d vs g1 (by rw [List.length_range]; omega)).mono (by omega)
/-! groups -/
theorem or_add {g h : Nat} (d : Dj g h) : g ||| h = g + h := by
  have z : g &&& h = 0 := Nat.eq_of_testBit_eq fun i => by
    rw [Nat.testBit_and, Nat.zero_testBit]
    cases e : g.testBit i with
    | false => rfl
    | true => rw [d i e]; rfl
  have lt1 : g < 2 ^ (g + h) := Nat.lt_of_lt_of_le Nat.lt_two_pow_self (Nat.pow_le_pow_right (by decide) (by omega))
  have lt2 : h < 2 ^ (g + h) := Nat.lt_of_lt_of_le Nat.lt_two_pow_self (Nat.pow_le_pow_right (by decide) (by omega))
  have lt3 : g + h < 2 ^ (g + h) := Nat.lt_two_pow_self
  have := BitVec.add_eq_or_of_and_eq_zero (w := g + h) (BitVec.ofNat _ g) (BitVec.ofNat _ h) (by
    apply BitVec.eq_of_toNat_eq
    rw [BitVec.toNat_and, BitVec.toNat_ofNat, BitVec.toNat_ofNat, Nat.mod_eq_of_lt lt1, Nat.mod_eq_of_lt lt2, z]
    simp)
  have := congrArg BitVec.toNat this
  rw [BitVec.toNat_add, BitVec.toNat_or, BitVec.toNat_ofNat, BitVec.toNat_ofNat, Nat.mod_eq_of_lt lt1, Nat.mod_eq_of_lt lt2, Nat.mod_eq_of_lt lt3] at this
  exact this.symm
theorem part_ok {p R : Nat} (h : p &&& R = p) : Dj p (R - p) ∧ p ||| (R - p) = R := by
  have hb : ∀ i, p.testBit i = true → R.testBit i = true := fun i hi => by
    rw [← h, Nat.testBit_and, Bool.and_eq_true] at hi
    exact hi.2
  have d : Dj p (R ^^^ p) := fun i hi => by rw [Nat.testBit_xor, hi, hb i hi]; rfl
  have u : p ||| (R ^^^ p) = R := bit_ext fun i => by
    rw [Nat.testBit_or, Nat.testBit_xor]
    cases e : p.testBit i with
    | false => simp
    | true => simp [hb i e]
  have e := or_add d
  rw [u] at e
  have : R - p = R ^^^ p := by omega
  rw [this]
  exact ⟨d, u⟩
theorem part_of {g h R : Nat} (d : Dj g h) (u : g ||| h = R) : g &&& R = g ∧ R - g = h := by
  have e := or_add d
  rw [u] at e
  refine ⟨bit_ext fun i => ?_, by omega⟩
  rw [Nat.testBit_and, ← u, Nat.testBit_or]
  cases g.testBit i <;> simp
theorem Sb.le {g R : Nat} (h : Sb g R) : g ≤ R := by
  have : g ||| R = R := bit_ext fun i => by
    rw [Nat.testBit_or, Bool.or_eq_true]
    exact ⟨fun z => z.elim (h i) id, .inr⟩
  rw [← this]
  exact Nat.left_le_or
def grp (es : List Nat) (g : Nat) : List Nat := (List.range es.length).filterMap fun i => if g.testBit i = true then es[i]? else none
theorem grp_mem {es : List Nat} {g x : Nat} : x ∈ grp es g ↔ ∃ i, es[i]? = some x ∧ g.testBit i = true := by
  unfold grp
  rw [List.mem_filterMap]
  constructor
  · rintro ⟨i, h1, h2⟩
    split at h2
    · exact ⟨i, h2, by assumption⟩
    · cases h2
  · rintro ⟨i, h1, h2⟩
    refine ⟨i, ?_, by rw [if_pos h2]; exact h1⟩
    rw [List.mem_range]
    obtain ⟨h, _⟩ := List.getElem?_eq_some_iff.mp h1
    exact h
theorem grp_or {es : List Nat} {g h x : Nat} : x ∈ grp es (g ||| h) ↔ x ∈ grp es g ∨ x ∈ grp es h := by
  rw [grp_mem, grp_mem, grp_mem]
  constructor
  · rintro ⟨i, h1, h2⟩
    rw [Nat.testBit_or, Bool.or_eq_true] at h2
    exact h2.elim (fun h2 => .inl ⟨i, h1, h2⟩) fun h2 => .inr ⟨i, h1, h2⟩
  · rintro (⟨i, h1, h2⟩ | ⟨i, h1, h2⟩)
    · exact ⟨i, h1, by rw [Nat.testBit_or, h2]; rfl⟩
    · exact ⟨i, h1, by rw [Nat.testBit_or, h2]; simp⟩
theorem ac_ed {w : Web} {es : List Nat} {x y p c : Nat} (h : Ac w (x :: es) c) (he : Ed w x y p) : Ac w (y :: es) (c + p) := by
  have := Ac.join (u := x) (es := es) (fs := [y]) h he.ac
  exact this.sub fun z hz => by simp at hz ⊢; rcases hz with h | h <;> simp [h]
theorem ac_way {w : Web} {es : List Nat} {x y p c : Nat} (h : Ac w (x :: es) c) (he : Ac w [x, y] p) : Ac w (y :: es) (c + p) := by
  have := Ac.join (u := x) (es := es) (fs := [y]) h he
  exact this.sub fun z hz => by simp at hz ⊢; rcases hz with h | h <;> simp [h]
theorem ac_or {w : Web} {es : List Nat} {g h v x y : Nat} (h1 : Ac w (v :: grp es g) x) (h2 : Ac w (v :: grp es h) y) : Ac w (v :: grp es (g ||| h)) (x + y) := by
  refine (Ac.join h1 h2).sub fun z hz => ?_
  rcases List.mem_cons.mp hz with e | hz
  · rw [e]; exact List.mem_cons_self
  · exact List.mem_cons_of_mem _ (List.mem_append.mpr (grp_or.mp hz))
theorem two_pow_nz (i : Nat) : 2 ^ i ≠ 0 := by have := Nat.two_pow_pos i; omega
theorem dw {w : Web} (hw : Wl w) {es : List Nat} (he : ∀ e ∈ es, e < w.many) {τ : Nat → Nat → Option Nat} {R : Nat} (hR : R < 2 ^ es.length) (hz : R ≠ 0) (hs : ∀ i, R ≠ 2 ^ i)
    (low : ∀ g, g ≠ 0 → Sb g R → g ≠ R → ∀ v c, v < w.many → (leC (τ g v) c ↔ Ac w (v :: grp es g) c))
    (rc : ∀ v c, v < w.many → (leC (τ R v) c ↔ ∃ u g h x y z, u < w.many ∧ Dj g h ∧ g ||| h = R ∧ g ≠ 0 ∧ h ≠ 0 ∧ leC (τ g u) x ∧ leC (τ h u) y ∧ Ac w [u, v] z ∧ x + y + z ≤ c)) :
    ∀ v c, v < w.many → (leC (τ R v) c ↔ Ac w (v :: grp es R) c) := by
  have nR : ∀ {g h : Nat}, Dj g h → g ||| h = R → h ≠ 0 → g ≠ R := fun {g h} d u hn e => by
    have := or_add d; omega
  have sL : ∀ {g h : Nat}, g ||| h = R → Sb g R := fun {g h} u i hi => by rw [← u, Nat.testBit_or, hi]; rfl
  have sR : ∀ {g h : Nat}, g ||| h = R → Sb h R := fun {g h} u i hi => by rw [← u, Nat.testBit_or, hi]; simp
  intro v c hv
  constructor
  · intro h
    obtain ⟨u, g, h, x, y, z, hu, d, e, g0, h0, hx, hy, hz, hc⟩ := (rc v c hv).mp h
    have a1 := (low g g0 (sL e) (nR d e h0) u x hu).mp hx
    have a2 := (low h h0 (sR e) (nR d.sm (by rw [Nat.or_comm]; exact e) g0) u y hu).mp hy
    have a3 := ac_or a1 a2
    rw [e] at a3
    exact (ac_way a3 hz).mono (by omega)
  · rintro ⟨is, h1, h2, h3⟩
    have hV : ∀ x y p, Ed w x y p → (x < w.many ↔ y < w.many) := fun x y p e => by have := hw.ed e; omega
    let ps : List (Nat × Nat × Nat) := ((List.range es.length).filter fun i => R.testBit i).map fun i => (2 ^ i, es.getD i 0, 0)
    have hU : Un ps = R := bit_ext fun i => by
      rw [Un_bit]
      constructor
      · rintro ⟨p, hp, hb⟩
        obtain ⟨j, hj, rfl⟩ := List.mem_map.mp hp
        rw [Nat.testBit_two_pow, decide_eq_true_eq] at hb
        subst hb
        exact (List.mem_filter.mp hj).2
      · intro hb
        refine ⟨_, List.mem_map.mpr ⟨i, List.mem_filter.mpr ⟨?_, hb⟩, rfl⟩, by rw [Nat.testBit_two_pow, decide_eq_true_eq]⟩
        rw [List.mem_range]
        apply Classical.byContradiction
        intro hi
        have := Nat.testBit_lt_two_pow (Nat.lt_of_lt_of_le hR (Nat.pow_le_pow_right (by decide) (show es.length ≤ i by omega)))
        rw [this] at hb
        cases hb
    have hS : sm ps = 0 := by
      have : ∀ l : List Nat, sm (l.map fun i => (2 ^ i, es.getD i 0, 0)) = 0 := fun l => by
        induction l with
        | nil => rfl
        | cons a r ih => rw [List.map_cons]; unfold sm; rw [ih]
      exact this _
    have hne : ps ≠ [] := fun e => by rw [e] at hU; exact hz hU.symm
    have hpw : ps.Pairwise fun p q => Dj p.1 q.1 := by
      rw [List.pairwise_map]
      refine ((List.pairwise_lt_range (n := es.length)).filter _).imp fun {i j} hij => ?_
      intro k hk
      rw [Nat.testBit_two_pow, decide_eq_true_eq] at hk
      rw [Nat.testBit_two_pow, decide_eq_false_iff_not]
      omega
    have := packs (w := w) (τ := τ) (R := R) (· < w.many) hV
      (fun g h u x y hu hsb d g0 h0 hx hy => by
        by_cases e : g ||| h = R
        · rw [e, rc u _ hu]
          exact ⟨u, g, h, x, y, 0, hu, d, e, g0, h0, hx, hy, Ac.one (v := u) fun z hz => by simpa using hz, by omega⟩
        · have gs : Sb g R := fun i hi => hsb i (by rw [Nat.testBit_or, hi]; rfl)
          have hs' : Sb h R := fun i hi => hsb i (by rw [Nat.testBit_or, hi]; simp)
          have oa := or_add d
          have ole := hsb.le
          have g1 : g ≠ R := fun z => by omega
          have h1 : h ≠ R := fun z => by omega
          rw [low g g0 gs g1 u x hu] at hx
          rw [low h h0 hs' h1 u y hu] at hy
          rw [low (g ||| h) (by omega) hsb e u _ hu]
          exact ac_or hx hy)
      (fun g x y p c hx hy hsb g0 ed hc => by
        by_cases e : g = R
        · subst e
          rw [rc x _ hx] at hc
          rw [rc y _ hy]
          obtain ⟨u, g, h, a, b, z, hu, d, e, g0, h0, ha, hb, hz, hc⟩ := hc
          refine ⟨u, g, h, a, b, z + p, hu, d, e, g0, h0, ha, hb, ?_, by omega⟩
          have := ac_ed (es := [u]) (hz.sub (fs := [x, u]) fun q hq => by simp at hq ⊢; omega) ed
          exact this.sub fun q hq => by simp at hq ⊢; omega
        · rw [low g g0 hsb e x _ hx] at hc
          rw [low g g0 hsb e y _ hy]
          exact ac_ed hc ed)
      is.length is (Nat.le_refl _) h1 v ps hv hne hpw (fun p hp => by
        obtain ⟨i, hi, rfl⟩ := List.mem_map.mp hp
        obtain ⟨hi1, hi2⟩ := List.mem_filter.mp hi
        rw [List.mem_range] at hi1
        have eg : es[i]? = some (es.getD i 0) := by rw [List.getD_eq_getElem?_getD, List.getElem?_eq_getElem hi1]; rfl
        have em : es.getD i 0 ∈ es := List.mem_of_getElem? eg
        refine ⟨two_pow_nz i, fun j hj => ?_, ?_, ?_⟩
        · rw [Nat.testBit_two_pow, decide_eq_true_eq] at hj
          subst hj; exact hi2
        · rw [low _ (two_pow_nz i) (fun j hj => by rw [Nat.testBit_two_pow, decide_eq_true_eq] at hj; subst hj; exact hi2) (Ne.symm (hs i)) _ _ (he _ em)]
          refine Ac.one (v := es.getD i 0) fun x hx => ?_
          rcases List.mem_cons.mp hx with e | hx
          · exact e
          · obtain ⟨j, hj, hb⟩ := grp_mem.mp hx
            rw [Nat.testBit_two_pow, decide_eq_true_eq] at hb
            subst hb
            rw [eg] at hj
            cases hj
            rfl
        · exact h2 _ (List.mem_cons_of_mem _ (grp_mem.mpr ⟨i, eg, hi2⟩)) v List.mem_cons_self)
    rw [hU, hS] at this
    exact this.mono (by omega)
end J

/-! The table; the least cost by all ties. -/
namespace J
def rgN (lo hi : Nat) : List Nat := (List.range (hi - lo)).map (lo + ·)
theorem rgN_mem {lo hi x : Nat} : x ∈ rgN lo hi ↔ lo ≤ x ∧ x < hi := by
  unfold rgN
  rw [List.mem_map]
  constructor
  · rintro ⟨a, h, rfl⟩
    rw [List.mem_range] at h
    omega
  · intro h
    exact ⟨x - lo, List.mem_range.mpr (by omega), by omega⟩
theorem rgN_succ {lo hi : Nat} (h : lo ≤ hi) : rgN lo (hi + 1) = rgN lo hi ++ [hi] := by
  unfold rgN
  rw [show hi + 1 - lo = (hi - lo) + 1 by omega, List.range_succ, List.map_append, List.map_cons, List.map_nil, show lo + (hi - lo) = hi by omega]
theorem rgN_self {lo : Nat} : rgN lo lo = [] := by unfold rgN; rw [Nat.sub_self]; rfl
def at2 (F : List Row) (g v : Nat) : Option Nat := at_ (F.getD g []) v
theorem at_map {n v : Nat} {f : Nat → Option Nat} (h : v < n) : at_ ((List.range n).map f) v = f v := by
  unfold at_
  rw [List.getD_eq_getElem?_getD, List.getElem?_map, List.getElem?_range h]
  rfl
theorem leC_fold {X : Nat → Option Nat} {c : Nat} : ∀ (l : List Nat) (b : Option Nat), leC (l.foldl (fun b o => lsr b (X o)) b) c ↔ leC b c ∨ ∃ o ∈ l, leC (X o) c
  | [], b => by simp
  | a :: r, b => by
    rw [List.foldl_cons, leC_fold r, leC_lsr]
    simp only [List.mem_cons, exists_eq_or_imp]
    exact or_assoc
def spr (F : List Row) (row : Row) : Row := (List.range row.length).map fun pl => (List.range row.length).foldl (fun b o => lsr b (bth (at_ row o) (at2 F o pl))) none
theorem spr_len {F : List Row} {row : Row} : (spr F row).length = row.length := by unfold spr; simp
theorem spr_le {F : List Row} {row : Row} {v c : Nat} (hv : v < row.length) : leC (at_ (spr F row) v) c ↔ ∃ u x y, u < row.length ∧ leC (at_ row u) x ∧ leC (at2 F u v) y ∧ x + y ≤ c := by
  unfold spr
  rw [at_map hv, leC_fold]
  simp only [leC_none, false_or, List.mem_range, leC_bth]
  constructor
  · rintro ⟨u, h, x, y, h1, h2, h3⟩; exact ⟨u, x, y, h, h1, h2, h3⟩
  · rintro ⟨u, x, y, h, h1, h2, h3⟩; exact ⟨u, h, x, y, h1, h2, h3⟩
def pst (X : Nat → Option Nat) (f : Row) (pl : Nat) : Row := f.set pl (lsr (at_ f pl) (X pl))
theorem pst_len {X : Nat → Option Nat} {f : Row} {pl : Nat} : (pst X f pl).length = f.length := by unfold pst; rw [List.length_set]
theorem psf_len {X : Nat → Option Nat} : ∀ (l : List Nat) (f : Row), (l.foldl (pst X) f).length = f.length
  | [], f => rfl
  | a :: r, f => by rw [List.foldl_cons, psf_len r, pst_len]
theorem psf_le {X : Nat → Option Nat} {v c : Nat} : ∀ (l : List Nat) (f : Row), (∀ x ∈ l, x < f.length) → (leC (at_ (l.foldl (pst X) f) v) c ↔ leC (at_ f v) c ∨ (v ∈ l ∧ leC (X v) c))
  | [], f, _ => by simp
  | a :: r, f, h => by
    have ha := h a List.mem_cons_self
    rw [List.foldl_cons, psf_le r _ fun x hx => by rw [pst_len]; exact h x (List.mem_cons_of_mem _ hx)]
    unfold pst
    rw [at_set ha]
    by_cases e : v = a
    · subst e
      rw [if_pos rfl, leC_lsr]
      simp only [List.mem_cons, true_or, true_and]
      constructor
      · rintro ((h | h) | h)
        · exact .inl h
        · exact .inr h
        · exact .inr h.2
      · rintro (h | h)
        · exact .inl (.inl h)
        · exact .inl (.inr h)
    · rw [if_neg e]
      simp only [List.mem_cons, e, false_or]
def prX (rows : List Row) (g p : Nat) (pl : Nat) : Option Nat := bth (at2 rows p pl) (at2 rows (g - p) pl)
def pr1 (rows : List Row) (g many : Nat) (f : Row) (p : Nat) : Row := if p &&& g = p then (List.range many).foldl (pst (prX rows g p)) f else f
def prow (rows : List Row) (g many : Nat) : Row := (rgN 1 g).foldl (pr1 rows g many) (List.replicate many none)
theorem pr1_len {rows : List Row} {g many p : Nat} {f : Row} : (pr1 rows g many f p).length = f.length := by
  unfold pr1
  split
  · exact psf_len _ _
  · rfl
theorem prf_len {rows : List Row} {g many : Nat} : ∀ (l : List Nat) (f : Row), (l.foldl (pr1 rows g many) f).length = f.length
  | [], f => rfl
  | a :: r, f => by rw [List.foldl_cons, prf_len r, pr1_len]
theorem prow_len {rows : List Row} {g many : Nat} : (prow rows g many).length = many := by unfold prow; rw [prf_len, List.length_replicate]
theorem prf_le {rows : List Row} {g many v c : Nat} (hv : v < many) : ∀ (l : List Nat) (f : Row), f.length = many → (leC (at_ (l.foldl (pr1 rows g many) f) v) c ↔ leC (at_ f v) c ∨ ∃ p ∈ l, p &&& g = p ∧ leC (prX rows g p v) c)
  | [], f, _ => by simp
  | a :: r, f, h => by
    rw [List.foldl_cons, prf_le hv r _ (by rw [pr1_len]; exact h)]
    unfold pr1
    simp only [List.mem_cons, exists_eq_or_imp]
    split
    · rename_i e
      rw [psf_le _ _ fun x hx => by rw [h]; exact List.mem_range.mp hx]
      simp only [List.mem_range, hv, true_and, e]
      exact or_assoc
    · rename_i e
      simp only [e, false_and, false_or]
theorem at_rep {n v : Nat} : at_ (List.replicate n none) v = none := by
  unfold at_
  rw [List.getD_eq_getElem?_getD, List.getElem?_replicate]
  split <;> rfl
theorem prow_le {rows : List Row} {g many v c : Nat} (hv : v < many) : leC (at_ (prow rows g many) v) c ↔ ∃ p x y, 1 ≤ p ∧ p < g ∧ p &&& g = p ∧ leC (at2 rows p v) x ∧ leC (at2 rows (g - p) v) y ∧ x + y ≤ c := by
  unfold prow
  rw [prf_le hv _ _ List.length_replicate, at_rep]
  simp only [leC_none, false_or, rgN_mem, prX, leC_bth]
  constructor
  · rintro ⟨p, ⟨h1, h2⟩, h3, x, y, h4, h5, h6⟩; exact ⟨p, x, y, h1, h2, h3, h4, h5, h6⟩
  · rintro ⟨p, x, y, h1, h2, h3, h4, h5, h6⟩; exact ⟨p, ⟨h1, h2⟩, h3, x, y, h4, h5, h6⟩
def fars (w : Web) : List Row := (List.range w.many).map (far w)
theorem fars_at {w : Web} {a : Nat} (h : a < w.many) : (fars w).getD a [] = far w a := by
  unfold fars
  rw [List.getD_eq_getElem?_getD, List.getElem?_map, List.getElem?_range h]
  rfl
def trow (w : Web) (e size : Nat) (rows : List Row) (g : Nat) : Row := if g = size then (fars w).getD e [] else spr (fars w) (prow rows g w.many)
def tgrp (w : Web) (st : List Row × Nat) (e : Nat) : List Row × Nat := ((rgN st.2 (2 * st.2)).foldl (fun rows g => rows ++ [trow w e st.2 rows g]) st.1, 2 * st.2)
def tbl0 (w : Web) : List Row := [List.replicate w.many (some 0)]
def tbl (w : Web) (es : List Nat) : List Row := (es.foldl (tgrp w) (tbl0 w, 1)).1
structure Rok (w : Web) (es : List Nat) (rows : List Row) : Prop where
  len : ∀ g, g < rows.length → (rows.getD g []).length = w.many
  zero : rows.getD 0 [] = List.replicate w.many (some 0)
  ok : ∀ g, g ≠ 0 → g < rows.length → ∀ v c, v < w.many → (leC (at2 rows g v) c ↔ Ac w (v :: grp es g) c)
theorem getD_app {α : Type} {l : List α} {x d : α} {g : Nat} : (l ++ [x]).getD g d = if g < l.length then l.getD g d else if g = l.length then x else d := by
  rw [List.getD_eq_getElem?_getD, List.getD_eq_getElem?_getD]
  by_cases h : g < l.length
  · rw [if_pos h, List.getElem?_append_left h]
  · rw [if_neg h, List.getElem?_append_right (by omega)]
    by_cases e : g = l.length
    · rw [if_pos e, e, Nat.sub_self]; rfl
    · rw [if_neg e, List.getElem?_eq_none (by simp; omega)]; rfl
theorem Rok.add {w : Web} {es : List Nat} {rows : List Row} {T : Row} (h : Rok w es rows) (hz : rows.length ≠ 0) (hl : T.length = w.many) (ht : ∀ v c, v < w.many → (leC (at_ T v) c ↔ Ac w (v :: grp es rows.length) c)) : Rok w es (rows ++ [T]) := by
  refine ⟨fun g hg => ?_, ?_, fun g g0 hg v c hv => ?_⟩
  · rw [List.length_append, List.length_singleton] at hg
    rw [getD_app]
    split
    · exact h.len g (by assumption)
    · rw [if_pos (by omega)]; exact hl
  · rw [getD_app, if_pos (by omega)]; exact h.zero
  · rw [List.length_append, List.length_singleton] at hg
    unfold at2
    rw [getD_app]
    split
    · exact h.ok g g0 (by assumption) v c hv
    · have e : g = rows.length := by omega
      rw [if_pos e, e]; exact ht v c hv
theorem row_ok {w : Web} (hw : Wl w) {es : List Nat} (he : ∀ e ∈ es, e < w.many) {rows : List Row} {i e : Nat} (h : Rok w es rows) (hi : es[i]? = some e) (h1 : 2 ^ i ≤ rows.length) (h2 : rows.length < 2 * 2 ^ i) : (trow w e (2 ^ i) rows rows.length).length = w.many ∧ ∀ v c, v < w.many → (leC (at_ (trow w e (2 ^ i) rows rows.length) v) c ↔ Ac w (v :: grp es rows.length) c) := by
  have hem : e < w.many := he e (List.mem_of_getElem? hi)
  have hil : i < es.length := (List.getElem?_eq_some_iff.mp hi).1
  unfold trow
  by_cases hR : rows.length = 2 ^ i
  · rw [if_pos hR, fars_at hem]
    refine ⟨far_len, fun v c hv => ?_⟩
    rw [far_iff hw hem, hR]
    refine Ac.congr fun x => ?_
    rw [List.mem_cons, grp_mem]
    constructor
    · rintro (rfl | ⟨j, h3, h4⟩)
      · simp
      · rw [Nat.testBit_two_pow, decide_eq_true_eq] at h4
        subst h4
        rw [hi] at h3
        cases h3
        simp
    · intro hx
      simp at hx
      rcases hx with rfl | rfl
      · exact .inr ⟨i, hi, by rw [Nat.testBit_two_pow, decide_eq_true_eq]⟩
      · exact .inl rfl
  · rw [if_neg hR]
    refine ⟨by rw [spr_len, prow_len], ?_⟩
    generalize hRR : rows.length = R at *
    have hR0 : R ≠ 0 := by have := Nat.two_pow_pos i; omega
    have hRl : R < 2 ^ es.length := Nat.lt_of_lt_of_le h2 (by rw [Nat.mul_comm, ← Nat.pow_succ]; exact Nat.pow_le_pow_right (by decide) (by omega))
    have hns : ∀ j, R ≠ 2 ^ j := fun j e => by
      by_cases hj : j ≤ i
      · have := Nat.pow_le_pow_right (show 0 < 2 by decide) hj
        omega
      · have := Nat.pow_le_pow_right (show 0 < 2 by decide) (show i + 1 ≤ j by omega)
        rw [Nat.pow_succ] at this
        omega
    let τ : Nat → Nat → Option Nat := fun g v => if g = R then at_ (spr (fars w) (prow rows R w.many)) v else at2 rows g v
    have tR : ∀ v, τ R v = at_ (spr (fars w) (prow rows R w.many)) v := fun v => by show (if R = R then _ else _) = _; rw [if_pos rfl]
    have tg : ∀ g v, g ≠ R → τ g v = at2 rows g v := fun g v hg => by show (if g = R then _ else _) = _; rw [if_neg hg]
    have := dw hw he (τ := τ) hRl hR0 hns (fun g g0 hs hg v c hv => by
        have := hs.le
        rw [tg g v hg]
        exact h.ok g g0 (by omega) v c hv)
      (fun v c hv => by
        rw [tR, spr_le (by rw [prow_len]; exact hv)]
        constructor
        · rintro ⟨u, x, y, hu, hx, hy, hc⟩
          rw [prow_len] at hu
          obtain ⟨p, a, b, p1, p2, p3, ha, hb, hab⟩ := (prow_le hu).mp hx
          obtain ⟨d, o⟩ := part_ok p3
          refine ⟨u, p, R - p, a, b, y, hu, d, o, by omega, by omega, by rw [tg _ _ (by omega)]; exact ha, by rw [tg _ _ (by omega)]; exact hb, ?_, by omega⟩
          rw [← far_iff hw hu]
          unfold at2 at hy
          rw [fars_at hu] at hy
          exact hy
        · rintro ⟨u, g, h', x, y, z, hu, d, o, g0, h0, hx, hy, hz, hc⟩
          obtain ⟨q1, q2⟩ := part_of d o
          have oa := or_add d
          rw [tg _ _ (by omega)] at hx hy
          refine ⟨u, x + y, z, by rw [prow_len]; exact hu, (prow_le hu).mpr ⟨g, x, y, by omega, by omega, q1, hx, by rw [q2]; exact hy, Nat.le_refl _⟩, ?_, hc⟩
          unfold at2
          rw [fars_at hu, far_iff hw hu]
          exact hz)
    intro v c hv
    have := this v c hv
    rw [tR] at this
    exact this
theorem tin_ok {w : Web} (hw : Wl w) {es : List Nat} (he : ∀ e ∈ es, e < w.many) {i e : Nat} (hi : es[i]? = some e) : ∀ (k : Nat) (rows : List Row), Rok w es rows → rows.length = 2 ^ i → k ≤ 2 ^ i →
    Rok w es ((rgN (2 ^ i) (2 ^ i + k)).foldl (fun rows g => rows ++ [trow w e (2 ^ i) rows g]) rows) ∧ ((rgN (2 ^ i) (2 ^ i + k)).foldl (fun rows g => rows ++ [trow w e (2 ^ i) rows g]) rows).length = 2 ^ i + k
  | 0, rows, h, hl, _ => by rw [Nat.add_zero, rgN_self]; exact ⟨h, hl⟩
  | k + 1, rows, h, hl, hk => by
    obtain ⟨a, b⟩ := tin_ok hw he hi k rows h hl (by omega)
    rw [← Nat.add_assoc, rgN_succ (by omega), List.foldl_append, List.foldl_cons, List.foldl_nil]
    generalize hrr : (rgN (2 ^ i) (2 ^ i + k)).foldl (fun rows g => rows ++ [trow w e (2 ^ i) rows g]) rows = rr at *
    have hp := Nat.two_pow_pos i
    obtain ⟨c1, c2⟩ := row_ok hw he a hi (by omega) (by omega)
    rw [b] at c1 c2
    exact ⟨a.add (by omega) c1 (by rw [b]; exact c2), by rw [List.length_append, List.length_singleton]; omega⟩
theorem tbl_go {w : Web} (hw : Wl w) {es : List Nat} (he : ∀ e ∈ es, e < w.many) : ∀ (post pre : List Nat) (rows : List Row), es = pre ++ post → Rok w es rows → rows.length = 2 ^ pre.length →
    Rok w es (post.foldl (tgrp w) (rows, 2 ^ pre.length)).1 ∧ (post.foldl (tgrp w) (rows, 2 ^ pre.length)).1.length = 2 ^ es.length
  | [], pre, rows, hx, h, hl => by rw [List.append_nil] at hx; subst hx; exact ⟨h, hl⟩
  | e :: post, pre, rows, hx, h, hl => by
    rw [List.foldl_cons]
    have hi : es[pre.length]? = some e := by rw [hx, List.getElem?_append_right (Nat.le_refl _), Nat.sub_self]; rfl
    obtain ⟨a, b⟩ := tin_ok hw he hi (2 ^ pre.length) rows h hl (Nat.le_refl _)
    have e1 : tgrp w (rows, 2 ^ pre.length) e = ((rgN (2 ^ pre.length) (2 ^ pre.length + 2 ^ pre.length)).foldl (fun rows g => rows ++ [trow w e (2 ^ pre.length) rows g]) rows, 2 ^ (pre ++ [e]).length) := by
      unfold tgrp
      rw [show 2 * 2 ^ pre.length = 2 ^ pre.length + 2 ^ pre.length by omega]
      congr 1
      rw [List.length_append, List.length_singleton, Nat.pow_succ]
      omega
    rw [e1]
    refine tbl_go hw he post (pre ++ [e]) _ (by rw [List.append_assoc]; exact hx) a ?_
    rw [b, List.length_append, List.length_singleton, Nat.pow_succ]
    omega
theorem tbl_ok {w : Web} (hw : Wl w) {es : List Nat} (he : ∀ e ∈ es, e < w.many) : Rok w es (tbl w es) ∧ (tbl w es).length = 2 ^ es.length := by
  refine tbl_go hw he es [] (tbl0 w) rfl ⟨fun g hg => ?_, rfl, fun g g0 hg => ?_⟩ rfl
  · have : g = 0 := by have : (tbl0 w).length = 1 := rfl; omega
    subst this
    exact List.length_replicate
  · have : (tbl0 w).length = 1 := rfl
    omega
/-- what least_cost tells -/
def Lc (w : Web) (es : List Nat) : Option Nat := at2 (tbl w es) (2 ^ es.length - 1) (es.headD 0)
theorem grp_all {es : List Nat} {x : Nat} : x ∈ grp es (2 ^ es.length - 1) ↔ x ∈ es := by
  rw [grp_mem]
  constructor
  · rintro ⟨i, h, _⟩; exact List.mem_of_getElem? h
  · intro h
    obtain ⟨i, hi, rfl⟩ := List.getElem_of_mem h
    exact ⟨i, List.getElem?_eq_getElem hi, by rw [Nat.testBit_two_pow_sub_one, decide_eq_true_eq]; exact hi⟩
theorem head_mem {es : List Nat} (h : es ≠ []) : es.headD 0 ∈ es := by
  cases es with
  | nil => exact (h rfl).elim
  | cons a r => exact List.mem_cons_self
theorem Lc_iff {w : Web} (hw : Wl w) {es : List Nat} (he : ∀ e ∈ es, e < w.many) (hn : es ≠ []) {c : Nat} : leC (Lc w es) c ↔ Ac w es c := by
  obtain ⟨h, hl⟩ := tbl_ok hw he
  have hp : 1 < 2 ^ es.length := Nat.one_lt_two_pow (by intro e; exact hn (List.eq_nil_of_length_eq_zero e))
  unfold Lc
  rw [h.ok _ (by omega) (by omega) _ _ (he _ (head_mem hn))]
  refine Ac.congr fun x => ?_
  rw [List.mem_cons, grp_all]
  exact ⟨.inr, fun h => h.elim (fun e => e ▸ head_mem hn) id⟩
/-! all rising tuples -/
theorem Ac.rise {w : Web} {es : List Nat} {c : Nat} (h : Ac w es c) : ∃ is, is.Pairwise (· < ·) ∧ Ok w is ∧ Jn w is es ∧ cst w is ≤ c := by
  obtain ⟨is, h1, h2, h3⟩ := h
  have hp : ((List.range w.ties.length).filter fun k => decide (k ∈ is)).Pairwise (· < ·) := List.pairwise_lt_range.filter _
  refine ⟨_, hp, fun k hk => List.mem_range.mp (List.mem_filter.mp hk).1, fun a ha b hb => (h2 a ha b hb).mono fun k hk => List.mem_filter.mpr ⟨List.mem_range.mpr (h1 k hk), decide_eq_true hk⟩, Nat.le_trans (cst_sub (nodup_of hp) fun k hk => ?_) h3⟩
  exact of_decide_eq_true (List.mem_filter.mp hk).2
end J

/-! all_far .. least_cost: what they compute. -/
namespace J
open PySem
def encO : Option Nat → D
  | none => .none
  | some n => .int n
def encR (r : Row) : D := .list (r.map encO)
theorem isN_O {o : Option Nat} : isNoneD (encO o) = o.isNone := by cases o <;> rfl
theorem ix_O {f : Row} {k : Nat} (h : k < f.length) : opIx (.list (f.map encO)) (.int k) = some (encO (at_ f k)) := by
  simp only [opIx]
  rw [atI_nat, List.getElem?_map]
  unfold at_
  rw [List.getD_eq_getElem?_getD, List.getElem?_eq_getElem h]
  rfl
theorem ix_R {f : List Row} {k : Nat} (h : k < f.length) : opIx (.list (f.map encR)) (.int k) = some (encR (f.getD k [])) := by
  simp only [opIx]
  rw [atI_nat, List.getElem?_map, List.getD_eq_getElem?_getD, List.getElem?_eq_getElem h]
  rfl
theorem ixN_nat {n k : Nat} (h : k < n) : L2.ixN n (k : Int) = some k := by
  unfold L2.ixN
  rw [if_pos (by omega), if_pos (by omega)]
  simp
theorem mul_none {n : Nat} (h : n ≤ 1000) {d : D} : opMul (.list [d]) (.int n) = some (.list (List.replicate n d)) := by
  simp only [opMul]
  rw [if_pos (by simp; omega)]
  congr 2
  rw [show ((n : Int).toNat) = n by omega]
  induction n with
  | zero => rfl
  | succ n ih => rw [List.replicate_succ, List.replicate_succ, List.flatten_cons, ih (by omega)]; rfl
theorem set_O {f : Row} {k : Nat} {o : Option Nat} : (f.map encO).set k (encO o) = (f.set k o).map encO := by rw [List.map_set]
theorem rg_N {lo hi : Nat} (h1 : lo ≤ 100000) (h2 : hi ≤ 100000) : opRg (.int lo) (.int hi) = some ((rgN lo hi).map nI) := by
  simp only [opRg]
  rw [if_pos (by unfold rgOk; simp; omega)]
  unfold rgD rgN nI
  rw [List.map_map, show ((hi : Int) - lo).toNat = hi - lo by omega]
  congr 1
theorem lesser (n : Nat) {a b : Option Nat} : Ph (n + 1) 34 [encO a, encO b] = some (encO (lsr a b)) := by
  show evF (Ph n) fd34 [encO a, encO b] = _
  rw [← o1_eq, ef_of rfl]
  cases a with
  | none => simp only [o1_some, o1_none, o1_map, o1_if, o1_test, ev_var, ev_bv, ev_cn, ev_cb, ev_ci, ev_cs, ev_bin, ev_neg, ev_nt, ev_cmp, ev_cmp2, ev_an, ev_or, ev_tup, ev_lst, ev_call, ev_bi, ev_isi, ev_ix, ev_sl, ev_rev, ev_rgL, ev_rgT, ev_lset, ev_sset, ev_comp, ev_join, ev_split, ea_nil, ea_cons, eo_nil, ec_nil, ei_rg, ei_zip, ei_enum, nxt_nx, nxt_rt, es_set, es_setO, es_unp, es_par, es_app, es_sti, es_ifs, es_for, es_skip, es_seq, es_retv, turn_of, forB_of, bindT1, bindT2, bindEach, wipeE, getV, getB, start0, List.length_cons, List.length_nil, List.getElem?_cons_zero, List.getElem?_cons_succ, List.set_cons_zero, List.set_cons_succ, List.cons_append, List.nil_append, List.replicate_succ, List.replicate_zero, if_true, if_false, reduceIte, Nat.reduceAdd, Nat.reduceSub, Nat.reduceLeDiff, Bool.false_eq_true, Bool.true_eq_false, Bool.not_true, Bool.not_false, reduceCtorEq, Nat.zero_add, true_and, and_true, ei_var, ei_bv, ei_ix, ei_call, ei_bi, ei_tup, ei_lst, ei_comp, ei_rev, ei_bin, ei_rgL, ei_rgT, ei_sset, ei_sl, ei_split, ec_cmp, ec_cmp2, ec_an, ec_or, ec_nt, ec_call, ec_isi, ec_bv, ec_var, ec_bi, ec_cb, eo_ci, eo_bv, eo_var, eo_neg, eo_bin, eo_bi, eo_ix, eo_call, er_bv, er_ix, er_call, er_bi, er_tup, er_lst, er_comp, er_rev, er_bin, er_rgL, er_rgT, er_sset, er_lset, er_sl, er_split, er_join, er_cmp, er_cmp2, er_an, er_or, er_nt, er_isi, er_ci, er_cb, er_cn, er_cs, er_neg, valS_val, valS_own, retD_rt, retD_nx, boolD_b, intD_i, listD_l, tupD_t, ownS_o, items_l, items_t, isi_b, isi_i, isi_n, isi_ii, isi_tt, len_l, len_t, tu_l, tu_t, li_l, li_t, int_b, add_i, add_l, add_t, sub_i, opI_i, rev_l, rev_t, sl_l, sl_t, zip_t, zip_l, zip_tl, sq2_t, sq2_l, bi_len, bi_min, bi_max, bi_sum, bi_all, bi_any, bi_int, bi_str, bi_tuple, bi_list, bi_sorted, opB_add, opB_sub, opB_mul, opB_div, opB_mod, opC_eq, opC_ne, opC_lt, opC_le, opC_gt, opC_ge, opC_is, opC_isn, opC_isb, opC_isnb, opC_in, opC_nin, isN_n, isN_i, nI, biMin2, biMax2, opEq_nI, ixW0, ixW1, ix_e0, ix_e1, ix_e2, tup_e, decide_eq_true_eq, fd34, encO, lsr]
  | some x =>
    cases b with
    | none => simp only [o1_some, o1_none, o1_map, o1_if, o1_test, ev_var, ev_bv, ev_cn, ev_cb, ev_ci, ev_cs, ev_bin, ev_neg, ev_nt, ev_cmp, ev_cmp2, ev_an, ev_or, ev_tup, ev_lst, ev_call, ev_bi, ev_isi, ev_ix, ev_sl, ev_rev, ev_rgL, ev_rgT, ev_lset, ev_sset, ev_comp, ev_join, ev_split, ea_nil, ea_cons, eo_nil, ec_nil, ei_rg, ei_zip, ei_enum, nxt_nx, nxt_rt, es_set, es_setO, es_unp, es_par, es_app, es_sti, es_ifs, es_for, es_skip, es_seq, es_retv, turn_of, forB_of, bindT1, bindT2, bindEach, wipeE, getV, getB, start0, List.length_cons, List.length_nil, List.getElem?_cons_zero, List.getElem?_cons_succ, List.set_cons_zero, List.set_cons_succ, List.cons_append, List.nil_append, List.replicate_succ, List.replicate_zero, if_true, if_false, reduceIte, Nat.reduceAdd, Nat.reduceSub, Nat.reduceLeDiff, Bool.false_eq_true, Bool.true_eq_false, Bool.not_true, Bool.not_false, reduceCtorEq, Nat.zero_add, true_and, and_true, ei_var, ei_bv, ei_ix, ei_call, ei_bi, ei_tup, ei_lst, ei_comp, ei_rev, ei_bin, ei_rgL, ei_rgT, ei_sset, ei_sl, ei_split, ec_cmp, ec_cmp2, ec_an, ec_or, ec_nt, ec_call, ec_isi, ec_bv, ec_var, ec_bi, ec_cb, eo_ci, eo_bv, eo_var, eo_neg, eo_bin, eo_bi, eo_ix, eo_call, er_bv, er_ix, er_call, er_bi, er_tup, er_lst, er_comp, er_rev, er_bin, er_rgL, er_rgT, er_sset, er_lset, er_sl, er_split, er_join, er_cmp, er_cmp2, er_an, er_or, er_nt, er_isi, er_ci, er_cb, er_cn, er_cs, er_neg, valS_val, valS_own, retD_rt, retD_nx, boolD_b, intD_i, listD_l, tupD_t, ownS_o, items_l, items_t, isi_b, isi_i, isi_n, isi_ii, isi_tt, len_l, len_t, tu_l, tu_t, li_l, li_t, int_b, add_i, add_l, add_t, sub_i, opI_i, rev_l, rev_t, sl_l, sl_t, zip_t, zip_l, zip_tl, sq2_t, sq2_l, bi_len, bi_min, bi_max, bi_sum, bi_all, bi_any, bi_int, bi_str, bi_tuple, bi_list, bi_sorted, opB_add, opB_sub, opB_mul, opB_div, opB_mod, opC_eq, opC_ne, opC_lt, opC_le, opC_gt, opC_ge, opC_is, opC_isn, opC_isb, opC_isnb, opC_in, opC_nin, isN_n, isN_i, nI, biMin2, biMax2, opEq_nI, ixW0, ixW1, ix_e0, ix_e1, ix_e2, tup_e, decide_eq_true_eq, fd34, encO, lsr]
    | some y =>
      simp only [o1_some, o1_none, o1_map, o1_if, o1_test, ev_var, ev_bv, ev_cn, ev_cb, ev_ci, ev_cs, ev_bin, ev_neg, ev_nt, ev_cmp, ev_cmp2, ev_an, ev_or, ev_tup, ev_lst, ev_call, ev_bi, ev_isi, ev_ix, ev_sl, ev_rev, ev_rgL, ev_rgT, ev_lset, ev_sset, ev_comp, ev_join, ev_split, ea_nil, ea_cons, eo_nil, ec_nil, ei_rg, ei_zip, ei_enum, nxt_nx, nxt_rt, es_set, es_setO, es_unp, es_par, es_app, es_sti, es_ifs, es_for, es_skip, es_seq, es_retv, turn_of, forB_of, bindT1, bindT2, bindEach, wipeE, getV, getB, start0, List.length_cons, List.length_nil, List.getElem?_cons_zero, List.getElem?_cons_succ, List.set_cons_zero, List.set_cons_succ, List.cons_append, List.nil_append, List.replicate_succ, List.replicate_zero, if_true, if_false, reduceIte, Nat.reduceAdd, Nat.reduceSub, Nat.reduceLeDiff, Bool.false_eq_true, Bool.true_eq_false, Bool.not_true, Bool.not_false, reduceCtorEq, Nat.zero_add, true_and, and_true, ei_var, ei_bv, ei_ix, ei_call, ei_bi, ei_tup, ei_lst, ei_comp, ei_rev, ei_bin, ei_rgL, ei_rgT, ei_sset, ei_sl, ei_split, ec_cmp, ec_cmp2, ec_an, ec_or, ec_nt, ec_call, ec_isi, ec_bv, ec_var, ec_bi, ec_cb, eo_ci, eo_bv, eo_var, eo_neg, eo_bin, eo_bi, eo_ix, eo_call, er_bv, er_ix, er_call, er_bi, er_tup, er_lst, er_comp, er_rev, er_bin, er_rgL, er_rgT, er_sset, er_lset, er_sl, er_split, er_join, er_cmp, er_cmp2, er_an, er_or, er_nt, er_isi, er_ci, er_cb, er_cn, er_cs, er_neg, valS_val, valS_own, retD_rt, retD_nx, boolD_b, intD_i, listD_l, tupD_t, ownS_o, items_l, items_t, isi_b, isi_i, isi_n, isi_ii, isi_tt, len_l, len_t, tu_l, tu_t, li_l, li_t, int_b, add_i, add_l, add_t, sub_i, opI_i, rev_l, rev_t, sl_l, sl_t, zip_t, zip_l, zip_tl, sq2_t, sq2_l, bi_len, bi_min, bi_max, bi_sum, bi_all, bi_any, bi_int, bi_str, bi_tuple, bi_list, bi_sorted, opB_add, opB_sub, opB_mul, opB_div, opB_mod, opC_eq, opC_ne, opC_lt, opC_le, opC_gt, opC_ge, opC_is, opC_isn, opC_isb, opC_isnb, opC_in, opC_nin, isN_n, isN_i, nI, biMin2, biMax2, opEq_nI, ixW0, ixW1, ix_e0, ix_e1, ix_e2, tup_e, decide_eq_true_eq, fd34, encO, lsr]
      by_cases h : y < x
      · simp only [show (y : Int) < x by omega, h, decide_true, o1_some, o1_none, o1_map, o1_if, o1_test, ev_var, ev_bv, ev_cn, ev_cb, ev_ci, ev_cs, ev_bin, ev_neg, ev_nt, ev_cmp, ev_cmp2, ev_an, ev_or, ev_tup, ev_lst, ev_call, ev_bi, ev_isi, ev_ix, ev_sl, ev_rev, ev_rgL, ev_rgT, ev_lset, ev_sset, ev_comp, ev_join, ev_split, ea_nil, ea_cons, eo_nil, ec_nil, ei_rg, ei_zip, ei_enum, nxt_nx, nxt_rt, es_set, es_setO, es_unp, es_par, es_app, es_sti, es_ifs, es_for, es_skip, es_seq, es_retv, turn_of, forB_of, bindT1, bindT2, bindEach, wipeE, getV, getB, start0, List.length_cons, List.length_nil, List.getElem?_cons_zero, List.getElem?_cons_succ, List.set_cons_zero, List.set_cons_succ, List.cons_append, List.nil_append, List.replicate_succ, List.replicate_zero, if_true, if_false, reduceIte, Nat.reduceAdd, Nat.reduceSub, Nat.reduceLeDiff, Bool.false_eq_true, Bool.true_eq_false, Bool.not_true, Bool.not_false, reduceCtorEq, Nat.zero_add, true_and, and_true, ei_var, ei_bv, ei_ix, ei_call, ei_bi, ei_tup, ei_lst, ei_comp, ei_rev, ei_bin, ei_rgL, ei_rgT, ei_sset, ei_sl, ei_split, ec_cmp, ec_cmp2, ec_an, ec_or, ec_nt, ec_call, ec_isi, ec_bv, ec_var, ec_bi, ec_cb, eo_ci, eo_bv, eo_var, eo_neg, eo_bin, eo_bi, eo_ix, eo_call, er_bv, er_ix, er_call, er_bi, er_tup, er_lst, er_comp, er_rev, er_bin, er_rgL, er_rgT, er_sset, er_lset, er_sl, er_split, er_join, er_cmp, er_cmp2, er_an, er_or, er_nt, er_isi, er_ci, er_cb, er_cn, er_cs, er_neg, valS_val, valS_own, retD_rt, retD_nx, boolD_b, intD_i, listD_l, tupD_t, ownS_o, items_l, items_t, isi_b, isi_i, isi_n, isi_ii, isi_tt, len_l, len_t, tu_l, tu_t, li_l, li_t, int_b, add_i, add_l, add_t, sub_i, opI_i, rev_l, rev_t, sl_l, sl_t, zip_t, zip_l, zip_tl, sq2_t, sq2_l, bi_len, bi_min, bi_max, bi_sum, bi_all, bi_any, bi_int, bi_str, bi_tuple, bi_list, bi_sorted, opB_add, opB_sub, opB_mul, opB_div, opB_mod, opC_eq, opC_ne, opC_lt, opC_le, opC_gt, opC_ge, opC_is, opC_isn, opC_isb, opC_isnb, opC_in, opC_nin, isN_n, isN_i, nI, biMin2, biMax2, opEq_nI, ixW0, ixW1, ix_e0, ix_e1, ix_e2, tup_e, decide_eq_true_eq]
      · simp only [show ¬ (y : Int) < x by omega, h, decide_false, o1_some, o1_none, o1_map, o1_if, o1_test, ev_var, ev_bv, ev_cn, ev_cb, ev_ci, ev_cs, ev_bin, ev_neg, ev_nt, ev_cmp, ev_cmp2, ev_an, ev_or, ev_tup, ev_lst, ev_call, ev_bi, ev_isi, ev_ix, ev_sl, ev_rev, ev_rgL, ev_rgT, ev_lset, ev_sset, ev_comp, ev_join, ev_split, ea_nil, ea_cons, eo_nil, ec_nil, ei_rg, ei_zip, ei_enum, nxt_nx, nxt_rt, es_set, es_setO, es_unp, es_par, es_app, es_sti, es_ifs, es_for, es_skip, es_seq, es_retv, turn_of, forB_of, bindT1, bindT2, bindEach, wipeE, getV, getB, start0, List.length_cons, List.length_nil, List.getElem?_cons_zero, List.getElem?_cons_succ, List.set_cons_zero, List.set_cons_succ, List.cons_append, List.nil_append, List.replicate_succ, List.replicate_zero, if_true, if_false, reduceIte, Nat.reduceAdd, Nat.reduceSub, Nat.reduceLeDiff, Bool.false_eq_true, Bool.true_eq_false, Bool.not_true, Bool.not_false, reduceCtorEq, Nat.zero_add, true_and, and_true, ei_var, ei_bv, ei_ix, ei_call, ei_bi, ei_tup, ei_lst, ei_comp, ei_rev, ei_bin, ei_rgL, ei_rgT, ei_sset, ei_sl, ei_split, ec_cmp, ec_cmp2, ec_an, ec_or, ec_nt, ec_call, ec_isi, ec_bv, ec_var, ec_bi, ec_cb, eo_ci, eo_bv, eo_var, eo_neg, eo_bin, eo_bi, eo_ix, eo_call, er_bv, er_ix, er_call, er_bi, er_tup, er_lst, er_comp, er_rev, er_bin, er_rgL, er_rgT, er_sset, er_lset, er_sl, er_split, er_join, er_cmp, er_cmp2, er_an, er_or, er_nt, er_isi, er_ci, er_cb, er_cn, er_cs, er_neg, valS_val, valS_own, retD_rt, retD_nx, boolD_b, intD_i, listD_l, tupD_t, ownS_o, items_l, items_t, isi_b, isi_i, isi_n, isi_ii, isi_tt, len_l, len_t, tu_l, tu_t, li_l, li_t, int_b, add_i, add_l, add_t, sub_i, opI_i, rev_l, rev_t, sl_l, sl_t, zip_t, zip_l, zip_tl, sq2_t, sq2_l, bi_len, bi_min, bi_max, bi_sum, bi_all, bi_any, bi_int, bi_str, bi_tuple, bi_list, bi_sorted, opB_add, opB_sub, opB_mul, opB_div, opB_mod, opC_eq, opC_ne, opC_lt, opC_le, opC_gt, opC_ge, opC_is, opC_isn, opC_isb, opC_isnb, opC_in, opC_nin, isN_n, isN_i, nI, biMin2, biMax2, opEq_nI, ixW0, ixW1, ix_e0, ix_e1, ix_e2, tup_e, decide_eq_true_eq]
theorem both (n : Nat) {a b : Option Nat} : Ph (n + 1) 35 [encO a, encO b] = some (encO (bth a b)) := by
  show evF (Ph n) fd35 [encO a, encO b] = _
  rw [← o1_eq, ef_of rfl]
  cases a with
  | none => simp only [o1_some, o1_none, o1_map, o1_if, o1_test, ev_var, ev_bv, ev_cn, ev_cb, ev_ci, ev_cs, ev_bin, ev_neg, ev_nt, ev_cmp, ev_cmp2, ev_an, ev_or, ev_tup, ev_lst, ev_call, ev_bi, ev_isi, ev_ix, ev_sl, ev_rev, ev_rgL, ev_rgT, ev_lset, ev_sset, ev_comp, ev_join, ev_split, ea_nil, ea_cons, eo_nil, ec_nil, ei_rg, ei_zip, ei_enum, nxt_nx, nxt_rt, es_set, es_setO, es_unp, es_par, es_app, es_sti, es_ifs, es_for, es_skip, es_seq, es_retv, turn_of, forB_of, bindT1, bindT2, bindEach, wipeE, getV, getB, start0, List.length_cons, List.length_nil, List.getElem?_cons_zero, List.getElem?_cons_succ, List.set_cons_zero, List.set_cons_succ, List.cons_append, List.nil_append, List.replicate_succ, List.replicate_zero, if_true, if_false, reduceIte, Nat.reduceAdd, Nat.reduceSub, Nat.reduceLeDiff, Bool.false_eq_true, Bool.true_eq_false, Bool.not_true, Bool.not_false, reduceCtorEq, Nat.zero_add, true_and, and_true, ei_var, ei_bv, ei_ix, ei_call, ei_bi, ei_tup, ei_lst, ei_comp, ei_rev, ei_bin, ei_rgL, ei_rgT, ei_sset, ei_sl, ei_split, ec_cmp, ec_cmp2, ec_an, ec_or, ec_nt, ec_call, ec_isi, ec_bv, ec_var, ec_bi, ec_cb, eo_ci, eo_bv, eo_var, eo_neg, eo_bin, eo_bi, eo_ix, eo_call, er_bv, er_ix, er_call, er_bi, er_tup, er_lst, er_comp, er_rev, er_bin, er_rgL, er_rgT, er_sset, er_lset, er_sl, er_split, er_join, er_cmp, er_cmp2, er_an, er_or, er_nt, er_isi, er_ci, er_cb, er_cn, er_cs, er_neg, valS_val, valS_own, retD_rt, retD_nx, boolD_b, intD_i, listD_l, tupD_t, ownS_o, items_l, items_t, isi_b, isi_i, isi_n, isi_ii, isi_tt, len_l, len_t, tu_l, tu_t, li_l, li_t, int_b, add_i, add_l, add_t, sub_i, opI_i, rev_l, rev_t, sl_l, sl_t, zip_t, zip_l, zip_tl, sq2_t, sq2_l, bi_len, bi_min, bi_max, bi_sum, bi_all, bi_any, bi_int, bi_str, bi_tuple, bi_list, bi_sorted, opB_add, opB_sub, opB_mul, opB_div, opB_mod, opC_eq, opC_ne, opC_lt, opC_le, opC_gt, opC_ge, opC_is, opC_isn, opC_isb, opC_isnb, opC_in, opC_nin, isN_n, isN_i, nI, biMin2, biMax2, opEq_nI, ixW0, ixW1, ix_e0, ix_e1, ix_e2, tup_e, decide_eq_true_eq, fd35, encO, bth]
  | some x =>
    cases b with
    | none => simp only [o1_some, o1_none, o1_map, o1_if, o1_test, ev_var, ev_bv, ev_cn, ev_cb, ev_ci, ev_cs, ev_bin, ev_neg, ev_nt, ev_cmp, ev_cmp2, ev_an, ev_or, ev_tup, ev_lst, ev_call, ev_bi, ev_isi, ev_ix, ev_sl, ev_rev, ev_rgL, ev_rgT, ev_lset, ev_sset, ev_comp, ev_join, ev_split, ea_nil, ea_cons, eo_nil, ec_nil, ei_rg, ei_zip, ei_enum, nxt_nx, nxt_rt, es_set, es_setO, es_unp, es_par, es_app, es_sti, es_ifs, es_for, es_skip, es_seq, es_retv, turn_of, forB_of, bindT1, bindT2, bindEach, wipeE, getV, getB, start0, List.length_cons, List.length_nil, List.getElem?_cons_zero, List.getElem?_cons_succ, List.set_cons_zero, List.set_cons_succ, List.cons_append, List.nil_append, List.replicate_succ, List.replicate_zero, if_true, if_false, reduceIte, Nat.reduceAdd, Nat.reduceSub, Nat.reduceLeDiff, Bool.false_eq_true, Bool.true_eq_false, Bool.not_true, Bool.not_false, reduceCtorEq, Nat.zero_add, true_and, and_true, ei_var, ei_bv, ei_ix, ei_call, ei_bi, ei_tup, ei_lst, ei_comp, ei_rev, ei_bin, ei_rgL, ei_rgT, ei_sset, ei_sl, ei_split, ec_cmp, ec_cmp2, ec_an, ec_or, ec_nt, ec_call, ec_isi, ec_bv, ec_var, ec_bi, ec_cb, eo_ci, eo_bv, eo_var, eo_neg, eo_bin, eo_bi, eo_ix, eo_call, er_bv, er_ix, er_call, er_bi, er_tup, er_lst, er_comp, er_rev, er_bin, er_rgL, er_rgT, er_sset, er_lset, er_sl, er_split, er_join, er_cmp, er_cmp2, er_an, er_or, er_nt, er_isi, er_ci, er_cb, er_cn, er_cs, er_neg, valS_val, valS_own, retD_rt, retD_nx, boolD_b, intD_i, listD_l, tupD_t, ownS_o, items_l, items_t, isi_b, isi_i, isi_n, isi_ii, isi_tt, len_l, len_t, tu_l, tu_t, li_l, li_t, int_b, add_i, add_l, add_t, sub_i, opI_i, rev_l, rev_t, sl_l, sl_t, zip_t, zip_l, zip_tl, sq2_t, sq2_l, bi_len, bi_min, bi_max, bi_sum, bi_all, bi_any, bi_int, bi_str, bi_tuple, bi_list, bi_sorted, opB_add, opB_sub, opB_mul, opB_div, opB_mod, opC_eq, opC_ne, opC_lt, opC_le, opC_gt, opC_ge, opC_is, opC_isn, opC_isb, opC_isnb, opC_in, opC_nin, isN_n, isN_i, nI, biMin2, biMax2, opEq_nI, ixW0, ixW1, ix_e0, ix_e1, ix_e2, tup_e, decide_eq_true_eq, fd35, encO, bth]
    | some y =>
      simp only [o1_some, o1_none, o1_map, o1_if, o1_test, ev_var, ev_bv, ev_cn, ev_cb, ev_ci, ev_cs, ev_bin, ev_neg, ev_nt, ev_cmp, ev_cmp2, ev_an, ev_or, ev_tup, ev_lst, ev_call, ev_bi, ev_isi, ev_ix, ev_sl, ev_rev, ev_rgL, ev_rgT, ev_lset, ev_sset, ev_comp, ev_join, ev_split, ea_nil, ea_cons, eo_nil, ec_nil, ei_rg, ei_zip, ei_enum, nxt_nx, nxt_rt, es_set, es_setO, es_unp, es_par, es_app, es_sti, es_ifs, es_for, es_skip, es_seq, es_retv, turn_of, forB_of, bindT1, bindT2, bindEach, wipeE, getV, getB, start0, List.length_cons, List.length_nil, List.getElem?_cons_zero, List.getElem?_cons_succ, List.set_cons_zero, List.set_cons_succ, List.cons_append, List.nil_append, List.replicate_succ, List.replicate_zero, if_true, if_false, reduceIte, Nat.reduceAdd, Nat.reduceSub, Nat.reduceLeDiff, Bool.false_eq_true, Bool.true_eq_false, Bool.not_true, Bool.not_false, reduceCtorEq, Nat.zero_add, true_and, and_true, ei_var, ei_bv, ei_ix, ei_call, ei_bi, ei_tup, ei_lst, ei_comp, ei_rev, ei_bin, ei_rgL, ei_rgT, ei_sset, ei_sl, ei_split, ec_cmp, ec_cmp2, ec_an, ec_or, ec_nt, ec_call, ec_isi, ec_bv, ec_var, ec_bi, ec_cb, eo_ci, eo_bv, eo_var, eo_neg, eo_bin, eo_bi, eo_ix, eo_call, er_bv, er_ix, er_call, er_bi, er_tup, er_lst, er_comp, er_rev, er_bin, er_rgL, er_rgT, er_sset, er_lset, er_sl, er_split, er_join, er_cmp, er_cmp2, er_an, er_or, er_nt, er_isi, er_ci, er_cb, er_cn, er_cs, er_neg, valS_val, valS_own, retD_rt, retD_nx, boolD_b, intD_i, listD_l, tupD_t, ownS_o, items_l, items_t, isi_b, isi_i, isi_n, isi_ii, isi_tt, len_l, len_t, tu_l, tu_t, li_l, li_t, int_b, add_i, add_l, add_t, sub_i, opI_i, rev_l, rev_t, sl_l, sl_t, zip_t, zip_l, zip_tl, sq2_t, sq2_l, bi_len, bi_min, bi_max, bi_sum, bi_all, bi_any, bi_int, bi_str, bi_tuple, bi_list, bi_sorted, opB_add, opB_sub, opB_mul, opB_div, opB_mod, opC_eq, opC_ne, opC_lt, opC_le, opC_gt, opC_ge, opC_is, opC_isn, opC_isb, opC_isnb, opC_in, opC_nin, isN_n, isN_i, nI, biMin2, biMax2, opEq_nI, ixW0, ixW1, ix_e0, ix_e1, ix_e2, tup_e, decide_eq_true_eq, fd35, encO, bth]
      congr 1
def encP (p : Nat × Nat) : D := .tuple [nI p.1, nI p.2]
theorem bindT_P {i j : Nat} {p : Nat × Nat} {env : En} : bindT [i, j] (encP p) env = some ((env.set i (.val (nI p.1))).set j (.val (nI p.2))) := rfl
theorem bindT_T {i j k : Nat} {t : T3} {env : En} : bindT [i, j, k] (encT t) env = some (((env.set i (.val (nI t.1))).set j (.val (nI t.2.1))).set k (.val (nI t.2.2))) := rfl
theorem all_far (n : Nat) {w : Web} (hw : Wl w) {a : Nat} (ha : a < w.many) : Ph (n + 1) 33 [encW w, .int a] = some (encR (far w a)) := by
  show evF (Ph n) fd33 [encW w, .int a] = _
  rw [← o1_eq, ef_of rfl]
  have hh := hw.hi
  have hsz : ∀ f : Row, f.length = w.many → (f.map encO).length = w.many := fun f h => by rw [List.length_map]; exact h
  simp only [o1_some, o1_none, o1_map, o1_if, o1_test, ev_var, ev_bv, ev_cn, ev_cb, ev_ci, ev_cs, ev_bin, ev_neg, ev_nt, ev_cmp, ev_cmp2, ev_an, ev_or, ev_tup, ev_lst, ev_call, ev_bi, ev_isi, ev_ix, ev_sl, ev_rev, ev_rgL, ev_rgT, ev_lset, ev_sset, ev_comp, ev_join, ev_split, ea_nil, ea_cons, eo_nil, ec_nil, ei_rg, ei_zip, ei_enum, nxt_nx, nxt_rt, es_set, es_setO, es_unp, es_par, es_app, es_sti, es_ifs, es_for, es_skip, es_seq, es_retv, turn_of, forB_of, bindT1, bindT2, bindEach, wipeE, getV, getB, start0, List.length_cons, List.length_nil, List.getElem?_cons_zero, List.getElem?_cons_succ, List.set_cons_zero, List.set_cons_succ, List.cons_append, List.nil_append, List.replicate_succ, List.replicate_zero, if_true, if_false, reduceIte, Nat.reduceAdd, Nat.reduceSub, Nat.reduceLeDiff, Bool.false_eq_true, Bool.true_eq_false, Bool.not_true, Bool.not_false, reduceCtorEq, Nat.zero_add, true_and, and_true, ei_var, ei_bv, ei_ix, ei_call, ei_bi, ei_tup, ei_lst, ei_comp, ei_rev, ei_bin, ei_rgL, ei_rgT, ei_sset, ei_sl, ei_split, ec_cmp, ec_cmp2, ec_an, ec_or, ec_nt, ec_call, ec_isi, ec_bv, ec_var, ec_bi, ec_cb, eo_ci, eo_bv, eo_var, eo_neg, eo_bin, eo_bi, eo_ix, eo_call, er_bv, er_ix, er_call, er_bi, er_tup, er_lst, er_comp, er_rev, er_bin, er_rgL, er_rgT, er_sset, er_lset, er_sl, er_split, er_join, er_cmp, er_cmp2, er_an, er_or, er_nt, er_isi, er_ci, er_cb, er_cn, er_cs, er_neg, valS_val, valS_own, retD_rt, retD_nx, boolD_b, intD_i, listD_l, tupD_t, ownS_o, items_l, items_t, isi_b, isi_i, isi_n, isi_ii, isi_tt, len_l, len_t, tu_l, tu_t, li_l, li_t, int_b, add_i, add_l, add_t, sub_i, opI_i, rev_l, rev_t, sl_l, sl_t, zip_t, zip_l, zip_tl, sq2_t, sq2_l, bi_len, bi_min, bi_max, bi_sum, bi_all, bi_any, bi_int, bi_str, bi_tuple, bi_list, bi_sorted, opB_add, opB_sub, opB_mul, opB_div, opB_mod, opC_eq, opC_ne, opC_lt, opC_le, opC_gt, opC_ge, opC_is, opC_isn, opC_isb, opC_isnb, opC_in, opC_nin, isN_n, isN_i, nI, biMin2, biMax2, opEq_nI, ixW0, ixW1, ix_e0, ix_e1, ix_e2, tup_e, decide_eq_true_eq, fd33, mul_none (show w.many ≤ 1000 by omega), List.length_replicate, ixN_nat ha, rg_nI (show w.many ≤ 100000 by omega)]
  have e0 : (List.replicate w.many PyData.none).set a (.int 0) = (far0 w a).map encO := by
    unfold far0
    rw [← set_O (o := some 0), List.map_replicate]
    rfl
  rw [e0]
  refine for_fold (e := nI) (b := far0 w a) (fun f env => f.length = w.many ∧ ∃ s3 s4 s5 s6 s7 s8, env = [.val (encW w), .val (.int a), .own (f.map encO), s3, s4, s5, s6, s7, s8]) (fun f _ => farR w f) ⟨by unfold far0; simp, _, _, _, _, _, _, rfl⟩ (fun f st env _ hI => ?_) (fun env hI => ?_)
  · obtain ⟨hl, s3, s4, s5, s6, s7, s8, rfl⟩ := hI
    simp only [o1_some, o1_none, o1_map, o1_if, o1_test, ev_var, ev_bv, ev_cn, ev_cb, ev_ci, ev_cs, ev_bin, ev_neg, ev_nt, ev_cmp, ev_cmp2, ev_an, ev_or, ev_tup, ev_lst, ev_call, ev_bi, ev_isi, ev_ix, ev_sl, ev_rev, ev_rgL, ev_rgT, ev_lset, ev_sset, ev_comp, ev_join, ev_split, ea_nil, ea_cons, eo_nil, ec_nil, ei_rg, ei_zip, ei_enum, nxt_nx, nxt_rt, es_set, es_setO, es_unp, es_par, es_app, es_sti, es_ifs, es_for, es_skip, es_seq, es_retv, turn_of, forB_of, bindT1, bindT2, bindEach, wipeE, getV, getB, start0, List.length_cons, List.length_nil, List.getElem?_cons_zero, List.getElem?_cons_succ, List.set_cons_zero, List.set_cons_succ, List.cons_append, List.nil_append, List.replicate_succ, List.replicate_zero, if_true, if_false, reduceIte, Nat.reduceAdd, Nat.reduceSub, Nat.reduceLeDiff, Bool.false_eq_true, Bool.true_eq_false, Bool.not_true, Bool.not_false, reduceCtorEq, Nat.zero_add, true_and, and_true, ei_var, ei_bv, ei_ix, ei_call, ei_bi, ei_tup, ei_lst, ei_comp, ei_rev, ei_bin, ei_rgL, ei_rgT, ei_sset, ei_sl, ei_split, ec_cmp, ec_cmp2, ec_an, ec_or, ec_nt, ec_call, ec_isi, ec_bv, ec_var, ec_bi, ec_cb, eo_ci, eo_bv, eo_var, eo_neg, eo_bin, eo_bi, eo_ix, eo_call, er_bv, er_ix, er_call, er_bi, er_tup, er_lst, er_comp, er_rev, er_bin, er_rgL, er_rgT, er_sset, er_lset, er_sl, er_split, er_join, er_cmp, er_cmp2, er_an, er_or, er_nt, er_isi, er_ci, er_cb, er_cn, er_cs, er_neg, valS_val, valS_own, retD_rt, retD_nx, boolD_b, intD_i, listD_l, tupD_t, ownS_o, items_l, items_t, isi_b, isi_i, isi_n, isi_ii, isi_tt, len_l, len_t, tu_l, tu_t, li_l, li_t, int_b, add_i, add_l, add_t, sub_i, opI_i, rev_l, rev_t, sl_l, sl_t, zip_t, zip_l, zip_tl, sq2_t, sq2_l, bi_len, bi_min, bi_max, bi_sum, bi_all, bi_any, bi_int, bi_str, bi_tuple, bi_list, bi_sorted, opB_add, opB_sub, opB_mul, opB_div, opB_mod, opC_eq, opC_ne, opC_lt, opC_le, opC_gt, opC_ge, opC_is, opC_isn, opC_isb, opC_isnb, opC_in, opC_nin, isN_n, isN_i, nI, biMin2, biMax2, opEq_nI, ixW0, ixW1, ix_e0, ix_e1, ix_e2, tup_e, decide_eq_true_eq]
    refine for_fold (e := encT) (b := f) (fun f env => f.length = w.many ∧ ∃ s4 s5 s6 s7 s8, env = [.val (encW w), .val (.int a), .own (f.map encO), .val (nI st), s4, s5, s6, s7, s8]) far1 ⟨hl, _, _, _, _, _, rfl⟩ (fun f t env ht hI => ?_) (fun env hI => ?_)
    · obtain ⟨hl, s4, s5, s6, s7, s8, rfl⟩ := hI
      have ok := hw.ok t ht
      simp only [o1_some, o1_none, o1_map, o1_if, o1_test, ev_var, ev_bv, ev_cn, ev_cb, ev_ci, ev_cs, ev_bin, ev_neg, ev_nt, ev_cmp, ev_cmp2, ev_an, ev_or, ev_tup, ev_lst, ev_call, ev_bi, ev_isi, ev_ix, ev_sl, ev_rev, ev_rgL, ev_rgT, ev_lset, ev_sset, ev_comp, ev_join, ev_split, ea_nil, ea_cons, eo_nil, ec_nil, ei_rg, ei_zip, ei_enum, nxt_nx, nxt_rt, es_set, es_setO, es_unp, es_par, es_app, es_sti, es_ifs, es_for, es_skip, es_seq, es_retv, turn_of, forB_of, bindT1, bindT2, bindEach, wipeE, getV, getB, start0, List.length_cons, List.length_nil, List.getElem?_cons_zero, List.getElem?_cons_succ, List.set_cons_zero, List.set_cons_succ, List.cons_append, List.nil_append, List.replicate_succ, List.replicate_zero, if_true, if_false, reduceIte, Nat.reduceAdd, Nat.reduceSub, Nat.reduceLeDiff, Bool.false_eq_true, Bool.true_eq_false, Bool.not_true, Bool.not_false, reduceCtorEq, Nat.zero_add, true_and, and_true, ei_var, ei_bv, ei_ix, ei_call, ei_bi, ei_tup, ei_lst, ei_comp, ei_rev, ei_bin, ei_rgL, ei_rgT, ei_sset, ei_sl, ei_split, ec_cmp, ec_cmp2, ec_an, ec_or, ec_nt, ec_call, ec_isi, ec_bv, ec_var, ec_bi, ec_cb, eo_ci, eo_bv, eo_var, eo_neg, eo_bin, eo_bi, eo_ix, eo_call, er_bv, er_ix, er_call, er_bi, er_tup, er_lst, er_comp, er_rev, er_bin, er_rgL, er_rgT, er_sset, er_lset, er_sl, er_split, er_join, er_cmp, er_cmp2, er_an, er_or, er_nt, er_isi, er_ci, er_cb, er_cn, er_cs, er_neg, valS_val, valS_own, retD_rt, retD_nx, boolD_b, intD_i, listD_l, tupD_t, ownS_o, items_l, items_t, isi_b, isi_i, isi_n, isi_ii, isi_tt, len_l, len_t, tu_l, tu_t, li_l, li_t, int_b, add_i, add_l, add_t, sub_i, opI_i, rev_l, rev_t, sl_l, sl_t, zip_t, zip_l, zip_tl, sq2_t, sq2_l, bi_len, bi_min, bi_max, bi_sum, bi_all, bi_any, bi_int, bi_str, bi_tuple, bi_list, bi_sorted, opB_add, opB_sub, opB_mul, opB_div, opB_mod, opC_eq, opC_ne, opC_lt, opC_le, opC_gt, opC_ge, opC_is, opC_isn, opC_isb, opC_isnb, opC_in, opC_nin, isN_n, isN_i, nI, biMin2, biMax2, opEq_nI, ixW0, ixW1, ix_e0, ix_e1, ix_e2, tup_e, decide_eq_true_eq, bindT_T]
      show O1 (forL _ ([(t.1, t.2.1), (t.2.1, t.1)].map encP) _) _
      refine for_fold (e := encP) (b := f) (fun f env => f.length = w.many ∧ ∃ s7 s8, env = [.val (encW w), .val (.int a), .own (f.map encO), .val (nI st), .val (nI t.1), .val (nI t.2.1), .val (nI t.2.2), s7, s8]) (fun f p => rlx f p.1 p.2 t.2.2) ⟨hl, _, _, rfl⟩ (fun f p env hp hI => ?_) (fun env hI => ?_)
      · obtain ⟨hl, s7, s8, rfl⟩ := hI
        have hp12 : p.1 < f.length ∧ p.2 < f.length := by
          simp at hp
          rcases hp with rfl | rfl <;> (constructor <;> omega)
        simp only [o1_some, o1_none, o1_map, o1_if, o1_test, ev_var, ev_bv, ev_cn, ev_cb, ev_ci, ev_cs, ev_bin, ev_neg, ev_nt, ev_cmp, ev_cmp2, ev_an, ev_or, ev_tup, ev_lst, ev_call, ev_bi, ev_isi, ev_ix, ev_sl, ev_rev, ev_rgL, ev_rgT, ev_lset, ev_sset, ev_comp, ev_join, ev_split, ea_nil, ea_cons, eo_nil, ec_nil, ei_rg, ei_zip, ei_enum, nxt_nx, nxt_rt, es_set, es_setO, es_unp, es_par, es_app, es_sti, es_ifs, es_for, es_skip, es_seq, es_retv, turn_of, forB_of, bindT1, bindT2, bindEach, wipeE, getV, getB, start0, List.length_cons, List.length_nil, List.getElem?_cons_zero, List.getElem?_cons_succ, List.set_cons_zero, List.set_cons_succ, List.cons_append, List.nil_append, List.replicate_succ, List.replicate_zero, if_true, if_false, reduceIte, Nat.reduceAdd, Nat.reduceSub, Nat.reduceLeDiff, Bool.false_eq_true, Bool.true_eq_false, Bool.not_true, Bool.not_false, reduceCtorEq, Nat.zero_add, true_and, and_true, ei_var, ei_bv, ei_ix, ei_call, ei_bi, ei_tup, ei_lst, ei_comp, ei_rev, ei_bin, ei_rgL, ei_rgT, ei_sset, ei_sl, ei_split, ec_cmp, ec_cmp2, ec_an, ec_or, ec_nt, ec_call, ec_isi, ec_bv, ec_var, ec_bi, ec_cb, eo_ci, eo_bv, eo_var, eo_neg, eo_bin, eo_bi, eo_ix, eo_call, er_bv, er_ix, er_call, er_bi, er_tup, er_lst, er_comp, er_rev, er_bin, er_rgL, er_rgT, er_sset, er_lset, er_sl, er_split, er_join, er_cmp, er_cmp2, er_an, er_or, er_nt, er_isi, er_ci, er_cb, er_cn, er_cs, er_neg, valS_val, valS_own, retD_rt, retD_nx, boolD_b, intD_i, listD_l, tupD_t, ownS_o, items_l, items_t, isi_b, isi_i, isi_n, isi_ii, isi_tt, len_l, len_t, tu_l, tu_t, li_l, li_t, int_b, add_i, add_l, add_t, sub_i, opI_i, rev_l, rev_t, sl_l, sl_t, zip_t, zip_l, zip_tl, sq2_t, sq2_l, bi_len, bi_min, bi_max, bi_sum, bi_all, bi_any, bi_int, bi_str, bi_tuple, bi_list, bi_sorted, opB_add, opB_sub, opB_mul, opB_div, opB_mod, opC_eq, opC_ne, opC_lt, opC_le, opC_gt, opC_ge, opC_is, opC_isn, opC_isb, opC_isnb, opC_in, opC_nin, isN_n, isN_i, nI, biMin2, biMax2, opEq_nI, ixW0, ixW1, ix_e0, ix_e1, ix_e2, tup_e, decide_eq_true_eq, bindT_P, ix_O hp12.1, ix_O hp12.2, isN_O]
        have hxl : (rlx f p.1 p.2 t.2.2).length = w.many := by rw [rlx_len]; exact hl
        cases e1 : at_ f p.1 with
        | none =>
          have er : rlx f p.1 p.2 t.2.2 = f := by
            unfold rlx
            rw [e1]
            have : lsr (at_ f p.2) (bth none (some t.2.2)) = at_ f p.2 := by cases at_ f p.2 <;> rfl
            rw [this]
            unfold at_
            rw [List.getD_eq_getElem?_getD, List.getElem?_eq_getElem hp12.2]
            exact List.set_getElem_self _
          simp only [o1_some, o1_none, o1_map, o1_if, o1_test, ev_var, ev_bv, ev_cn, ev_cb, ev_ci, ev_cs, ev_bin, ev_neg, ev_nt, ev_cmp, ev_cmp2, ev_an, ev_or, ev_tup, ev_lst, ev_call, ev_bi, ev_isi, ev_ix, ev_sl, ev_rev, ev_rgL, ev_rgT, ev_lset, ev_sset, ev_comp, ev_join, ev_split, ea_nil, ea_cons, eo_nil, ec_nil, ei_rg, ei_zip, ei_enum, nxt_nx, nxt_rt, es_set, es_setO, es_unp, es_par, es_app, es_sti, es_ifs, es_for, es_skip, es_seq, es_retv, turn_of, forB_of, bindT1, bindT2, bindEach, wipeE, getV, getB, start0, List.length_cons, List.length_nil, List.getElem?_cons_zero, List.getElem?_cons_succ, List.set_cons_zero, List.set_cons_succ, List.cons_append, List.nil_append, List.replicate_succ, List.replicate_zero, if_true, if_false, reduceIte, Nat.reduceAdd, Nat.reduceSub, Nat.reduceLeDiff, Bool.false_eq_true, Bool.true_eq_false, Bool.not_true, Bool.not_false, reduceCtorEq, Nat.zero_add, true_and, and_true, ei_var, ei_bv, ei_ix, ei_call, ei_bi, ei_tup, ei_lst, ei_comp, ei_rev, ei_bin, ei_rgL, ei_rgT, ei_sset, ei_sl, ei_split, ec_cmp, ec_cmp2, ec_an, ec_or, ec_nt, ec_call, ec_isi, ec_bv, ec_var, ec_bi, ec_cb, eo_ci, eo_bv, eo_var, eo_neg, eo_bin, eo_bi, eo_ix, eo_call, er_bv, er_ix, er_call, er_bi, er_tup, er_lst, er_comp, er_rev, er_bin, er_rgL, er_rgT, er_sset, er_lset, er_sl, er_split, er_join, er_cmp, er_cmp2, er_an, er_or, er_nt, er_isi, er_ci, er_cb, er_cn, er_cs, er_neg, valS_val, valS_own, retD_rt, retD_nx, boolD_b, intD_i, listD_l, tupD_t, ownS_o, items_l, items_t, isi_b, isi_i, isi_n, isi_ii, isi_tt, len_l, len_t, tu_l, tu_t, li_l, li_t, int_b, add_i, add_l, add_t, sub_i, opI_i, rev_l, rev_t, sl_l, sl_t, zip_t, zip_l, zip_tl, sq2_t, sq2_l, bi_len, bi_min, bi_max, bi_sum, bi_all, bi_any, bi_int, bi_str, bi_tuple, bi_list, bi_sorted, opB_add, opB_sub, opB_mul, opB_div, opB_mod, opC_eq, opC_ne, opC_lt, opC_le, opC_gt, opC_ge, opC_is, opC_isn, opC_isb, opC_isnb, opC_in, opC_nin, isN_n, isN_i, nI, biMin2, biMax2, opEq_nI, ixW0, ixW1, ix_e0, ix_e1, ix_e2, tup_e, decide_eq_true_eq, Option.isNone_none, er]
          exact ⟨hl, _, _, rfl⟩
        | some x =>
          cases e2 : at_ f p.2 with
          | none =>
            have er : rlx f p.1 p.2 t.2.2 = f.set p.2 (some (x + t.2.2)) := by
              unfold rlx
              rw [e1, e2]
              rfl
            simp only [o1_some, o1_none, o1_map, o1_if, o1_test, ev_var, ev_bv, ev_cn, ev_cb, ev_ci, ev_cs, ev_bin, ev_neg, ev_nt, ev_cmp, ev_cmp2, ev_an, ev_or, ev_tup, ev_lst, ev_call, ev_bi, ev_isi, ev_ix, ev_sl, ev_rev, ev_rgL, ev_rgT, ev_lset, ev_sset, ev_comp, ev_join, ev_split, ea_nil, ea_cons, eo_nil, ec_nil, ei_rg, ei_zip, ei_enum, nxt_nx, nxt_rt, es_set, es_setO, es_unp, es_par, es_app, es_sti, es_ifs, es_for, es_skip, es_seq, es_retv, turn_of, forB_of, bindT1, bindT2, bindEach, wipeE, getV, getB, start0, List.length_cons, List.length_nil, List.getElem?_cons_zero, List.getElem?_cons_succ, List.set_cons_zero, List.set_cons_succ, List.cons_append, List.nil_append, List.replicate_succ, List.replicate_zero, if_true, if_false, reduceIte, Nat.reduceAdd, Nat.reduceSub, Nat.reduceLeDiff, Bool.false_eq_true, Bool.true_eq_false, Bool.not_true, Bool.not_false, reduceCtorEq, Nat.zero_add, true_and, and_true, ei_var, ei_bv, ei_ix, ei_call, ei_bi, ei_tup, ei_lst, ei_comp, ei_rev, ei_bin, ei_rgL, ei_rgT, ei_sset, ei_sl, ei_split, ec_cmp, ec_cmp2, ec_an, ec_or, ec_nt, ec_call, ec_isi, ec_bv, ec_var, ec_bi, ec_cb, eo_ci, eo_bv, eo_var, eo_neg, eo_bin, eo_bi, eo_ix, eo_call, er_bv, er_ix, er_call, er_bi, er_tup, er_lst, er_comp, er_rev, er_bin, er_rgL, er_rgT, er_sset, er_lset, er_sl, er_split, er_join, er_cmp, er_cmp2, er_an, er_or, er_nt, er_isi, er_ci, er_cb, er_cn, er_cs, er_neg, valS_val, valS_own, retD_rt, retD_nx, boolD_b, intD_i, listD_l, tupD_t, ownS_o, items_l, items_t, isi_b, isi_i, isi_n, isi_ii, isi_tt, len_l, len_t, tu_l, tu_t, li_l, li_t, int_b, add_i, add_l, add_t, sub_i, opI_i, rev_l, rev_t, sl_l, sl_t, zip_t, zip_l, zip_tl, sq2_t, sq2_l, bi_len, bi_min, bi_max, bi_sum, bi_all, bi_any, bi_int, bi_str, bi_tuple, bi_list, bi_sorted, opB_add, opB_sub, opB_mul, opB_div, opB_mod, opC_eq, opC_ne, opC_lt, opC_le, opC_gt, opC_ge, opC_is, opC_isn, opC_isb, opC_isnb, opC_in, opC_nin, isN_n, isN_i, nI, biMin2, biMax2, opEq_nI, ixW0, ixW1, ix_e0, ix_e1, ix_e2, tup_e, decide_eq_true_eq, Option.isNone_none, Option.isNone_some, ix_O hp12.1, e1, encO, List.length_map, ixN_nat hp12.2, er]
            rw [show (PyData.int (↑x + ↑t.2.2)) = encO (some (x + t.2.2)) by simp [encO], set_O]
            exact ⟨by rw [← er]; exact hxl, _, _, rfl⟩
          | some y =>
            by_cases hlt : x + t.2.2 < y
            · have er : rlx f p.1 p.2 t.2.2 = f.set p.2 (some (x + t.2.2)) := by
                unfold rlx
                rw [e1, e2]
                simp only [lsr, bth, hlt, if_true]
              simp only [o1_some, o1_none, o1_map, o1_if, o1_test, ev_var, ev_bv, ev_cn, ev_cb, ev_ci, ev_cs, ev_bin, ev_neg, ev_nt, ev_cmp, ev_cmp2, ev_an, ev_or, ev_tup, ev_lst, ev_call, ev_bi, ev_isi, ev_ix, ev_sl, ev_rev, ev_rgL, ev_rgT, ev_lset, ev_sset, ev_comp, ev_join, ev_split, ea_nil, ea_cons, eo_nil, ec_nil, ei_rg, ei_zip, ei_enum, nxt_nx, nxt_rt, es_set, es_setO, es_unp, es_par, es_app, es_sti, es_ifs, es_for, es_skip, es_seq, es_retv, turn_of, forB_of, bindT1, bindT2, bindEach, wipeE, getV, getB, start0, List.length_cons, List.length_nil, List.getElem?_cons_zero, List.getElem?_cons_succ, List.set_cons_zero, List.set_cons_succ, List.cons_append, List.nil_append, List.replicate_succ, List.replicate_zero, if_true, if_false, reduceIte, Nat.reduceAdd, Nat.reduceSub, Nat.reduceLeDiff, Bool.false_eq_true, Bool.true_eq_false, Bool.not_true, Bool.not_false, reduceCtorEq, Nat.zero_add, true_and, and_true, ei_var, ei_bv, ei_ix, ei_call, ei_bi, ei_tup, ei_lst, ei_comp, ei_rev, ei_bin, ei_rgL, ei_rgT, ei_sset, ei_sl, ei_split, ec_cmp, ec_cmp2, ec_an, ec_or, ec_nt, ec_call, ec_isi, ec_bv, ec_var, ec_bi, ec_cb, eo_ci, eo_bv, eo_var, eo_neg, eo_bin, eo_bi, eo_ix, eo_call, er_bv, er_ix, er_call, er_bi, er_tup, er_lst, er_comp, er_rev, er_bin, er_rgL, er_rgT, er_sset, er_lset, er_sl, er_split, er_join, er_cmp, er_cmp2, er_an, er_or, er_nt, er_isi, er_ci, er_cb, er_cn, er_cs, er_neg, valS_val, valS_own, retD_rt, retD_nx, boolD_b, intD_i, listD_l, tupD_t, ownS_o, items_l, items_t, isi_b, isi_i, isi_n, isi_ii, isi_tt, len_l, len_t, tu_l, tu_t, li_l, li_t, int_b, add_i, add_l, add_t, sub_i, opI_i, rev_l, rev_t, sl_l, sl_t, zip_t, zip_l, zip_tl, sq2_t, sq2_l, bi_len, bi_min, bi_max, bi_sum, bi_all, bi_any, bi_int, bi_str, bi_tuple, bi_list, bi_sorted, opB_add, opB_sub, opB_mul, opB_div, opB_mod, opC_eq, opC_ne, opC_lt, opC_le, opC_gt, opC_ge, opC_is, opC_isn, opC_isb, opC_isnb, opC_in, opC_nin, isN_n, isN_i, nI, biMin2, biMax2, opEq_nI, ixW0, ixW1, ix_e0, ix_e1, ix_e2, tup_e, decide_eq_true_eq, Option.isNone_none, Option.isNone_some, encO, show ((x : Int) + t.2.2) < y by omega, decide_true, ix_O hp12.1, e1, List.length_map, ixN_nat hp12.2, er]
              rw [show (PyData.int (↑x + ↑t.2.2)) = encO (some (x + t.2.2)) by simp [encO], set_O]
              exact ⟨by rw [← er]; exact hxl, _, _, rfl⟩
            · have er : rlx f p.1 p.2 t.2.2 = f := by
                unfold rlx
                rw [e1, e2]
                simp only [lsr, bth, hlt, if_false]
                have := e2
                unfold at_ at this
                rw [List.getD_eq_getElem?_getD, List.getElem?_eq_getElem hp12.2] at this
                rw [← show f[p.2] = some y from this]
                exact List.set_getElem_self _
              simp only [o1_some, o1_none, o1_map, o1_if, o1_test, ev_var, ev_bv, ev_cn, ev_cb, ev_ci, ev_cs, ev_bin, ev_neg, ev_nt, ev_cmp, ev_cmp2, ev_an, ev_or, ev_tup, ev_lst, ev_call, ev_bi, ev_isi, ev_ix, ev_sl, ev_rev, ev_rgL, ev_rgT, ev_lset, ev_sset, ev_comp, ev_join, ev_split, ea_nil, ea_cons, eo_nil, ec_nil, ei_rg, ei_zip, ei_enum, nxt_nx, nxt_rt, es_set, es_setO, es_unp, es_par, es_app, es_sti, es_ifs, es_for, es_skip, es_seq, es_retv, turn_of, forB_of, bindT1, bindT2, bindEach, wipeE, getV, getB, start0, List.length_cons, List.length_nil, List.getElem?_cons_zero, List.getElem?_cons_succ, List.set_cons_zero, List.set_cons_succ, List.cons_append, List.nil_append, List.replicate_succ, List.replicate_zero, if_true, if_false, reduceIte, Nat.reduceAdd, Nat.reduceSub, Nat.reduceLeDiff, Bool.false_eq_true, Bool.true_eq_false, Bool.not_true, Bool.not_false, reduceCtorEq, Nat.zero_add, true_and, and_true, ei_var, ei_bv, ei_ix, ei_call, ei_bi, ei_tup, ei_lst, ei_comp, ei_rev, ei_bin, ei_rgL, ei_rgT, ei_sset, ei_sl, ei_split, ec_cmp, ec_cmp2, ec_an, ec_or, ec_nt, ec_call, ec_isi, ec_bv, ec_var, ec_bi, ec_cb, eo_ci, eo_bv, eo_var, eo_neg, eo_bin, eo_bi, eo_ix, eo_call, er_bv, er_ix, er_call, er_bi, er_tup, er_lst, er_comp, er_rev, er_bin, er_rgL, er_rgT, er_sset, er_lset, er_sl, er_split, er_join, er_cmp, er_cmp2, er_an, er_or, er_nt, er_isi, er_ci, er_cb, er_cn, er_cs, er_neg, valS_val, valS_own, retD_rt, retD_nx, boolD_b, intD_i, listD_l, tupD_t, ownS_o, items_l, items_t, isi_b, isi_i, isi_n, isi_ii, isi_tt, len_l, len_t, tu_l, tu_t, li_l, li_t, int_b, add_i, add_l, add_t, sub_i, opI_i, rev_l, rev_t, sl_l, sl_t, zip_t, zip_l, zip_tl, sq2_t, sq2_l, bi_len, bi_min, bi_max, bi_sum, bi_all, bi_any, bi_int, bi_str, bi_tuple, bi_list, bi_sorted, opB_add, opB_sub, opB_mul, opB_div, opB_mod, opC_eq, opC_ne, opC_lt, opC_le, opC_gt, opC_ge, opC_is, opC_isn, opC_isb, opC_isnb, opC_in, opC_nin, isN_n, isN_i, nI, biMin2, biMax2, opEq_nI, ixW0, ixW1, ix_e0, ix_e1, ix_e2, tup_e, decide_eq_true_eq, Option.isNone_none, Option.isNone_some, encO, show ¬ ((x : Int) + t.2.2) < y by omega, decide_false, er]
              exact ⟨hl, _, _, rfl⟩
      · obtain ⟨hl, s7, s8, rfl⟩ := hI
        simp only [o1_some, o1_none, o1_map, o1_if, o1_test, ev_var, ev_bv, ev_cn, ev_cb, ev_ci, ev_cs, ev_bin, ev_neg, ev_nt, ev_cmp, ev_cmp2, ev_an, ev_or, ev_tup, ev_lst, ev_call, ev_bi, ev_isi, ev_ix, ev_sl, ev_rev, ev_rgL, ev_rgT, ev_lset, ev_sset, ev_comp, ev_join, ev_split, ea_nil, ea_cons, eo_nil, ec_nil, ei_rg, ei_zip, ei_enum, nxt_nx, nxt_rt, es_set, es_setO, es_unp, es_par, es_app, es_sti, es_ifs, es_for, es_skip, es_seq, es_retv, turn_of, forB_of, bindT1, bindT2, bindEach, wipeE, getV, getB, start0, List.length_cons, List.length_nil, List.getElem?_cons_zero, List.getElem?_cons_succ, List.set_cons_zero, List.set_cons_succ, List.cons_append, List.nil_append, List.replicate_succ, List.replicate_zero, if_true, if_false, reduceIte, Nat.reduceAdd, Nat.reduceSub, Nat.reduceLeDiff, Bool.false_eq_true, Bool.true_eq_false, Bool.not_true, Bool.not_false, reduceCtorEq, Nat.zero_add, true_and, and_true, ei_var, ei_bv, ei_ix, ei_call, ei_bi, ei_tup, ei_lst, ei_comp, ei_rev, ei_bin, ei_rgL, ei_rgT, ei_sset, ei_sl, ei_split, ec_cmp, ec_cmp2, ec_an, ec_or, ec_nt, ec_call, ec_isi, ec_bv, ec_var, ec_bi, ec_cb, eo_ci, eo_bv, eo_var, eo_neg, eo_bin, eo_bi, eo_ix, eo_call, er_bv, er_ix, er_call, er_bi, er_tup, er_lst, er_comp, er_rev, er_bin, er_rgL, er_rgT, er_sset, er_lset, er_sl, er_split, er_join, er_cmp, er_cmp2, er_an, er_or, er_nt, er_isi, er_ci, er_cb, er_cn, er_cs, er_neg, valS_val, valS_own, retD_rt, retD_nx, boolD_b, intD_i, listD_l, tupD_t, ownS_o, items_l, items_t, isi_b, isi_i, isi_n, isi_ii, isi_tt, len_l, len_t, tu_l, tu_t, li_l, li_t, int_b, add_i, add_l, add_t, sub_i, opI_i, rev_l, rev_t, sl_l, sl_t, zip_t, zip_l, zip_tl, sq2_t, sq2_l, bi_len, bi_min, bi_max, bi_sum, bi_all, bi_any, bi_int, bi_str, bi_tuple, bi_list, bi_sorted, opB_add, opB_sub, opB_mul, opB_div, opB_mod, opC_eq, opC_ne, opC_lt, opC_le, opC_gt, opC_ge, opC_is, opC_isn, opC_isb, opC_isnb, opC_in, opC_nin, isN_n, isN_i, nI, biMin2, biMax2, opEq_nI, ixW0, ixW1, ix_e0, ix_e1, ix_e2, tup_e, decide_eq_true_eq]
        exact ⟨hl, _, _, _, _, _, rfl⟩
    · obtain ⟨hl, s4, s5, s6, s7, s8, rfl⟩ := hI
      simp only [o1_some, o1_none, o1_map, o1_if, o1_test, ev_var, ev_bv, ev_cn, ev_cb, ev_ci, ev_cs, ev_bin, ev_neg, ev_nt, ev_cmp, ev_cmp2, ev_an, ev_or, ev_tup, ev_lst, ev_call, ev_bi, ev_isi, ev_ix, ev_sl, ev_rev, ev_rgL, ev_rgT, ev_lset, ev_sset, ev_comp, ev_join, ev_split, ea_nil, ea_cons, eo_nil, ec_nil, ei_rg, ei_zip, ei_enum, nxt_nx, nxt_rt, es_set, es_setO, es_unp, es_par, es_app, es_sti, es_ifs, es_for, es_skip, es_seq, es_retv, turn_of, forB_of, bindT1, bindT2, bindEach, wipeE, getV, getB, start0, List.length_cons, List.length_nil, List.getElem?_cons_zero, List.getElem?_cons_succ, List.set_cons_zero, List.set_cons_succ, List.cons_append, List.nil_append, List.replicate_succ, List.replicate_zero, if_true, if_false, reduceIte, Nat.reduceAdd, Nat.reduceSub, Nat.reduceLeDiff, Bool.false_eq_true, Bool.true_eq_false, Bool.not_true, Bool.not_false, reduceCtorEq, Nat.zero_add, true_and, and_true, ei_var, ei_bv, ei_ix, ei_call, ei_bi, ei_tup, ei_lst, ei_comp, ei_rev, ei_bin, ei_rgL, ei_rgT, ei_sset, ei_sl, ei_split, ec_cmp, ec_cmp2, ec_an, ec_or, ec_nt, ec_call, ec_isi, ec_bv, ec_var, ec_bi, ec_cb, eo_ci, eo_bv, eo_var, eo_neg, eo_bin, eo_bi, eo_ix, eo_call, er_bv, er_ix, er_call, er_bi, er_tup, er_lst, er_comp, er_rev, er_bin, er_rgL, er_rgT, er_sset, er_lset, er_sl, er_split, er_join, er_cmp, er_cmp2, er_an, er_or, er_nt, er_isi, er_ci, er_cb, er_cn, er_cs, er_neg, valS_val, valS_own, retD_rt, retD_nx, boolD_b, intD_i, listD_l, tupD_t, ownS_o, items_l, items_t, isi_b, isi_i, isi_n, isi_ii, isi_tt, len_l, len_t, tu_l, tu_t, li_l, li_t, int_b, add_i, add_l, add_t, sub_i, opI_i, rev_l, rev_t, sl_l, sl_t, zip_t, zip_l, zip_tl, sq2_t, sq2_l, bi_len, bi_min, bi_max, bi_sum, bi_all, bi_any, bi_int, bi_str, bi_tuple, bi_list, bi_sorted, opB_add, opB_sub, opB_mul, opB_div, opB_mod, opC_eq, opC_ne, opC_lt, opC_le, opC_gt, opC_ge, opC_is, opC_isn, opC_isb, opC_isnb, opC_in, opC_nin, isN_n, isN_i, nI, biMin2, biMax2, opEq_nI, ixW0, ixW1, ix_e0, ix_e1, ix_e2, tup_e, decide_eq_true_eq]
      exact ⟨hl, _, _, _, _, _, _, rfl⟩
  · obtain ⟨hl, s3, s4, s5, s6, s7, s8, rfl⟩ := hI
    rw [nxt_nx, o1_of (es_shr rfl)]
    simp only [o1_some, o1_none, o1_map, o1_if, o1_test, ev_var, ev_bv, ev_cn, ev_cb, ev_ci, ev_cs, ev_bin, ev_neg, ev_nt, ev_cmp, ev_cmp2, ev_an, ev_or, ev_tup, ev_lst, ev_call, ev_bi, ev_isi, ev_ix, ev_sl, ev_rev, ev_rgL, ev_rgT, ev_lset, ev_sset, ev_comp, ev_join, ev_split, ea_nil, ea_cons, eo_nil, ec_nil, ei_rg, ei_zip, ei_enum, nxt_nx, nxt_rt, es_set, es_setO, es_unp, es_par, es_app, es_sti, es_ifs, es_for, es_skip, es_seq, es_retv, turn_of, forB_of, bindT1, bindT2, bindEach, wipeE, getV, getB, start0, List.length_cons, List.length_nil, List.getElem?_cons_zero, List.getElem?_cons_succ, List.set_cons_zero, List.set_cons_succ, List.cons_append, List.nil_append, List.replicate_succ, List.replicate_zero, if_true, if_false, reduceIte, Nat.reduceAdd, Nat.reduceSub, Nat.reduceLeDiff, Bool.false_eq_true, Bool.true_eq_false, Bool.not_true, Bool.not_false, reduceCtorEq, Nat.zero_add, true_and, and_true, ei_var, ei_bv, ei_ix, ei_call, ei_bi, ei_tup, ei_lst, ei_comp, ei_rev, ei_bin, ei_rgL, ei_rgT, ei_sset, ei_sl, ei_split, ec_cmp, ec_cmp2, ec_an, ec_or, ec_nt, ec_call, ec_isi, ec_bv, ec_var, ec_bi, ec_cb, eo_ci, eo_bv, eo_var, eo_neg, eo_bin, eo_bi, eo_ix, eo_call, er_bv, er_ix, er_call, er_bi, er_tup, er_lst, er_comp, er_rev, er_bin, er_rgL, er_rgT, er_sset, er_lset, er_sl, er_split, er_join, er_cmp, er_cmp2, er_an, er_or, er_nt, er_isi, er_ci, er_cb, er_cn, er_cs, er_neg, valS_val, valS_own, retD_rt, retD_nx, boolD_b, intD_i, listD_l, tupD_t, ownS_o, items_l, items_t, isi_b, isi_i, isi_n, isi_ii, isi_tt, len_l, len_t, tu_l, tu_t, li_l, li_t, int_b, add_i, add_l, add_t, sub_i, opI_i, rev_l, rev_t, sl_l, sl_t, zip_t, zip_l, zip_tl, sq2_t, sq2_l, bi_len, bi_min, bi_max, bi_sum, bi_all, bi_any, bi_int, bi_str, bi_tuple, bi_list, bi_sorted, opB_add, opB_sub, opB_mul, opB_div, opB_mod, opC_eq, opC_ne, opC_lt, opC_le, opC_gt, opC_ge, opC_is, opC_isn, opC_isb, opC_isnb, opC_in, opC_nin, isN_n, isN_i, nI, biMin2, biMax2, opEq_nI, ixW0, ixW1, ix_e0, ix_e1, ix_e2, tup_e, decide_eq_true_eq]
    rfl
end J

/-! spread .. least_cost: what they compute. -/
namespace J
open PySem
theorem len_R {r : Row} : biLen [encR r] = some (.int r.length) := by simp only [encR, biLen, List.length_map]
theorem ix_encR {f : Row} {k : Nat} (h : k < f.length) : opIx (encR f) (.int k) = some (encO (at_ f k)) := ix_O h
theorem pre_len {α : Type} {xs pre post : List α} {x : α} (h : xs = pre ++ x :: post) : pre.length < xs.length := by rw [h, List.length_append, List.length_cons]; omega
theorem app_O {f : Row} {o : Option Nat} : f.map encO ++ [encO o] = (f ++ [o]).map encO := by rw [List.map_append]; rfl
theorem app_R {f : List Row} {o : Row} : f.map encR ++ [encR o] = (f ++ [o]).map encR := by rw [List.map_append]; rfl
theorem spread (n : Nat) {F : List Row} {row : Row} (hl : row.length ≤ 20) (hF : row.length ≤ F.length) (hR : ∀ k, k < row.length → (F.getD k []).length = row.length) : Ph (n + 2) 36 [.list (F.map encR), encR row] = some (encR (spr F row)) := by
  show evF (Ph (n + 1)) fd36 [.list (F.map encR), encR row] = _
  rw [← o1_eq, ef_of rfl]
  simp only [o1_some, o1_none, o1_map, o1_if, o1_test, ev_var, ev_bv, ev_cn, ev_cb, ev_ci, ev_cs, ev_bin, ev_neg, ev_nt, ev_cmp, ev_cmp2, ev_an, ev_or, ev_tup, ev_lst, ev_call, ev_bi, ev_isi, ev_ix, ev_sl, ev_rev, ev_rgL, ev_rgT, ev_lset, ev_sset, ev_comp, ev_join, ev_split, ea_nil, ea_cons, eo_nil, ec_nil, ei_rg, ei_zip, ei_enum, nxt_nx, nxt_rt, es_set, es_setO, es_unp, es_par, es_app, es_sti, es_ifs, es_for, es_skip, es_seq, es_retv, turn_of, forB_of, bindT1, bindT2, bindEach, wipeE, getV, getB, start0, List.length_cons, List.length_nil, List.getElem?_cons_zero, List.getElem?_cons_succ, List.set_cons_zero, List.set_cons_succ, List.cons_append, List.nil_append, List.replicate_succ, List.replicate_zero, if_true, if_false, reduceIte, Nat.reduceAdd, Nat.reduceSub, Nat.reduceLeDiff, Bool.false_eq_true, Bool.true_eq_false, Bool.not_true, Bool.not_false, reduceCtorEq, Nat.zero_add, true_and, and_true, ei_var, ei_bv, ei_ix, ei_call, ei_bi, ei_tup, ei_lst, ei_comp, ei_rev, ei_bin, ei_rgL, ei_rgT, ei_sset, ei_sl, ei_split, ec_cmp, ec_cmp2, ec_an, ec_or, ec_nt, ec_call, ec_isi, ec_bv, ec_var, ec_bi, ec_cb, eo_ci, eo_bv, eo_var, eo_neg, eo_bin, eo_bi, eo_ix, eo_call, er_bv, er_ix, er_call, er_bi, er_tup, er_lst, er_comp, er_rev, er_bin, er_rgL, er_rgT, er_sset, er_lset, er_sl, er_split, er_join, er_cmp, er_cmp2, er_an, er_or, er_nt, er_isi, er_ci, er_cb, er_cn, er_cs, er_neg, valS_val, valS_own, retD_rt, retD_nx, boolD_b, intD_i, listD_l, tupD_t, ownS_o, items_l, items_t, isi_b, isi_i, isi_n, isi_ii, isi_tt, len_l, len_t, tu_l, tu_t, li_l, li_t, int_b, add_i, add_l, add_t, sub_i, opI_i, rev_l, rev_t, sl_l, sl_t, zip_t, zip_l, zip_tl, sq2_t, sq2_l, bi_len, bi_min, bi_max, bi_sum, bi_all, bi_any, bi_int, bi_str, bi_tuple, bi_list, bi_sorted, opB_add, opB_sub, opB_mul, opB_div, opB_mod, opC_eq, opC_ne, opC_lt, opC_le, opC_gt, opC_ge, opC_is, opC_isn, opC_isb, opC_isnb, opC_in, opC_nin, isN_n, isN_i, nI, biMin2, biMax2, opEq_nI, ixW0, ixW1, ix_e0, ix_e1, ix_e2, tup_e, decide_eq_true_eq, fd36, len_R, rg_nI (show row.length ≤ 100000 by omega)]
  refine for_pre (e := nI) (fun pre env => ∃ s3 s4 s5, env = [.val (.list (F.map encR)), .val (encR row), .own ((pre.map fun pl => (List.range row.length).foldl (fun b o => lsr b (bth (at_ row o) (at2 F o pl))) none).map encO), s3, s4, s5]) ⟨_, _, _, rfl⟩ (fun pre pl post env hx hI => ?_) (fun env hI => ?_)
  · obtain ⟨s3, s4, s5, rfl⟩ := hI
    have hpl : pl < row.length := List.mem_range.mp (by rw [hx]; simp)
    have hpre := pre_len hx
    rw [List.length_range] at hpre
    simp only [o1_some, o1_none, o1_map, o1_if, o1_test, ev_var, ev_bv, ev_cn, ev_cb, ev_ci, ev_cs, ev_bin, ev_neg, ev_nt, ev_cmp, ev_cmp2, ev_an, ev_or, ev_tup, ev_lst, ev_call, ev_bi, ev_isi, ev_ix, ev_sl, ev_rev, ev_rgL, ev_rgT, ev_lset, ev_sset, ev_comp, ev_join, ev_split, ea_nil, ea_cons, eo_nil, ec_nil, ei_rg, ei_zip, ei_enum, nxt_nx, nxt_rt, es_set, es_setO, es_unp, es_par, es_app, es_sti, es_ifs, es_for, es_skip, es_seq, es_retv, turn_of, forB_of, bindT1, bindT2, bindEach, wipeE, getV, getB, start0, List.length_cons, List.length_nil, List.getElem?_cons_zero, List.getElem?_cons_succ, List.set_cons_zero, List.set_cons_succ, List.cons_append, List.nil_append, List.replicate_succ, List.replicate_zero, if_true, if_false, reduceIte, Nat.reduceAdd, Nat.reduceSub, Nat.reduceLeDiff, Bool.false_eq_true, Bool.true_eq_false, Bool.not_true, Bool.not_false, reduceCtorEq, Nat.zero_add, true_and, and_true, ei_var, ei_bv, ei_ix, ei_call, ei_bi, ei_tup, ei_lst, ei_comp, ei_rev, ei_bin, ei_rgL, ei_rgT, ei_sset, ei_sl, ei_split, ec_cmp, ec_cmp2, ec_an, ec_or, ec_nt, ec_call, ec_isi, ec_bv, ec_var, ec_bi, ec_cb, eo_ci, eo_bv, eo_var, eo_neg, eo_bin, eo_bi, eo_ix, eo_call, er_bv, er_ix, er_call, er_bi, er_tup, er_lst, er_comp, er_rev, er_bin, er_rgL, er_rgT, er_sset, er_lset, er_sl, er_split, er_join, er_cmp, er_cmp2, er_an, er_or, er_nt, er_isi, er_ci, er_cb, er_cn, er_cs, er_neg, valS_val, valS_own, retD_rt, retD_nx, boolD_b, intD_i, listD_l, tupD_t, ownS_o, items_l, items_t, isi_b, isi_i, isi_n, isi_ii, isi_tt, len_l, len_t, tu_l, tu_t, li_l, li_t, int_b, add_i, add_l, add_t, sub_i, opI_i, rev_l, rev_t, sl_l, sl_t, zip_t, zip_l, zip_tl, sq2_t, sq2_l, bi_len, bi_min, bi_max, bi_sum, bi_all, bi_any, bi_int, bi_str, bi_tuple, bi_list, bi_sorted, opB_add, opB_sub, opB_mul, opB_div, opB_mod, opC_eq, opC_ne, opC_lt, opC_le, opC_gt, opC_ge, opC_is, opC_isn, opC_isb, opC_isnb, opC_in, opC_nin, isN_n, isN_i, nI, biMin2, biMax2, opEq_nI, ixW0, ixW1, ix_e0, ix_e1, ix_e2, tup_e, decide_eq_true_eq, len_R, rg_nI (show row.length ≤ 100000 by omega)]
    refine for_fold (e := nI) (b := (none : Option Nat)) (fun b env => ∃ s5, env = [.val (.list (F.map encR)), .val (encR row), .own ((pre.map fun pl => (List.range row.length).foldl (fun b o => lsr b (bth (at_ row o) (at2 F o pl))) none).map encO), .val (nI pl), .val (encO b), s5]) (fun b o => lsr b (bth (at_ row o) (at2 F o pl))) ⟨_, rfl⟩ (fun b o env ho hI => ?_) (fun env hI => ?_)
    · obtain ⟨s5, rfl⟩ := hI
      rw [List.mem_range] at ho
      simp only [o1_some, o1_none, o1_map, o1_if, o1_test, ev_var, ev_bv, ev_cn, ev_cb, ev_ci, ev_cs, ev_bin, ev_neg, ev_nt, ev_cmp, ev_cmp2, ev_an, ev_or, ev_tup, ev_lst, ev_call, ev_bi, ev_isi, ev_ix, ev_sl, ev_rev, ev_rgL, ev_rgT, ev_lset, ev_sset, ev_comp, ev_join, ev_split, ea_nil, ea_cons, eo_nil, ec_nil, ei_rg, ei_zip, ei_enum, nxt_nx, nxt_rt, es_set, es_setO, es_unp, es_par, es_app, es_sti, es_ifs, es_for, es_skip, es_seq, es_retv, turn_of, forB_of, bindT1, bindT2, bindEach, wipeE, getV, getB, start0, List.length_cons, List.length_nil, List.getElem?_cons_zero, List.getElem?_cons_succ, List.set_cons_zero, List.set_cons_succ, List.cons_append, List.nil_append, List.replicate_succ, List.replicate_zero, if_true, if_false, reduceIte, Nat.reduceAdd, Nat.reduceSub, Nat.reduceLeDiff, Bool.false_eq_true, Bool.true_eq_false, Bool.not_true, Bool.not_false, reduceCtorEq, Nat.zero_add, true_and, and_true, ei_var, ei_bv, ei_ix, ei_call, ei_bi, ei_tup, ei_lst, ei_comp, ei_rev, ei_bin, ei_rgL, ei_rgT, ei_sset, ei_sl, ei_split, ec_cmp, ec_cmp2, ec_an, ec_or, ec_nt, ec_call, ec_isi, ec_bv, ec_var, ec_bi, ec_cb, eo_ci, eo_bv, eo_var, eo_neg, eo_bin, eo_bi, eo_ix, eo_call, er_bv, er_ix, er_call, er_bi, er_tup, er_lst, er_comp, er_rev, er_bin, er_rgL, er_rgT, er_sset, er_lset, er_sl, er_split, er_join, er_cmp, er_cmp2, er_an, er_or, er_nt, er_isi, er_ci, er_cb, er_cn, er_cs, er_neg, valS_val, valS_own, retD_rt, retD_nx, boolD_b, intD_i, listD_l, tupD_t, ownS_o, items_l, items_t, isi_b, isi_i, isi_n, isi_ii, isi_tt, len_l, len_t, tu_l, tu_t, li_l, li_t, int_b, add_i, add_l, add_t, sub_i, opI_i, rev_l, rev_t, sl_l, sl_t, zip_t, zip_l, zip_tl, sq2_t, sq2_l, bi_len, bi_min, bi_max, bi_sum, bi_all, bi_any, bi_int, bi_str, bi_tuple, bi_list, bi_sorted, opB_add, opB_sub, opB_mul, opB_div, opB_mod, opC_eq, opC_ne, opC_lt, opC_le, opC_gt, opC_ge, opC_is, opC_isn, opC_isb, opC_isnb, opC_in, opC_nin, isN_n, isN_i, nI, biMin2, biMax2, opEq_nI, ixW0, ixW1, ix_e0, ix_e1, ix_e2, tup_e, decide_eq_true_eq, ix_encR ho, ix_R (show o < F.length by omega), ix_encR (show pl < (F.getD o []).length by rw [hR o ho]; exact hpl), both n, lesser n]
      exact ⟨_, rfl⟩
    · obtain ⟨s5, rfl⟩ := hI
      simp only [o1_some, o1_none, o1_map, o1_if, o1_test, ev_var, ev_bv, ev_cn, ev_cb, ev_ci, ev_cs, ev_bin, ev_neg, ev_nt, ev_cmp, ev_cmp2, ev_an, ev_or, ev_tup, ev_lst, ev_call, ev_bi, ev_isi, ev_ix, ev_sl, ev_rev, ev_rgL, ev_rgT, ev_lset, ev_sset, ev_comp, ev_join, ev_split, ea_nil, ea_cons, eo_nil, ec_nil, ei_rg, ei_zip, ei_enum, nxt_nx, nxt_rt, es_set, es_setO, es_unp, es_par, es_app, es_sti, es_ifs, es_for, es_skip, es_seq, es_retv, turn_of, forB_of, bindT1, bindT2, bindEach, wipeE, getV, getB, start0, List.length_cons, List.length_nil, List.getElem?_cons_zero, List.getElem?_cons_succ, List.set_cons_zero, List.set_cons_succ, List.cons_append, List.nil_append, List.replicate_succ, List.replicate_zero, if_true, if_false, reduceIte, Nat.reduceAdd, Nat.reduceSub, Nat.reduceLeDiff, Bool.false_eq_true, Bool.true_eq_false, Bool.not_true, Bool.not_false, reduceCtorEq, Nat.zero_add, true_and, and_true, ei_var, ei_bv, ei_ix, ei_call, ei_bi, ei_tup, ei_lst, ei_comp, ei_rev, ei_bin, ei_rgL, ei_rgT, ei_sset, ei_sl, ei_split, ec_cmp, ec_cmp2, ec_an, ec_or, ec_nt, ec_call, ec_isi, ec_bv, ec_var, ec_bi, ec_cb, eo_ci, eo_bv, eo_var, eo_neg, eo_bin, eo_bi, eo_ix, eo_call, er_bv, er_ix, er_call, er_bi, er_tup, er_lst, er_comp, er_rev, er_bin, er_rgL, er_rgT, er_sset, er_lset, er_sl, er_split, er_join, er_cmp, er_cmp2, er_an, er_or, er_nt, er_isi, er_ci, er_cb, er_cn, er_cs, er_neg, valS_val, valS_own, retD_rt, retD_nx, boolD_b, intD_i, listD_l, tupD_t, ownS_o, items_l, items_t, isi_b, isi_i, isi_n, isi_ii, isi_tt, len_l, len_t, tu_l, tu_t, li_l, li_t, int_b, add_i, add_l, add_t, sub_i, opI_i, rev_l, rev_t, sl_l, sl_t, zip_t, zip_l, zip_tl, sq2_t, sq2_l, bi_len, bi_min, bi_max, bi_sum, bi_all, bi_any, bi_int, bi_str, bi_tuple, bi_list, bi_sorted, opB_add, opB_sub, opB_mul, opB_div, opB_mod, opC_eq, opC_ne, opC_lt, opC_le, opC_gt, opC_ge, opC_is, opC_isn, opC_isb, opC_isnb, opC_in, opC_nin, isN_n, isN_i, nI, biMin2, biMax2, opEq_nI, ixW0, ixW1, ix_e0, ix_e1, ix_e2, tup_e, decide_eq_true_eq, List.length_map, app_O]
      rw [List.map_append (l₁ := pre)]
      exact ⟨by omega, _, _, _, rfl⟩
  · obtain ⟨s3, s4, s5, rfl⟩ := hI
    rw [nxt_nx, o1_of (es_shr rfl)]
    simp only [o1_some, o1_none, o1_map, o1_if, o1_test, ev_var, ev_bv, ev_cn, ev_cb, ev_ci, ev_cs, ev_bin, ev_neg, ev_nt, ev_cmp, ev_cmp2, ev_an, ev_or, ev_tup, ev_lst, ev_call, ev_bi, ev_isi, ev_ix, ev_sl, ev_rev, ev_rgL, ev_rgT, ev_lset, ev_sset, ev_comp, ev_join, ev_split, ea_nil, ea_cons, eo_nil, ec_nil, ei_rg, ei_zip, ei_enum, nxt_nx, nxt_rt, es_set, es_setO, es_unp, es_par, es_app, es_sti, es_ifs, es_for, es_skip, es_seq, es_retv, turn_of, forB_of, bindT1, bindT2, bindEach, wipeE, getV, getB, start0, List.length_cons, List.length_nil, List.getElem?_cons_zero, List.getElem?_cons_succ, List.set_cons_zero, List.set_cons_succ, List.cons_append, List.nil_append, List.replicate_succ, List.replicate_zero, if_true, if_false, reduceIte, Nat.reduceAdd, Nat.reduceSub, Nat.reduceLeDiff, Bool.false_eq_true, Bool.true_eq_false, Bool.not_true, Bool.not_false, reduceCtorEq, Nat.zero_add, true_and, and_true, ei_var, ei_bv, ei_ix, ei_call, ei_bi, ei_tup, ei_lst, ei_comp, ei_rev, ei_bin, ei_rgL, ei_rgT, ei_sset, ei_sl, ei_split, ec_cmp, ec_cmp2, ec_an, ec_or, ec_nt, ec_call, ec_isi, ec_bv, ec_var, ec_bi, ec_cb, eo_ci, eo_bv, eo_var, eo_neg, eo_bin, eo_bi, eo_ix, eo_call, er_bv, er_ix, er_call, er_bi, er_tup, er_lst, er_comp, er_rev, er_bin, er_rgL, er_rgT, er_sset, er_lset, er_sl, er_split, er_join, er_cmp, er_cmp2, er_an, er_or, er_nt, er_isi, er_ci, er_cb, er_cn, er_cs, er_neg, valS_val, valS_own, retD_rt, retD_nx, boolD_b, intD_i, listD_l, tupD_t, ownS_o, items_l, items_t, isi_b, isi_i, isi_n, isi_ii, isi_tt, len_l, len_t, tu_l, tu_t, li_l, li_t, int_b, add_i, add_l, add_t, sub_i, opI_i, rev_l, rev_t, sl_l, sl_t, zip_t, zip_l, zip_tl, sq2_t, sq2_l, bi_len, bi_min, bi_max, bi_sum, bi_all, bi_any, bi_int, bi_str, bi_tuple, bi_list, bi_sorted, opB_add, opB_sub, opB_mul, opB_div, opB_mod, opC_eq, opC_ne, opC_lt, opC_le, opC_gt, opC_ge, opC_is, opC_isn, opC_isb, opC_isnb, opC_in, opC_nin, isN_n, isN_i, nI, biMin2, biMax2, opEq_nI, ixW0, ixW1, ix_e0, ix_e1, ix_e2, tup_e, decide_eq_true_eq]
    rfl
theorem and_nat {a b : Nat} : Builtin.bitAnd (a : Int) (b : Int) = ((a &&& b : Nat) : Int) := by
  unfold Builtin.bitAnd
  rfl
theorem opAnd_nat {a b : Nat} : opB .BitAnd (.int a) (.int b) = some (.int ((a &&& b : Nat) : Int)) := by
  show opAnd (.int a) (.int b) = _
  simp only [opAnd, and_nat]
theorem parted_row (n : Nat) {rows : List Row} {g many : Nat} (hg : g ≤ rows.length) (hg2 : rows.length ≤ 1000) (hm : many ≤ 20) (hR : ∀ k, k < rows.length → (rows.getD k []).length = many) : Ph (n + 2) 38 [.list (rows.map encR), .int g, .int many] = some (encR (prow rows g many)) := by
  show evF (Ph (n + 1)) fd38 [.list (rows.map encR), .int g, .int many] = _
  rw [← o1_eq, ef_of rfl]
  simp only [o1_some, o1_none, o1_map, o1_if, o1_test, ev_var, ev_bv, ev_cn, ev_cb, ev_ci, ev_cs, ev_bin, ev_neg, ev_nt, ev_cmp, ev_cmp2, ev_an, ev_or, ev_tup, ev_lst, ev_call, ev_bi, ev_isi, ev_ix, ev_sl, ev_rev, ev_rgL, ev_rgT, ev_lset, ev_sset, ev_comp, ev_join, ev_split, ea_nil, ea_cons, eo_nil, ec_nil, ei_rg, ei_zip, ei_enum, nxt_nx, nxt_rt, es_set, es_setO, es_unp, es_par, es_app, es_sti, es_ifs, es_for, es_skip, es_seq, es_retv, turn_of, forB_of, bindT1, bindT2, bindEach, wipeE, getV, getB, start0, List.length_cons, List.length_nil, List.getElem?_cons_zero, List.getElem?_cons_succ, List.set_cons_zero, List.set_cons_succ, List.cons_append, List.nil_append, List.replicate_succ, List.replicate_zero, if_true, if_false, reduceIte, Nat.reduceAdd, Nat.reduceSub, Nat.reduceLeDiff, Bool.false_eq_true, Bool.true_eq_false, Bool.not_true, Bool.not_false, reduceCtorEq, Nat.zero_add, true_and, and_true, ei_var, ei_bv, ei_ix, ei_call, ei_bi, ei_tup, ei_lst, ei_comp, ei_rev, ei_bin, ei_rgL, ei_rgT, ei_sset, ei_sl, ei_split, ec_cmp, ec_cmp2, ec_an, ec_or, ec_nt, ec_call, ec_isi, ec_bv, ec_var, ec_bi, ec_cb, eo_ci, eo_bv, eo_var, eo_neg, eo_bin, eo_bi, eo_ix, eo_call, er_bv, er_ix, er_call, er_bi, er_tup, er_lst, er_comp, er_rev, er_bin, er_rgL, er_rgT, er_sset, er_lset, er_sl, er_split, er_join, er_cmp, er_cmp2, er_an, er_or, er_nt, er_isi, er_ci, er_cb, er_cn, er_cs, er_neg, valS_val, valS_own, retD_rt, retD_nx, boolD_b, intD_i, listD_l, tupD_t, ownS_o, items_l, items_t, isi_b, isi_i, isi_n, isi_ii, isi_tt, len_l, len_t, tu_l, tu_t, li_l, li_t, int_b, add_i, add_l, add_t, sub_i, opI_i, rev_l, rev_t, sl_l, sl_t, zip_t, zip_l, zip_tl, sq2_t, sq2_l, bi_len, bi_min, bi_max, bi_sum, bi_all, bi_any, bi_int, bi_str, bi_tuple, bi_list, bi_sorted, opB_add, opB_sub, opB_mul, opB_div, opB_mod, opC_eq, opC_ne, opC_lt, opC_le, opC_gt, opC_ge, opC_is, opC_isn, opC_isb, opC_isnb, opC_in, opC_nin, isN_n, isN_i, nI, biMin2, biMax2, opEq_nI, ixW0, ixW1, ix_e0, ix_e1, ix_e2, tup_e, decide_eq_true_eq, fd38, mul_none (show many ≤ 1000 by omega)]
  rw [show (PyData.int 1) = .int ((1 : Nat) : Int) from rfl, rg_N (show 1 ≤ 100000 by decide) (show g ≤ 100000 by omega), o1_some, show List.replicate many PyData.none = (List.replicate many none).map encO by rw [List.map_replicate]; rfl]
  refine for_fold (e := nI) (b := (List.replicate many none : Row)) (fun f env => f.length = many ∧ ∃ s4 s5, env = [.bor (.list (rows.map encR)), .val (.int g), .val (.int many), .own (f.map encO), s4, s5]) (pr1 rows g many) ⟨List.length_replicate, _, _, rfl⟩ (fun f p env hp hI => ?_) (fun env hI => ?_)
  · obtain ⟨hl, s4, s5, rfl⟩ := hI
    rw [rgN_mem] at hp
    simp only [o1_some, o1_none, o1_map, o1_if, o1_test, ev_var, ev_bv, ev_cn, ev_cb, ev_ci, ev_cs, ev_bin, ev_neg, ev_nt, ev_cmp, ev_cmp2, ev_an, ev_or, ev_tup, ev_lst, ev_call, ev_bi, ev_isi, ev_ix, ev_sl, ev_rev, ev_rgL, ev_rgT, ev_lset, ev_sset, ev_comp, ev_join, ev_split, ea_nil, ea_cons, eo_nil, ec_nil, ei_rg, ei_zip, ei_enum, nxt_nx, nxt_rt, es_set, es_setO, es_unp, es_par, es_app, es_sti, es_ifs, es_for, es_skip, es_seq, es_retv, turn_of, forB_of, bindT1, bindT2, bindEach, wipeE, getV, getB, start0, List.length_cons, List.length_nil, List.getElem?_cons_zero, List.getElem?_cons_succ, List.set_cons_zero, List.set_cons_succ, List.cons_append, List.nil_append, List.replicate_succ, List.replicate_zero, if_true, if_false, reduceIte, Nat.reduceAdd, Nat.reduceSub, Nat.reduceLeDiff, Bool.false_eq_true, Bool.true_eq_false, Bool.not_true, Bool.not_false, reduceCtorEq, Nat.zero_add, true_and, and_true, ei_var, ei_bv, ei_ix, ei_call, ei_bi, ei_tup, ei_lst, ei_comp, ei_rev, ei_bin, ei_rgL, ei_rgT, ei_sset, ei_sl, ei_split, ec_cmp, ec_cmp2, ec_an, ec_or, ec_nt, ec_call, ec_isi, ec_bv, ec_var, ec_bi, ec_cb, eo_ci, eo_bv, eo_var, eo_neg, eo_bin, eo_bi, eo_ix, eo_call, er_bv, er_ix, er_call, er_bi, er_tup, er_lst, er_comp, er_rev, er_bin, er_rgL, er_rgT, er_sset, er_lset, er_sl, er_split, er_join, er_cmp, er_cmp2, er_an, er_or, er_nt, er_isi, er_ci, er_cb, er_cn, er_cs, er_neg, valS_val, valS_own, retD_rt, retD_nx, boolD_b, intD_i, listD_l, tupD_t, ownS_o, items_l, items_t, isi_b, isi_i, isi_n, isi_ii, isi_tt, len_l, len_t, tu_l, tu_t, li_l, li_t, int_b, add_i, add_l, add_t, sub_i, opI_i, rev_l, rev_t, sl_l, sl_t, zip_t, zip_l, zip_tl, sq2_t, sq2_l, bi_len, bi_min, bi_max, bi_sum, bi_all, bi_any, bi_int, bi_str, bi_tuple, bi_list, bi_sorted, opB_add, opB_sub, opB_mul, opB_div, opB_mod, opC_eq, opC_ne, opC_lt, opC_le, opC_gt, opC_ge, opC_is, opC_isn, opC_isb, opC_isnb, opC_in, opC_nin, isN_n, isN_i, nI, biMin2, biMax2, opEq_nI, ixW0, ixW1, ix_e0, ix_e1, ix_e2, tup_e, decide_eq_true_eq, opAnd_nat]
    by_cases hpg : p &&& g = p
    · have e : pr1 rows g many f p = (List.range many).foldl (pst (prX rows g p)) f := by unfold pr1; rw [if_pos hpg]
      simp only [hpg, decide_true, o1_some, o1_none, o1_map, o1_if, o1_test, ev_var, ev_bv, ev_cn, ev_cb, ev_ci, ev_cs, ev_bin, ev_neg, ev_nt, ev_cmp, ev_cmp2, ev_an, ev_or, ev_tup, ev_lst, ev_call, ev_bi, ev_isi, ev_ix, ev_sl, ev_rev, ev_rgL, ev_rgT, ev_lset, ev_sset, ev_comp, ev_join, ev_split, ea_nil, ea_cons, eo_nil, ec_nil, ei_rg, ei_zip, ei_enum, nxt_nx, nxt_rt, es_set, es_setO, es_unp, es_par, es_app, es_sti, es_ifs, es_for, es_skip, es_seq, es_retv, turn_of, forB_of, bindT1, bindT2, bindEach, wipeE, getV, getB, start0, List.length_cons, List.length_nil, List.getElem?_cons_zero, List.getElem?_cons_succ, List.set_cons_zero, List.set_cons_succ, List.cons_append, List.nil_append, List.replicate_succ, List.replicate_zero, if_true, if_false, reduceIte, Nat.reduceAdd, Nat.reduceSub, Nat.reduceLeDiff, Bool.false_eq_true, Bool.true_eq_false, Bool.not_true, Bool.not_false, reduceCtorEq, Nat.zero_add, true_and, and_true, ei_var, ei_bv, ei_ix, ei_call, ei_bi, ei_tup, ei_lst, ei_comp, ei_rev, ei_bin, ei_rgL, ei_rgT, ei_sset, ei_sl, ei_split, ec_cmp, ec_cmp2, ec_an, ec_or, ec_nt, ec_call, ec_isi, ec_bv, ec_var, ec_bi, ec_cb, eo_ci, eo_bv, eo_var, eo_neg, eo_bin, eo_bi, eo_ix, eo_call, er_bv, er_ix, er_call, er_bi, er_tup, er_lst, er_comp, er_rev, er_bin, er_rgL, er_rgT, er_sset, er_lset, er_sl, er_split, er_join, er_cmp, er_cmp2, er_an, er_or, er_nt, er_isi, er_ci, er_cb, er_cn, er_cs, er_neg, valS_val, valS_own, retD_rt, retD_nx, boolD_b, intD_i, listD_l, tupD_t, ownS_o, items_l, items_t, isi_b, isi_i, isi_n, isi_ii, isi_tt, len_l, len_t, tu_l, tu_t, li_l, li_t, int_b, add_i, add_l, add_t, sub_i, opI_i, rev_l, rev_t, sl_l, sl_t, zip_t, zip_l, zip_tl, sq2_t, sq2_l, bi_len, bi_min, bi_max, bi_sum, bi_all, bi_any, bi_int, bi_str, bi_tuple, bi_list, bi_sorted, opB_add, opB_sub, opB_mul, opB_div, opB_mod, opC_eq, opC_ne, opC_lt, opC_le, opC_gt, opC_ge, opC_is, opC_isn, opC_isb, opC_isnb, opC_in, opC_nin, isN_n, isN_i, nI, biMin2, biMax2, opEq_nI, ixW0, ixW1, ix_e0, ix_e1, ix_e2, tup_e, decide_eq_true_eq, rg_nI (show many ≤ 100000 by omega), e]
      refine for_fold (e := nI) (b := f) (fun f env => f.length = many ∧ ∃ s5, env = [.bor (.list (rows.map encR)), .val (.int g), .val (.int many), .own (f.map encO), .val (nI p), s5]) (pst (prX rows g p)) ⟨hl, _, rfl⟩ (fun f pl env hpl hI => ?_) (fun env hI => ?_)
      · obtain ⟨hl, s5, rfl⟩ := hI
        rw [List.mem_range] at hpl
        have es : (PyData.int ((g : Int) - (p : Int))) = .int ((g - p : Nat) : Int) := by congr 1; omega
        simp only [o1_some, o1_none, o1_map, o1_if, o1_test, ev_var, ev_bv, ev_cn, ev_cb, ev_ci, ev_cs, ev_bin, ev_neg, ev_nt, ev_cmp, ev_cmp2, ev_an, ev_or, ev_tup, ev_lst, ev_call, ev_bi, ev_isi, ev_ix, ev_sl, ev_rev, ev_rgL, ev_rgT, ev_lset, ev_sset, ev_comp, ev_join, ev_split, ea_nil, ea_cons, eo_nil, ec_nil, ei_rg, ei_zip, ei_enum, nxt_nx, nxt_rt, es_set, es_setO, es_unp, es_par, es_app, es_sti, es_ifs, es_for, es_skip, es_seq, es_retv, turn_of, forB_of, bindT1, bindT2, bindEach, wipeE, getV, getB, start0, List.length_cons, List.length_nil, List.getElem?_cons_zero, List.getElem?_cons_succ, List.set_cons_zero, List.set_cons_succ, List.cons_append, List.nil_append, List.replicate_succ, List.replicate_zero, if_true, if_false, reduceIte, Nat.reduceAdd, Nat.reduceSub, Nat.reduceLeDiff, Bool.false_eq_true, Bool.true_eq_false, Bool.not_true, Bool.not_false, reduceCtorEq, Nat.zero_add, true_and, and_true, ei_var, ei_bv, ei_ix, ei_call, ei_bi, ei_tup, ei_lst, ei_comp, ei_rev, ei_bin, ei_rgL, ei_rgT, ei_sset, ei_sl, ei_split, ec_cmp, ec_cmp2, ec_an, ec_or, ec_nt, ec_call, ec_isi, ec_bv, ec_var, ec_bi, ec_cb, eo_ci, eo_bv, eo_var, eo_neg, eo_bin, eo_bi, eo_ix, eo_call, er_bv, er_ix, er_call, er_bi, er_tup, er_lst, er_comp, er_rev, er_bin, er_rgL, er_rgT, er_sset, er_lset, er_sl, er_split, er_join, er_cmp, er_cmp2, er_an, er_or, er_nt, er_isi, er_ci, er_cb, er_cn, er_cs, er_neg, valS_val, valS_own, retD_rt, retD_nx, boolD_b, intD_i, listD_l, tupD_t, ownS_o, items_l, items_t, isi_b, isi_i, isi_n, isi_ii, isi_tt, len_l, len_t, tu_l, tu_t, li_l, li_t, int_b, add_i, add_l, add_t, sub_i, opI_i, rev_l, rev_t, sl_l, sl_t, zip_t, zip_l, zip_tl, sq2_t, sq2_l, bi_len, bi_min, bi_max, bi_sum, bi_all, bi_any, bi_int, bi_str, bi_tuple, bi_list, bi_sorted, opB_add, opB_sub, opB_mul, opB_div, opB_mod, opC_eq, opC_ne, opC_lt, opC_le, opC_gt, opC_ge, opC_is, opC_isn, opC_isb, opC_isnb, opC_in, opC_nin, isN_n, isN_i, nI, biMin2, biMax2, opEq_nI, ixW0, ixW1, ix_e0, ix_e1, ix_e2, tup_e, decide_eq_true_eq, es, ix_O (show pl < f.length by omega), ix_R (show p < rows.length by omega), ix_R (show g - p < rows.length by omega), ix_encR (show pl < (rows.getD p []).length by rw [hR p (by omega)]; exact hpl), ix_encR (show pl < (rows.getD (g - p) []).length by rw [hR _ (by omega)]; exact hpl), both n, lesser n, List.length_map, ixN_nat (show pl < f.length by omega), set_O]
        exact ⟨by rw [pst_len]; exact hl, _, rfl⟩
      · obtain ⟨hl, s5, rfl⟩ := hI
        simp only [o1_some, o1_none, o1_map, o1_if, o1_test, ev_var, ev_bv, ev_cn, ev_cb, ev_ci, ev_cs, ev_bin, ev_neg, ev_nt, ev_cmp, ev_cmp2, ev_an, ev_or, ev_tup, ev_lst, ev_call, ev_bi, ev_isi, ev_ix, ev_sl, ev_rev, ev_rgL, ev_rgT, ev_lset, ev_sset, ev_comp, ev_join, ev_split, ea_nil, ea_cons, eo_nil, ec_nil, ei_rg, ei_zip, ei_enum, nxt_nx, nxt_rt, es_set, es_setO, es_unp, es_par, es_app, es_sti, es_ifs, es_for, es_skip, es_seq, es_retv, turn_of, forB_of, bindT1, bindT2, bindEach, wipeE, getV, getB, start0, List.length_cons, List.length_nil, List.getElem?_cons_zero, List.getElem?_cons_succ, List.set_cons_zero, List.set_cons_succ, List.cons_append, List.nil_append, List.replicate_succ, List.replicate_zero, if_true, if_false, reduceIte, Nat.reduceAdd, Nat.reduceSub, Nat.reduceLeDiff, Bool.false_eq_true, Bool.true_eq_false, Bool.not_true, Bool.not_false, reduceCtorEq, Nat.zero_add, true_and, and_true, ei_var, ei_bv, ei_ix, ei_call, ei_bi, ei_tup, ei_lst, ei_comp, ei_rev, ei_bin, ei_rgL, ei_rgT, ei_sset, ei_sl, ei_split, ec_cmp, ec_cmp2, ec_an, ec_or, ec_nt, ec_call, ec_isi, ec_bv, ec_var, ec_bi, ec_cb, eo_ci, eo_bv, eo_var, eo_neg, eo_bin, eo_bi, eo_ix, eo_call, er_bv, er_ix, er_call, er_bi, er_tup, er_lst, er_comp, er_rev, er_bin, er_rgL, er_rgT, er_sset, er_lset, er_sl, er_split, er_join, er_cmp, er_cmp2, er_an, er_or, er_nt, er_isi, er_ci, er_cb, er_cn, er_cs, er_neg, valS_val, valS_own, retD_rt, retD_nx, boolD_b, intD_i, listD_l, tupD_t, ownS_o, items_l, items_t, isi_b, isi_i, isi_n, isi_ii, isi_tt, len_l, len_t, tu_l, tu_t, li_l, li_t, int_b, add_i, add_l, add_t, sub_i, opI_i, rev_l, rev_t, sl_l, sl_t, zip_t, zip_l, zip_tl, sq2_t, sq2_l, bi_len, bi_min, bi_max, bi_sum, bi_all, bi_any, bi_int, bi_str, bi_tuple, bi_list, bi_sorted, opB_add, opB_sub, opB_mul, opB_div, opB_mod, opC_eq, opC_ne, opC_lt, opC_le, opC_gt, opC_ge, opC_is, opC_isn, opC_isb, opC_isnb, opC_in, opC_nin, isN_n, isN_i, nI, biMin2, biMax2, opEq_nI, ixW0, ixW1, ix_e0, ix_e1, ix_e2, tup_e, decide_eq_true_eq]
        exact ⟨hl, _, _, rfl⟩
    · have e : pr1 rows g many f p = f := by unfold pr1; rw [if_neg hpg]
      simp only [hpg, decide_false, o1_some, o1_none, o1_map, o1_if, o1_test, ev_var, ev_bv, ev_cn, ev_cb, ev_ci, ev_cs, ev_bin, ev_neg, ev_nt, ev_cmp, ev_cmp2, ev_an, ev_or, ev_tup, ev_lst, ev_call, ev_bi, ev_isi, ev_ix, ev_sl, ev_rev, ev_rgL, ev_rgT, ev_lset, ev_sset, ev_comp, ev_join, ev_split, ea_nil, ea_cons, eo_nil, ec_nil, ei_rg, ei_zip, ei_enum, nxt_nx, nxt_rt, es_set, es_setO, es_unp, es_par, es_app, es_sti, es_ifs, es_for, es_skip, es_seq, es_retv, turn_of, forB_of, bindT1, bindT2, bindEach, wipeE, getV, getB, start0, List.length_cons, List.length_nil, List.getElem?_cons_zero, List.getElem?_cons_succ, List.set_cons_zero, List.set_cons_succ, List.cons_append, List.nil_append, List.replicate_succ, List.replicate_zero, if_true, if_false, reduceIte, Nat.reduceAdd, Nat.reduceSub, Nat.reduceLeDiff, Bool.false_eq_true, Bool.true_eq_false, Bool.not_true, Bool.not_false, reduceCtorEq, Nat.zero_add, true_and, and_true, ei_var, ei_bv, ei_ix, ei_call, ei_bi, ei_tup, ei_lst, ei_comp, ei_rev, ei_bin, ei_rgL, ei_rgT, ei_sset, ei_sl, ei_split, ec_cmp, ec_cmp2, ec_an, ec_or, ec_nt, ec_call, ec_isi, ec_bv, ec_var, ec_bi, ec_cb, eo_ci, eo_bv, eo_var, eo_neg, eo_bin, eo_bi, eo_ix, eo_call, er_bv, er_ix, er_call, er_bi, er_tup, er_lst, er_comp, er_rev, er_bin, er_rgL, er_rgT, er_sset, er_lset, er_sl, er_split, er_join, er_cmp, er_cmp2, er_an, er_or, er_nt, er_isi, er_ci, er_cb, er_cn, er_cs, er_neg, valS_val, valS_own, retD_rt, retD_nx, boolD_b, intD_i, listD_l, tupD_t, ownS_o, items_l, items_t, isi_b, isi_i, isi_n, isi_ii, isi_tt, len_l, len_t, tu_l, tu_t, li_l, li_t, int_b, add_i, add_l, add_t, sub_i, opI_i, rev_l, rev_t, sl_l, sl_t, zip_t, zip_l, zip_tl, sq2_t, sq2_l, bi_len, bi_min, bi_max, bi_sum, bi_all, bi_any, bi_int, bi_str, bi_tuple, bi_list, bi_sorted, opB_add, opB_sub, opB_mul, opB_div, opB_mod, opC_eq, opC_ne, opC_lt, opC_le, opC_gt, opC_ge, opC_is, opC_isn, opC_isb, opC_isnb, opC_in, opC_nin, isN_n, isN_i, nI, biMin2, biMax2, opEq_nI, ixW0, ixW1, ix_e0, ix_e1, ix_e2, tup_e, decide_eq_true_eq, e]
      exact ⟨hl, _, _, rfl⟩
  · obtain ⟨hl, s4, s5, rfl⟩ := hI
    rw [nxt_nx, o1_of (es_shr rfl)]
    simp only [o1_some, o1_none, o1_map, o1_if, o1_test, ev_var, ev_bv, ev_cn, ev_cb, ev_ci, ev_cs, ev_bin, ev_neg, ev_nt, ev_cmp, ev_cmp2, ev_an, ev_or, ev_tup, ev_lst, ev_call, ev_bi, ev_isi, ev_ix, ev_sl, ev_rev, ev_rgL, ev_rgT, ev_lset, ev_sset, ev_comp, ev_join, ev_split, ea_nil, ea_cons, eo_nil, ec_nil, ei_rg, ei_zip, ei_enum, nxt_nx, nxt_rt, es_set, es_setO, es_unp, es_par, es_app, es_sti, es_ifs, es_for, es_skip, es_seq, es_retv, turn_of, forB_of, bindT1, bindT2, bindEach, wipeE, getV, getB, start0, List.length_cons, List.length_nil, List.getElem?_cons_zero, List.getElem?_cons_succ, List.set_cons_zero, List.set_cons_succ, List.cons_append, List.nil_append, List.replicate_succ, List.replicate_zero, if_true, if_false, reduceIte, Nat.reduceAdd, Nat.reduceSub, Nat.reduceLeDiff, Bool.false_eq_true, Bool.true_eq_false, Bool.not_true, Bool.not_false, reduceCtorEq, Nat.zero_add, true_and, and_true, ei_var, ei_bv, ei_ix, ei_call, ei_bi, ei_tup, ei_lst, ei_comp, ei_rev, ei_bin, ei_rgL, ei_rgT, ei_sset, ei_sl, ei_split, ec_cmp, ec_cmp2, ec_an, ec_or, ec_nt, ec_call, ec_isi, ec_bv, ec_var, ec_bi, ec_cb, eo_ci, eo_bv, eo_var, eo_neg, eo_bin, eo_bi, eo_ix, eo_call, er_bv, er_ix, er_call, er_bi, er_tup, er_lst, er_comp, er_rev, er_bin, er_rgL, er_rgT, er_sset, er_lset, er_sl, er_split, er_join, er_cmp, er_cmp2, er_an, er_or, er_nt, er_isi, er_ci, er_cb, er_cn, er_cs, er_neg, valS_val, valS_own, retD_rt, retD_nx, boolD_b, intD_i, listD_l, tupD_t, ownS_o, items_l, items_t, isi_b, isi_i, isi_n, isi_ii, isi_tt, len_l, len_t, tu_l, tu_t, li_l, li_t, int_b, add_i, add_l, add_t, sub_i, opI_i, rev_l, rev_t, sl_l, sl_t, zip_t, zip_l, zip_tl, sq2_t, sq2_l, bi_len, bi_min, bi_max, bi_sum, bi_all, bi_any, bi_int, bi_str, bi_tuple, bi_list, bi_sorted, opB_add, opB_sub, opB_mul, opB_div, opB_mod, opC_eq, opC_ne, opC_lt, opC_le, opC_gt, opC_ge, opC_is, opC_isn, opC_isb, opC_isnb, opC_in, opC_nin, isN_n, isN_i, nI, biMin2, biMax2, opEq_nI, ixW0, ixW1, ix_e0, ix_e1, ix_e2, tup_e, decide_eq_true_eq]
    rfl
theorem rgN_pre {lo hi x : Nat} {pre post : List Nat} (h : rgN lo hi = pre ++ x :: post) : pre = rgN lo (lo + pre.length) ∧ x = lo + pre.length ∧ lo + pre.length < hi := by
  have hlen : pre.length < hi - lo := by
    have := pre_len h
    unfold rgN at this
    rw [List.length_map, List.length_range] at this
    exact this
  have e1 : (rgN lo hi).take pre.length = pre := by rw [h, List.take_left]
  have e2 : (rgN lo hi)[pre.length]? = some x := by rw [h, List.getElem?_append_right (Nat.le_refl _), Nat.sub_self]; rfl
  unfold rgN at e1 e2
  rw [List.getElem?_map, List.getElem?_range hlen] at e2
  rw [← List.map_take, List.take_range, Nat.min_eq_left (by omega)] at e1
  refine ⟨?_, by cases e2; rfl, by omega⟩
  unfold rgN
  rw [show lo + pre.length - lo = pre.length by omega]
  exact e1.symm
def encTb (rows : List Row) : D := .tuple (rows.map fun r => .tuple (r.map encO))
theorem li_R {r : Row} : biList [encR r] = some (encR r) := rfl
theorem mul_nn {a b : Nat} (h : a < 1000) : opMul (.int a) (.int b) = some (.int ((a * b : Nat) : Int)) := by
  rw [mul_l (by omega)]
  congr 2
theorem fars_len {w : Web} : (fars w).length = w.many := by unfold fars; simp
theorem table (n : Nat) {w : Web} (hw : Wl w) {es : List Nat} (he : ∀ e ∈ es, e < w.many) (hl : es.length ≤ 7) : Ph (n + 3) 37 [encW w, .tuple (es.map nI)] = some (encTb (tbl w es)) := by
  show evF (Ph (n + 2)) fd37 [encW w, .tuple (es.map nI)] = _
  rw [← o1_eq, ef_of rfl]
  have hh := hw.hi
  have h128 : 2 ^ es.length ≤ 128 := Nat.pow_le_pow_right (n := 2) (by decide) hl
  simp only [o1_some, o1_none, o1_map, o1_if, o1_test, ev_var, ev_bv, ev_cn, ev_cb, ev_ci, ev_cs, ev_bin, ev_neg, ev_nt, ev_cmp, ev_cmp2, ev_an, ev_or, ev_tup, ev_lst, ev_call, ev_bi, ev_isi, ev_ix, ev_sl, ev_rev, ev_rgL, ev_rgT, ev_lset, ev_sset, ev_comp, ev_join, ev_split, ea_nil, ea_cons, eo_nil, ec_nil, ei_rg, ei_zip, ei_enum, nxt_nx, nxt_rt, es_set, es_setO, es_unp, es_par, es_app, es_sti, es_ifs, es_for, es_skip, es_seq, es_retv, turn_of, forB_of, bindT1, bindT2, bindEach, wipeE, getV, getB, start0, List.length_cons, List.length_nil, List.getElem?_cons_zero, List.getElem?_cons_succ, List.set_cons_zero, List.set_cons_succ, List.cons_append, List.nil_append, List.replicate_succ, List.replicate_zero, if_true, if_false, reduceIte, Nat.reduceAdd, Nat.reduceSub, Nat.reduceLeDiff, Bool.false_eq_true, Bool.true_eq_false, Bool.not_true, Bool.not_false, reduceCtorEq, Nat.zero_add, true_and, and_true, ei_var, ei_bv, ei_ix, ei_call, ei_bi, ei_tup, ei_lst, ei_comp, ei_rev, ei_bin, ei_rgL, ei_rgT, ei_sset, ei_sl, ei_split, ec_cmp, ec_cmp2, ec_an, ec_or, ec_nt, ec_call, ec_isi, ec_bv, ec_var, ec_bi, ec_cb, eo_ci, eo_bv, eo_var, eo_neg, eo_bin, eo_bi, eo_ix, eo_call, er_bv, er_ix, er_call, er_bi, er_tup, er_lst, er_comp, er_rev, er_bin, er_rgL, er_rgT, er_sset, er_lset, er_sl, er_split, er_join, er_cmp, er_cmp2, er_an, er_or, er_nt, er_isi, er_ci, er_cb, er_cn, er_cs, er_neg, valS_val, valS_own, retD_rt, retD_nx, boolD_b, intD_i, listD_l, tupD_t, ownS_o, items_l, items_t, isi_b, isi_i, isi_n, isi_ii, isi_tt, len_l, len_t, tu_l, tu_t, li_l, li_t, int_b, add_i, add_l, add_t, sub_i, opI_i, rev_l, rev_t, sl_l, sl_t, zip_t, zip_l, zip_tl, sq2_t, sq2_l, bi_len, bi_min, bi_max, bi_sum, bi_all, bi_any, bi_int, bi_str, bi_tuple, bi_list, bi_sorted, opB_add, opB_sub, opB_mul, opB_div, opB_mod, opC_eq, opC_ne, opC_lt, opC_le, opC_gt, opC_ge, opC_is, opC_isn, opC_isb, opC_isnb, opC_in, opC_nin, isN_n, isN_i, nI, biMin2, biMax2, opEq_nI, ixW0, ixW1, ix_e0, ix_e1, ix_e2, tup_e, decide_eq_true_eq, fd37, rg_nI (show w.many ≤ 100000 by omega)]
  refine ⟨len40 (by rw [List.length_range]; omega), comp_map (e := nI) (e' := encR) (far w) (fun a ha => ?_) ?_⟩
  · rw [List.mem_range] at ha
    simp only [o1_some, o1_none, o1_map, o1_if, o1_test, ev_var, ev_bv, ev_cn, ev_cb, ev_ci, ev_cs, ev_bin, ev_neg, ev_nt, ev_cmp, ev_cmp2, ev_an, ev_or, ev_tup, ev_lst, ev_call, ev_bi, ev_isi, ev_ix, ev_sl, ev_rev, ev_rgL, ev_rgT, ev_lset, ev_sset, ev_comp, ev_join, ev_split, ea_nil, ea_cons, eo_nil, ec_nil, ei_rg, ei_zip, ei_enum, nxt_nx, nxt_rt, es_set, es_setO, es_unp, es_par, es_app, es_sti, es_ifs, es_for, es_skip, es_seq, es_retv, turn_of, forB_of, bindT1, bindT2, bindEach, wipeE, getV, getB, start0, List.length_cons, List.length_nil, List.getElem?_cons_zero, List.getElem?_cons_succ, List.set_cons_zero, List.set_cons_succ, List.cons_append, List.nil_append, List.replicate_succ, List.replicate_zero, if_true, if_false, reduceIte, Nat.reduceAdd, Nat.reduceSub, Nat.reduceLeDiff, Bool.false_eq_true, Bool.true_eq_false, Bool.not_true, Bool.not_false, reduceCtorEq, Nat.zero_add, true_and, and_true, ei_var, ei_bv, ei_ix, ei_call, ei_bi, ei_tup, ei_lst, ei_comp, ei_rev, ei_bin, ei_rgL, ei_rgT, ei_sset, ei_sl, ei_split, ec_cmp, ec_cmp2, ec_an, ec_or, ec_nt, ec_call, ec_isi, ec_bv, ec_var, ec_bi, ec_cb, eo_ci, eo_bv, eo_var, eo_neg, eo_bin, eo_bi, eo_ix, eo_call, er_bv, er_ix, er_call, er_bi, er_tup, er_lst, er_comp, er_rev, er_bin, er_rgL, er_rgT, er_sset, er_lset, er_sl, er_split, er_join, er_cmp, er_cmp2, er_an, er_or, er_nt, er_isi, er_ci, er_cb, er_cn, er_cs, er_neg, valS_val, valS_own, retD_rt, retD_nx, boolD_b, intD_i, listD_l, tupD_t, ownS_o, items_l, items_t, isi_b, isi_i, isi_n, isi_ii, isi_tt, len_l, len_t, tu_l, tu_t, li_l, li_t, int_b, add_i, add_l, add_t, sub_i, opI_i, rev_l, rev_t, sl_l, sl_t, zip_t, zip_l, zip_tl, sq2_t, sq2_l, bi_len, bi_min, bi_max, bi_sum, bi_all, bi_any, bi_int, bi_str, bi_tuple, bi_list, bi_sorted, opB_add, opB_sub, opB_mul, opB_div, opB_mod, opC_eq, opC_ne, opC_lt, opC_le, opC_gt, opC_ge, opC_is, opC_isn, opC_isb, opC_isnb, opC_in, opC_nin, isN_n, isN_i, nI, biMin2, biMax2, opEq_nI, ixW0, ixW1, ix_e0, ix_e1, ix_e2, tup_e, decide_eq_true_eq, all_far (n + 1) hw ha]
  simp only [o1_some, o1_none, o1_map, o1_if, o1_test, ev_var, ev_bv, ev_cn, ev_cb, ev_ci, ev_cs, ev_bin, ev_neg, ev_nt, ev_cmp, ev_cmp2, ev_an, ev_or, ev_tup, ev_lst, ev_call, ev_bi, ev_isi, ev_ix, ev_sl, ev_rev, ev_rgL, ev_rgT, ev_lset, ev_sset, ev_comp, ev_join, ev_split, ea_nil, ea_cons, eo_nil, ec_nil, ei_rg, ei_zip, ei_enum, nxt_nx, nxt_rt, es_set, es_setO, es_unp, es_par, es_app, es_sti, es_ifs, es_for, es_skip, es_seq, es_retv, turn_of, forB_of, bindT1, bindT2, bindEach, wipeE, getV, getB, start0, List.length_cons, List.length_nil, List.getElem?_cons_zero, List.getElem?_cons_succ, List.set_cons_zero, List.set_cons_succ, List.cons_append, List.nil_append, List.replicate_succ, List.replicate_zero, if_true, if_false, reduceIte, Nat.reduceAdd, Nat.reduceSub, Nat.reduceLeDiff, Bool.false_eq_true, Bool.true_eq_false, Bool.not_true, Bool.not_false, reduceCtorEq, Nat.zero_add, true_and, and_true, ei_var, ei_bv, ei_ix, ei_call, ei_bi, ei_tup, ei_lst, ei_comp, ei_rev, ei_bin, ei_rgL, ei_rgT, ei_sset, ei_sl, ei_split, ec_cmp, ec_cmp2, ec_an, ec_or, ec_nt, ec_call, ec_isi, ec_bv, ec_var, ec_bi, ec_cb, eo_ci, eo_bv, eo_var, eo_neg, eo_bin, eo_bi, eo_ix, eo_call, er_bv, er_ix, er_call, er_bi, er_tup, er_lst, er_comp, er_rev, er_bin, er_rgL, er_rgT, er_sset, er_lset, er_sl, er_split, er_join, er_cmp, er_cmp2, er_an, er_or, er_nt, er_isi, er_ci, er_cb, er_cn, er_cs, er_neg, valS_val, valS_own, retD_rt, retD_nx, boolD_b, intD_i, listD_l, tupD_t, ownS_o, items_l, items_t, isi_b, isi_i, isi_n, isi_ii, isi_tt, len_l, len_t, tu_l, tu_t, li_l, li_t, int_b, add_i, add_l, add_t, sub_i, opI_i, rev_l, rev_t, sl_l, sl_t, zip_t, zip_l, zip_tl, sq2_t, sq2_l, bi_len, bi_min, bi_max, bi_sum, bi_all, bi_any, bi_int, bi_str, bi_tuple, bi_list, bi_sorted, opB_add, opB_sub, opB_mul, opB_div, opB_mod, opC_eq, opC_ne, opC_lt, opC_le, opC_gt, opC_ge, opC_is, opC_isn, opC_isb, opC_isnb, opC_in, opC_nin, isN_n, isN_i, nI, biMin2, biMax2, opEq_nI, ixW0, ixW1, ix_e0, ix_e1, ix_e2, tup_e, decide_eq_true_eq, mul_none (show w.many ≤ 1000 by omega)]
  rw [show List.map encR (List.map (far w) (List.range w.many)) = (fars w).map encR from rfl, show ([PyData.list (List.replicate w.many (.int 0))]) = (tbl0 w).map encR by simp [tbl0, encR, encO]]
  have hF0 : ∀ k, k < w.many → ((fars w).getD k []).length = w.many := fun k hk => by rw [fars_at hk, far_len]
  refine for_pre (e := nI) (fun pre env => Rok w es (pre.foldl (tgrp w) (tbl0 w, 1)).1 ∧ (pre.foldl (tgrp w) (tbl0 w, 1)).1.length = 2 ^ pre.length ∧ (pre.foldl (tgrp w) (tbl0 w, 1)).2 = 2 ^ pre.length ∧ ∃ s3 s6 s7 s8, env = [.val (encW w), .val (.tuple (es.map nI)), .val (.list ((fars w).map encR)), s3, .own ((pre.foldl (tgrp w) (tbl0 w, 1)).1.map encR), .val (.int ((2 ^ pre.length : Nat) : Int)), s6, s7, s8]) ?_ (fun pre e post env hx hI => ?_) (fun env hI => ?_)
  · refine ⟨⟨fun g hg => ?_, rfl, fun g g0 hg => ?_⟩, rfl, rfl, _, _, _, _, rfl⟩
    · have : g = 0 := by have : (([] : List Nat).foldl (tgrp w) (tbl0 w, 1)).1.length = 1 := rfl; omega
      subst this
      exact List.length_replicate
    · have : (([] : List Nat).foldl (tgrp w) (tbl0 w, 1)).1.length = 1 := rfl
      omega
  · obtain ⟨hR, hRl, hR2, s3, s6, s7, s8, rfl⟩ := hI
    have hi : es[pre.length]? = some e := by rw [hx, List.getElem?_append_right (Nat.le_refl _), Nat.sub_self]; rfl
    have hem : e < w.many := he e (List.mem_of_getElem? hi)
    have hpl : pre.length + 1 ≤ es.length := pre_len hx
    have hp2 : 2 * 2 ^ pre.length ≤ 128 := Nat.le_trans (by rw [Nat.mul_comm, ← Nat.pow_succ]; exact Nat.pow_le_pow_right (by decide) hpl) h128
    have e1 : tgrp w (pre.foldl (tgrp w) (tbl0 w, 1)) e = ((rgN (2 ^ pre.length) (2 * 2 ^ pre.length)).foldl (fun rows g => rows ++ [trow w e (2 ^ pre.length) rows g]) (pre.foldl (tgrp w) (tbl0 w, 1)).1, 2 * 2 ^ pre.length) := by
      rw [← hR2]
      rfl
    have e2 : 2 ^ (pre ++ [e]).length = 2 * 2 ^ pre.length := by rw [List.length_append, List.length_singleton, Nat.pow_succ]; omega
    rw [List.foldl_append, List.foldl_cons, List.foldl_nil, e1, e2]
    have tin := fun k hk => tin_ok hw he hi k _ hR hRl hk
    generalize hrows : (pre.foldl (tgrp w) (tbl0 w, 1)).1 = rows at *
    generalize hsz : 2 ^ pre.length = sz at *
    simp only [o1_some, o1_none, o1_map, o1_if, o1_test, ev_var, ev_bv, ev_cn, ev_cb, ev_ci, ev_cs, ev_bin, ev_neg, ev_nt, ev_cmp, ev_cmp2, ev_an, ev_or, ev_tup, ev_lst, ev_call, ev_bi, ev_isi, ev_ix, ev_sl, ev_rev, ev_rgL, ev_rgT, ev_lset, ev_sset, ev_comp, ev_join, ev_split, ea_nil, ea_cons, eo_nil, ec_nil, ei_rg, ei_zip, ei_enum, nxt_nx, nxt_rt, es_set, es_setO, es_unp, es_par, es_app, es_sti, es_ifs, es_for, es_skip, es_seq, es_retv, turn_of, forB_of, bindT1, bindT2, bindEach, wipeE, getV, getB, start0, List.length_cons, List.length_nil, List.getElem?_cons_zero, List.getElem?_cons_succ, List.set_cons_zero, List.set_cons_succ, List.cons_append, List.nil_append, List.replicate_succ, List.replicate_zero, if_true, if_false, reduceIte, Nat.reduceAdd, Nat.reduceSub, Nat.reduceLeDiff, Bool.false_eq_true, Bool.true_eq_false, Bool.not_true, Bool.not_false, reduceCtorEq, Nat.zero_add, true_and, and_true, ei_var, ei_bv, ei_ix, ei_call, ei_bi, ei_tup, ei_lst, ei_comp, ei_rev, ei_bin, ei_rgL, ei_rgT, ei_sset, ei_sl, ei_split, ec_cmp, ec_cmp2, ec_an, ec_or, ec_nt, ec_call, ec_isi, ec_bv, ec_var, ec_bi, ec_cb, eo_ci, eo_bv, eo_var, eo_neg, eo_bin, eo_bi, eo_ix, eo_call, er_bv, er_ix, er_call, er_bi, er_tup, er_lst, er_comp, er_rev, er_bin, er_rgL, er_rgT, er_sset, er_lset, er_sl, er_split, er_join, er_cmp, er_cmp2, er_an, er_or, er_nt, er_isi, er_ci, er_cb, er_cn, er_cs, er_neg, valS_val, valS_own, retD_rt, retD_nx, boolD_b, intD_i, listD_l, tupD_t, ownS_o, items_l, items_t, isi_b, isi_i, isi_n, isi_ii, isi_tt, len_l, len_t, tu_l, tu_t, li_l, li_t, int_b, add_i, add_l, add_t, sub_i, opI_i, rev_l, rev_t, sl_l, sl_t, zip_t, zip_l, zip_tl, sq2_t, sq2_l, bi_len, bi_min, bi_max, bi_sum, bi_all, bi_any, bi_int, bi_str, bi_tuple, bi_list, bi_sorted, opB_add, opB_sub, opB_mul, opB_div, opB_mod, opC_eq, opC_ne, opC_lt, opC_le, opC_gt, opC_ge, opC_is, opC_isn, opC_isb, opC_isnb, opC_in, opC_nin, isN_n, isN_i, nI, biMin2, biMax2, opEq_nI, ixW0, ixW1, ix_e0, ix_e1, ix_e2, tup_e, decide_eq_true_eq]
    rw [show (PyData.int 2) = .int ((2 : Nat) : Int) from rfl]
    simp only [mul_nn (show 2 < 1000 by decide), o1_some, rg_N (show sz ≤ 100000 by omega) (show 2 * sz ≤ 100000 by omega)]
    refine for_pre (e := nI) (fun pr env => ∃ s7, env = [.val (encW w), .val (.tuple (es.map nI)), .val (.list ((fars w).map encR)), s3, .own ((pr.foldl (fun rows g => rows ++ [trow w e sz rows g]) rows).map encR), .val (.int sz), .val (nI e), s7, s8]) ⟨_, rfl⟩ (fun pr g po env hx hI => ?_) (fun env hI => ?_)
    · obtain ⟨s7, rfl⟩ := hI
      obtain ⟨q1, q2, q3⟩ := rgN_pre hx
      obtain ⟨t1, t2⟩ := tin pr.length (by omega)
      rw [← q1] at t1 t2
      rw [List.foldl_append, List.foldl_cons, List.foldl_nil]
      generalize hrr : pr.foldl (fun rows g => rows ++ [trow w e sz rows g]) rows = rr at *
      simp only [o1_some, o1_none, o1_map, o1_if, o1_test, ev_var, ev_bv, ev_cn, ev_cb, ev_ci, ev_cs, ev_bin, ev_neg, ev_nt, ev_cmp, ev_cmp2, ev_an, ev_or, ev_tup, ev_lst, ev_call, ev_bi, ev_isi, ev_ix, ev_sl, ev_rev, ev_rgL, ev_rgT, ev_lset, ev_sset, ev_comp, ev_join, ev_split, ea_nil, ea_cons, eo_nil, ec_nil, ei_rg, ei_zip, ei_enum, nxt_nx, nxt_rt, es_set, es_setO, es_unp, es_par, es_app, es_sti, es_ifs, es_for, es_skip, es_seq, es_retv, turn_of, forB_of, bindT1, bindT2, bindEach, wipeE, getV, getB, start0, List.length_cons, List.length_nil, List.getElem?_cons_zero, List.getElem?_cons_succ, List.set_cons_zero, List.set_cons_succ, List.cons_append, List.nil_append, List.replicate_succ, List.replicate_zero, if_true, if_false, reduceIte, Nat.reduceAdd, Nat.reduceSub, Nat.reduceLeDiff, Bool.false_eq_true, Bool.true_eq_false, Bool.not_true, Bool.not_false, reduceCtorEq, Nat.zero_add, true_and, and_true, ei_var, ei_bv, ei_ix, ei_call, ei_bi, ei_tup, ei_lst, ei_comp, ei_rev, ei_bin, ei_rgL, ei_rgT, ei_sset, ei_sl, ei_split, ec_cmp, ec_cmp2, ec_an, ec_or, ec_nt, ec_call, ec_isi, ec_bv, ec_var, ec_bi, ec_cb, eo_ci, eo_bv, eo_var, eo_neg, eo_bin, eo_bi, eo_ix, eo_call, er_bv, er_ix, er_call, er_bi, er_tup, er_lst, er_comp, er_rev, er_bin, er_rgL, er_rgT, er_sset, er_lset, er_sl, er_split, er_join, er_cmp, er_cmp2, er_an, er_or, er_nt, er_isi, er_ci, er_cb, er_cn, er_cs, er_neg, valS_val, valS_own, retD_rt, retD_nx, boolD_b, intD_i, listD_l, tupD_t, ownS_o, items_l, items_t, isi_b, isi_i, isi_n, isi_ii, isi_tt, len_l, len_t, tu_l, tu_t, li_l, li_t, int_b, add_i, add_l, add_t, sub_i, opI_i, rev_l, rev_t, sl_l, sl_t, zip_t, zip_l, zip_tl, sq2_t, sq2_l, bi_len, bi_min, bi_max, bi_sum, bi_all, bi_any, bi_int, bi_str, bi_tuple, bi_list, bi_sorted, opB_add, opB_sub, opB_mul, opB_div, opB_mod, opC_eq, opC_ne, opC_lt, opC_le, opC_gt, opC_ge, opC_is, opC_isn, opC_isb, opC_isnb, opC_in, opC_nin, isN_n, isN_i, nI, biMin2, biMax2, opEq_nI, ixW0, ixW1, ix_e0, ix_e1, ix_e2, tup_e, decide_eq_true_eq]
      by_cases hgs : g = sz
      · have e3 : trow w e sz rr g = (fars w).getD e [] := by unfold trow; rw [if_pos hgs]
        simp only [hgs, decide_true, o1_some, o1_none, o1_map, o1_if, o1_test, ev_var, ev_bv, ev_cn, ev_cb, ev_ci, ev_cs, ev_bin, ev_neg, ev_nt, ev_cmp, ev_cmp2, ev_an, ev_or, ev_tup, ev_lst, ev_call, ev_bi, ev_isi, ev_ix, ev_sl, ev_rev, ev_rgL, ev_rgT, ev_lset, ev_sset, ev_comp, ev_join, ev_split, ea_nil, ea_cons, eo_nil, ec_nil, ei_rg, ei_zip, ei_enum, nxt_nx, nxt_rt, es_set, es_setO, es_unp, es_par, es_app, es_sti, es_ifs, es_for, es_skip, es_seq, es_retv, turn_of, forB_of, bindT1, bindT2, bindEach, wipeE, getV, getB, start0, List.length_cons, List.length_nil, List.getElem?_cons_zero, List.getElem?_cons_succ, List.set_cons_zero, List.set_cons_succ, List.cons_append, List.nil_append, List.replicate_succ, List.replicate_zero, if_true, if_false, reduceIte, Nat.reduceAdd, Nat.reduceSub, Nat.reduceLeDiff, Bool.false_eq_true, Bool.true_eq_false, Bool.not_true, Bool.not_false, reduceCtorEq, Nat.zero_add, true_and, and_true, ei_var, ei_bv, ei_ix, ei_call, ei_bi, ei_tup, ei_lst, ei_comp, ei_rev, ei_bin, ei_rgL, ei_rgT, ei_sset, ei_sl, ei_split, ec_cmp, ec_cmp2, ec_an, ec_or, ec_nt, ec_call, ec_isi, ec_bv, ec_var, ec_bi, ec_cb, eo_ci, eo_bv, eo_var, eo_neg, eo_bin, eo_bi, eo_ix, eo_call, er_bv, er_ix, er_call, er_bi, er_tup, er_lst, er_comp, er_rev, er_bin, er_rgL, er_rgT, er_sset, er_lset, er_sl, er_split, er_join, er_cmp, er_cmp2, er_an, er_or, er_nt, er_isi, er_ci, er_cb, er_cn, er_cs, er_neg, valS_val, valS_own, retD_rt, retD_nx, boolD_b, intD_i, listD_l, tupD_t, ownS_o, items_l, items_t, isi_b, isi_i, isi_n, isi_ii, isi_tt, len_l, len_t, tu_l, tu_t, li_l, li_t, int_b, add_i, add_l, add_t, sub_i, opI_i, rev_l, rev_t, sl_l, sl_t, zip_t, zip_l, zip_tl, sq2_t, sq2_l, bi_len, bi_min, bi_max, bi_sum, bi_all, bi_any, bi_int, bi_str, bi_tuple, bi_list, bi_sorted, opB_add, opB_sub, opB_mul, opB_div, opB_mod, opC_eq, opC_ne, opC_lt, opC_le, opC_gt, opC_ge, opC_is, opC_isn, opC_isb, opC_isnb, opC_in, opC_nin, isN_n, isN_i, nI, biMin2, biMax2, opEq_nI, ixW0, ixW1, ix_e0, ix_e1, ix_e2, tup_e, decide_eq_true_eq, ix_R (show e < (fars w).length by rw [fars_len]; exact hem), li_R, List.length_map, app_R]
        rw [hgs] at e3
        rw [e3]
        exact ⟨by omega, _, rfl⟩
      · have e3 : trow w e sz rr g = spr (fars w) (prow rr g w.many) := by unfold trow; rw [if_neg hgs]
        have hpr := parted_row n (rows := rr) (g := g) (many := w.many) (by omega) (by omega) (by omega) t1.len
        have hsp := spread n (F := fars w) (row := prow rr g w.many) (by rw [prow_len]; omega) (by rw [prow_len, fars_len]; omega) (fun k hk => by rw [prow_len] at hk ⊢; exact hF0 k hk)
        simp only [hgs, decide_false, o1_some, o1_none, o1_map, o1_if, o1_test, ev_var, ev_bv, ev_cn, ev_cb, ev_ci, ev_cs, ev_bin, ev_neg, ev_nt, ev_cmp, ev_cmp2, ev_an, ev_or, ev_tup, ev_lst, ev_call, ev_bi, ev_isi, ev_ix, ev_sl, ev_rev, ev_rgL, ev_rgT, ev_lset, ev_sset, ev_comp, ev_join, ev_split, ea_nil, ea_cons, eo_nil, ec_nil, ei_rg, ei_zip, ei_enum, nxt_nx, nxt_rt, es_set, es_setO, es_unp, es_par, es_app, es_sti, es_ifs, es_for, es_skip, es_seq, es_retv, turn_of, forB_of, bindT1, bindT2, bindEach, wipeE, getV, getB, start0, List.length_cons, List.length_nil, List.getElem?_cons_zero, List.getElem?_cons_succ, List.set_cons_zero, List.set_cons_succ, List.cons_append, List.nil_append, List.replicate_succ, List.replicate_zero, if_true, if_false, reduceIte, Nat.reduceAdd, Nat.reduceSub, Nat.reduceLeDiff, Bool.false_eq_true, Bool.true_eq_false, Bool.not_true, Bool.not_false, reduceCtorEq, Nat.zero_add, true_and, and_true, ei_var, ei_bv, ei_ix, ei_call, ei_bi, ei_tup, ei_lst, ei_comp, ei_rev, ei_bin, ei_rgL, ei_rgT, ei_sset, ei_sl, ei_split, ec_cmp, ec_cmp2, ec_an, ec_or, ec_nt, ec_call, ec_isi, ec_bv, ec_var, ec_bi, ec_cb, eo_ci, eo_bv, eo_var, eo_neg, eo_bin, eo_bi, eo_ix, eo_call, er_bv, er_ix, er_call, er_bi, er_tup, er_lst, er_comp, er_rev, er_bin, er_rgL, er_rgT, er_sset, er_lset, er_sl, er_split, er_join, er_cmp, er_cmp2, er_an, er_or, er_nt, er_isi, er_ci, er_cb, er_cn, er_cs, er_neg, valS_val, valS_own, retD_rt, retD_nx, boolD_b, intD_i, listD_l, tupD_t, ownS_o, items_l, items_t, isi_b, isi_i, isi_n, isi_ii, isi_tt, len_l, len_t, tu_l, tu_t, li_l, li_t, int_b, add_i, add_l, add_t, sub_i, opI_i, rev_l, rev_t, sl_l, sl_t, zip_t, zip_l, zip_tl, sq2_t, sq2_l, bi_len, bi_min, bi_max, bi_sum, bi_all, bi_any, bi_int, bi_str, bi_tuple, bi_list, bi_sorted, opB_add, opB_sub, opB_mul, opB_div, opB_mod, opC_eq, opC_ne, opC_lt, opC_le, opC_gt, opC_ge, opC_is, opC_isn, opC_isb, opC_isnb, opC_in, opC_nin, isN_n, isN_i, nI, biMin2, biMax2, opEq_nI, ixW0, ixW1, ix_e0, ix_e1, ix_e2, tup_e, decide_eq_true_eq, hpr, hsp, List.length_map, app_R, e3]
        exact ⟨by omega, _, rfl⟩
    · obtain ⟨s7, rfl⟩ := hI
      obtain ⟨t1, t2⟩ := tin sz (Nat.le_refl _)
      rw [show sz + sz = 2 * sz by omega] at t1 t2
      simp only [o1_some, o1_none, o1_map, o1_if, o1_test, ev_var, ev_bv, ev_cn, ev_cb, ev_ci, ev_cs, ev_bin, ev_neg, ev_nt, ev_cmp, ev_cmp2, ev_an, ev_or, ev_tup, ev_lst, ev_call, ev_bi, ev_isi, ev_ix, ev_sl, ev_rev, ev_rgL, ev_rgT, ev_lset, ev_sset, ev_comp, ev_join, ev_split, ea_nil, ea_cons, eo_nil, ec_nil, ei_rg, ei_zip, ei_enum, nxt_nx, nxt_rt, es_set, es_setO, es_unp, es_par, es_app, es_sti, es_ifs, es_for, es_skip, es_seq, es_retv, turn_of, forB_of, bindT1, bindT2, bindEach, wipeE, getV, getB, start0, List.length_cons, List.length_nil, List.getElem?_cons_zero, List.getElem?_cons_succ, List.set_cons_zero, List.set_cons_succ, List.cons_append, List.nil_append, List.replicate_succ, List.replicate_zero, if_true, if_false, reduceIte, Nat.reduceAdd, Nat.reduceSub, Nat.reduceLeDiff, Bool.false_eq_true, Bool.true_eq_false, Bool.not_true, Bool.not_false, reduceCtorEq, Nat.zero_add, true_and, and_true, ei_var, ei_bv, ei_ix, ei_call, ei_bi, ei_tup, ei_lst, ei_comp, ei_rev, ei_bin, ei_rgL, ei_rgT, ei_sset, ei_sl, ei_split, ec_cmp, ec_cmp2, ec_an, ec_or, ec_nt, ec_call, ec_isi, ec_bv, ec_var, ec_bi, ec_cb, eo_ci, eo_bv, eo_var, eo_neg, eo_bin, eo_bi, eo_ix, eo_call, er_bv, er_ix, er_call, er_bi, er_tup, er_lst, er_comp, er_rev, er_bin, er_rgL, er_rgT, er_sset, er_lset, er_sl, er_split, er_join, er_cmp, er_cmp2, er_an, er_or, er_nt, er_isi, er_ci, er_cb, er_cn, er_cs, er_neg, valS_val, valS_own, retD_rt, retD_nx, boolD_b, intD_i, listD_l, tupD_t, ownS_o, items_l, items_t, isi_b, isi_i, isi_n, isi_ii, isi_tt, len_l, len_t, tu_l, tu_t, li_l, li_t, int_b, add_i, add_l, add_t, sub_i, opI_i, rev_l, rev_t, sl_l, sl_t, zip_t, zip_l, zip_tl, sq2_t, sq2_l, bi_len, bi_min, bi_max, bi_sum, bi_all, bi_any, bi_int, bi_str, bi_tuple, bi_list, bi_sorted, opB_add, opB_sub, opB_mul, opB_div, opB_mod, opC_eq, opC_ne, opC_lt, opC_le, opC_gt, opC_ge, opC_is, opC_isn, opC_isb, opC_isnb, opC_in, opC_nin, isN_n, isN_i, nI, biMin2, biMax2, opEq_nI, ixW0, ixW1, ix_e0, ix_e1, ix_e2, tup_e, decide_eq_true_eq]
      rw [mul_nn (show 2 < 1000 by decide), o1_some]
      exact ⟨t1, t2, _, _, _, _, rfl⟩
  · obtain ⟨hR, hRl, hR2, s3, s6, s7, s8, rfl⟩ := hI
    rw [nxt_nx, o1_of (es_shr rfl)]
    simp only [o1_some, o1_none, o1_map, o1_if, o1_test, ev_var, ev_bv, ev_cn, ev_cb, ev_ci, ev_cs, ev_bin, ev_neg, ev_nt, ev_cmp, ev_cmp2, ev_an, ev_or, ev_tup, ev_lst, ev_call, ev_bi, ev_isi, ev_ix, ev_sl, ev_rev, ev_rgL, ev_rgT, ev_lset, ev_sset, ev_comp, ev_join, ev_split, ea_nil, ea_cons, eo_nil, ec_nil, ei_rg, ei_zip, ei_enum, nxt_nx, nxt_rt, es_set, es_setO, es_unp, es_par, es_app, es_sti, es_ifs, es_for, es_skip, es_seq, es_retv, turn_of, forB_of, bindT1, bindT2, bindEach, wipeE, getV, getB, start0, List.length_cons, List.length_nil, List.getElem?_cons_zero, List.getElem?_cons_succ, List.set_cons_zero, List.set_cons_succ, List.cons_append, List.nil_append, List.replicate_succ, List.replicate_zero, if_true, if_false, reduceIte, Nat.reduceAdd, Nat.reduceSub, Nat.reduceLeDiff, Bool.false_eq_true, Bool.true_eq_false, Bool.not_true, Bool.not_false, reduceCtorEq, Nat.zero_add, true_and, and_true, ei_var, ei_bv, ei_ix, ei_call, ei_bi, ei_tup, ei_lst, ei_comp, ei_rev, ei_bin, ei_rgL, ei_rgT, ei_sset, ei_sl, ei_split, ec_cmp, ec_cmp2, ec_an, ec_or, ec_nt, ec_call, ec_isi, ec_bv, ec_var, ec_bi, ec_cb, eo_ci, eo_bv, eo_var, eo_neg, eo_bin, eo_bi, eo_ix, eo_call, er_bv, er_ix, er_call, er_bi, er_tup, er_lst, er_comp, er_rev, er_bin, er_rgL, er_rgT, er_sset, er_lset, er_sl, er_split, er_join, er_cmp, er_cmp2, er_an, er_or, er_nt, er_isi, er_ci, er_cb, er_cn, er_cs, er_neg, valS_val, valS_own, retD_rt, retD_nx, boolD_b, intD_i, listD_l, tupD_t, ownS_o, items_l, items_t, isi_b, isi_i, isi_n, isi_ii, isi_tt, len_l, len_t, tu_l, tu_t, li_l, li_t, int_b, add_i, add_l, add_t, sub_i, opI_i, rev_l, rev_t, sl_l, sl_t, zip_t, zip_l, zip_tl, sq2_t, sq2_l, bi_len, bi_min, bi_max, bi_sum, bi_all, bi_any, bi_int, bi_str, bi_tuple, bi_list, bi_sorted, opB_add, opB_sub, opB_mul, opB_div, opB_mod, opC_eq, opC_ne, opC_lt, opC_le, opC_gt, opC_ge, opC_is, opC_isn, opC_isb, opC_isnb, opC_in, opC_nin, isN_n, isN_i, nI, biMin2, biMax2, opEq_nI, ixW0, ixW1, ix_e0, ix_e1, ix_e2, tup_e, decide_eq_true_eq]
    refine ⟨len40 (by rw [hRl]; omega), comp_map (e := encR) (e' := fun r : Row => .tuple (r.map encO)) id (fun r hr => ?_) ?_⟩
    · simp only [o1_some, o1_none, o1_map, o1_if, o1_test, ev_var, ev_bv, ev_cn, ev_cb, ev_ci, ev_cs, ev_bin, ev_neg, ev_nt, ev_cmp, ev_cmp2, ev_an, ev_or, ev_tup, ev_lst, ev_call, ev_bi, ev_isi, ev_ix, ev_sl, ev_rev, ev_rgL, ev_rgT, ev_lset, ev_sset, ev_comp, ev_join, ev_split, ea_nil, ea_cons, eo_nil, ec_nil, ei_rg, ei_zip, ei_enum, nxt_nx, nxt_rt, es_set, es_setO, es_unp, es_par, es_app, es_sti, es_ifs, es_for, es_skip, es_seq, es_retv, turn_of, forB_of, bindT1, bindT2, bindEach, wipeE, getV, getB, start0, List.length_cons, List.length_nil, List.getElem?_cons_zero, List.getElem?_cons_succ, List.set_cons_zero, List.set_cons_succ, List.cons_append, List.nil_append, List.replicate_succ, List.replicate_zero, if_true, if_false, reduceIte, Nat.reduceAdd, Nat.reduceSub, Nat.reduceLeDiff, Bool.false_eq_true, Bool.true_eq_false, Bool.not_true, Bool.not_false, reduceCtorEq, Nat.zero_add, true_and, and_true, ei_var, ei_bv, ei_ix, ei_call, ei_bi, ei_tup, ei_lst, ei_comp, ei_rev, ei_bin, ei_rgL, ei_rgT, ei_sset, ei_sl, ei_split, ec_cmp, ec_cmp2, ec_an, ec_or, ec_nt, ec_call, ec_isi, ec_bv, ec_var, ec_bi, ec_cb, eo_ci, eo_bv, eo_var, eo_neg, eo_bin, eo_bi, eo_ix, eo_call, er_bv, er_ix, er_call, er_bi, er_tup, er_lst, er_comp, er_rev, er_bin, er_rgL, er_rgT, er_sset, er_lset, er_sl, er_split, er_join, er_cmp, er_cmp2, er_an, er_or, er_nt, er_isi, er_ci, er_cb, er_cn, er_cs, er_neg, valS_val, valS_own, retD_rt, retD_nx, boolD_b, intD_i, listD_l, tupD_t, ownS_o, items_l, items_t, isi_b, isi_i, isi_n, isi_ii, isi_tt, len_l, len_t, tu_l, tu_t, li_l, li_t, int_b, add_i, add_l, add_t, sub_i, opI_i, rev_l, rev_t, sl_l, sl_t, zip_t, zip_l, zip_tl, sq2_t, sq2_l, bi_len, bi_min, bi_max, bi_sum, bi_all, bi_any, bi_int, bi_str, bi_tuple, bi_list, bi_sorted, opB_add, opB_sub, opB_mul, opB_div, opB_mod, opC_eq, opC_ne, opC_lt, opC_le, opC_gt, opC_ge, opC_is, opC_isn, opC_isb, opC_isnb, opC_in, opC_nin, isN_n, isN_i, nI, biMin2, biMax2, opEq_nI, ixW0, ixW1, ix_e0, ix_e1, ix_e2, tup_e, decide_eq_true_eq, encR]
      rfl
    · simp only [o1_some, o1_none, o1_map, o1_if, o1_test, ev_var, ev_bv, ev_cn, ev_cb, ev_ci, ev_cs, ev_bin, ev_neg, ev_nt, ev_cmp, ev_cmp2, ev_an, ev_or, ev_tup, ev_lst, ev_call, ev_bi, ev_isi, ev_ix, ev_sl, ev_rev, ev_rgL, ev_rgT, ev_lset, ev_sset, ev_comp, ev_join, ev_split, ea_nil, ea_cons, eo_nil, ec_nil, ei_rg, ei_zip, ei_enum, nxt_nx, nxt_rt, es_set, es_setO, es_unp, es_par, es_app, es_sti, es_ifs, es_for, es_skip, es_seq, es_retv, turn_of, forB_of, bindT1, bindT2, bindEach, wipeE, getV, getB, start0, List.length_cons, List.length_nil, List.getElem?_cons_zero, List.getElem?_cons_succ, List.set_cons_zero, List.set_cons_succ, List.cons_append, List.nil_append, List.replicate_succ, List.replicate_zero, if_true, if_false, reduceIte, Nat.reduceAdd, Nat.reduceSub, Nat.reduceLeDiff, Bool.false_eq_true, Bool.true_eq_false, Bool.not_true, Bool.not_false, reduceCtorEq, Nat.zero_add, true_and, and_true, ei_var, ei_bv, ei_ix, ei_call, ei_bi, ei_tup, ei_lst, ei_comp, ei_rev, ei_bin, ei_rgL, ei_rgT, ei_sset, ei_sl, ei_split, ec_cmp, ec_cmp2, ec_an, ec_or, ec_nt, ec_call, ec_isi, ec_bv, ec_var, ec_bi, ec_cb, eo_ci, eo_bv, eo_var, eo_neg, eo_bin, eo_bi, eo_ix, eo_call, er_bv, er_ix, er_call, er_bi, er_tup, er_lst, er_comp, er_rev, er_bin, er_rgL, er_rgT, er_sset, er_lset, er_sl, er_split, er_join, er_cmp, er_cmp2, er_an, er_or, er_nt, er_isi, er_ci, er_cb, er_cn, er_cs, er_neg, valS_val, valS_own, retD_rt, retD_nx, boolD_b, intD_i, listD_l, tupD_t, ownS_o, items_l, items_t, isi_b, isi_i, isi_n, isi_ii, isi_tt, len_l, len_t, tu_l, tu_t, li_l, li_t, int_b, add_i, add_l, add_t, sub_i, opI_i, rev_l, rev_t, sl_l, sl_t, zip_t, zip_l, zip_tl, sq2_t, sq2_l, bi_len, bi_min, bi_max, bi_sum, bi_all, bi_any, bi_int, bi_str, bi_tuple, bi_list, bi_sorted, opB_add, opB_sub, opB_mul, opB_div, opB_mod, opC_eq, opC_ne, opC_lt, opC_le, opC_gt, opC_ge, opC_is, opC_isn, opC_isb, opC_isnb, opC_in, opC_nin, isN_n, isN_i, nI, biMin2, biMax2, opEq_nI, ixW0, ixW1, ix_e0, ix_e1, ix_e2, tup_e, decide_eq_true_eq, List.map_id]
      rfl
theorem least_cost (n : Nat) {w : Web} (hw : Wl w) {es : List Nat} (he : ∀ e ∈ es, e < w.many) (hn : es ≠ []) (hl : es.length ≤ 7) : Ph (n + 4) 39 [encW w, .tuple (es.map nI)] = some (encO (Lc w es)) := by
  show evF (Ph (n + 3)) fd39 [encW w, .tuple (es.map nI)] = _
  rw [← o1_eq, ef_of rfl]
  obtain ⟨hR, hRl⟩ := tbl_ok hw he
  have h0 : 0 < es.length := List.length_pos_iff.mpr hn
  have hp : 1 < 2 ^ es.length := Nat.one_lt_two_pow (by omega)
  have hx : opIx (encTb (tbl w es)) (.int (-1)) = some (.tuple (((tbl w es).getD (2 ^ es.length - 1) []).map encO)) := by
    simp only [opIx, encTb]
    unfold L2.atI L2.ixN
    rw [List.length_map, hRl, if_neg (by omega), if_pos (by omega)]
    simp only [Option.bind_some]
    rw [show -1 + ((2 ^ es.length : Nat) : Int) = ((2 ^ es.length - 1 : Nat) : Int) by omega, Int.toNat_natCast, List.getElem?_map, List.getD_eq_getElem?_getD, List.getElem?_eq_getElem (by omega)]
    rfl
  have hh : opIx (.tuple (es.map nI)) (.int 0) = some (nI (es.headD 0)) := by
    cases es with
    | nil => exact (hn rfl).elim
    | cons a r => exact ix_t (f := a :: r) (k := 0) h0
  have hy : ∀ (r : Row) (k : Nat), k < r.length → opIx (.tuple (r.map encO)) (.int k) = some (encO (at_ r k)) := fun r k h => ix_O h
  simp only [o1_some, o1_none, o1_map, o1_if, o1_test, ev_var, ev_bv, ev_cn, ev_cb, ev_ci, ev_cs, ev_bin, ev_neg, ev_nt, ev_cmp, ev_cmp2, ev_an, ev_or, ev_tup, ev_lst, ev_call, ev_bi, ev_isi, ev_ix, ev_sl, ev_rev, ev_rgL, ev_rgT, ev_lset, ev_sset, ev_comp, ev_join, ev_split, ea_nil, ea_cons, eo_nil, ec_nil, ei_rg, ei_zip, ei_enum, nxt_nx, nxt_rt, es_set, es_setO, es_unp, es_par, es_app, es_sti, es_ifs, es_for, es_skip, es_seq, es_retv, turn_of, forB_of, bindT1, bindT2, bindEach, wipeE, getV, getB, start0, List.length_cons, List.length_nil, List.getElem?_cons_zero, List.getElem?_cons_succ, List.set_cons_zero, List.set_cons_succ, List.cons_append, List.nil_append, List.replicate_succ, List.replicate_zero, if_true, if_false, reduceIte, Nat.reduceAdd, Nat.reduceSub, Nat.reduceLeDiff, Bool.false_eq_true, Bool.true_eq_false, Bool.not_true, Bool.not_false, reduceCtorEq, Nat.zero_add, true_and, and_true, ei_var, ei_bv, ei_ix, ei_call, ei_bi, ei_tup, ei_lst, ei_comp, ei_rev, ei_bin, ei_rgL, ei_rgT, ei_sset, ei_sl, ei_split, ec_cmp, ec_cmp2, ec_an, ec_or, ec_nt, ec_call, ec_isi, ec_bv, ec_var, ec_bi, ec_cb, eo_ci, eo_bv, eo_var, eo_neg, eo_bin, eo_bi, eo_ix, eo_call, er_bv, er_ix, er_call, er_bi, er_tup, er_lst, er_comp, er_rev, er_bin, er_rgL, er_rgT, er_sset, er_lset, er_sl, er_split, er_join, er_cmp, er_cmp2, er_an, er_or, er_nt, er_isi, er_ci, er_cb, er_cn, er_cs, er_neg, valS_val, valS_own, retD_rt, retD_nx, boolD_b, intD_i, listD_l, tupD_t, ownS_o, items_l, items_t, isi_b, isi_i, isi_n, isi_ii, isi_tt, len_l, len_t, tu_l, tu_t, li_l, li_t, int_b, add_i, add_l, add_t, sub_i, opI_i, rev_l, rev_t, sl_l, sl_t, zip_t, zip_l, zip_tl, sq2_t, sq2_l, bi_len, bi_min, bi_max, bi_sum, bi_all, bi_any, bi_int, bi_str, bi_tuple, bi_list, bi_sorted, opB_add, opB_sub, opB_mul, opB_div, opB_mod, opC_eq, opC_ne, opC_lt, opC_le, opC_gt, opC_ge, opC_is, opC_isn, opC_isb, opC_isnb, opC_in, opC_nin, isN_n, isN_i, nI, biMin2, biMax2, opEq_nI, ixW0, ixW1, ix_e0, ix_e1, ix_e2, tup_e, decide_eq_true_eq, fd39, table n hw he hl, hx, hh]
  rw [hy _ _ (by rw [hR.len _ (by omega)]; exact he _ (head_mem hn)), o1_some]
  rfl
end J

/-! Webs changed: what becomes of the least cost. -/
namespace J
theorem Cn.sim {w w' : Web} {S S' : Nat → Prop} (f : Nat → Nat) (h : ∀ k, S k → k < w.ties.length → Cn w' S' (f (w.tie k).1) (f (w.tie k).2.1)) {a b : Nat} (c : Cn w S a b) : Cn w' S' (f a) (f b) := by
  induction c with
  | rf a => exact .rf _
  | tie k hk hl => exact h k hk hl
  | sm _ ih => exact ih.sm
  | tr _ _ i1 i2 => exact i1.tr i2
theorem cst_congr {w w' : Web} : ∀ {is : List Nat}, (∀ k ∈ is, (w.tie k).2.2 = (w'.tie k).2.2) → cst w is = cst w' is
  | [], _ => rfl
  | k :: r, h => by rw [cst_cons, cst_cons, h k List.mem_cons_self, cst_congr fun j hj => h j (List.mem_cons_of_mem _ hj)]
theorem tie_idx {w : Web} {t : T3} (h : t ∈ w.ties) : w.ties.idxOf t < w.ties.length ∧ w.tie (w.ties.idxOf t) = t := by
  have hl := List.idxOf_lt_length_iff.mpr h
  refine ⟨hl, ?_⟩
  unfold Web.tie
  rw [List.getD_eq_getElem?_getD, List.getElem?_eq_getElem hl]
  exact List.getElem_idxOf hl
theorem Ac.of_set {w w' : Web} {is es : List Nat} {c : Nat} (hj : Jn w is es) (h : ∀ k ∈ is, w.tie k ∈ w'.ties) (hc : cst w is ≤ c) : Ac w' es c := by
  refine ⟨is.map fun k => w'.ties.idxOf (w.tie k), fun k hk => ?_, fun a ha b hb => ?_, Nat.le_trans (Nat.le_of_eq ?_) hc⟩
  · obtain ⟨j, hj, rfl⟩ := List.mem_map.mp hk
    exact (tie_idx (h j hj)).1
  · refine Cn.sim (w := w) (w' := w') id (fun k hk _ => ?_) (hj a ha b hb)
    obtain ⟨h1, h2⟩ := tie_idx (h k hk)
    have := Cn.tie (w := w') (S := (· ∈ is.map fun k => w'.ties.idxOf (w.tie k))) (w'.ties.idxOf (w.tie k)) (List.mem_map.mpr ⟨k, hk, rfl⟩) h1
    rw [h2] at this
    exact this
  · clear hj hc
    induction is with
    | nil => rfl
    | cons k r ih => rw [List.map_cons, cst_cons, cst_cons, (tie_idx (h k List.mem_cons_self)).2, ih fun j hj => h j (List.mem_cons_of_mem _ hj)]
theorem Ac.more {w w' : Web} {es : List Nat} {c : Nat} (h : ∀ t ∈ w.ties, t ∈ w'.ties) (ha : Ac w es c) : Ac w' es c := by
  obtain ⟨is, h1, h2, h3⟩ := ha
  exact Ac.of_set h2 (fun k hk => h _ (tie_mem (h1 k hk))) h3
/-! some ties alone -/
/-! a tie otherwise; a tie less -/
def Web.put (w : Web) (k : Nat) (t : T3) : Web := ⟨w.many, w.ties.set k t⟩
def Web.at1 (w : Web) (k p : Nat) : Web := w.put k ((w.tie k).1, (w.tie k).2.1, p)
theorem put_tie {w : Web} {k j : Nat} {t : T3} (hk : k < w.ties.length) : (w.put k t).tie j = if j = k then t else w.tie j := by
  unfold Web.put Web.tie
  dsimp only
  rw [List.getD_eq_getElem?_getD, List.getElem?_set]
  by_cases h : k = j
  · subst h; rw [if_pos rfl, if_pos rfl, if_pos hk]; rfl
  · rw [if_neg h, if_neg (Ne.symm h), List.getD_eq_getElem?_getD]
theorem put_len {w : Web} {k : Nat} {t : T3} : (w.put k t).ties.length = w.ties.length := by unfold Web.put; simp
theorem at1_cn {w : Web} {k p : Nat} (hk : k < w.ties.length) {S : Nat → Prop} {a b : Nat} : Cn (w.at1 k p) S a b ↔ Cn w S a b := by
  have e : ∀ j, ((w.at1 k p).tie j).1 = (w.tie j).1 ∧ ((w.at1 k p).tie j).2.1 = (w.tie j).2.1 := fun j => by
    unfold Web.at1
    rw [put_tie hk]
    split
    · rename_i h; subst h; exact ⟨rfl, rfl⟩
    · exact ⟨rfl, rfl⟩
  constructor
  · intro c
    refine Cn.sim id (fun j hj hl => ?_) c
    rw [(e j).1, (e j).2]
    unfold Web.at1 at hl
    rw [put_len] at hl
    exact .tie j hj hl
  · intro c
    refine Cn.sim id (fun j hj hl => ?_) c
    have := Cn.tie (w := w.at1 k p) j hj (by unfold Web.at1; rw [put_len]; exact hl)
    rw [(e j).1, (e j).2] at this
    exact this
theorem at1_cst {w : Web} {k p : Nat} (hk : k < w.ties.length) : ∀ {is : List Nat}, is.Nodup → cst (w.at1 k p) is + (if k ∈ is then (w.tie k).2.2 else 0) = cst w is + (if k ∈ is then p else 0)
  | [], _ => rfl
  | j :: r, hn => by
    rw [List.nodup_cons] at hn
    have ih := at1_cst (w := w) (p := p) hk hn.2
    have e : (w.at1 k p).tie j = if j = k then ((w.tie k).1, (w.tie k).2.1, p) else w.tie j := put_tie hk
    rw [cst_cons, cst_cons, e]
    by_cases h : j = k
    · subst h
      rw [if_pos rfl]
      rw [if_neg hn.1, if_neg hn.1] at ih
      simp only [List.mem_cons_self, if_true]
      omega
    · rw [if_neg h]
      have : (k ∈ j :: r) ↔ k ∈ r := by rw [List.mem_cons]; exact ⟨fun z => z.resolve_left (Ne.symm h), .inr⟩
      simp only [this]
      omega
theorem at1_ok {w : Web} {k p : Nat} {is : List Nat} : Ok (w.at1 k p) is ↔ Ok w is := by unfold Ok Web.at1; rw [put_len]
theorem at1_dn {w : Web} {k p : Nat} (hk : k < w.ties.length) {es : List Nat} {c : Nat} (h : Ac (w.at1 k p) es c) : Ac w es (c + ((w.tie k).2.2 - p)) := by
  obtain ⟨is, h1, h2, h3, h4⟩ := h.rise
  refine ⟨is, at1_ok.mp h2, fun a ha b hb => (at1_cn hk).mp (h3 a ha b hb), ?_⟩
  have := at1_cst (w := w) (p := p) hk (nodup_of h1)
  split at this <;> omega
def Web.del (w : Web) (k : Nat) : Web := ⟨w.many, w.ties.take k ++ w.ties.drop (k + 1)⟩
theorem del_mem {w : Web} {k : Nat} {t : T3} (h : t ∈ (w.del k).ties) : t ∈ w.ties := by
  rcases List.mem_append.mp h with h | h
  · exact List.mem_of_mem_take h
  · exact List.mem_of_mem_drop h
theorem Wl.put {w : Web} (hw : Wl w) {k : Nat} {t : T3} (ht : t.1 < t.2.1 ∧ t.2.1 < w.many) : Wl (w.put k t) := ⟨hw.lo, hw.hi, by rw [put_len]; exact hw.len, fun s hs => by
  rcases List.mem_or_eq_of_mem_set hs with h | h
  · exact hw.ok s h
  · rw [h]; exact ht⟩
theorem Wl.at1 {w : Web} (hw : Wl w) {k p : Nat} (hk : k < w.ties.length) : Wl (w.at1 k p) := hw.put (hw.tie hk)
theorem Wl.del {w : Web} (hw : Wl w) {k : Nat} : Wl (w.del k) := ⟨hw.lo, hw.hi, by unfold Web.del; rw [List.length_append, List.length_take, List.length_drop]; have := hw.len; omega, fun t ht => hw.ok t (del_mem ht)⟩
/-! a tie parted -/
def Web.part (w : Web) (k f : Nat) : Web := ⟨w.many + 1, w.ties.set k ((w.tie k).1, w.many, f) ++ [((w.tie k).2.1, w.many, (w.tie k).2.2 - f)]⟩
theorem part_len {w : Web} {k f : Nat} : (w.part k f).ties.length = w.ties.length + 1 := by unfold Web.part; simp
theorem part_tie {w : Web} {k f j : Nat} (hk : k < w.ties.length) (hj : j < w.ties.length) : (w.part k f).tie j = if j = k then ((w.tie k).1, w.many, f) else w.tie j := by
  rw [← put_tie hk]
  unfold Web.part Web.put Web.tie
  dsimp only
  rw [getD_app, if_pos (by rw [List.length_set]; exact hj)]
theorem getD_app' {l : List T3} {x d : T3} {g : Nat} (h : g = l.length) : (l ++ [x]).getD g d = x := by
  rw [List.getD_eq_getElem?_getD, List.getElem?_append_right (by omega), h, Nat.sub_self]; rfl
theorem part_last {w : Web} {k f : Nat} : (w.part k f).tie w.ties.length = ((w.tie k).2.1, w.many, (w.tie k).2.2 - f) := by
  unfold Web.part
  exact getD_app' (by rw [List.length_set])
theorem Wl.part {w : Web} (hw : Wl w) {k f : Nat} (hk : k < w.ties.length) (h1 : w.many < 20) (h2 : w.ties.length < 30) : Wl (w.part k f) := by
  have ht := hw.tie hk
  refine ⟨by show 1 ≤ w.many + 1; omega, h1, by rw [part_len]; exact h2, fun t h => ?_⟩
  unfold Web.part at h ⊢
  dsimp only at h ⊢
  rcases List.mem_append.mp h with h | h
  · rcases List.mem_or_eq_of_mem_set h with h | h
    · have := hw.ok t h; omega
    · rw [h]; dsimp only; omega
  · rw [List.mem_singleton.mp h]; dsimp only; omega
theorem part_iff {w : Web} (hw : Wl w) {k f : Nat} (hk : k < w.ties.length) (hf : f ≤ (w.tie k).2.2) {es : List Nat} (he : ∀ e ∈ es, e < w.many) {c : Nat} : Ac (w.part k f) es c ↔ Ac w es c := by
  have ht := hw.tie hk
  have tk : (w.part k f).tie k = ((w.tie k).1, w.many, f) := by rw [part_tie hk hk, if_pos rfl]
  have tn : (w.part k f).tie w.ties.length = ((w.tie k).2.1, w.many, (w.tie k).2.2 - f) := part_last
  have tj : ∀ {j}, j < w.ties.length → j ≠ k → (w.part k f).tie j = w.tie j := fun h1 h2 => by rw [part_tie hk h1, if_neg h2]
  constructor
  · intro h
    obtain ⟨is, h1, h2, h3, h4⟩ := h.rise
    have hlt : ∀ j ∈ is, j ≠ w.ties.length → j < w.ties.length := fun j hj hne => by have := h2 j hj; rw [part_len] at this; omega
    by_cases hb : k ∈ is ∧ w.ties.length ∈ is
    · obtain ⟨b1, b2⟩ := hb
      have hnd := nodup_of h1
      have em : ∀ j, j ∈ is.erase w.ties.length ↔ j ≠ w.ties.length ∧ j ∈ is := fun j => List.Nodup.mem_erase_iff hnd
      refine ⟨is.erase w.ties.length, fun j hj => hlt j ((em j).mp hj).2 ((em j).mp hj).1, fun a ha b hb => ?_, ?_⟩
      · have kt : Cn w (· ∈ is.erase w.ties.length) (w.tie k).1 (w.tie k).2.1 := .tie k ((em k).mpr ⟨by omega, b1⟩) hk
        have := Cn.sim (w := w.part k f) (w' := w) (S' := (· ∈ is.erase w.ties.length)) (fun v => if v = w.many then (w.tie k).1 else v) (fun j hj _ => by
          by_cases e1 : j = w.ties.length
          · rw [e1, tn]
            dsimp only
            rw [if_neg (by omega), if_pos rfl]
            exact kt.sm
          · have hjl := hlt j hj e1
            by_cases e2 : j = k
            · rw [e2, tk]
              dsimp only
              rw [if_neg (by omega), if_pos rfl]
              exact .rf _
            · have := hw.tie hjl
              rw [tj hjl e2, if_neg (by omega), if_neg (by omega)]
              exact .tie j ((em j).mpr ⟨e1, hj⟩) hjl) (h3 a ha b hb)
        have ha' := he a ha
        have hb' := he b hb
        rw [if_neg (by omega), if_neg (by omega)] at this
        exact this
      · have bk : k ∈ is.erase w.ties.length := (em k).mpr ⟨by omega, b1⟩
        have e1 := cst_erase (w := w.part k f) b2
        have e2 := cst_erase (w := w.part k f) bk
        have e3 := cst_erase (w := w) bk
        have e4 : cst w ((is.erase w.ties.length).erase k) = cst (w.part k f) ((is.erase w.ties.length).erase k) := cst_congr fun j hj => by
          have q := (List.Nodup.mem_erase_iff (hnd.erase _)).mp hj
          have q2 := (em j).mp q.2
          rw [tj (hlt j q2.2 q2.1) q.1]
        rw [tn] at e1
        rw [tk] at e2
        dsimp only at e1 e2
        omega
    · have em : ∀ j, j ∈ is.filter (fun j => decide (j ≠ k) && decide (j ≠ w.ties.length)) ↔ j ∈ is ∧ j ≠ k ∧ j ≠ w.ties.length := fun j => by rw [List.mem_filter]; simp
      refine ⟨is.filter fun j => decide (j ≠ k) && decide (j ≠ w.ties.length), fun j hj => hlt j ((em j).mp hj).1 ((em j).mp hj).2.2, fun a ha b hb' => ?_, ?_⟩
      · have := Cn.sim (w := w.part k f) (w' := w) (S' := (· ∈ is.filter fun j => decide (j ≠ k) && decide (j ≠ w.ties.length))) (fun v => if v = w.many then (if k ∈ is then (w.tie k).1 else (w.tie k).2.1) else v) (fun j hj _ => by
          by_cases e1 : j = w.ties.length
          · rw [e1, tn]
            dsimp only
            have hkn : k ∉ is := fun z => hb ⟨z, e1 ▸ hj⟩
            rw [if_neg (by omega), if_pos rfl, if_neg hkn]
            exact .rf _
          · have hjl := hlt j hj e1
            by_cases e2 : j = k
            · rw [e2, tk]
              dsimp only
              rw [if_neg (by omega), if_pos rfl, if_pos (e2 ▸ hj)]
              exact .rf _
            · have := hw.tie hjl
              rw [tj hjl e2, if_neg (by omega), if_neg (by omega)]
              exact .tie j ((em j).mpr ⟨hj, e2, e1⟩) hjl) (h3 a ha b hb')
        have ha' := he a ha
        have hb'' := he b hb'
        rw [if_neg (by omega), if_neg (by omega)] at this
        exact this
      · refine Nat.le_trans ?_ h4
        rw [cst_congr (w := w) (w' := w.part k f) fun j hj => by
          have q := (em j).mp hj
          rw [tj (hlt j q.1 q.2.2) q.2.1]]
        exact cst_sub ((nodup_of h1).filter _) fun j hj => ((em j).mp hj).1
  · intro h
    obtain ⟨is, h1, h2, h3, h4⟩ := h.rise
    have hnn : w.ties.length ∉ is := fun z => by have := h2 _ z; omega
    by_cases hb : k ∈ is
    · refine ⟨w.ties.length :: is, fun j hj => ?_, fun a ha b hb' => ?_, ?_⟩
      · rw [part_len]
        rcases List.mem_cons.mp hj with e | hj
        · omega
        · have := h2 j hj; omega
      · refine Cn.sim (w := w) (w' := w.part k f) id (fun j hj hl => ?_) (h3 a ha b hb')
        by_cases e2 : j = k
        · have c1 := Cn.tie (w := w.part k f) (S := (· ∈ w.ties.length :: is)) k (List.mem_cons_of_mem _ hb) (by rw [part_len]; omega)
          have c2 := Cn.tie (w := w.part k f) (S := (· ∈ w.ties.length :: is)) w.ties.length List.mem_cons_self (by rw [part_len]; omega)
          rw [tk] at c1
          rw [tn] at c2
          rw [e2]
          exact c1.tr c2.sm
        · have c1 := Cn.tie (w := w.part k f) (S := (· ∈ w.ties.length :: is)) j (List.mem_cons_of_mem _ hj) (by rw [part_len]; omega)
          rw [tj hl e2] at c1
          exact c1
      · have e2 := cst_erase (w := w.part k f) hb
        have e3 := cst_erase (w := w) hb
        have e4 : cst w (is.erase k) = cst (w.part k f) (is.erase k) := cst_congr fun j hj => by
          have q := (List.Nodup.mem_erase_iff (nodup_of h1)).mp hj
          rw [tj (h2 j q.2) q.1]
        rw [cst_cons, tn]
        rw [tk] at e2
        dsimp only at e2 ⊢
        omega
    · refine Ac.of_set (w := w) h3 (fun j hj => ?_) h4
      have e2 : j ≠ k := fun e => hb (e ▸ hj)
      rw [← tj (h2 j hj) e2]
      exact tie_mem (by rw [part_len]; have := h2 j hj; omega)
/-! prices so many times as great -/
def Web.scl (w : Web) (s : Nat) : Web := ⟨w.many, w.ties.map fun t => (t.1, t.2.1, s * t.2.2)⟩
theorem scl_tie {w : Web} {s k : Nat} (h : k < w.ties.length) : (w.scl s).tie k = ((w.tie k).1, (w.tie k).2.1, s * (w.tie k).2.2) := by
  unfold Web.scl Web.tie
  dsimp only
  rw [List.getD_eq_getElem?_getD, List.getElem?_map, List.getElem?_eq_getElem h, List.getD_eq_getElem?_getD, List.getElem?_eq_getElem h]
  rfl
theorem scl_len {w : Web} {s : Nat} : (w.scl s).ties.length = w.ties.length := by unfold Web.scl; simp
theorem Wl.scl {w : Web} (hw : Wl w) {s : Nat} : Wl (w.scl s) := ⟨hw.lo, hw.hi, by rw [scl_len]; exact hw.len, fun t ht => by
  obtain ⟨u, hu, rfl⟩ := List.mem_map.mp ht
  exact hw.ok u hu⟩
theorem scl_cst {w : Web} {s : Nat} : ∀ {is : List Nat}, Ok w is → cst (w.scl s) is = s * cst w is
  | [], _ => by rw [cst_nil, cst_nil, Nat.mul_zero]
  | k :: r, h => by rw [cst_cons, cst_cons, scl_tie (h k List.mem_cons_self), scl_cst fun j hj => h j (List.mem_cons_of_mem _ hj), Nat.mul_add]
theorem scl_iff {w : Web} {s : Nat} {es : List Nat} {c : Nat} : Ac (w.scl s) es c ↔ ∃ d, Ac w es d ∧ s * d ≤ c := by
  constructor
  · rintro ⟨is, h1, h2, h3⟩
    have h1' : Ok w is := fun k hk => by rw [← scl_len (s := s)]; exact h1 k hk
    refine ⟨cst w is, ⟨is, h1', fun a ha b hb => Cn.sim (w := w.scl s) id (fun k hk hl => ?_) (h2 a ha b hb), Nat.le_refl _⟩, by rw [← scl_cst h1']; exact h3⟩
    rw [scl_len] at hl
    rw [scl_tie hl]
    exact .tie k hk hl
  · rintro ⟨d, ⟨is, h1, h2, h3⟩, h4⟩
    refine ⟨is, fun k hk => by rw [scl_len]; exact h1 k hk, fun a ha b hb => Cn.sim (w := w) id (fun k hk hl => ?_) (h2 a ha b hb), by rw [scl_cst h1]; exact Nat.le_trans (Nat.mul_le_mul_left s h3) h4⟩
    have := Cn.tie (w := w.scl s) (S := (· ∈ is)) k hk (by rw [scl_len]; exact hl)
    rw [scl_tie hl] at this
    exact this
end J

/-! how_dear, cheapest, webs changed: what they compute. -/
namespace J
open PySem
theorem opEq_O {a b : Option Nat} : opEq (encO a) (encO b) = some (decide (a = b)) := by
  cases a with
  | none => cases b <;> rfl
  | some x =>
    cases b with
    | none => rfl
    | some y =>
      simp only [encO, opEq_nI]
      congr 1
      rw [Bool.eq_iff_iff, decide_eq_true_eq, decide_eq_true_eq, Option.some.injEq]
theorem opEq_rf {x : D} (h : SeqAt.shaped x = true) : opEq x x = some true := by
  have e := SeqAt.eqv_refl x (SeqAt.canLay_of_shaped h)
  unfold opEq
  rw [e, h]
  split <;> rfl
theorem canT : ∀ ts : List T3, PyData.canLayAll0 (ts.map encT) = true
  | [] => rfl
  | t :: r => by
    rw [List.map_cons]
    simp only [encT, PyData.canLayAll0, PyData.canLay0, canT r, Bool.and_self]
theorem depT : ∀ ts : List T3, PyData.depthAll (ts.map encT) ≤ 1
  | [] => by simp [PyData.depthAll]
  | t :: r => by
    have := depT r
    rw [List.map_cons]
    simp only [encT, PyData.depthAll, PyData.depth]
    omega
theorem shaped_W {w : Web} : SeqAt.shaped (encW w) = true := by
  simp only [SeqAt.shaped, encW, PyData.canLay0, PyData.canLayAll0, canT, Bool.and_self, Bool.true_and, PyData.depth, PyData.depthAll, decide_eq_true_eq]
  have := depT w.ties
  omega
theorem Lc_some {w : Web} (hw : Wl w) {es : List Nat} (he : ∀ e ∈ es, e < w.many) (hn : es ≠ []) {d : Nat} : Lc w es = some d ↔ Ac w es d ∧ ∀ c, Ac w es c → d ≤ c := by
  constructor
  · intro h
    refine ⟨(Lc_iff hw he hn).mp (by rw [h]; exact leC_some.mpr (Nat.le_refl _)), fun c hc => ?_⟩
    have := (Lc_iff hw he hn).mpr hc
    rw [h] at this
    exact leC_some.mp this
  · rintro ⟨h1, h2⟩
    refine leC_ext fun c => ?_
    rw [Lc_iff hw he hn, leC_some]
    exact ⟨h2 c, fun h => h1.mono h⟩
theorem Lc_none {w : Web} (hw : Wl w) {es : List Nat} (he : ∀ e ∈ es, e < w.many) (hn : es ≠ []) : Lc w es = none ↔ ∀ c, ¬ Ac w es c := by
  constructor
  · intro h c hc
    have := (Lc_iff hw he hn).mpr hc
    rw [h] at this
    exact leC_none.mp this
  · intro h
    refine leC_ext fun c => ?_
    rw [Lc_iff hw he hn, leC_none]
    exact ⟨h c, False.elim⟩
theorem Lc_eq {w w' : Web} (hw : Wl w) (hw' : Wl w') {es fs : List Nat} (he : ∀ e ∈ es, e < w.many) (hn : es ≠ []) (he' : ∀ e ∈ fs, e < w'.many) (hn' : fs ≠ []) (h : ∀ c, Ac w es c ↔ Ac w' fs c) : Lc w es = Lc w' fs := leC_ext fun c => by rw [Lc_iff hw he hn, Lc_iff hw' he' hn', h]
/-! cheapest -/
/-! webs changed -/
theorem set_cut {α : Type} : ∀ {l : List α} {k : Nat} {x : α}, k < l.length → l.take k ++ [x] ++ l.drop (k + 1) = l.set k x
  | a :: r, 0, x, _ => rfl
  | a :: r, k + 1, x, h => by
    rw [List.take_succ_cons, List.drop_succ_cons, List.set_cons_succ, List.cons_append, List.cons_append, set_cut (by simpa using h)]
theorem cut_from1 {α : Type} {l : List α} {k : Nat} : cutD l (some ((k : Int) + 1)) none = l.drop (k + 1) := cutD_from l (k + 1)
theorem tie_get {w : Web} {k : Nat} (h : k < w.ties.length) : w.ties[k]? = some (w.tie k) := by unfold Web.tie; rw [List.getD_eq_getElem?_getD, List.getElem?_eq_getElem h]; rfl
theorem at_once (n : Nat) {w : Web} (hw : Wl w) {k p : Nat} (hk : k < w.ties.length) : Ph (n + 1) 47 [encW w, .int k, .int p] = some (encW (w.at1 k p)) := by
  show evF (Ph n) fd47 [encW w, .int k, .int p] = _
  rw [← o1_eq, ef_of rfl]
  have hl := hw.len
  simp only [o1_some, o1_none, o1_map, o1_if, o1_test, ev_var, ev_bv, ev_cn, ev_cb, ev_ci, ev_cs, ev_bin, ev_neg, ev_nt, ev_cmp, ev_cmp2, ev_an, ev_or, ev_tup, ev_lst, ev_call, ev_bi, ev_isi, ev_ix, ev_sl, ev_rev, ev_rgL, ev_rgT, ev_lset, ev_sset, ev_comp, ev_join, ev_split, ea_nil, ea_cons, eo_nil, ec_nil, ei_rg, ei_zip, ei_enum, nxt_nx, nxt_rt, es_set, es_setO, es_unp, es_par, es_app, es_sti, es_ifs, es_for, es_skip, es_seq, es_retv, turn_of, forB_of, bindT1, bindT2, bindEach, wipeE, getV, getB, start0, List.length_cons, List.length_nil, List.getElem?_cons_zero, List.getElem?_cons_succ, List.set_cons_zero, List.set_cons_succ, List.cons_append, List.nil_append, List.replicate_succ, List.replicate_zero, if_true, if_false, reduceIte, Nat.reduceAdd, Nat.reduceSub, Nat.reduceLeDiff, Bool.false_eq_true, Bool.true_eq_false, Bool.not_true, Bool.not_false, reduceCtorEq, Nat.zero_add, true_and, and_true, ei_var, ei_bv, ei_ix, ei_call, ei_bi, ei_tup, ei_lst, ei_comp, ei_rev, ei_bin, ei_rgL, ei_rgT, ei_sset, ei_sl, ei_split, ec_cmp, ec_cmp2, ec_an, ec_or, ec_nt, ec_call, ec_isi, ec_bv, ec_var, ec_bi, ec_cb, eo_ci, eo_bv, eo_var, eo_neg, eo_bin, eo_bi, eo_ix, eo_call, er_bv, er_ix, er_call, er_bi, er_tup, er_lst, er_comp, er_rev, er_bin, er_rgL, er_rgT, er_sset, er_lset, er_sl, er_split, er_join, er_cmp, er_cmp2, er_an, er_or, er_nt, er_isi, er_ci, er_cb, er_cn, er_cs, er_neg, valS_val, valS_own, retD_rt, retD_nx, boolD_b, intD_i, listD_l, tupD_t, ownS_o, items_l, items_t, isi_b, isi_i, isi_n, isi_ii, isi_tt, len_l, len_t, tu_l, tu_t, li_l, li_t, int_b, add_i, add_l, add_t, sub_i, opI_i, rev_l, rev_t, sl_l, sl_t, zip_t, zip_l, zip_tl, sq2_t, sq2_l, bi_len, bi_min, bi_max, bi_sum, bi_all, bi_any, bi_int, bi_str, bi_tuple, bi_list, bi_sorted, opB_add, opB_sub, opB_mul, opB_div, opB_mod, opC_eq, opC_ne, opC_lt, opC_le, opC_gt, opC_ge, opC_is, opC_isn, opC_isb, opC_isnb, opC_in, opC_nin, isN_n, isN_i, nI, biMin2, biMax2, opEq_nI, ixW0, ixW1, ix_e0, ix_e1, ix_e2, tup_e, decide_eq_true_eq, fd47, ix_w hk, cutD_to, cut_from1, add_t, o1_if, List.length_append, List.length_take, List.length_drop, List.length_map]
  refine ⟨by omega, by omega, ?_⟩
  unfold Web.at1 Web.put encW
  dsimp only
  rw [← set_cut hk, List.map_append, List.map_append, List.map_take, List.map_drop]
  rfl
theorem without_tie (n : Nat) {w : Web} (hw : Wl w) {k : Nat} : Ph (n + 1) 46 [encW w, .int k] = some (encW (w.del k)) := by
  show evF (Ph n) fd46 [encW w, .int k] = _
  rw [← o1_eq, ef_of rfl]
  have hl := hw.len
  simp only [o1_some, o1_none, o1_map, o1_if, o1_test, ev_var, ev_bv, ev_cn, ev_cb, ev_ci, ev_cs, ev_bin, ev_neg, ev_nt, ev_cmp, ev_cmp2, ev_an, ev_or, ev_tup, ev_lst, ev_call, ev_bi, ev_isi, ev_ix, ev_sl, ev_rev, ev_rgL, ev_rgT, ev_lset, ev_sset, ev_comp, ev_join, ev_split, ea_nil, ea_cons, eo_nil, ec_nil, ei_rg, ei_zip, ei_enum, nxt_nx, nxt_rt, es_set, es_setO, es_unp, es_par, es_app, es_sti, es_ifs, es_for, es_skip, es_seq, es_retv, turn_of, forB_of, bindT1, bindT2, bindEach, wipeE, getV, getB, start0, List.length_cons, List.length_nil, List.getElem?_cons_zero, List.getElem?_cons_succ, List.set_cons_zero, List.set_cons_succ, List.cons_append, List.nil_append, List.replicate_succ, List.replicate_zero, if_true, if_false, reduceIte, Nat.reduceAdd, Nat.reduceSub, Nat.reduceLeDiff, Bool.false_eq_true, Bool.true_eq_false, Bool.not_true, Bool.not_false, reduceCtorEq, Nat.zero_add, true_and, and_true, ei_var, ei_bv, ei_ix, ei_call, ei_bi, ei_tup, ei_lst, ei_comp, ei_rev, ei_bin, ei_rgL, ei_rgT, ei_sset, ei_sl, ei_split, ec_cmp, ec_cmp2, ec_an, ec_or, ec_nt, ec_call, ec_isi, ec_bv, ec_var, ec_bi, ec_cb, eo_ci, eo_bv, eo_var, eo_neg, eo_bin, eo_bi, eo_ix, eo_call, er_bv, er_ix, er_call, er_bi, er_tup, er_lst, er_comp, er_rev, er_bin, er_rgL, er_rgT, er_sset, er_lset, er_sl, er_split, er_join, er_cmp, er_cmp2, er_an, er_or, er_nt, er_isi, er_ci, er_cb, er_cn, er_cs, er_neg, valS_val, valS_own, retD_rt, retD_nx, boolD_b, intD_i, listD_l, tupD_t, ownS_o, items_l, items_t, isi_b, isi_i, isi_n, isi_ii, isi_tt, len_l, len_t, tu_l, tu_t, li_l, li_t, int_b, add_i, add_l, add_t, sub_i, opI_i, rev_l, rev_t, sl_l, sl_t, zip_t, zip_l, zip_tl, sq2_t, sq2_l, bi_len, bi_min, bi_max, bi_sum, bi_all, bi_any, bi_int, bi_str, bi_tuple, bi_list, bi_sorted, opB_add, opB_sub, opB_mul, opB_div, opB_mod, opC_eq, opC_ne, opC_lt, opC_le, opC_gt, opC_ge, opC_is, opC_isn, opC_isb, opC_isnb, opC_in, opC_nin, isN_n, isN_i, nI, biMin2, biMax2, opEq_nI, ixW0, ixW1, ix_e0, ix_e1, ix_e2, tup_e, decide_eq_true_eq, fd46, cutD_to, cut_from1, add_t, o1_if, List.length_append, List.length_take, List.length_drop, List.length_map]
  refine ⟨by omega, ?_⟩
  unfold Web.del encW
  dsimp only
  rw [List.map_append, List.map_take, List.map_drop]
theorem parted (n : Nat) {w : Web} (hw : Wl w) {k f : Nat} (hk : k < w.ties.length) (hf : f ≤ (w.tie k).2.2) : Ph (n + 1) 63 [encW w, .int k, .int f] = some (encW (w.part k f)) := by
  show evF (Ph n) fd63 [encW w, .int k, .int f] = _
  rw [← o1_eq, ef_of rfl]
  have hl := hw.len
  simp only [o1_some, o1_none, o1_map, o1_if, o1_test, ev_var, ev_bv, ev_cn, ev_cb, ev_ci, ev_cs, ev_bin, ev_neg, ev_nt, ev_cmp, ev_cmp2, ev_an, ev_or, ev_tup, ev_lst, ev_call, ev_bi, ev_isi, ev_ix, ev_sl, ev_rev, ev_rgL, ev_rgT, ev_lset, ev_sset, ev_comp, ev_join, ev_split, ea_nil, ea_cons, eo_nil, ec_nil, ei_rg, ei_zip, ei_enum, nxt_nx, nxt_rt, es_set, es_setO, es_unp, es_par, es_app, es_sti, es_ifs, es_for, es_skip, es_seq, es_retv, turn_of, forB_of, bindT1, bindT2, bindEach, wipeE, getV, getB, start0, List.length_cons, List.length_nil, List.getElem?_cons_zero, List.getElem?_cons_succ, List.set_cons_zero, List.set_cons_succ, List.cons_append, List.nil_append, List.replicate_succ, List.replicate_zero, if_true, if_false, reduceIte, Nat.reduceAdd, Nat.reduceSub, Nat.reduceLeDiff, Bool.false_eq_true, Bool.true_eq_false, Bool.not_true, Bool.not_false, reduceCtorEq, Nat.zero_add, true_and, and_true, ei_var, ei_bv, ei_ix, ei_call, ei_bi, ei_tup, ei_lst, ei_comp, ei_rev, ei_bin, ei_rgL, ei_rgT, ei_sset, ei_sl, ei_split, ec_cmp, ec_cmp2, ec_an, ec_or, ec_nt, ec_call, ec_isi, ec_bv, ec_var, ec_bi, ec_cb, eo_ci, eo_bv, eo_var, eo_neg, eo_bin, eo_bi, eo_ix, eo_call, er_bv, er_ix, er_call, er_bi, er_tup, er_lst, er_comp, er_rev, er_bin, er_rgL, er_rgT, er_sset, er_lset, er_sl, er_split, er_join, er_cmp, er_cmp2, er_an, er_or, er_nt, er_isi, er_ci, er_cb, er_cn, er_cs, er_neg, valS_val, valS_own, retD_rt, retD_nx, boolD_b, intD_i, listD_l, tupD_t, ownS_o, items_l, items_t, isi_b, isi_i, isi_n, isi_ii, isi_tt, len_l, len_t, tu_l, tu_t, li_l, li_t, int_b, add_i, add_l, add_t, sub_i, opI_i, rev_l, rev_t, sl_l, sl_t, zip_t, zip_l, zip_tl, sq2_t, sq2_l, bi_len, bi_min, bi_max, bi_sum, bi_all, bi_any, bi_int, bi_str, bi_tuple, bi_list, bi_sorted, opB_add, opB_sub, opB_mul, opB_div, opB_mod, opC_eq, opC_ne, opC_lt, opC_le, opC_gt, opC_ge, opC_is, opC_isn, opC_isb, opC_isnb, opC_in, opC_nin, isN_n, isN_i, nI, biMin2, biMax2, opEq_nI, ixW0, ixW1, ix_e0, ix_e1, ix_e2, tup_e, decide_eq_true_eq, fd63, ix_w hk, cutD_to, cut_from1, add_t, o1_if, List.length_append, List.length_take, List.length_drop, List.length_map]
  refine ⟨by omega, by omega, by omega, ?_⟩
  unfold Web.part encW
  dsimp only
  rw [← set_cut hk, List.map_append, List.map_append, List.map_append, List.map_take, List.map_drop]
  simp only [List.map_cons, List.map_nil, encT]
  rw [show (((w.tie k).2.2 - f : Nat) : Int) = ((w.tie k).2.2 : Int) - f by omega]
  rfl
theorem scaled (n : Nat) {w : Web} (hw : Wl w) {s : Nat} (hs : s < 1000) : Ph (n + 1) 62 [encW w, .int s] = some (encW (w.scl s)) := by
  show evF (Ph n) fd62 [encW w, .int s] = _
  rw [← o1_eq, ef_of rfl]
  have hl := hw.len
  simp only [o1_some, o1_none, o1_map, o1_if, o1_test, ev_var, ev_bv, ev_cn, ev_cb, ev_ci, ev_cs, ev_bin, ev_neg, ev_nt, ev_cmp, ev_cmp2, ev_an, ev_or, ev_tup, ev_lst, ev_call, ev_bi, ev_isi, ev_ix, ev_sl, ev_rev, ev_rgL, ev_rgT, ev_lset, ev_sset, ev_comp, ev_join, ev_split, ea_nil, ea_cons, eo_nil, ec_nil, ei_rg, ei_zip, ei_enum, nxt_nx, nxt_rt, es_set, es_setO, es_unp, es_par, es_app, es_sti, es_ifs, es_for, es_skip, es_seq, es_retv, turn_of, forB_of, bindT1, bindT2, bindEach, wipeE, getV, getB, start0, List.length_cons, List.length_nil, List.getElem?_cons_zero, List.getElem?_cons_succ, List.set_cons_zero, List.set_cons_succ, List.cons_append, List.nil_append, List.replicate_succ, List.replicate_zero, if_true, if_false, reduceIte, Nat.reduceAdd, Nat.reduceSub, Nat.reduceLeDiff, Bool.false_eq_true, Bool.true_eq_false, Bool.not_true, Bool.not_false, reduceCtorEq, Nat.zero_add, true_and, and_true, ei_var, ei_bv, ei_ix, ei_call, ei_bi, ei_tup, ei_lst, ei_comp, ei_rev, ei_bin, ei_rgL, ei_rgT, ei_sset, ei_sl, ei_split, ec_cmp, ec_cmp2, ec_an, ec_or, ec_nt, ec_call, ec_isi, ec_bv, ec_var, ec_bi, ec_cb, eo_ci, eo_bv, eo_var, eo_neg, eo_bin, eo_bi, eo_ix, eo_call, er_bv, er_ix, er_call, er_bi, er_tup, er_lst, er_comp, er_rev, er_bin, er_rgL, er_rgT, er_sset, er_lset, er_sl, er_split, er_join, er_cmp, er_cmp2, er_an, er_or, er_nt, er_isi, er_ci, er_cb, er_cn, er_cs, er_neg, valS_val, valS_own, retD_rt, retD_nx, boolD_b, intD_i, listD_l, tupD_t, ownS_o, items_l, items_t, isi_b, isi_i, isi_n, isi_ii, isi_tt, len_l, len_t, tu_l, tu_t, li_l, li_t, int_b, add_i, add_l, add_t, sub_i, opI_i, rev_l, rev_t, sl_l, sl_t, zip_t, zip_l, zip_tl, sq2_t, sq2_l, bi_len, bi_min, bi_max, bi_sum, bi_all, bi_any, bi_int, bi_str, bi_tuple, bi_list, bi_sorted, opB_add, opB_sub, opB_mul, opB_div, opB_mod, opC_eq, opC_ne, opC_lt, opC_le, opC_gt, opC_ge, opC_is, opC_isn, opC_isb, opC_isnb, opC_in, opC_nin, isN_n, isN_i, nI, biMin2, biMax2, opEq_nI, ixW0, ixW1, ix_e0, ix_e1, ix_e2, tup_e, decide_eq_true_eq, fd62]
  refine ⟨len40 (by omega), comp_map (e := encT) (e' := encT) (fun t => (t.1, t.2.1, s * t.2.2)) (fun t ht => ?_) ?_⟩
  · simp only [o1_some, o1_none, o1_map, o1_if, o1_test, ev_var, ev_bv, ev_cn, ev_cb, ev_ci, ev_cs, ev_bin, ev_neg, ev_nt, ev_cmp, ev_cmp2, ev_an, ev_or, ev_tup, ev_lst, ev_call, ev_bi, ev_isi, ev_ix, ev_sl, ev_rev, ev_rgL, ev_rgT, ev_lset, ev_sset, ev_comp, ev_join, ev_split, ea_nil, ea_cons, eo_nil, ec_nil, ei_rg, ei_zip, ei_enum, nxt_nx, nxt_rt, es_set, es_setO, es_unp, es_par, es_app, es_sti, es_ifs, es_for, es_skip, es_seq, es_retv, turn_of, forB_of, bindT1, bindT2, bindEach, wipeE, getV, getB, start0, List.length_cons, List.length_nil, List.getElem?_cons_zero, List.getElem?_cons_succ, List.set_cons_zero, List.set_cons_succ, List.cons_append, List.nil_append, List.replicate_succ, List.replicate_zero, if_true, if_false, reduceIte, Nat.reduceAdd, Nat.reduceSub, Nat.reduceLeDiff, Bool.false_eq_true, Bool.true_eq_false, Bool.not_true, Bool.not_false, reduceCtorEq, Nat.zero_add, true_and, and_true, ei_var, ei_bv, ei_ix, ei_call, ei_bi, ei_tup, ei_lst, ei_comp, ei_rev, ei_bin, ei_rgL, ei_rgT, ei_sset, ei_sl, ei_split, ec_cmp, ec_cmp2, ec_an, ec_or, ec_nt, ec_call, ec_isi, ec_bv, ec_var, ec_bi, ec_cb, eo_ci, eo_bv, eo_var, eo_neg, eo_bin, eo_bi, eo_ix, eo_call, er_bv, er_ix, er_call, er_bi, er_tup, er_lst, er_comp, er_rev, er_bin, er_rgL, er_rgT, er_sset, er_lset, er_sl, er_split, er_join, er_cmp, er_cmp2, er_an, er_or, er_nt, er_isi, er_ci, er_cb, er_cn, er_cs, er_neg, valS_val, valS_own, retD_rt, retD_nx, boolD_b, intD_i, listD_l, tupD_t, ownS_o, items_l, items_t, isi_b, isi_i, isi_n, isi_ii, isi_tt, len_l, len_t, tu_l, tu_t, li_l, li_t, int_b, add_i, add_l, add_t, sub_i, opI_i, rev_l, rev_t, sl_l, sl_t, zip_t, zip_l, zip_tl, sq2_t, sq2_l, bi_len, bi_min, bi_max, bi_sum, bi_all, bi_any, bi_int, bi_str, bi_tuple, bi_list, bi_sorted, opB_add, opB_sub, opB_mul, opB_div, opB_mod, opC_eq, opC_ne, opC_lt, opC_le, opC_gt, opC_ge, opC_is, opC_isn, opC_isb, opC_isnb, opC_in, opC_nin, isN_n, isN_i, nI, biMin2, biMax2, opEq_nI, ixW0, ixW1, ix_e0, ix_e1, ix_e2, tup_e, decide_eq_true_eq, bindT_T, mul_nn hs]
    rfl
  · rfl
end J

/-! renamed; webs as they were -/
namespace J
open PySem
def renT (f : Nat → Nat) (t : T3) : T3 := (min (f t.1) (f t.2.1), max (f t.1) (f t.2.1), t.2.2)
def Web.ren (w : Web) (f : Nat → Nat) : Web := ⟨w.many, w.ties.map (renT f)⟩
theorem app_T {ts : List T3} {t : T3} : ts.map encT ++ [encT t] = (ts ++ [t]).map encT := by rw [List.map_append]; rfl
theorem ix_f {f : Nat → Nat} {m k : Nat} (h : k < m) : opIx (.tuple (((List.range m).map f).map nI)) (.int k) = some (nI (f k)) := by
  rw [ix_t (by simpa using h), List.getD_eq_getElem?_getD, List.getElem?_map, List.getElem?_range h]
  rfl
theorem renamed (n : Nat) {w : Web} (hw : Wl w) {f : Nat → Nat} {nm : D} (hnm : nm = .tuple (((List.range w.many).map f).map nI)) : Ph (n + 1) 61 [encW w, nm] = some (encW (w.ren f)) := by
  subst hnm
  show evF (Ph n) fd61 [encW w, _] = _
  rw [← o1_eq, ef_of rfl]
  have hl := hw.len
  simp only [o1_some, o1_none, o1_map, o1_if, o1_test, ev_var, ev_bv, ev_cn, ev_cb, ev_ci, ev_cs, ev_bin, ev_neg, ev_nt, ev_cmp, ev_cmp2, ev_an, ev_or, ev_tup, ev_lst, ev_call, ev_bi, ev_isi, ev_ix, ev_sl, ev_rev, ev_rgL, ev_rgT, ev_lset, ev_sset, ev_comp, ev_join, ev_split, ea_nil, ea_cons, eo_nil, ec_nil, ei_rg, ei_zip, ei_enum, nxt_nx, nxt_rt, es_set, es_setO, es_unp, es_par, es_app, es_sti, es_ifs, es_for, es_skip, es_seq, es_retv, turn_of, forB_of, bindT1, bindT2, bindEach, wipeE, getV, getB, start0, List.length_cons, List.length_nil, List.getElem?_cons_zero, List.getElem?_cons_succ, List.set_cons_zero, List.set_cons_succ, List.cons_append, List.nil_append, List.replicate_succ, List.replicate_zero, if_true, if_false, reduceIte, Nat.reduceAdd, Nat.reduceSub, Nat.reduceLeDiff, Bool.false_eq_true, Bool.true_eq_false, Bool.not_true, Bool.not_false, reduceCtorEq, Nat.zero_add, true_and, and_true, ei_var, ei_bv, ei_ix, ei_call, ei_bi, ei_tup, ei_lst, ei_comp, ei_rev, ei_bin, ei_rgL, ei_rgT, ei_sset, ei_sl, ei_split, ec_cmp, ec_cmp2, ec_an, ec_or, ec_nt, ec_call, ec_isi, ec_bv, ec_var, ec_bi, ec_cb, eo_ci, eo_bv, eo_var, eo_neg, eo_bin, eo_bi, eo_ix, eo_call, er_bv, er_ix, er_call, er_bi, er_tup, er_lst, er_comp, er_rev, er_bin, er_rgL, er_rgT, er_sset, er_lset, er_sl, er_split, er_join, er_cmp, er_cmp2, er_an, er_or, er_nt, er_isi, er_ci, er_cb, er_cn, er_cs, er_neg, valS_val, valS_own, retD_rt, retD_nx, boolD_b, intD_i, listD_l, tupD_t, ownS_o, items_l, items_t, isi_b, isi_i, isi_n, isi_ii, isi_tt, len_l, len_t, tu_l, tu_t, li_l, li_t, int_b, add_i, add_l, add_t, sub_i, opI_i, rev_l, rev_t, sl_l, sl_t, zip_t, zip_l, zip_tl, sq2_t, sq2_l, bi_len, bi_min, bi_max, bi_sum, bi_all, bi_any, bi_int, bi_str, bi_tuple, bi_list, bi_sorted, opB_add, opB_sub, opB_mul, opB_div, opB_mod, opC_eq, opC_ne, opC_lt, opC_le, opC_gt, opC_ge, opC_is, opC_isn, opC_isb, opC_isnb, opC_in, opC_nin, isN_n, isN_i, nI, biMin2, biMax2, opEq_nI, ixW0, ixW1, ix_e0, ix_e1, ix_e2, tup_e, decide_eq_true_eq, fd61]
  refine for_pre (e := encT) (fun pre env => ∃ s3 s4 s5, env = [.val (encW w), .val (.tuple (((List.range w.many).map f).map nI)), .own ((pre.map (renT f)).map encT), s3, s4, s5]) ⟨_, _, _, rfl⟩ (fun pre t post env hx hI => ?_) (fun env hI => ?_)
  · obtain ⟨s3, s4, s5, rfl⟩ := hI
    have hpre := pre_len hx
    have ht := hw.ok t (by rw [hx]; simp)
    simp only [o1_some, o1_none, o1_map, o1_if, o1_test, ev_var, ev_bv, ev_cn, ev_cb, ev_ci, ev_cs, ev_bin, ev_neg, ev_nt, ev_cmp, ev_cmp2, ev_an, ev_or, ev_tup, ev_lst, ev_call, ev_bi, ev_isi, ev_ix, ev_sl, ev_rev, ev_rgL, ev_rgT, ev_lset, ev_sset, ev_comp, ev_join, ev_split, ea_nil, ea_cons, eo_nil, ec_nil, ei_rg, ei_zip, ei_enum, nxt_nx, nxt_rt, es_set, es_setO, es_unp, es_par, es_app, es_sti, es_ifs, es_for, es_skip, es_seq, es_retv, turn_of, forB_of, bindT1, bindT2, bindEach, wipeE, getV, getB, start0, List.length_cons, List.length_nil, List.getElem?_cons_zero, List.getElem?_cons_succ, List.set_cons_zero, List.set_cons_succ, List.cons_append, List.nil_append, List.replicate_succ, List.replicate_zero, if_true, if_false, reduceIte, Nat.reduceAdd, Nat.reduceSub, Nat.reduceLeDiff, Bool.false_eq_true, Bool.true_eq_false, Bool.not_true, Bool.not_false, reduceCtorEq, Nat.zero_add, true_and, and_true, ei_var, ei_bv, ei_ix, ei_call, ei_bi, ei_tup, ei_lst, ei_comp, ei_rev, ei_bin, ei_rgL, ei_rgT, ei_sset, ei_sl, ei_split, ec_cmp, ec_cmp2, ec_an, ec_or, ec_nt, ec_call, ec_isi, ec_bv, ec_var, ec_bi, ec_cb, eo_ci, eo_bv, eo_var, eo_neg, eo_bin, eo_bi, eo_ix, eo_call, er_bv, er_ix, er_call, er_bi, er_tup, er_lst, er_comp, er_rev, er_bin, er_rgL, er_rgT, er_sset, er_lset, er_sl, er_split, er_join, er_cmp, er_cmp2, er_an, er_or, er_nt, er_isi, er_ci, er_cb, er_cn, er_cs, er_neg, valS_val, valS_own, retD_rt, retD_nx, boolD_b, intD_i, listD_l, tupD_t, ownS_o, items_l, items_t, isi_b, isi_i, isi_n, isi_ii, isi_tt, len_l, len_t, tu_l, tu_t, li_l, li_t, int_b, add_i, add_l, add_t, sub_i, opI_i, rev_l, rev_t, sl_l, sl_t, zip_t, zip_l, zip_tl, sq2_t, sq2_l, bi_len, bi_min, bi_max, bi_sum, bi_all, bi_any, bi_int, bi_str, bi_tuple, bi_list, bi_sorted, opB_add, opB_sub, opB_mul, opB_div, opB_mod, opC_eq, opC_ne, opC_lt, opC_le, opC_gt, opC_ge, opC_is, opC_isn, opC_isb, opC_isnb, opC_in, opC_nin, isN_n, isN_i, nI, biMin2, biMax2, opEq_nI, ixW0, ixW1, ix_e0, ix_e1, ix_e2, tup_e, decide_eq_true_eq, bindT_T, ix_f (f := f) (show t.1 < w.many by omega), ix_f (f := f) (show t.2.1 < w.many by omega), List.length_map]
    refine ⟨by omega, ?_⟩
    rw [show (PyData.tuple [.int ((min (f t.1) (f t.2.1) : Nat) : Int), .int ((max (f t.1) (f t.2.1) : Nat) : Int), .int t.2.2]) = encT (renT f t) from rfl, app_T, List.map_append (l₁ := pre)]
    exact ⟨_, _, _, rfl⟩
  · obtain ⟨s3, s4, s5, rfl⟩ := hI
    rw [nxt_nx, o1_of (es_shr rfl)]
    simp only [o1_some, o1_none, o1_map, o1_if, o1_test, ev_var, ev_bv, ev_cn, ev_cb, ev_ci, ev_cs, ev_bin, ev_neg, ev_nt, ev_cmp, ev_cmp2, ev_an, ev_or, ev_tup, ev_lst, ev_call, ev_bi, ev_isi, ev_ix, ev_sl, ev_rev, ev_rgL, ev_rgT, ev_lset, ev_sset, ev_comp, ev_join, ev_split, ea_nil, ea_cons, eo_nil, ec_nil, ei_rg, ei_zip, ei_enum, nxt_nx, nxt_rt, es_set, es_setO, es_unp, es_par, es_app, es_sti, es_ifs, es_for, es_skip, es_seq, es_retv, turn_of, forB_of, bindT1, bindT2, bindEach, wipeE, getV, getB, start0, List.length_cons, List.length_nil, List.getElem?_cons_zero, List.getElem?_cons_succ, List.set_cons_zero, List.set_cons_succ, List.cons_append, List.nil_append, List.replicate_succ, List.replicate_zero, if_true, if_false, reduceIte, Nat.reduceAdd, Nat.reduceSub, Nat.reduceLeDiff, Bool.false_eq_true, Bool.true_eq_false, Bool.not_true, Bool.not_false, reduceCtorEq, Nat.zero_add, true_and, and_true, ei_var, ei_bv, ei_ix, ei_call, ei_bi, ei_tup, ei_lst, ei_comp, ei_rev, ei_bin, ei_rgL, ei_rgT, ei_sset, ei_sl, ei_split, ec_cmp, ec_cmp2, ec_an, ec_or, ec_nt, ec_call, ec_isi, ec_bv, ec_var, ec_bi, ec_cb, eo_ci, eo_bv, eo_var, eo_neg, eo_bin, eo_bi, eo_ix, eo_call, er_bv, er_ix, er_call, er_bi, er_tup, er_lst, er_comp, er_rev, er_bin, er_rgL, er_rgT, er_sset, er_lset, er_sl, er_split, er_join, er_cmp, er_cmp2, er_an, er_or, er_nt, er_isi, er_ci, er_cb, er_cn, er_cs, er_neg, valS_val, valS_own, retD_rt, retD_nx, boolD_b, intD_i, listD_l, tupD_t, ownS_o, items_l, items_t, isi_b, isi_i, isi_n, isi_ii, isi_tt, len_l, len_t, tu_l, tu_t, li_l, li_t, int_b, add_i, add_l, add_t, sub_i, opI_i, rev_l, rev_t, sl_l, sl_t, zip_t, zip_l, zip_tl, sq2_t, sq2_l, bi_len, bi_min, bi_max, bi_sum, bi_all, bi_any, bi_int, bi_str, bi_tuple, bi_list, bi_sorted, opB_add, opB_sub, opB_mul, opB_div, opB_mod, opC_eq, opC_ne, opC_lt, opC_le, opC_gt, opC_ge, opC_is, opC_isn, opC_isb, opC_isnb, opC_in, opC_nin, isN_n, isN_i, nI, biMin2, biMax2, opEq_nI, ixW0, ixW1, ix_e0, ix_e1, ix_e2, tup_e, decide_eq_true_eq]
    rfl
theorem ren_ren {w : Web} (hw : Wl w) {f g : Nat → Nat} (h : ∀ x, x < w.many → g (f x) = x) : (w.ren f).ren g = w := by
  unfold Web.ren
  have : (w.ties.map (renT f)).map (renT g) = w.ties := by
    rw [List.map_map]
    have e : w.ties.map (renT g ∘ renT f) = w.ties.map id := List.map_congr_left fun t ht => by
      have ok := hw.ok t ht
      have h1 := h t.1 (by omega)
      have h2 := h t.2.1 (by omega)
      have hmin : min (g (min (f t.1) (f t.2.1))) (g (max (f t.1) (f t.2.1))) = t.1 ∧ max (g (min (f t.1) (f t.2.1))) (g (max (f t.1) (f t.2.1))) = t.2.1 := by
        by_cases hle : f t.1 ≤ f t.2.1
        · rw [Nat.min_eq_left hle, Nat.max_eq_right hle, h1, h2]; omega
        · rw [show min (f t.1) (f t.2.1) = f t.2.1 from Nat.min_eq_right (by omega), show max (f t.1) (f t.2.1) = f t.1 from Nat.max_eq_left (by omega), h1, h2]; omega
      show (min (g (min (f t.1) (f t.2.1))) (g (max (f t.1) (f t.2.1))), max (g (min (f t.1) (f t.2.1))) (g (max (f t.1) (f t.2.1))), t.2.2) = t
      rw [hmin.1, hmin.2]
    rw [e, List.map_id]
  rw [this]
theorem Wl.ren {w : Web} (hw : Wl w) {f : Nat → Nat} (h1 : ∀ x, x < w.many → f x < w.many) (h2 : ∀ x y, x < w.many → y < w.many → f x = f y → x = y) : Wl (w.ren f) := by
  refine ⟨hw.lo, hw.hi, by unfold Web.ren; simpa using hw.len, fun t ht => ?_⟩
  obtain ⟨u, hu, rfl⟩ := List.mem_map.mp ht
  have ok := hw.ok u hu
  have a1 := h1 u.1 (by omega)
  have a2 := h1 u.2.1 (by omega)
  have a3 := h2 u.1 u.2.1 (by omega) (by omega)
  show min (f u.1) (f u.2.1) < max (f u.1) (f u.2.1) ∧ max (f u.1) (f u.2.1) < w.many
  by_cases hle : f u.1 ≤ f u.2.1
  · rw [Nat.min_eq_left hle, Nat.max_eq_right hle]
    have : f u.1 ≠ f u.2.1 := fun e => by have := a3 e; omega
    omega
  · rw [Nat.min_eq_right (by omega), Nat.max_eq_left (by omega)]
    omega
theorem shaped_ts {ts : List T3} : SeqAt.shaped (.tuple (ts.map encT)) = true := by
  have := depT ts
  have h2 : (PyData.tuple (ts.map encT)).depth ≤ 64 := by simp only [PyData.depth]; omega
  simp only [SeqAt.shaped, PyData.canLay0, canT, Bool.true_and, decide_eq_true h2]
theorem opEq_W {w : Web} : opEq (encW w) (encW w) = some true := opEq_rf shaped_W
theorem opEq_ties0 {ts : List T3} : opEq (.tuple (ts.map encT)) (.tuple []) = some (decide (ts = [])) := by
  have h0 : SeqAt.shaped (.tuple ([] : List D)) = true := rfl
  simp only [opEq, scalP, Bool.false_eq_true, if_false, shaped_ts, h0, Bool.and_self, if_true]
  cases ts with
  | nil => rfl
  | cons a r => rfl
end J

/-! what renaming does to the least cost; names that are a shuffle; the two helpers of k70's law -/
namespace J
open PySem
theorem ren_tie {w : Web} {f : Nat → Nat} {k : Nat} (h : k < w.ties.length) : (w.ren f).tie k = renT f (w.tie k) := by
  have e : w.ties[k]? = some (w.tie k) := tie_get h
  show (w.ties.map (renT f)).getD k _ = _
  rw [List.getD_eq_getElem?_getD, List.getElem?_map, e]
  rfl
theorem ren_len {w : Web} {f : Nat → Nat} : (w.ren f).ties.length = w.ties.length := by unfold Web.ren; simp
theorem Ac.ren {w : Web} {f : Nat → Nat} {es : List Nat} {c : Nat} (h : Ac w es c) : Ac (w.ren f) (es.map f) c := by
  obtain ⟨is, ok, jn, hc⟩ := h
  refine ⟨is, fun k hk => by rw [ren_len]; exact ok k hk, fun a ha b hb => ?_, ?_⟩
  · obtain ⟨a, ha', rfl⟩ := List.mem_map.mp ha
    obtain ⟨b, hb', rfl⟩ := List.mem_map.mp hb
    refine Cn.sim f (fun k hk hl => ?_) (jn a ha' b hb')
    have := Cn.tie (w := w.ren f) (S := (· ∈ is)) k hk (by rw [ren_len]; exact hl)
    rw [ren_tie hl] at this
    unfold renT at this
    dsimp only at this
    by_cases hle : f (w.tie k).1 ≤ f (w.tie k).2.1
    · rw [Nat.min_eq_left hle, Nat.max_eq_right hle] at this
      exact this
    · rw [Nat.min_eq_right (by omega), Nat.max_eq_left (by omega)] at this
      exact this.sm
  · rw [cst_congr (w' := w) fun k hk => by rw [ren_tie (ok k hk)]; rfl]
    exact hc
theorem ren_iff {w : Web} (hw : Wl w) {f g : Nat → Nat} (hg : ∀ x, x < w.many → g (f x) = x) {es : List Nat} (he : ∀ e ∈ es, e < w.many) {c : Nat} : Ac (w.ren f) (es.map f) c ↔ Ac w es c := by
  refine ⟨fun h => ?_, Ac.ren⟩
  have := h.ren (f := g)
  rw [ren_ren hw hg, List.map_map] at this
  have e : es.map (g ∘ f) = es := by
    have : es.map (g ∘ f) = es.map id := List.map_congr_left fun x hx => hg x (he x hx)
    rw [this, List.map_id]
  rw [e] at this
  exact this
/-- a shuffle of the numbers below m, as a function -/
theorem shuffle {m : Nat} {l : List Int} (h : l.Perm ((List.range m).map fun j : Nat => (j : Int))) :
    ∃ (f g : Nat → Nat), l.map PyData.int = ((List.range m).map f).map nI ∧ (∀ x, x < m → f x < m) ∧ (∀ x, x < m → g (f x) = x) := by
  let l' := l.map Int.toNat
  have hp : l'.Perm (List.range m) := by
    have := h.map Int.toNat
    rw [List.map_map] at this
    have e : (List.range m).map (Int.toNat ∘ fun j : Nat => (j : Int)) = List.range m := by
      have : (List.range m).map (Int.toNat ∘ fun j : Nat => (j : Int)) = (List.range m).map id := List.map_congr_left fun x hx => Int.toNat_natCast x
      rw [this, List.map_id]
    rw [e] at this
    exact this
  have hlen : l'.length = m := by rw [hp.length_eq, List.length_range]
  have hnd : l'.Nodup := hp.nodup_iff.mpr List.nodup_range
  have hr : (List.range m).map (fun k => l'.getD k 0) = l' := by
    refine List.ext_getElem? fun k => ?_
    rw [List.getElem?_map]
    by_cases hk : k < m
    · rw [List.getElem?_range hk]
      show some (l'.getD k 0) = _
      rw [List.getD_eq_getElem?_getD, List.getElem?_eq_getElem (by omega)]
      rfl
    · rw [List.getElem?_eq_none (by simpa using hk), List.getElem?_eq_none (by omega)]
      rfl
  have hget : ∀ x (hx : x < m), l'.getD x 0 = l'[x]'(by omega) := fun x hx => by
    rw [List.getD_eq_getElem?_getD, List.getElem?_eq_getElem (by omega)]
    rfl
  refine ⟨fun k => l'.getD k 0, fun y => l'.idxOf y, ?_, fun x hx => ?_, fun x hx => ?_⟩
  · rw [hr]
    show l.map PyData.int = (l.map Int.toNat).map nI
    rw [List.map_map]
    refine List.map_congr_left fun i hi => ?_
    obtain ⟨j, _, rfl⟩ := List.mem_map.mp (h.mem_iff.mp hi)
    show PyData.int _ = PyData.int _
    rw [Int.toNat_natCast]
  · have : l'.getD x 0 ∈ l' := by rw [hget x hx]; exact List.getElem_mem _
    exact List.mem_range.mp (hp.mem_iff.mp this)
  · show l'.idxOf (l'.getD x 0) = x
    rw [hget x hx]
    exact hnd.idxOf_getElem x (by omega)
theorem sort_nats (xs : List Nat) : ∃ ys : List Nat, (sortI (xs.map fun n : Nat => (n : Int))).map PyData.int = ys.map nI ∧ (∀ x, x ∈ ys ↔ x ∈ xs) ∧ ys.length = xs.length := by
  have hp := sortI_perm (xs.map fun n : Nat => (n : Int))
  refine ⟨(sortI (xs.map fun n : Nat => (n : Int))).map Int.toNat, ?_, fun x => ?_, ?_⟩
  · rw [List.map_map]
    refine List.map_congr_left fun i hi => ?_
    obtain ⟨j, _, rfl⟩ := List.mem_map.mp (hp.mem_iff.mp hi)
    show PyData.int _ = PyData.int _
    rw [Int.toNat_natCast]
  · have := (hp.map Int.toNat).mem_iff (a := x)
    have e : xs.map (Int.toNat ∘ fun n : Nat => (n : Int)) = xs.map id := List.map_congr_left fun y _ => Int.toNat_natCast y
    rw [this, List.map_map, e, List.map_id]
  · rw [List.length_map, hp.length_eq, List.length_map]
theorem no_less (n : Nat) {a b : Option Nat} (h : ∀ c, leC b c → leC a c) : Ph (n + 1) 64 [encO a, encO b] = some (.bool true) := by
  show evF (Ph n) fd64 [encO a, encO b] = _
  cases b with
  | none =>
    rw [← o1_eq, ef_of rfl]
    simp only [o1_some, o1_none, o1_map, o1_if, o1_test, ev_var, ev_bv, ev_cn, ev_cb, ev_ci, ev_cs, ev_bin, ev_neg, ev_nt, ev_cmp, ev_cmp2, ev_an, ev_or, ev_tup, ev_lst, ev_call, ev_bi, ev_isi, ev_ix, ev_sl, ev_rev, ev_rgL, ev_rgT, ev_lset, ev_sset, ev_comp, ev_join, ev_split, ea_nil, ea_cons, eo_nil, ec_nil, ei_rg, ei_zip, ei_enum, nxt_nx, nxt_rt, es_set, es_setO, es_unp, es_par, es_app, es_sti, es_ifs, es_for, es_skip, es_seq, es_retv, turn_of, forB_of, bindT1, bindT2, bindEach, wipeE, getV, getB, start0, List.length_cons, List.length_nil, List.getElem?_cons_zero, List.getElem?_cons_succ, List.set_cons_zero, List.set_cons_succ, List.cons_append, List.nil_append, List.replicate_succ, List.replicate_zero, if_true, if_false, reduceIte, Nat.reduceAdd, Nat.reduceSub, Nat.reduceLeDiff, Bool.false_eq_true, Bool.true_eq_false, Bool.not_true, Bool.not_false, reduceCtorEq, Nat.zero_add, true_and, and_true, ei_var, ei_bv, ei_ix, ei_call, ei_bi, ei_tup, ei_lst, ei_comp, ei_rev, ei_bin, ei_rgL, ei_rgT, ei_sset, ei_sl, ei_split, ec_cmp, ec_cmp2, ec_an, ec_or, ec_nt, ec_call, ec_isi, ec_bv, ec_var, ec_bi, ec_cb, eo_ci, eo_bv, eo_var, eo_neg, eo_bin, eo_bi, eo_ix, eo_call, er_bv, er_ix, er_call, er_bi, er_tup, er_lst, er_comp, er_rev, er_bin, er_rgL, er_rgT, er_sset, er_lset, er_sl, er_split, er_join, er_cmp, er_cmp2, er_an, er_or, er_nt, er_isi, er_ci, er_cb, er_cn, er_cs, er_neg, valS_val, valS_own, retD_rt, retD_nx, boolD_b, intD_i, listD_l, tupD_t, ownS_o, items_l, items_t, isi_b, isi_i, isi_n, isi_ii, isi_tt, len_l, len_t, tu_l, tu_t, li_l, li_t, int_b, add_i, add_l, add_t, sub_i, opI_i, rev_l, rev_t, sl_l, sl_t, zip_t, zip_l, zip_tl, sq2_t, sq2_l, bi_len, bi_min, bi_max, bi_sum, bi_all, bi_any, bi_int, bi_str, bi_tuple, bi_list, bi_sorted, opB_add, opB_sub, opB_mul, opB_div, opB_mod, opC_eq, opC_ne, opC_lt, opC_le, opC_gt, opC_ge, opC_is, opC_isn, opC_isb, opC_isnb, opC_in, opC_nin, isN_n, isN_i, nI, biMin2, biMax2, opEq_nI, ixW0, ixW1, ix_e0, ix_e1, ix_e2, tup_e, decide_eq_true_eq, fd64, isN_O, Option.isNone_none]
  | some y =>
    obtain ⟨x, rfl, hx⟩ := h y (leC_some.mpr (Nat.le_refl y))
    have hx' : (x : Int) ≤ (y : Int) := by omega
    rw [← o1_eq, ef_of rfl]
    simp only [o1_some, o1_none, o1_map, o1_if, o1_test, ev_var, ev_bv, ev_cn, ev_cb, ev_ci, ev_cs, ev_bin, ev_neg, ev_nt, ev_cmp, ev_cmp2, ev_an, ev_or, ev_tup, ev_lst, ev_call, ev_bi, ev_isi, ev_ix, ev_sl, ev_rev, ev_rgL, ev_rgT, ev_lset, ev_sset, ev_comp, ev_join, ev_split, ea_nil, ea_cons, eo_nil, ec_nil, ei_rg, ei_zip, ei_enum, nxt_nx, nxt_rt, es_set, es_setO, es_unp, es_par, es_app, es_sti, es_ifs, es_for, es_skip, es_seq, es_retv, turn_of, forB_of, bindT1, bindT2, bindEach, wipeE, getV, getB, start0, List.length_cons, List.length_nil, List.getElem?_cons_zero, List.getElem?_cons_succ, List.set_cons_zero, List.set_cons_succ, List.cons_append, List.nil_append, List.replicate_succ, List.replicate_zero, if_true, if_false, reduceIte, Nat.reduceAdd, Nat.reduceSub, Nat.reduceLeDiff, Bool.false_eq_true, Bool.true_eq_false, Bool.not_true, Bool.not_false, reduceCtorEq, Nat.zero_add, true_and, and_true, ei_var, ei_bv, ei_ix, ei_call, ei_bi, ei_tup, ei_lst, ei_comp, ei_rev, ei_bin, ei_rgL, ei_rgT, ei_sset, ei_sl, ei_split, ec_cmp, ec_cmp2, ec_an, ec_or, ec_nt, ec_call, ec_isi, ec_bv, ec_var, ec_bi, ec_cb, eo_ci, eo_bv, eo_var, eo_neg, eo_bin, eo_bi, eo_ix, eo_call, er_bv, er_ix, er_call, er_bi, er_tup, er_lst, er_comp, er_rev, er_bin, er_rgL, er_rgT, er_sset, er_lset, er_sl, er_split, er_join, er_cmp, er_cmp2, er_an, er_or, er_nt, er_isi, er_ci, er_cb, er_cn, er_cs, er_neg, valS_val, valS_own, retD_rt, retD_nx, boolD_b, intD_i, listD_l, tupD_t, ownS_o, items_l, items_t, isi_b, isi_i, isi_n, isi_ii, isi_tt, len_l, len_t, tu_l, tu_t, li_l, li_t, int_b, add_i, add_l, add_t, sub_i, opI_i, rev_l, rev_t, sl_l, sl_t, zip_t, zip_l, zip_tl, sq2_t, sq2_l, bi_len, bi_min, bi_max, bi_sum, bi_all, bi_any, bi_int, bi_str, bi_tuple, bi_list, bi_sorted, opB_add, opB_sub, opB_mul, opB_div, opB_mod, opC_eq, opC_ne, opC_lt, opC_le, opC_gt, opC_ge, opC_is, opC_isn, opC_isb, opC_isnb, opC_in, opC_nin, isN_n, isN_i, nI, biMin2, biMax2, opEq_nI, ixW0, ixW1, ix_e0, ix_e1, ix_e2, tup_e, decide_eq_true_eq, fd64, isN_O, encO, hx', decide_true]
theorem sl_T2 {t : T3} : opSl (encT t) none (some 2) = some (.tuple [nI t.1, nI t.2.1]) := rfl
theorem part_enc {w : Web} {k f : Nat} (hk : k < w.ties.length) (hf : f ≤ (w.tie k).2.2) : PyData.tuple [.int ((w.many : Int) + 1), .tuple ((((w.ties.map encT).take k ++ [.tuple [.int (w.tie k).1, .int w.many, .int f]]) ++ (w.ties.map encT).drop (k + 1)) ++ [.tuple [.int (w.tie k).2.1, .int w.many, .int (((w.tie k).2.2 : Int) - f)]])] = encW (w.part k f) := by
  unfold Web.part encW
  dsimp only
  rw [List.map_append, ← set_cut hk, List.map_append, List.map_append, List.map_take, List.map_drop, show (((w.tie k).2.2 : Int) - f) = (((w.tie k).2.2 - f : Nat) : Int) by omega]
  rfl
theorem del_enc {w : Web} {k : Nat} : PyData.tuple [.int w.many, .tuple ((w.ties.map encT).take k ++ (w.ties.map encT).drop (k + 1))] = encW (w.del k) := by
  unfold Web.del encW
  dsimp only
  rw [List.map_append, List.map_take, List.map_drop]
theorem at1_enc {w : Web} {k p : Nat} (hk : k < w.ties.length) : PyData.tuple [.int w.many, .tuple (((w.ties.map encT).take k ++ [.tuple [.int (w.tie k).1, .int (w.tie k).2.1, .int p]]) ++ (w.ties.map encT).drop (k + 1))] = encW (w.at1 k p) := by
  unfold Web.at1 Web.put encW
  dsimp only
  rw [← set_cut hk, List.map_append, List.map_append, List.map_take, List.map_drop]
  rfl
theorem with_ties {w : Web} (hw : Wok w) {es : List Nat} (hE : Eok w es) (hel : es.length ≤ 5) (ht : w.ties ≠ []) (num : Int) : Ph 59 65 [encW w, .tuple (es.map nI), encO (Lc w es), .int num] = some (.bool true) := by
  show evF (Ph 58) fd65 [encW w, .tuple (es.map nI), encO (Lc w es), .int num] = _
  rw [← o1_eq, ef_of rfl]
  have wl := hw.wl
  have hl10 := hw.len
  have h7 := hw.hi
  have hlen : 1 ≤ w.ties.length := List.length_pos_iff.mpr ht
  have hp := mod_lt (a := num) hlen
  obtain ⟨k, hke⟩ : ∃ p : Nat, num % w.ties.length = p := ⟨(num % w.ties.length).toNat, (toN hp.1).symm⟩
  have hk : k < w.ties.length := by omega
  have hq := mod_lt (a := num / 16) (m := (w.tie k).2.2 + 1) (by omega)
  obtain ⟨f, hfe⟩ : ∃ p : Nat, num / 16 % ((w.tie k).2.2 + 1 : Int) = p := ⟨(num / 16 % ((w.tie k).2.2 + 1 : Int)).toNat, (toN (by simpa using hq.1)).symm⟩
  have hf : f ≤ (w.tie k).2.2 := by
    have := hq.2
    push_cast at this
    omega
  have w1 : Wl (w.part k f) := wl.part hk (by omega) (by omega)
  have he1 : ∀ e ∈ es, e < (w.part k f).many := fun e he => by have := hE.lt e he; show e < w.many + 1; omega
  have e1 : Lc (w.part k f) es = Lc w es := Lc_eq w1 wl he1 hE.ne hE.lt hE.ne fun c => part_iff wl hk hf hE.lt
  have l1 := least_cost 54 w1 he1 hE.ne (by omega)
  rw [e1] at l1
  have p1 := parted 57 wl hk hf
  have p2 := without_tie 57 wl (k := k)
  have p3 : Ph 58 47 [encW w, .int k, .int (((w.tie k).2.2 : Int) + f)] = some (encW (w.at1 k ((w.tie k).2.2 + f))) := at_once 57 wl (p := (w.tie k).2.2 + f) hk
  have l2 := least_cost 54 (wl.del (k := k)) hE.lt hE.ne (by omega)
  have l3 := least_cost 54 (wl.at1 (p := (w.tie k).2.2 + f) hk) hE.lt hE.ne (by omega)
  have n2 := no_less 57 (a := Lc w es) (b := Lc (w.del k) es) fun c hc => (Lc_iff wl hE.lt hE.ne).mpr (((Lc_iff (wl.del (k := k)) hE.lt hE.ne).mp hc).more fun t ht => del_mem ht)
  have n3 := no_less 57 (a := Lc w es) (b := Lc (w.at1 k ((w.tie k).2.2 + f)) es) fun c hc => (Lc_iff wl hE.lt hE.ne).mpr (by
    have := at1_dn hk ((Lc_iff (wl.at1 (p := (w.tie k).2.2 + f) hk) hE.lt hE.ne).mp hc)
    rw [show (w.tie k).2.2 - ((w.tie k).2.2 + f) = 0 by omega] at this
    exact this)
  have g1 : ((w.ties.map encT).take k).length + 1 ≤ 100000 := by rw [List.length_take, List.length_map]; omega
  have g2 : ((w.ties.map encT).take k ++ [PyData.tuple [.int (w.tie k).1, .int w.many, .int f]]).length + ((w.ties.map encT).drop (k + 1)).length ≤ 100000 := by rw [List.length_append, List.length_take, List.length_drop, List.length_map]; simp; omega
  have g3 : (((w.ties.map encT).take k ++ [PyData.tuple [.int (w.tie k).1, .int w.many, .int f]]) ++ (w.ties.map encT).drop (k + 1)).length + 1 ≤ 100000 := by rw [List.length_append, List.length_append, List.length_take, List.length_drop, List.length_map]; simp; omega
  have g4 : ((w.ties.map encT).take k).length + ((w.ties.map encT).drop (k + 1)).length ≤ 100000 := by rw [List.length_take, List.length_drop, List.length_map]; omega
  have g5 : ((w.ties.map encT).take k ++ [PyData.tuple [.int (w.tie k).1, .int (w.tie k).2.1, .int (((w.tie k).2.2 : Int) + f)]]).length + ((w.ties.map encT).drop (k + 1)).length ≤ 100000 := by rw [List.length_append, List.length_take, List.length_drop, List.length_map]; simp; omega
  have at1e : PyData.tuple [.int w.many, .tuple (((w.ties.map encT).take k ++ [.tuple [.int (w.tie k).1, .int (w.tie k).2.1, .int (((w.tie k).2.2 : Int) + f)]]) ++ (w.ties.map encT).drop (k + 1))] = encW (w.at1 k ((w.tie k).2.2 + f)) := at1_enc (p := (w.tie k).2.2 + f) hk
  simp only [o1_some, o1_none, o1_map, o1_if, o1_test, ev_var, ev_bv, ev_cn, ev_cb, ev_ci, ev_cs, ev_bin, ev_neg, ev_nt, ev_cmp, ev_cmp2, ev_an, ev_or, ev_tup, ev_lst, ev_call, ev_bi, ev_isi, ev_ix, ev_sl, ev_rev, ev_rgL, ev_rgT, ev_lset, ev_sset, ev_comp, ev_join, ev_split, ea_nil, ea_cons, eo_nil, ec_nil, ei_rg, ei_zip, ei_enum, nxt_nx, nxt_rt, es_set, es_setO, es_unp, es_par, es_app, es_sti, es_ifs, es_for, es_skip, es_seq, es_retv, turn_of, forB_of, bindT1, bindT2, bindEach, wipeE, getV, getB, start0, List.length_cons, List.length_nil, List.getElem?_cons_zero, List.getElem?_cons_succ, List.set_cons_zero, List.set_cons_succ, List.cons_append, List.nil_append, List.replicate_succ, List.replicate_zero, if_true, if_false, reduceIte, Nat.reduceAdd, Nat.reduceSub, Nat.reduceLeDiff, Bool.false_eq_true, Bool.true_eq_false, Bool.not_true, Bool.not_false, reduceCtorEq, Nat.zero_add, true_and, and_true, ei_var, ei_bv, ei_ix, ei_call, ei_bi, ei_tup, ei_lst, ei_comp, ei_rev, ei_bin, ei_rgL, ei_rgT, ei_sset, ei_sl, ei_split, ec_cmp, ec_cmp2, ec_an, ec_or, ec_nt, ec_call, ec_isi, ec_bv, ec_var, ec_bi, ec_cb, eo_ci, eo_bv, eo_var, eo_neg, eo_bin, eo_bi, eo_ix, eo_call, er_bv, er_ix, er_call, er_bi, er_tup, er_lst, er_comp, er_rev, er_bin, er_rgL, er_rgT, er_sset, er_lset, er_sl, er_split, er_join, er_cmp, er_cmp2, er_an, er_or, er_nt, er_isi, er_ci, er_cb, er_cn, er_cs, er_neg, valS_val, valS_own, retD_rt, retD_nx, boolD_b, intD_i, listD_l, tupD_t, ownS_o, items_l, items_t, isi_b, isi_i, isi_n, isi_ii, isi_tt, len_l, len_t, tu_l, tu_t, li_l, li_t, int_b, add_i, add_l, add_t, sub_i, opI_i, rev_l, rev_t, sl_l, sl_t, zip_t, zip_l, zip_tl, sq2_t, sq2_l, bi_len, bi_min, bi_max, bi_sum, bi_all, bi_any, bi_int, bi_str, bi_tuple, bi_list, bi_sorted, opB_add, opB_sub, opB_mul, opB_div, opB_mod, opC_eq, opC_ne, opC_lt, opC_le, opC_gt, opC_ge, opC_is, opC_isn, opC_isb, opC_isnb, opC_in, opC_nin, isN_n, isN_i, nI, biMin2, biMax2, opEq_nI, ixW0, ixW1, ix_e0, ix_e1, ix_e2, tup_e, decide_eq_true_eq, fd65, List.length_map, modOk (show (0 : Int) < (w.ties.length : Int) by omega), hke, ix_w hk, divOk (i := num) (j := 16) (by decide) (by decide), modOk (show (0 : Int) < ((w.tie k).2.2 + 1 : Int) by omega), hfe, cutD_to, cut_from1, g1, g2, g3, p1, part_enc hk hf, opEq_W, l1, opEq_O, decide_true, p2, g4, del_enc, l2, n2, p3, sl_T2, g5, at1e, l3, n3, Nat.reduceAdd]
  exact ⟨by omega, by omega, by omega⟩
end J

namespace J
open PySem
theorem ren_enc {w : Web} {f : Nat → Nat} : PyData.tuple [.int w.many, .tuple ((w.ties.map (renT f)).map encT)] = encW (w.ren f) := rfl
theorem scl_enc {w : Web} {s : Nat} : PyData.tuple [.int w.many, .tuple ((w.ties.map fun t => (t.1, t.2.1, s * t.2.2)).map encT)] = encW (w.scl s) := rfl
theorem Lc_scl {w : Web} (hw : Wl w) {es : List Nat} (he : ∀ e ∈ es, e < w.many) (hn : es ≠ []) (s : Nat) : Lc (w.scl s) es = (Lc w es).map (s * ·) := by
  refine leC_ext fun c => ?_
  rw [Lc_iff hw.scl he hn, scl_iff]
  cases hL : Lc w es with
  | none =>
    have := (Lc_none hw he hn).mp hL
    rw [Option.map_none, leC_none]
    exact ⟨fun ⟨d, hd, _⟩ => this d hd, False.elim⟩
  | some x =>
    obtain ⟨h1, h2⟩ := (Lc_some hw he hn).mp hL
    rw [Option.map_some, leC_some]
    exact ⟨fun ⟨d, hd, q⟩ => Nat.le_trans (Nat.mul_le_mul_left s (h2 d hd)) q, fun q => ⟨x, h1, q⟩⟩
theorem post_ok (ns : List Int) {w : Web} (hw : Wok w) {es : List Nat} (hE : Eok w es) (hel : es.length ≤ 5) {l : List Int} (hl : l.Perm ((List.range w.many).map fun j : Nat => (j : Int))) :
    evS (Ph 59) post66 [.val (scr ns), .val (encW w), .val (.tuple (es.map nI)), .val (encO (Lc w es)), .val (.list (l.map .int)), .no, .no, .no, .no, .no, .no, .no, .no] = some (.rt (.bool true)) := by
  obtain ⟨f, g, hle, hfl, hgf⟩ := shuffle hl
  rw [hle, ← o1_eq]
  have wl := hw.wl
  have h7 := hw.hi
  have hl10 := hw.len
  have hm3 : Ph 59 2 [scr ns, .int 3] = some (.int (mix ns 3)) := mixed 57 ns 3
  have hm4 : Ph 59 2 [scr ns, .int 4] = some (.int (mix ns 4)) := mixed 57 ns 4
  have r1 := renamed 58 wl (f := f) rfl
  have wr : Wl (w.ren f) := wl.ren hfl fun x y hx hy e => by rw [← hgf x hx, ← hgf y hy, e]
  obtain ⟨ys, hy1, hy2, hy3⟩ := sort_nats (es.map f)
  have hyl : ∀ y ∈ ys, y < (w.ren f).many := fun y hy => by
    obtain ⟨e, he, rfl⟩ := List.mem_map.mp ((hy2 y).mp hy)
    exact hfl e (hE.lt e he)
  have hyn : ys ≠ [] := fun h => by
    have : es.length = 0 := by rw [← List.length_map (f := f), ← hy3, h]; rfl
    exact hE.ne (List.length_eq_zero_iff.mp this)
  have e1 : Lc (w.ren f) ys = Lc w es := Lc_eq wr wl hyl hyn hE.lt hE.ne fun c => by
    rw [← ren_iff wl hgf hE.lt]
    exact Ac.congr fun x => (hy2 x).symm
  have l1 := least_cost 55 wr hyl hyn (by rw [hy3, List.length_map]; omega)
  rw [e1] at l1
  have hb0 := mod_lt (a := mix ns 3) (m := 9) (by decide)
  obtain ⟨b, hbe⟩ : ∃ p : Nat, (1 : Int) + mix ns 3 % 9 = p := ⟨(1 + mix ns 3 % 9).toNat, (toN (by omega)).symm⟩
  have s1 := scaled 58 wl (s := b) (by omega)
  have l2 := least_cost 55 (wl.scl (s := b)) hE.lt hE.ne (by omega)
  rw [Lc_scl wl hE.lt hE.ne] at l2
  have ixf : ∀ k : Nat, k < w.many → opIx (.list (((List.range w.many).map f).map nI)) (.int k) = some (nI (f k)) := fun k hk => by
    rw [ix_l (by simpa using hk), List.getD_eq_getElem?_getD, List.getElem?_map, List.getElem?_range hk]
    rfl
  have ints1 := ints_nI (es.map f)
  simp only [o1_some, o1_none, o1_map, o1_if, o1_test, ev_var, ev_bv, ev_cn, ev_cb, ev_ci, ev_cs, ev_bin, ev_neg, ev_nt, ev_cmp, ev_cmp2, ev_an, ev_or, ev_tup, ev_lst, ev_call, ev_bi, ev_isi, ev_ix, ev_sl, ev_rev, ev_rgL, ev_rgT, ev_lset, ev_sset, ev_comp, ev_join, ev_split, ea_nil, ea_cons, eo_nil, ec_nil, ei_rg, ei_zip, ei_enum, nxt_nx, nxt_rt, es_set, es_setO, es_unp, es_par, es_app, es_sti, es_ifs, es_for, es_skip, es_seq, es_retv, turn_of, forB_of, bindT1, bindT2, bindEach, wipeE, getV, getB, start0, List.length_cons, List.length_nil, List.getElem?_cons_zero, List.getElem?_cons_succ, List.set_cons_zero, List.set_cons_succ, List.cons_append, List.nil_append, List.replicate_succ, List.replicate_zero, if_true, if_false, reduceIte, Nat.reduceAdd, Nat.reduceSub, Nat.reduceLeDiff, Bool.false_eq_true, Bool.true_eq_false, Bool.not_true, Bool.not_false, reduceCtorEq, Nat.zero_add, true_and, and_true, ei_var, ei_bv, ei_ix, ei_call, ei_bi, ei_tup, ei_lst, ei_comp, ei_rev, ei_bin, ei_rgL, ei_rgT, ei_sset, ei_sl, ei_split, ec_cmp, ec_cmp2, ec_an, ec_or, ec_nt, ec_call, ec_isi, ec_bv, ec_var, ec_bi, ec_cb, eo_ci, eo_bv, eo_var, eo_neg, eo_bin, eo_bi, eo_ix, eo_call, er_bv, er_ix, er_call, er_bi, er_tup, er_lst, er_comp, er_rev, er_bin, er_rgL, er_rgT, er_sset, er_lset, er_sl, er_split, er_join, er_cmp, er_cmp2, er_an, er_or, er_nt, er_isi, er_ci, er_cb, er_cn, er_cs, er_neg, valS_val, valS_own, retD_rt, retD_nx, boolD_b, intD_i, listD_l, tupD_t, ownS_o, items_l, items_t, isi_b, isi_i, isi_n, isi_ii, isi_tt, len_l, len_t, tu_l, tu_t, li_l, li_t, int_b, add_i, add_l, add_t, sub_i, opI_i, rev_l, rev_t, sl_l, sl_t, zip_t, zip_l, zip_tl, sq2_t, sq2_l, bi_len, bi_min, bi_max, bi_sum, bi_all, bi_any, bi_int, bi_str, bi_tuple, bi_list, bi_sorted, opB_add, opB_sub, opB_mul, opB_div, opB_mod, opC_eq, opC_ne, opC_lt, opC_le, opC_gt, opC_ge, opC_is, opC_isn, opC_isb, opC_isnb, opC_in, opC_nin, isN_n, isN_i, nI, biMin2, biMax2, opEq_nI, ixW0, ixW1, ix_e0, ix_e1, ix_e2, tup_e, decide_eq_true_eq, post66]
  refine ⟨by rw [List.length_map]; omega, comp_map (e := encT) (e' := encT) (renT f) (fun t ht => ?_) ?_⟩
  · have ok := wl.ok t ht
    simp only [o1_some, o1_none, o1_map, o1_if, o1_test, ev_var, ev_bv, ev_cn, ev_cb, ev_ci, ev_cs, ev_bin, ev_neg, ev_nt, ev_cmp, ev_cmp2, ev_an, ev_or, ev_tup, ev_lst, ev_call, ev_bi, ev_isi, ev_ix, ev_sl, ev_rev, ev_rgL, ev_rgT, ev_lset, ev_sset, ev_comp, ev_join, ev_split, ea_nil, ea_cons, eo_nil, ec_nil, ei_rg, ei_zip, ei_enum, nxt_nx, nxt_rt, es_set, es_setO, es_unp, es_par, es_app, es_sti, es_ifs, es_for, es_skip, es_seq, es_retv, turn_of, forB_of, bindT1, bindT2, bindEach, wipeE, getV, getB, start0, List.length_cons, List.length_nil, List.getElem?_cons_zero, List.getElem?_cons_succ, List.set_cons_zero, List.set_cons_succ, List.cons_append, List.nil_append, List.replicate_succ, List.replicate_zero, if_true, if_false, reduceIte, Nat.reduceAdd, Nat.reduceSub, Nat.reduceLeDiff, Bool.false_eq_true, Bool.true_eq_false, Bool.not_true, Bool.not_false, reduceCtorEq, Nat.zero_add, true_and, and_true, ei_var, ei_bv, ei_ix, ei_call, ei_bi, ei_tup, ei_lst, ei_comp, ei_rev, ei_bin, ei_rgL, ei_rgT, ei_sset, ei_sl, ei_split, ec_cmp, ec_cmp2, ec_an, ec_or, ec_nt, ec_call, ec_isi, ec_bv, ec_var, ec_bi, ec_cb, eo_ci, eo_bv, eo_var, eo_neg, eo_bin, eo_bi, eo_ix, eo_call, er_bv, er_ix, er_call, er_bi, er_tup, er_lst, er_comp, er_rev, er_bin, er_rgL, er_rgT, er_sset, er_lset, er_sl, er_split, er_join, er_cmp, er_cmp2, er_an, er_or, er_nt, er_isi, er_ci, er_cb, er_cn, er_cs, er_neg, valS_val, valS_own, retD_rt, retD_nx, boolD_b, intD_i, listD_l, tupD_t, ownS_o, items_l, items_t, isi_b, isi_i, isi_n, isi_ii, isi_tt, len_l, len_t, tu_l, tu_t, li_l, li_t, int_b, add_i, add_l, add_t, sub_i, opI_i, rev_l, rev_t, sl_l, sl_t, zip_t, zip_l, zip_tl, sq2_t, sq2_l, bi_len, bi_min, bi_max, bi_sum, bi_all, bi_any, bi_int, bi_str, bi_tuple, bi_list, bi_sorted, opB_add, opB_sub, opB_mul, opB_div, opB_mod, opC_eq, opC_ne, opC_lt, opC_le, opC_gt, opC_ge, opC_is, opC_isn, opC_isb, opC_isnb, opC_in, opC_nin, isN_n, isN_i, nI, biMin2, biMax2, opEq_nI, ixW0, ixW1, ix_e0, ix_e1, ix_e2, tup_e, decide_eq_true_eq, bindT_T, ixf t.1 (by omega), ixf t.2.1 (by omega)]
    rfl
  simp only [o1_some, o1_none, o1_map, o1_if, o1_test, ev_var, ev_bv, ev_cn, ev_cb, ev_ci, ev_cs, ev_bin, ev_neg, ev_nt, ev_cmp, ev_cmp2, ev_an, ev_or, ev_tup, ev_lst, ev_call, ev_bi, ev_isi, ev_ix, ev_sl, ev_rev, ev_rgL, ev_rgT, ev_lset, ev_sset, ev_comp, ev_join, ev_split, ea_nil, ea_cons, eo_nil, ec_nil, ei_rg, ei_zip, ei_enum, nxt_nx, nxt_rt, es_set, es_setO, es_unp, es_par, es_app, es_sti, es_ifs, es_for, es_skip, es_seq, es_retv, turn_of, forB_of, bindT1, bindT2, bindEach, wipeE, getV, getB, start0, List.length_cons, List.length_nil, List.getElem?_cons_zero, List.getElem?_cons_succ, List.set_cons_zero, List.set_cons_succ, List.cons_append, List.nil_append, List.replicate_succ, List.replicate_zero, if_true, if_false, reduceIte, Nat.reduceAdd, Nat.reduceSub, Nat.reduceLeDiff, Bool.false_eq_true, Bool.true_eq_false, Bool.not_true, Bool.not_false, reduceCtorEq, Nat.zero_add, true_and, and_true, ei_var, ei_bv, ei_ix, ei_call, ei_bi, ei_tup, ei_lst, ei_comp, ei_rev, ei_bin, ei_rgL, ei_rgT, ei_sset, ei_sl, ei_split, ec_cmp, ec_cmp2, ec_an, ec_or, ec_nt, ec_call, ec_isi, ec_bv, ec_var, ec_bi, ec_cb, eo_ci, eo_bv, eo_var, eo_neg, eo_bin, eo_bi, eo_ix, eo_call, er_bv, er_ix, er_call, er_bi, er_tup, er_lst, er_comp, er_rev, er_bin, er_rgL, er_rgT, er_sset, er_lset, er_sl, er_split, er_join, er_cmp, er_cmp2, er_an, er_or, er_nt, er_isi, er_ci, er_cb, er_cn, er_cs, er_neg, valS_val, valS_own, retD_rt, retD_nx, boolD_b, intD_i, listD_l, tupD_t, ownS_o, items_l, items_t, isi_b, isi_i, isi_n, isi_ii, isi_tt, len_l, len_t, tu_l, tu_t, li_l, li_t, int_b, add_i, add_l, add_t, sub_i, opI_i, rev_l, rev_t, sl_l, sl_t, zip_t, zip_l, zip_tl, sq2_t, sq2_l, bi_len, bi_min, bi_max, bi_sum, bi_all, bi_any, bi_int, bi_str, bi_tuple, bi_list, bi_sorted, opB_add, opB_sub, opB_mul, opB_div, opB_mod, opC_eq, opC_ne, opC_lt, opC_le, opC_gt, opC_ge, opC_is, opC_isn, opC_isb, opC_isnb, opC_in, opC_nin, isN_n, isN_i, nI, biMin2, biMax2, opEq_nI, ixW0, ixW1, ix_e0, ix_e1, ix_e2, tup_e, decide_eq_true_eq, r1, ren_enc, opEq_W]
  refine ⟨by rw [List.length_map]; omega, comp_map (e := nI) (e' := nI) f (fun e he => ?_) ?_⟩
  · simp only [o1_some, o1_none, o1_map, o1_if, o1_test, ev_var, ev_bv, ev_cn, ev_cb, ev_ci, ev_cs, ev_bin, ev_neg, ev_nt, ev_cmp, ev_cmp2, ev_an, ev_or, ev_tup, ev_lst, ev_call, ev_bi, ev_isi, ev_ix, ev_sl, ev_rev, ev_rgL, ev_rgT, ev_lset, ev_sset, ev_comp, ev_join, ev_split, ea_nil, ea_cons, eo_nil, ec_nil, ei_rg, ei_zip, ei_enum, nxt_nx, nxt_rt, es_set, es_setO, es_unp, es_par, es_app, es_sti, es_ifs, es_for, es_skip, es_seq, es_retv, turn_of, forB_of, bindT1, bindT2, bindEach, wipeE, getV, getB, start0, List.length_cons, List.length_nil, List.getElem?_cons_zero, List.getElem?_cons_succ, List.set_cons_zero, List.set_cons_succ, List.cons_append, List.nil_append, List.replicate_succ, List.replicate_zero, if_true, if_false, reduceIte, Nat.reduceAdd, Nat.reduceSub, Nat.reduceLeDiff, Bool.false_eq_true, Bool.true_eq_false, Bool.not_true, Bool.not_false, reduceCtorEq, Nat.zero_add, true_and, and_true, ei_var, ei_bv, ei_ix, ei_call, ei_bi, ei_tup, ei_lst, ei_comp, ei_rev, ei_bin, ei_rgL, ei_rgT, ei_sset, ei_sl, ei_split, ec_cmp, ec_cmp2, ec_an, ec_or, ec_nt, ec_call, ec_isi, ec_bv, ec_var, ec_bi, ec_cb, eo_ci, eo_bv, eo_var, eo_neg, eo_bin, eo_bi, eo_ix, eo_call, er_bv, er_ix, er_call, er_bi, er_tup, er_lst, er_comp, er_rev, er_bin, er_rgL, er_rgT, er_sset, er_lset, er_sl, er_split, er_join, er_cmp, er_cmp2, er_an, er_or, er_nt, er_isi, er_ci, er_cb, er_cn, er_cs, er_neg, valS_val, valS_own, retD_rt, retD_nx, boolD_b, intD_i, listD_l, tupD_t, ownS_o, items_l, items_t, isi_b, isi_i, isi_n, isi_ii, isi_tt, len_l, len_t, tu_l, tu_t, li_l, li_t, int_b, add_i, add_l, add_t, sub_i, opI_i, rev_l, rev_t, sl_l, sl_t, zip_t, zip_l, zip_tl, sq2_t, sq2_l, bi_len, bi_min, bi_max, bi_sum, bi_all, bi_any, bi_int, bi_str, bi_tuple, bi_list, bi_sorted, opB_add, opB_sub, opB_mul, opB_div, opB_mod, opC_eq, opC_ne, opC_lt, opC_le, opC_gt, opC_ge, opC_is, opC_isn, opC_isb, opC_isnb, opC_in, opC_nin, isN_n, isN_i, nI, biMin2, biMax2, opEq_nI, ixW0, ixW1, ix_e0, ix_e1, ix_e2, tup_e, decide_eq_true_eq, ixf e (hE.lt e he)]
  have hso : biSorted [PyData.list ((es.map f).map nI)] = some (.list (ys.map nI)) := by
    show (ints? _).map _ = _
    rw [ints1, Option.map_some, hy1]
  simp only [o1_some, o1_none, o1_map, o1_if, o1_test, ev_var, ev_bv, ev_cn, ev_cb, ev_ci, ev_cs, ev_bin, ev_neg, ev_nt, ev_cmp, ev_cmp2, ev_an, ev_or, ev_tup, ev_lst, ev_call, ev_bi, ev_isi, ev_ix, ev_sl, ev_rev, ev_rgL, ev_rgT, ev_lset, ev_sset, ev_comp, ev_join, ev_split, ea_nil, ea_cons, eo_nil, ec_nil, ei_rg, ei_zip, ei_enum, nxt_nx, nxt_rt, es_set, es_setO, es_unp, es_par, es_app, es_sti, es_ifs, es_for, es_skip, es_seq, es_retv, turn_of, forB_of, bindT1, bindT2, bindEach, wipeE, getV, getB, start0, List.length_cons, List.length_nil, List.getElem?_cons_zero, List.getElem?_cons_succ, List.set_cons_zero, List.set_cons_succ, List.cons_append, List.nil_append, List.replicate_succ, List.replicate_zero, if_true, if_false, reduceIte, Nat.reduceAdd, Nat.reduceSub, Nat.reduceLeDiff, Bool.false_eq_true, Bool.true_eq_false, Bool.not_true, Bool.not_false, reduceCtorEq, Nat.zero_add, true_and, and_true, ei_var, ei_bv, ei_ix, ei_call, ei_bi, ei_tup, ei_lst, ei_comp, ei_rev, ei_bin, ei_rgL, ei_rgT, ei_sset, ei_sl, ei_split, ec_cmp, ec_cmp2, ec_an, ec_or, ec_nt, ec_call, ec_isi, ec_bv, ec_var, ec_bi, ec_cb, eo_ci, eo_bv, eo_var, eo_neg, eo_bin, eo_bi, eo_ix, eo_call, er_bv, er_ix, er_call, er_bi, er_tup, er_lst, er_comp, er_rev, er_bin, er_rgL, er_rgT, er_sset, er_lset, er_sl, er_split, er_join, er_cmp, er_cmp2, er_an, er_or, er_nt, er_isi, er_ci, er_cb, er_cn, er_cs, er_neg, valS_val, valS_own, retD_rt, retD_nx, boolD_b, intD_i, listD_l, tupD_t, ownS_o, items_l, items_t, isi_b, isi_i, isi_n, isi_ii, isi_tt, len_l, len_t, tu_l, tu_t, li_l, li_t, int_b, add_i, add_l, add_t, sub_i, opI_i, rev_l, rev_t, sl_l, sl_t, zip_t, zip_l, zip_tl, sq2_t, sq2_l, bi_len, bi_min, bi_max, bi_sum, bi_all, bi_any, bi_int, bi_str, bi_tuple, bi_list, bi_sorted, opB_add, opB_sub, opB_mul, opB_div, opB_mod, opC_eq, opC_ne, opC_lt, opC_le, opC_gt, opC_ge, opC_is, opC_isn, opC_isb, opC_isnb, opC_in, opC_nin, isN_n, isN_i, nI, biMin2, biMax2, opEq_nI, ixW0, ixW1, ix_e0, ix_e1, ix_e2, tup_e, decide_eq_true_eq, hso, l1, opEq_O, decide_true, hm3, modOk (i := mix ns 3) (j := 9) (by decide), hbe, s1]
  refine ⟨by rw [List.length_map]; omega, comp_map (e := encT) (e' := encT) (fun t => (t.1, t.2.1, b * t.2.2)) (fun t ht => ?_) ?_⟩
  · simp only [o1_some, o1_none, o1_map, o1_if, o1_test, ev_var, ev_bv, ev_cn, ev_cb, ev_ci, ev_cs, ev_bin, ev_neg, ev_nt, ev_cmp, ev_cmp2, ev_an, ev_or, ev_tup, ev_lst, ev_call, ev_bi, ev_isi, ev_ix, ev_sl, ev_rev, ev_rgL, ev_rgT, ev_lset, ev_sset, ev_comp, ev_join, ev_split, ea_nil, ea_cons, eo_nil, ec_nil, ei_rg, ei_zip, ei_enum, nxt_nx, nxt_rt, es_set, es_setO, es_unp, es_par, es_app, es_sti, es_ifs, es_for, es_skip, es_seq, es_retv, turn_of, forB_of, bindT1, bindT2, bindEach, wipeE, getV, getB, start0, List.length_cons, List.length_nil, List.getElem?_cons_zero, List.getElem?_cons_succ, List.set_cons_zero, List.set_cons_succ, List.cons_append, List.nil_append, List.replicate_succ, List.replicate_zero, if_true, if_false, reduceIte, Nat.reduceAdd, Nat.reduceSub, Nat.reduceLeDiff, Bool.false_eq_true, Bool.true_eq_false, Bool.not_true, Bool.not_false, reduceCtorEq, Nat.zero_add, true_and, and_true, ei_var, ei_bv, ei_ix, ei_call, ei_bi, ei_tup, ei_lst, ei_comp, ei_rev, ei_bin, ei_rgL, ei_rgT, ei_sset, ei_sl, ei_split, ec_cmp, ec_cmp2, ec_an, ec_or, ec_nt, ec_call, ec_isi, ec_bv, ec_var, ec_bi, ec_cb, eo_ci, eo_bv, eo_var, eo_neg, eo_bin, eo_bi, eo_ix, eo_call, er_bv, er_ix, er_call, er_bi, er_tup, er_lst, er_comp, er_rev, er_bin, er_rgL, er_rgT, er_sset, er_lset, er_sl, er_split, er_join, er_cmp, er_cmp2, er_an, er_or, er_nt, er_isi, er_ci, er_cb, er_cn, er_cs, er_neg, valS_val, valS_own, retD_rt, retD_nx, boolD_b, intD_i, listD_l, tupD_t, ownS_o, items_l, items_t, isi_b, isi_i, isi_n, isi_ii, isi_tt, len_l, len_t, tu_l, tu_t, li_l, li_t, int_b, add_i, add_l, add_t, sub_i, opI_i, rev_l, rev_t, sl_l, sl_t, zip_t, zip_l, zip_tl, sq2_t, sq2_l, bi_len, bi_min, bi_max, bi_sum, bi_all, bi_any, bi_int, bi_str, bi_tuple, bi_list, bi_sorted, opB_add, opB_sub, opB_mul, opB_div, opB_mod, opC_eq, opC_ne, opC_lt, opC_le, opC_gt, opC_ge, opC_is, opC_isn, opC_isb, opC_isnb, opC_in, opC_nin, isN_n, isN_i, nI, biMin2, biMax2, opEq_nI, ixW0, ixW1, ix_e0, ix_e1, ix_e2, tup_e, decide_eq_true_eq, sl_T2, mul_nn (a := b) (show b < 1000 by omega), add_t]
    rfl
  have fin : O1 (opEq (.tuple (w.ties.map encT)) (.tuple [])) (fun i => if i = true then True else O1 (Ph 59 2 [scr ns, .int 4]) fun x => O1 (Ph 59 65 [encW w, .tuple (es.map nI), encO (Lc w es), x]) fun d => Fl.rt d = Fl.rt (PyData.bool true)) := by
    rw [opEq_ties0]
    by_cases ht : w.ties = []
    · simp only [ht, decide_true, o1_some, if_true]
    · simp only [ht, decide_false, o1_some, Bool.false_eq_true, if_false, hm4, with_ties hw hE hel ht]
  simp only [scl_enc, opEq_W, l2, o1_some, o1_none, o1_map, o1_if, o1_test, ev_var, ev_bv, ev_cn, ev_cb, ev_ci, ev_cs, ev_bin, ev_neg, ev_nt, ev_cmp, ev_cmp2, ev_an, ev_or, ev_tup, ev_lst, ev_call, ev_bi, ev_isi, ev_ix, ev_sl, ev_rev, ev_rgL, ev_rgT, ev_lset, ev_sset, ev_comp, ev_join, ev_split, ea_nil, ea_cons, eo_nil, ec_nil, ei_rg, ei_zip, ei_enum, nxt_nx, nxt_rt, es_set, es_setO, es_unp, es_par, es_app, es_sti, es_ifs, es_for, es_skip, es_seq, es_retv, turn_of, forB_of, bindT1, bindT2, bindEach, wipeE, getV, getB, start0, List.length_cons, List.length_nil, List.getElem?_cons_zero, List.getElem?_cons_succ, List.set_cons_zero, List.set_cons_succ, List.cons_append, List.nil_append, List.replicate_succ, List.replicate_zero, if_true, if_false, reduceIte, Nat.reduceAdd, Nat.reduceSub, Nat.reduceLeDiff, Bool.false_eq_true, Bool.true_eq_false, Bool.not_true, Bool.not_false, reduceCtorEq, Nat.zero_add, true_and, and_true, ei_var, ei_bv, ei_ix, ei_call, ei_bi, ei_tup, ei_lst, ei_comp, ei_rev, ei_bin, ei_rgL, ei_rgT, ei_sset, ei_sl, ei_split, ec_cmp, ec_cmp2, ec_an, ec_or, ec_nt, ec_call, ec_isi, ec_bv, ec_var, ec_bi, ec_cb, eo_ci, eo_bv, eo_var, eo_neg, eo_bin, eo_bi, eo_ix, eo_call, er_bv, er_ix, er_call, er_bi, er_tup, er_lst, er_comp, er_rev, er_bin, er_rgL, er_rgT, er_sset, er_lset, er_sl, er_split, er_join, er_cmp, er_cmp2, er_an, er_or, er_nt, er_isi, er_ci, er_cb, er_cn, er_cs, er_neg, valS_val, valS_own, retD_rt, retD_nx, boolD_b, intD_i, listD_l, tupD_t, ownS_o, items_l, items_t, isi_b, isi_i, isi_n, isi_ii, isi_tt, len_l, len_t, tu_l, tu_t, li_l, li_t, int_b, add_i, add_l, add_t, sub_i, opI_i, rev_l, rev_t, sl_l, sl_t, zip_t, zip_l, zip_tl, sq2_t, sq2_l, bi_len, bi_min, bi_max, bi_sum, bi_all, bi_any, bi_int, bi_str, bi_tuple, bi_list, bi_sorted, opB_add, opB_sub, opB_mul, opB_div, opB_mod, opC_eq, opC_ne, opC_lt, opC_le, opC_gt, opC_ge, opC_is, opC_isn, opC_isb, opC_isnb, opC_in, opC_nin, isN_n, isN_i, nI, biMin2, biMax2, opEq_nI, ixW0, ixW1, ix_e0, ix_e1, ix_e2, tup_e, decide_eq_true_eq]
  cases hL : Lc w es with
  | none =>
    rw [hL] at fin
    simp only [Option.map_none, o1_some, o1_none, o1_map, o1_if, o1_test, ev_var, ev_bv, ev_cn, ev_cb, ev_ci, ev_cs, ev_bin, ev_neg, ev_nt, ev_cmp, ev_cmp2, ev_an, ev_or, ev_tup, ev_lst, ev_call, ev_bi, ev_isi, ev_ix, ev_sl, ev_rev, ev_rgL, ev_rgT, ev_lset, ev_sset, ev_comp, ev_join, ev_split, ea_nil, ea_cons, eo_nil, ec_nil, ei_rg, ei_zip, ei_enum, nxt_nx, nxt_rt, es_set, es_setO, es_unp, es_par, es_app, es_sti, es_ifs, es_for, es_skip, es_seq, es_retv, turn_of, forB_of, bindT1, bindT2, bindEach, wipeE, getV, getB, start0, List.length_cons, List.length_nil, List.getElem?_cons_zero, List.getElem?_cons_succ, List.set_cons_zero, List.set_cons_succ, List.cons_append, List.nil_append, List.replicate_succ, List.replicate_zero, if_true, if_false, reduceIte, Nat.reduceAdd, Nat.reduceSub, Nat.reduceLeDiff, Bool.false_eq_true, Bool.true_eq_false, Bool.not_true, Bool.not_false, reduceCtorEq, Nat.zero_add, true_and, and_true, ei_var, ei_bv, ei_ix, ei_call, ei_bi, ei_tup, ei_lst, ei_comp, ei_rev, ei_bin, ei_rgL, ei_rgT, ei_sset, ei_sl, ei_split, ec_cmp, ec_cmp2, ec_an, ec_or, ec_nt, ec_call, ec_isi, ec_bv, ec_var, ec_bi, ec_cb, eo_ci, eo_bv, eo_var, eo_neg, eo_bin, eo_bi, eo_ix, eo_call, er_bv, er_ix, er_call, er_bi, er_tup, er_lst, er_comp, er_rev, er_bin, er_rgL, er_rgT, er_sset, er_lset, er_sl, er_split, er_join, er_cmp, er_cmp2, er_an, er_or, er_nt, er_isi, er_ci, er_cb, er_cn, er_cs, er_neg, valS_val, valS_own, retD_rt, retD_nx, boolD_b, intD_i, listD_l, tupD_t, ownS_o, items_l, items_t, isi_b, isi_i, isi_n, isi_ii, isi_tt, len_l, len_t, tu_l, tu_t, li_l, li_t, int_b, add_i, add_l, add_t, sub_i, opI_i, rev_l, rev_t, sl_l, sl_t, zip_t, zip_l, zip_tl, sq2_t, sq2_l, bi_len, bi_min, bi_max, bi_sum, bi_all, bi_any, bi_int, bi_str, bi_tuple, bi_list, bi_sorted, opB_add, opB_sub, opB_mul, opB_div, opB_mod, opC_eq, opC_ne, opC_lt, opC_le, opC_gt, opC_ge, opC_is, opC_isn, opC_isb, opC_isnb, opC_in, opC_nin, isN_n, isN_i, nI, biMin2, biMax2, opEq_nI, ixW0, ixW1, ix_e0, ix_e1, ix_e2, tup_e, decide_eq_true_eq, isN_O, Option.isNone_none, opEq_bb, decide_true]
    exact fin
  | some x =>
    rw [hL] at fin
    have hmul : opMul (.int (b : Int)) (encO (some x)) = some (encO (some (b * x))) := mul_nn (show b < 1000 by omega)
    simp only [Option.map_some, o1_some, o1_none, o1_map, o1_if, o1_test, ev_var, ev_bv, ev_cn, ev_cb, ev_ci, ev_cs, ev_bin, ev_neg, ev_nt, ev_cmp, ev_cmp2, ev_an, ev_or, ev_tup, ev_lst, ev_call, ev_bi, ev_isi, ev_ix, ev_sl, ev_rev, ev_rgL, ev_rgT, ev_lset, ev_sset, ev_comp, ev_join, ev_split, ea_nil, ea_cons, eo_nil, ec_nil, ei_rg, ei_zip, ei_enum, nxt_nx, nxt_rt, es_set, es_setO, es_unp, es_par, es_app, es_sti, es_ifs, es_for, es_skip, es_seq, es_retv, turn_of, forB_of, bindT1, bindT2, bindEach, wipeE, getV, getB, start0, List.length_cons, List.length_nil, List.getElem?_cons_zero, List.getElem?_cons_succ, List.set_cons_zero, List.set_cons_succ, List.cons_append, List.nil_append, List.replicate_succ, List.replicate_zero, if_true, if_false, reduceIte, Nat.reduceAdd, Nat.reduceSub, Nat.reduceLeDiff, Bool.false_eq_true, Bool.true_eq_false, Bool.not_true, Bool.not_false, reduceCtorEq, Nat.zero_add, true_and, and_true, ei_var, ei_bv, ei_ix, ei_call, ei_bi, ei_tup, ei_lst, ei_comp, ei_rev, ei_bin, ei_rgL, ei_rgT, ei_sset, ei_sl, ei_split, ec_cmp, ec_cmp2, ec_an, ec_or, ec_nt, ec_call, ec_isi, ec_bv, ec_var, ec_bi, ec_cb, eo_ci, eo_bv, eo_var, eo_neg, eo_bin, eo_bi, eo_ix, eo_call, er_bv, er_ix, er_call, er_bi, er_tup, er_lst, er_comp, er_rev, er_bin, er_rgL, er_rgT, er_sset, er_lset, er_sl, er_split, er_join, er_cmp, er_cmp2, er_an, er_or, er_nt, er_isi, er_ci, er_cb, er_cn, er_cs, er_neg, valS_val, valS_own, retD_rt, retD_nx, boolD_b, intD_i, listD_l, tupD_t, ownS_o, items_l, items_t, isi_b, isi_i, isi_n, isi_ii, isi_tt, len_l, len_t, tu_l, tu_t, li_l, li_t, int_b, add_i, add_l, add_t, sub_i, opI_i, rev_l, rev_t, sl_l, sl_t, zip_t, zip_l, zip_tl, sq2_t, sq2_l, bi_len, bi_min, bi_max, bi_sum, bi_all, bi_any, bi_int, bi_str, bi_tuple, bi_list, bi_sorted, opB_add, opB_sub, opB_mul, opB_div, opB_mod, opC_eq, opC_ne, opC_lt, opC_le, opC_gt, opC_ge, opC_is, opC_isn, opC_isb, opC_isnb, opC_in, opC_nin, isN_n, isN_i, nI, biMin2, biMax2, opEq_nI, ixW0, ixW1, ix_e0, ix_e1, ix_e2, tup_e, decide_eq_true_eq, isN_O, Option.isNone_some, opEq_bb, decide_true, hmul, opEq_O]
    exact fin
theorem law_true (ns : List Int) (_ : ns.length ≤ 63) : Phi tab ext 60 66 [scr ns] = some (.bool true) := by
  show lawD 139 ie70a ie70b ie70c post66 8 (Ph 59) [scr ns] = _
  obtain ⟨w, h1, hw⟩ := web 57 (mix ns 0) (mix_b ns 0).1
  obtain ⟨es, h2, hE, hel⟩ := ends 57 (mix_b ns 1).1 hw (m := 5) (by decide) (by decide)
  have hm0 : Ph 59 2 [scr ns, .int 0] = some (.int (mix ns 0)) := mixed 57 ns 0
  have hm1 : Ph 59 2 [scr ns, .int 1] = some (.int (mix ns 1)) := mixed 57 ns 1
  have h2 : Ph 59 11 [.int (mix ns 1), encW w, .int 5] = some (.tuple (es.map nI)) := h2
  have h7 := hw.hi
  have lc := least_cost 55 hw.wl hE.lt hE.ne (by omega)
  unfold lawD
  rw [if_pos]
  refine ⟨scr ns, encW w, .tuple (es.map nI), encO (Lc w es), w.many, rfl, ?_, ?_, ?_, ?_, hw.lo, by omega, fun j hj => ⟨drw (mix ns 2) j, ?_⟩, fun l hl => ?_⟩
  · rw [← o1_eq]
    simp only [o1_some, o1_none, o1_map, o1_if, o1_test, ev_var, ev_bv, ev_cn, ev_cb, ev_ci, ev_cs, ev_bin, ev_neg, ev_nt, ev_cmp, ev_cmp2, ev_an, ev_or, ev_tup, ev_lst, ev_call, ev_bi, ev_isi, ev_ix, ev_sl, ev_rev, ev_rgL, ev_rgT, ev_lset, ev_sset, ev_comp, ev_join, ev_split, ea_nil, ea_cons, eo_nil, ec_nil, ei_rg, ei_zip, ei_enum, nxt_nx, nxt_rt, es_set, es_setO, es_unp, es_par, es_app, es_sti, es_ifs, es_for, es_skip, es_seq, es_retv, turn_of, forB_of, bindT1, bindT2, bindEach, wipeE, getV, getB, start0, List.length_cons, List.length_nil, List.getElem?_cons_zero, List.getElem?_cons_succ, List.set_cons_zero, List.set_cons_succ, List.cons_append, List.nil_append, List.replicate_succ, List.replicate_zero, if_true, if_false, reduceIte, Nat.reduceAdd, Nat.reduceSub, Nat.reduceLeDiff, Bool.false_eq_true, Bool.true_eq_false, Bool.not_true, Bool.not_false, reduceCtorEq, Nat.zero_add, true_and, and_true, ei_var, ei_bv, ei_ix, ei_call, ei_bi, ei_tup, ei_lst, ei_comp, ei_rev, ei_bin, ei_rgL, ei_rgT, ei_sset, ei_sl, ei_split, ec_cmp, ec_cmp2, ec_an, ec_or, ec_nt, ec_call, ec_isi, ec_bv, ec_var, ec_bi, ec_cb, eo_ci, eo_bv, eo_var, eo_neg, eo_bin, eo_bi, eo_ix, eo_call, er_bv, er_ix, er_call, er_bi, er_tup, er_lst, er_comp, er_rev, er_bin, er_rgL, er_rgT, er_sset, er_lset, er_sl, er_split, er_join, er_cmp, er_cmp2, er_an, er_or, er_nt, er_isi, er_ci, er_cb, er_cn, er_cs, er_neg, valS_val, valS_own, retD_rt, retD_nx, boolD_b, intD_i, listD_l, tupD_t, ownS_o, items_l, items_t, isi_b, isi_i, isi_n, isi_ii, isi_tt, len_l, len_t, tu_l, tu_t, li_l, li_t, int_b, add_i, add_l, add_t, sub_i, opI_i, rev_l, rev_t, sl_l, sl_t, zip_t, zip_l, zip_tl, sq2_t, sq2_l, bi_len, bi_min, bi_max, bi_sum, bi_all, bi_any, bi_int, bi_str, bi_tuple, bi_list, bi_sorted, opB_add, opB_sub, opB_mul, opB_div, opB_mod, opC_eq, opC_ne, opC_lt, opC_le, opC_gt, opC_ge, opC_is, opC_isn, opC_isb, opC_isnb, opC_in, opC_nin, isN_n, isN_i, nI, biMin2, biMax2, opEq_nI, ixW0, ixW1, ix_e0, ix_e1, ix_e2, tup_e, decide_eq_true_eq, ie70a, hm0, h1]
  · rw [← o1_eq]
    simp only [o1_some, o1_none, o1_map, o1_if, o1_test, ev_var, ev_bv, ev_cn, ev_cb, ev_ci, ev_cs, ev_bin, ev_neg, ev_nt, ev_cmp, ev_cmp2, ev_an, ev_or, ev_tup, ev_lst, ev_call, ev_bi, ev_isi, ev_ix, ev_sl, ev_rev, ev_rgL, ev_rgT, ev_lset, ev_sset, ev_comp, ev_join, ev_split, ea_nil, ea_cons, eo_nil, ec_nil, ei_rg, ei_zip, ei_enum, nxt_nx, nxt_rt, es_set, es_setO, es_unp, es_par, es_app, es_sti, es_ifs, es_for, es_skip, es_seq, es_retv, turn_of, forB_of, bindT1, bindT2, bindEach, wipeE, getV, getB, start0, List.length_cons, List.length_nil, List.getElem?_cons_zero, List.getElem?_cons_succ, List.set_cons_zero, List.set_cons_succ, List.cons_append, List.nil_append, List.replicate_succ, List.replicate_zero, if_true, if_false, reduceIte, Nat.reduceAdd, Nat.reduceSub, Nat.reduceLeDiff, Bool.false_eq_true, Bool.true_eq_false, Bool.not_true, Bool.not_false, reduceCtorEq, Nat.zero_add, true_and, and_true, ei_var, ei_bv, ei_ix, ei_call, ei_bi, ei_tup, ei_lst, ei_comp, ei_rev, ei_bin, ei_rgL, ei_rgT, ei_sset, ei_sl, ei_split, ec_cmp, ec_cmp2, ec_an, ec_or, ec_nt, ec_call, ec_isi, ec_bv, ec_var, ec_bi, ec_cb, eo_ci, eo_bv, eo_var, eo_neg, eo_bin, eo_bi, eo_ix, eo_call, er_bv, er_ix, er_call, er_bi, er_tup, er_lst, er_comp, er_rev, er_bin, er_rgL, er_rgT, er_sset, er_lset, er_sl, er_split, er_join, er_cmp, er_cmp2, er_an, er_or, er_nt, er_isi, er_ci, er_cb, er_cn, er_cs, er_neg, valS_val, valS_own, retD_rt, retD_nx, boolD_b, intD_i, listD_l, tupD_t, ownS_o, items_l, items_t, isi_b, isi_i, isi_n, isi_ii, isi_tt, len_l, len_t, tu_l, tu_t, li_l, li_t, int_b, add_i, add_l, add_t, sub_i, opI_i, rev_l, rev_t, sl_l, sl_t, zip_t, zip_l, zip_tl, sq2_t, sq2_l, bi_len, bi_min, bi_max, bi_sum, bi_all, bi_any, bi_int, bi_str, bi_tuple, bi_list, bi_sorted, opB_add, opB_sub, opB_mul, opB_div, opB_mod, opC_eq, opC_ne, opC_lt, opC_le, opC_gt, opC_ge, opC_is, opC_isn, opC_isb, opC_isnb, opC_in, opC_nin, isN_n, isN_i, nI, biMin2, biMax2, opEq_nI, ixW0, ixW1, ix_e0, ix_e1, ix_e2, tup_e, decide_eq_true_eq, ie70b, hm1, h2]
  · rw [← o1_eq]
    simp only [o1_some, o1_none, o1_map, o1_if, o1_test, ev_var, ev_bv, ev_cn, ev_cb, ev_ci, ev_cs, ev_bin, ev_neg, ev_nt, ev_cmp, ev_cmp2, ev_an, ev_or, ev_tup, ev_lst, ev_call, ev_bi, ev_isi, ev_ix, ev_sl, ev_rev, ev_rgL, ev_rgT, ev_lset, ev_sset, ev_comp, ev_join, ev_split, ea_nil, ea_cons, eo_nil, ec_nil, ei_rg, ei_zip, ei_enum, nxt_nx, nxt_rt, es_set, es_setO, es_unp, es_par, es_app, es_sti, es_ifs, es_for, es_skip, es_seq, es_retv, turn_of, forB_of, bindT1, bindT2, bindEach, wipeE, getV, getB, start0, List.length_cons, List.length_nil, List.getElem?_cons_zero, List.getElem?_cons_succ, List.set_cons_zero, List.set_cons_succ, List.cons_append, List.nil_append, List.replicate_succ, List.replicate_zero, if_true, if_false, reduceIte, Nat.reduceAdd, Nat.reduceSub, Nat.reduceLeDiff, Bool.false_eq_true, Bool.true_eq_false, Bool.not_true, Bool.not_false, reduceCtorEq, Nat.zero_add, true_and, and_true, ei_var, ei_bv, ei_ix, ei_call, ei_bi, ei_tup, ei_lst, ei_comp, ei_rev, ei_bin, ei_rgL, ei_rgT, ei_sset, ei_sl, ei_split, ec_cmp, ec_cmp2, ec_an, ec_or, ec_nt, ec_call, ec_isi, ec_bv, ec_var, ec_bi, ec_cb, eo_ci, eo_bv, eo_var, eo_neg, eo_bin, eo_bi, eo_ix, eo_call, er_bv, er_ix, er_call, er_bi, er_tup, er_lst, er_comp, er_rev, er_bin, er_rgL, er_rgT, er_sset, er_lset, er_sl, er_split, er_join, er_cmp, er_cmp2, er_an, er_or, er_nt, er_isi, er_ci, er_cb, er_cn, er_cs, er_neg, valS_val, valS_own, retD_rt, retD_nx, boolD_b, intD_i, listD_l, tupD_t, ownS_o, items_l, items_t, isi_b, isi_i, isi_n, isi_ii, isi_tt, len_l, len_t, tu_l, tu_t, li_l, li_t, int_b, add_i, add_l, add_t, sub_i, opI_i, rev_l, rev_t, sl_l, sl_t, zip_t, zip_l, zip_tl, sq2_t, sq2_l, bi_len, bi_min, bi_max, bi_sum, bi_all, bi_any, bi_int, bi_str, bi_tuple, bi_list, bi_sorted, opB_add, opB_sub, opB_mul, opB_div, opB_mod, opC_eq, opC_ne, opC_lt, opC_le, opC_gt, opC_ge, opC_is, opC_isn, opC_isb, opC_isnb, opC_in, opC_nin, isN_n, isN_i, nI, biMin2, biMax2, opEq_nI, ixW0, ixW1, ix_e0, ix_e1, ix_e2, tup_e, decide_eq_true_eq, ie70c, lc]
  · rw [← o1_eq]
    simp only [o1_some, o1_none, o1_map, o1_if, o1_test, ev_var, ev_bv, ev_cn, ev_cb, ev_ci, ev_cs, ev_bin, ev_neg, ev_nt, ev_cmp, ev_cmp2, ev_an, ev_or, ev_tup, ev_lst, ev_call, ev_bi, ev_isi, ev_ix, ev_sl, ev_rev, ev_rgL, ev_rgT, ev_lset, ev_sset, ev_comp, ev_join, ev_split, ea_nil, ea_cons, eo_nil, ec_nil, ei_rg, ei_zip, ei_enum, nxt_nx, nxt_rt, es_set, es_setO, es_unp, es_par, es_app, es_sti, es_ifs, es_for, es_skip, es_seq, es_retv, turn_of, forB_of, bindT1, bindT2, bindEach, wipeE, getV, getB, start0, List.length_cons, List.length_nil, List.getElem?_cons_zero, List.getElem?_cons_succ, List.set_cons_zero, List.set_cons_succ, List.cons_append, List.nil_append, List.replicate_succ, List.replicate_zero, if_true, if_false, reduceIte, Nat.reduceAdd, Nat.reduceSub, Nat.reduceLeDiff, Bool.false_eq_true, Bool.true_eq_false, Bool.not_true, Bool.not_false, reduceCtorEq, Nat.zero_add, true_and, and_true, ei_var, ei_bv, ei_ix, ei_call, ei_bi, ei_tup, ei_lst, ei_comp, ei_rev, ei_bin, ei_rgL, ei_rgT, ei_sset, ei_sl, ei_split, ec_cmp, ec_cmp2, ec_an, ec_or, ec_nt, ec_call, ec_isi, ec_bv, ec_var, ec_bi, ec_cb, eo_ci, eo_bv, eo_var, eo_neg, eo_bin, eo_bi, eo_ix, eo_call, er_bv, er_ix, er_call, er_bi, er_tup, er_lst, er_comp, er_rev, er_bin, er_rgL, er_rgT, er_sset, er_lset, er_sl, er_split, er_join, er_cmp, er_cmp2, er_an, er_or, er_nt, er_isi, er_ci, er_cb, er_cn, er_cs, er_neg, valS_val, valS_own, retD_rt, retD_nx, boolD_b, intD_i, listD_l, tupD_t, ownS_o, items_l, items_t, isi_b, isi_i, isi_n, isi_ii, isi_tt, len_l, len_t, tu_l, tu_t, li_l, li_t, int_b, add_i, add_l, add_t, sub_i, opI_i, rev_l, rev_t, sl_l, sl_t, zip_t, zip_l, zip_tl, sq2_t, sq2_l, bi_len, bi_min, bi_max, bi_sum, bi_all, bi_any, bi_int, bi_str, bi_tuple, bi_list, bi_sorted, opB_add, opB_sub, opB_mul, opB_div, opB_mod, opC_eq, opC_ne, opC_lt, opC_le, opC_gt, opC_ge, opC_is, opC_isn, opC_isb, opC_isnb, opC_in, opC_nin, isN_n, isN_i, nI, biMin2, biMax2, opEq_nI, ixW0, ixW1, ix_e0, ix_e1, ix_e2, tup_e, decide_eq_true_eq, ieMk]
  · show keyD ie70k (Ph 56) [.int j, scr ns] = _
    have hm2 : Ph 56 2 [scr ns, .int 2] = some (.int (mix ns 2)) := mixed 54 ns 2
    have hd := drawn 55 (mix ns 2) j
    show evE (Ph 56) ie70k [.val (.int j), .val (scr ns)] = _
    rw [← o1_eq]
    simp only [o1_some, o1_none, o1_map, o1_if, o1_test, ev_var, ev_bv, ev_cn, ev_cb, ev_ci, ev_cs, ev_bin, ev_neg, ev_nt, ev_cmp, ev_cmp2, ev_an, ev_or, ev_tup, ev_lst, ev_call, ev_bi, ev_isi, ev_ix, ev_sl, ev_rev, ev_rgL, ev_rgT, ev_lset, ev_sset, ev_comp, ev_join, ev_split, ea_nil, ea_cons, eo_nil, ec_nil, ei_rg, ei_zip, ei_enum, nxt_nx, nxt_rt, es_set, es_setO, es_unp, es_par, es_app, es_sti, es_ifs, es_for, es_skip, es_seq, es_retv, turn_of, forB_of, bindT1, bindT2, bindEach, wipeE, getV, getB, start0, List.length_cons, List.length_nil, List.getElem?_cons_zero, List.getElem?_cons_succ, List.set_cons_zero, List.set_cons_succ, List.cons_append, List.nil_append, List.replicate_succ, List.replicate_zero, if_true, if_false, reduceIte, Nat.reduceAdd, Nat.reduceSub, Nat.reduceLeDiff, Bool.false_eq_true, Bool.true_eq_false, Bool.not_true, Bool.not_false, reduceCtorEq, Nat.zero_add, true_and, and_true, ei_var, ei_bv, ei_ix, ei_call, ei_bi, ei_tup, ei_lst, ei_comp, ei_rev, ei_bin, ei_rgL, ei_rgT, ei_sset, ei_sl, ei_split, ec_cmp, ec_cmp2, ec_an, ec_or, ec_nt, ec_call, ec_isi, ec_bv, ec_var, ec_bi, ec_cb, eo_ci, eo_bv, eo_var, eo_neg, eo_bin, eo_bi, eo_ix, eo_call, er_bv, er_ix, er_call, er_bi, er_tup, er_lst, er_comp, er_rev, er_bin, er_rgL, er_rgT, er_sset, er_lset, er_sl, er_split, er_join, er_cmp, er_cmp2, er_an, er_or, er_nt, er_isi, er_ci, er_cb, er_cn, er_cs, er_neg, valS_val, valS_own, retD_rt, retD_nx, boolD_b, intD_i, listD_l, tupD_t, ownS_o, items_l, items_t, isi_b, isi_i, isi_n, isi_ii, isi_tt, len_l, len_t, tu_l, tu_t, li_l, li_t, int_b, add_i, add_l, add_t, sub_i, opI_i, rev_l, rev_t, sl_l, sl_t, zip_t, zip_l, zip_tl, sq2_t, sq2_l, bi_len, bi_min, bi_max, bi_sum, bi_all, bi_any, bi_int, bi_str, bi_tuple, bi_list, bi_sorted, opB_add, opB_sub, opB_mul, opB_div, opB_mod, opC_eq, opC_ne, opC_lt, opC_le, opC_gt, opC_ge, opC_is, opC_isn, opC_isb, opC_isnb, opC_in, opC_nin, isN_n, isN_i, nI, biMin2, biMax2, opEq_nI, ixW0, ixW1, ix_e0, ix_e1, ix_e2, tup_e, decide_eq_true_eq, ie70k, hm2, hd]
  · exact post_ok ns hw hE hel hl
end J

namespace J
open PySem PySem.Spec PyProof.Rows L2
def topS (i : Nat) : Stmt := PySem.Challenge.pw_joinplaces_k70_whole_webs_changed.main.body.getD i (.Pass ⟨0, 0, 0, 0⟩)
def rw : Rw := ⟨[(("renamed" : Str), (61 : Nat), ([false, false] : List Bool)), (("scaled" : Str), (62 : Nat), ([false, false] : List Bool)), (("parted" : Str), (63 : Nat), ([false, false, false] : List Bool)), (("without_tie" : Str), (46 : Nat), ([false, false] : List Bool)), (("at_once" : Str), (47 : Nat), ([false, false, false] : List Bool)), (("all_far" : Str), (33 : Nat), ([false, false] : List Bool)), (("lesser" : Str), (34 : Nat), ([false, false] : List Bool)), (("both" : Str), (35 : Nat), ([false, false] : List Bool)), (("spread" : Str), (36 : Nat), ([false, false] : List Bool)), (("table" : Str), (37 : Nat), ([false, false] : List Bool)), (("parted_row" : Str), (38 : Nat), ([true, false, false] : List Bool)), (("least_cost" : Str), (39 : Nat), ([false, false] : List Bool)), (("_law_cell_at" : Str), (1 : Nat), ([false, false] : List Bool)), (("_law_mixed" : Str), (2 : Nat), ([false, false] : List Bool)), (("_law_drawn" : Str), (3 : Nat), ([false, false] : List Bool)), (("_law_web" : Str), (4 : Nat), ([false] : List Bool)), (("_law_ends" : Str), (11 : Nat), ([false, false, false] : List Bool)), (("_law_no_less" : Str), (64 : Nat), ([false, false] : List Bool)), (("_law_with_ties" : Str), (65 : Nat), ([false, false, false, false] : List Bool))], ["len", "list", "max", "min", "range", "sorted", "tuple"], []⟩
def nm61 : List Str := ["web", "names", "ties", "one", "other", "price"]
theorem sc61 : FnScope nm61 ["web", "names"] (defScope (topS 1)) := ⟨rfl, rfl, rfl, by decide +kernel, by decide +kernel, by decide +kernel, by decide +kernel⟩
theorem tr61 : blk (trS rw nm61 (trE rw nm61 40) (defScope (topS 1)) [2] 40) nm61 [2] (defBody (topS 1)) = some fd61.body := by kernel_rfl
def nm62 : List Str := ["web", "by", "one", "other", "price"]
theorem sc62 : FnScope nm62 ["web", "by"] (defScope (topS 2)) := ⟨rfl, rfl, rfl, by decide +kernel, by decide +kernel, by decide +kernel, by decide +kernel⟩
theorem tr62 : blk (trS rw nm62 (trE rw nm62 40) (defScope (topS 2)) [] 40) nm62 [] (defBody (topS 2)) = some fd62.body := by kernel_rfl
def nm63 : List Str := ["web", "tie", "first", "many", "one", "other", "price", "ties"]
theorem sc63 : FnScope nm63 ["web", "tie", "first"] (defScope (topS 3)) := ⟨rfl, rfl, rfl, by decide +kernel, by decide +kernel, by decide +kernel, by decide +kernel⟩
theorem tr63 : blk (trS rw nm63 (trE rw nm63 40) (defScope (topS 3)) [] 40) nm63 [] (defBody (topS 3)) = some fd63.body := by kernel_rfl
def nm46 : List Str := ["web", "tie"]
theorem sc46 : FnScope nm46 ["web", "tie"] (defScope (topS 4)) := ⟨rfl, rfl, rfl, by decide +kernel, by decide +kernel, by decide +kernel, by decide +kernel⟩
theorem tr46 : blk (trS rw nm46 (trE rw nm46 40) (defScope (topS 4)) [] 40) nm46 [] (defBody (topS 4)) = some fd46.body := by kernel_rfl
def nm47 : List Str := ["web", "tie", "price", "one", "other", "old"]
theorem sc47 : FnScope nm47 ["web", "tie", "price"] (defScope (topS 5)) := ⟨rfl, rfl, rfl, by decide +kernel, by decide +kernel, by decide +kernel, by decide +kernel⟩
theorem tr47 : blk (trS rw nm47 (trE rw nm47 40) (defScope (topS 5)) [] 40) nm47 [] (defBody (topS 5)) = some fd47.body := by kernel_rfl
def nm33 : List Str := ["web", "one", "found", "step", "first", "second", "price", "here", "there"]
theorem sc33 : FnScope nm33 ["web", "one"] (defScope (topS 7)) := ⟨rfl, rfl, rfl, by decide +kernel, by decide +kernel, by decide +kernel, by decide +kernel⟩
theorem tr33 : blk (trS rw nm33 (trE rw nm33 40) (defScope (topS 7)) [2] 40) nm33 [2] (defBody (topS 7)) = some fd33.body := by kernel_rfl
def nm34 : List Str := ["one", "other"]
theorem sc34 : FnScope nm34 ["one", "other"] (defScope (topS 9)) := ⟨rfl, rfl, rfl, by decide +kernel, by decide +kernel, by decide +kernel, by decide +kernel⟩
theorem tr34 : blk (trS rw nm34 (trE rw nm34 40) (defScope (topS 9)) [] 40) nm34 [] (defBody (topS 9)) = some fd34.body := by kernel_rfl
def nm35 : List Str := ["one", "other"]
theorem sc35 : FnScope nm35 ["one", "other"] (defScope (topS 10)) := ⟨rfl, rfl, rfl, by decide +kernel, by decide +kernel, by decide +kernel, by decide +kernel⟩
theorem tr35 : blk (trS rw nm35 (trE rw nm35 40) (defScope (topS 10)) [] 40) nm35 [] (defBody (topS 10)) = some fd35.body := by kernel_rfl
def nm36 : List Str := ["far", "row", "found", "place", "best", "other"]
theorem sc36 : FnScope nm36 ["far", "row"] (defScope (topS 11)) := ⟨rfl, rfl, rfl, by decide +kernel, by decide +kernel, by decide +kernel, by decide +kernel⟩
theorem tr36 : blk (trS rw nm36 (trE rw nm36 40) (defScope (topS 11)) [2] 40) nm36 [2] (defBody (topS 11)) = some fd36.body := by kernel_rfl
def nm37 : List Str := ["web", "ends", "far", "place", "rows", "size", "end", "group", "row"]
theorem sc37 : FnScope nm37 ["web", "ends"] (defScope (topS 12)) := ⟨rfl, rfl, rfl, by decide +kernel, by decide +kernel, by decide +kernel, by decide +kernel⟩
theorem tr37 : blk (trS rw nm37 (trE rw nm37 40) (defScope (topS 12)) [4] 40) nm37 [4] (defBody (topS 12)) = some fd37.body := by kernel_rfl
def nm38 : List Str := ["rows", "group", "many", "found", "part", "place"]
theorem sc38 : FnScope nm38 ["rows", "group", "many"] (defScope (topS 13)) := ⟨rfl, rfl, rfl, by decide +kernel, by decide +kernel, by decide +kernel, by decide +kernel⟩
theorem tr38 : blk (trS rw nm38 (trE rw nm38 40) (defScope (topS 13)) [3] 40) nm38 [3] (defBody (topS 13)) = some fd38.body := by kernel_rfl
def nm39 : List Str := ["web", "ends"]
theorem sc39 : FnScope nm39 ["web", "ends"] (defScope (topS 14)) := ⟨rfl, rfl, rfl, by decide +kernel, by decide +kernel, by decide +kernel, by decide +kernel⟩
theorem tr39 : blk (trS rw nm39 (trE rw nm39 40) (defScope (topS 14)) [] 40) nm39 [] (defBody (topS 14)) = some fd39.body := by kernel_rfl
def nm1 : List Str := ["script", "k"]
theorem sc1 : FnScope nm1 ["script", "k"] (defScope (topS 16)) := ⟨rfl, rfl, rfl, by decide +kernel, by decide +kernel, by decide +kernel, by decide +kernel⟩
theorem tr1 : blk (trS rw nm1 (trE rw nm1 40) (defScope (topS 16)) [] 40) nm1 [] (defBody (topS 16)) = some fd1.body := by kernel_rfl
def nm2 : List Str := ["script", "k", "drawn"]
theorem sc2 : FnScope nm2 ["script", "k"] (defScope (topS 17)) := ⟨rfl, rfl, rfl, by decide +kernel, by decide +kernel, by decide +kernel, by decide +kernel⟩
theorem tr2 : blk (trS rw nm2 (trE rw nm2 40) (defScope (topS 17)) [] 40) nm2 [] (defBody (topS 17)) = some fd2.body := by kernel_rfl
def nm3 : List Str := ["number", "k", "drawn"]
theorem sc3 : FnScope nm3 ["number", "k"] (defScope (topS 18)) := ⟨rfl, rfl, rfl, by decide +kernel, by decide +kernel, by decide +kernel, by decide +kernel⟩
theorem tr3 : blk (trS rw nm3 (trE rw nm3 40) (defScope (topS 18)) [] 40) nm3 [] (defBody (topS 18)) = some fd3.body := by kernel_rfl
def nm4 : List Str := ["number", "many", "high", "ties", "place", "drawn", "k", "one", "other", "by"]
theorem sc4 : FnScope nm4 ["number"] (defScope (topS 19)) := ⟨rfl, rfl, rfl, by decide +kernel, by decide +kernel, by decide +kernel, by decide +kernel⟩
theorem tr4 : blk (trS rw nm4 (trE rw nm4 40) (defScope (topS 19)) [3] 40) nm4 [3] (defBody (topS 19)) = some fd4.body := by kernel_rfl
def nm11 : List Str := ["number", "web", "most", "found", "k"]
theorem sc11 : FnScope nm11 ["number", "web", "most"] (defScope (topS 20)) := ⟨rfl, rfl, rfl, by decide +kernel, by decide +kernel, by decide +kernel, by decide +kernel⟩
theorem tr11 : endsChk rw nm11 (defScope (topS 20)) 3 (defBody (topS 20)) = true := by kernel_rfl
def nm64 : List Str := ["one", "other"]
theorem sc64 : FnScope nm64 ["one", "other"] (defScope (topS 21)) := ⟨rfl, rfl, rfl, by decide +kernel, by decide +kernel, by decide +kernel, by decide +kernel⟩
theorem tr64 : blk (trS rw nm64 (trE rw nm64 40) (defScope (topS 21)) [] 40) nm64 [] (defBody (topS 21)) = some fd64.body := by kernel_rfl
def nm65 : List Str := ["web", "ends", "due", "number", "at", "tie", "first", "changed", "other"]
theorem sc65 : FnScope nm65 ["web", "ends", "due", "number"] (defScope (topS 22)) := ⟨rfl, rfl, rfl, by decide +kernel, by decide +kernel, by decide +kernel, by decide +kernel⟩
theorem tr65 : blk (trS rw nm65 (trE rw nm65 40) (defScope (topS 22)) [] 40) nm65 [] (defBody (topS 22)) = some fd65.body := by kernel_rfl
def nm66 : List Str := ["script", "web", "ends", "due", "names", "ties", "one", "other", "price", "end", "by", "tie", "least"]
theorem sc66 : FnScope nm66 ["script"] (defScope (topS 23)) := ⟨rfl, rfl, rfl, by decide +kernel, by decide +kernel, by decide +kernel, by decide +kernel⟩
theorem tr66 : lawChk rw nm66 ie70a ie70b ie70c post66 (defScope (topS 23)) (defBody (topS 23)) = true := by kernel_rfl
theorem scL : LamK (kwS (defScope (topS 23)) (defBody (topS 23))) := ⟨rfl, rfl, rfl, by decide +kernel, by decide +kernel, by decide +kernel, by decide +kernel, by decide +kernel⟩
theorem tr137 : trE rw keyN 40 (kwS (defScope (topS 23)) (defBody (topS 23))) false (kwL (defBody (topS 23))).2 = some ie70k := by kernel_rfl
def dd (x : Str) (i : Nat) : He.DefD := ⟨(x, none), x, x, defArgs (topS i), defBody (topS i), defScope (topS i), [], []⟩
def fn : List He.DefD := [dd "renamed" 1, dd "scaled" 2, dd "parted" 3, dd "without_tie" 4, dd "at_once" 5, dd "all_far" 7, dd "lesser" 9, dd "both" 10, dd "spread" 11, dd "table" 12, dd "parted_row" 13, dd "least_cost" 14, dd "_law_cell_at" 16, dd "_law_mixed" 17, dd "_law_drawn" 18, dd "_law_web" 19, dd "_law_ends" 20, dd "_law_no_less" 21, dd "_law_with_ties" 22, dd "law" 23]
def fa : List He.Fa := [.glo "renamed", .glo "scaled", .glo "parted", .glo "without_tie", .glo "at_once", .glo "all_far", .glo "lesser", .glo "both", .glo "spread", .glo "table", .glo "parted_row", .glo "least_cost", .glo "_law_cell_at", .glo "_law_mixed", .glo "_law_drawn", .glo "_law_web", .glo "_law_ends", .glo "_law_no_less", .glo "_law_with_ties", .glo "law", .free "len", .free "list", .free "max", .free "min", .free "range", .free "sorted", .free "tuple"]
abbrev Rr : PySem.W.OpenRow := PySem.W.OpenLaw.row PySem.Challenge.rw_joinplaces_k70_whole_webs_changed
abbrev hk : PySem.W.Hook := hookT 4 fa fn fun _ => true
def ob (s : PySem.W.SharedT) : He.AlD × Bool := obsT 4 fa fn (fun _ => true) (HandSHeadRun.getT s)
theorem ob_eq (s : PySem.W.SharedT) : ob s = hk.obs s.abs := obsT_eq (HandSHeadRun.getT_eq s)
def loose : List Str := (["renamed", "scaled", "parted", "without_tie", "at_once", "all_far", "lesser", "both", "spread", "table", "parted_row", "least_cost", "_law_cell_at", "_law_mixed", "_law_drawn", "_law_web", "_law_ends", "_law_no_less", "_law_with_ties"] : List Str)
theorem run (w : World) : HandSHeadRun.RunEq Rr (PySem.W.view Rr.prog [23]) hk ob 6000 loose w := by
  intro os
  kernel_rfl
theorem facts {P : Program} {w : World} {K : PySem.W.Frag} {h : Heap} {mg : Str → Option Value} {f : Addr} (hlaw : ∀ ns : List Int, ns.length ≤ 63 → Phi tab ext 60 66 [scr ns] = some (.bool true)) (X : K.In h) (G : h.Ns mainGlobals mg) (hfa : mg ("law" : Str) = some (.ref f)) (c : He.SaysD fa fn K) {h0 : Heap} {c0 tP0 : Addr} (TA : TabAt K h0 c0 tP0) :
    ∃ (fd : FuncData) (sp : Sp), (∀ (s : Shared) (v : Value), BindsTo s fd ⟨[v], []⟩ [("script", v)]) ∧ (∀ (H : Hp) (a : Addr) (ns : List Int), ns.length ≤ 63 → TabOk K H → SqL K H a (ns.map V.int) → sp [.ref a] H (fun v _ => v = .bl true) fun _ _ _ => False) ∧ ∀ base : Heap, K.In base → base.Ns mainGlobals mg → LamX.TabB base mg c0 tP0 → FnOk P w K mg base CX0 60 f fd ["script"] sp := by
  obtain ⟨g61, F61⟩ := c.def_ 0 (d := dd "renamed" 1) rfl
  have m61 : mg "renamed" = some (.ref (He.ga K "renamed")) := He.glo_ok X G (c.fact 0 (f := .glo "renamed") rfl)
  have b61 : Binds K g61 ["web", "names"] [] := FunD.bindsN F61 fun _ _ _ _ _ _ us hl => match us, hl with | [_, _], _ => rfl
  obtain ⟨g62, F62⟩ := c.def_ 1 (d := dd "scaled" 2) rfl
  have m62 : mg "scaled" = some (.ref (He.ga K "scaled")) := He.glo_ok X G (c.fact 1 (f := .glo "scaled") rfl)
  have b62 : Binds K g62 ["web", "by"] [] := FunD.bindsN F62 fun _ _ _ _ _ _ us hl => match us, hl with | [_, _], _ => rfl
  obtain ⟨g63, F63⟩ := c.def_ 2 (d := dd "parted" 3) rfl
  have m63 : mg "parted" = some (.ref (He.ga K "parted")) := He.glo_ok X G (c.fact 2 (f := .glo "parted") rfl)
  have b63 : Binds K g63 ["web", "tie", "first"] [] := FunD.bindsN F63 fun _ _ _ _ _ _ us hl => match us, hl with | [_, _, _], _ => rfl
  obtain ⟨g46, F46⟩ := c.def_ 3 (d := dd "without_tie" 4) rfl
  have m46 : mg "without_tie" = some (.ref (He.ga K "without_tie")) := He.glo_ok X G (c.fact 3 (f := .glo "without_tie") rfl)
  have b46 : Binds K g46 ["web", "tie"] [] := FunD.bindsN F46 fun _ _ _ _ _ _ us hl => match us, hl with | [_, _], _ => rfl
  obtain ⟨g47, F47⟩ := c.def_ 4 (d := dd "at_once" 5) rfl
  have m47 : mg "at_once" = some (.ref (He.ga K "at_once")) := He.glo_ok X G (c.fact 4 (f := .glo "at_once") rfl)
  have b47 : Binds K g47 ["web", "tie", "price"] [] := FunD.bindsN F47 fun _ _ _ _ _ _ us hl => match us, hl with | [_, _, _], _ => rfl
  obtain ⟨g33, F33⟩ := c.def_ 5 (d := dd "all_far" 7) rfl
  have m33 : mg "all_far" = some (.ref (He.ga K "all_far")) := He.glo_ok X G (c.fact 5 (f := .glo "all_far") rfl)
  have b33 : Binds K g33 ["web", "one"] [] := FunD.bindsN F33 fun _ _ _ _ _ _ us hl => match us, hl with | [_, _], _ => rfl
  obtain ⟨g34, F34⟩ := c.def_ 6 (d := dd "lesser" 9) rfl
  have m34 : mg "lesser" = some (.ref (He.ga K "lesser")) := He.glo_ok X G (c.fact 6 (f := .glo "lesser") rfl)
  have b34 : Binds K g34 ["one", "other"] [] := FunD.bindsN F34 fun _ _ _ _ _ _ us hl => match us, hl with | [_, _], _ => rfl
  obtain ⟨g35, F35⟩ := c.def_ 7 (d := dd "both" 10) rfl
  have m35 : mg "both" = some (.ref (He.ga K "both")) := He.glo_ok X G (c.fact 7 (f := .glo "both") rfl)
  have b35 : Binds K g35 ["one", "other"] [] := FunD.bindsN F35 fun _ _ _ _ _ _ us hl => match us, hl with | [_, _], _ => rfl
  obtain ⟨g36, F36⟩ := c.def_ 8 (d := dd "spread" 11) rfl
  have m36 : mg "spread" = some (.ref (He.ga K "spread")) := He.glo_ok X G (c.fact 8 (f := .glo "spread") rfl)
  have b36 : Binds K g36 ["far", "row"] [] := FunD.bindsN F36 fun _ _ _ _ _ _ us hl => match us, hl with | [_, _], _ => rfl
  obtain ⟨g37, F37⟩ := c.def_ 9 (d := dd "table" 12) rfl
  have m37 : mg "table" = some (.ref (He.ga K "table")) := He.glo_ok X G (c.fact 9 (f := .glo "table") rfl)
  have b37 : Binds K g37 ["web", "ends"] [] := FunD.bindsN F37 fun _ _ _ _ _ _ us hl => match us, hl with | [_, _], _ => rfl
  obtain ⟨g38, F38⟩ := c.def_ 10 (d := dd "parted_row" 13) rfl
  have m38 : mg "parted_row" = some (.ref (He.ga K "parted_row")) := He.glo_ok X G (c.fact 10 (f := .glo "parted_row") rfl)
  have b38 : Binds K g38 ["rows", "group", "many"] [] := FunD.bindsN F38 fun _ _ _ _ _ _ us hl => match us, hl with | [_, _, _], _ => rfl
  obtain ⟨g39, F39⟩ := c.def_ 11 (d := dd "least_cost" 14) rfl
  have m39 : mg "least_cost" = some (.ref (He.ga K "least_cost")) := He.glo_ok X G (c.fact 11 (f := .glo "least_cost") rfl)
  have b39 : Binds K g39 ["web", "ends"] [] := FunD.bindsN F39 fun _ _ _ _ _ _ us hl => match us, hl with | [_, _], _ => rfl
  obtain ⟨g1, F1⟩ := c.def_ 12 (d := dd "_law_cell_at" 16) rfl
  have m1 : mg "_law_cell_at" = some (.ref (He.ga K "_law_cell_at")) := He.glo_ok X G (c.fact 12 (f := .glo "_law_cell_at") rfl)
  have b1 : Binds K g1 ["script", "k"] [] := FunD.bindsN F1 fun _ _ _ _ _ _ us hl => match us, hl with | [_, _], _ => rfl
  obtain ⟨g2, F2⟩ := c.def_ 13 (d := dd "_law_mixed" 17) rfl
  have m2 : mg "_law_mixed" = some (.ref (He.ga K "_law_mixed")) := He.glo_ok X G (c.fact 13 (f := .glo "_law_mixed") rfl)
  have b2 : Binds K g2 ["script", "k"] [] := FunD.bindsN F2 fun _ _ _ _ _ _ us hl => match us, hl with | [_, _], _ => rfl
  obtain ⟨g3, F3⟩ := c.def_ 14 (d := dd "_law_drawn" 18) rfl
  have m3 : mg "_law_drawn" = some (.ref (He.ga K "_law_drawn")) := He.glo_ok X G (c.fact 14 (f := .glo "_law_drawn") rfl)
  have b3 : Binds K g3 ["number", "k"] [] := FunD.bindsN F3 fun _ _ _ _ _ _ us hl => match us, hl with | [_, _], _ => rfl
  obtain ⟨g4, F4⟩ := c.def_ 15 (d := dd "_law_web" 19) rfl
  have m4 : mg "_law_web" = some (.ref (He.ga K "_law_web")) := He.glo_ok X G (c.fact 15 (f := .glo "_law_web") rfl)
  have b4 : Binds K g4 ["number"] [] := FunD.bindsN F4 fun _ _ _ _ _ _ us hl => match us, hl with | [_], _ => rfl
  obtain ⟨g11, F11⟩ := c.def_ 16 (d := dd "_law_ends" 20) rfl
  have m11 : mg "_law_ends" = some (.ref (He.ga K "_law_ends")) := He.glo_ok X G (c.fact 16 (f := .glo "_law_ends") rfl)
  have b11 : Binds K g11 ["number", "web", "most"] [] := FunD.bindsN F11 fun _ _ _ _ _ _ us hl => match us, hl with | [_, _, _], _ => rfl
  obtain ⟨g64, F64⟩ := c.def_ 17 (d := dd "_law_no_less" 21) rfl
  have m64 : mg "_law_no_less" = some (.ref (He.ga K "_law_no_less")) := He.glo_ok X G (c.fact 17 (f := .glo "_law_no_less") rfl)
  have b64 : Binds K g64 ["one", "other"] [] := FunD.bindsN F64 fun _ _ _ _ _ _ us hl => match us, hl with | [_, _], _ => rfl
  obtain ⟨g65, F65⟩ := c.def_ 18 (d := dd "_law_with_ties" 22) rfl
  have m65 : mg "_law_with_ties" = some (.ref (He.ga K "_law_with_ties")) := He.glo_ok X G (c.fact 18 (f := .glo "_law_with_ties") rfl)
  have b65 : Binds K g65 ["web", "ends", "due", "number"] [] := FunD.bindsN F65 fun _ _ _ _ _ _ us hl => match us, hl with | [_, _, _, _], _ => rfl
  obtain ⟨g66, F66⟩ := c.def_ 19 (d := dd "law" 23) rfl
  have m66 : mg "law" = some (.ref (He.ga K "law")) := He.glo_ok X G (c.fact 19 (f := .glo "law") rfl)
  have b66 : Binds K g66 ["script"] [] := FunD.bindsN F66 fun _ _ _ _ _ _ us hl => match us, hl with | [_], _ => rfl
  have hfr : ∀ x ∈ rw.frs, mg x = none := by
    intro x hx
    simp only [rw, List.mem_cons, List.not_mem_nil, or_false] at hx
    rcases hx with rfl | rfl | rfl | rfl | rfl | rfl | rfl
    · exact He.free_ok X G (c.fact 20 (f := .free "len") rfl)
    · exact He.free_ok X G (c.fact 21 (f := .free "list") rfl)
    · exact He.free_ok X G (c.fact 22 (f := .free "max") rfl)
    · exact He.free_ok X G (c.fact 23 (f := .free "min") rfl)
    · exact He.free_ok X G (c.fact 24 (f := .free "range") rfl)
    · exact He.free_ok X G (c.fact 25 (f := .free "sorted") rfl)
    · exact He.free_ok X G (c.fact 26 (f := .free "tuple") rfl)
  have hcs : ∀ p ∈ rw.cst, ∃ v u d, mg p.1 = some u ∧ L2.RelV v u ∧ (∀ H, Dr K H v d) ∧ ∀ Φ env, evE Φ p.2 env = some d := by
    intro p hp
    exact absurd hp (by simp [rw])
  have e := hfa.symm.trans m66
  cases e
  refine ⟨g66, spF K [false] (Phi tab ext 60 66), fun s v => FunD.bindsA (ps := ["script"]) F66 (fun _ _ _ _ _ _ us hl => match us, hl with | [_], _ => rfl) s [v] rfl, fun H a ns hl hT hS => law_sp (hlaw ns hl) hS hT, fun base hb hg hTB => ?_⟩
  have hL := exK_all (P := P) (w := w) (K := K) (mg := mg) (base := base) (R := rw) (tab := tab) (ext := ext) (kl := 137) (kl1 := 138) (kl2 := 139) (lp := (kwL (defBody (topS 23))).1) scL tr137 (fun _ _ _ _ _ => rfl) rfl rfl rfl (fun _ => rfl) (fun _ => rfl) (fun _ => rfl)
  have hcd : g66.code = .ref c0 := by
    obtain ⟨_, _, fdx, _, q1, q2⟩ := TA.code
    obtain ⟨_, _, _, _, _, _, _, _, _, _, _, e2, _⟩ := F66.ex
    have e3 := e2.symm.trans q1
    cases e3
    exact q2
  have hTm : tP0 ∈ tabP K := by rw [TA.tab]; exact List.mem_cons_self
  have hd : ∀ p ∈ rw.fns, DefOkE P w K mg base rw (ExK P w K mg base (kwL (defBody (topS 23))).1 (kwL (defBody (topS 23))).2 (kwS (defScope (topS 23)) (defBody (topS 23))) 137 138 139) tab ext p := by
    intro p hp
    simp only [rw, List.mem_cons, List.not_mem_nil, or_false] at hp
    rcases hp with rfl | rfl | rfl | rfl | rfl | rfl | rfl | rfl | rfl | rfl | rfl | rfl | rfl | rfl | rfl | rfl | rfl | rfl | rfl
    · exact DefOk.e (def_ok F61 m61 b61 sc61 rfl tr61 rfl rfl)
    · exact DefOk.e (def_ok F62 m62 b62 sc62 rfl tr62 rfl rfl)
    · exact DefOk.e (def_ok F63 m63 b63 sc63 rfl tr63 rfl rfl)
    · exact DefOk.e (def_ok F46 m46 b46 sc46 rfl tr46 rfl rfl)
    · exact DefOk.e (def_ok F47 m47 b47 sc47 rfl tr47 rfl rfl)
    · exact DefOk.e (def_ok F33 m33 b33 sc33 rfl tr33 rfl rfl)
    · exact DefOk.e (def_ok F34 m34 b34 sc34 rfl tr34 rfl rfl)
    · exact DefOk.e (def_ok F35 m35 b35 sc35 rfl tr35 rfl rfl)
    · exact DefOk.e (def_ok F36 m36 b36 sc36 rfl tr36 rfl rfl)
    · exact DefOk.e (def_ok F37 m37 b37 sc37 rfl tr37 rfl rfl)
    · exact DefOk.e (def_ok F38 m38 b38 sc38 rfl tr38 rfl rfl)
    · exact DefOk.e (def_ok F39 m39 b39 sc39 rfl tr39 rfl rfl)
    · exact DefOk.e (def_ok F1 m1 b1 sc1 rfl tr1 rfl rfl)
    · exact DefOk.e (def_ok F2 m2 b2 sc2 rfl tr2 rfl rfl)
    · exact DefOk.e (def_ok F3 m3 b3 sc3 rfl tr3 rfl rfl)
    · exact DefOk.e (def_ok F4 m4 b4 sc4 rfl tr4 rfl rfl)
    · exact DefOk.e (ends_ok (kd := 3) F11 m11 b11 sc11 rfl (fun _ => rfl) rfl rfl tr11)
    · exact DefOk.e (def_ok F64 m64 b64 sc64 rfl tr64 rfl rfl)
    · exact DefOk.e (def_ok F65 m65 b65 sc65 rfl tr65 rfl rfl)
  have A := all_okE hd hfr hcs hL.1 hL.2 59
  have e : Phi tab ext 60 66 = lawD 139 ie70a ie70b ie70c post66 8 (Phi tab ext 59) := rfl
  rw [e]
  exact law_k (dsc := defScope (topS 23)) F66 sc66 (A.1 59 (Nat.le_refl _) _ _ sc66.nd) rfl rfl A.2.2.2.1 A.2.2.2.2.2 scL (fun _ => rfl) (by decide +kernel) hcd hTm hTB tr66
end J
open PySem PySem.W PySem.Calls PyProof.Rows
set_option maxHeartbeats 0 in
theorem PySem.Challenge.cw_joinplaces_k70_whole_webs_changed_holds : PySem.Challenge.rw_joinplaces_k70_whole_webs_changed.Holds := by
  w_on; o_law
  refine HandSHeadRun.head_any (r := OpenLaw.row PySem.Challenge.rw_joinplaces_k70_whole_webs_changed) (q := view (OpenLaw.row PySem.Challenge.rw_joinplaces_k70_whole_webs_changed).prog [23]) (H := J.hk) (ob := J.ob) (M := 6000) (loose := J.loose) (d := HandSHeadRun.topDef (OpenLaw.row PySem.Challenge.rw_joinplaces_k70_whole_webs_changed).prog 23) (kwd := []) J.ob_eq
    (by kernel_rfl) (fun s => by kernel_rfl) J.run (by kernel_rfl) (by kernel_rfl) (by kernel_rfl) (by rfl) (by first | assumption | decide +kernel) (by decide +kernel) ⟨rfl, rfl, rfl, rfl, rfl, by decide +kernel⟩ ?hw ?hc
  case hw => w_witness2
  case hc =>
    refine LamX.walk_ofTsE (l := PySem.Challenge.rw_joinplaces_k70_whole_webs_changed) (n := 63) (k := 60) (x := "script") (CX := fun _ => L2.CX0) rfl (by decide) (by kernel_rfl) ⟨rfl, by decide, by decide⟩ ?F (fun _ _ _ _ _ z => z)
    intro w mg fa h Y G hmg0
    obtain ⟨K, KX, c, cx, c0, tP0, TA⟩ := Y
    have hmg : mg ("law" : PySem.Str) = some (.ref fa) := by
      have e : (HandSHeadRun.topDef (OpenLaw.row PySem.Challenge.rw_joinplaces_k70_whole_webs_changed).prog 23).name = ("law" : PySem.Str) := by kernel_rfl
      rw [← e]
      exact hmg0
    obtain ⟨fd, sp, hb, hs, hF⟩ := J.facts (P := (PySem.Challenge.rw_joinplaces_k70_whole_webs_changed).prog) (w := w) J.law_true KX G hmg c TA
    refine ⟨K, KX, fd, [(c0, tP0)], sp, fun p hp => ?_, fun p hp => ?_, fun p hp => ?_, hb, fun H a ns hl _ hH hS => hs H a ns hl (fun b hb => ?_) hS, fun base h1 h2 h3 => hF base h1 h2 (h3 (c0, tP0) List.mem_cons_self)⟩
    · rw [List.mem_singleton.mp hp]; exact TA.emp
    · rw [List.mem_singleton.mp hp]; exact TA.out
    · rw [List.mem_singleton.mp hp]; exact TA.hd
    · rw [TA.tab] at hb
      rw [List.mem_singleton.mp hb]
      exact LamX.TabS.nil (hH (c0, tP0) List.mem_cons_self)
