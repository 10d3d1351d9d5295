import PyProof.Rows.All
import Wide.All
import OpenK.AllK
import Wide.FinOn
import HandS.ForMost
import HandS.Conv
import HandS.Strs
import HandS.TupAny
import HandS.TupMul
import HandS.Style
import HandS.IsInst
import HandS.Zip
import HandS.SortInts
import HandS.SetFor
import HandS.Wide
import HandS.More
import HandS.Defaults
import HandS.Lambda
import HandS.HeadWalk
import HandS.Head0
import HandS.Head1
import HandS.Head2
import HandS.HeadEnd
import HandS.HeadHook1
import HandS.HeadHook2
import KE.GoesEnum
import HandS.Exc
import HandS.ExcOwn
import HandS.ExcIs
import HandS.WordsExc
import KE.SortData
import KE.KDictSum
import PyProof.CompFree
import PySem.Challenge.RW_joinplaces_k03_whole_read
set_option Elab.async false
set_option linter.all false
set_option maxRecDepth 100000
set_option maxHeartbeats 8000000
set_option autoImplicit false
/-! Data in a heap; the little language and what it evaluates to. -/
namespace J
open PySem PySem.Spec PyProof.Rows L2
abbrev D := PyData

/-! ### how a value stands for data -/
mutual
inductive Dr (K : PySem.W.Frag) (H : Hp) : V → D → Prop
  | non : Dr K H .non .none
  | bl (b : Bool) : Dr K H (.bl b) (.bool b)
  | int (i : Int) : Dr K H (.int i) (.int i)
  | str (x : Str) : Dr K H (.str x) (.str x)
  | lst {a : Addr} {xs : List V} {ds : List D} : H a = some (.lst xs) → DrA K H xs ds → Dr K H (.ref a) (.list ds)
  | tup {a : Addr} {xs : List V} {ds : List D} : H a = some (.tup xs) → DrA K H xs ds → Dr K H (.ref a) (.tuple ds)
  | scr {a : Addr} {ns : List Int} : SqL K H a (ns.map V.int) → Dr K H (.ref a) (.dict (ns.map fun n => (.int n, .none)))
inductive DrA (K : PySem.W.Frag) (H : Hp) : List V → List D → Prop
  | nil : DrA K H [] []
  | cons {v : V} {vs : List V} {d : D} {ds : List D} : Dr K H v d → DrA K H vs ds → DrA K H (v :: vs) (d :: ds)
end
/-! ### heaps that stay, but for the tables of code objects -/
/-- a table of code objects -/
def tbO : HO → Bool
  | .tbl _ => true
  | _ => false
/-- the def that makes a lambda, the lambda's name -/
def lamF : Str := "_law_spoilt"
def lamQ : Str := "_law_spoilt.<locals>.<lambda>"
structure Same (H H' : Hp) : Prop where
  ext : ∀ b o, H b = some o → tbO o = false → H' b = some o
  tbs : ∀ b ps, H b = some (.tbl ps) → ∃ qs, H' b = some (.tbl qs)
  tab : ∀ b, LamX.TabS H b lamQ → LamX.TabS H' b lamQ
theorem Same.at {H H' : Hp} {b : Addr} {o : HO} (e : Same H H') (h : H b = some o) (ho : tbO o = false := by rfl) : H' b = some o := e.ext b o h ho
theorem Same.of {H H' : Hp} (h : ∀ b o, H b = some o → H' b = some o) : Same H H' where
  ext := fun b o e _ => h b o e
  tbs := fun b ps e => ⟨ps, h b _ e⟩
  tab := fun b t => t.ext h
theorem Same.refl (H : Hp) : Same H H := ⟨fun _ _ h _ => h, fun _ ps h => ⟨ps, h⟩, fun _ t => t⟩
theorem Same.trans {H H1 H2 : Hp} (a : Same H H1) (b : Same H1 H2) : Same H H2 := ⟨fun c o h n => b.ext c o (a.ext c o h n) n, fun c ps h => let ⟨_, h1⟩ := a.tbs c ps h; b.tbs c _ h1, fun c t => b.tab c (a.tab c t)⟩
theorem Same.free {H H' : Hp} (e : Same H H') {l : Addr} (h : H' l = Option.none) : H l = Option.none := by
  cases q : H l with
  | none => rfl
  | some o =>
    cases o with
    | tbl ps => obtain ⟨qs, z⟩ := e.tbs l ps q; rw [z] at h; cases h
    | _ => rw [e.at q] at h; cases h
/-- a thing of an unlisted kind -/
def exO : Option HO → Bool
  | some (.ext _) => true
  | _ => false
/-- what is new since H is written -/
theorem Same.upd {H H1 : Hp} {p : Addr} {o : HO} (e : Same H H1) (h0 : H p = none) (hx : exO (H1 p) = false) : Same H (upd H1 p o) where
  ext := fun b u q n => by rw [upd_ne (ne_of_none q h0)]; exact e.ext b u q n
  tbs := fun b ps q => by rw [upd_ne (ne_of_none q h0)]; exact e.tbs b ps q
  tab := fun b t => by
    have hb : b ≠ p := fun z => by obtain ⟨_, q, _⟩ := t; rw [z, h0] at q; cases q
    obtain ⟨ps, q1, q2, q3⟩ := e.tab b t
    refine ⟨ps, by rw [upd_ne hb]; exact q1, q2, fun pos cv hc => ?_⟩
    obtain ⟨c, e1, e2⟩ := q3 pos cv hc
    refine ⟨c, e1, ?_⟩
    rw [upd_ne fun z => by rw [← z, e2] at hx; cases hx]
    exact e2
theorem Same.seq {K : PySem.W.Frag} {H H' : Hp} {a : Addr} {xs : List V} (e : Same H H') (h : SqL K H a xs) : SqL K H' a xs := by
  rcases h with (h | ⟨o, h⟩) | h
  · exact .inl (.inl (e.at h))
  · exact .inl (.inr ⟨o, e.at h⟩)
  · exact .inr h
/-- the tables of the def that makes a lambda -/
def tabP (K : PySem.W.Frag) : List Addr := match K.lookup (He.ga K lamF) with
  | some o => (match o.data with
    | .func fd => (match fd.code with
      | .ref c => (match K.lookup c with
        | some oc => (match oc.data with
          | .fields vs => (match (vs[11]? : Option Value) with
            | some (Value.ref p) => [p]
            | _ => [])
          | _ => [])
        | none => [])
      | _ => [])
    | _ => [])
  | none => []
def TabOk (K : PySem.W.Frag) (H : Hp) : Prop := ∀ b ∈ tabP K, LamX.TabS H b lamQ
theorem TabOk.mono {K : PySem.W.Frag} {H H' : Hp} (t : TabOk K H) (e : Same H H') : TabOk K H' := fun b hb => e.tab b (t b hb)
/-- neither a table nor a thing of an unlisted kind -/
def okW : Option HO → Bool
  | some (.ext _) => false
  | some (.tbl _) => false
  | _ => true
theorem tabS_upd {H : Hp} {p b : Addr} {o : HO} (t : LamX.TabS H b lamQ) (hx : okW (H p) = true) : LamX.TabS (upd H p o) b lamQ := by
  obtain ⟨ps, q1, q2, q3⟩ := t
  refine ⟨ps, by rw [upd_ne fun z => by rw [← z, q1] at hx; cases hx]; exact q1, q2, fun pos cv hc => ?_⟩
  obtain ⟨c, e1, e2⟩ := q3 pos cv hc
  refine ⟨c, e1, ?_⟩
  rw [upd_ne fun z => by rw [← z, e2] at hx; cases hx]
  exact e2
theorem TabOk.upd {K : PySem.W.Frag} {H : Hp} {p : Addr} {o : HO} (t : TabOk K H) (hx : okW (H p) = true) : TabOk K (upd H p o) := fun b hb => tabS_upd (t b hb) hx
theorem same_sqL {K : PySem.W.Frag} {H H' : Hp} {a : Addr} {xs : List V} (e : Same H H') (h : SqL K H a xs) : SqL K H' a xs := e.seq h
mutual
theorem Dr.mono {K : PySem.W.Frag} {H H' : Hp} (e : Same H H') : ∀ (d : D) {v : V}, Dr K H v d → Dr K H' v d
  | .none, _, h => by cases h; exact .non
  | .bool _, _, h => by cases h; exact .bl _
  | .int _, _, h => by cases h; exact .int _
  | .str _, _, h => by cases h; exact .str _
  | .list ds, _, h => by
    cases h with
    | lst h1 h2 => exact .lst (e.at h1) (DrA.mono e ds h2)
  | .tuple ds, _, h => by
    cases h with
    | tup h1 h2 => exact .tup (e.at h1) (DrA.mono e ds h2)
  | .dict _, _, h => by
    cases h with
    | scr h1 => exact .scr (same_sqL e h1)
theorem DrA.mono {K : PySem.W.Frag} {H H' : Hp} (e : Same H H') : ∀ (ds : List D) {vs : List V}, DrA K H vs ds → DrA K H' vs ds
  | [], _, h => by cases h; exact .nil
  | d :: ds, _, h => by
    cases h with
    | cons h1 h2 => exact .cons (Dr.mono e d h1) (DrA.mono e ds h2)
end
section
variable {K : PySem.W.Frag} {H H' : Hp}
theorem DrA.len : ∀ {vs : List V} {ds : List D}, DrA K H vs ds → vs.length = ds.length
  | _, [], h => by cases h; rfl
  | _, d :: ds, h => by
    cases h with
    | cons _ h2 => rw [List.length_cons, List.length_cons, DrA.len h2]
theorem DrA.get : ∀ {vs : List V} {ds : List D} {i : Nat} {d : D}, DrA K H vs ds → ds[i]? = some d → ∃ v, vs[i]? = some v ∧ Dr K H v d
  | _, [], _, _, h, e => by simp at e
  | _, d :: ds, 0, _, h, e => by
    cases h with
    | cons h1 _ => simp at e; subst e; exact ⟨_, rfl, h1⟩
  | _, d :: ds, i + 1, _, h, e => by
    cases h with
    | cons _ h2 =>
      obtain ⟨v, e1, h1⟩ := DrA.get (i := i) h2 (by simpa using e)
      exact ⟨v, by simpa using e1, h1⟩
theorem DrA.app : ∀ {vs ws : List V} {ds es : List D}, DrA K H vs ds → DrA K H ws es → DrA K H (vs ++ ws) (ds ++ es)
  | _, _, [], _, h, h' => by cases h; exact h'
  | _, _, d :: ds, _, h, h' => by
    cases h with
    | cons h1 h2 => exact .cons h1 (DrA.app h2 h')
theorem DrA.take : ∀ {vs : List V} {ds : List D} (n : Nat), DrA K H vs ds → DrA K H (vs.take n) (ds.take n)
  | _, _, 0, _ => by simpa using DrA.nil
  | _, [], n + 1, h => by cases h; simpa using DrA.nil
  | _, d :: ds, n + 1, h => by
    cases h with
    | cons h1 h2 => exact .cons h1 (DrA.take n h2)
theorem DrA.drop : ∀ {vs : List V} {ds : List D} (n : Nat), DrA K H vs ds → DrA K H (vs.drop n) (ds.drop n)
  | _, _, 0, h => h
  | _, [], n + 1, h => by cases h; simpa using DrA.nil
  | _, d :: ds, n + 1, h => by
    cases h with
    | cons _ h2 => exact DrA.drop n h2
theorem DrA.rev {vs : List V} {ds : List D} (h : DrA K H vs ds) : DrA K H vs.reverse ds.reverse := by
  induction ds generalizing vs with
  | nil => cases h; exact .nil
  | cons d ds ih =>
    cases h with
    | cons h1 h2 =>
      rw [List.reverse_cons, List.reverse_cons]
      exact DrA.app (ih h2) (.cons h1 .nil)
theorem DrA.rep {vs : List V} {ds : List D} (h : DrA K H vs ds) : ∀ n : Nat, DrA K H (List.replicate n vs).flatten (List.replicate n ds).flatten
  | 0 => .nil
  | n + 1 => by
    rw [List.replicate_succ, List.replicate_succ, List.flatten_cons, List.flatten_cons]
    exact DrA.app h (DrA.rep h n)
theorem DrA.set {v : V} {d : D} (hv : Dr K H v d) : ∀ {vs : List V} {ds : List D} (i : Nat), DrA K H vs ds → DrA K H (vs.set i v) (ds.set i d)
  | _, [], _, h => by cases h; exact .nil
  | _, e :: ds, 0, h => by
    cases h with
    | cons _ h2 => exact .cons hv h2
  | _, e :: ds, i + 1, h => by
    cases h with
    | cons h1 h2 => exact .cons h1 (DrA.set hv i h2)
theorem DrA.ints : ∀ ns : List Int, DrA K H (ns.map V.int) (ns.map PyData.int)
  | [] => .nil
  | n :: ns => .cons (.int n) (DrA.ints ns)
theorem DrA.strs : ∀ ns : List Str, DrA K H (ns.map V.str) (ns.map PyData.str)
  | [] => .nil
  | n :: ns => .cons (.str n) (DrA.strs ns)
/-- data that are ints: so are the values -/
theorem DrA.ofInts : ∀ {ns : List Int} {vs : List V}, DrA K H vs (ns.map PyData.int) → vs = ns.map V.int
  | [], _, h => by cases h; rfl
  | n :: ns, _, h => by
    cases h with
    | cons h1 h2 => cases h1; rw [DrA.ofInts h2]; rfl
theorem DrA.ofStrs : ∀ {ns : List Str} {vs : List V}, DrA K H vs (ns.map PyData.str) → vs = ns.map V.str
  | [], _, h => by cases h; rfl
  | n :: ns, _, h => by
    cases h with
    | cons h1 h2 => cases h1; rw [DrA.ofStrs h2]; rfl
theorem DrA.ofBls : ∀ {ns : List Bool} {vs : List V}, DrA K H vs (ns.map PyData.bool) → vs = ns.map V.bl
  | [], _, h => by cases h; rfl
  | n :: ns, _, h => by
    cases h with
    | cons h1 h2 => cases h1; rw [DrA.ofBls h2]; rfl
mutual
theorem Dr.dp : ∀ (d : D) {v : V}, SeqAt.shaped d = true → Dr K H v d → Dp K H v d
  | .none, _, _, h => by cases h; exact .non
  | .bool _, _, _, h => by cases h; exact .bl _
  | .int _, _, _, h => by cases h; exact .int _
  | .str _, _, _, h => by cases h; exact .str _
  | .list ds, _, hs, h => by
    cases h with
    | lst h1 h2 => exact .lst (.inl (.inl h1)) (DrA.dp ds (by have := SeqAt.canLay_of_shaped hs; simpa [PyData.canLay0] using this) h2)
  | .tuple ds, _, hs, h => by
    cases h with
    | tup h1 h2 => exact .tup (.inl (.inl h1)) (DrA.dp ds (by have := SeqAt.canLay_of_shaped hs; simpa [PyData.canLay0] using this) h2)
  | .dict _, _, hs, h => by have := SeqAt.canLay_of_shaped hs; simp [PyData.canLay0] at this
theorem DrA.dp : ∀ (ds : List D) {vs : List V}, PyData.canLayAll0 ds = true → DrA K H vs ds → DpAll K H vs ds
  | [], _, _, h => by cases h; exact .nil
  | d :: ds, _, hs, h => by
    cases h with
    | cons h1 h2 =>
      have h3 : d.canLay0 = true ∧ PyData.canLayAll0 ds = true := by simpa [PyData.canLayAll0] using hs
      exact .cons (Dr.dpc d h3.1 h1) (DrA.dp ds h3.2 h2)
theorem Dr.dpc : ∀ (d : D) {v : V}, d.canLay0 = true → Dr K H v d → Dp K H v d
  | .none, _, _, h => by cases h; exact .non
  | .bool _, _, _, h => by cases h; exact .bl _
  | .int _, _, _, h => by cases h; exact .int _
  | .str _, _, _, h => by cases h; exact .str _
  | .list ds, _, hs, h => by
    cases h with
    | lst h1 h2 => exact .lst (.inl (.inl h1)) (DrA.dp ds (by simpa [PyData.canLay0] using hs) h2)
  | .tuple ds, _, hs, h => by
    cases h with
    | tup h1 h2 => exact .tup (.inl (.inl h1)) (DrA.dp ds (by simpa [PyData.canLay0] using hs) h2)
  | .dict _, _, hs, h => by simp [PyData.canLay0] at hs
end
end

/-! ### the heap without some addresses -/
/-- tables are not looked at -/
def hdT : Option HO → Option HO
  | some (.tbl _) => none
  | o => o
def mi (H : Hp) (O : List Addr) : Hp := fun b => if b ∈ O then none else hdT (H b)
/-- something other than a tuple -/
def ntO : Option HO → Bool
  | none => false
  | some (.tup _) => false
  | some _ => true
structure Al (K : PySem.W.Frag) (O : List Addr) (H : Hp) : Prop where
  nt : ∀ a ∈ O, ntO (H a) = true
  tb : TabOk K H
theorem hdT_some {o : Option HO} {u : HO} : hdT o = some u ↔ o = some u ∧ tbO u = false := by
  constructor
  · intro h
    cases o with
    | none => cases h
    | some x =>
      cases x with
      | tbl ps => cases h
      | _ => cases h; exact ⟨rfl, rfl⟩
  · rintro ⟨rfl, h⟩
    cases u with
    | tbl ps => cases h
    | _ => rfl
section
variable {K : PySem.W.Frag} {H H' : Hp} {O : List Addr} {a p : Addr} {o : HO}
theorem mi_some {b : Addr} {u : HO} : mi H O b = some u ↔ b ∉ O ∧ H b = some u ∧ tbO u = false := by
  unfold mi
  split
  · rename_i h
    refine ⟨fun z => ?_, fun z => absurd h z.1⟩
    cases z
  · rename_i h
    rw [hdT_some]
    exact ⟨fun z => ⟨h, z⟩, fun z => z.2⟩
theorem mi_lt {b : Addr} {u : HO} (e : mi H O b = some u) : H b = some u := (mi_some.mp e).2.1
theorem mi_le : Same (mi H O) H := .of fun b u e => mi_lt e
/-- between heaps without tables -/
theorem mi_of {O' : List Addr} (h : ∀ b u, b ∉ O → H b = some u → tbO u = false → b ∉ O' ∧ H' b = some u) : Same (mi H O) (mi H' O') := .of fun b u e => by
  obtain ⟨e1, e2, e3⟩ := mi_some.mp e
  obtain ⟨f1, f2⟩ := h b u e1 e2 e3
  exact mi_some.mpr ⟨f1, f2, e3⟩
theorem mi_same (h : Same H H') : Same (mi H O) (mi H' O) := mi_of fun b u e1 e2 e3 => ⟨e1, h.ext b u e2 e3⟩
theorem Al.mono (h : Al K O H) (e : Same H H') : Al K O H' where
  nt := fun a ha => by
    have := h.nt a ha
    cases q : H a with
    | none => rw [q] at this; cases this
    | some o =>
      cases o with
      | tbl ps => obtain ⟨qs, z⟩ := e.tbs a ps q; rw [z]; rfl
      | _ => rw [e.at q]; rw [q] at this; exact this
  tb := h.tb.mono e
theorem Al.out (h : Al K O H) (hp : H p = none) : p ∉ O := fun z => by have := h.nt p z; rw [hp] at this; cases this
theorem Al.tup (h : Al K O H) {xs : List V} (hp : H p = some (.tup xs)) : p ∉ O := fun z => by have := h.nt p z; rw [hp] at this; cases this
theorem mi_out (h : a ∉ O) : mi H O a = hdT (H a) := by unfold mi; rw [if_neg h]
theorem mi_upd (h : p ∉ O) (ho : tbO o = false := by rfl) : mi (upd H p o) O = upd (mi H O) p o := by
  funext b
  unfold mi upd
  by_cases hb : b = p
  · subst hb; rw [if_neg h, if_pos rfl, if_pos rfl]; exact hdT_some.mpr ⟨rfl, ho⟩
  · rw [if_neg hb, if_neg hb]
theorem same_upd (h : H p = none) : Same H (upd H p o) := .of fun b x e => by
  rw [upd_ne (ne_of_none e h)]
  exact e
theorem mi_sub {O' : List Addr} (h : ∀ a ∈ O', a ∈ O) : Same (mi H O) (mi H O') := mi_of fun b u e1 e2 _ => ⟨fun z => e1 (h b z), e2⟩
theorem mi_new (hp : H p = none) (h : Al K O H) : Same (mi H O) (mi (upd H p o) (p :: O)) := mi_of fun b u e1 e2 _ => by
  have hb : b ≠ p := ne_of_none e2 hp
  exact ⟨by simp only [List.mem_cons, not_or]; exact ⟨hb, e1⟩, by rw [upd_ne hb]; exact e2⟩
/-- a dict whose keys are tuples of ints, as data; an object, as data -/
def dtD (es : List (List Int × D)) : D := .dict ((.none, .none) :: es.map fun p => (.tuple (p.1.map .int), p.2))
def obD (fs : List (Str × D)) : D := .dict (fs.map fun p => (.str p.1, p.2))
/-- data that are neither a script nor plain -/
def objD : List (D × D) → Bool
  | [] => false
  | (.int _, _) :: _ => false
  | _ => true
theorem objD_scr (ns : List Int) : objD (ns.map fun n => ((.int n, .none) : D × D)) = false := by cases ns <;> rfl
def DtR (K : PySem.W.Frag) (O : List Addr) (H : Hp) (v : V) (d : D) : Prop :=
  ∃ a kvs es, v = .ref a ∧ d = dtD es ∧ H a = some (.dT kvs) ∧ kvs.map (·.1) = es.map (fun p => p.1.map Sum.inl) ∧ DrA K (mi H O) (kvs.map (·.2)) (es.map (·.2))
/-- a value at the top: strictly, or a list that may be owned while its items are strict -/
def Tp0 (K : PySem.W.Frag) (O : List Addr) (H : Hp) (v : V) (d : D) : Prop :=
  Dr K (mi H O) v d ∨ (∃ a vs ds, v = .ref a ∧ d = .list ds ∧ H a = some (.lst vs) ∧ DrA K (mi H O) vs ds) ∨ DtR K O H v d
def ObR (K : PySem.W.Frag) (O : List Addr) (H : Hp) (v : V) (d : D) : Prop :=
  ∃ x C dx vs fs, v = .ref x ∧ d = obD fs ∧ fs ≠ [] ∧ H x = some (.ins C dx vs) ∧ Cls K C ∧ ∀ p ∈ fs, NoAttr K C p.1 ∧ ∃ u, vs.lookup p.1 = some u ∧ Tp0 K O H u p.2
def Tp (K : PySem.W.Frag) (O : List Addr) (H : Hp) (v : V) (d : D) : Prop :=
  Dr K (mi H O) v d ∨ (∃ a vs ds, v = .ref a ∧ d = .list ds ∧ H a = some (.lst vs) ∧ DrA K (mi H O) vs ds) ∨ DtR K O H v d ∨ ObR K O H v d
theorem Tp.of {v : V} {d : D} (h : Dr K (mi H O) v d) : Tp K O H v d := .inl h
theorem Tp0.tp {v : V} {d : D} (h : Tp0 K O H v d) : Tp K O H v d := by
  rcases h with h | h | h
  · exact .inl h
  · exact .inr (.inl h)
  · exact .inr (.inr (.inl h))
/-- what is at other addresses, or was there -/
theorem Tp0.mono' {O' : List Addr} {v : V} {d : D} (h : Tp0 K O H v d) (e : Same H H') (e' : Same (mi H O) (mi H' O')) : Tp0 K O' H' v d := by
  rcases h with h | ⟨a, vs, ds, e1, e2, h1, h2⟩ | ⟨a, kvs, es, e1, e2, h1, h2, h3⟩
  · exact .inl (Dr.mono e' d h)
  · exact .inr (.inl ⟨a, vs, ds, e1, e2, e.at h1, DrA.mono e' ds h2⟩)
  · exact .inr (.inr ⟨a, kvs, es, e1, e2, e.at h1, h2, DrA.mono e' _ h3⟩)
theorem Tp.mono' {O' : List Addr} {v : V} {d : D} (h : Tp K O H v d) (e : Same H H') (e' : Same (mi H O) (mi H' O')) : Tp K O' H' v d := by
  rcases h with h | ⟨a, vs, ds, e1, e2, h1, h2⟩ | ⟨a, kvs, es, e1, e2, h1, h2, h3⟩ | ⟨x, C, dx, vs, fs, e1, e2, e3, h1, h2, h3⟩
  · exact .inl (Dr.mono e' d h)
  · exact .inr (.inl ⟨a, vs, ds, e1, e2, e.at h1, DrA.mono e' ds h2⟩)
  · exact .inr (.inr (.inl ⟨a, kvs, es, e1, e2, e.at h1, h2, DrA.mono e' _ h3⟩))
  · exact .inr (.inr (.inr ⟨x, C, dx, vs, fs, e1, e2, e3, e.at h1, h2, fun p hp => ⟨(h3 p hp).1, let ⟨u, q1, q2⟩ := (h3 p hp).2; ⟨u, q1, q2.mono' e e'⟩⟩⟩))
theorem Tp.mono {v : V} {d : D} (h : Tp K O H v d) (e : Same H H') : Tp K O H' v d := h.mono' e (mi_same e)
/-- not a script, not an object -/
def ndict : D → Bool
  | .dict _ => false
  | _ => true
theorem Tp.two {v : V} {d : D} (h : Tp K O H v d) (hd : ndict d = true) : Dr K (mi H O) v d ∨ ∃ a vs ds, v = .ref a ∧ d = .list ds ∧ H a = some (.lst vs) ∧ DrA K (mi H O) vs ds := by
  rcases h with h | h | ⟨a, kvs, es, e1, e2, h1, h2, h3⟩ | ⟨x, C, dx, vs, fs, e1, e2, e3, h1, h2, h3⟩
  · exact .inl h
  · exact .inr h
  · rw [e2] at hd; cases hd
  · rw [e2] at hd; cases hd
theorem Tp.full {v : V} {d : D} (h : Tp K O H v d) (hd : ndict d = true) : Dr K H v d := by
  rcases h.two hd with h | ⟨a, vs, ds, rfl, rfl, h1, h2⟩
  · exact Dr.mono mi_le d h
  · exact .lst h1 (DrA.mono mi_le ds h2)
theorem Tp.list {v : V} {ds : List D} (h : Tp K O H v (.list ds)) : ∃ a vs, v = .ref a ∧ H a = some (.lst vs) ∧ DrA K (mi H O) vs ds := by
  rcases h.two rfl with h | ⟨a, vs, ds', rfl, e, h1, h2⟩
  · cases h with
    | lst h1 h2 => exact ⟨_, _, rfl, mi_lt h1, h2⟩
  · cases e; exact ⟨a, vs, rfl, h1, h2⟩
theorem Tp.tuple {v : V} {ds : List D} (h : Tp K O H v (.tuple ds)) : ∃ a vs, v = .ref a ∧ mi H O a = some (.tup vs) ∧ DrA K (mi H O) vs ds := by
  rcases h.two rfl with h | ⟨a, vs, ds', rfl, e, h1, h2⟩
  · cases h with
    | tup h1 h2 => exact ⟨_, _, rfl, h1, h2⟩
  · cases e
theorem Tp.int {v : V} {i : Int} (h : Tp K O H v (.int i)) : v = .int i := by
  rcases h.two rfl with h | ⟨a, vs, ds', rfl, e, h1, h2⟩
  · cases h; rfl
  · cases e
theorem Tp.bool {v : V} {i : Bool} (h : Tp K O H v (.bool i)) : v = .bl i := by
  rcases h.two rfl with h | ⟨a, vs, ds', rfl, e, h1, h2⟩
  · cases h; rfl
  · cases e
theorem Tp.str {v : V} {i : Str} (h : Tp K O H v (.str i)) : v = .str i := by
  rcases h.two rfl with h | ⟨a, vs, ds', rfl, e, h1, h2⟩
  · cases h; rfl
  · cases e
theorem Tp.non {v : V} (h : Tp K O H v .none) : v = .non := by
  rcases h.two rfl with h | ⟨a, vs, ds', rfl, e, h1, h2⟩
  · cases h; rfl
  · cases e
theorem Tp.dict {v : V} {kvs : List (D × D)} (h : Tp K O H v (.dict kvs)) (ho : objD kvs = false) : ∃ a ns, v = .ref a ∧ kvs = (ns : List Int).map (fun n => (.int n, .none)) ∧ SqL K H a (ns.map V.int) := by
  rcases h with h | ⟨a, vs, ds', rfl, e, h1, h2⟩ | ⟨a, kvs, es, e1, e2, h1, h2, h3⟩ | ⟨x, C, dx, vs, fs, e1, e2, e3, h1, h2, h3⟩
  · cases h with
    | scr h1 => exact ⟨_, _, rfl, rfl, same_sqL mi_le h1⟩
  · cases e
  · cases e2; cases ho
  · cases e2
    cases fs with
    | nil => exact absurd rfl e3
    | cons p r => cases ho
theorem Tp.ref {v : V} {kvs : List (D × D)} (h : Tp K O H v (.dict kvs)) : ∃ a, v = .ref a := by
  rcases h with h | ⟨a, vs, ds', rfl, e, h1, h2⟩ | ⟨a, kvs, es, e1, e2, h1, h2, h3⟩ | ⟨x, C, dx, vs, fs, e1, e2, e3, h1, h2, h3⟩
  · cases h with
    | scr h1 => exact ⟨_, rfl⟩
  · cases e
  · exact ⟨_, e1⟩
  · exact ⟨_, e1⟩
/-- a field of an object -/
def fldD (f : Str) : List (D × D) → Option D
  | (.str g, d) :: r => if g = f then some d else fldD f r
  | _ => none
theorem fldD_mem {f : Str} {d : D} : ∀ {fs : List (Str × D)}, fldD f (fs.map fun p => (.str p.1, p.2)) = some d → (f, d) ∈ fs
  | [], h => by simp [fldD] at h
  | (g, e) :: r, h => by
    simp only [List.map_cons, fldD] at h
    split at h
    · rename_i hg
      cases h
      subst hg
      exact List.mem_cons_self
    · exact List.mem_cons_of_mem _ (fldD_mem h)
theorem fldD_no {f : Str} {ns : List Int} : fldD f (ns.map fun n => (.int n, .none)) = none := by cases ns <;> rfl
theorem Tp.fld {v : V} {kvs : List (D × D)} {f : Str} {d : D} (h : Tp K O H v (.dict kvs)) (hf : fldD f kvs = some d) : ∃ x C dx vs u, v = .ref x ∧ H x = some (.ins C dx vs) ∧ Cls K C ∧ NoAttr K C f ∧ vs.lookup f = some u ∧ Tp0 K O H u d := by
  rcases h with h | ⟨a, vs, ds', rfl, e, h1, h2⟩ | ⟨a, kvs, es, e1, e2, h1, h2, h3⟩ | ⟨x, C, dx, vs, fs, e1, e2, e3, h1, h2, h3⟩
  · cases h with
    | scr h1 => rw [fldD_no] at hf; cases hf
  · cases e
  · cases e2; cases hf
  · cases e2
    obtain ⟨q1, u, q2, q3⟩ := h3 _ (fldD_mem hf)
    exact ⟨x, C, dx, vs, u, e1, h1, h2, q1, q2, q3⟩
/-- a dict with tuples for keys -/
def dgetD (ns : List Int) : List (List Int × D) → Option D
  | [] => none
  | (k, d) :: r => if k = ns then some d else dgetD ns r
def isNon : D → Bool
  | .none => true
  | _ => false
end

/-! ### the little language -/
inductive Bi where
  | len | min | max | sum | all | any | abs | int | str | tuple | list | sorted
  deriving DecidableEq, Repr
inductive Ty where
  | int | bool | str | tuple | list
  deriving DecidableEq, Repr
inductive IE where
  | var (i : Nat) | bv (i : Nat)
  | cn | cb (b : Bool) | ci (i : Int) | cs (s : Str)
  | bin (op : Operator) (a b : IE) | neg (a : IE) | nt (a : IE)
  | cmp (op : CmpOp) (a b : IE) | cmp2 (op op' : CmpOp) (a b c : IE)
  | an (a b : IE) | or (a b : IE)
  | tup (as : IE) | lst (as : IE)
  | nil | cons (a as : IE)
  | call (k : Nat) (as : IE) | bi (b : Bi) (as : IE) | isi (t : Ty) (a : IE)
  | ix (a b : IE) | sl (a lo hi : IE) | rev (a : IE)
  | rgL (lo hi : IE) | rgT (lo hi : IE) | lset (a : IE) | sset (a : IE)
  | comp (elt : IE) (tg : List Nat) (src cond : IE) (vs : List Nat)
  | rg (lo hi : IE) | enum (a : IE) | zip (a b : IE)
  | join (a b : IE) | split (a b : IE)
  | fld (a : IE) (f : Str) | flds (a : IE) (f : Str) | dget (a k d : IE) | dix (a k : IE) | dsort (a : IE)
  deriving DecidableEq, Repr
inductive IS where
  | set (i : Nat) (e : IE) | setO (i : Nat) (e : IE)
  | unp (tg : List Nat) (e : IE) | par (i j : Nat) (a b : IE)
  | app (i : Nat) (e : IE) | sti (i : Nat) (ix e : IE)
  | ifs (c : IE) (t e : IS) | for_ (tg : List Nat) (src : IE) (body : IS) | whl (c : IE) (body : IS)
  | ret (e : IE) | skip | seq (a b : IS) | shr (i : Nat) | nev
  deriving DecidableEq, Repr
inductive Sl where
  | no | val (d : D) | own (ds : List D) | bor (d : D)
abbrev En := List Sl
def getV (env : En) (i : Nat) : Option D := match env[i]? with
  | some (.val d) => some d
  | _ => none
def getB (env : En) (i : Nat) : Option D := match env[i]? with
  | some (.val d) => some d
  | some (.own ds) => some (.list ds)
  | some (.bor d) => some d
  | _ => none

/-! ### operations on data -/
def opAdd : D → D → Option D
  | .int i, .int j => some (.int (i + j))
  | .str x, .str y => if x.length + y.length ≤ 100000 then some (.str (x ++ y)) else none
  | .list xs, .list ys => if xs.length + ys.length ≤ 1000000 then some (.list (xs ++ ys)) else none
  | .tuple xs, .tuple ys => if xs.length + ys.length ≤ 100000 then some (.tuple (xs ++ ys)) else none
  | _, _ => none
def opSub : D → D → Option D
  | .int i, .int j => some (.int (i - j))
  | _, _ => none
def mulOk (i j : Int) : Bool := decide (i.natAbs < 2 ^ 64) || decide (j.natAbs < 2 ^ 64) || (decide (i.natAbs < 2 ^ 100000) && decide (j.natAbs < 2 ^ 100000))
def opMul : D → D → Option D
  | .int i, .int j => if mulOk i j then some (.int (i * j)) else none
  | .list xs, .int k => if 0 ≤ k ∧ k ≤ 1000 ∧ xs.length ≤ 100 then some (.list (List.replicate k.toNat xs).flatten) else none
  | .tuple xs, .int k => if xs ≠ [] ∧ 1 ≤ k ∧ k ≤ 1000 ∧ xs.length ≤ 1000 then some (.tuple (List.replicate k.toNat xs).flatten) else none
  | _, _ => none
def opDiv : D → D → Option D
  | .int i, .int j => if 0 < j ∧ j.natAbs < 2 ^ 8000 then some (.int (i / j)) else none
  | _, _ => none
def opMod : D → D → Option D
  | .int i, .int j => if 0 < j then some (.int (i % j)) else none
  | _, _ => none
def opAnd : D → D → Option D
  | .int i, .int j => some (.int (Builtin.bitAnd i j))
  | _, _ => none
def opPow : D → D → Option D
  | .int i, .int j => if 0 ≤ j ∧ j ≤ 1000 ∧ i.natAbs < 2 ^ 64 then some (.int (i ^ j.toNat)) else none
  | _, _ => none
def opB : Operator → D → D → Option D
  | .Add, x, y => opAdd x y
  | .Sub, x, y => opSub x y
  | .Mult, x, y => opMul x y
  | .FloorDiv, x, y => opDiv x y
  | .Mod, x, y => opMod x y
  | .BitAnd, x, y => opAnd x y
  | .Pow, x, y => opPow x y
  | _, _, _ => none
/-- pairs that are compared whatever their size -/
def scalP : D → D → Bool
  | .none, .none | .none, .int _ | .int _, .none | .none, .bool _ | .bool _, .none | .none, .str _ | .str _, .none | .int _, .int _ | .bool _, .bool _ | .str _, .str _
  | .int _, .str _ | .str _, .int _ | .bool _, .str _ | .str _, .bool _ => true
  | _, _ => false
def opEq (x y : D) : Option Bool := if scalP x y then some (PyData.eqv x y) else if SeqAt.shaped x && SeqAt.shaped y then some (PyData.eqv x y) else none
def opI (f : Int → Int → Bool) : D → D → Option Bool
  | .int i, .int j => some (f i j)
  | _, _ => none
def isNoneD : D → Bool
  | .none => true
  | _ => false
def opIs : D → D → Option Bool
  | x, .none => some (isNoneD x)
  | .bool a, .bool b => some (decide (a = b))
  | _, _ => none
def flatD : D → Bool
  | .none | .bool _ | .int _ | .str _ => true
  | _ => false
def opIn : D → D → Option Bool
  | x, .list ds => if flatD x && ds.all flatD then some (ds.any fun y => PyData.eqv y x) else none
  | x, .tuple ds => if flatD x && ds.all flatD then some (ds.any fun y => PyData.eqv y x) else none
  | .str x, .str z => match x.cps.toList with
    | [c] => some (decide (c ∈ z.cps.toList))
    | _ => none
  | _, _ => none
def opC : CmpOp → D → D → Option Bool
  | .Eq, x, y => opEq x y
  | .NotEq, x, y => (opEq x y).map (! ·)
  | .Lt, x, y => opI (fun i j => decide (i < j)) x y
  | .LtE, x, y => opI (fun i j => decide (i ≤ j)) x y
  | .Gt, x, y => opI (fun i j => decide (j < i)) x y
  | .GtE, x, y => opI (fun i j => decide (j ≤ i)) x y
  | .Is, x, y => opIs x y
  | .IsNot, x, y => (opIs x y).map (! ·)
  | .In, x, y => opIn x y
  | .NotIn, x, y => (opIn x y).map (! ·)
def ints? : List D → Option (List Int)
  | [] => some []
  | .int i :: r => (ints? r).map (i :: ·)
  | _ :: _ => none
def bls? : List D → Option (List Bool)
  | [] => some []
  | .bool i :: r => (bls? r).map (i :: ·)
  | _ :: _ => none
def strs? : List D → Option (List Str)
  | [] => some []
  | .str i :: r => (strs? r).map (i :: ·)
  | _ :: _ => none
def leastI : Int → List Int → Int
  | m, [] => m
  | m, x :: r => leastI (if x < m then x else m) r
def mostI : Int → List Int → Int
  | m, [] => m
  | m, x :: r => mostI (if x > m then x else m) r
def insI (x : Int) : List Int → List Int
  | [] => [x]
  | y :: r => if x ≤ y then x :: y :: r else y :: insI x r
def sortI (l : List Int) : List Int := l.foldr insI []
def undupI : List Int → List Int
  | [] => []
  | x :: r => if x ∈ r then undupI r else x :: undupI r
def biLen : List D → Option D
  | [.list ds] => some (.int ds.length)
  | [.tuple ds] => some (.int ds.length)
  | [.dict ds] => if objD ds = false then some (.int ds.length) else none
  | [.str x] => if x.length ≤ 100000 then some (.int x.length) else none
  | _ => none
def biMin : List D → Option D
  | [.int i, .int j] => some (.int (if j < i then j else i))
  | [.list ds] => match ints? ds with
    | some (n :: ns) => some (.int (leastI n ns))
    | _ => none
  | _ => none
def biMax : List D → Option D
  | [.int i, .int j] => some (.int (if j > i then j else i))
  | [.list ds] => match ints? ds with
    | some (n :: ns) => some (.int (mostI n ns))
    | _ => none
  | _ => none
def biSum : List D → Option D
  | [.list ds] => (ints? ds).map fun ns => .int ns.sum
  | [.tuple ds] => (ints? ds).map fun ns => .int ns.sum
  | _ => none
def biAll : List D → Option D
  | [.list ds] => (bls? ds).map fun ns => .bool (ns.all id)
  | _ => none
def biAny : List D → Option D
  | [.list ds] => (bls? ds).map fun ns => .bool (ns.any id)
  | _ => none
def biAbs : List D → Option D
  | [.int i] => some (.int (if i < 0 then -i else i))
  | _ => none
def biInt : List D → Option D
  | [.int i] => some (.int i)
  | [.bool b] => some (.int (if b = true then 1 else 0))
  | [.str x] => if x.length ≤ 640 then (PySem.intText? x).map .int else none
  | _ => none
def biStr : List D → Option D
  | [.int i] => if i.natAbs < 2 ^ 1900 then some (.str (Str.ofString (toString i))) else none
  | _ => none
def biTuple : List D → Option D
  | [.list ds] => some (.tuple ds)
  | [.tuple ds] => some (.tuple ds)
  | _ => none
def biList : List D → Option D
  | [.list ds] => some (.list ds)
  | [.tuple ds] => some (.list ds)
  | _ => none
def biSorted : List D → Option D
  | [.list ds] => (ints? ds).map fun ns => .list ((sortI ns).map .int)
  | [.tuple ds] => (ints? ds).map fun ns => .list ((sortI ns).map .int)
  | _ => none
def evBi : Bi → List D → Option D
  | .len, ds => biLen ds
  | .min, ds => biMin ds
  | .max, ds => biMax ds
  | .sum, ds => biSum ds
  | .all, ds => biAll ds
  | .any, ds => biAny ds
  | .abs, ds => biAbs ds
  | .int, ds => biInt ds
  | .str, ds => biStr ds
  | .tuple, ds => biTuple ds
  | .list, ds => biList ds
  | .sorted, ds => biSorted ds
def evIsi : Ty → D → Option Bool
  | _, .dict _ => none
  | .int, .int _ => some true
  | .int, .bool _ => some true
  | .int, _ => some false
  | .bool, .bool _ => some true
  | .bool, _ => some false
  | .str, .str _ => some true
  | .str, _ => some false
  | .tuple, .tuple _ => some true
  | .tuple, _ => some false
  | .list, .list _ => some true
  | .list, _ => some false
def opIx : D → D → Option D
  | .list ds, .int i => atI ds i
  | .tuple ds, .int i => atI ds i
  | .dict kvs, .int i => if objD kvs = false then (atI kvs i).map (·.1) else none
  | .str x, .int i => if x.length ≤ 100000 then (atI x.cps.toList i).map fun c => .str ⟨#[c]⟩ else none
  | _, _ => none
def cutD {α : Type} (xs : List α) (lo hi : Option Int) : List α := (xs.drop (HT.sIx xs.length 0 lo)).take (HT.sIx xs.length xs.length hi - HT.sIx xs.length 0 lo)
def opSl : D → Option Int → Option Int → Option D
  | .list ds, lo, hi => some (.list (cutD ds lo hi))
  | .tuple ds, lo, hi => some (.tuple (cutD ds lo hi))
  | .str x, lo, hi => if x.length ≤ 100000 then some (.str (cutS x lo hi)) else none
  | _, _, _ => none
def opRev : D → Option D
  | .list ds => some (.list ds.reverse)
  | .tuple ds => some (.tuple ds.reverse)
  | _ => none
def rgD (lo hi : Int) : List D := (List.range (hi - lo).toNat).map fun i => .int (lo + (i : Nat))
def rgOk (lo hi : Int) : Bool := decide (-100000 ≤ lo) && decide (lo ≤ 100000) && decide (-100000 ≤ hi) && decide (hi ≤ 100000)
def opRg : D → D → Option (List D)
  | .int lo, .int hi => if rgOk lo hi then some (rgD lo hi) else none
  | _, _ => none
def enumD : Nat → List D → List D
  | _, [] => []
  | k, d :: ds => .tuple [.int k, d] :: enumD (k + 1) ds
def zipD : List D → List D → List D
  | x :: xs, y :: ys => .tuple [x, y] :: zipD xs ys
  | _, _ => []
def charsD (x : Str) : List D := x.cps.toList.map fun c => .str ⟨#[c]⟩
def itemsD : D → Option (List D)
  | .list ds => some ds
  | .tuple ds => some ds
  | .dict kvs => some (kvs.map (·.1))
  | .str x => some (charsD x)
  | _ => none
def seq2 : D → Option (List D)
  | .list ds => some ds
  | .tuple ds => some ds
  | _ => none
def zip1 : D → D → Option (List D)
  | .tuple xs, .tuple ys => some (zipD xs ys)
  | .list xs, .list ys => some (zipD xs ys)
  | _, _ => none
def zip2 : D → D → Option (List D)
  | .tuple xs, .tuple ys => some (zipD xs ys)
  | .list xs, .list ys => some (zipD xs ys)
  | .tuple xs, .list ys => some (zipD xs ys)
  | _, _ => none
def opJoin : D → D → Option D
  | .str a, .list ds => (strs? ds).bind fun ys => if (ys.map (·.length)).sum + ys.length * a.length ≤ 100000 then some (.str (Txt.join a ys)) else none
  | _, _ => none
def opSplit : D → D → Option D
  | .str a, .str b => if b.length = 1 ∧ a.length ≤ 100000 then some (.list ((Txt.split a b).map .str)) else none
  | _, _ => none
/-- the pairs of a dict with tuples for keys -/
def undt : List (D × D) → Option (List (List Int × D))
  | [] => some []
  | (.tuple ks, d) :: r => match ints? ks with
    | none => none
    | some ns => match undt r with
      | none => none
      | some es => some ((ns, d) :: es)
  | _ => none
def undtD : D → Option (List (List Int × D))
  | .dict ((.none, .none) :: r) => undt r
  | _ => none
def strictD : D → Bool
  | .list _ => false
  | .dict _ => false
  | _ => true
def opFld (f : Str) : D → Option D
  | .dict kvs => fldD f kvs
  | _ => none
def opFldS (f : Str) (x : D) : Option D := match opFld f x with
  | some d => if strictD d then some d else none
  | none => none
def tupI : D → Option (List Int)
  | .tuple ks => ints? ks
  | _ => none
def opDget (x k z : D) : Option D := match undtD x with
  | none => none
  | some es => match tupI k with
    | none => none
    | some ns => some ((dgetD ns es).getD z)
def opDix (x k : D) : Option D := match undtD x with
  | none => none
  | some es => match tupI k with
    | none => none
    | some ns => dgetD ns es
def sortL (ks : List (List Int)) : List (List Int) := ks.mergeSort fun p q => decide (p ≤ q)
def opDsort (x : D) : Option D := match undtD x with
  | none => none
  | some es => if (es.map (·.1)).all (fun k => !k.isEmpty) ∧ es.length ≤ 1000 then some (.list ((sortL (es.map (·.1))).map fun k => .tuple (k.map .int))) else none
/-- targets -/
def bindEach : List Nat → List D → En → Option En
  | [], [], env => some env
  | i :: tg, d :: ds, env => bindEach tg ds (env.set i (.val d))
  | _, _, _ => none
def bindT : List Nat → D → En → Option En
  | [i], d, env => some (env.set i (.val d))
  | tg, .tuple ds, env => bindEach tg ds env
  | _, _, _ => none
def wipeE (env : En) : List Nat → En
  | [] => env
  | v :: vs => (wipeE env vs).set v .no
/-- what a comprehension makes of its source -/
def compL (f : D → Option (Option D)) : List D → Option (List D)
  | [] => some []
  | x :: r => match f x with
    | none => none
    | some y => match compL f r with
      | none => none
      | some ys => some (match y with | none => ys | some z => z :: ys)
def testD : Option D → Option Bool
  | some (.bool b) => some b
  | _ => none

/-- one turn of a comprehension -/
def turnC (tg vs : List Nat) (cond : En → Option Bool) (elt : En → Option D) (env : En) (x : D) : Option (Option D) := match bindT tg x (wipeE env vs) with
  | none => none
  | some env' => match cond env' with
    | none => none
    | some false => some none
    | some true => match elt env' with
      | none => none
      | some y => some (some y)

/-! ### evaluation -/
section
variable (Φ : Nat → List D → Option D)
mutual
def evE : IE → En → Option D
  | .var i, env => getV env i
  | .bv i, env => getB env i
  | .cn, _ => some .none
  | .cb b, _ => some (.bool b)
  | .ci i, _ => some (.int i)
  | .cs s, _ => some (.str s)
  | .bin op a b, env => match evE a env with
    | none => none
    | some x => match evE b env with
      | none => none
      | some y => opB op x y
  | .neg a, env => match evE a env with
    | some (.int i) => some (.int (-i))
    | _ => none
  | .nt a, env => match evE a env with
    | some (.bool b) => some (.bool !b)
    | _ => none
  | .cmp op a b, env => match evE a env with
    | none => none
    | some x => match evE b env with
      | none => none
      | some y => (opC op x y).map .bool
  | .cmp2 op op' a b c, env => match evE a env with
    | none => none
    | some x => match evE b env with
      | none => none
      | some y => match opC op x y with
        | none => none
        | some false => some (.bool false)
        | some true => match evE c env with
          | none => none
          | some z => (opC op' y z).map .bool
  | .an a b, env => match evE a env with
    | some (.bool true) => evE b env
    | some (.bool false) => some (.bool false)
    | _ => none
  | .or a b, env => match evE a env with
    | some (.bool true) => some (.bool true)
    | some (.bool false) => evE b env
    | _ => none
  | .tup as, env => match evA as env with
    | none => none
    | some ds => if ds.length ≤ 1000 then some (.tuple ds) else none
  | .lst as, env => match evA as env with
    | none => none
    | some ds => if ds.length ≤ 1000 then some (.list ds) else none
  | .call k as, env => match evA as env with
    | none => none
    | some ds => Φ k ds
  | .bi b as, env => match evA as env with
    | none => none
    | some ds => evBi b ds
  | .isi t a, env => match evE a env with
    | none => none
    | some d => (evIsi t d).map .bool
  | .ix a b, env => match evE a env with
    | none => none
    | some x => match evE b env with
      | none => none
      | some y => opIx x y
  | .sl a lo hi, env => match evE a env with
    | none => none
    | some x => match evO lo env with
      | none => none
      | some l => match evO hi env with
        | none => none
        | some h => opSl x l h
  | .rev a, env => match evE a env with
    | none => none
    | some x => opRev x
  | .rgL lo hi, env => match evE lo env with
    | none => none
    | some l => match evE hi env with
      | none => none
      | some h => (opRg l h).map .list
  | .rgT lo hi, env => match evE lo env with
    | none => none
    | some l => match evE hi env with
      | none => none
      | some h => (opRg l h).map .tuple
  | .lset a, env => match evE a env with
    | some (.list ds) => match ints? ds with
      | none => none
      | some ns => if ns.length ≤ 50 then some (.int (undupI ns).length) else none
    | _ => none
  | .sset a, env => match evE a env with
    | none => none
    | some x => match seq2 x with
      | none => none
      | some ds => match ints? ds with
        | none => none
        | some ns => if ns.length ≤ 50 then some (.list ((sortI (undupI ns)).map .int)) else none
  | .comp elt tg src cond vs, env => match evI src env with
    | none => none
    | some ds => if ds.length ≤ 40000 then (compL (turnC tg vs (evC cond) (evE elt) env) ds).map .list else none
  | .join a b, env => match evE a env with
    | none => none
    | some x => match evE b env with
      | none => none
      | some y => opJoin x y
  | .split a b, env => match evE a env with
    | none => none
    | some x => match evE b env with
      | none => none
      | some y => opSplit x y
  | .fld a f, env => match evE a env with
    | none => none
    | some x => opFld f x
  | .flds a f, env => match evE a env with
    | none => none
    | some x => opFldS f x
  | .dget a k d, env => match evE a env with
    | none => none
    | some x => match evE k env with
      | none => none
      | some y => match evE d env with
        | none => none
        | some z => opDget x y z
  | .dix a k, env => match evE a env with
    | none => none
    | some x => match evE k env with
      | none => none
      | some y => opDix x y
  | .dsort a, env => match evE a env with
    | none => none
    | some x => opDsort x
  | .nil, _ => none
  | .cons _ _, _ => none
  | .rg _ _, _ => none
  | .enum _, _ => none
  | .zip _ _, _ => none
def evA : IE → En → Option (List D)
  | .nil, _ => some []
  | .cons a as, env => match evE a env with
    | none => none
    | some x => match evA as env with
      | none => none
      | some xs => some (x :: xs)
  | _, _ => none
/-- a bound of a slice -/
def evO : IE → En → Option (Option Int)
  | .nil, _ => some none
  | e, env => match evE e env with
    | some (.int i) => some (some i)
    | _ => none
/-- a comprehension's test -/
def evC : IE → En → Option Bool
  | .nil, _ => some true
  | e, env => testD (evE e env)
/-- what is walked -/
def evI : IE → En → Option (List D)
  | .rg lo hi, env => match evE lo env with
    | none => none
    | some l => match evE hi env with
      | none => none
      | some h => opRg l h
  | .enum a, env => match evE a env with
    | none => none
    | some x => match seq2 x with
      | none => none
      | some ds => some (enumD 0 ds)
  | .zip a b, env => match evE a env with
    | none => none
    | some x => match evE b env with
      | none => none
      | some y => zip2 x y
  | e, env => match evE e env with
    | none => none
    | some x => itemsD x
end
inductive Fl where
  | nx (env : En) | rt (d : D)
def forL (f : D → En → Option Fl) : List D → En → Option Fl
  | [], env => some (.nx env)
  | x :: r, env => match f x env with
    | some (.nx env') => forL f r env'
    | q => q
def whileL (c : En → Option Bool) (f : En → Option Fl) : Nat → En → Option Fl
  | 0, _ => none
  | n + 1, env => match c env with
    | some true => match f env with
      | some (.nx env') => whileL c f n env'
      | q => q
    | some false => some (.nx env)
    | none => none
/-- one turn of a for; a while's test -/
def forB (tg : List Nat) (g : En → Option Fl) (x : D) (env : En) : Option Fl := match bindT tg x env with
  | none => none
  | some env' => g env'
def tst (f : En → Option D) (env : En) : Option Bool := testD (f env)
def fuelW : Nat := 100000
/-- what a return hands back -/
def evR : IE → En → Option D
  | .var i, env => match env[i]? with
    | some (.val d) => some d
    | some (.own ds) => some (.list ds)
    | _ => none
  | e, env => evE Φ e env
def evS : IS → En → Option Fl
  | .set i e, env => match evE Φ e env with
    | none => none
    | some d => some (.nx (env.set i (.val d)))
  | .setO i e, env => match evE Φ e env with
    | some (.list ds) => some (.nx (env.set i (.own ds)))
    | _ => none
  | .unp tg e, env => match evE Φ e env with
    | some (.tuple ds) => (bindEach tg ds env).map .nx
    | _ => none
  | .par i j a b, env => match evE Φ a env with
    | none => none
    | some x => match evE Φ b env with
      | none => none
      | some y => some (.nx ((env.set i (.val x)).set j (.val y)))
  | .app i e, env => match env[i]? with
    | some (.own ds) => match evE Φ e env with
      | none => none
      | some d => if ds.length < 100000 then some (.nx (env.set i (.own (ds ++ [d])))) else none
    | _ => none
  | .sti i ix e, env => match env[i]? with
    | some (.own ds) => match evE Φ e env with
      | none => none
      | some d => match evE Φ ix env with
        | some (.int k) => match ixN ds.length k with
          | none => none
          | some j => some (.nx (env.set i (.own (ds.set j d))))
        | _ => none
    | _ => none
  | .ifs c t e, env => match testD (evE Φ c env) with
    | none => none
    | some true => evS t env
    | some false => evS e env
  | .for_ tg src body, env => match evI Φ src env with
    | none => none
    | some ds => forL (forB tg (evS body)) ds env
  | .whl c body, env => whileL (tst (evE Φ c)) (evS body) fuelW env
  | .ret e, env => (evR Φ e env).map .rt
  | .skip, env => some (.nx env)
  | .seq a b, env => match evS a env with
    | some (.nx env') => evS b env'
    | q => q
  | .shr i, env => match env[i]? with
    | some (.own ds) => some (.nx (env.set i (.val (.list ds))))
    | _ => some (.nx env)
  | .nev, _ => none
end
/-- a def: its parameters (which of them are borrowed), its slots, its body -/
structure Fd where
  bs : List Bool
  slots : Nat
  body : IS
def start0 : List Bool → List D → En
  | b :: bs, d :: ds => (if b then .bor d else .val d) :: start0 bs ds
  | _, _ => []
def evF (Φ : Nat → List D → Option D) (F : Fd) (ds : List D) : Option D :=
  if ds.length = F.bs.length then
    match evS Φ F.body (start0 F.bs ds ++ List.replicate (F.slots - ds.length) .no) with
    | some (.rt d) => some d
    | some (.nx _) => some .none
    | none => none
  else none
end J

/-! The operations of the machine, by data. -/
namespace J
open PySem PySem.Spec PyProof.Rows L2
def Wk (K : PySem.W.Frag) (O : List Addr) (H : Hp) (d : D) (Q : VK) : Prop := ∀ v H', Same H H' → Dr K (mi H' O) v d → Q v H'
def rG2 (K : PySem.W.Frag) (g : D → D → Option D) : R2 := fun x y H Q => ∃ O dx dy d, Al K O H ∧ Tp K O H x dx ∧ Tp K O H y dy ∧ g dx dy = some d ∧ Wk K O H d Q
theorem log2_lt {n k : Nat} (hk : 0 < k) (h : n < 2 ^ k) : n.log2 < k := by
  by_cases h0 : n = 0
  · subst h0; simpa using hk
  · exact (Nat.log2_lt h0).mpr h
section
variable {X : Cx}
theorem wk_self {K : PySem.W.Frag} {O : List Addr} {H : Hp} {d : D} {Q : VK} {v : V} (q : Wk K O H d Q) (h : Dr K (mi H O) v d) : Q v H := q v H (Same.refl H) h
theorem wk_lst {K : PySem.W.Frag} {O : List Addr} {H : Hp} {ds : List D} {Q : VK} {vs : List V} (q : Wk K O H (.list ds) Q) (al : Al K O H) (h : DrA K (mi H O) vs ds) : ∀ p, H p = none → Q (.ref p) (upd H p (.lst vs)) := fun p hp => by
  refine q _ _ (same_upd hp) (.lst (xs := vs) ?_ ?_)
  · rw [mi_out (al.out hp), upd_same]; rfl
  · exact DrA.mono (mi_same (same_upd hp)) ds h
theorem wk_tup {K : PySem.W.Frag} {O : List Addr} {H : Hp} {ds : List D} {Q : VK} {vs : List V} (q : Wk K O H (.tuple ds) Q) (al : Al K O H) (h : DrA K (mi H O) vs ds) : ∀ p, H p = none → Q (.ref p) (upd H p (.tup vs)) := fun p hp => by
  refine q _ _ (same_upd hp) (.tup (xs := vs) ?_ ?_)
  · rw [mi_out (al.out hp), upd_same]; rfl
  · exact DrA.mono (mi_same (same_upd hp)) ds h
theorem nilDr {K : PySem.W.Frag} {H : Hp} {vs : List V} {ds : List D} (h : DrA K H vs ds) : vs = [] ↔ ds = [] := by
  have := h.len
  constructor
  · intro e; subst e; exact List.eq_nil_of_length_eq_zero this.symm
  · intro e; subst e; exact List.eq_nil_of_length_eq_zero this
theorem szl {n : Nat} (h : n ≤ 100000) : n ≤ sizeLine := Nat.le_trans h (by decide)
theorem szlt {n : Nat} (h : n < 100000) : n < sizeLine := Nat.lt_of_lt_of_le h (by decide)
theorem szl24 {n : Nat} (h : n ≤ 1000000) : n ≤ sizeLine := Nat.le_trans h (by decide)

theorem opr_add : OpR X (binaryOp .Add) (rG2 X.K opAdd) := by
  intro pins s σ H x y v u Q I rx ry ⟨O, dx, dy, d, al, hx, hy, e, q⟩
  unfold opAdd at e
  split at e
  · cases hx.int; cases hy.int; cases e
    exact op_add pins s σ H _ _ v u Q I rx ry ⟨_, _, rfl, rfl, wk_self q (.int _)⟩
  · cases hx.str; cases hy.str
    split at e
    · rename_i hl
      cases e
      exact op_add_str pins s σ H _ _ v u Q I rx ry ⟨_, _, rfl, rfl, szl hl, wk_self q (.str _)⟩
    · cases e
  · obtain ⟨a, vs, rfl, h1, h2⟩ := hx.list
    obtain ⟨b, ws, rfl, h3, h4⟩ := hy.list
    split at e
    · rename_i hl
      cases e
      exact op_cat pins s σ H _ _ v u Q I rx ry ⟨_, _, _, _, rfl, rfl, h1, h3, szl24 (by rw [h2.len, h4.len]; exact hl), wk_lst q al (h2.app h4)⟩
    · cases e
  · obtain ⟨a, vs, rfl, h1, h2⟩ := hx.tuple
    obtain ⟨b, ws, rfl, h3, h4⟩ := hy.tuple
    split at e
    · rename_i hl
      cases e
      refine op_catA pins s σ H _ _ v u Q I rx ry ⟨_, _, _, _, rfl, rfl, .inl (.inl (mi_lt h1)), .inl (.inl (mi_lt h3)), szl (by rw [h2.len, h4.len]; exact hl), fun e1 => ?_, fun e1 e2 => ?_, fun _ _ => wk_tup q al (h2.app h4)⟩
      · subst e1
        have := (nilDr h2).mp rfl
        subst this
        exact wk_self q (.tup h3 h4)
      · subst e2
        have := (nilDr h4).mp rfl
        subst this
        rw [List.append_nil] at q
        exact wk_self q (.tup h1 h2)
    · cases e
  · cases e
theorem opr_sub : OpR X (binaryOp .Sub) (rG2 X.K opSub) := by
  intro pins s σ H x y v u Q I rx ry ⟨O, dx, dy, d, al, hx, hy, e, q⟩
  unfold opSub at e
  split at e
  · cases hx.int; cases hy.int; cases e
    exact op_sub pins s σ H _ _ v u Q I rx ry ⟨_, _, rfl, rfl, wk_self q (.int _)⟩
  · cases e

/-! tuple * 1 -/
theorem tuple_mul1 (l : Addr) (items : Array Value) (n : Nat) (dd : Option Addr) (sl : Array (Option Value)) (u : Tok) :
    Meets (Builtin.«tuple.__mul__» ⟨[.ref l, .int 1 u], []⟩) (fun _ R s => s.heap.get? l = some { cls := .type "tuple", dict := dd, data := .seq items n, slots := sl } ∧
      R (.ok (.ret (Value.ref l))) s) :=
  .of_wp fun prog w A R s h => by
    obtain ⟨hp, g, d, tk, os⟩ := s
    obtain ⟨hl, h⟩ := h
    have f1 := AutoSeq1.idx_int
    have c1 : (items.isEmpty || (1 : Int) == 1) = true := by simp
    wp_walk using wpAny_loadPart' hl
    repeat (first
      | (refine wpAny_ite_false (decide_eq_false (by decide)) ?_; wp_walk using wpAny_loadPart' hl)
      | (refine wpAny_ite_true (decide_eq_true (by rw [c1])) ?_; wp_walk using wpAny_loadPart' hl))
    exact ⟨_, rfl, h⟩

theorem op_rep1 : OpR X (binaryOp .Mult) (fun x y H Q => ∃ l xs, x = .ref l ∧ y = .int 1 ∧ SqT X.K H l xs ∧ Q (.ref l) H) := by
  intro pins s σ H x y v u Q I rx ry h
  obtain ⟨l, xs, rfl, rfl, hT, q⟩ := h
  cases rx
  obtain ⟨t, rfl⟩ := ry
  obtain ⟨its, r, ⟨⟨cls, dd, data, sl⟩, ho, hc, n, hd⟩, hs⟩ := I.tuple hT
  simp only at hc hd
  subst hc hd
  exact wpAny_binaryOp_repeat_ref (T := "tuple") (U := "int") (by decide) ⟨_, ho, rfl⟩ (fun s' => typeIs_int s' 1 t) noFill_tuple_mul F.fills_int_mul F.slot_int_rmul repeat_tuple F.slot_int_index.lookup
    (call_meets F.slot_int_rmul (typeIs_int s 1 t) F.entry_int_rmul (F.args_int_rmul_2 _ _) (int_rmul_tuple 1 t l its.toArray n dd sl)
      ⟨ho, rfl, ⟨_, ho, rfl⟩, call_meets F.slot_tuple_mul ⟨_, ho, rfl⟩ F.entry_tuple_mul (F.args_tuple_mul_2 _ _) (tuple_mul1 l its.toArray n dd sl t) ⟨ho, ⟨.ref l, H, I, rfl, q⟩⟩⟩)
theorem opr_mul : OpR X (binaryOp .Mult) (rG2 X.K opMul) := by
  intro pins s σ H x y v u Q I rx ry ⟨O, dx, dy, d, al, hx, hy, e, q⟩
  unfold opMul at e
  split at e
  · cases hx.int; cases hy.int
    split at e
    · rename_i i j hm
      cases e
      unfold mulOk at hm
      by_cases h1 : i.natAbs < 2 ^ 64
      · exact op_mul pins s σ H _ _ v u Q I rx ry ⟨_, _, rfl, rfl, .inl ⟨by omega, by omega⟩, wk_self q (.int _)⟩
      · by_cases h2 : j.natAbs < 2 ^ 64
        · exact op_mul pins s σ H _ _ v u Q I rx ry ⟨_, _, rfl, rfl, .inr ⟨by omega, by omega⟩, wk_self q (.int _)⟩
        · rw [decide_eq_false h1, decide_eq_false h2, Bool.false_or, Bool.false_or, Bool.and_eq_true] at hm
          have h3 := log2_lt (by decide) (of_decide_eq_true hm.1)
          have h4 := log2_lt (by decide) (of_decide_eq_true hm.2)
          exact op_mulW pins s σ H _ _ v u Q I rx ry ⟨_, _, rfl, rfl, (by show _ + _ < 1000000; omega), wk_self q (.int _)⟩
    · cases e
  · obtain ⟨a, vs, rfl, h1, h2⟩ := hx.list
    cases hy.int
    split at e
    · rename_i ds k hl
      cases e
      refine op_rep pins s σ H _ _ v u Q I rx ry ⟨_, _, _, rfl, rfl, h1, by omega, by omega, ?_, wk_lst q al (h2.rep _)⟩
      rw [h2.len]
      exact szl24 (Nat.le_trans (Nat.mul_le_mul hl.2.2 (show k.toNat ≤ 1000 by omega)) (by decide))
    · cases e
  · obtain ⟨a, vs, rfl, h1, h2⟩ := hx.tuple
    cases hy.int
    split at e
    · rename_i ds k hl
      cases e
      obtain ⟨hn, hl1, hl2, hl3⟩ := hl
      by_cases hk : k = 1
      · subst hk
        refine op_rep1 pins s σ H _ _ v u Q I rx ry ⟨_, _, rfl, rfl, .inl (.inl (mi_lt h1)), ?_⟩
        rw [show (List.replicate (1 : Int).toNat ds).flatten = ds by simp] at q
        exact wk_self q (.tup h1 h2)
      · refine op_repT pins s σ H _ _ v u Q I rx ry ⟨_, _, _, rfl, rfl, .inl (.inl (mi_lt h1)), fun z => hn ((nilDr h2).mp z), by omega, hl2, by rw [h2.len]; exact hl3, wk_tup q al (h2.rep _)⟩
    · cases e
  · cases e
theorem opr_div : OpR X (binaryOp .FloorDiv) (rG2 X.K opDiv) := by
  intro pins s σ H x y v u Q I rx ry ⟨O, dx, dy, d, al, hx, hy, e, q⟩
  unfold opDiv at e
  split at e
  · cases hx.int; cases hy.int
    split at e
    · rename_i hm
      cases e
      exact op_fdivW pins s σ H _ _ v u Q I rx ry ⟨_, _, rfl, rfl, ⟨hm.1, Nat.lt_trans (log2_lt (by decide) hm.2) (by decide)⟩, wk_self q (.int _)⟩
    · cases e
  · cases e
theorem opr_mod : OpR X (binaryOp .Mod) (rG2 X.K opMod) := by
  intro pins s σ H x y v u Q I rx ry ⟨O, dx, dy, d, al, hx, hy, e, q⟩
  unfold opMod at e
  split at e
  · cases hx.int; cases hy.int
    split at e
    · rename_i hm
      cases e
      exact op_mod pins s σ H _ _ v u Q I rx ry ⟨_, _, rfl, rfl, hm, wk_self q (.int _)⟩
    · cases e
  · cases e
theorem opr_and : OpR X (binaryOp .BitAnd) (rG2 X.K opAnd) := by
  intro pins s σ H x y v u Q I rx ry ⟨O, dx, dy, d, al, hx, hy, e, q⟩
  unfold opAnd at e
  split at e
  · cases hx.int; cases hy.int; cases e
    exact op_and pins s σ H _ _ v u Q I rx ry ⟨_, _, rfl, rfl, wk_self q (.int _)⟩
  · cases e
theorem opr_pow : OpR X (binaryOp .Pow) (rG2 X.K opPow) := by
  intro pins s σ H x y v u Q I rx ry ⟨O, dx, dy, d, al, hx, hy, e, q⟩
  unfold opPow at e
  split at e
  · cases hx.int; cases hy.int
    split at e
    · rename_i hm
      cases e
      exact op_pow pins s σ H _ _ v u Q I rx ry ⟨_, _, rfl, rfl, ⟨hm.1, by omega, hm.2.2⟩, wk_self q (.int _)⟩
    · cases e
  · cases e
theorem opr_no {op : Operator} {g : D → D → Option D} (h : ∀ x y, g x y = none) : OpR X (binaryOp op) (rG2 X.K g) := by
  intro pins s σ H x y v u Q I rx ry ⟨O, dx, dy, d, al, hx, hy, e, q⟩
  rw [h] at e
  cases e
theorem opr_B (op : Operator) : OpR X (binaryOp op) (rG2 X.K (opB op)) := by
  cases op
  case Add => exact opr_add
  case Sub => exact opr_sub
  case Mult => exact opr_mul
  case FloorDiv => exact opr_div
  case Mod => exact opr_mod
  case BitAnd => exact opr_and
  case Pow => exact opr_pow
  all_goals exact opr_no fun _ _ => rfl

/-! ### comparisons -/
def rGc (K : PySem.W.Frag) (g : D → D → Option Bool) : R2 := fun x y H Q => ∃ O dx dy b, Al K O H ∧ Tp K O H x dx ∧ Tp K O H y dy ∧ g dx dy = some b ∧ Q (.bl b) H
theorem dec_beq {α : Type} [DecidableEq α] [BEq α] [LawfulBEq α] (a b : α) : decide (a = b) = (a == b) := by
  by_cases h : a = b <;> simp [h]
theorem eqv_scal {K : PySem.W.Frag} {O : List Addr} {H : Hp} {x y : V} {dx dy : D} (hx : Tp K O H x dx) (hy : Tp K O H y dy) (h : scalP dx dy = true) : scal x y = true ∧ decide (x = y) = PyData.eqv dx dy := by
  cases dx <;> cases dy <;> first
    | (exfalso; revert h; simp [scalP]; done)
    | (first | cases hx.non | cases hx.bool | cases hx.int | cases hx.str
       first | cases hy.non | cases hy.bool | cases hy.int | cases hy.str
       refine ⟨rfl, ?_⟩
       (try simp [PyData.eqv])
       first | done | exact dec_beq _ _)
theorem shp_nd {d : D} (h : SeqAt.shaped d = true) : ndict d = true := by
  cases d <;> first | rfl | (have := SeqAt.canLay_of_shaped h; simp [PyData.canLay0] at this)
theorem opr_eq (hu : X.A.units + 64 < cLine) : OpR X (compareOp .Eq) (rGc X.K opEq) := by
  intro pins s σ H x y v u Q I rx ry ⟨O, dx, dy, b, al, hx, hy, e, q⟩
  unfold opEq at e
  split at e
  · rename_i hs
    cases e
    obtain ⟨h1, h2⟩ := eqv_scal hx hy hs
    exact op_eq pins s σ H _ _ v u Q I rx ry ⟨h1, by rw [h2]; exact q⟩
  · split at e
    · rename_i hs
      cases e
      rw [Bool.and_eq_true] at hs
      exact op_eqD hu pins s σ H _ _ v u Q I rx ry ⟨dx, dy, Dr.dp dx hs.1 (hx.full (shp_nd hs.1)), Dr.dp dy hs.2 (hy.full (shp_nd hs.2)), hs.1, hs.2, q⟩
    · cases e
theorem opr_ne (hu : X.A.units + 64 < cLine) : OpR X (compareOp .NotEq) (rGc X.K fun x y => (opEq x y).map (! ·)) := by
  intro pins s σ H x y v u Q I rx ry ⟨O, dx, dy, b, al, hx, hy, e, q⟩
  simp only [opEq] at e
  split at e
  · rename_i hs
    cases e
    obtain ⟨h1, h2⟩ := eqv_scal hx hy hs
    exact op_ne pins s σ H _ _ v u Q I rx ry ⟨h1, by rw [h2]; exact q⟩
  · split at e
    · rename_i hs
      cases e
      rw [Bool.and_eq_true] at hs
      exact op_neD hu pins s σ H _ _ v u Q I rx ry ⟨dx, dy, Dr.dp dx hs.1 (hx.full (shp_nd hs.1)), Dr.dp dy hs.2 (hy.full (shp_nd hs.2)), hs.1, hs.2, q⟩
    · cases e
theorem opr_int {op : CmpOp} {f : Int → Int → Bool} (ho : OpR X (compareOp op) (rI0 fun i j => V.bl (f i j))) : OpR X (compareOp op) (rGc X.K (opI f)) := by
  intro pins s σ H x y v u Q I rx ry ⟨O, dx, dy, b, al, hx, hy, e, q⟩
  unfold opI at e
  split at e
  · cases hx.int; cases hy.int; cases e
    exact ho pins s σ H _ _ v u Q I rx ry ⟨_, _, rfl, rfl, q⟩
  · cases e
theorem opIs_non (dx : D) : opIs dx .none = some (isNoneD dx) := by cases dx <;> rfl
theorem is_non {K : PySem.W.Frag} {O : List Addr} {H : Hp} {x : V} {dx : D} (hx : Tp K O H x dx) : decide (x = V.non) = isNoneD dx := by
  cases dx with
  | none => cases hx.non; rfl
  | bool b => cases hx.bool; rfl
  | int i => cases hx.int; rfl
  | str z => cases hx.str; rfl
  | list ds => obtain ⟨a, vs, rfl, _⟩ := hx.list; rfl
  | tuple ds => obtain ⟨a, vs, rfl, _⟩ := hx.tuple; rfl
  | dict kvs => obtain ⟨a, rfl⟩ := hx.ref; rfl
theorem opr_is : OpR X (compareOp .Is) (rGc X.K opIs) := by
  intro pins s σ H x y v u Q I rx ry ⟨O, dx, dy, b, al, hx, hy, e, q⟩
  cases dy with
  | none =>
    rw [opIs_non] at e
    cases e
    cases hy.non
    refine op_isN pins s σ H _ _ v u Q I rx ry ⟨rfl, ?_⟩
    rw [is_non hx]
    exact q
  | bool c =>
    cases dx <;> first | (simp [opIs] at e; done) | skip
    rename_i a
    have e' : some (decide (a = c)) = some b := e
    cases e'
    cases hx.bool
    cases hy.bool
    exact op_isBl pins s σ H _ _ v u Q I rx ry ⟨_, _, rfl, rfl, q⟩
  | _ => cases dx <;> simp [opIs] at e
theorem opr_isnot : OpR X (compareOp .IsNot) (rGc X.K fun x y => (opIs x y).map (! ·)) := by
  intro pins s σ H x y v u Q I rx ry ⟨O, dx, dy, b, al, hx, hy, e, q⟩
  cases dy with
  | none =>
    dsimp only at e
    rw [opIs_non] at e
    cases e
    cases hy.non
    refine op_notN pins s σ H _ _ v u Q I rx ry ⟨rfl, ?_⟩
    rw [is_non hx]
    exact q
  | bool c =>
    cases dx <;> first | (simp [opIs] at e; done) | skip
    rename_i a
    have e' : some (!decide (a = c)) = some b := e
    cases e'
    cases hx.bool
    cases hy.bool
    exact op_notBl pins s σ H _ _ v u Q I rx ry ⟨_, _, rfl, rfl, q⟩
  | _ => cases dx <;> simp [opIs] at e
theorem flat_of {K : PySem.W.Frag} {H : Hp} {x : V} {dx : D} (hx : Dr K H x dx) (h : flatD dx = true) : flatV x = true := by
  cases hx <;> first | rfl | (simp [flatD] at h)
theorem flatA {K : PySem.W.Frag} {H : Hp} : ∀ {ds : List D} {vs : List V}, DrA K H vs ds → ds.all flatD = true → vs.all flatV = true
  | [], _, h, _ => by cases h; rfl
  | d :: ds, _, h, hf => by
    cases h with
    | cons h1 h2 =>
      rw [List.all_cons, Bool.and_eq_true] at hf ⊢
      exact ⟨flat_of h1 hf.1, flatA h2 hf.2⟩
theorem eqv_flat {K K' : PySem.W.Frag} {H H' : Hp} {x y : V} {dx dy : D} (hx : Dr K H x dx) (hy : Dr K' H' y dy) (fx : flatD dx = true) (fy : flatD dy = true) : eqV x y = PyData.eqv dx dy := by
  cases hx <;> first | (simp [flatD] at fx; done) | skip
  all_goals (cases hy <;> first | (simp [flatD] at fy; done) | skip)
  all_goals simp [eqV, PyData.eqv]
theorem in_any {K K' : PySem.W.Frag} {H H' : Hp} {x : V} {dx : D} (hx : Dr K' H' x dx) (fx : flatD dx = true) : ∀ {ds : List D} {vs : List V}, DrA K H vs ds → ds.all flatD = true → inV x vs = ds.any fun y => PyData.eqv y dx
  | [], _, h, _ => by cases h; rfl
  | d :: ds, _, h, hf => by
    cases h with
    | cons h1 h2 =>
      rw [List.all_cons, Bool.and_eq_true] at hf
      unfold inV
      rw [List.any_cons, List.any_cons, eqv_flat h1 hx hf.1 fx]
      have := in_any hx fx h2 hf.2
      unfold inV at this
      rw [this]
theorem str1 {x : Str} {c : Nat} (h : x.cps.toList = [c]) : x = ⟨#[c]⟩ := by
  cases x with
  | mk cps =>
    congr
    exact Array.toList_inj.mp h
theorem flat_nd {d : D} (h : flatD d = true) : ndict d = true := by cases d <;> first | rfl | (simp [flatD] at h)
theorem opr_in : OpR X (compareOp .In) (rGc X.K opIn) := by
  intro pins s σ H x y v u Q I rx ry ⟨O, dx, dy, b, al, hx, hy, e, q⟩
  have fx := hx.full
  unfold opIn at e
  split at e
  · obtain ⟨a, vs, rfl, h1, h2⟩ := hy.list
    split at e
    · rename_i hf
      cases e
      rw [Bool.and_eq_true] at hf
      have fx := fx (flat_nd hf.1)
      refine op_in_seq pins s σ H _ _ v u Q I rx ry ⟨_, _, rfl, .inl (.inl (.inl h1)), flat_of fx hf.1, flatA h2 hf.2, ?_⟩
      rw [in_any fx hf.1 h2 hf.2]
      exact q
    · cases e
  · obtain ⟨a, vs, rfl, h1, h2⟩ := hy.tuple
    split at e
    · rename_i hf
      cases e
      rw [Bool.and_eq_true] at hf
      have fx := fx (flat_nd hf.1)
      refine op_in_seq pins s σ H _ _ v u Q I rx ry ⟨_, _, rfl, .inr (.inl (.inl (mi_lt h1))), flat_of fx hf.1, flatA h2 hf.2, ?_⟩
      rw [in_any fx hf.1 h2 hf.2]
      exact q
    · cases e
  · cases hx.str
    cases hy.str
    split at e
    · rename_i c hc
      cases e
      have := str1 hc
      subst this
      exact op_in_sign pins s σ H _ _ v u Q I rx ry ⟨_, _, rfl, rfl, q⟩
    · cases e
  · cases e
theorem opr_notin : OpR X (compareOp .NotIn) (rGc X.K fun x y => (opIn x y).map (! ·)) := by
  intro pins s σ H x y v u Q I rx ry ⟨O, dx, dy, b, al, hx, hy, e, q⟩
  have fx := hx.full
  simp only [opIn] at e
  split at e
  · obtain ⟨a, vs, rfl, h1, h2⟩ := hy.list
    split at e
    · rename_i hf
      cases e
      rw [Bool.and_eq_true] at hf
      have fx := fx (flat_nd hf.1)
      refine op_notIn_seq pins s σ H _ _ v u Q I rx ry ⟨_, _, rfl, .inl (.inl (.inl h1)), flat_of fx hf.1, flatA h2 hf.2, ?_⟩
      rw [in_any fx hf.1 h2 hf.2]
      exact q
    · cases e
  · obtain ⟨a, vs, rfl, h1, h2⟩ := hy.tuple
    split at e
    · rename_i hf
      cases e
      rw [Bool.and_eq_true] at hf
      have fx := fx (flat_nd hf.1)
      refine op_notIn_seq pins s σ H _ _ v u Q I rx ry ⟨_, _, rfl, .inr (.inl (.inl (mi_lt h1))), flat_of fx hf.1, flatA h2 hf.2, ?_⟩
      rw [in_any fx hf.1 h2 hf.2]
      exact q
    · cases e
  · cases hx.str
    cases hy.str
    split at e
    · rename_i c hc
      cases e
      have := str1 hc
      subst this
      exact op_notIn_sign pins s σ H _ _ v u Q I rx ry ⟨_, _, rfl, rfl, q⟩
    · cases e
  · cases e
theorem opr_C (hu : X.A.units + 64 < cLine) (op : CmpOp) : OpR X (compareOp op) (rGc X.K (opC op)) := by
  cases op
  case Eq => exact opr_eq hu
  case NotEq => exact opr_ne hu
  case Lt => exact opr_int op_lt
  case LtE => exact opr_int op_le
  case Gt => exact opr_int op_gt
  case GtE => exact opr_int op_ge
  case Is => exact opr_is
  case IsNot => exact opr_isnot
  case In => exact opr_in
  case NotIn => exact opr_notin
end
end J

/-! Calls of built-ins, subscripts, slices, by data. -/
namespace J
open PySem PySem.Spec PyProof.Rows L2
def TpA (K : PySem.W.Frag) (O : List Addr) (H : Hp) : List V → List D → Prop
  | [], [] => True
  | v :: vs, d :: ds => Tp K O H v d ∧ TpA K O H vs ds
  | _, _ => False
theorem TpA.mono {K : PySem.W.Frag} {O : List Addr} {H H' : Hp} (e : Same H H') : ∀ {vs : List V} {ds : List D}, TpA K O H vs ds → TpA K O H' vs ds
  | [], [], _ => trivial
  | _ :: _, _ :: _, ⟨h1, h2⟩ => ⟨h1.mono e, TpA.mono e h2⟩
  | [], _ :: _, h => h.elim
  | _ :: _, [], h => h.elim
theorem TpA.one {K : PySem.W.Frag} {O : List Addr} {H : Hp} {vs : List V} {d : D} (h : TpA K O H vs [d]) : ∃ v, vs = [v] ∧ Tp K O H v d := by
  match vs, h with
  | [v], h => exact ⟨v, rfl, h.1⟩
theorem TpA.two {K : PySem.W.Frag} {O : List Addr} {H : Hp} {vs : List V} {d d' : D} (h : TpA K O H vs [d, d']) : ∃ v v', vs = [v, v'] ∧ Tp K O H v d ∧ Tp K O H v' d' := by
  match vs, h with
  | [v, v'], h => exact ⟨v, v', rfl, h.1, h.2.1⟩
def rGA (K : PySem.W.Frag) (g : List D → Option D) : List V → Hp → VK → Prop := fun vs H Q => ∃ O ds d, Al K O H ∧ TpA K O H vs ds ∧ g ds = some d ∧ Wk K O H d Q
theorem ints_eq : ∀ {ds : List D} {ns : List Int}, ints? ds = some ns → ds = ns.map .int
  | [], ns, h => by cases h; rfl
  | .int i :: r, ns, h => by
    simp only [ints?] at h
    cases q : ints? r with
    | none => rw [q] at h; cases h
    | some m => rw [q] at h; cases h; rw [ints_eq q]; rfl
  | .none :: r, ns, h => by simp [ints?] at h
  | .bool _ :: r, ns, h => by simp [ints?] at h
  | .str _ :: r, ns, h => by simp [ints?] at h
  | .list _ :: r, ns, h => by simp [ints?] at h
  | .tuple _ :: r, ns, h => by simp [ints?] at h
  | .dict _ :: r, ns, h => by simp [ints?] at h
theorem ints_map : ∀ ns : List Int, ints? (ns.map PyData.int) = some ns
  | [] => rfl
  | n :: ns => by rw [List.map_cons]; simp only [ints?, ints_map ns]; rfl
theorem bls_eq : ∀ {ds : List D} {ns : List Bool}, bls? ds = some ns → ds = ns.map .bool
  | [], ns, h => by cases h; rfl
  | .bool i :: r, ns, h => by
    simp only [bls?] at h
    cases q : bls? r with
    | none => rw [q] at h; cases h
    | some m => rw [q] at h; cases h; rw [bls_eq q]; rfl
  | .none :: r, ns, h => by simp [bls?] at h
  | .int _ :: r, ns, h => by simp [bls?] at h
  | .str _ :: r, ns, h => by simp [bls?] at h
  | .list _ :: r, ns, h => by simp [bls?] at h
  | .tuple _ :: r, ns, h => by simp [bls?] at h
  | .dict _ :: r, ns, h => by simp [bls?] at h
theorem bls_map : ∀ ns : List Bool, bls? (ns.map PyData.bool) = some ns
  | [] => rfl
  | n :: ns => by rw [List.map_cons]; simp only [bls?, bls_map ns]; rfl
theorem strs_eq : ∀ {ds : List D} {ns : List Str}, strs? ds = some ns → ds = ns.map .str
  | [], ns, h => by cases h; rfl
  | .str i :: r, ns, h => by
    simp only [strs?] at h
    cases q : strs? r with
    | none => rw [q] at h; cases h
    | some m => rw [q] at h; cases h; rw [strs_eq q]; rfl
  | .none :: r, ns, h => by simp [strs?] at h
  | .int _ :: r, ns, h => by simp [strs?] at h
  | .bool _ :: r, ns, h => by simp [strs?] at h
  | .list _ :: r, ns, h => by simp [strs?] at h
  | .tuple _ :: r, ns, h => by simp [strs?] at h
  | .dict _ :: r, ns, h => by simp [strs?] at h
theorem strs_map : ∀ ns : List Str, strs? (ns.map PyData.str) = some ns
  | [] => rfl
  | n :: ns => by rw [List.map_cons]; simp only [strs?, strs_map ns]; rfl
theorem leastI_le : ∀ (l : List Int) (m : Int), leastI m l ≤ m ∧ ∀ x ∈ l, leastI m l ≤ x
  | [], m => ⟨Int.le_refl _, fun _ h => by cases h⟩
  | y :: r, m => by
    obtain ⟨h1, h2⟩ := leastI_le r (if y < m then y else m)
    show leastI (if y < m then y else m) r ≤ m ∧ _
    have e : (if y < m then y else m) ≤ m ∧ (if y < m then y else m) ≤ y := by split <;> omega
    refine ⟨Int.le_trans h1 e.1, fun x hx => ?_⟩
    rcases List.mem_cons.mp hx with rfl | hx
    · exact Int.le_trans h1 e.2
    · exact h2 x hx
theorem leastI_mem : ∀ (l : List Int) (m : Int), leastI m l = m ∨ leastI m l ∈ l
  | [], m => .inl rfl
  | y :: r, m => by
    show leastI (if y < m then y else m) r = m ∨ leastI (if y < m then y else m) r ∈ y :: r
    rcases leastI_mem r (if y < m then y else m) with h | h
    · rw [h]
      split
      · exact .inr List.mem_cons_self
      · exact .inl rfl
    · exact .inr (List.mem_cons_of_mem _ h)
theorem mostI_le : ∀ (l : List Int) (m : Int), m ≤ mostI m l ∧ ∀ x ∈ l, x ≤ mostI m l
  | [], m => ⟨Int.le_refl _, fun _ h => by cases h⟩
  | y :: r, m => by
    obtain ⟨h1, h2⟩ := mostI_le r (if y > m then y else m)
    show m ≤ mostI (if y > m then y else m) r ∧ _
    have e : m ≤ (if y > m then y else m) ∧ y ≤ (if y > m then y else m) := by split <;> omega
    refine ⟨Int.le_trans e.1 h1, fun x hx => ?_⟩
    rcases List.mem_cons.mp hx with rfl | hx
    · exact Int.le_trans e.2 h1
    · exact h2 x hx
theorem mostI_mem : ∀ (l : List Int) (m : Int), mostI m l = m ∨ mostI m l ∈ l
  | [], m => .inl rfl
  | y :: r, m => by
    show mostI (if y > m then y else m) r = m ∨ mostI (if y > m then y else m) r ∈ y :: r
    rcases mostI_mem r (if y > m then y else m) with h | h
    · rw [h]
      split
      · exact .inr List.mem_cons_self
      · exact .inl rfl
    · exact .inr (List.mem_cons_of_mem _ h)
theorem least_one {n m : Int} {ns : List Int} (h1 : m ∈ n :: ns) (h2 : ∀ y, y ∈ n :: ns → m ≤ y) : m = leastI n ns := by
  have a := leastI_le ns n
  have b : leastI n ns ∈ n :: ns := by
    rcases leastI_mem ns n with h | h
    · rw [h]; exact List.mem_cons_self
    · exact List.mem_cons_of_mem _ h
  have c : leastI n ns ≤ m := by
    rcases List.mem_cons.mp h1 with h | h
    · rw [h]; exact a.1
    · exact a.2 m h
  have := h2 _ b
  omega
theorem most_one {n m : Int} {ns : List Int} (h1 : m ∈ n :: ns) (h2 : ∀ y, y ∈ n :: ns → y ≤ m) : m = mostI n ns := by
  have a := mostI_le ns n
  have b : mostI n ns ∈ n :: ns := by
    rcases mostI_mem ns n with h | h
    · rw [h]; exact List.mem_cons_self
    · exact List.mem_cons_of_mem _ h
  have c : m ≤ mostI n ns := by
    rcases List.mem_cons.mp h1 with h | h
    · rw [h]; exact a.1
    · exact a.2 m h
  have := h2 _ b
  omega
/-! sorting -/
theorem insI_perm (x : Int) : ∀ l : List Int, (insI x l).Perm (x :: l)
  | [] => .refl _
  | y :: r => by
    unfold insI
    split
    · exact .refl _
    · exact (List.Perm.cons y (insI_perm x r)).trans (List.Perm.swap x y r)
theorem sortI_perm : ∀ l : List Int, (sortI l).Perm l
  | [] => .refl _
  | x :: r => (insI_perm x (sortI r)).trans (List.Perm.cons x (sortI_perm r))
theorem insI_sorted (x : Int) : ∀ l : List Int, l.Pairwise (· ≤ ·) → (insI x l).Pairwise (· ≤ ·)
  | [], _ => List.pairwise_singleton _ _
  | y :: r, h => by
    rw [List.pairwise_cons] at h
    unfold insI
    split
    · rename_i hxy
      refine List.pairwise_cons.mpr ⟨fun z hz => ?_, List.pairwise_cons.mpr h⟩
      rcases List.mem_cons.mp hz with rfl | hz
      · exact hxy
      · exact Int.le_trans hxy (h.1 z hz)
    · rename_i hxy
      refine List.pairwise_cons.mpr ⟨fun z hz => ?_, insI_sorted x r h.2⟩
      rcases List.mem_cons.mp ((insI_perm x r).mem_iff.mp hz) with rfl | hz
      · omega
      · exact h.1 z hz
theorem sortI_sorted : ∀ l : List Int, (sortI l).Pairwise (· ≤ ·)
  | [] => .nil
  | x :: r => insI_sorted x _ (sortI_sorted r)
theorem sorted_uniq : ∀ (l l' : List Int), l.Perm l' → l.Pairwise (· ≤ ·) → l'.Pairwise (· ≤ ·) → l = l'
  | [], l', p, _, _ => (List.nil_perm.mp p).symm
  | x :: r, [], p, _, _ => by have := p.length_eq; simp at this
  | x :: r, y :: r', p, h, h' => by
    rw [List.pairwise_cons] at h h'
    have e : x = y := by
      have m1 : x ∈ y :: r' := p.mem_iff.mp List.mem_cons_self
      have m2 : y ∈ x :: r := p.mem_iff.mpr List.mem_cons_self
      rcases List.mem_cons.mp m1 with e | m1
      · exact e
      · rcases List.mem_cons.mp m2 with e | m2
        · exact e.symm
        · have := h'.1 x m1
          have := h.1 y m2
          omega
    subst e
    rw [sorted_uniq r r' (List.Perm.cons_inv p) h.2 h'.2]
theorem undupI_mem : ∀ (l : List Int) (x : Int), x ∈ undupI l ↔ x ∈ l
  | [], x => Iff.rfl
  | y :: r, x => by
    unfold undupI
    split
    · rename_i h
      rw [undupI_mem r x, List.mem_cons]
      constructor
      · exact .inr
      · rintro (rfl | h')
        · exact h
        · exact h'
    · rw [List.mem_cons, List.mem_cons, undupI_mem r x]
theorem undupI_nodup : ∀ l : List Int, (undupI l).Nodup
  | [] => List.nodup_nil
  | y :: r => by
    unfold undupI
    split
    · exact undupI_nodup r
    · rename_i h
      exact List.nodup_cons.mpr ⟨fun z => h ((undupI_mem r y).mp z), undupI_nodup r⟩
section
variable {X : Cx}
theorem cr_len : CallR X (.builtin "len") (rGA X.K biLen) := by
  intro pins s σ H xs us Q I r ⟨O, ds, d, al, h0, e, q⟩
  unfold biLen at e
  split at e
  · cases e
    obtain ⟨v, rfl, h⟩ := h0.one
    obtain ⟨a, vs, rfl, h1, h2⟩ := h.list
    refine call_len pins s σ H _ us Q I r ⟨_, vs.length, rfl, .inl ⟨vs, .inl (.inl h1), rfl⟩, ?_⟩
    rw [h2.len]
    exact wk_self q (.int _)
  · cases e
    obtain ⟨v, rfl, h⟩ := h0.one
    obtain ⟨a, vs, rfl, h1, h2⟩ := h.tuple
    refine call_len pins s σ H _ us Q I r ⟨_, vs.length, rfl, .inr ⟨vs, .inl (.inl (mi_lt h1)), rfl⟩, ?_⟩
    rw [h2.len]
    exact wk_self q (.int _)
  · split at e
    case isFalse => cases e
    rename_i ho
    cases e
    obtain ⟨v, rfl, h⟩ := h0.one
    obtain ⟨a, ns, rfl, rfl, h1⟩ := h.dict ho
    refine call_len pins s σ H _ us Q I r ⟨_, (ns.map V.int).length, rfl, .inl ⟨_, h1, rfl⟩, ?_⟩
    rw [List.length_map] at q ⊢
    exact wk_self q (.int _)
  · split at e
    · rename_i hl
      cases e
      obtain ⟨v, rfl, h⟩ := h0.one
      cases h.str
      exact call_len pins s σ H _ us Q I r ⟨_, _, rfl, ⟨szl hl, rfl⟩, wk_self q (.int _)⟩
    · cases e
  · cases e
theorem cr_min' (hc : X.calm = true) : CallR X (.builtin "min") (rGA X.K biMin) := by
  intro pins s σ H xs us Q I r ⟨O, ds, d, al, h0, e, q⟩
  unfold biMin at e
  split at e
  · cases e
    obtain ⟨v, v', rfl, h, h'⟩ := h0.two
    cases h.int; cases h'.int
    exact call_min2 hc pins s σ H _ us Q I r ⟨_, _, rfl, wk_self q (.int _)⟩
  · obtain ⟨v, rfl, h⟩ := h0.one
    split at e
    · rename_i n ns hi
      cases e
      have := ints_eq hi
      subst this
      obtain ⟨a, vs, rfl, h1, h2⟩ := h.list
      have := h2.ofInts
      subst this
      refine cr_min hc pins s σ H _ us Q I r ⟨_, _, rfl, .inl (.inl h1), by simp, fun m h3 h4 => ?_⟩
      rw [least_one h3 h4]
      exact wk_self q (.int _)
    · cases e
  · cases e
theorem cr_max' (hc : X.calm = true) : CallR X (.builtin "max") (rGA X.K biMax) := by
  intro pins s σ H xs us Q I r ⟨O, ds, d, al, h0, e, q⟩
  unfold biMax at e
  split at e
  · cases e
    obtain ⟨v, v', rfl, h, h'⟩ := h0.two
    cases h.int; cases h'.int
    exact call_max2 hc pins s σ H _ us Q I r ⟨_, _, rfl, wk_self q (.int _)⟩
  · obtain ⟨v, rfl, h⟩ := h0.one
    split at e
    · rename_i n ns hi
      cases e
      have := ints_eq hi
      subst this
      obtain ⟨a, vs, rfl, h1, h2⟩ := h.list
      have := h2.ofInts
      subst this
      refine cr_max hc pins s σ H _ us Q I r ⟨_, _, rfl, .inl (.inl h1), by simp, fun m h3 h4 => ?_⟩
      rw [most_one h3 h4]
      exact wk_self q (.int _)
    · cases e
  · cases e
theorem sumT_raw {prog : Program} {w : World} {A : Around} {E : Value → Shared → Prop} {s : Shared} {l : Addr} {its : List Value} {ns : List Int} {Q : Value → Shared → Prop} (hh : A.handled = none) (hl : s.heap.IsTuple l its.toArray) (hi : IntsAre its ns)
    (h : ∀ h' tk t', (∀ b o, s.heap.get? b = some o → h'.get? b = some o) → Q (.int ns.sum t') { s with heap := h', toks := tk }) : wpAny (model prog w) A (call (.builtin "sum") [.ref l]) Q E s := by
  obtain ⟨xs, e⟩ := hi.allInts.items
  have hn : numsOf (intItems xs).toList = ns := by rw [← e]; exact hi.numsOf
  rw [nums_intItems] at hn
  rw [e] at hl
  have hlt : l < s.heap.objs.size := by obtain ⟨_, e, _⟩ := hl; exact Heap.lt_size e
  refine call_sum_walkG (wpAny_pyIter_tuple hl ?_)
  refine ⟨_, _, _, _, _, _, numAt xs, rfl, Walks.tuple (A := A.in1) hh s.heap.objs.size l (Nat.ne_of_lt hlt) (intItems xs), ⟨⟨_, Heap.get?_push_size _ rfl, rfl, rfl⟩, hl.push _⟩, fun b hb => ?_, (fun _ _ => intItems_at), fun h' tk t' hk => ?_⟩
  · show b < (s.heap.push _).objs.size
    rw [Heap.size_push]
    simp only [List.mem_cons, List.not_mem_nil, or_false] at hb
    rcases hb with hb | hb
    · rw [hb]; exact Nat.lt_succ_self _
    · rw [hb]; exact Nat.lt_succ_of_lt hlt
  · have := h h' tk t' fun b o q => hk b o (fun z => by simp only [List.mem_cons, List.not_mem_nil, or_false] at z; exact Nat.ne_of_lt (Heap.lt_size q) z) (Heap.get?_push_of_some _ q)
    have hs : preSum (numAt xs) (intItems xs).size = ns.sum := by
      rw [show (intItems xs).size = xs.size by simp [intItems], preSum_eq, List.take_of_length_le (by simp), hn]
    rw [hs]
    exact this
theorem cr_sum' (hc : X.calm = true) : CallR X (.builtin "sum") (rGA X.K biSum) := by
  intro pins s σ H xs us Q I r ⟨O, ds, d, al, h0, e, q⟩
  unfold biSum at e
  split at e
  · obtain ⟨v, rfl, h⟩ := h0.one
    obtain ⟨ns, hi, e⟩ := Option.map_eq_some_iff.mp e
    cases e
    have := ints_eq hi
    subst this
    obtain ⟨a, vs, rfl, h1, h2⟩ := h.list
    have := h2.ofInts
    subst this
    exact cr_sum hc pins s σ H _ us Q I r ⟨_, _, rfl, .inl (.inl h1), wk_self q (.int _)⟩
  · obtain ⟨v, rfl, h⟩ := h0.one
    obtain ⟨ns, hi, e⟩ := Option.map_eq_some_iff.mp e
    cases e
    have := ints_eq hi
    subst this
    obtain ⟨a, vs, rfl, h1, h2⟩ := h.tuple
    have := h2.ofInts
    subst this
    obtain ⟨its, rv, ht, _⟩ := I.tuple (show SqT X.K H a _ from .inl (.inl (mi_lt h1)))
    rw [Vals.ref1 r]
    exact sumT_raw (I.ok.hd hc) ht rv.ints fun h' tk t' hk => ⟨.int _, H, I.kept hk, ⟨_, rfl⟩, wk_self q (.int _)⟩
  · cases e
theorem cr_all' (hc : X.calm = true) : CallR X (.builtin "all") (rGA X.K biAll) := by
  intro pins s σ H xs us Q I r ⟨O, ds, d, al, h0, e, q⟩
  unfold biAll at e
  split at e
  · obtain ⟨v, rfl, h⟩ := h0.one
    obtain ⟨ns, hi, e⟩ := Option.map_eq_some_iff.mp e
    cases e
    have := bls_eq hi
    subst this
    obtain ⟨a, vs, rfl, h1, h2⟩ := h.list
    have := h2.ofBls
    subst this
    exact cr_all hc pins s σ H _ us Q I r ⟨_, _, rfl, .inl (.inl h1), wk_self q (.bl _)⟩
  · cases e
theorem cr_any' (hc : X.calm = true) : CallR X (.builtin "any") (rGA X.K biAny) := by
  intro pins s σ H xs us Q I r ⟨O, ds, d, al, h0, e, q⟩
  unfold biAny at e
  split at e
  · obtain ⟨v, rfl, h⟩ := h0.one
    obtain ⟨ns, hi, e⟩ := Option.map_eq_some_iff.mp e
    cases e
    have := bls_eq hi
    subst this
    obtain ⟨a, vs, rfl, h1, h2⟩ := h.list
    have := h2.ofBls
    subst this
    exact cr_any hc pins s σ H _ us Q I r ⟨_, _, rfl, .inl (.inl h1), wk_self q (.bl _)⟩
  · cases e
theorem cr_abs' : CallR X (.builtin "abs") (rGA X.K biAbs) := by
  intro pins s σ H xs us Q I r ⟨O, ds, d, al, h0, e, q⟩
  unfold biAbs at e
  split at e
  · cases e
    obtain ⟨v, rfl, h⟩ := h0.one
    cases h.int
    exact call_abs pins s σ H _ us Q I r ⟨_, rfl, wk_self q (.int _)⟩
  · cases e
theorem cr_int' : CallR X (.type "int") (rGA X.K biInt) := by
  intro pins s σ H xs us Q I r ⟨O, ds, d, al, h0, e, q⟩
  unfold biInt at e
  split at e
  · cases e
    obtain ⟨v, rfl, h⟩ := h0.one
    cases h.int
    exact call_int1 pins s σ H _ us Q I r (.inl ⟨_, rfl, wk_self q (.int _)⟩)
  · cases e
    obtain ⟨v, rfl, h⟩ := h0.one
    cases h.bool
    exact call_int1 pins s σ H _ us Q I r (.inr ⟨_, rfl, wk_self q (.int _)⟩)
  · obtain ⟨v, rfl, h⟩ := h0.one
    cases h.str
    split at e
    · rename_i hl
      obtain ⟨n, hn, e⟩ := Option.map_eq_some_iff.mp e
      cases e
      exact call_int_str pins s σ H _ us Q I r ⟨_, _, rfl, hn, hl, wk_self q (.int _)⟩
    · cases e
  · cases e
theorem cr_str' : CallR X (.type "str") (rGA X.K biStr) := by
  intro pins s σ H xs us Q I r ⟨O, ds, d, al, h0, e, q⟩
  unfold biStr at e
  split at e
  · split at e
    · rename_i hl
      cases e
      obtain ⟨v, rfl, h⟩ := h0.one
      cases h.int
      exact call_str_int pins s σ H _ us Q I r ⟨_, rfl, Nat.lt_trans (log2_lt (by decide) hl) (by decide), wk_self q (.str _)⟩
    · cases e
  · cases e
theorem cr_tuple' : CallR X (.type "tuple") (rGA X.K biTuple) := by
  intro pins s σ H xs us Q I r ⟨O, ds, d, al, h0, e, q⟩
  unfold biTuple at e
  split at e
  · cases e
    obtain ⟨v, rfl, h⟩ := h0.one
    obtain ⟨a, vs, rfl, h1, h2⟩ := h.list
    exact call_tuple_of pins s σ H _ us Q I r ⟨_, _, rfl, .inl ⟨.inl (.inl h1), wk_tup q al h2⟩⟩
  · cases e
    obtain ⟨v, rfl, h⟩ := h0.one
    obtain ⟨a, vs, rfl, h1, h2⟩ := h.tuple
    exact call_tuple_of pins s σ H _ us Q I r ⟨_, _, rfl, .inr ⟨.inl (.inl (mi_lt h1)), wk_self q (.tup h1 h2)⟩⟩
  · cases e
theorem cr_list' : CallR X (.type "list") (rGA X.K biList) := by
  intro pins s σ H xs us Q I r ⟨O, ds, d, al, h0, e, q⟩
  unfold biList at e
  split at e
  · cases e
    obtain ⟨v, rfl, h⟩ := h0.one
    obtain ⟨a, vs, rfl, h1, h2⟩ := h.list
    exact call_list_of pins s σ H _ us Q I r ⟨_, _, rfl, .inl (.inl (.inl h1)), wk_lst q al h2⟩
  · cases e
    obtain ⟨v, rfl, h⟩ := h0.one
    obtain ⟨a, vs, rfl, h1, h2⟩ := h.tuple
    exact call_list_of pins s σ H _ us Q I r ⟨_, _, rfl, .inr (.inl (.inl (mi_lt h1))), wk_lst q al h2⟩
  · cases e
theorem collect_tup {prog : Program} {w : World} {A : Around} {E : Value → Shared → Prop} {s : Shared} {l : Addr} {vs : List Value} {o : Obj} {n : Nat} {Q : List Value → Shared → Prop} (ho : s.heap.get? l = some o) (hc : o.cls = .type "tuple") (hd : o.data = .seq vs.toArray n)
    (h : Q vs { s with heap := (s.heap.push (seqObj "list" #[] 0)).update s.heap.objs.size (Obj.mapSeq (· ++ vs.toArray)) }) (hsz : vs.length ≤ sizeLine) :
    wpAny (model prog w) A (collect (.ref l)) Q E s := by
  unfold collect
  refine wpAny_bind (wpAny_runValue (codeAny_builtin entry_proto_collect' ?_))
  show wpAny _ _ (do again (.builtin "list.__iadd__" ⟨[← newList [], .ref l], []⟩)) _ _ s
  refine wpAny_bind (wpAny_newList (wpAny_pure ⟨Code.quiet_builtin _ (by decide +kernel), codeAny_builtin entry_list_iadd' ?_⟩))
  show wpAny _ _ (Builtin.List.listExtendWith (.ref s.heap.objs.size) (.ref l) (.ref s.heap.objs.size)) _ _ { s with heap := s.heap.push (seqObj "list" #[] 0) }
  unfold Builtin.List.listExtendWith
  have ho' : (s.heap.push (seqObj "list" #[] 0)).get? l = some o := Heap.get?_push_of_some _ ho
  refine wpAny_bind (wpAny_typeOf (T := "tuple") ⟨o, ho', hc⟩ ?_)
  have ht : (Value.type "tuple" == Value.type "tuple") = true := by rfl
  rw [if_pos (by rw [ht]; simp)]
  refine wpAny_bind (listItems_at ho' hd ?_)
  refine wpAny_bind (listItems_at (xs := #[]) (n := 0) (Heap.get?_push_size _ rfl) rfl ?_)
  rw [if_neg (by simp)]
  refine wpAny_bind (listUpdate_at (xs := #[]) (n := 0) (Heap.get?_push_size _ rfl) rfl ?_ (Nat.zero_le _) (by show (#[] ++ vs.toArray).size ≤ sizeLine + 1; simp only [Array.size_append, List.size_toArray, List.length_nil]; omega))
  refine wpAny_pure ?_
  show wpAny (model prog w) A (do
      let o ← load s.heap.objs.size
      match o.data with
      | .seq xs _ => pure xs.toList
      | _ => unsupported "internal:collect") Q E { s with heap := (s.heap.push (seqObj "list" #[] 0)).update s.heap.objs.size (Obj.mapSeq (· ++ vs.toArray)) }
  refine wpAny_bind (wpAny_load (get?_update_seq (Heap.get?_push_size _ rfl) _) ?_)
  show wpAny _ _ (pure ((#[] : Array Value) ++ vs.toArray).toList) Q E _
  rw [show ((#[] : Array Value) ++ vs.toArray).toList = vs by simp]
  exact wpAny_pure h
/-- sorted of a tuple of ints -/
theorem cr_sortedTI : CallR X (.builtin "sorted") (fun vs H Q => ∃ (a : Addr) (ns : List Int), vs = [V.ref a] ∧ H a = some (.tup (ns.map V.int)) ∧ ∀ (ns' : List Int) (p : Addr), ns'.Perm ns → ns'.Pairwise (· ≤ ·) → H p = none → Q (.ref p) (upd H p (.lst (ns'.map V.int)))) := by
  intro pins s σ H vs us Q I r h
  obtain ⟨a, ns, rfl, ha, q⟩ := h
  obtain ⟨hz, its, rv, o, ho, hc, n, hd⟩ := I.hok a _ ha
  rw [Vals.ref1 r]
  have hi := rv.ints
  have hz' : its.length ≤ sizeLine := by rw [← rv.length]; exact hz
  refine Calls.call_function_entry kind_sorted plain_sorted entry_sorted (args_sorted1 _) ?_
  unfold Builtin.«sorted»
  refine wpAny_bind (m := checkCount "sorted" 1 1 _) (wpAny_pure ?_)
  refine wpAny_bind (collect_tup (vs := its) ho hc hd ?_ hz')
  refine wpAny_bind (wpAny_newList ?_ hz')
  have hsz : ((s.heap.push (seqObj "list" #[] 0)).update s.heap.objs.size (Obj.mapSeq (· ++ its.toArray))).objs.size = s.heap.objs.size + 1 := by
    rw [Heap.size_update, size_push']
  have hoL : (((s.heap.push (seqObj "list" #[] 0)).update s.heap.objs.size (Obj.mapSeq (· ++ its.toArray))).push (seqObj "list" its.toArray 0)).get? (s.heap.objs.size + 1) = some (seqObj "list" its.toArray 0) := by
    rw [← hsz]; exact Heap.get?_push_size _ rfl
  show wpAny _ _ _ _ _ { s with heap := ((s.heap.push (seqObj "list" #[] 0)).update s.heap.objs.size (Obj.mapSeq (· ++ its.toArray))).push (seqObj "list" its.toArray 0) }
  rw [hsz]
  refine wpAny_bind (wpAny_holding (wpAny_call_entry slot_list_sort ⟨_, hoL, rfl⟩ entry_list_sort (SrtO.list_sort_ord SrtO.swo_int hoL hz' (fun h2 => SrtO.ints_sortable hi h2) fun out h1 h2 => ⟨_, rfl, ?_⟩) (args_list_sort _)))
  obtain ⟨k1, k2, k3⟩ := SrtO.ints_out hi h1 h2
  obtain ⟨ep, he'⟩ := PyProof.Rows.sortedAll_at s.heap its out.toArray
  have hlen : ((out.map SrtO.iv).map V.int).length ≤ sizeLine := by
    rw [List.length_map, k2.length_eq]
    rw [List.length_map] at hz
    exact hz
  exact wpAny_pure ⟨_, rfl, .ref _, upd H (s.heap.objs.size + 1) (.lst ((out.map SrtO.iv).map V.int)), I.laid (t' := s.toks) (fun _ _ => PyProof.Rows.sortedAll_old) (Nat.le_succ _) ⟨hlen, out, ep, vals_of_ints k1, he'⟩, rfl, q _ _ k2 k3 (I.hok.fresh (Nat.le_succ _))⟩
theorem cr_sorted' : CallR X (.builtin "sorted") (rGA X.K biSorted) := by
  intro pins s σ H xs us Q I r ⟨O, ds, d, al, h0, e, q⟩
  unfold biSorted at e
  split at e
  · obtain ⟨v, rfl, h⟩ := h0.one
    obtain ⟨ns, hi, e⟩ := Option.map_eq_some_iff.mp e
    cases e
    have := ints_eq hi
    subst this
    obtain ⟨a, vs, rfl, h1, h2⟩ := h.list
    have := h2.ofInts
    subst this
    refine cr_sortedI pins s σ H _ us Q I r ⟨_, _, rfl, .inl (.inl h1), fun ns' p hp hs np => ?_⟩
    have : ns' = sortI ns := sorted_uniq _ _ (hp.trans (sortI_perm ns).symm) hs (sortI_sorted ns)
    subst this
    exact wk_lst q al (DrA.ints _) p np
  · obtain ⟨v, rfl, h⟩ := h0.one
    obtain ⟨ns, hi, e⟩ := Option.map_eq_some_iff.mp e
    cases e
    have := ints_eq hi
    subst this
    obtain ⟨a, vs, rfl, h1, h2⟩ := h.tuple
    have := h2.ofInts
    subst this
    refine cr_sortedTI pins s σ H _ us Q I r ⟨_, _, rfl, mi_lt h1, fun ns' p hp hs np => ?_⟩
    have : ns' = sortI ns := sorted_uniq _ _ (hp.trans (sortI_perm ns).symm) hs (sortI_sorted ns)
    subst this
    exact wk_lst q al (DrA.ints _) p np
  · cases e

/-! ### subscripts, slices -/
theorem atI_map {α β : Type} (f : α → β) (xs : List α) (i : Int) : atI (xs.map f) i = (atI xs i).map f := by
  unfold atI
  rw [List.length_map]
  cases ixN xs.length i with
  | none => rfl
  | some j => simp
theorem DrA.at {K : PySem.W.Frag} {H : Hp} {vs : List V} {ds : List D} {i : Int} {d : D} (h : DrA K H vs ds) (e : atI ds i = some d) : ∃ v, atI vs i = some v ∧ Dr K H v d := by
  unfold atI at e ⊢
  rw [h.len]
  cases q : ixN ds.length i with
  | none => rw [q] at e; cases e
  | some j =>
    rw [q] at e
    obtain ⟨v, h1, h2⟩ := h.get (i := j) e
    exact ⟨v, h1, h2⟩
theorem ixr : IxR X (rG2 X.K opIx) := by
  intro value slice pins s σ H x y v u Q I rx ry ⟨O, dx, dy, d, al, hx, hy, e, q⟩ hs
  unfold opIx at e
  split at e
  · cases hy.int
    obtain ⟨a, vs, rfl, h1, h2⟩ := hx.list
    obtain ⟨w, h3, h4⟩ := h2.at e
    exact ix_seq value slice pins s σ H _ _ v u Q I rx ry (.inl ⟨_, _, _, _, rfl, rfl, .inl (.inl h1), h3, wk_self q h4⟩) hs
  · cases hy.int
    obtain ⟨a, vs, rfl, h1, h2⟩ := hx.tuple
    obtain ⟨w, h3, h4⟩ := h2.at e
    exact ix_seq value slice pins s σ H _ _ v u Q I rx ry (.inr (.inl ⟨_, _, _, _, rfl, rfl, .inl (.inl (mi_lt h1)), h3, wk_self q h4⟩)) hs
  · cases hy.int
    split at e
    case isFalse => cases e
    rename_i ho
    obtain ⟨a, ns, rfl, rfl, h1⟩ := hx.dict ho
    rw [atI_map, Option.map_map] at e
    obtain ⟨n, h3, h4⟩ := Option.map_eq_some_iff.mp e
    cases h4
    exact ix_seq value slice pins s σ H _ _ v u Q I rx ry (.inl ⟨_, _, _, _, rfl, rfl, h1, (by rw [atI_map, h3]; rfl), wk_self q (.int _)⟩) hs
  · cases hx.str
    cases hy.int
    split at e
    · rename_i hl
      obtain ⟨c, h3, h4⟩ := Option.map_eq_some_iff.mp e
      cases h4
      exact ix_seq value slice pins s σ H _ _ v u Q I rx ry (.inr (.inr ⟨_, _, _, rfl, rfl, szl hl, h3, wk_self q (.str _)⟩)) hs
    · cases e
  · cases e
def rGs (K : PySem.W.Frag) (g : D → Option Int → Option Int → Option D) : V → Option Int → Option Int → Hp → VK → Prop := fun x lo hi H Q => ∃ O dx d, Al K O H ∧ Tp K O H x dx ∧ g dx lo hi = some d ∧ Wk K O H d Q
theorem DrA.cut {K : PySem.W.Frag} {H : Hp} {vs : List V} {ds : List D} (h : DrA K H vs ds) (lo hi : Option Int) : DrA K H (cutV vs lo hi) (cutD ds lo hi) := by
  unfold cutV cutD
  rw [h.len]
  exact (h.drop _).take _
theorem cutD_all {α : Type} {ds : List α} {lo hi : Option Int} (h1 : HT.sIx ds.length 0 lo = 0) (h2 : HT.sIx ds.length ds.length hi = ds.length) : cutD ds lo hi = ds := by
  unfold cutD
  rw [h1, h2]
  simp
theorem slr : SlR X (rGs X.K opSl) := by
  intro pins s σ H x v vl vu lo hi sl Q I rx hs pl pu ⟨O, dx, d, al, hx, e, q⟩
  unfold opSl at e
  split at e
  · cases e
    obtain ⟨a, vs, rfl, h1, h2⟩ := hx.list
    exact sl_list pins s σ H _ v vl vu _ _ sl Q I rx hs pl pu ⟨_, _, rfl, .inl (.inl h1), wk_lst q al (h2.cut _ _)⟩
  · cases e
    obtain ⟨a, vs, rfl, h1, h2⟩ := hx.tuple
    refine sl_tupA pins s σ H _ v vl vu _ _ sl Q I rx hs pl pu ⟨_, _, rfl, .inl (.inl (mi_lt h1)), fun hz => ?_, fun _ => wk_tup q al (h2.cut _ _)⟩
    rw [h2.len] at hz
    rw [cutD_all hz.1 hz.2] at q
    exact wk_self q (.tup h1 h2)
  · cases hx.str
    split at e
    · rename_i hl
      cases e
      exact sl_str pins s σ H _ v vl vu _ _ sl Q I rx hs pl pu ⟨_, rfl, szl hl, wk_self q (.str _)⟩
    · cases e
  · cases e
/-! ### isinstance -/
def tyN : Ty → String
  | .int => "int"
  | .bool => "bool"
  | .str => "str"
  | .tuple => "tuple"
  | .list => "list"
theorem cr_isi (T : Ty) : CallR X (.builtin "isinstance") (fun vs H Q => ∃ O x dx b, Al X.K O H ∧ vs = [x, .ty (tyN T)] ∧ Tp X.K O H x dx ∧ evIsi T dx = some b ∧ Q (.bl b) H) := by
  intro pins s σ H xs us Q I r ⟨O, x, dx, b, al, e0, hx, e, q⟩
  subst e0
  have go : ∀ (t : String), TyX X.K H x (.type t) → kitB t (tyN T) = some b → wpAny (model X.prog X.w) X.A (call (.builtin "isinstance") us) (EP X pins σ Q) X.xe s := fun t ht hk =>
    call_isi pins s σ H _ us Q I r ⟨_, _, _, _, _, rfl, .ty _, ht, kit_ty hk, q⟩
  cases dx with
  | none => cases hx.non; exact go "NoneType" (.base .non) (by cases T <;> cases e <;> decide +kernel)
  | bool _ => cases hx.bool; exact go "bool" (.base (.bl _)) (by cases T <;> cases e <;> decide +kernel)
  | int _ => cases hx.int; exact go "int" (.base (.int _)) (by cases T <;> cases e <;> decide +kernel)
  | str _ => cases hx.str; exact go "str" (.base (.str _)) (by cases T <;> cases e <;> decide +kernel)
  | list ds =>
    obtain ⟨a, vs, rfl, h1, h2⟩ := hx.list
    exact go "list" (.base (.lst h1)) (by cases T <;> cases e <;> decide +kernel)
  | tuple ds =>
    obtain ⟨a, vs, rfl, h1, h2⟩ := hx.tuple
    exact go "tuple" (.base (.tup (mi_lt h1))) (by cases T <;> cases e <;> decide +kernel)
  | dict _ => cases T <;> cases e
end
end J

/-! Expressions: what the machine does with them, by data. -/
namespace J
open PySem PySem.Spec PyProof.Rows L2
structure Re (K : PySem.W.Frag) (O : List Addr) (σ : L2.St) (H : Hp) (env : En) : Prop where
  len : σ.length = env.length
  al : Al K O H
  val : ∀ (i : Nat) (d : D), env[i]? = some (Sl.val d) → ∃ v, σ[i]? = some (some v) ∧ Dr K (mi H O) v d
  own : ∀ (i : Nat) (ds : List D), env[i]? = some (Sl.own ds) → ∃ a vs, σ[i]? = some (some (.ref a)) ∧ H a = some (.lst vs) ∧ DrA K (mi H O) vs ds
  bor : ∀ (i : Nat) (d : D), env[i]? = some (Sl.bor d) → ∃ v, σ[i]? = some (some v) ∧ Tp K O H v d
theorem Re.mono {K : PySem.W.Frag} {O : List Addr} {σ : L2.St} {H H' : Hp} {env : En} (h : Re K O σ H env) (e : Same H H') : Re K O σ H' env where
  len := h.len
  al := h.al.mono e
  val := fun i d q => let ⟨v, h1, h2⟩ := h.val i d q; ⟨v, h1, Dr.mono (mi_same e) d h2⟩
  own := fun i ds q => let ⟨a, vs, h1, h2, h3⟩ := h.own i ds q; ⟨a, vs, h1, e.at h2, DrA.mono (mi_same e) ds h3⟩
  bor := fun i d q => let ⟨v, h1, h2⟩ := h.bor i d q; ⟨v, h1, h2.mono e⟩

/-- contexts that differ by the state alone -/
structure Fam where
  P : Program
  w : World
  K : PySem.W.Frag
  mg : Str → Option Value
  base : Heap
  N : List Str
  sc : Scope
  n : Nat
  top : Bool
structure Fam.ok (C : Fam) (X : Cx) : Prop where
  hP : X.prog = C.P
  hw : X.w = C.w
  hK : X.K = C.K
  hmg : X.mg = C.mg
  hb : X.base = C.base
  hN : X.N = C.N
  hsc : X.env.scope = C.sc
  calm : X.calm = true
  room : Room C.n X.A
  xe : X.xe = fun _ _ => False
  fn : C.top = true → ∀ x, X.fn x = true
theorem Fam.ok.hu {C : Fam} {X : Cx} (h : C.ok X) : X.A.units + 64 < cLine := h.room.units
def Fam.blk (C : Fam) (scope : Scope) : Fam := { C with sc := relS scope C.sc, top := false }
theorem Fam.ok.blk {C : Fam} {X : Cx} (h : C.ok X) {s : Shared} {H : Hp} {scope : Scope} {cl : List (Str × Addr)} {A : Addr} {fp : List Addr} : (C.blk scope).ok (X.blk s H scope (compEnvC scope cl A X.env) fp) where
  hP := h.hP
  hw := h.hw
  hK := h.hK
  hmg := h.hmg
  hb := h.hb
  hN := h.hN
  hsc := by
    show relS scope X.env.scope = relS scope C.sc
    rw [h.hsc]
  calm := h.calm
  room := h.room
  xe := rfl
  fn := fun z => nomatch z

def SE (C : Fam) (e : Expr) (f : En → Option D) : Prop :=
  ∃ t, (∀ X, C.ok X → PE X e t) ∧ ∀ O σ H env Q d, Re C.K O σ H env → f env = some d → Wk C.K O H d Q → t σ H Q
def SB (C : Fam) (e : Expr) (f : En → Option D) : Prop :=
  ∃ t, (∀ X, C.ok X → PE X e t) ∧ ∀ O σ H env Q d, Re C.K O σ H env → f env = some d → (∀ v H', Same H H' → Tp C.K O H' v d → Q v H') → t σ H Q
def ST (C : Fam) (e : Expr) (f : En → Option D) : Prop :=
  ∃ t, (∀ X, C.ok X → PT X e t) ∧ ∀ O σ H env Q b, Re C.K O σ H env → f env = some (.bool b) → (∀ H', Same H H' → Q b H') → t σ H Q
/-- arguments: those with true may be borrowed -/
def ArgR (K : PySem.W.Frag) (O : List Addr) (H : Hp) : List Bool → List V → List D → Prop
  | _, [], [] => True
  | true :: bs, v :: vs, d :: ds => Tp K O H v d ∧ ArgR K O H bs vs ds
  | false :: bs, v :: vs, d :: ds => Dr K (mi H O) v d ∧ ArgR K O H bs vs ds
  | _, _, _ => False
def SA (C : Fam) (bs : List Bool) (es : List Expr) (f : En → Option (List D)) : Prop :=
  ∃ t, (∀ X, C.ok X → PA X es t) ∧ ∀ O σ H env Q ds, Re C.K O σ H env → f env = some ds → (∀ vs H', Same H H' → ArgR C.K O H' bs vs ds → Q vs H') → t σ H Q
theorem ArgR.mono {K : PySem.W.Frag} {O : List Addr} {H H' : Hp} (e : Same H H') : ∀ {bs : List Bool} {vs : List V} {ds : List D}, ArgR K O H bs vs ds → ArgR K O H' bs vs ds
  | _, [], [], _ => by unfold ArgR; trivial
  | true :: bs, _ :: _, _ :: _, ⟨h1, h2⟩ => ⟨h1.mono e, ArgR.mono e h2⟩
  | false :: bs, _ :: _, d :: _, ⟨h1, h2⟩ => ⟨Dr.mono (mi_same e) d h1, ArgR.mono e h2⟩
  | [], [], _ :: _, h => by simp [ArgR] at h
  | [], _ :: _, [], h => by simp [ArgR] at h
  | [], _ :: _, _ :: _, h => by simp [ArgR] at h
  | true :: _, [], _ :: _, h => by simp [ArgR] at h
  | true :: _, _ :: _, [], h => by simp [ArgR] at h
  | false :: _, [], _ :: _, h => by simp [ArgR] at h
  | false :: _, _ :: _, [], h => by simp [ArgR] at h
theorem ArgR.weak {K : PySem.W.Frag} {O : List Addr} {H : Hp} : ∀ {bs : List Bool} {vs : List V} {ds : List D}, ArgR K O H bs vs ds → TpA K O H vs ds
  | _, [], [], _ => trivial
  | true :: bs, _ :: _, _ :: _, ⟨h1, h2⟩ => ⟨h1, ArgR.weak h2⟩
  | false :: bs, _ :: _, d :: _, ⟨h1, h2⟩ => ⟨.of h1, ArgR.weak h2⟩
  | [], [], _ :: _, h => by simp [ArgR] at h
  | [], _ :: _, [], h => by simp [ArgR] at h
  | [], _ :: _, _ :: _, h => by simp [ArgR] at h
  | true :: _, [], _ :: _, h => by simp [ArgR] at h
  | true :: _, _ :: _, [], h => by simp [ArgR] at h
  | false :: _, [], _ :: _, h => by simp [ArgR] at h
  | false :: _, _ :: _, [], h => by simp [ArgR] at h
theorem ArgR.len {K : PySem.W.Frag} {O : List Addr} {H : Hp} : ∀ {bs : List Bool} {vs : List V} {ds : List D}, ArgR K O H bs vs ds → vs.length = ds.length
  | _, [], [], _ => rfl
  | true :: bs, _ :: _, _ :: _, ⟨_, h2⟩ => by rw [List.length_cons, List.length_cons, ArgR.len h2]
  | false :: bs, _ :: _, d :: _, ⟨_, h2⟩ => by rw [List.length_cons, List.length_cons, ArgR.len h2]
  | [], [], _ :: _, h => by simp [ArgR] at h
  | [], _ :: _, [], h => by simp [ArgR] at h
  | [], _ :: _, _ :: _, h => by simp [ArgR] at h
  | true :: _, [], _ :: _, h => by simp [ArgR] at h
  | true :: _, _ :: _, [], h => by simp [ArgR] at h
  | false :: _, [], _ :: _, h => by simp [ArgR] at h
  | false :: _, _ :: _, [], h => by simp [ArgR] at h
theorem ArgR.strict {K : PySem.W.Frag} {O : List Addr} {H : Hp} : ∀ {bs : List Bool} {vs : List V} {ds : List D}, ArgR K O H bs vs ds → bs.all (! ·) = true → DrA K (mi H O) vs ds
  | _, [], [], _, _ => .nil
  | true :: bs, _ :: _, _ :: _, _, h => by simp at h
  | false :: bs, _ :: _, d :: _, ⟨h1, h2⟩, h => .cons h1 (ArgR.strict h2 (by simpa using h))
  | [], [], _ :: _, h, _ => by simp [ArgR] at h
  | [], _ :: _, [], h, _ => by simp [ArgR] at h
  | [], _ :: _, _ :: _, h, _ => by simp [ArgR] at h
  | true :: _, [], _ :: _, h, _ => by simp [ArgR] at h
  | true :: _, _ :: _, [], h, _ => by simp [ArgR] at h
  | false :: _, [], _ :: _, h, _ => by simp [ArgR] at h
  | false :: _, _ :: _, [], h, _ => by simp [ArgR] at h

/-- an expression of a form that is served -/
def plainX : Expr → Bool
  | .Starred _ _ | .Slice _ _ _ _ | .Set _ _ _ | .SetComp _ _ _ _ | .DictComp _ _ _ _ _ | .NamedExpr _ _ _ | .Lambda _ _ _ _ | .IfExp _ _ _ _ => false
  | _ => true
theorem star_ok {e : Expr} {es : List Expr} {env : Env} (h : plainX e = true) : starEach (e :: es) env = (false, eval e env) :: starEach es env := by
  cases e <;> first | rfl | (simp [plainX] at h)
theorem star_any : ∀ {es : List Expr} {env : Env} {pos : Pos}, es.all plainX = true → (backTo pos (starEach es env)).any (·.1) = false
  | [], _, _, _ => rfl
  | e :: es, env, pos, h => by
    rw [List.all_cons, Bool.and_eq_true] at h
    rw [star_ok h.1]
    show (false || (backTo pos (starEach es env)).any (·.1)) = false
    rw [star_any h.2, Bool.or_false]
theorem plain_ix {e : Expr} (h : plainX e = true) : PlainIx e := fun o i => by
  cases e <;> first | rfl | (simp [plainX] at h)
theorem nofold {e : Expr} {env : Env} (h : plainX e = true) (x : Value) : foldedSetIterable e env x = pure x := by
  cases e <;> first | rfl | (simp [plainX] at h)
theorem nomark2 {e : Expr} {op : CmpOp} (h : plainX e = true) : behindInMarks op e = false := by
  cases e <;> first | rfl | (simp [plainX] at h)

section
variable {C : Fam} {a b c e : Expr} {es : List Expr} {f g k : En → Option D} {pos : Pos}
theorem SE.cg {f' : En → Option D} (h : SE C e f) (q : ∀ env, f' env = f env) : SE C e f' := by
  have : f' = f := funext q
  rw [this]; exact h
theorem SB.cg {f' : En → Option D} (h : SB C e f) (q : ∀ env, f' env = f env) : SB C e f' := by
  have : f' = f := funext q
  rw [this]; exact h
theorem ST.cg {f' : En → Option D} (h : ST C e f) (q : ∀ env, f' env = f env) : ST C e f' := by
  have : f' = f := funext q
  rw [this]; exact h
theorem SE.sb (h : SE C e f) : SB C e f := by
  obtain ⟨t, h1, h2⟩ := h
  exact ⟨t, h1, fun O σ H env Q d r hf q => h2 O σ H env Q d r hf fun v H' e hv => q v H' e (.of hv)⟩
theorem se_var {x : Str} {i : Nat} (hN : C.N[i]? = some x) (hv : Vis C.sc x) (hd : (x == ("__debug__" : Str)) = false) (hcd : (x == ("__classdict__" : Str)) = false) : SE C (.Name x pos) (fun env => getV env i) := by
  refine ⟨tVar i, fun X hX => pe_var (by rw [hX.hN]; exact hN) (by rw [hX.hsc]; exact hv) hd hcd, fun O σ H env Q d r hf q => ?_⟩
  replace hf : getV env i = some d := hf
  unfold getV at hf
  split at hf
  · rename_i d' hd'
    cases hf
    obtain ⟨v, h1, h2⟩ := r.val _ _ hd'
    exact ⟨v, h1, wk_self q h2⟩
  · cases hf
theorem sb_var {x : Str} {i : Nat} (hN : C.N[i]? = some x) (hv : Vis C.sc x) (hd : (x == ("__debug__" : Str)) = false) (hcd : (x == ("__classdict__" : Str)) = false) : SB C (.Name x pos) (fun env => getB env i) := by
  refine ⟨tVar i, fun X hX => pe_var (by rw [hX.hN]; exact hN) (by rw [hX.hsc]; exact hv) hd hcd, fun O σ H env Q d r hf q => ?_⟩
  replace hf : getB env i = some d := hf
  unfold getB at hf
  split at hf
  · rename_i d' hd'
    cases hf
    obtain ⟨v, h1, h2⟩ := r.val _ _ hd'
    exact ⟨v, h1, q v H (Same.refl H) (.of h2)⟩
  · rename_i ds hd'
    cases hf
    obtain ⟨a, vs, h1, h2, h3⟩ := r.own _ _ hd'
    exact ⟨_, h1, q _ H (Same.refl H) (.inr (.inl ⟨a, vs, ds, rfl, rfl, h2, h3⟩))⟩
  · rename_i d' hd'
    cases hf
    obtain ⟨v, h1, h2⟩ := r.bor _ _ hd'
    exact ⟨v, h1, q v H (Same.refl H) h2⟩
  · cases hf
theorem se_c {v : V} {d : D} (h : ∀ X, C.ok X → PE X e (tC v)) (hd : ∀ H, Dr C.K H v d) : SE C e (fun _ => some d) :=
  ⟨tC v, h, fun O σ H env Q d' r hf q => by cases hf; exact wk_self q (hd _)⟩
theorem se_bin {op : Operator} (ha : SB C a f) (hb : SB C b g) : SE C (.BinOp a op b pos) (fun env => match f env with
    | none => none
    | some x => match g env with
      | none => none
      | some y => opB op x y) := by
  obtain ⟨ta, ha1, ha2⟩ := ha
  obtain ⟨tb, hb1, hb2⟩ := hb
  refine ⟨tOp (rG2 C.K (opB op)) ta tb, fun X hX => ?_, fun O σ H env Q d r hf q => ?_⟩
  · rw [← hX.hK]; exact pe_op (opr_B op) (ha1 X hX) (hb1 X hX)
  · dsimp only at hf
    split at hf
    · cases hf
    · rename_i x hx
      split at hf
      · cases hf
      · rename_i y hy
        refine ha2 O σ H env _ x r hx fun v H1 s1 hv => hb2 O σ H1 env _ y (r.mono s1) hy fun w H2 s2 hw => ?_
        exact ⟨O, x, y, d, (r.mono (s1.trans s2)).al, hv.mono s2, hw, hf, fun z H' s3 hz => q z H' ((s1.trans s2).trans s3) hz⟩
theorem cmp_core {op : CmpOp} {ta tb : TE} (ha2 : ∀ O σ H env Q d, Re C.K O σ H env → f env = some d → (∀ v H', Same H H' → Tp C.K O H' v d → Q v H') → ta σ H Q)
    (hb2 : ∀ O σ H env Q d, Re C.K O σ H env → g env = some d → (∀ v H', Same H H' → Tp C.K O H' v d → Q v H') → tb σ H Q) {O : List Addr} {σ : L2.St} {H : Hp} {env : En} {Q : VK} {d : D} (r : Re C.K O σ H env)
    (hf : (match f env with
      | none => none
      | some x => match g env with
        | none => none
        | some y => (opC op x y).map PyData.bool) = some d) (q : ∀ bb H', Same H H' → d = .bool bb → Q (.bl bb) H') : tOp (rGc C.K (opC op)) ta tb σ H Q := by
  split at hf
  · cases hf
  · rename_i x hx
    split at hf
    · cases hf
    · rename_i y hy
      obtain ⟨bb, hbb, ed⟩ := Option.map_eq_some_iff.mp hf
      refine ha2 O σ H env _ x r hx fun v H1 s1 hv => hb2 O σ H1 env _ y (r.mono s1) hy fun w H2 s2 hw => ?_
      exact ⟨O, x, y, bb, (r.mono (s1.trans s2)).al, hv.mono s2, hw, hbb, q bb H2 (s1.trans s2) ed.symm⟩
theorem se_cmp {op : CmpOp} (ha : SB C a f) (hb : SB C b g) (hp : plainX b = true) : SE C (.Compare a [op] [b] pos) (fun env => match f env with
    | none => none
    | some x => match g env with
      | none => none
      | some y => (opC op x y).map PyData.bool) := by
  obtain ⟨ta, ha1, ha2⟩ := ha
  obtain ⟨tb, hb1, hb2⟩ := hb
  refine ⟨tOp (rGc C.K (opC op)) ta tb, fun X hX => ?_, fun O σ H env Q d r hf q => ?_⟩
  · rw [← hX.hK]; exact pe_cmpR (opr_C hX.hu op) (ha1 X hX) (hb1 X hX) (nomark2 hp)
  · exact cmp_core ha2 hb2 r hf fun bb H' s ed => by subst ed; exact q _ H' s (.bl _)
theorem st_cmp {op : CmpOp} (ha : SB C a f) (hb : SB C b g) (hp : plainX b = true) : ST C (.Compare a [op] [b] pos) (fun env => match f env with
    | none => none
    | some x => match g env with
      | none => none
      | some y => (opC op x y).map PyData.bool) := by
  obtain ⟨ta, ha1, ha2⟩ := ha
  obtain ⟨tb, hb1, hb2⟩ := hb
  refine ⟨tTest (tOp (rGc C.K (opC op)) ta tb), fun X hX => ?_, fun O σ H env Q d r hf q => ?_⟩
  · rw [← hX.hK]; exact pt_cmpR (opr_C hX.hu op) (ha1 X hX) (hb1 X hX) (nomark2 hp)
  · exact cmp_core ha2 hb2 r hf fun bb H' s ed => by cases ed; exact ⟨_, rfl, q H' s⟩
theorem lastM {op op' : CmpOp} (h : plainX c = true) : lastMarks [op, op'] [b, c] = false := nomark2 h
theorem chain_core {op op' : CmpOp} {ta tb tc : TE} (ha2 : ∀ O σ H env Q d, Re C.K O σ H env → f env = some d → (∀ v H', Same H H' → Tp C.K O H' v d → Q v H') → ta σ H Q)
    (hb2 : ∀ O σ H env Q d, Re C.K O σ H env → g env = some d → (∀ v H', Same H H' → Tp C.K O H' v d → Q v H') → tb σ H Q)
    (hc2 : ∀ O σ H env Q d, Re C.K O σ H env → k env = some d → (∀ v H', Same H H' → Tp C.K O H' v d → Q v H') → tc σ H Q) {O : List Addr} {σ : L2.St} {H : Hp} {env : En} {Q : VK} {d : D} (r : Re C.K O σ H env)
    (hf : (match f env with
      | none => none
      | some x => match g env with
        | none => none
        | some y => match opC op x y with
          | none => none
          | some false => some (.bool false)
          | some true => match k env with
            | none => none
            | some z => (opC op' y z).map PyData.bool) = some d) (q : ∀ bb H', Same H H' → d = .bool bb → Q (.bl bb) H') : tChain (rGc C.K (opC op)) (rGc C.K (opC op')) ta tb tc σ H Q := by
  split at hf
  · cases hf
  · rename_i x hx
    split at hf
    · cases hf
    · rename_i y hy
      refine ha2 O σ H env _ x r hx fun v H1 s1 hv => hb2 O σ H1 env _ y (r.mono s1) hy fun w H2 s2 hw => ?_
      split at hf
      · cases hf
      · rename_i ho
        cases hf
        refine ⟨O, x, y, false, (r.mono (s1.trans s2)).al, hv.mono s2, hw, ho, false, rfl, ?_⟩
        exact iteF (q _ H2 (s1.trans s2) rfl)
      · rename_i ho
        refine ⟨O, x, y, true, (r.mono (s1.trans s2)).al, hv.mono s2, hw, ho, true, rfl, ?_⟩
        refine iteT ?_
        split at hf
        · cases hf
        · rename_i z hz
          obtain ⟨bb, hbb, ed⟩ := Option.map_eq_some_iff.mp hf
          refine hc2 O σ H2 env _ z (r.mono (s1.trans s2)) hz fun u H3 s3 hu => ?_
          exact ⟨O, y, z, bb, (r.mono ((s1.trans s2).trans s3)).al, hw.mono s3, hu, hbb, q bb H3 ((s1.trans s2).trans s3) ed.symm⟩
theorem se_cmp2 {op op' : CmpOp} (ha : SB C a f) (hb : SB C b g) (hc : SB C c k) (hp : plainX c = true) : SE C (.Compare a [op, op'] [b, c] pos) (fun env => match f env with
      | none => none
      | some x => match g env with
        | none => none
        | some y => match opC op x y with
          | none => none
          | some false => some (.bool false)
          | some true => match k env with
            | none => none
            | some z => (opC op' y z).map PyData.bool) := by
  obtain ⟨ta, ha1, ha2⟩ := ha
  obtain ⟨tb, hb1, hb2⟩ := hb
  obtain ⟨tc, hc1, hc2⟩ := hc
  refine ⟨tChain (rGc C.K (opC op)) (rGc C.K (opC op')) ta tb tc, fun X hX => ?_, fun O σ H env Q d r hf q => ?_⟩
  · rw [← hX.hK]; exact pe_chain (opr_C hX.hu op) (opr_C hX.hu op') (ha1 X hX) (hb1 X hX) (hc1 X hX) (lastM hp)
  · exact chain_core ha2 hb2 hc2 r hf fun bb H' s ed => by subst ed; exact q _ H' s (.bl _)
theorem st_cmp2 {op op' : CmpOp} (ha : SB C a f) (hb : SB C b g) (hc : SB C c k) (hp : plainX c = true) : ST C (.Compare a [op, op'] [b, c] pos) (fun env => match f env with
      | none => none
      | some x => match g env with
        | none => none
        | some y => match opC op x y with
          | none => none
          | some false => some (.bool false)
          | some true => match k env with
            | none => none
            | some z => (opC op' y z).map PyData.bool) := by
  obtain ⟨ta, ha1, ha2⟩ := ha
  obtain ⟨tb, hb1, hb2⟩ := hb
  obtain ⟨tc, hc1, hc2⟩ := hc
  refine ⟨tTest (tChain (rGc C.K (opC op)) (rGc C.K (opC op')) ta tb tc), fun X hX => ?_, fun O σ H env Q d r hf q => ?_⟩
  · rw [← hX.hK]; exact pt_chain (opr_C hX.hu op) (opr_C hX.hu op') (ha1 X hX) (hb1 X hX) (hc1 X hX) (lastM hp)
  · exact chain_core ha2 hb2 hc2 r hf fun bb H' s ed => by cases ed; exact ⟨_, rfl, q H' s⟩
theorem st_of (h : SE C e f) (hs : ∀ env whole, isTrue e env whole = (do let v ← whole; standAt e.pos; holding [v] (truthy v))) : ST C e f := by
  obtain ⟨t, h1, h2⟩ := h
  refine ⟨tB t, fun X hX => pt_val (h1 X hX) (hs _), fun O σ H env Q b r hf q => h2 O σ H env _ _ r hf fun v H' s hv => ?_⟩
  cases hv
  exact ⟨b, rfl, q H' s⟩
theorem sb_st (h : SB C e f) (hs : ∀ env whole, isTrue e env whole = (do let v ← whole; standAt e.pos; holding [v] (truthy v))) : ST C e f := by
  obtain ⟨t, h1, h2⟩ := h
  refine ⟨tB t, fun X hX => pt_val (h1 X hX) (hs _), fun O σ H env Q b r hf q => h2 O σ H env _ _ r hf fun v H' s hv => ?_⟩
  cases hv.bool
  exact ⟨b, rfl, q H' s⟩
theorem se_neg (ha : SB C a f) : SE C (.UnaryOp .USub a pos) (fun env => match f env with
    | some (.int i) => some (.int (-i))
    | _ => none) := by
  obtain ⟨ta, ha1, ha2⟩ := ha
  refine ⟨tUn (rU fun i => V.int (-i)) ta, fun X hX => pe_un un_neg (ha1 X hX), fun O σ H env Q d r hf q => ?_⟩
  dsimp only at hf
  split at hf
  · rename_i i hi
    cases hf
    refine ha2 O σ H env _ _ r hi fun v H1 s1 hv => ?_
    cases hv.int
    exact ⟨i, rfl, q _ H1 s1 (.int _)⟩
  · cases hf
theorem se_not (ha : SB C a f) : SE C (.UnaryOp .Not a pos) (fun env => match f env with
    | some (.bool b) => some (.bool !b)
    | _ => none) := by
  obtain ⟨ta, ha1, ha2⟩ := ha
  refine ⟨tNotV ta, fun X hX => pe_not (ha1 X hX), fun O σ H env Q d r hf q => ?_⟩
  dsimp only at hf
  split at hf
  · rename_i i hi
    cases hf
    refine ha2 O σ H env _ _ r hi fun v H1 s1 hv => ?_
    cases hv.bool
    exact ⟨i, rfl, q _ H1 s1 (.bl _)⟩
  · cases hf
theorem st_not (ha : ST C a f) : ST C (.UnaryOp .Not a pos) (fun env => match f env with
    | some (.bool b) => some (.bool !b)
    | _ => none) := by
  obtain ⟨ta, ha1, ha2⟩ := ha
  refine ⟨tNot ta, fun X hX => pt_not (ha1 X hX), fun O σ H env Q d r hf q => ?_⟩
  dsimp only at hf
  split at hf
  · rename_i i hi
    cases hf
    exact ha2 O σ H env _ _ r hi fun H1 s1 => q H1 s1
  · cases hf
/-! and, or: as values, as tests -/
theorem se_one {op : BoolOp} (ha : SE C a f) : SE C (.BoolOp op [a] pos) f := by
  obtain ⟨ta, ha1, ha2⟩ := ha
  exact ⟨ta, fun X hX => pe_one (ha1 X hX), ha2⟩
theorem se_and (ha : SB C a f) (hb : SE C (.BoolOp .And (b :: es) pos) g) : SE C (.BoolOp .And (a :: b :: es) pos) (fun env => match f env with
    | some (.bool true) => g env
    | some (.bool false) => some (.bool false)
    | _ => none) := by
  obtain ⟨ta, ha1, ha2⟩ := ha
  obtain ⟨tb, hb1, hb2⟩ := hb
  refine ⟨tAndV ta tb, fun X hX => pe_and (ha1 X hX) (hb1 X hX), fun O σ H env Q d r hf q => ?_⟩
  dsimp only at hf
  split at hf
  · rename_i hi
    refine ha2 O σ H env _ _ r hi fun v H1 s1 hv => ?_
    cases hv.bool
    exact ⟨true, rfl, iteT (hb2 O σ H1 env _ _ (r.mono s1) hf fun v H2 s2 hv => q v H2 (s1.trans s2) hv)⟩
  · rename_i hi
    cases hf
    refine ha2 O σ H env _ _ r hi fun v H1 s1 hv => ?_
    cases hv.bool
    exact ⟨false, rfl, iteF (q _ H1 s1 (.bl _))⟩
  · cases hf
theorem se_or (ha : SB C a f) (hb : SE C (.BoolOp .Or (b :: es) pos) g) : SE C (.BoolOp .Or (a :: b :: es) pos) (fun env => match f env with
    | some (.bool true) => some (.bool true)
    | some (.bool false) => g env
    | _ => none) := by
  obtain ⟨ta, ha1, ha2⟩ := ha
  obtain ⟨tb, hb1, hb2⟩ := hb
  refine ⟨tOrV ta tb, fun X hX => pe_or (ha1 X hX) (hb1 X hX), fun O σ H env Q d r hf q => ?_⟩
  dsimp only at hf
  split at hf
  · rename_i hi
    cases hf
    refine ha2 O σ H env _ _ r hi fun v H1 s1 hv => ?_
    cases hv.bool
    exact ⟨true, rfl, iteT (q _ H1 s1 (.bl _))⟩
  · rename_i hi
    refine ha2 O σ H env _ _ r hi fun v H1 s1 hv => ?_
    cases hv.bool
    exact ⟨false, rfl, iteF (hb2 O σ H1 env _ _ (r.mono s1) hf fun v H2 s2 hv => q v H2 (s1.trans s2) hv)⟩
  · cases hf
/-- a test whatever its whole is -/
def SW (C : Fam) (e : Expr) (f : En → Option D) : Prop :=
  ∃ t, (∀ X, C.ok X → PW X e t) ∧ ∀ O σ H env Q b, Re C.K O σ H env → f env = some (.bool b) → (∀ H', Same H H' → Q b H') → t σ H Q
theorem SW.st (h : SW C e f) : ST C e f := by
  obtain ⟨t, h1, h2⟩ := h
  exact ⟨t, fun X hX => (h1 X hX).pt, h2⟩
theorem SW.cg {f' : En → Option D} (h : SW C e f) (q : ∀ env, f' env = f env) : SW C e f' := by
  have : f' = f := funext q
  rw [this]; exact h
theorem sw_and1 (ha : ST C a f) : SW C (.BoolOp .And [a] pos) f := by
  obtain ⟨ta, ha1, ha2⟩ := ha
  exact ⟨ta, fun X hX => pw_and1 (ha1 X hX), ha2⟩
theorem sw_or1 (ha : ST C a f) : SW C (.BoolOp .Or [a] pos) f := by
  obtain ⟨ta, ha1, ha2⟩ := ha
  exact ⟨ta, fun X hX => pw_or1 (ha1 X hX), ha2⟩
theorem sw_and (ha : ST C a f) (hb : SW C (.BoolOp .And (b :: es) pos) g) : SW C (.BoolOp .And (a :: b :: es) pos) (fun env => match f env with
    | some (.bool true) => g env
    | some (.bool false) => some (.bool false)
    | _ => none) := by
  obtain ⟨ta, ha1, ha2⟩ := ha
  obtain ⟨tb, hb1, hb2⟩ := hb
  refine ⟨tAnd ta tb, fun X hX => pw_and (ha1 X hX) (hb1 X hX), fun O σ H env Q d r hf q => ?_⟩
  dsimp only at hf
  split at hf
  · rename_i hi
    exact ha2 O σ H env _ _ r hi fun H1 s1 => iteT (hb2 O σ H1 env _ _ (r.mono s1) hf fun H2 s2 => q H2 (s1.trans s2))
  · rename_i hi
    cases hf
    exact ha2 O σ H env _ _ r hi fun H1 s1 => iteF (q H1 s1)
  · cases hf
theorem sw_or (ha : ST C a f) (hb : SW C (.BoolOp .Or (b :: es) pos) g) : SW C (.BoolOp .Or (a :: b :: es) pos) (fun env => match f env with
    | some (.bool true) => some (.bool true)
    | some (.bool false) => g env
    | _ => none) := by
  obtain ⟨ta, ha1, ha2⟩ := ha
  obtain ⟨tb, hb1, hb2⟩ := hb
  refine ⟨tOr ta tb, fun X hX => pw_or (ha1 X hX) (hb1 X hX), fun O σ H env Q d r hf q => ?_⟩
  dsimp only at hf
  split at hf
  · rename_i hi
    cases hf
    exact ha2 O σ H env _ _ r hi fun H1 s1 => iteT (q H1 s1)
  · rename_i hi
    exact ha2 O σ H env _ _ r hi fun H1 s1 => iteF (hb2 O σ H1 env _ _ (r.mono s1) hf fun H2 s2 => q H2 (s1.trans s2))
  · cases hf
/-! arguments, displays -/
theorem SA.cg {bs : List Bool} {f f' : En → Option (List D)} (h : SA C bs es f) (q : ∀ env, f' env = f env) : SA C bs es f' := by
  have : f' = f := funext q
  rw [this]; exact h
theorem sa_nil {bs : List Bool} : SA C bs [] (fun _ => some []) :=
  ⟨tNil, fun X hX => pa_nil, fun O σ H env Q ds r hf q => by cases hf; exact q [] H (Same.refl H) (by unfold ArgR; trivial)⟩
theorem sa_cons {bs : List Bool} {h : En → Option (List D)} (ha : SE C a f) (hr : SA C bs es h) (hp : plainX a = true) : SA C (false :: bs) (a :: es) (fun env => match f env with
    | none => none
    | some x => match h env with
      | none => none
      | some xs => some (x :: xs)) := by
  obtain ⟨ta, ha1, ha2⟩ := ha
  obtain ⟨tr, hr1, hr2⟩ := hr
  refine ⟨tCons ta tr, fun X hX => pa_cons (ha1 X hX) (hr1 X hX) (star_ok hp), fun O σ H env Q ds r hf q => ?_⟩
  dsimp only at hf
  split at hf
  · cases hf
  · rename_i x hx
    split at hf
    · cases hf
    · rename_i xs hxs
      cases hf
      refine ha2 O σ H env _ _ r hx fun v H1 s1 hv => hr2 O σ H1 env _ _ (r.mono s1) hxs fun vs H2 s2 hvs => ?_
      exact q _ H2 (s1.trans s2) ⟨Dr.mono (mi_same s2) _ hv, hvs⟩
theorem sa_consb {bs : List Bool} {h : En → Option (List D)} (ha : SB C a f) (hr : SA C bs es h) (hp : plainX a = true) : SA C (true :: bs) (a :: es) (fun env => match f env with
    | none => none
    | some x => match h env with
      | none => none
      | some xs => some (x :: xs)) := by
  obtain ⟨ta, ha1, ha2⟩ := ha
  obtain ⟨tr, hr1, hr2⟩ := hr
  refine ⟨tCons ta tr, fun X hX => pa_cons (ha1 X hX) (hr1 X hX) (star_ok hp), fun O σ H env Q ds r hf q => ?_⟩
  dsimp only at hf
  split at hf
  · cases hf
  · rename_i x hx
    split at hf
    · cases hf
    · rename_i xs hxs
      cases hf
      refine ha2 O σ H env _ _ r hx fun v H1 s1 hv => hr2 O σ H1 env _ _ (r.mono s1) hxs fun vs H2 s2 hvs => ?_
      exact q _ H2 (s1.trans s2) ⟨hv.mono s2, hvs⟩
theorem se_tup {bs : List Bool} {kk : Nat} {h : En → Option (List D)} (ha : SA C bs es h) (hb : bs.all (! ·) = true) : SE C (.Tuple es kk pos) (fun env => match h env with
    | none => none
    | some ds => if ds.length ≤ 1000 then some (.tuple ds) else none) := by
  obtain ⟨ta, ha1, ha2⟩ := ha
  refine ⟨tTup ta, fun X hX => pe_tup (ha1 X hX), fun O σ H env Q d r hf q => ?_⟩
  dsimp only at hf
  split at hf
  · cases hf
  · rename_i ds hds
    split at hf
    · rename_i hl
      cases hf
      refine ha2 O σ H env _ _ r hds fun vs H1 s1 hvs => ⟨szl24 (by rw [hvs.len]; omega), fun p hp => ?_⟩
      exact wk_tup (fun v H' s hv => q v H' (s1.trans s) hv) (r.mono s1).al (hvs.strict hb) p hp
    · cases hf
/-- a new list: fresh, its items strict without it -/
def SF (C : Fam) (e : Expr) (f : En → Option D) : Prop :=
  ∃ t, (∀ X, C.ok X → PE X e t) ∧ ∀ O σ H env (Q : VK) d, Re C.K O σ H env → f env = some d → (∀ p vs ds H', Same H H' → H p = none → d = .list ds → H' p = some (.lst vs) → DrA C.K (mi H' (p :: O)) vs ds → Q (.ref p) H') → t σ H Q
theorem sf_lst {bs : List Bool} {h : En → Option (List D)} (ha : SA C bs es h) (hb : bs.all (! ·) = true) : SF C (.List es pos) (fun env => match h env with
    | none => none
    | some ds => if ds.length ≤ 1000 then some (.list ds) else none) := by
  obtain ⟨ta, ha1, ha2⟩ := ha
  refine ⟨tLst ta, fun X hX => pe_lst (ha1 X hX), fun O σ H env Q d r hf q => ?_⟩
  dsimp only at hf
  split at hf
  · cases hf
  · rename_i ds hds
    split at hf
    · rename_i hl
      cases hf
      refine ha2 O σ H env _ _ r hds fun vs H1 s1 hvs => ⟨szl24 (by rw [hvs.len]; omega), fun p hp => ?_⟩
      exact q p vs ds _ (s1.trans (same_upd hp)) (s1.free hp) rfl upd_same (DrA.mono (mi_new hp (r.mono s1).al) ds (hvs.strict hb))
    · cases hf
theorem SF.cg {f' : En → Option D} (h : SF C e f) (q : ∀ env, f' env = f env) : SF C e f' := by
  have : f' = f := funext q
  rw [this]; exact h
theorem SF.se (h : SF C e f) : SE C e f := by
  obtain ⟨t, h1, h2⟩ := h
  refine ⟨t, h1, fun O σ H env Q d r hf q => h2 O σ H env Q d r hf fun p vs ds H' s hp ed hl hv => ?_⟩
  subst ed
  refine q _ _ s (.lst (xs := vs) ?_ (DrA.mono (mi_sub fun a ha => List.mem_cons_of_mem _ ha) ds hv))
  rw [mi_out (r.al.out hp), hl]; rfl
/-! calls of built-ins -/
theorem se_bi {x : Str} {id : String} {bs : List Bool} {h : En → Option (List D)} {g : List D → Option D} {p : Pos} (hc : ∀ X, C.ok X → CallR X (.builtin id) (rGA X.K g)) (hg : C.sc.names.lookup x = some .globalImplicit) (hm : C.mg x = none)
    (hv : bootBuiltins x = some (.builtin id)) (ha : SA C bs (e :: es) h) (hp : (e :: es).all plainX = true) (hn : x ≠ "__name__") (hdb : (x == ("__debug__" : Str)) = false) :
    SE C (.Call (.Name x p) (e :: es) [] pos) (fun env => match h env with
      | none => none
      | some ds => g ds) := by
  obtain ⟨ta, ha1, ha2⟩ := ha
  rw [List.all_cons, Bool.and_eq_true] at hp
  refine ⟨tCB (rGA C.K g) ta, fun X hX => ?_, fun O σ H env Q d r hf q => ?_⟩
  · rw [← hX.hK]
    exact pe_callB (hc X hX) (show X.env.scope.names.lookup x = _ by rw [hX.hsc]; exact hg) (by rw [hX.hmg]; exact hm) hv (ha1 X hX) hn hdb (star_ok hp.1) (star_any hp.2)
  · dsimp only at hf
    split at hf
    · cases hf
    · rename_i ds hds
      exact ha2 O σ H env _ _ r hds fun vs H1 s1 hvs => ⟨O, ds, d, (r.mono s1).al, hvs.weak, hf, fun v H' s hv => q v H' (s1.trans s) hv⟩
theorem se_ty {x : Str} {T : String} {bs : List Bool} {h : En → Option (List D)} {g : List D → Option D} {p : Pos} (hc : ∀ X, C.ok X → CallR X (.type T) (rGA X.K g)) (hg : C.sc.names.lookup x = some .globalImplicit) (hm : C.mg x = none)
    (hv : bootBuiltins x = some (.type T)) (ha : SA C bs (e :: es) h) (hp : (e :: es).all plainX = true) (hn : x ≠ "__name__") (hdb : (x == ("__debug__" : Str)) = false) :
    SE C (.Call (.Name x p) (e :: es) [] pos) (fun env => match h env with
      | none => none
      | some ds => g ds) := by
  obtain ⟨ta, ha1, ha2⟩ := ha
  rw [List.all_cons, Bool.and_eq_true] at hp
  refine ⟨tCB (rGA C.K g) ta, fun X hX => ?_, fun O σ H env Q d r hf q => ?_⟩
  · rw [← hX.hK]
    exact pe_callTy (hc X hX) (show X.env.scope.names.lookup x = _ by rw [hX.hsc]; exact hg) (by rw [hX.hmg]; exact hm) hv (ha1 X hX) hn hdb (star_ok hp.1) (star_any hp.2)
  · dsimp only at hf
    split at hf
    · cases hf
    · rename_i ds hds
      exact ha2 O σ H env _ _ r hds fun vs H1 s1 hvs => ⟨O, ds, d, (r.mono s1).al, hvs.weak, hf, fun v H' s hv => q v H' (s1.trans s) hv⟩
theorem se_isi {T : Ty} {x : Str} {p p2 : Pos} (ha : SB C a f) (hp : plainX a = true) (hg : C.sc.names.lookup ("isinstance" : Str) = some .globalImplicit) (hm : C.mg "isinstance" = none) (hg2 : C.sc.names.lookup x = some .globalImplicit) (hm2 : C.mg x = none)
    (hv2 : bootBuiltins x = some (.type (tyN T))) (hn : x ≠ "__name__") (hdb : (x == ("__debug__" : Str)) = false) :
    SE C (.Call (.Name "isinstance" p) [a, .Name x p2] [] pos) (fun env => match f env with
      | none => none
      | some d => (evIsi T d).map .bool) := by
  obtain ⟨ta, ha1, ha2⟩ := ha
  refine ⟨tCB (fun vs H Q => ∃ O y dx b, Al C.K O H ∧ vs = [y, .ty (tyN T)] ∧ Tp C.K O H y dx ∧ evIsi T dx = some b ∧ Q (.bl b) H) (tCons ta (tCons (tC (.ty (tyN T))) tNil)), fun X hX => ?_, fun O σ H env Q d r hf q => ?_⟩
  · rw [← hX.hK]
    exact pe_callB (cr_isi T) (show X.env.scope.names.lookup ("isinstance" : Str) = _ by rw [hX.hsc]; exact hg) (by rw [hX.hmg]; exact hm) (by decide +kernel)
      (pa_cons (ha1 X hX) (pa_cons (pe_bltn (show X.env.scope.names.lookup x = _ by rw [hX.hsc]; exact hg2) (by rw [hX.hmg]; exact hm2) hv2 rfl hn hdb) pa_nil) (star_ok hp)) (by decide) (by decide) (star_ok hp) (star_any rfl)
  · dsimp only at hf
    split at hf
    · cases hf
    · rename_i dx hdx
      obtain ⟨b, hb, ed⟩ := Option.map_eq_some_iff.mp hf
      subst ed
      refine ha2 O σ H env _ _ r hdx fun v H1 s1 hv => ?_
      exact ⟨O, v, dx, b, (r.mono s1).al, rfl, hv, hb, q _ H1 s1 (.bl _)⟩
theorem se_ix (ha : SB C a f) (hb : SB C b g) (hp : plainX b = true) : SE C (.Subscript a b pos) (fun env => match f env with
    | none => none
    | some x => match g env with
      | none => none
      | some y => opIx x y) := by
  obtain ⟨ta, ha1, ha2⟩ := ha
  obtain ⟨tb, hb1, hb2⟩ := hb
  refine ⟨tOp (rG2 C.K opIx) ta tb, fun X hX => ?_, fun O σ H env Q d r hf q => ?_⟩
  · rw [← hX.hK]; exact pe_ix ixr (ha1 X hX) (hb1 X hX) (plain_ix hp)
  · dsimp only at hf
    split at hf
    · cases hf
    · rename_i x hx
      split at hf
      · cases hf
      · rename_i y hy
        refine ha2 O σ H env _ x r hx fun v H1 s1 hv => hb2 O σ H1 env _ y (r.mono s1) hy fun w H2 s2 hw => ?_
        exact ⟨O, x, y, d, (r.mono (s1.trans s2)).al, hv.mono s2, hw, hf, fun z H' s3 hz => q z H' ((s1.trans s2).trans s3) hz⟩
/-- a part of a slice -/
def SO (C : Fam) (o : Option Expr) (f : En → Option (Option Int)) : Prop :=
  ∃ t, (∀ X, C.ok X → PO X o t) ∧ ∀ O σ H env Q d, Re C.K O σ H env → f env = some d → (∀ H', Same H H' → Q d H') → t σ H Q
theorem so_none : SO C none (fun _ => some none) := ⟨tNoPart, fun X hX => po_none, fun O σ H env Q d r hf q => by cases hf; exact q H (Same.refl H)⟩
theorem so_some (ha : SB C a f) : SO C (some a) (fun env => match f env with
    | some (.int i) => some (some i)
    | _ => none) := by
  obtain ⟨ta, ha1, ha2⟩ := ha
  refine ⟨tPart ta, fun X hX => po_some (ha1 X hX), fun O σ H env Q d r hf q => ?_⟩
  dsimp only at hf
  split at hf
  · rename_i i hi
    cases hf
    refine ha2 O σ H env _ _ r hi fun v H1 s1 hv => ?_
    cases hv.int
    exact ⟨i, rfl, q H1 s1⟩
  · cases hf
theorem SO.cg {o : Option Expr} {f f' : En → Option (Option Int)} (h : SO C o f) (q : ∀ env, f' env = f env) : SO C o f' := by
  have : f' = f := funext q
  rw [this]; exact h
theorem se_sl {lo hi : Option Expr} {l h : En → Option (Option Int)} {p2 : Pos} (ha : SB C a f) (hl : SO C lo l) (hh : SO C hi h) : SE C (.Subscript a (.Slice lo hi none p2) pos) (fun env => match f env with
    | none => none
    | some x => match l env with
      | none => none
      | some i => match h env with
        | none => none
        | some j => opSl x i j) := by
  obtain ⟨ta, ha1, ha2⟩ := ha
  obtain ⟨tl, hl1, hl2⟩ := hl
  obtain ⟨th, hh1, hh2⟩ := hh
  refine ⟨tSl (rGs C.K opSl) ta tl th, fun X hX => ?_, fun O σ H env Q d r hf q => ?_⟩
  · rw [← hX.hK]; exact pe_slice slr (ha1 X hX) (hl1 X hX) (hh1 X hX)
  · dsimp only at hf
    split at hf
    · cases hf
    · rename_i x hx
      split at hf
      · cases hf
      · rename_i i hi
        split at hf
        · cases hf
        · rename_i j hj
          refine ha2 O σ H env _ x r hx fun v H1 s1 hv => hl2 O σ H1 env _ i (r.mono s1) hi fun H2 s2 => hh2 O σ H2 env _ j (r.mono (s1.trans s2)) hj fun H3 s3 => ?_
          exact ⟨O, x, d, (r.mono ((s1.trans s2).trans s3)).al, hv.mono (s2.trans s3), hf, fun z H' s4 hz => q z H' (((s1.trans s2).trans s3).trans s4) hz⟩
end
end J

/-! Calls of defs, targets, what is walked, comprehensions. -/
namespace J
open PySem PySem.Spec PyProof.Rows L2
/-- what a def promises: the answer of F -/
def spF (K : PySem.W.Frag) (bs : List Bool) (F : List D → Option D) : Sp := fun vs H Q _ => ∃ O ds d, Al K O H ∧ ArgR K O H bs vs ds ∧ F ds = some d ∧ Wk K O H d Q
structure FnAt (C : Fam) (x : Str) (bs : List Bool) (F : List D → Option D) : Prop where
  ex : ∃ f fd ps, C.mg x = some (.ref f) ∧ FnOk C.P C.w C.K C.mg C.base CX0 C.n f fd ps (spF C.K bs F) ∧ PySem.W.keepIn C.K (.ref f) = true ∧ Binds C.K fd ps []
section
variable {C : Fam} {a b c e : Expr} {es : List Expr} {f g k : En → Option D} {pos : Pos}
theorem se_call {x : Str} {bs : List Bool} {F : List D → Option D} {h : En → Option (List D)} {p : Pos} (G : FnAt C x bs F) (hg : C.sc.names.lookup x = some .globalImplicit) (ha : SA C bs (e :: es) h) (hp : (e :: es).all plainX = true)
    (hdb : (x == ("__debug__" : Str)) = false) : SE C (.Call (.Name x p) (e :: es) [] pos) (fun env => match h env with
      | none => none
      | some ds => F ds) := by
  obtain ⟨ta, ha1, ha2⟩ := ha
  obtain ⟨fa, fd, ps, hm, hF, hk, hb⟩ := G.ex
  rw [List.all_cons, Bool.and_eq_true] at hp
  refine ⟨tCall (spF C.K bs F) [] E0 ta, fun X hX => ?_, fun O σ H env Q d r hf q => ?_⟩
  · refine pe_call (CX := CX0) (k := C.n) (f := fa) (fd := fd) (ps := ps) (ds := []) ?_ hX.room (show X.env.scope.names.lookup x = _ by rw [hX.hsc]; exact hg) (by rw [hX.hmg]; exact hm) (by rw [hX.hK]; exact hk) (by rw [hX.hK]; exact hb) .nil pass0 (ha1 X hX) hdb (star_ok hp.1) (star_any hp.2)
    rw [hX.hP, hX.hw, hX.hK, hX.hmg, hX.hb]
    exact hF
  · dsimp only at hf
    split at hf
    · cases hf
    · rename_i ds hds
      refine ha2 O σ H env _ _ r hds fun vs H1 s1 hvs => ?_
      rw [List.append_nil]
      exact ⟨O, ds, d, (r.mono s1).al, hvs, hf, fun v H' s hv => q v H' (s1.trans s) hv⟩

/-! ### join, split -/
def notCall : Expr → Bool
  | .Call _ _ _ _ => false
  | _ => true
theorem base_ok {o : Expr} {name : Str} {env : Env} (h : notCall o = true) : attributeBase o name env (eval o env) = eval o env := by
  cases o <;> first | rfl | (simp [notCall] at h)
theorem star1 {env : Env} (h : plainX e = true) : starEach [e] env = [(false, eval e env)] := star_ok h
theorem se_join {apos : Pos} (ha : SB C a f) (hb : SB C b g) (hp : plainX b = true) (ho : notCall a = true) (hl : (apos.endLine == pos.line) = true) :
    SE C (.Call (.Attribute a "join" apos) [b] [] pos) (fun env => match f env with
      | none => none
      | some x => match g env with
        | none => none
        | some y => opJoin x y) := by
  obtain ⟨ta, ha1, ha2⟩ := ha
  obtain ⟨tb, hb1, hb2⟩ := hb
  refine ⟨tM1 (fun x xs H Q => ∃ a p, ∃ ys : List Str, x = .str a ∧ xs = [.ref p] ∧ (SqL C.K H p (ys.map V.str) ∨ SqT C.K H p (ys.map V.str)) ∧ (ys.map (·.length)).sum + ys.length * a.length ≤ 16777216 ∧ Q (.str (Txt.join a ys)) H) ta tb,
    fun X hX => ?_, fun O σ H env Q d r hf q => ?_⟩
  · rw [← hX.hK]; exact pe_join (ha1 X hX) (hb1 X hX) (star1 hp) (base_ok ho) hl
  · dsimp only at hf
    split at hf
    · cases hf
    · rename_i x hx
      split at hf
      · cases hf
      · rename_i y hy
        refine ha2 O σ H env _ x r hx fun v H1 s1 hv => ?_
        unfold opJoin at hf
        split at hf
        · cases hv.str
          refine ⟨⟨_, rfl⟩, hb2 O σ H1 env _ _ (r.mono s1) hy fun w H2 s2 hw => ?_⟩
          obtain ⟨ys, hys, hf⟩ := Option.bind_eq_some_iff.mp hf
          split at hf
          · rename_i hl
            cases hf
            have := strs_eq hys
            subst this
            obtain ⟨p, vs, rfl, h1, h2⟩ := hw.list
            have := h2.ofStrs
            subst this
            exact ⟨_, p, ys, rfl, rfl, .inl (.inl (.inl h1)), by omega, q _ H2 (s1.trans s2) (.str _)⟩
          · cases hf
        · cases hf
theorem sf_split {apos : Pos} (ha : SB C a f) (hb : SB C b g) (hp : plainX b = true) (ho : notCall a = true) (hl : (apos.endLine == pos.line) = true) :
    SF C (.Call (.Attribute a "split" apos) [b] [] pos) (fun env => match f env with
      | none => none
      | some x => match g env with
        | none => none
        | some y => opSplit x y) := by
  obtain ⟨ta, ha1, ha2⟩ := ha
  obtain ⟨tb, hb1, hb2⟩ := hb
  refine ⟨_, fun X hX => pe_split (ha1 X hX) (hb1 X hX) (star1 hp) (base_ok ho) hl, fun O σ H env Q d r hf q => ?_⟩
  dsimp only at hf
  split at hf
  · cases hf
  · rename_i x hx
    split at hf
    · cases hf
    · rename_i y hy
      refine ha2 O σ H env _ x r hx fun v H1 s1 hv => ?_
      unfold opSplit at hf
      split at hf
      · cases hv.str
        refine ⟨⟨_, rfl⟩, hb2 O σ H1 env _ _ (r.mono s1) hy fun w H2 s2 hw => ?_⟩
        cases hw.str
        split at hf
        · rename_i hl
          cases hf
          refine ⟨_, _, rfl, rfl, by rw [hl.1]; rfl, Nat.le_trans (show _ ≤ 100002 by omega) (by decide), fun p hp => ?_⟩
          exact q p _ _ _ ((s1.trans s2).trans (same_upd hp)) ((s1.trans s2).free hp) rfl upd_same (DrA.strs _)
        · cases hf
      · cases hf
/-! ### list(range(..)), tuple(range(..)) -/
theorem rgV_rgD {K : PySem.W.Frag} {H : Hp} (lo hi : Int) : DrA K H (rgV lo hi) (rgD lo hi) := by
  unfold rgV rgD
  induction (List.range (hi - lo).toNat) with
  | nil => exact .nil
  | cons x r ih => exact .cons (.int _) ih
theorem rgOk_of {lo hi : Int} (h : rgOk lo hi = true) : RgOk lo hi := by
  unfold rgOk at h
  simp only [Bool.and_eq_true, decide_eq_true_eq] at h
  refine ⟨by omega, by omega, by omega, by omega, by omega⟩
/-- range(a), range(a, b) as an argument -/
def SR (C : Fam) (e : Expr) (l h : En → Option D) : Prop :=
  ∃ t, (∀ X, C.ok X → PRg X e t) ∧ ∀ O σ H env (Q : Int → Int → Hp → Prop) i j, Re C.K O σ H env → l env = some (.int i) → h env = some (.int j) → (∀ H', Same H H' → Q i j H') → t σ H Q
theorem sr_1 {p : Pos} (hg : C.sc.names.lookup ("range" : Str) = some .globalImplicit) (hm : C.mg "range" = none) (ha : SB C a f) (hp : plainX a = true) : SR C (.Call (.Name "range" p) [a] [] pos) (fun _ => some (.int 0)) f := by
  obtain ⟨ta, ha1, ha2⟩ := ha
  refine ⟨tRg1 ta, fun X hX => prg_1 (show X.env.scope.names.lookup ("range" : Str) = _ by rw [hX.hsc]; exact hg) (by rw [hX.hmg]; exact hm) (ha1 X hX) (star_ok hp), fun O σ H env Q i j r h1 h2 q => ?_⟩
  cases h1
  refine ha2 O σ H env _ _ r h2 fun v H1 s1 hv => ?_
  cases hv.int
  exact ⟨j, rfl, q H1 s1⟩
theorem sr_2 {p : Pos} (hg : C.sc.names.lookup ("range" : Str) = some .globalImplicit) (hm : C.mg "range" = none) (ha : SB C a f) (hb : SB C b g) (hp : plainX a = true) (hp2 : plainX b = true) : SR C (.Call (.Name "range" p) [a, b] [] pos) f g := by
  obtain ⟨ta, ha1, ha2⟩ := ha
  obtain ⟨tb, hb1, hb2⟩ := hb
  refine ⟨tRg2 ta tb, fun X hX => prg_2 (show X.env.scope.names.lookup ("range" : Str) = _ by rw [hX.hsc]; exact hg) (by rw [hX.hmg]; exact hm) (ha1 X hX) (hb1 X hX) (star_ok hp) (star_ok hp2) (hp := star_any (by rw [List.all_cons, hp2]; rfl)), fun O σ H env Q i j r h1 h2 q => ?_⟩
  refine ha2 O σ H env _ _ r h1 fun v H1 s1 hv => hb2 O σ H1 env _ _ (r.mono s1) h2 fun w H2 s2 hw => ?_
  cases hv.int
  cases hw.int
  exact ⟨i, j, rfl, rfl, q H2 (s1.trans s2)⟩
theorem opRg_of {x y : D} {ds : List D} (h : opRg x y = some ds) : ∃ i j, x = .int i ∧ y = .int j ∧ rgOk i j = true ∧ ds = rgD i j := by
  unfold opRg at h
  split at h
  · split at h
    · rename_i i j hr
      cases h
      exact ⟨_, _, rfl, rfl, hr, rfl⟩
    · cases h
  · cases h
theorem sf_rgL {p : Pos} {l h : En → Option D} (hr : SR C e l h) (hp : plainX e = true) (hg : C.sc.names.lookup ("list" : Str) = some .globalImplicit) (hm : C.mg "list" = none) : SF C (.Call (.Name "list" p) [e] [] pos) (fun env => match l env with
    | none => none
    | some x => match h env with
      | none => none
      | some y => (opRg x y).map .list) := by
  obtain ⟨t, h1, h2⟩ := hr
  refine ⟨tLstRg t, fun X hX => pe_listRg hX.calm (show X.env.scope.names.lookup ("list" : Str) = _ by rw [hX.hsc]; exact hg) (by rw [hX.hmg]; exact hm) (h1 X hX) (star_ok hp), fun O σ H env Q d r hf q => ?_⟩
  dsimp only at hf
  split at hf
  · cases hf
  · rename_i x hx
    split at hf
    · cases hf
    · rename_i y hy
      obtain ⟨ds, hds, ed⟩ := Option.map_eq_some_iff.mp hf
      obtain ⟨i, j, rfl, rfl, hk, rfl⟩ := opRg_of hds
      refine h2 O σ H env _ i j r hx hy fun H1 s1 => ⟨rgOk_of hk, fun p hp => ?_⟩
      exact q p _ _ _ (s1.trans (same_upd hp)) (s1.free hp) ed.symm upd_same (rgV_rgD i j)
theorem se_rgT {p : Pos} {l h : En → Option D} (hr : SR C e l h) (hp : plainX e = true) (hg : C.sc.names.lookup ("tuple" : Str) = some .globalImplicit) (hm : C.mg "tuple" = none) : SE C (.Call (.Name "tuple" p) [e] [] pos) (fun env => match l env with
    | none => none
    | some x => match h env with
      | none => none
      | some y => (opRg x y).map .tuple) := by
  obtain ⟨t, h1, h2⟩ := hr
  refine ⟨tTupRg t, fun X hX => pe_tupRg hX.calm (show X.env.scope.names.lookup ("tuple" : Str) = _ by rw [hX.hsc]; exact hg) (by rw [hX.hmg]; exact hm) (h1 X hX) (star_ok hp), fun O σ H env Q d r hf q => ?_⟩
  dsimp only at hf
  split at hf
  · cases hf
  · rename_i x hx
    split at hf
    · cases hf
    · rename_i y hy
      obtain ⟨ds, hds, ed⟩ := Option.map_eq_some_iff.mp hf
      obtain ⟨i, j, rfl, rfl, hk, rfl⟩ := opRg_of hds
      subst ed
      refine h2 O σ H env _ i j r hx hy fun H1 s1 => ⟨rgOk_of hk, fun p hp => ?_⟩
      exact wk_tup (fun v H' s hv => q v H' (s1.trans s) hv) (r.mono s1).al (rgV_rgD i j) p hp

/-! ### what is walked -/
def ItOk (K : PySem.W.Frag) (J : It) (ds : List D) (G : List (V × D)) : Prop := ∀ O H, Al K O H → (∀ g ∈ G, Dr K (mi H O) g.1 g.2) → ∀ i,
  (∀ d, ds[i]? = some d → J.go i H ∧ ∀ x H', J.yld i H x H' → Same H H' ∧ Dr K (mi H' O) x d) ∧ (ds.length ≤ i → J.stop i H)
def SI (C : Fam) (tg e : Expr) (f : En → Option (List D)) : Prop :=
  ∃ wi, (∀ X, C.ok X → PI X tg e wi) ∧ ∀ O σ H env (R : It → Hp → Prop) ds, Re C.K O σ H env → f env = some ds → (∀ J H1 G, Same H H1 → ItOk C.K J ds G → (∀ g ∈ G, Dr C.K (mi H1 O) g.1 g.2) → R J H1) → wi σ H R
theorem SI.cg {tg : Expr} {f f' : En → Option (List D)} (h : SI C tg e f) (q : ∀ env, f' env = f env) : SI C tg e f' := by
  have : f' = f := funext q
  rw [this]; exact h
theorem it_list {K : PySem.W.Frag} {a : Addr} {ds : List D} : ItOk K (Itl K a) ds [(.ref a, .list ds)] := fun O H al hG i => by
  have hg : Dr K (mi H O) (.ref a) (.list ds) := hG _ List.mem_cons_self
  cases hg with
  | lst h1 h2 =>
    rename_i xs
    have sq : SqL K H a xs := .inl (.inl (mi_lt h1))
    refine ⟨fun d hd => ?_, fun hl => ⟨xs, sq, by rw [h2.len]; exact hl⟩⟩
    obtain ⟨v, hv, hvd⟩ := h2.get hd
    refine ⟨⟨xs, v, sq, hv⟩, fun x H' hy => ?_⟩
    obtain ⟨rfl, hq⟩ := hy
    have := (hq xs sq).symm.trans hv
    cases this
    exact ⟨Same.refl _, hvd⟩
theorem it_tup {K : PySem.W.Frag} {a : Addr} {ds : List D} : ItOk K (Itt K a) ds [(.ref a, .tuple ds)] := fun O H al hG i => by
  have hg : Dr K (mi H O) (.ref a) (.tuple ds) := hG _ List.mem_cons_self
  cases hg with
  | tup h1 h2 =>
    rename_i xs
    have sq : SqT K H a xs := .inl (.inl (mi_lt h1))
    refine ⟨fun d hd => ?_, fun hl => ⟨xs, sq, by rw [h2.len]; exact hl⟩⟩
    obtain ⟨v, hv, hvd⟩ := h2.get hd
    refine ⟨⟨xs, v, sq, hv⟩, fun x H' hy => ?_⟩
    obtain ⟨rfl, hq⟩ := hy
    have := (hq xs sq).symm.trans hv
    cases this
    exact ⟨Same.refl _, hvd⟩
theorem it_scr {K : PySem.W.Frag} {a : Addr} {ns : List Int} : ItOk K (Itl K a) (ns.map .int) [(.ref a, .dict (ns.map fun n => (.int n, .none)))] := fun O H al hG i => by
  have hg : Dr K (mi H O) (.ref a) (.dict (ns.map fun n => (.int n, .none))) := hG _ List.mem_cons_self
  obtain ⟨b, ms, eb, em, sq⟩ := Tp.dict (Tp.of hg) (objD_scr ns)
  cases eb
  have inj : ∀ l l' : List Int, l.map (fun n => ((PyData.int n, PyData.none) : D × D)) = l'.map (fun n => (PyData.int n, PyData.none)) → l = l' := by
    intro l
    induction l with
    | nil => intro l' h; cases l' with
      | nil => rfl
      | cons _ _ => simp at h
    | cons x r ih => intro l' h; cases l' with
      | nil => simp at h
      | cons y r' => simp only [List.map_cons, List.cons.injEq, Prod.mk.injEq, PyData.int.injEq, and_true] at h; rw [h.1, ih r' h.2]
  have := inj _ _ em
  subst this
  refine ⟨fun d hd => ?_, fun hl => ⟨_, sq, by simpa using hl⟩⟩
  rw [List.getElem?_map] at hd
  obtain ⟨n, hn, ed⟩ := Option.map_eq_some_iff.mp hd
  subst ed
  have hv : (ns.map V.int)[i]? = some (.int n) := by rw [List.getElem?_map, hn]; rfl
  refine ⟨⟨_, _, sq, hv⟩, fun x H' hy => ?_⟩
  obtain ⟨rfl, hq⟩ := hy
  have := (hq _ sq).symm.trans hv
  cases this
  exact ⟨Same.refl _, .int _⟩
theorem it_str {K : PySem.W.Frag} {x : Str} : ItOk K (Its x) (charsD x) [] := fun O H al hG i => by
  have hsz : (charsD x).length = x.cps.size := by unfold charsD; rw [List.length_map, Array.length_toList]
  refine ⟨fun d hd => ?_, fun hl => by rw [hsz] at hl; exact hl⟩
  unfold charsD at hd
  rw [List.getElem?_map, Array.getElem?_toList] at hd
  obtain ⟨c, hc, ed⟩ := Option.map_eq_some_iff.mp hd
  subst ed
  refine ⟨(Array.getElem?_eq_some_iff.mp hc).1, fun y H' hy => ?_⟩
  obtain ⟨rfl, c', hc', rfl⟩ := hy
  rw [hc] at hc'
  cases hc'
  exact ⟨Same.refl _, .str _⟩
theorem it_rg {K : PySem.W.Frag} {lo hi : Int} : ItOk K (Itr lo (hi - lo).toNat) (rgD lo hi) [] := fun O H al hG i => by
  have hsz : (rgD lo hi).length = (hi - lo).toNat := by unfold rgD; rw [List.length_map, List.length_range]
  refine ⟨fun d hd => ?_, fun hl => by rw [hsz] at hl; exact hl⟩
  have hi' : i < (hi - lo).toNat := by rw [← hsz]; exact (List.getElem?_eq_some_iff.mp hd).1
  unfold rgD at hd
  rw [List.getElem?_map, List.getElem?_range hi'] at hd
  cases hd
  refine ⟨hi', fun y H' hy => ?_⟩
  obtain ⟨rfl, rfl⟩ := hy
  exact ⟨Same.refl _, .int _⟩
theorem PI.or {X : Cx} {tg e : Expr} {w1 w2 : TI} (h1 : PI X tg e w1) (h2 : PI X tg e w2) : PI X tg e (fun σ H R => w1 σ H R ∨ w2 σ H R) :=
  ⟨fun pins s σ H R I h => h.elim (fun q => h1.run pins s σ H R I q) fun q => h2.run pins s σ H R I q⟩
theorem si_any {tg : Expr} (h : SE C e f) : SI C tg e (fun env => match f env with
    | none => none
    | some x => itemsD x) := by
  obtain ⟨t, h1, h2⟩ := h
  refine ⟨fun σ H R => iList C.K t σ H R ∨ iTup C.K t σ H R ∨ iStr t σ H R, fun X hX => ?_, fun O σ H env R ds r hf q => ?_⟩
  · rw [← hX.hK]
    exact PI.or (pi_list (h1 X hX)) (PI.or (pi_tup (h1 X hX)) (pi_str (h1 X hX)))
  · dsimp only at hf
    split at hf
    · cases hf
    · rename_i x hx
      unfold itemsD at hf
      split at hf
      · cases hf
        refine .inl (h2 O σ H env _ _ r hx fun v H1 s1 hv => ?_)
        cases hv with
        | lst g1 g2 =>
          rename_i a xs
          refine ⟨a, rfl, ⟨xs, .inl (.inl (mi_lt g1))⟩, q _ H1 _ s1 it_list ?_⟩
          intro z hz
          rcases List.mem_singleton.mp hz with rfl
          exact .lst g1 g2
      · cases hf
        refine .inr (.inl (h2 O σ H env _ _ r hx fun v H1 s1 hv => ?_))
        cases hv with
        | tup g1 g2 =>
          rename_i a xs
          refine ⟨a, rfl, ⟨xs, .inl (.inl (mi_lt g1))⟩, q _ H1 _ s1 it_tup ?_⟩
          intro z hz
          rcases List.mem_singleton.mp hz with rfl
          exact .tup g1 g2
      · rename_i kvs
        refine .inl (h2 O σ H env _ _ r hx fun v H1 s1 hv => ?_)
        cases hv with
        | scr g1 =>
          rename_i a ns
          have e1 : (ns.map fun n => ((PyData.int n, PyData.none) : D × D)).map (·.1) = ns.map PyData.int := by rw [List.map_map]; rfl
          rw [e1] at hf
          cases hf
          refine ⟨a, rfl, ⟨_, same_sqL mi_le g1⟩, q _ H1 _ s1 it_scr ?_⟩
          intro z hz
          rcases List.mem_singleton.mp hz with rfl
          exact .scr g1
      · cases hf
        refine .inr (.inr (h2 O σ H env _ _ r hx fun v H1 s1 hv => ?_))
        cases hv
        exact ⟨_, rfl, q _ H1 [] s1 it_str fun z hz => by cases hz⟩
      · cases hf
theorem si_rg1 {tg : Expr} {p : Pos} (hg : C.sc.names.lookup ("range" : Str) = some .globalImplicit) (hm : C.mg "range" = none) (ha : SB C a f) (hp : plainX a = true) : SI C tg (.Call (.Name "range" p) [a] [] pos) (fun env => match (some (.int 0) : Option D) with
    | none => none
    | some l => match f env with
      | none => none
      | some h => opRg l h) := by
  obtain ⟨ta, ha1, ha2⟩ := ha
  refine ⟨iRng1 (tCons ta tNil), fun X hX => pi_range1 (show X.env.scope.names.lookup ("range" : Str) = _ by rw [hX.hsc]; exact hg) (by rw [hX.hmg]; exact hm) (pa_cons (ha1 X hX) pa_nil (star_ok hp)) (star1 hp), fun O σ H env R ds r hf q => ?_⟩
  dsimp only at hf
  split at hf
  · cases hf
  · rename_i y hy
    obtain ⟨i, j, ei, ej, hk, rfl⟩ := opRg_of hf
    cases ei
    subst ej
    unfold rgOk at hk
    simp only [Bool.and_eq_true, decide_eq_true_eq] at hk
    refine ha2 O σ H env _ _ r hy fun v H1 s1 hv => ?_
    cases hv.int
    refine ⟨j, rfl, by omega, by omega, ?_⟩
    have := q (Itr 0 (j - 0).toNat) H1 [] s1 it_rg (fun z hz => by cases hz)
    rw [Int.sub_zero] at this
    exact this
theorem si_rg2 {tg : Expr} {p : Pos} (hg : C.sc.names.lookup ("range" : Str) = some .globalImplicit) (hm : C.mg "range" = none) (ha : SB C a f) (hb : SB C b g) (hp : plainX a = true) (hp2 : plainX b = true) : SI C tg (.Call (.Name "range" p) [a, b] [] pos) (fun env => match f env with
    | none => none
    | some l => match g env with
      | none => none
      | some h => opRg l h) := by
  obtain ⟨ta, ha1, ha2⟩ := ha
  obtain ⟨tb, hb1, hb2⟩ := hb
  refine ⟨iRng2 (tCons ta (tCons tb tNil)), fun X hX => pi_range2 (show X.env.scope.names.lookup ("range" : Str) = _ by rw [hX.hsc]; exact hg) (by rw [hX.hmg]; exact hm) (pa_cons (ha1 X hX) (pa_cons (hb1 X hX) pa_nil (star_ok hp2)) (star_ok hp)) (by rw [star_ok hp, star1 hp2]) (star1 hp2), fun O σ H env R ds r hf q => ?_⟩
  dsimp only at hf
  split at hf
  · cases hf
  · rename_i x hx
    split at hf
    · cases hf
    · rename_i y hy
      obtain ⟨i, j, rfl, rfl, hk, rfl⟩ := opRg_of hf
      unfold rgOk at hk
      simp only [Bool.and_eq_true, decide_eq_true_eq] at hk
      refine ha2 O σ H env _ _ r hx fun v H1 s1 hv => hb2 O σ H1 env _ _ (r.mono s1) hy fun w H2 s2 hw => ?_
      cases hv.int
      cases hw.int
      exact ⟨i, j, rfl, ⟨by omega, by omega, by omega, by omega⟩, q _ H2 [] (s1.trans s2) it_rg fun z hz => by cases hz⟩

/-! ### targets -/
def tgs : List Nat → TGs
  | [] => gNil
  | i :: r => gCons (gName i) (tgs r)
def tgG (K : PySem.W.Frag) : List Nat → TG
  | [i] => gName i
  | tg => gTup K tg.length (tgs tg)
theorem tgs_run {K : PySem.W.Frag} {O : List Addr} {H : Hp} {Pr : L2.St → En → Prop} {Q : L2.St → Hp → Prop} {all : List Nat} (hset : ∀ σ env i v d, i ∈ all → Pr σ env → Dr K (mi H O) v d → Pr (σ.set i (some v)) (env.set i (.val d))) :
    ∀ (tg : List Nat) (vs : List V) (ds : List D) (σ : L2.St) (env env' : En), (∀ i ∈ tg, i ∈ all) → Pr σ env → DrA K (mi H O) vs ds → bindEach tg ds env = some env' → (∀ σ', Pr σ' env' → Q σ' H) → tgs tg vs σ H Q
  | [], vs, ds, σ, env, env', _, hp, hd, hb, q => by
    cases ds with
    | nil => cases hd; cases hb; exact ⟨rfl, q σ hp⟩
    | cons d ds => simp [bindEach] at hb
  | i :: tg, vs, ds, σ, env, env', hi, hp, hd, hb, q => by
    cases ds with
    | nil => simp [bindEach] at hb
    | cons d ds =>
      cases hd with
      | cons h1 h2 => exact ⟨_, _, rfl, tgs_run hset tg _ ds _ _ env' (fun j hj => hi j (List.mem_cons_of_mem _ hj)) (hset _ _ i _ _ (hi i List.mem_cons_self) hp h1) h2 hb q⟩
theorem bindEach_len : ∀ (tg : List Nat) (ds : List D) (env env' : En), bindEach tg ds env = some env' → tg.length = ds.length
  | [], [], _, _, _ => rfl
  | [], _ :: _, _, _, h => by simp [bindEach] at h
  | _ :: _, [], _, _, h => by simp [bindEach] at h
  | i :: tg, d :: ds, env, env', h => by rw [List.length_cons, List.length_cons, bindEach_len tg ds _ env' h]
theorem tgT_run {K : PySem.W.Frag} {O : List Addr} {H : Hp} {Pr : L2.St → En → Prop} {Q : L2.St → Hp → Prop} {tg : List Nat} (hset : ∀ σ env i v d, i ∈ tg → Pr σ env → Dr K (mi H O) v d → Pr (σ.set i (some v)) (env.set i (.val d)))
    {v : V} {ds : List D} {σ : L2.St} {env env' : En} (hp : Pr σ env) (hd : Dr K (mi H O) v (.tuple ds)) (hb : bindEach tg ds env = some env') (q : ∀ σ', Pr σ' env' → Q σ' H) : gTup K tg.length (tgs tg) v σ H Q := by
  cases hd with
  | tup h1 h2 => exact ⟨_, _, rfl, .inl (.inl (mi_lt h1)), by rw [h2.len, ← bindEach_len _ _ _ _ hb], tgs_run hset tg _ ds σ env env' (fun _ h => h) hp h2 hb q⟩
theorem tgG_run {K : PySem.W.Frag} {O : List Addr} {H : Hp} {Pr : L2.St → En → Prop} {Q : L2.St → Hp → Prop} {tg : List Nat} (hset : ∀ σ env i v d, i ∈ tg → Pr σ env → Dr K (mi H O) v d → Pr (σ.set i (some v)) (env.set i (.val d)))
    {v : V} {d : D} {σ : L2.St} {env env' : En} (hp : Pr σ env) (hd : Dr K (mi H O) v d) (hb : bindT tg d env = some env') (q : ∀ σ', Pr σ' env' → Q σ' H) : tgG K tg v σ H Q := by
  match tg with
  | [i] =>
    have hb' : some (env.set i (.val d)) = some env' := hb
    cases hb'
    exact q _ (hset _ _ i _ _ List.mem_cons_self hp hd)
  | [] =>
    cases d <;> first | (simp [bindT] at hb; done) | skip
    exact tgT_run hset hp hd hb q
  | i :: j :: r =>
    cases d <;> first | (simp [bindT] at hb; done) | skip
    exact tgT_run hset hp hd hb q
/-- a target's names -/
inductive TgN (C : Fam) : Expr → Nat → Prop
  | mk {x : Str} {i : Nat} {pos : Pos} (hi : C.N[i]? = some x) (hx : C.sc.names.lookup x = some .local ∨ (C.sc.names.lookup x = some .cell ∧ C.top = true)) : TgN C (.Name x pos) i
theorem TgN.pg {C : Fam} {e : Expr} {i : Nat} (h : TgN C e i) (nd : C.N.Nodup) {X : Cx} (hX : C.ok X) : PG X e (gName i) := by
  cases h with
  | mk hi hx =>
    refine pg_name (by rw [hX.hN]; exact nd) (by rw [hX.hN]; exact hi) ?_ ?_
    · rcases hx with hx | hx
      · exact .inl (by rw [hX.hsc]; exact hx)
      · exact .inr (by rw [hX.hsc]; exact hx.1)
    · rcases hx with hx | hx
      · exact .inr (by rw [hX.hsc]; exact hx)
      · exact .inl (hX.fn hx.2 _)
inductive TgNs (C : Fam) : List Expr → List Nat → Prop
  | nil : TgNs C [] []
  | cons {e : Expr} {es : List Expr} {i : Nat} {is : List Nat} : TgN C e i → TgNs C es is → TgNs C (e :: es) (i :: is)
theorem TgNs.pgs {C : Fam} (nd : C.N.Nodup) {X : Cx} (hX : C.ok X) : ∀ {es : List Expr} {is : List Nat}, TgNs C es is → PGs X es (tgs is)
  | _, _, .nil => pgs_nil
  | _, _, .cons h t => by
    refine pgs_cons (h.pg nd hX) (TgNs.pgs nd hX t) ?_
    cases h
    rfl
theorem TgNs.facts {C : Fam} {env : Env} : ∀ {es : List Expr} {is : List Nat}, TgNs C es is → (assignEach es env).length = is.length ∧ (assignEach es env).findIdx? (·.1) = none
  | _, _, .nil => ⟨rfl, rfl⟩
  | _, _, .cons h t => by
    obtain ⟨h1, h2⟩ := TgNs.facts (env := env) t
    cases h
    refine ⟨?_, ?_⟩
    · show (assignEach _ env).length + 1 = _
      rw [h1]; rfl
    · show List.findIdx? (·.1) ((false, _) :: assignEach _ env) = none
      rw [List.findIdx?_cons, h2]; rfl
/-- a target: a name, or a tuple of names -/
inductive TgOk (C : Fam) : Expr → List Nat → Prop
  | name {e : Expr} {i : Nat} : TgN C e i → TgOk C e [i]
  | tup {es : List Expr} {i j : Nat} {is : List Nat} {k : Nat} {pos : Pos} : TgNs C es (i :: j :: is) → TgOk C (.Tuple es k pos) (i :: j :: is)
theorem TgOk.pg {C : Fam} {e : Expr} {tg : List Nat} (h : TgOk C e tg) (nd : C.N.Nodup) {X : Cx} (hX : C.ok X) : PG X e (tgG C.K tg) := by
  cases h with
  | name h => exact h.pg nd hX
  | tup h =>
    have q := h.facts (env := X.env)
    have := pg_tup (k := ‹Nat›) (pos := ‹Pos›) hX.calm (h.pgs nd hX) q.1 q.2
    rw [hX.hK] at this
    exact this

/-! ### comprehensions -/
theorem wipeE_len {env : En} : ∀ vs : List Nat, (wipeE env vs).length = env.length
  | [] => rfl
  | v :: vs => by unfold wipeE; rw [List.length_set, wipeE_len vs]
theorem wipeE_out {env : En} {i : Nat} : ∀ {vs : List Nat}, i ∉ vs → (wipeE env vs)[i]? = env[i]?
  | [], _ => rfl
  | v :: vs, h => by
    simp only [List.mem_cons, not_or] at h
    unfold wipeE
    rw [List.getElem?_set_ne (fun e => h.1 e.symm), wipeE_out h.2]
theorem wipeE_in {env : En} {i : Nat} {d : Sl} : ∀ {vs : List Nat}, (wipeE env vs)[i]? = some d → d = .no ∨ (i ∉ vs ∧ env[i]? = some d)
  | [], h => .inr ⟨by simp, h⟩
  | v :: vs, h => by
    unfold wipeE at h
    by_cases hi : v = i
    · subst hi
      by_cases hl : v < (wipeE env vs).length
      · rw [List.getElem?_set_self hl] at h
        cases h
        exact .inl rfl
      · rw [List.getElem?_eq_none (by simpa using hl)] at h
        cases h
    · rw [List.getElem?_set_ne hi] at h
      rcases wipeE_in h with h | ⟨h1, h2⟩
      · exact .inl h
      · refine .inr ⟨?_, h2⟩
        simp only [List.mem_cons, not_or]
        exact ⟨fun e => hi e.symm, h1⟩
theorem Re.wipe {K : PySem.W.Frag} {O : List Addr} {σ : L2.St} {H : Hp} {env : En} (h : Re K O σ H env) (vs : List Nat) : Re K O (wipe σ vs) H (wipeE env vs) where
  len := by rw [wipe_length, wipeE_len]; exact h.len
  al := h.al
  val := fun i d q => by
    rcases wipeE_in q with z | ⟨h1, h2⟩
    · cases z
    · rw [wipe_out h1]; exact h.val i d h2
  own := fun i d q => by
    rcases wipeE_in q with z | ⟨h1, h2⟩
    · cases z
    · rw [wipe_out h1]; exact h.own i d h2
  bor := fun i d q => by
    rcases wipeE_in q with z | ⟨h1, h2⟩
    · cases z
    · rw [wipe_out h1]; exact h.bor i d h2
theorem Re.set {K : PySem.W.Frag} {O : List Addr} {σ : L2.St} {H : Hp} {env : En} (h : Re K O σ H env) {i : Nat} {v : V} {d : D} (hv : Dr K (mi H O) v d) : Re K O (σ.set i (some v)) H (env.set i (.val d)) where
  len := by rw [List.length_set, List.length_set]; exact h.len
  al := h.al
  val := fun j e q => by
    by_cases hij : i = j
    · subst hij
      by_cases hil : i < env.length
      · rw [List.getElem?_set_self hil] at q
        cases q
        exact ⟨v, List.getElem?_set_self (by rw [h.len]; exact hil), hv⟩
      · rw [List.getElem?_eq_none (by simpa using hil)] at q
        cases q
    · rw [List.getElem?_set_ne hij] at q
      rw [List.getElem?_set_ne hij]
      exact h.val j e q
  own := fun j e q => by
    by_cases hij : i = j
    · subst hij
      by_cases hil : i < env.length
      · rw [List.getElem?_set_self hil] at q
        cases q
      · rw [List.getElem?_eq_none (by simpa using hil)] at q
        cases q
    · rw [List.getElem?_set_ne hij] at q
      rw [List.getElem?_set_ne hij]
      exact h.own j e q
  bor := fun j e q => by
    by_cases hij : i = j
    · subst hij
      by_cases hil : i < env.length
      · rw [List.getElem?_set_self hil] at q
        cases q
      · rw [List.getElem?_eq_none (by simpa using hil)] at q
        cases q
    · rw [List.getElem?_set_ne hij] at q
      rw [List.getElem?_set_ne hij]
      exact h.bor j e q
end
end J

/-! Comprehensions; statements. -/
namespace J
open PySem PySem.Spec PyProof.Rows L2
theorem wipe_set {σ : L2.St} {i : Nat} {x : Option V} : ∀ {vs : List Nat}, i ∈ vs → wipe (σ.set i x) vs = wipe σ vs
  | [], h => by cases h
  | v :: vs, h => by
    unfold wipe
    by_cases hi : i = v
    · subst hi
      by_cases hm : i ∈ vs
      · rw [wipe_set hm]
      · have e : ∀ (ws : List Nat), i ∉ ws → wipe (σ.set i x) ws = (wipe σ ws).set i x := by
          intro ws
          induction ws with
          | nil => intro _; rfl
          | cons w ws ih =>
            intro hw
            simp only [List.mem_cons, not_or] at hw
            unfold wipe
            rw [ih hw.2, List.set_comm _ _ (fun z => hw.1 z)]
        rw [e vs hm, List.set_set]
    · have hm : i ∈ vs := by
        rcases List.mem_cons.mp h with z | z
        · exact absurd z hi
        · exact z
      rw [wipe_set hm]
theorem wipe_wipe {σ : L2.St} : ∀ (vs ws : List Nat), (∀ i ∈ vs, i ∈ ws) → wipe (wipe σ vs) ws = wipe σ ws
  | [], ws, _ => rfl
  | v :: vs, ws, h => by
    show wipe ((wipe σ vs).set v none) ws = _
    rw [wipe_set (h v List.mem_cons_self), wipe_wipe vs ws fun i hi => h i (List.mem_cons_of_mem _ hi)]
theorem mi_fresh {H H' : Hp} {O : List Addr} {p : Addr} (hp : H p = none) (s : Same H H') : Same (mi H O) (mi H' (p :: O)) := mi_of fun b u e1 e2 e3 => by
  have hb : b ≠ p := ne_of_none e2 hp
  exact ⟨by simp only [List.mem_cons, not_or]; exact ⟨hb, e1⟩, s.ext b u e2 e3⟩
theorem Tp.fresh {K : PySem.W.Frag} {H H' : Hp} {O : List Addr} {p : Addr} {v : V} {d : D} (h : Tp K O H v d) (hp : H p = none) (s : Same H H') : Tp K (p :: O) H' v d := h.mono' s (mi_fresh hp s)
theorem Re.fresh {K : PySem.W.Frag} {O : List Addr} {σ : L2.St} {H H' : Hp} {env : En} {p : Addr} (h : Re K O σ H env) (hp : H p = none) (s : Same H H') (hp' : ntO (H' p) = true) : Re K (p :: O) σ H' env where
  len := h.len
  al := ⟨fun a ha => by
    rcases List.mem_cons.mp ha with rfl | ha
    · exact hp'
    · exact (h.al.mono s).nt a ha, h.al.tb.mono s⟩
  val := fun i d q => let ⟨v, h1, h2⟩ := h.val i d q; ⟨v, h1, Dr.mono (mi_fresh hp s) d h2⟩
  own := fun i ds q => let ⟨a, vs, h1, h2, h3⟩ := h.own i ds q; ⟨a, vs, h1, s.at h2, DrA.mono (mi_fresh hp s) ds h3⟩
  bor := fun i d q => let ⟨v, h1, h2⟩ := h.bor i d q; ⟨v, h1, h2.fresh hp s⟩
/-- a comprehension's tests -/
def SC (C : Fam) (ifs : List Expr) (f : En → Option Bool) : Prop :=
  ∃ t, (∀ X, C.ok X → PTs X ifs t) ∧ ∀ O σ H env Q b, Re C.K O σ H env → f env = some b → (∀ H', Same H H' → Q b H') → t σ H Q
section
variable {C : Fam} {a b c e : Expr} {es : List Expr} {f g k : En → Option D} {pos : Pos}
theorem sc_nil : SC C [] (fun _ => some true) := ⟨tYes, fun X hX => pts_nil, fun O σ H env Q b r hf q => by cases hf; exact q H (Same.refl H)⟩
theorem sc_one (h : ST C a f) : SC C [a] (fun env => testD (f env)) := by
  obtain ⟨t, h1, h2⟩ := h
  refine ⟨t, fun X hX => pts_one (h1 X hX), fun O σ H env Q b r hf q => h2 O σ H env Q b r ?_ q⟩
  dsimp only at hf
  unfold testD at hf
  split at hf
  · rename_i b' hb
    cases hf
    exact hb
  · cases hf
theorem SC.cg {ifs : List Expr} {f f' : En → Option Bool} (h : SC C ifs f) (q : ∀ env, f' env = f env) : SC C ifs f' := by
  have : f' = f := funext q
  rw [this]; exact h
theorem lc_run {K : PySem.W.Frag} {tg vs : List Nat} {tt : TT} {te : TE} {cond : En → Option Bool} {elt : En → Option D} (htg : ∀ i ∈ tg, i ∈ vs)
    (ht : ∀ O σ H env Q b, Re K O σ H env → cond env = some b → (∀ H', Same H H' → Q b H') → tt σ H Q) (he : ∀ O σ H env Q d, Re K O σ H env → elt env = some d → Wk K O H d Q → te σ H Q)
    {O : List Addr} {σ : L2.St} {H : Hp} {env : En} (r : Re K O σ H env) {J : It} {ds tot : List D} {G : List (V × D)} (hJ : ItOk K J ds G) (hG : ∀ z ∈ G, Dr K (mi H O) z.1 z.2) (hz : ds.length ≤ 40000)
    (hc : compL (turnC tg vs cond elt env) ds = some tot) {Dl : Addr} (hD : H Dl = none) {Q : VK} (q : ∀ us H', Same H H' → H' Dl = some (.lst us) → DrA K (mi H' (Dl :: O)) us tot → Q (.ref Dl) H') :
    ∃ W : Nat → Nat → Hp → Prop, (∃ m, W 0 m (upd H Dl (.lst []))) ∧ ∀ i m H, W i m H →
      (J.stop i H ∧ Q (.ref Dl) H) ∨ (J.go i H ∧ ∃ Nx : Hp → Prop, (∀ H', Nx H' → ∃ m', m' < m ∧ W (i + 1) m' H') ∧ ∀ x H', J.yld i H x H' → tgG K tg x (wipe σ vs) H' fun σ2 H2 => wipe σ2 vs = wipe σ vs ∧ tt σ2 H2 fun b H3 =>
        if b = true then te σ2 H3 fun y H4 => ∃ acc, H4 Dl = some (.lst acc) ∧ acc.length < sizeLine ∧ Nx (upd H4 Dl (.lst (acc ++ [y]))) else Nx H3) := by
  refine ⟨fun i m H' => m = ds.length - i ∧ i ≤ ds.length ∧ Same H H' ∧ ∃ us ys rest, H' Dl = some (.lst us) ∧ us.length ≤ i ∧ DrA K (mi H' (Dl :: O)) us ys ∧ compL (turnC tg vs cond elt env) (ds.drop i) = some rest ∧ ys ++ rest = tot,
    ⟨ds.length, rfl, Nat.zero_le _, same_upd hD, [], [], tot, upd_same, Nat.le_refl _, .nil, hc, rfl⟩, fun i m H' hW => ?_⟩
  obtain ⟨em, hi, s, us, ys, rest, hl, hul, hu, hr, et⟩ := hW
  have al' : Al K (Dl :: O) H' := ⟨fun a ha => by
    rcases List.mem_cons.mp ha with rfl | ha
    · rw [hl]; rfl
    · exact (r.al.mono s).nt a ha, r.al.tb.mono s⟩
  have hG' : ∀ z ∈ G, Dr K (mi H' (Dl :: O)) z.1 z.2 := fun z hz => Dr.mono (mi_fresh hD s) _ (hG z hz)
  obtain ⟨j1, j2⟩ := hJ (Dl :: O) H' al' hG' i
  by_cases hin : i < ds.length
  · refine .inr ?_
    have hd : ds[i]? = some ds[i] := List.getElem?_eq_getElem hin
    obtain ⟨hgo, hy⟩ := j1 _ hd
    rw [List.drop_eq_getElem_cons hin] at hr
    unfold compL at hr
    split at hr
    · cases hr
    · rename_i yo hyo
      split at hr
      · cases hr
      · rename_i rest' hr'
        refine ⟨hgo, fun H'' => ∃ m', m' < m ∧ (m' = ds.length - (i + 1) ∧ i + 1 ≤ ds.length ∧ Same H H'' ∧ ∃ us ys rest, H'' Dl = some (.lst us) ∧ us.length ≤ i + 1 ∧ DrA K (mi H'' (Dl :: O)) us ys ∧ compL (turnC tg vs cond elt env) (ds.drop (i + 1)) = some rest ∧ ys ++ rest = tot), fun _ h => h, fun x H2 hx => ?_⟩
        obtain ⟨s2, hxd⟩ := hy x H2 hx
        have hl2 : H2 Dl = some (.lst us) := s2.at hl
        unfold turnC at hyo
        split at hyo
        · cases hyo
        · rename_i env' hb
          have rr : Re K (Dl :: O) (wipe σ vs) H2 (wipeE env vs) := (r.wipe vs).fresh hD (s.trans s2) (by rw [hl2]; rfl)
          refine tgG_run (Pr := fun σ' e' => Re K (Dl :: O) σ' H2 e' ∧ wipe σ' vs = wipe σ vs) (fun σ' e' i' v d hi' hp hv => ⟨hp.1.set hv, by rw [wipe_set (htg i' hi')]; exact hp.2⟩)
            ⟨rr, wipe_wipe vs vs fun _ h => h⟩ hxd hb fun σ2 hp => ⟨hp.2, ?_⟩
          split at hyo
          · cases hyo
          · rename_i hcd
            cases hyo
            refine ht _ σ2 H2 env' _ _ hp.1 hcd fun H3 s3 => iteF ⟨_, by omega, rfl, hin, (s.trans s2).trans s3, us, ys, rest', s3.at hl2, by omega, DrA.mono (mi_same (s2.trans s3)) _ hu, hr', ?_⟩
            cases hr
            exact et
          · rename_i hcd
            split at hyo
            · cases hyo
            · rename_i y hyy
              cases hyo
              cases hr
              refine ht _ σ2 H2 env' _ _ hp.1 hcd fun H3 s3 => iteT (he _ σ2 H3 env' _ _ (hp.1.mono s3) hyy fun v H4 s4 hv => ?_)
              have hl4 : H4 Dl = some (.lst us) := s4.at (s3.at hl2)
              have sal : Same H4 (upd H4 Dl (.lst (us ++ [v]))) → True := fun _ => trivial
              have emi : mi (upd H4 Dl (.lst (us ++ [v]))) (Dl :: O) = mi H4 (Dl :: O) := by
                funext b
                unfold mi
                split
                · rfl
                · rename_i hb
                  simp only [List.mem_cons, not_or] at hb
                  rw [upd_ne hb.1]
              refine ⟨us, hl4, szlt (by omega), _, by omega, rfl, hin, ?_, us ++ [v], ys ++ [y], rest', upd_same, by rw [List.length_append]; show us.length + 1 ≤ i + 1; omega, ?_, hr', by rw [List.append_assoc]; exact et⟩
              · exact ((s.trans s2).trans (s3.trans s4)).upd hD (by rw [hl4]; rfl)
              · rw [emi]
                exact DrA.app (DrA.mono (mi_same ((s2.trans s3).trans s4)) _ hu) (.cons hv .nil)
  · refine .inl ⟨j2 (by omega), ?_⟩
    have ei : i = ds.length := by omega
    rw [ei, List.drop_length] at hr
    cases hr
    rw [List.append_nil] at et
    subst et
    exact q us H' s hl hu
/-- a comprehension's own slots, as the layer wants them -/
def ownOf (N : List Str) (vs : List Nat) : List (Str × Nat) := vs.map fun i => (N.getD i "", i)
theorem ownOf_snd (N : List Str) (vs : List Nat) : (ownOf N vs).map (·.2) = vs := by
  unfold ownOf
  rw [List.map_map]
  exact List.map_id _
theorem sf_comp {elt tge iter : Expr} {ifs : List Expr} {scope : Scope} {tg vs : List Nat} {src : En → Option (List D)} {cond : En → Option Bool} (nd : C.N.Nodup) (hi : SI C tge iter src) (hp : plainX iter = true) (ok : BlkOk C.N C.sc scope (ownOf C.N vs)) (ht : TgOk (C.blk scope) tge tg) (htg : ∀ i ∈ tg, i ∈ vs)
    (hc : SC (C.blk scope) ifs cond) (he : SE (C.blk scope) elt f) : SF C (.ListComp elt [⟨tge, iter, ifs, 0⟩] scope pos) (fun env => match src env with
      | none => none
      | some ds => if ds.length ≤ 40000 then (compL (turnC tg vs cond f env) ds).map PyData.list else none) := by
  obtain ⟨wi, hi1, hi2⟩ := hi
  obtain ⟨tt, hc1, hc2⟩ := hc
  obtain ⟨te, he1, he2⟩ := he
  refine ⟨tLc wi (tgG C.K tg) tt te vs, fun X hX => ?_, fun O σ H env Q d r hf q => ?_⟩
  · have := pe_lc (pos := pos) (own := ownOf C.N vs) hX.calm (by rw [hX.hN]; exact nd) (hi1 X hX) (by rw [hX.hN, hX.hsc]; exact ok) (fun s H A cl fp => ht.pg nd hX.blk) (fun s H A cl fp => hc1 _ hX.blk) (fun s H A cl fp => he1 _ hX.blk) (nofold hp)
    rw [ownOf_snd] at this
    exact this
  · dsimp only at hf
    split at hf
    · cases hf
    · rename_i ds hds
      split at hf
      · rename_i hz
        obtain ⟨tot, htot, ed⟩ := Option.map_eq_some_iff.mp hf
        refine hi2 O σ H env _ ds r hds fun J H1 G s1 hJ hG Dl hD => ?_
        exact lc_run htg hc2 he2 (r.mono s1) hJ hG hz htot hD fun us H' s2 h1 h2 => q Dl us tot H' (s1.trans s2) (s1.free hD) ed.symm h1 h2
      · cases hf
end
end J

/-! Statements. -/
namespace J
open PySem PySem.Spec PyProof.Rows L2
/-- the state between two statements: O0, H0 the entry's; O the addresses that are kept apart, oa i that of the owned list in slot i; G what a loop walks -/
structure Rf (K : PySem.W.Frag) (O0 : List Addr) (H0 : Hp) (G : List (V × D)) (σ : L2.St) (H : Hp) (env : En) (O : List Addr) (oa : Nat → Addr) : Prop where
  len : σ.length = env.length
  al : Al K O H
  val : ∀ (i : Nat) (d : D), env[i]? = some (Sl.val d) → ∃ v, σ[i]? = some (some v) ∧ Dr K (mi H O) v d
  own : ∀ (i : Nat) (ds : List D), env[i]? = some (Sl.own ds) → σ[i]? = some (some (.ref (oa i))) ∧ oa i ∈ O ∧ H0 (oa i) = none ∧ oa i ∉ O0 ∧ ∃ vs, H (oa i) = some (.lst vs) ∧ DrA K (mi H O) vs ds
  bor : ∀ (i : Nat) (d : D), env[i]? = some (Sl.bor d) → ∃ v, σ[i]? = some (some v) ∧ Tp K O0 H0 v d
  inj : ∀ (i j : Nat) (ds es : List D), env[i]? = some (Sl.own ds) → env[j]? = some (Sl.own es) → oa i = oa j → i = j
  gh : ∀ g ∈ G, Dr K (mi H O) g.1 g.2
  ext : Same H0 H
  sub : ∀ a ∈ O0, a ∈ O
  new : ∀ a ∈ O, a ∈ O0 ∨ H0 a = none
def RF (K : PySem.W.Frag) (O0 : List Addr) (H0 : Hp) (G : List (V × D)) (σ : L2.St) (H : Hp) (env : En) : Prop := ∃ O oa, Rf K O0 H0 G σ H env O oa
section
variable {K : PySem.W.Frag} {O0 O : List Addr} {H0 H H' : Hp} {G : List (V × D)} {σ : L2.St} {env : En} {oa : Nat → Addr}
theorem Rf.base (h : Rf K O0 H0 G σ H env O oa) : Same (mi H0 O0) (mi H O) := mi_of fun b u e1 e2 e3 => by
  refine ⟨fun z => ?_, h.ext.ext b u e2 e3⟩
  rcases h.new b z with q | q
  · exact e1 q
  · rw [q] at e2; cases e2
theorem Rf.re (h : Rf K O0 H0 G σ H env O oa) : Re K O σ H env where
  len := h.len
  al := h.al
  val := h.val
  own := fun i ds q => let ⟨h1, _, _, _, vs, h2, h3⟩ := h.own i ds q; ⟨_, vs, h1, h2, h3⟩
  bor := fun i d q => by
    obtain ⟨v, h1, h2⟩ := h.bor i d q
    exact ⟨v, h1, h2.mono' h.ext h.base⟩
theorem Rf.mono (h : Rf K O0 H0 G σ H env O oa) (e : Same H H') : Rf K O0 H0 G σ H' env O oa where
  len := h.len
  al := h.al.mono e
  val := fun i d q => let ⟨v, h1, h2⟩ := h.val i d q; ⟨v, h1, Dr.mono (mi_same e) d h2⟩
  own := fun i ds q => let ⟨h1, h2, h3, h4, vs, h5, h6⟩ := h.own i ds q; ⟨h1, h2, h3, h4, vs, e.at h5, DrA.mono (mi_same e) ds h6⟩
  bor := h.bor
  inj := h.inj
  gh := fun g hg => Dr.mono (mi_same e) _ (h.gh g hg)
  ext := h.ext.trans e
  sub := h.sub
  new := h.new
theorem get_set {α : Type} {l : List α} {i j : Nat} {x y : α} (h : (l.set i x)[j]? = some y) : (i = j ∧ y = x ∧ i < l.length) ∨ (i ≠ j ∧ l[j]? = some y) := by
  by_cases hij : i = j
  · subst hij
    by_cases hil : i < l.length
    · rw [List.getElem?_set_self hil] at h
      cases h
      exact .inl ⟨rfl, rfl, hil⟩
    · rw [List.getElem?_eq_none (by simpa using hil)] at h
      cases h
  · rw [List.getElem?_set_ne hij] at h
    exact .inr ⟨hij, h⟩
theorem Rf.set (h : Rf K O0 H0 G σ H env O oa) {i : Nat} {v : V} {d : D} (hv : Dr K (mi H O) v d) : Rf K O0 H0 G (σ.set i (some v)) H (env.set i (.val d)) O oa where
  len := by rw [List.length_set, List.length_set]; exact h.len
  al := h.al
  val := fun j e q => by
    rcases get_set q with ⟨rfl, e1, hl⟩ | ⟨hij, q⟩
    · cases e1
      exact ⟨v, List.getElem?_set_self (by rw [h.len]; exact hl), hv⟩
    · rw [List.getElem?_set_ne hij]; exact h.val j e q
  own := fun j e q => by
    rcases get_set q with ⟨rfl, e1, hl⟩ | ⟨hij, q⟩
    · cases e1
    · rw [List.getElem?_set_ne hij]; exact h.own j e q
  bor := fun j e q => by
    rcases get_set q with ⟨rfl, e1, hl⟩ | ⟨hij, q⟩
    · cases e1
    · rw [List.getElem?_set_ne hij]; exact h.bor j e q
  inj := fun a b x y q1 q2 e => by
    rcases get_set q1 with ⟨rfl, e1, _⟩ | ⟨_, q1⟩
    · cases e1
    · rcases get_set q2 with ⟨rfl, e1, _⟩ | ⟨_, q2⟩
      · cases e1
      · exact h.inj a b x y q1 q2 e
  gh := h.gh
  ext := h.ext
  sub := h.sub
  new := h.new
/-- a fresh list is taken into slot i -/
theorem Rf.setO (h : Rf K O0 H0 G σ H env O oa) {i : Nat} {p : Addr} {vs : List V} {ds : List D} (s : Same H H') (hp : H p = none) (hl : H' p = some (.lst vs)) (hv : DrA K (mi H' (p :: O)) vs ds) :
    Rf K O0 H0 G (σ.set i (some (.ref p))) H' (env.set i (.own ds)) (p :: O) (fun j => if j = i then p else oa j) := by
  have hp0 : H0 p = none := h.ext.free hp
  have hpO : p ∉ O := h.al.out hp
  have hm : Same (mi H O) (mi H' (p :: O)) := mi_fresh hp s
  refine ⟨by rw [List.length_set, List.length_set]; exact h.len, ?_, fun j e q => ?_, fun j e q => ?_, fun j e q => ?_, fun a b x y q1 q2 e => ?_, fun g hg => Dr.mono hm _ (h.gh g hg), h.ext.trans s, fun a ha => List.mem_cons_of_mem _ (h.sub a ha), fun a ha => ?_⟩
  · refine ⟨fun a ha => ?_, h.al.tb.mono s⟩
    rcases List.mem_cons.mp ha with rfl | ha
    · rw [hl]; rfl
    · exact (h.al.mono s).nt a ha
  · rcases get_set q with ⟨rfl, e1, _⟩ | ⟨hij, q⟩
    · cases e1
    · rw [List.getElem?_set_ne hij]
      obtain ⟨v, h1, h2⟩ := h.val j e q
      exact ⟨v, h1, Dr.mono hm _ h2⟩
  · rcases get_set q with ⟨rfl, e1, hil⟩ | ⟨hij, q⟩
    · cases e1
      rw [if_pos rfl]
      exact ⟨List.getElem?_set_self (by rw [h.len]; exact hil), List.mem_cons_self, hp0, fun z => hpO (h.sub p z), vs, hl, hv⟩
    · rw [List.getElem?_set_ne hij, if_neg fun z => hij z.symm]
      obtain ⟨h1, h2, h3, h4, us, h5, h6⟩ := h.own j e q
      exact ⟨h1, List.mem_cons_of_mem _ h2, h3, h4, us, s.at h5, DrA.mono hm _ h6⟩
  · rcases get_set q with ⟨rfl, e1, _⟩ | ⟨hij, q⟩
    · cases e1
    · rw [List.getElem?_set_ne hij]; exact h.bor j e q
  · have ne : ∀ (j : Nat) (z : List D), env[j]? = some (Sl.own z) → oa j ≠ p := fun j z q e => by
      obtain ⟨_, h2, _⟩ := h.own j z q
      rw [e] at h2; exact hpO h2
    rcases get_set q1 with ⟨rfl, _, _⟩ | ⟨hia, q1⟩
    · rcases get_set q2 with ⟨rfl, _, _⟩ | ⟨hib, q2⟩
      · rfl
      · rw [if_pos rfl, if_neg fun z => hib z.symm] at e
        exact absurd e.symm (ne b y q2)
    · rcases get_set q2 with ⟨rfl, _, _⟩ | ⟨hib, q2⟩
      · rw [if_pos rfl, if_neg fun z => hia z.symm] at e
        exact absurd e (ne a x q1)
      · rw [if_neg fun z => hia z.symm, if_neg fun z => hib z.symm] at e
        exact h.inj a b x y q1 q2 e
  · rcases List.mem_cons.mp ha with rfl | ha
    · exact .inr hp0
    · exact h.new a ha
theorem mi_mut {p : Addr} {o : HO} (h : p ∈ O) : mi (upd H p o) O = mi H O := by
  funext b
  unfold mi
  split
  · rfl
  · rename_i hb
    rw [upd_ne fun z => hb (by rw [z]; exact h)]
/-- the owned list in slot i changes -/
theorem Rf.mut (h : Rf K O0 H0 G σ H env O oa) {i : Nat} {ds ds' : List D} {vs' : List V} (hi : env[i]? = some (Sl.own ds)) (hv : DrA K (mi H O) vs' ds') :
    Rf K O0 H0 G σ (upd H (oa i) (.lst vs')) (env.set i (.own ds')) O oa := by
  obtain ⟨i1, i2, i3, i4, us, i5, i6⟩ := h.own i ds hi
  have em : mi (upd H (oa i) (.lst vs')) O = mi H O := mi_mut i2
  have hil : i < env.length := (List.getElem?_eq_some_iff.mp hi).1
  refine ⟨by rw [List.length_set]; exact h.len, ?_, fun j e q => ?_, fun j e q => ?_, fun j e q => ?_, fun a b x y q1 q2 e => ?_, fun g hg => by rw [em]; exact h.gh g hg, ?_, h.sub, h.new⟩
  · refine ⟨fun a ha => ?_, h.al.tb.upd (by rw [i5]; rfl)⟩
    by_cases e : a = oa i
    · rw [e, upd_same]; rfl
    · rw [upd_ne e]; exact h.al.nt a ha
  · rcases get_set q with ⟨rfl, e1, _⟩ | ⟨hij, q⟩
    · cases e1
    · rw [em]; exact h.val j e q
  · rcases get_set q with ⟨rfl, e1, _⟩ | ⟨hij, q⟩
    · cases e1
      rw [em]
      exact ⟨i1, i2, i3, i4, vs', upd_same, hv⟩
    · obtain ⟨h1, h2, h3, h4, us, h5, h6⟩ := h.own j e q
      rw [em]
      exact ⟨h1, h2, h3, h4, us, by rw [upd_ne fun z => hij (h.inj j i _ _ q hi z).symm]; exact h5, h6⟩
  · rcases get_set q with ⟨rfl, e1, _⟩ | ⟨hij, q⟩
    · cases e1
    · exact h.bor j e q
  · have back : ∀ (j : Nat) (z : List D), (env.set i (.own ds'))[j]? = some (Sl.own z) → ∃ z', env[j]? = some (Sl.own z') := fun j z q => by
      rcases get_set q with ⟨rfl, _, _⟩ | ⟨_, q⟩
      · exact ⟨_, hi⟩
      · exact ⟨_, q⟩
    obtain ⟨x', q1⟩ := back a x q1
    obtain ⟨y', q2⟩ := back b y q2
    exact h.inj a b x' y' q1 q2 e
  · exact h.ext.upd i3 (by rw [i5]; rfl)
/-- the owned list in slot i is shared from now on -/
theorem Rf.shr (h : Rf K O0 H0 G σ H env O oa) {i : Nat} {ds : List D} (hi : env[i]? = some (Sl.own ds)) :
    Rf K O0 H0 G σ H (env.set i (.val (.list ds))) (O.filter fun a => decide (a ≠ oa i)) oa := by
  obtain ⟨i1, i2, i3, i4, us, i5, i6⟩ := h.own i ds hi
  have hsub : ∀ a ∈ O.filter (fun a => decide (a ≠ oa i)), a ∈ O := fun a ha => (List.mem_filter.mp ha).1
  have hm : Same (mi H O) (mi H (O.filter fun a => decide (a ≠ oa i))) := mi_sub hsub
  have hout : oa i ∉ O.filter fun a => decide (a ≠ oa i) := fun z => by
    have := (List.mem_filter.mp z).2
    simp at this
  refine ⟨by rw [List.length_set]; exact h.len, ⟨fun a ha => h.al.nt a (hsub a ha), h.al.tb⟩, fun j e q => ?_, fun j e q => ?_, fun j e q => ?_, fun a b x y q1 q2 e => ?_, fun g hg => Dr.mono hm _ (h.gh g hg), h.ext, fun a ha => ?_, fun a ha => h.new a (hsub a ha)⟩
  · rcases get_set q with ⟨rfl, e1, _⟩ | ⟨hij, q⟩
    · cases e1
      exact ⟨_, i1, .lst (xs := us) (by rw [mi_out hout, i5]; rfl) (DrA.mono hm _ i6)⟩
    · obtain ⟨v, h1, h2⟩ := h.val j e q
      exact ⟨v, h1, Dr.mono hm _ h2⟩
  · rcases get_set q with ⟨rfl, e1, _⟩ | ⟨hij, q⟩
    · cases e1
    · obtain ⟨h1, h2, h3, h4, us, h5, h6⟩ := h.own j e q
      refine ⟨h1, List.mem_filter.mpr ⟨h2, ?_⟩, h3, h4, us, h5, DrA.mono hm _ h6⟩
      exact decide_eq_true fun z => hij (h.inj j i _ _ q hi z).symm
  · rcases get_set q with ⟨rfl, e1, _⟩ | ⟨hij, q⟩
    · cases e1
    · exact h.bor j e q
  · rcases get_set q1 with ⟨rfl, e1, _⟩ | ⟨_, q1⟩
    · cases e1
    · rcases get_set q2 with ⟨rfl, e1, _⟩ | ⟨_, q2⟩
      · cases e1
      · exact h.inj a b x y q1 q2 e
  · refine List.mem_filter.mpr ⟨h.sub a ha, decide_eq_true fun z => ?_⟩
    rw [z] at ha
    exact i4 ha
end
def Post (K : PySem.W.Frag) (O0 : List Addr) (H0 : Hp) (G : List (V × D)) (Dn : Ends) : Fl → Prop
  | .nx env => ∀ σ H, RF K O0 H0 G σ H env → Dn.nx σ H
  | .rt d => ∀ v H, Same H0 H → Dr K (mi H O0) v d → Dn.rt v H
def SS (C : Fam) (sts : List Stmt) (f : En → Option Fl) : Prop :=
  ∃ t, (∀ X, C.ok X → PSs X sts t) ∧ ∀ O0 H0 G σ H env Dn fl, RF C.K O0 H0 G σ H env → f env = some fl → Post C.K O0 H0 G Dn fl → t Dn σ H
def S1 (C : Fam) (st : Stmt) (f : En → Option Fl) : Prop :=
  ∃ t, (∀ X, C.ok X → PS X st t) ∧ ∀ O0 H0 G σ H env Dn fl, RF C.K O0 H0 G σ H env → f env = some fl → Post C.K O0 H0 G Dn fl → t Dn σ H
section
variable {C : Fam} {a b c e : Expr} {es : List Expr} {f g k : En → Option D} {pos : Pos} {st : Stmt} {sts : List Stmt} {F F' : En → Option Fl}
theorem S1.cg (h : S1 C st F) (q : ∀ env, F' env = F env) : S1 C st F' := by
  have : F' = F := funext q
  rw [this]; exact h
theorem SS.cg (h : SS C sts F) (q : ∀ env, F' env = F env) : SS C sts F' := by
  have : F' = F := funext q
  rw [this]; exact h
theorem ss_nil : SS C [] (fun env => some (.nx env)) := ⟨tNext, fun X hX => pss_nil, fun O0 H0 G σ H env Dn fl r hf q => by cases hf; exact q σ H r⟩
theorem ss_cons (h1 : S1 C st F) (h2 : SS C sts F') : SS C (st :: sts) (fun env => match F env with
    | some (.nx env') => F' env'
    | q => q) := by
  obtain ⟨t, a1, a2⟩ := h1
  obtain ⟨u, b1, b2⟩ := h2
  refine ⟨tSeq t u, fun X hX => pss_cons (a1 X hX) (b1 X hX), fun O0 H0 G σ H env Dn fl r hf q => ?_⟩
  dsimp only at hf
  split at hf
  · rename_i env' he
    exact a2 O0 H0 G σ H env _ _ r he fun σ' H' r' => b2 O0 H0 G σ' H' env' Dn fl r' hf q
  · rename_i hn
    cases fl with
    | nx env' => exact absurd hf (hn env')
    | rt d => exact a2 O0 H0 G σ H env _ _ r hf q
theorem ss_shr {i : Nat} (h : SS C sts F) : SS C sts (fun env => match (match env[i]? with
      | some (.own ds) => some (Fl.nx (env.set i (.val (.list ds))))
      | _ => some (.nx env)) with
    | some (.nx env') => F env'
    | q => q) := by
  obtain ⟨t, h1, h2⟩ := h
  refine ⟨t, h1, fun O0 H0 G σ H env Dn fl r hf q => ?_⟩
  dsimp only at hf
  cases he : env[i]? with
  | none => rw [he] at hf; exact h2 _ _ _ _ _ _ _ _ r hf q
  | some sl =>
    rw [he] at hf
    cases sl with
    | own ds =>
      obtain ⟨O, oa, r⟩ := r
      exact h2 _ _ _ _ _ _ _ _ ⟨_, _, r.shr he⟩ hf q
    | no => exact h2 _ _ _ _ _ _ _ _ r hf q
    | val d => exact h2 _ _ _ _ _ _ _ _ r hf q
    | bor d => exact h2 _ _ _ _ _ _ _ _ r hf q

/-! ### x = e -/
def notComp : Expr → Bool
  | .ListComp _ _ _ _ | .SetComp _ _ _ _ | .DictComp _ _ _ _ _ => false
  | _ => true
theorem sw_no {t : Option Expr} {l : Nat} {env : Env} (h : notComp e = true) : swapsWith e t l env = pure false := by
  cases e <;> first | rfl | (simp [notComp] at h)
theorem sw_sole {tg : Expr} {l : Nat} {env : Env} (h : notComp e = true) : swapsWithSole [tg] e l env = pure false := by
  show swapsWith e (some tg) l env = pure false
  exact sw_no h
/-- an assignment to a name: its reading, with a new list as its value | with any value -/
def SGf (C : Fam) (st : Stmt) (i : Nat) (f : En → Option D) : Prop :=
  ∃ t, (∀ X, C.ok X → PS X st (tAsg t (gName i))) ∧ ∀ O σ H env (Q : VK) d, Re C.K O σ H env → f env = some d → (∀ p vs ds H', Same H H' → H p = none → d = .list ds → H' p = some (.lst vs) → DrA C.K (mi H' (p :: O)) vs ds → Q (.ref p) H') → t σ H Q
def SGv (C : Fam) (st : Stmt) (i : Nat) (f : En → Option D) : Prop :=
  ∃ t, (∀ X, C.ok X → PS X st (tAsg t (gName i))) ∧ ∀ O σ H env (Q : VK) d, Re C.K O σ H env → f env = some d → Wk C.K O H d Q → t σ H Q
theorem SGf.cg {i : Nat} {f' : En → Option D} (h : SGf C st i f) (q : ∀ env, f' env = f env) : SGf C st i f' := by
  have : f' = f := funext q
  rw [this]; exact h
theorem SGf.v {i : Nat} (h : SGf C st i f) : SGv C st i f := by
  obtain ⟨t, h1, h2⟩ := h
  refine ⟨t, h1, fun O σ H env Q d r hf q => h2 O σ H env Q d r hf fun p vs ds H' s hp ed hl hv => ?_⟩
  subst ed
  refine q _ _ s (.lst (xs := vs) ?_ (DrA.mono (mi_sub fun a ha => List.mem_cons_of_mem _ ha) ds hv))
  rw [mi_out (r.al.out hp), hl]; rfl
theorem TgN.set {x : Expr} {i : Nat} (h : TgN C x i) (nd : C.N.Nodup) {X : Cx} (hX : C.ok X) {t : TE} (he : PE X e t) (hn : notComp e = true) : PS X (.Assign [x] e pos) (tAsg t (gName i)) := by
  cases h with
  | mk hi hx =>
    refine ps_set (by rw [hX.hN]; exact nd) (by rw [hX.hN]; exact hi) ?_ he (sw_no hn) ?_
    · rcases hx with hx | hx
      · exact .inl (by rw [hX.hsc]; exact hx)
      · exact .inr (by rw [hX.hsc]; exact hx.1)
    · rcases hx with hx | hx
      · exact .inr (by rw [hX.hsc]; exact hx)
      · exact .inl (hX.fn hx.2 _)
theorem sgv {x : Expr} {i : Nat} (nd : C.N.Nodup) (h : TgN C x i) (he : SE C e f) (hn : notComp e = true) : SGv C (.Assign [x] e pos) i f := by
  obtain ⟨t, h1, h2⟩ := he
  exact ⟨t, fun X hX => h.set nd hX (h1 X hX) hn, h2⟩
theorem sgf {x : Expr} {i : Nat} (nd : C.N.Nodup) (h : TgN C x i) (he : SF C e f) (hn : notComp e = true) : SGf C (.Assign [x] e pos) i f := by
  obtain ⟨t, h1, h2⟩ := he
  exact ⟨t, fun X hX => h.set nd hX (h1 X hX) hn, h2⟩
theorem sgf_comp {y : Str} {py lpos : Pos} {i : Nat} {elt tge iter : Expr} {ifs : List Expr} {scope : Scope} {tg vs : List Nat} {src : En → Option (List D)} {cond : En → Option Bool} (nd : C.N.Nodup) (hy : C.N[i]? = some y) (hyl : C.sc.names.lookup y = some .local) (hk : C.sc.kind = .function) (hln : (py.line == lpos.line) = true)
    (hna : (scope.names.any fun (n, k) => n == y && (k == .local || k == .cell)) = false) (hi : SI C tge iter src) (hp : plainX iter = true) (ok : BlkOk C.N C.sc scope (ownOf C.N vs)) (ht : TgOk (C.blk scope) tge tg) (htg : ∀ i ∈ tg, i ∈ vs)
    (hc : SC (C.blk scope) ifs cond) (he : SE (C.blk scope) elt f) : SGf C (.Assign [.Name y py] (.ListComp elt [⟨tge, iter, ifs, 0⟩] scope lpos) pos) i (fun env => match src env with
      | none => none
      | some ds => if ds.length ≤ 40000 then (compL (turnC tg vs cond f env) ds).map PyData.list else none) := by
  obtain ⟨wi, hi1, hi2⟩ := hi
  obtain ⟨tt, hc1, hc2⟩ := hc
  obtain ⟨te, he1, he2⟩ := he
  refine ⟨tLc wi (tgG C.K tg) tt te vs, fun X hX => ?_, fun O σ H env Q d r hf q => ?_⟩
  · have := ps_setLc (pos := lpos) (spos := pos) (own := ownOf C.N vs) hX.calm (by rw [hX.hN]; exact nd) (by rw [hX.hN]; exact hy) (by rw [hX.hsc]; exact hyl) (sw_true (by rw [hX.hsc]; exact hk) (by rw [hX.hsc]; exact hyl) hln hna) (hi1 X hX) (by rw [hX.hN, hX.hsc]; exact ok)
      (fun s H A cl fp => ht.pg nd hX.blk) (fun s H A cl fp => hc1 _ hX.blk) (fun s H A cl fp => he1 _ hX.blk) (nofold hp)
    rw [ownOf_snd] at this
    exact this
  · dsimp only at hf
    split at hf
    · cases hf
    · rename_i ds hds
      split at hf
      · rename_i hz
        obtain ⟨tot, htot, ed⟩ := Option.map_eq_some_iff.mp hf
        refine hi2 O σ H env _ ds r hds fun J H1 G s1 hJ hG Dl hD => ?_
        exact lc_run htg hc2 he2 (r.mono s1) hJ hG hz htot hD fun us H' s2 h1 h2 => q Dl us tot H' (s1.trans s2) (s1.free hD) ed.symm h1 h2
      · cases hf
theorem s1_set {i : Nat} (h : SGv C st i f) : S1 C st (fun env => match f env with
    | none => none
    | some d => some (.nx (env.set i (.val d)))) := by
  obtain ⟨t, h1, h2⟩ := h
  refine ⟨_, h1, fun O0 H0 G σ H env Dn fl r hf q => ?_⟩
  obtain ⟨O, oa, r⟩ := r
  dsimp only at hf
  split at hf
  · cases hf
  · rename_i d hd
    cases hf
    exact h2 O σ H env _ d r.re hd fun v H' s hv => q _ _ ⟨O, oa, (r.mono s).set hv⟩
theorem s1_setO {i : Nat} (h : SGf C st i f) : S1 C st (fun env => match f env with
    | some (.list ds) => some (.nx (env.set i (.own ds)))
    | _ => none) := by
  obtain ⟨t, h1, h2⟩ := h
  refine ⟨_, h1, fun O0 H0 G σ H env Dn fl r hf q => ?_⟩
  obtain ⟨O, oa, r⟩ := r
  dsimp only at hf
  split at hf
  · rename_i ds hd
    cases hf
    refine h2 O σ H env _ _ r.re hd fun p vs ds' H' s hp ed hl hv => ?_
    cases ed
    exact q _ _ ⟨_, _, r.setO s hp hl hv⟩
  · cases hf
/-! ### a, b = e -/
def notTuple : Expr → Bool
  | .Tuple _ _ _ => false
  | _ => true
theorem sws_no {ts : List Expr} {kk : Nat} {tp : Pos} {env : Env} (h : notTuple e = true) : swappedStores [.Tuple ts kk tp] e env = pure none := by
  cases e <;> first | rfl | (simp [notTuple] at h)
theorem s1_unp {ts : List Expr} {kk : Nat} {tp : Pos} {i j : Nat} {is : List Nat} (nd : C.N.Nodup) (h : TgNs C ts (i :: j :: is)) (he : SE C e f) (hn : notComp e = true) (hw : ∀ X, C.ok X → swappedStores [.Tuple ts kk tp] e X.env = pure none) : S1 C (.Assign [.Tuple ts kk tp] e pos) (fun env => match f env with
    | some (.tuple ds) => (bindEach (i :: j :: is) ds env).map .nx
    | _ => none) := by
  obtain ⟨t, h1, h2⟩ := he
  refine ⟨tAsg t (tgG C.K (i :: j :: is)), fun X hX => ps_asg (h1 X hX) (TgOk.pg (.tup h) nd hX) (sw_sole hn) (hw X hX) rfl, fun O0 H0 G σ H env Dn fl r hf q => ?_⟩
  obtain ⟨O, oa, r⟩ := r
  dsimp only at hf
  split at hf
  · rename_i ds hd
    obtain ⟨env', hb, efl⟩ := Option.map_eq_some_iff.mp hf
    subst efl
    refine h2 O σ H env _ _ r.re hd fun v H' s hv => ?_
    exact tgT_run (Pr := fun σ' e' => Rf C.K O0 H0 G σ' H' e' O oa) (fun σ' e' i' v' d' _ hp hv' => hp.set hv') (r.mono s) hv hb fun σ' hp => q σ' H' ⟨O, oa, hp⟩
  · cases hf
theorem s1_par {x y : Str} {px py tp : Pos} {kt k2 : Nat} {p2 : Pos} {i j : Nat} (nd : C.N.Nodup) (hi : C.N[i]? = some x) (hj : C.N[j]? = some y) (hij : i ≠ j) (hx : C.sc.names.lookup x = some .local) (hy : C.sc.names.lookup y = some .local) (ha : SE C a f) (hb : SE C b g)
    (hpa : plainX a = true) (hpb : plainX b = true) (hw : ∀ X, C.ok X → swappedStores [.Tuple [.Name x px, .Name y py] kt tp] (.Tuple [a, b] k2 p2) X.env = pure (some [x, y])) :
    S1 C (.Assign [.Tuple [.Name x px, .Name y py] kt tp] (.Tuple [a, b] k2 p2) pos) (fun env => match f env with
      | none => none
      | some x => match g env with
        | none => none
        | some y => some (.nx ((env.set i (.val x)).set j (.val y)))) := by
  obtain ⟨ta, ha1, ha2⟩ := ha
  obtain ⟨tb, hb1, hb2⟩ := hb
  refine ⟨tPar i j (tCons ta (tCons tb tNil)), fun X hX => ps_par hX.calm (by rw [hX.hN]; exact nd) (by rw [hX.hN]; exact hi) (by rw [hX.hN]; exact hj) hij (by rw [hX.hsc]; exact hx) (by rw [hX.hsc]; exact hy) (pa_cons (ha1 X hX) (pa_cons (hb1 X hX) pa_nil (star_ok hpb)) (star_ok hpa)) (hw X hX) rfl,
    fun O0 H0 G σ H env Dn fl r hf q => ?_⟩
  obtain ⟨O, oa, r⟩ := r
  dsimp only at hf
  split at hf
  · cases hf
  · rename_i d1 hd1
    split at hf
    · cases hf
    · rename_i d2 hd2
      cases hf
      refine ha2 O σ H env _ _ r.re hd1 fun v H1 s1 hv => hb2 O σ H1 env _ _ (r.mono s1).re hd2 fun w H2 s2 hw => ⟨v, w, rfl, ?_⟩
      exact q _ _ ⟨O, oa, (((r.mono s1).mono s2).set (Dr.mono (mi_same s2) _ hv)).set hw⟩
/-! ### xs.append(e), xs[i] = e -/
theorem s1_app {x : Str} {p apos cpos : Pos} {i : Nat} (hN : C.N[i]? = some x) (hv : Vis C.sc x) (hd : (x == ("__debug__" : Str)) = false) (hcd : (x == ("__classdict__" : Str)) = false) (he : SE C e f) (hp : plainX e = true) (hl : (apos.endLine == cpos.line) = true) :
    S1 C (.Expr (.Call (.Attribute (.Name x p) "append" apos) [e] [] cpos) pos) (fun env => match env[i]? with
      | some (.own ds) => match f env with
        | none => none
        | some d => if ds.length < 100000 then some (.nx (env.set i (.own (ds ++ [d])))) else none
      | _ => none) := by
  obtain ⟨t, h1, h2⟩ := he
  refine ⟨tDrop (tBM C.K "list" rAppend (tVar i) (tCons t tNil)), fun X hX => ?_, fun O0 H0 G σ H env Dn fl r hf q => ?_⟩
  · rw [← hX.hK]
    refine ps_expr (pe_bm PySem.F.plainAttrs_list PySem.F.slot_list_append PySem.F.type_list_append mt_append (pe_var (by rw [hX.hN]; exact hN) (by rw [hX.hsc]; exact hv) hd hcd) (pa_cons (h1 X hX) pa_nil (star_ok hp)) rfl ?_ hl (star_ok hp) rfl)
    rw [star_ok hp]
    rfl
  · obtain ⟨O, oa, r⟩ := r
    dsimp only at hf
    split at hf
    · rename_i ds ho
      split at hf
      · cases hf
      · rename_i d hd
        split at hf
        · rename_i hz
          cases hf
          obtain ⟨o1, o2, o3, o4, vs, o5, o6⟩ := r.own i ds ho
          refine ⟨_, o1, .inl ⟨rfl, vs, .inl (.inl o5)⟩, h2 O σ H env _ _ r.re hd fun v H' s hv => ?_⟩
          have r' := r.mono s
          refine ⟨_, vs, v, rfl, rfl, s.at o5, szlt (by rw [o6.len]; exact hz), q _ _ ⟨O, oa, r'.mut ho ?_⟩⟩
          exact DrA.app (DrA.mono (mi_same s) _ o6) (.cons hv .nil)
        · cases hf
    · cases hf
theorem assign_sub {x : Str} {p sp : Pos} {env : Env} (hp : plainX b = true) (v : Value) : assign (.Subscript (.Name x p) b sp) env v = (do
      let ov ← holding [v] (eval (.Name x p) env)
      let iv ← holding [v, ov] (eval b env)
      standAt sp
      holding [v, ov, iv] (setItem ov iv v)
      release [v, ov, iv] []) := by
  cases b <;> first | rfl | (simp [plainX] at hp)
theorem s1_sti {x : Str} {p sp : Pos} {i : Nat} (hN : C.N[i]? = some x) (hv : Vis C.sc x) (hd : (x == ("__debug__" : Str)) = false) (hcd : (x == ("__classdict__" : Str)) = false) (he : SE C e f) (hb : SB C b g) (hp : plainX b = true) (hn : notComp e = true) :
    S1 C (.Assign [.Subscript (.Name x p) b sp] e pos) (fun env => match env[i]? with
      | some (.own ds) => match f env with
        | none => none
        | some d => match g env with
          | some (.int k) => match ixN ds.length k with
            | none => none
            | some j => some (.nx (env.set i (.own (ds.set j d))))
          | _ => none
      | _ => none) := by
  obtain ⟨t, h1, h2⟩ := he
  obtain ⟨tb, hb1, hb2⟩ := hb
  refine ⟨tAsg t (gSub (tVar i) tb rSetL), fun X hX => ?_, fun O0 H0 G σ H env Dn fl r hf q => ?_⟩
  · exact ps_asg (h1 X hX) (pg_sub (pe_var (by rw [hX.hN]; exact hN) (by rw [hX.hsc]; exact hv) hd hcd) (hb1 X hX) set_list (assign_sub hp)) (sw_sole hn) rfl rfl
  · obtain ⟨O, oa, r⟩ := r
    dsimp only at hf
    split at hf
    · rename_i ds ho
      split at hf
      · cases hf
      · rename_i d hd
        split at hf
        · rename_i kk hk
          split at hf
          · cases hf
          · rename_i j hj
            cases hf
            refine h2 O σ H env _ _ r.re hd fun v H1 s1 hv => ?_
            have r1 := r.mono s1
            obtain ⟨o1, o2, o3, o4, vs, o5, o6⟩ := r1.own i ds ho
            refine ⟨_, o1, hb2 O σ H1 env _ _ r1.re hk fun w H2 s2 hw => ?_⟩
            cases hw.int
            have r2 := r1.mono s2
            refine ⟨_, vs, kk, j, rfl, rfl, s2.at o5, by rw [o6.len]; exact hj, q _ _ ⟨O, oa, r2.mut ho ?_⟩⟩
            exact DrA.set (Dr.mono (mi_same s2) _ hv) j (DrA.mono (mi_same s2) _ o6)
        · cases hf
    · cases hf
/-! ### if, for, while, return -/
theorem s1_if {A B : List Stmt} {FA FB : En → Option Fl} (hc : ST C c f) (ha : SS C A FA) (hb : SS C B FB) : S1 C (.If c A B pos) (fun env => match testD (f env) with
    | none => none
    | some true => FA env
    | some false => FB env) := by
  obtain ⟨tc, hc1, hc2⟩ := hc
  obtain ⟨ta, ha1, ha2⟩ := ha
  obtain ⟨tb, hb1, hb2⟩ := hb
  refine ⟨tIfS tc ta tb, fun X hX => ps_if (hc1 X hX) (ha1 X hX) (hb1 X hX), fun O0 H0 G σ H env Dn fl r hf q => ?_⟩
  obtain ⟨O, oa, r⟩ := r
  dsimp only at hf
  have tsv : ∀ bb, testD (f env) = some bb → f env = some (.bool bb) := fun bb h => by
    unfold testD at h
    split at h
    · rename_i b' hb'; cases h; exact hb'
    · cases h
  split at hf
  · cases hf
  · rename_i ht
    exact hc2 O σ H env _ _ r.re (tsv _ ht) fun H1 s1 => iteT (ha2 O0 H0 G σ H1 env Dn fl ⟨O, oa, r.mono s1⟩ hf q)
  · rename_i ht
    exact hc2 O σ H env _ _ r.re (tsv _ ht) fun H1 s1 => iteF (hb2 O0 H0 G σ H1 env Dn fl ⟨O, oa, r.mono s1⟩ hf q)
theorem Rf.gsub {K : PySem.W.Frag} {O0 O : List Addr} {H0 H : Hp} {G G' : List (V × D)} {σ : L2.St} {env : En} {oa : Nat → Addr} (h : Rf K O0 H0 G σ H env O oa) (hg : ∀ z ∈ G', Dr K (mi H O) z.1 z.2) : Rf K O0 H0 G' σ H env O oa :=
  ⟨h.len, h.al, h.val, h.own, h.bor, h.inj, hg, h.ext, h.sub, h.new⟩
theorem s1_for {tge iter : Expr} {tg : List Nat} {src : En → Option (List D)} {A : List Stmt} {FA : En → Option Fl} (nd : C.N.Nodup) (hi : SI C tge iter src) (hp : plainX iter = true) (ht : TgOk C tge tg) (ha : SS C A FA) :
    S1 C (.For tge iter A [] pos) (fun env => match src env with
      | none => none
      | some ds => forL (forB tg FA) ds env) := by
  obtain ⟨wi, hi1, hi2⟩ := hi
  obtain ⟨ta, ha1, ha2⟩ := ha
  refine ⟨tFor wi (tgG C.K tg) ta, fun X hX => ps_for (by rw [hX.xe]; exact PassesOwn.never) hX.calm (hi1 X hX) (ht.pg nd hX) (ha1 X hX) (nofold hp), fun O0 H0 G σ H env Dn fl r hf q => ?_⟩
  obtain ⟨O, oa, r⟩ := r
  dsimp only at hf
  split at hf
  · cases hf
  · rename_i ds hds
    refine hi2 O σ H env _ ds r.re hds fun J H1 GJ s1 hJ hG => ?_
    have r1 := r.mono s1
    refine ⟨fun i m σ' H' => m = ds.length - i ∧ i ≤ ds.length ∧ ∃ env', RF C.K O0 H0 (GJ ++ G) σ' H' env' ∧ forL (forB tg FA) (ds.drop i) env' = some fl, ⟨ds.length, rfl, Nat.zero_le _, env, ⟨O, oa, r1.gsub fun z hz => ?_⟩, hf⟩, fun i m σ' H' hW => ?_⟩
    · rcases List.mem_append.mp hz with hz | hz
      · exact hG z hz
      · exact r1.gh z hz
    · obtain ⟨em, hil, env', ⟨O', oa', r'⟩, hfl⟩ := hW
      obtain ⟨j1, j2⟩ := hJ O' H' r'.al (fun z hz => r'.gh z (List.mem_append_left _ hz)) i
      by_cases hin : i < ds.length
      · refine .inr ?_
        obtain ⟨hgo, hy⟩ := j1 _ (List.getElem?_eq_getElem hin)
        rw [List.drop_eq_getElem_cons hin] at hfl
        unfold forL forB at hfl
        refine ⟨hgo, fun σ2 H2 => ∃ m', m' < m ∧ (m' = ds.length - (i + 1) ∧ i + 1 ≤ ds.length ∧ ∃ env2, RF C.K O0 H0 (GJ ++ G) σ2 H2 env2 ∧ forL (forB tg FA) (ds.drop (i + 1)) env2 = some fl), fun _ _ h => h, fun x H2 hx => ?_⟩
        obtain ⟨s2, hxd⟩ := hy x H2 hx
        cases hb : bindT tg ds[i] env' with
        | none => rw [hb] at hfl; cases hfl
        | some env2 =>
          rw [hb] at hfl
          dsimp only at hfl
          refine tgG_run (Pr := fun σ' e' => Rf C.K O0 H0 (GJ ++ G) σ' H2 e' O' oa') (fun σ' e' i' v' d' _ hp hv' => hp.set hv') (r'.mono s2) hxd hb fun σ2 hp => ?_
          split at hfl
          · rename_i env3 h3
            exact ha2 O0 H0 (GJ ++ G) σ2 H2 env2 _ _ ⟨O', oa', hp⟩ h3 fun σ3 H3 r3 => ⟨_, by omega, rfl, hin, env3, r3, hfl⟩
          · rename_i hn
            cases fl with
            | nx env3 => exact absurd hfl (hn env3)
            | rt d => exact ha2 O0 H0 (GJ ++ G) σ2 H2 env2 _ _ ⟨O', oa', hp⟩ hfl q
      · refine .inl ⟨j2 (by omega), ?_⟩
        have ei : i = ds.length := by omega
        rw [ei, List.drop_length] at hfl
        cases hfl
        exact q σ' H' ⟨O', oa', r'.gsub fun z hz => r'.gh z (List.mem_append_right _ hz)⟩
theorem s1_while {A : List Stmt} {FA : En → Option Fl} {n : Nat} (hc : ST C c f) (ha : SS C A FA) : S1 C (.While c A [] pos) (fun env => whileL (tst f) FA n env) := by
  obtain ⟨tc, hc1, hc2⟩ := hc
  obtain ⟨ta, ha1, ha2⟩ := ha
  refine ⟨tWhile tc ta, fun X hX => ps_while (by rw [hX.xe]; exact PassesOwn.never) (hc1 X hX) (ha1 X hX), fun O0 H0 G σ H env Dn fl r hf q => ?_⟩
  refine ⟨fun m σ' H' => ∃ env', RF C.K O0 H0 G σ' H' env' ∧ whileL (tst f) FA m env' = some fl, ⟨n, env, r, hf⟩, fun m σ' H' hW => ?_⟩
  obtain ⟨env', ⟨O, oa, r'⟩, hw⟩ := hW
  have tsv : ∀ bb, testD (f env') = some bb → f env' = some (.bool bb) := fun bb h => by
    unfold testD at h
    split at h
    · rename_i b' hb'; cases h; exact hb'
    · cases h
  cases m with
  | zero => cases hw
  | succ m =>
    unfold whileL tst at hw
    split at hw
    · rename_i ht
      refine hc2 O σ' H' env' _ _ r'.re (tsv _ ht) fun H1 s1 => iteT ⟨fun σ2 H2 => ∃ m', m' < m + 1 ∧ ∃ env2, RF C.K O0 H0 G σ2 H2 env2 ∧ whileL (tst f) FA m' env2 = some fl, fun _ _ h => h, ?_⟩
      split at hw
      · rename_i env2 h2
        exact ha2 O0 H0 G σ' H1 env' _ _ ⟨O, oa, r'.mono s1⟩ h2 fun σ2 H2 r2 => ⟨m, Nat.lt_succ_self m, env2, r2, hw⟩
      · rename_i hn
        cases fl with
        | nx env3 => exact absurd hw (hn env3)
        | rt d => exact ha2 O0 H0 G σ' H1 env' _ _ ⟨O, oa, r'.mono s1⟩ hw q
    · rename_i ht
      cases hw
      exact hc2 O σ' H' env' _ _ r'.re (tsv _ ht) fun H1 s1 => iteF (q _ _ ⟨O, oa, r'.mono s1⟩)
    · cases hw
theorem s1_ret (he : SE C e f) : S1 C (.Return (some e) pos) (fun env => (f env).map .rt) := by
  obtain ⟨t, h1, h2⟩ := he
  refine ⟨tRet t, fun X hX => ps_ret (h1 X hX), fun O0 H0 G σ H env Dn fl r hf q => ?_⟩
  obtain ⟨O, oa, r⟩ := r
  obtain ⟨d, hd, efl⟩ := Option.map_eq_some_iff.mp hf
  subst efl
  exact h2 O σ H env _ d r.re hd fun v H' s hv => q v H' (r.ext.trans s) (Dr.mono (mi_sub r.sub) _ hv)
theorem s1_retv {x : Str} {p : Pos} {i : Nat} (hN : C.N[i]? = some x) (hv : Vis C.sc x) (hd : (x == ("__debug__" : Str)) = false) (hcd : (x == ("__classdict__" : Str)) = false) : S1 C (.Return (some (.Name x p)) pos) (fun env => (match env[i]? with
    | some (Sl.val d) => some d
    | some (.own ds) => some (.list ds)
    | _ => none).map .rt) := by
  refine ⟨tRet (tVar i), fun X hX => ps_ret (pe_var (by rw [hX.hN]; exact hN) (by rw [hX.hsc]; exact hv) hd hcd), fun O0 H0 G σ H env Dn fl r hf q => ?_⟩
  obtain ⟨O, oa, r⟩ := r
  obtain ⟨d, hd, efl⟩ := Option.map_eq_some_iff.mp hf
  subst efl
  split at hd
  · rename_i d' he
    cases hd
    obtain ⟨v, h1, h2⟩ := r.val _ _ he
    exact ⟨v, h1, q v H r.ext (Dr.mono (mi_sub r.sub) _ h2)⟩
  · rename_i ds he
    cases hd
    obtain ⟨o1, o2, o3, o4, vs, o5, o6⟩ := r.own _ _ he
    exact ⟨_, o1, q _ H r.ext (.lst (xs := vs) (by rw [mi_out o4, o5]; rfl) (DrA.mono (mi_sub r.sub) _ o6))⟩
  · cases hd
theorem s1_nev : S1 C st (fun _ => none) := ⟨tNever, fun X hX => ps_never, fun _ _ _ _ _ _ _ _ _ hf _ => nomatch hf⟩
end
end J

/-! x[::-1], len(set(..)), sorted(set(..)), zip. -/
namespace J
open PySem PySem.Spec PyProof.Rows L2
theorem nodup_len {l l' : List Int} (h : l.Nodup) (h' : l'.Nodup) (hm : ∀ x, x ∈ l ↔ x ∈ l') : l.length = l'.length := ((List.perm_ext_iff_of_nodup h h').mpr hm).length_eq
theorem dedup_fold : ∀ (l acc : List Int), acc.Nodup → (l.foldl step_dedup acc).Nodup ∧ ∀ x, x ∈ l.foldl step_dedup acc ↔ x ∈ acc ∨ x ∈ l
  | [], acc, h => ⟨h, fun x => by simp⟩
  | y :: r, acc, h => by
    have hs : (step_dedup acc y).Nodup ∧ ∀ x, x ∈ step_dedup acc y ↔ x ∈ acc ∨ x = y := by
      unfold step_dedup
      split
      · rename_i ha
        refine ⟨h, fun x => ⟨.inl, fun z => z.elim id fun e => ?_⟩⟩
        obtain ⟨z, hz, he⟩ := List.any_eq_true.mp ha
        rw [e, ← eq_of_beq he]
        exact hz
      · rename_i ha
        refine ⟨List.nodup_append.mpr ⟨h, List.nodup_cons.mpr ⟨(by simp), List.nodup_nil⟩, fun a ha1 b hb e => ?_⟩, fun x => by simp⟩
        rw [List.mem_singleton] at hb
        subst hb
        subst e
        exact ha (List.any_eq_true.mpr ⟨a, ha1, beq_self_eq_true _⟩)
    obtain ⟨h1, h2⟩ := dedup_fold r _ hs.1
    refine ⟨h1, fun x => ?_⟩
    show x ∈ List.foldl step_dedup (step_dedup acc y) r ↔ _
    rw [h2, hs.2, List.mem_cons, or_assoc]
theorem firstMet_len (ns : List Int) : (firstMet (fun i => ns.getD i 0) ns.length).length = (undupI ns).length := by
  have e : (List.range ns.length).map (fun i => ns.getD i 0) = ns := by
    apply List.ext_getElem
    · simp
    · intro i h1 h2
      simp at h1
      simp [h1]
  have := dedup_fold ns [] List.nodup_nil
  unfold firstMet
  rw [e]
  exact nodup_len this.1 (undupI_nodup ns) fun x => by rw [this.2, undupI_mem]; simp
section
variable {C : Fam} {a b c e : Expr} {es : List Expr} {f g k : En → Option D} {pos : Pos}
/-! ### len(set(list of ints)) -/
theorem pe_lset {X : Cx} {ta : TE} {p p2 q : Pos} (hc : X.calm = true) (hg : Gl X "len") (hm : X.mg "len" = none) (hg2 : Gl X "set") (hm2 : X.mg "set" = none) (ha : PE X a ta) (na : starEach [a] X.env = (false, eval a X.env) :: starEach [] X.env) :
    PE X (.Call (.Name "len" p) [.Call (.Name "set" p2) [a] [] q] [] pos) (fun σ H Q => ta σ H fun x H1 => ∃ (l : Addr) (ns : List Int), x = .ref l ∧ SqL X.K H1 l (ns.map V.int) ∧ ns.length ≤ 50 ∧ Q (.int ((undupI ns).length : Nat)) H1) := by
  refine ⟨fun pins s σ H Q I h => ?_⟩
  refine Call_ (ld_blt I hg hm boot_len (callWith_builtin1 (args_cons ?_ rfl) rfl rfl))
  refine Call_ (ld_blt I hg2 hm2 (show bootBuiltins ("set" : Str) = some (.type "set") by decide +kernel) (callWith_type1 (args_cons (thn (ha.run pins s σ H _ I h) fun v s1 ⟨x, H1, I1, r1, q1⟩ => args_nil ?_) na) na rfl))
  obtain ⟨l, ns, rfl, hq, hl, q1⟩ := q1
  cases r1
  obtain ⟨its, r, pl, hz⟩ := I1.list hq
  have hlen : its.toArray.size = ns.length := by rw [List.size_toArray, ← r.length, List.length_map]
  refine call_set_list (I1.ok.hd hc) pl.isList (by simpa using intsAre_of r) (by rw [hlen]; unfold scanBound; omega) fun h' tk hS hk => args_nil ?_
  rw [hlen] at hS
  obtain ⟨o, es, ep, t, ho, hex, hd, _, _, _, hf, hn⟩ := hS
  rw [firstMet_len] at hn
  have hu : (undupI ns).length ≤ 50 := by
    have := firstMet_length_le (fun i => ns.getD i 0) ns.length
    rw [firstMet_len] at this
    omega
  have I2 : Inv X pins σ H1 { s1 with heap := h', toks := tk } := I1.kept fun b o e => hk b o (Heap.lt_size e) e
  exact call_len_set ho hex hd hf (by rw [hn] <;> omega) ⟨.int (undupI ns).length, H1, I2.tok _, ⟨_, by rw [hn]⟩, q1⟩
/-! ### set(list of ints) as a record -/
abbrev newSet (w : World) : Obj := { cls := .type "set", dict := none, data := .set #[] 0 (.fresh 0 0 (!w.params.followText "set-order")) }
set_option maxHeartbeats 3200000 in
theorem call_set_lstI {P : Program} {w : World} {A : Around} {E : Value → Shared → Prop} {s : Shared} {p : Addr} {us : Array Value} (zs : List Int) {Q : Value → Shared → Prop} (hq : A.handled = none) (hp : s.heap.IsList p us) (hz : IntsAre us.toList zs) (hlen : zs.length + 1 < scanBound)
    (k : ∀ (g : Heap) (tk m : Nat), SetR w g s.heap.objs.size (fun j => decide (j ∈ zs)) m → m ≤ zs.length → (∀ b o, s.heap.get? b = some o → g.get? b = some o) → Q (.ref s.heap.objs.size) { s with heap := g, toks := tk }) :
    wpAny (model P w) A (call (.type "set") [.ref p]) Q E s := by
  have hus : us.size = zs.length := by have q := IntsAre.length hz; rw [Array.length_toList] at q; exact q
  obtain ⟨c0, tl0, hmro⟩ := F.called_set.mro
  have hmade := F.called_set.made
  have hsub := F.called_set.sub
  refine wpAny_call (codeAny_of_tree ?_)
  show wpAny _ _ (callAny (.type "set") _) _ _ _
  refine wpAny_pure ⟨Code.quiet_builtin _ (by decide +kernel), codeAny_builtin F.entry_type_call ?_⟩
  rw [Around.under_plain (weight_type_call_type "set" [.ref p] []) rfl]
  have u1 := F.called_set.notType
  have u2 := F.called_set.canCreate
  have u3 := F.typeCall_set_1 (.ref p)
  repeat (any_goals (first | assumption | wp_step))
  refine codeAny_mono (code_set_led1 (.ref p) (E := E) (Q₁ := fun z t => z = .ref s.heap.objs.size ∧ t = { s with heap := s.heap.push (newSet w) }) ⟨rfl, rfl⟩) fun r t hr => ?_
  cases r with
  | error e => exact hr
  | ok fl =>
    cases fl with
    | ret z =>
      obtain ⟨rfl, rfl⟩ := hr
      have g0 : (s.heap.push (newSet w)).get? s.heap.objs.size = some (newSet w) := Heap.get?_push_size _ rfl
      have gT : Shared.TypeIs { s with heap := s.heap.push (newSet w) } (.ref s.heap.objs.size) "set" := ⟨_, g0, rfl⟩
      have u4 := F.called_set.init.lookup
      have u5 := F.called_set.init.bind (.ref s.heap.objs.size)
      repeat (any_goals (first | assumption | wp_step))
      refine codeAny_mono (codeAny_call_builtin (R := wants (fun v t => v = .none ∧ ∃ g tk m, t = { s with heap := g, toks := tk } ∧ SetR w g s.heap.objs.size (fun j => decide (j ∈ zs)) m ∧ m ≤ zs.length ∧
          (∀ b o, s.heap.get? b = some o → g.get? b = some o)) E) F.called_set.init.plain F.entry_set_init (check_set_init_1 gT ?_)) fun v t hv => ?_
      · obtain ⟨⟨lc, ld, lx, ls⟩, el, ec, en, ed⟩ := hp
        simp only at ec ed
        subst ec; subst ed
        have el' : (s.heap.push (newSet w)).get? p = some { cls := .type "list", dict := ld, data := .seq us en, slots := ls } := Heap.get?_push_of_some _ el
        have v1 := F.sub_list_set
        have v2 := F.sub_list_frozenset
        have v3 : (Value.type "list" == Value.type "dict") = false := by decide
        have v4 : (s.heap.push (newSet w)).IsList p us := ⟨_, el', rfl, en, rfl⟩
        unfold Builtin.«set.__init__» noKeywords Builtin.Frozenset.updateFrom
        generalize hPI : pyIter = PI
        wp_walk
        subst hPI
        refine wpAny_pyIter_list v4 ?_
        refine wpAny_bind (wpAny_runValue ?_)
        have lp : p < s.heap.objs.size := Heap.lt_size el
        have hn3 : A.in1.in1.in1.handled = none := by simp [hq]
        have zz : (s.heap.push (newSet w)).objs.size = s.heap.objs.size + 1 := Heap.size_push ..
        have nI1 : p ≠ (s.heap.push (newSet w)).objs.size := by rw [zz]; exact Nat.ne_of_lt (Nat.lt_succ_of_lt lp)
        have nI2 : s.heap.objs.size ∉ [(s.heap.push (newSet w)).objs.size, p] := by
          rw [zz]
          simp only [List.mem_cons, List.not_mem_nil, or_false, not_or]
          exact ⟨Nat.ne_of_lt (Nat.lt_succ_self _), Nat.ne_of_gt lp⟩
        have vals : ∀ (i : Nat) (v : Value), us[i]? = some v → ∃ k t, zs[i]? = some k ∧ v = .int k t := fun i v hv => by
          have hi : i < zs.length := by rw [← hus]; exact (Array.getElem?_eq_some_iff.mp hv).1
          obtain ⟨t, e⟩ := PyProof.Rows.IntsAre.int_at hz i v (by rw [Array.getElem?_toList]; exact hv)
          exact ⟨zs[i], t, List.getElem?_eq_getElem hi, by rw [e, List.getD_eq_getElem?_getD, List.getElem?_eq_getElem hi] <;> rfl⟩
        refine set_update_ints ((Walks.list hn3 _ p nI1 us).toS) s.heap.objs.size nI2 zs hus hlen vals (us.size - 0) 0 _ (by omega) (Nat.zero_le _) ⟨⟨_, Heap.get?_push_size _ rfl, rfl, rfl⟩, (v4.push _)⟩ ⟨0, Nat.le_refl 0, setR_new_at (Heap.get?_push_of_some _ g0)⟩ fun t m hm hc hS => ?_
        obtain ⟨g, a1, a2, a3, a4⟩ := t
        have e1 : a1 = s.gens := hm.gens
        have e2 : a2 = s.drawn := hm.drawn
        have e3 : a4 = s.os := hm.os
        subst e1; subst e2; subst e3
        show wpAny _ _ _ _ _ _
        refine wpAny_pure ?_
        show wpAny _ _ (ret Value.none) _ _ _
        rw [hus] at hc
        refine wpAny_pure ⟨rfl, g, a3, m, rfl, hS, hc, fun b o q => ?_⟩
        have lb : b < s.heap.objs.size := Heap.lt_size q
        refine hm.heap b o ?_ (Heap.get?_push_of_some _ (Heap.get?_push_of_some _ q))
        rw [zz]
        simp only [List.mem_cons, List.not_mem_nil, or_false, not_or]
        exact ⟨Nat.ne_of_lt lb, Nat.ne_of_lt (Nat.lt_succ_of_lt lb)⟩
      · cases v with
        | error e => exact hv
        | ok fl =>
          cases fl with
          | ret z =>
            obtain ⟨rfl, g, tk, m, rfl, y1, y2, y3⟩ := hv
            repeat (any_goals (first | assumption | wp_step))
            exact k _ _ _ y1 y2 y3
          | _ => exact hv.elim
    | _ => exact hr.elim
/-! ### sorted(set(tuple of ints)) -/
def rSetT (K : PySem.W.Frag) (w : World) : List V → Hp → VK → Prop := fun vs H Q => ∃ (l : Addr) (ns : List Int), vs = [.ref l] ∧ SqT K H l (ns.map V.int) ∧ ns.length ≤ 50 ∧ ∀ p n, H p = none → n ≤ ns.length → Q (.ref p) (upd H p (SetO w p (fun j => decide (j ∈ ns)) n))
theorem cr_setT {X : Cx} (hc : X.calm = true) : CallR X (.type "set") (rSetT X.K X.w) := by
  intro pins s σ H vs us Q I r h
  obtain ⟨l, ns, rfl, hq, hl, q⟩ := h
  rw [Vals.ref1 r]
  obtain ⟨its, rv, pl, hz⟩ := I.tuple hq
  refine call_set_tupI ns (I.ok.hd hc) pl (by simpa using intsAre_of rv) (by unfold scanBound; omega) fun h' tk n hS hn hk => ?_
  refine ⟨.ref _, _, I.laid (t' := tk) (o := SetO X.w s.heap.objs.size (fun j => decide (j ∈ ns)) n) hk (Nat.le_refl _) ?_, rfl, q _ _ (I.hok.fresh (Nat.le_refl _)) hn⟩
  exact ⟨hS, ⟨_, hS.choose_spec.choose_spec.choose_spec.choose_spec.1⟩, fun h1 h2 p1 k1 => p1.at k1⟩
theorem cr_setL {X : Cx} (hc : X.calm = true) : CallR X (.type "set") (fun vs H Q => ∃ (l : Addr) (ns : List Int), vs = [.ref l] ∧ SqL X.K H l (ns.map V.int) ∧ ns.length ≤ 50 ∧ ∀ p n, H p = none → n ≤ ns.length → Q (.ref p) (upd H p (SetO X.w p (fun j => decide (j ∈ ns)) n))) := by
  intro pins s σ H vs us Q I r h
  obtain ⟨l, ns, rfl, hq, hl, q⟩ := h
  rw [Vals.ref1 r]
  obtain ⟨its, rv, pl, hz⟩ := I.list hq
  refine call_set_lstI ns (I.ok.hd hc) pl.isList (by simpa using intsAre_of rv) (by unfold scanBound; omega) fun h' tk n hS hn hk => ?_
  refine ⟨.ref _, _, I.laid (t' := tk) (o := SetO X.w s.heap.objs.size (fun j => decide (j ∈ ns)) n) hk (Nat.le_refl _) ?_, rfl, q _ _ (I.hok.fresh (Nat.le_refl _)) hn⟩
  exact ⟨hS, ⟨_, hS.choose_spec.choose_spec.choose_spec.choose_spec.1⟩, fun h1 h2 p1 k1 => p1.at k1⟩
def rSetS (K : PySem.W.Frag) (w : World) : List V → Hp → VK → Prop := fun vs H Q => ∃ (l : Addr) (ns : List Int), vs = [.ref l] ∧ (SqT K H l (ns.map V.int) ∨ SqL K H l (ns.map V.int)) ∧ ns.length ≤ 50 ∧ ∀ p n, H p = none → n ≤ ns.length → Q (.ref p) (upd H p (SetO w p (fun j => decide (j ∈ ns)) n))
theorem cr_setS {X : Cx} (hc : X.calm = true) : CallR X (.type "set") (rSetS X.K X.w) := by
  intro pins s σ H vs us Q I r h
  obtain ⟨l, ns, e, hq | hq, hl, q⟩ := h
  · exact cr_setT hc pins s σ H vs us Q I r ⟨l, ns, e, hq, hl, q⟩
  · exact cr_setL hc pins s σ H vs us Q I r ⟨l, ns, e, hq, hl, q⟩
theorem se_sset {p p2 q : Pos} (hg : C.sc.names.lookup ("sorted" : Str) = some .globalImplicit) (hm : C.mg "sorted" = none) (hg2 : C.sc.names.lookup ("set" : Str) = some .globalImplicit) (hm2 : C.mg "set" = none) (ha : SB C a f) (hp : plainX a = true) :
    SE C (.Call (.Name "sorted" p) [.Call (.Name "set" p2) [a] [] q] [] pos) (fun env => match f env with
      | none => none
      | some x => match seq2 x with
        | none => none
        | some ds => match ints? ds with
          | none => none
          | some ns => if ns.length ≤ 50 then some (.list ((sortI (undupI ns)).map .int)) else none) := by
  obtain ⟨ta, ha1, ha2⟩ := ha
  refine ⟨tCB (rSortedSet C.w) (tCons (tCB (rSetS C.K C.w) (tCons ta tNil)) tNil), fun X hX => ?_, fun O σ H env Q d r hf qq => ?_⟩
  · rw [← hX.hK, ← hX.hw]
    exact pe_callB (cr_sortedSet hX.calm) (show X.env.scope.names.lookup ("sorted" : Str) = _ by rw [hX.hsc]; exact hg) (by rw [hX.hmg]; exact hm) (by decide +kernel)
      (pa_cons (pe_callTy (cr_setS hX.calm) (show X.env.scope.names.lookup ("set" : Str) = _ by rw [hX.hsc]; exact hg2) (by rw [hX.hmg]; exact hm2) (by decide +kernel) (pa_cons (ha1 X hX) pa_nil (star_ok hp)) (by decide) (by decide) (star_ok hp) rfl) pa_nil rfl) (by decide) (by decide) rfl rfl
  · dsimp only at hf
    split at hf
    · cases hf
    · rename_i x hd
      split at hf
      · cases hf
      · rename_i ds hsq
        split at hf
        · cases hf
        · rename_i ns hi
          split at hf
          · rename_i hl
            cases hf
            have := ints_eq hi
            subst this
            refine ha2 O σ H env _ _ r hd fun v H1 s1 hv => ?_
            have hS : ∃ l, v = .ref l ∧ (SqT C.K H1 l (ns.map V.int) ∨ SqL C.K H1 l (ns.map V.int)) := by
              unfold seq2 at hsq
              split at hsq
              · cases hsq
                obtain ⟨l, vs, rfl, h1, h2⟩ := hv.list
                have := h2.ofInts
                subst this
                exact ⟨l, rfl, .inr (.inl (.inl h1))⟩
              · cases hsq
                obtain ⟨l, vs, rfl, h1, h2⟩ := hv.tuple
                have := h2.ofInts
                subst this
                exact ⟨l, rfl, .inl (.inl (.inl (mi_lt h1)))⟩
              · cases hsq
            obtain ⟨l, rfl, hS⟩ := hS
            refine ⟨l, ns, rfl, hS, hl, fun p n hp hn => ⟨p, _, n, rfl, upd_same, by omega, fun ms p' hs hms hlen hp' => ?_⟩⟩
            have e : ms = sortI (undupI ns) := by
              refine sorted_uniq _ _ ?_ (hs.imp fun h => Int.le_of_lt h) (sortI_sorted _)
              have nd : ms.Nodup := hs.imp fun h => Int.ne_of_lt h
              refine ((List.perm_ext_iff_of_nodup nd (undupI_nodup ns)).mpr fun x => ?_).trans (sortI_perm _).symm
              rw [hms, undupI_mem]
              simp
            subst e
            have s2 := (s1.trans (same_upd (o := SetO C.w p (fun j => decide (j ∈ ns)) n) hp)).trans (same_upd (o := .lst ((sortI (undupI ns)).map V.int)) hp')
            refine qq _ _ s2 (.lst (xs := (sortI (undupI ns)).map V.int) ?_ (DrA.ints _))
            rw [mi_out (r.al.out ((s1.trans (same_upd hp)).free hp')), upd_same]; rfl
          · cases hf
theorem se_lset {p p2 q : Pos} (hg : C.sc.names.lookup ("len" : Str) = some .globalImplicit) (hm : C.mg "len" = none) (hg2 : C.sc.names.lookup ("set" : Str) = some .globalImplicit) (hm2 : C.mg "set" = none) (ha : SB C a f) (hp : plainX a = true) :
    SE C (.Call (.Name "len" p) [.Call (.Name "set" p2) [a] [] q] [] pos) (fun env => match f env with
      | some (.list ds) => match ints? ds with
        | none => none
        | some ns => if ns.length ≤ 50 then some (.int (undupI ns).length) else none
      | _ => none) := by
  obtain ⟨ta, ha1, ha2⟩ := ha
  refine ⟨fun σ H Q => ta σ H fun x H1 => ∃ (l : Addr) (ns : List Int), x = .ref l ∧ SqL C.K H1 l (ns.map V.int) ∧ ns.length ≤ 50 ∧ Q (.int ((undupI ns).length : Nat)) H1, fun X hX => ?_, fun O σ H env Q d r hf qq => ?_⟩
  · rw [← hX.hK]
    exact pe_lset hX.calm (show X.env.scope.names.lookup ("len" : Str) = _ by rw [hX.hsc]; exact hg) (by rw [hX.hmg]; exact hm) (show X.env.scope.names.lookup ("set" : Str) = _ by rw [hX.hsc]; exact hg2) (by rw [hX.hmg]; exact hm2) (ha1 X hX) (star_ok hp)
  · dsimp only at hf
    split at hf
    · rename_i ds hd
      split at hf
      · cases hf
      · rename_i ns hi
        split at hf
        · rename_i hl
          cases hf
          have := ints_eq hi
          subst this
          refine ha2 O σ H env _ _ r hd fun v H1 s1 hv => ?_
          obtain ⟨l, vs, rfl, h1, h2⟩ := hv.list
          have := h2.ofInts
          subst this
          exact ⟨l, ns, rfl, .inl (.inl h1), hl, qq _ H1 s1 (.int _)⟩
        · cases hf
    · cases hf
/-! ### zip -/
theorem zipD_get : ∀ {xs ys : List D} {i : Nat} {d : D}, (zipD xs ys)[i]? = some d → ∃ x y, xs[i]? = some x ∧ ys[i]? = some y ∧ d = .tuple [x, y]
  | [], _, _, _, h => by simp [zipD] at h
  | _ :: _, [], _, _, h => by simp [zipD] at h
  | x :: xs, y :: ys, 0, d, h => by
    simp [zipD] at h
    exact ⟨x, y, rfl, rfl, h.symm⟩
  | x :: xs, y :: ys, i + 1, d, h => by
    obtain ⟨u, v, h1, h2, h3⟩ := zipD_get (xs := xs) (ys := ys) (i := i) (by simpa [zipD] using h)
    exact ⟨u, v, by simpa using h1, by simpa using h2, h3⟩
theorem zipD_len : ∀ (xs ys : List D), (zipD xs ys).length = min xs.length ys.length
  | [], _ => by simp [zipD]
  | _ :: _, [] => by simp [zipD]
  | x :: xs, y :: ys => by simp only [zipD, List.length_cons, zipD_len xs ys]; omega
theorem it_zipT {K : PySem.W.Frag} {a b : Addr} {xs ys : List D} : ItOk K (RZ.ItzT K a b) (zipD xs ys) [(.ref a, .tuple xs), (.ref b, .tuple ys)] := fun O H al hG i => by
  have g1 : Dr K (mi H O) (.ref a) (.tuple xs) := hG _ List.mem_cons_self
  have g2 : Dr K (mi H O) (.ref b) (.tuple ys) := hG _ (List.mem_cons_of_mem _ List.mem_cons_self)
  cases g1 with
  | tup h1 h2 =>
    rename_i vs
    cases g2 with
    | tup h3 h4 =>
      rename_i us
      have q1 : SqT K H a vs := .inl (.inl (mi_lt h1))
      have q2 : SqT K H b us := .inl (.inl (mi_lt h3))
      refine ⟨fun d hd => ?_, fun hl => ⟨vs, us, q1, q2, ?_⟩⟩
      · obtain ⟨x, y, hx, hy, rfl⟩ := zipD_get hd
        obtain ⟨v, hv, hvd⟩ := h2.get hx
        obtain ⟨u, hu, hud⟩ := h4.get hy
        refine ⟨⟨vs, us, v, u, q1, q2, hv, hu⟩, fun z H' hz => ?_⟩
        obtain ⟨T, v', u', rfl, hT, rfl, e1, e2⟩ := hz
        have := (e1 vs q1).symm.trans hv
        cases this
        have := (e2 us q2).symm.trans hu
        cases this
        have sm : Same H (upd H T (.tup [v, u])) := same_upd hT
        refine ⟨sm, .tup (xs := [v, u]) ?_ (.cons (Dr.mono (mi_same sm) _ hvd) (.cons (Dr.mono (mi_same sm) _ hud) .nil))⟩
        rw [mi_out (al.out hT), upd_same]; rfl
      · rw [zipD_len] at hl
        have := h2.len
        have := h4.len
        by_cases h : vs.length ≤ i
        · exact .inl h
        · exact .inr (by omega)
theorem it_zipL {K : PySem.W.Frag} {a b : Addr} {xs ys : List D} : ItOk K (Itz K a b) (zipD xs ys) [(.ref a, .list xs), (.ref b, .list ys)] := fun O H al hG i => by
  have g1 : Dr K (mi H O) (.ref a) (.list xs) := hG _ List.mem_cons_self
  have g2 : Dr K (mi H O) (.ref b) (.list ys) := hG _ (List.mem_cons_of_mem _ List.mem_cons_self)
  cases g1 with
  | lst h1 h2 =>
    rename_i vs
    cases g2 with
    | lst h3 h4 =>
      rename_i us
      have q1 : SqL K H a vs := .inl (.inl (mi_lt h1))
      have q2 : SqL K H b us := .inl (.inl (mi_lt h3))
      refine ⟨fun d hd => ?_, fun hl => ⟨vs, us, q1, q2, ?_⟩⟩
      · obtain ⟨x, y, hx, hy, rfl⟩ := zipD_get hd
        obtain ⟨v, hv, hvd⟩ := h2.get hx
        obtain ⟨u, hu, hud⟩ := h4.get hy
        refine ⟨⟨vs, us, v, u, q1, q2, hv, hu⟩, fun z H' hz => ?_⟩
        obtain ⟨T, v', u', rfl, hT, rfl, e1, e2⟩ := hz
        have := (e1 vs q1).symm.trans hv
        cases this
        have := (e2 us q2).symm.trans hu
        cases this
        have sm : Same H (upd H T (.tup [v, u])) := same_upd hT
        refine ⟨sm, .tup (xs := [v, u]) ?_ (.cons (Dr.mono (mi_same sm) _ hvd) (.cons (Dr.mono (mi_same sm) _ hud) .nil))⟩
        rw [mi_out (al.out hT), upd_same]; rfl
      · rw [zipD_len] at hl
        have := h2.len
        have := h4.len
        by_cases h : vs.length ≤ i
        · exact .inl h
        · exact .inr (by omega)
theorem si_zip {elts : List Expr} {kk : Nat} {tpos p : Pos} (hg : C.sc.names.lookup ("zip" : Str) = some .globalImplicit) (hm : C.mg "zip" = none) (ha : SE C a f) (hb : SE C b g) (hp : plainX a = true) (hp2 : plainX b = true) :
    SI C (.Tuple elts kk tpos) (.Call (.Name "zip" p) [a, b] [] pos) (fun env => match f env with
      | none => none
      | some x => match g env with
        | none => none
        | some y => zip1 x y) := by
  obtain ⟨ta, ha1, ha2⟩ := ha
  obtain ⟨tb, hb1, hb2⟩ := hb
  refine ⟨RZ.iZipA C.K (tCons ta (tCons tb tNil)), fun X hX => ?_, fun O σ H env R ds r hf q => ?_⟩
  · rw [← hX.hK]
    exact RZ.pi_zipA (show X.env.scope.names.lookup ("zip" : Str) = _ by rw [hX.hsc]; exact hg) (by rw [hX.hmg]; exact hm) (pa_cons (ha1 X hX) (pa_cons (hb1 X hX) pa_nil (star_ok hp2)) (star_ok hp)) (star_ok hp) (star_any (by rw [List.all_cons, hp2]; rfl))
  · dsimp only at hf
    split at hf
    · cases hf
    · rename_i x hx
      split at hf
      · cases hf
      · rename_i y hy
        refine ha2 O σ H env _ _ r hx fun v H1 s1 hv => hb2 O σ H1 env _ _ (r.mono s1) hy fun w H2 s2 hw => ?_
        have hv2 := Dr.mono (mi_same s2) _ hv
        unfold zip1 at hf
        split at hf
        · cases hf
          cases hv2 with
          | tup h1 h2 =>
            cases hw with
            | tup h3 h4 =>
              refine ⟨_, _, _, _, rfl, .inr ⟨.inl (.inl (mi_lt h1)), .inl (.inl (mi_lt h3)), q _ H2 _ (s1.trans s2) it_zipT fun z hz => ?_⟩⟩
              rcases List.mem_cons.mp hz with rfl | hz
              · exact .tup h1 h2
              · rw [List.mem_singleton.mp hz]; exact .tup h3 h4
        · cases hf
          cases hv2 with
          | lst h1 h2 =>
            cases hw with
            | lst h3 h4 =>
              refine ⟨_, _, _, _, rfl, .inl ⟨.inl (.inl (mi_lt h1)), .inl (.inl (mi_lt h3)), q _ H2 _ (s1.trans s2) it_zipL fun z hz => ?_⟩⟩
              rcases List.mem_cons.mp hz with rfl | hz
              · exact .lst h1 h2
              · rw [List.mem_singleton.mp hz]; exact .lst h3 h4
        · cases hf
/-! ### x[::-1] -/
theorem rev_places (n : Nat) : Builtin.Slice.sliceAdjust none none (-1) (n : Int) = ((n : Int) - 1, -1) ∧ Builtin.Slice.slicePlaces ((n : Int) - 1) (-1) (-1) = n := by
  refine ⟨rfl, ?_⟩
  unfold Builtin.Slice.slicePlaces
  rw [if_neg (by decide)]
  by_cases h : (n : Int) - 1 > -1
  · rw [if_pos h, show (-(-1 : Int)) = 1 from rfl, Int.ediv_one]; omega
  · rw [if_neg h]; omega
theorem rev_pick (xs : Array Value) : ((List.range xs.size).filterMap fun (m : Nat) => xs[(((xs.size : Int) - 1) + (m : Int) * (-1)).toNat]?).toArray = xs.toList.reverse.toArray := by
  congr 1
  have e : ∀ k : Nat, k ≤ xs.size → ((List.range k).filterMap fun (m : Nat) => xs[(((xs.size : Int) - 1) + (m : Int) * (-1)).toNat]?) = xs.toList.reverse.take k := by
    intro k
    induction k with
    | zero => intro _; rfl
    | succ k ih =>
      intro hk
      rw [List.range_succ, List.filterMap_append, ih (by omega), List.take_add_one]
      congr 1
      have e1 : ((((xs.size : Int) - 1) + (k : Int) * (-1)).toNat) = xs.size - 1 - k := by omega
      rw [List.filterMap_cons, e1, List.filterMap_nil, List.getElem?_reverse (by simp; omega), Array.length_toList, Array.getElem?_toList, Array.getElem?_eq_getElem (show xs.size - 1 - k < xs.size by omega)]
      rfl
  rw [e xs.size (Nat.le_refl _)]
  exact List.take_of_length_le (by simp)
theorem applied_rev {P : Program} {w : World} {A : Around} {E : Value → Shared → Prop} {s : Shared} {sl : Addr} {vl vu vs : Value} {n : Nat} {Q : Int × Int × Nat → Shared → Prop} (hs : s.heap.IsSliceOf sl vl vu vs) (pl : IsPart vl none) (pu : IsPart vu none) (ps : IsPart vs (some (-1)))
    (h : Q ((n : Int) - 1, -1, n) s) : wpAny (model P w) A (Builtin.Slice.sliceApplied (.ref sl) (pure (n : Int))) Q E s := by
  obtain ⟨os, hos, hcs, hds⟩ := id hs
  unfold Builtin.Slice.sliceApplied Builtin.Slice.sliceFields
  refine wpAny_bind (wpAny_bind (wpAny_field hos hds (x := vl) rfl (wpAny_bind (wpAny_field hos hds (x := vu) rfl (wpAny_bind (wpAny_field hos hds (x := vs) rfl (wpAny_pure ?_)))))))
  refine wpAny_bind (HT.slicePart_ ps ?_)
  show wpAny _ _ (if ((-1 : Int) == 0) = true then _ else _) _ _ s
  rw [if_neg (by decide)]
  refine wpAny_bind (HT.slicePart_ pl (wpAny_bind (HT.slicePart_ pu (wpAny_bind (wpAny_pure ?_)))))
  show wpAny _ _ (match Builtin.Slice.sliceAdjust none none (-1) (n : Int) with | (lo, hi) => pure (lo, (-1 : Int), Builtin.Slice.slicePlaces lo hi (-1))) _ _ s
  rw [(rev_places n).1]
  show wpAny _ _ (pure ((n : Int) - 1, (-1 : Int), Builtin.Slice.slicePlaces ((n : Int) - 1) (-1) (-1))) _ _ s
  rw [(rev_places n).2]
  exact wpAny_pure h
theorem tuple_rev {P : Program} {w : World} {A : Around} {E : Value → Shared → Prop} {s : Shared} {t sl : Addr} {items : Array Value} {vl vu vs : Value} {Q : Value → Shared → Prop} (ht : IsTup s.heap t items) (hs : s.heap.IsSliceOf sl vl vu vs) (pl : IsPart vl none) (pu : IsPart vu none) (ps : IsPart vs (some (-1)))
    (h : Q (.ref s.heap.objs.size) { s with heap := s.heap.push { cls := .type "tuple", data := .seq items.toList.reverse.toArray } }) (hsz : items.size ≤ sizeLine) : wpAny (model P w) A (getItem (.ref t) (.ref sl)) Q E s := by
  obtain ⟨os, hos, hcs, hds⟩ := id hs
  have hTs : s.TypeIs (.ref sl) "slice" := ⟨os, hos, hcs⟩
  have htake : sizeOk (.seq items.toList.reverse.toArray) := by
    show items.toList.reverse.toArray.size ≤ sizeLine
    rw [List.size_toArray, List.length_reverse, Array.length_toList]
    exact hsz
  unfold getItem
  try with_reducible refine wpAny_holding ?_
  first | refine wpAny_bind (wpAny_pure ?_) | skip
  refine wpAny_bind (wpAny_sequenceKey ht.typeIs (by decide) ?_)
  refine wpAny_bind (wpAny_callSpecial?_slot (name := Str.ofString "__getitem__") ht.typeIs PyProof.Rows.slot_tuple_getitem (wpAny_call_entry PyProof.Rows.slot_tuple_getitem ht.typeIs PyProof.Rows.entry_tuple_getitem ?_ (PyProof.Rows.args_tuple_getitem _ _)))
  show wpAny _ _ (Builtin.Tuple.tupleItemsOf (.ref t) >>= _) _ _ s
  refine wpAny_bind (PyProof.Rows.tupleItemsOf_ ht ?_)
  refine wpAny_bind (wpAny_typeOf hTs ?_)
  rw [if_pos (by decide)]
  refine wpAny_bind (applied_rev hs pl pu ps ?_)
  have hno : ¬ (((((items.size : Int) - 1) == 0) && ((-1 : Int) == 1) && (items.size == items.size)) = true) := by simp
  show wpAny _ _ (if ((((items.size : Int) - 1) == 0) && ((-1 : Int) == 1) && (items.size == items.size)) = true then _ else _) _ _ s
  rw [if_neg hno, rev_pick]
  first
    | exact wpAny_bind (m := Builtin.Tuple.tupleExact _) (wpAny_newObj_type (wpAny_pure ⟨_, rfl, wpAny_pure h⟩) htake)
    | exact wpAny_bind (m := Builtin.Tuple.tupleExact _) (wpAny_newObj_type (wpAny_bind (wpAny_pure (wpAny_pure ⟨_, rfl, wpAny_pure h⟩))) htake)
    | exact wpAny_bind (wpAny_bind (m := Builtin.Tuple.tupleExact _) (wpAny_newObj_type (wpAny_pure (wpAny_pure ⟨_, rfl, wpAny_pure h⟩)) htake))
    | exact wpAny_bind (wpAny_bind (m := Builtin.Tuple.tupleExact _) (wpAny_newObj_type (wpAny_pure ⟨_, rfl, wpAny_pure h⟩) htake))
theorem vals_rev : ∀ {xs : List V} {us : List Value}, Vals xs us → Vals xs.reverse us.reverse
  | _, _, .nil => .nil
  | _, _, .cons r t => by
    rw [List.reverse_cons, List.reverse_cons]
    exact (vals_rev t).append (.cons r .nil)
theorem pe_revT {X : Cx} {e : Expr} {te : TE} {k : Nat} {p1 p2 p3 pos : Pos} (he : PE X e te) : PE X (.Subscript e (.Slice none none (some (.UnaryOp .USub (.Constant (.int 1) k p1) p2)) p3) pos)
    (fun σ H Q => te σ H fun x H1 => ∃ a xs, x = .ref a ∧ SqT X.K H1 a xs ∧ ∀ p, H1 p = none → Q (.ref p) (upd H1 p (.tup xs.reverse))) := by
  refine ⟨fun pins s σ H Q I h => ?_⟩
  refine Subscript_ (thn (he.run pins s σ H _ I h) fun v s1 ⟨x, H1, I1, r1, q1⟩ => ?_)
  obtain ⟨a, xs, ex, hx, q⟩ := q1
  subst ex
  cases r1
  have hst : PO X (some (.UnaryOp .USub (.Constant (.int 1) k p1) p2)) (tPart (tUn (rU fun i => .int (-i)) (tC (.int 1)))) := po_some (pe_un un_neg pe_int)
  refine wpAny_Slice (thn (po_none.run pins s1 σ H1 (fun o H2 => o = none ∧ H2 = H1) I1 ⟨rfl, rfl⟩) fun vl s2 ⟨l, H2, I2, pl, el, e2⟩ => ?_)
  subst el e2
  refine thn (po_none.run pins s2 σ H2 (fun o H3 => o = none ∧ H3 = H2) I2 ⟨rfl, rfl⟩) fun vu s3 ⟨u, H3, I3, pu, eu, e3⟩ => ?_
  subst eu e3
  refine thn (hst.run pins s3 σ H3 (fun o H4 => o = some (-1) ∧ H4 = H3) I3 ⟨1, rfl, -1, rfl, rfl, rfl⟩) fun vs s4 ⟨o, H4, I4, ps, eo, e4⟩ => ?_
  subst eo e4
  have I5 : Inv X pins σ H4 { s4 with heap := s4.heap.push { cls := .type "slice", data := .fields #[vl, vu, vs] } } := I4.kept (t' := s4.toks) fun b ob q => Heap.get?_push_of_some _ q
  obtain ⟨its, r, ht, hz⟩ := I5.tuple hx
  have hlen := r.length
  show wpAny (model X.prog X.w) X.A (subscriptTail e (.Slice none none (some (.UnaryOp .USub (.Constant (.int 1) k p1) p2)) p3) (.ref a) (.ref s4.heap.objs.size)) (EP X pins σ Q) X.xe { s4 with heap := s4.heap.push { cls := .type "slice", data := .fields #[vl, vu, vs] } }
  refine tail_any (ops := [.ref a, .ref s4.heap.objs.size]) ht.typeIs (PyProof.Rows.slot_tuple_getitem.lookup) ?_ (by with_unfolding_all rfl)
  refine tuple_rev ht (Heap.IsSliceOf.new _ vl vu vs) pl pu ps ?_ (by rw [List.size_toArray]; omega)
  refine ⟨.ref _, _, I5.laid (t' := s4.toks) (o := .tup xs.reverse) (fun b ob q => Heap.get?_push_of_some _ q) (Nat.le_refl _) ?_, rfl, q _ (I5.hok.fresh (Nat.le_refl _))⟩
  exact ⟨by rw [List.length_reverse]; exact hz, _, vals_rev r, IsTup.new _ _⟩
theorem PE.or {X : Cx} {e : Expr} {t u : TE} (h : PE X e t) (h' : PE X e u) : PE X e (fun σ H Q => t σ H Q ∨ u σ H Q) :=
  ⟨fun pins s σ H Q I hw => hw.elim (fun q => h.run pins s σ H Q I q) fun q => h'.run pins s σ H Q I q⟩
theorem se_rev {k : Nat} {p1 p2 p3 : Pos} (ha : SB C a f) : SE C (.Subscript a (.Slice none none (some (.UnaryOp .USub (.Constant (.int 1) k p1) p2)) p3) pos) (fun env => match f env with
    | none => none
    | some x => opRev x) := by
  obtain ⟨ta, ha1, ha2⟩ := ha
  refine ⟨fun σ H Q => tRevL C.K ta σ H Q ∨ ta σ H fun x H1 => ∃ a xs, x = .ref a ∧ SqT C.K H1 a xs ∧ ∀ p, H1 p = none → Q (.ref p) (upd H1 p (.tup xs.reverse)), fun X hX => ?_, fun O σ H env Q d r hf q => ?_⟩
  · rw [← hX.hK]; exact PE.or (pe_revL (ha1 X hX)) (pe_revT (ha1 X hX))
  · dsimp only at hf
    split at hf
    · cases hf
    · rename_i x hx
      unfold opRev at hf
      split at hf
      · cases hf
        refine .inl (ha2 O σ H env _ _ r hx fun v H1 s1 hv => ?_)
        obtain ⟨p, vs, rfl, h1, h2⟩ := hv.list
        exact ⟨p, vs, rfl, .inl (.inl h1), wk_lst (fun v H' s hv => q v H' (s1.trans s) hv) (r.mono s1).al h2.rev⟩
      · cases hf
        refine .inr (ha2 O σ H env _ _ r hx fun v H1 s1 hv => ?_)
        obtain ⟨p, vs, rfl, h1, h2⟩ := hv.tuple
        exact ⟨p, vs, rfl, .inl (.inl (mi_lt h1)), wk_tup (fun v H' s hv => q v H' (s1.trans s) hv) (r.mono s1).al h2.rev⟩
      · cases hf
end
end J

/-! enumerate over tuples and lists. -/
namespace J
open PySem PySem.Spec PyProof.Rows L2
theorem en_new {v : Value} {ob : Obj} {Hq : Heap → Prop} (B : Begins v ob Hq) :
    Meets (Builtin.«enumerate.__new__» ⟨[.type "enumerate", v], []⟩) (fun _ R s => Hq s.heap ∧
      R (.ok (.ret (.ref (s.heap.push ob).objs.size))) { s with heap := (s.heap.push ob).push { cls := .type "enumerate", data := .fields #[.none, .bool false, .ref s.heap.objs.size, rawInt 0, .none, .none] } }) :=
  .of_wp fun P w A R s h => by
    obtain ⟨h0, g0, d0, t0, o0⟩ := s
    obtain ⟨hq, h⟩ := h
    have z1 := sub_enumerate
    have q1 : ∀ {A' : Around} {E : Value → Shared → Prop} {Q : Value → Shared → Prop}, Q (.ref h0.objs.size) ⟨h0.push ob, g0, d0, t0, o0⟩ → wpAny (model P w) A' (pyIter v) Q E ⟨h0, g0, d0, t0, o0⟩ :=
      fun q => B.iter P w _ _ ⟨h0, g0, d0, t0, o0⟩ _ hq q
    wp_walk using q1
    refine wpAny_stack_any fun st => wpAny_pure ?_
    split
    · rename_i c _ _ _ _ _
      cases (c == Value.type "enumerate") <;> (wp_walk using q1; exact ⟨_, rfl, h⟩)
    · wp_walk using q1
      exact ⟨_, rfl, h⟩
theorem en_call {P : Program} {w : World} {A : Around} {E : Value → Shared → Prop} {s : Shared} {v : Value} {ob : Obj} {Hq : Heap → Prop} {Q : Value → Shared → Prop} (B : Begins v ob Hq) (h1 : Hq s.heap)
    (h : ∀ g, IsEnum g (s.heap.objs.size + 1) s.heap.objs.size 0 .none → g.get? s.heap.objs.size = some ob → (∀ b o, s.heap.get? b = some o → g.get? b = some o) → Q (.ref (s.heap.objs.size + 1)) { s with heap := g }) :
    wpAny (model P w) A (call (.type "enumerate") [v]) Q E s := by
  refine callType_new F.called_enumerate (by decide) (F.typeCall_enumerate_1 _) (F.newCall_enumerate_1 _) (fun z => F.args_object_init_2 z _) F.entry_enumerate_new (en_new B) ⟨h1, ?_⟩
  have hz : (s.heap.push ob).objs.size = s.heap.objs.size + 1 := Heap.size_push ..
  show _ ∧ _
  rw [hz]
  have he : IsEnum ((s.heap.push ob).push { cls := .type "enumerate", data := .fields #[.none, .bool false, .ref s.heap.objs.size, rawInt 0, .none, .none] }) (s.heap.objs.size + 1) s.heap.objs.size 0 .none := by
    have := Heap.get?_push_size (s.heap.push ob) (o := { cls := .type "enumerate", data := .fields #[.none, .bool false, .ref s.heap.objs.size, rawInt 0, .none, .none] }) rfl
    rw [hz] at this
    exact this
  exact ⟨⟨_, he, rfl⟩, h _ he (Heap.get?_push_of_some _ (Heap.get?_push_size _ B.free)) fun b o x => Heap.get?_push_of_some _ (Heap.get?_push_of_some _ x)⟩
theorem en_end {P : Program} {w : World} {A : Around} {E : Value → Shared → Prop} {s : Shared} {e it t : Addr} {c : Int} {i : Nat} {ys : Array Value} {old : Value} {Q : Option Value → Shared → Prop} (hq : A.in1.handled = none) (he : IsEnum s.heap e it c old) (hi : s.heap.IsTupleIter it t i) (ht : s.heap.IsTuple t ys) (hn : ys[i]? = none)
    (k : ∀ g, Heap.ExtBut it s.heap g → Q none { s with heap := g }) : wpAny (model P w) A (pyNext (.ref e)) Q E s := by
  have tE : s.TypeIs (.ref e) "enumerate" := ⟨_, he, rfl⟩
  unfold pyNext
  refine wpAny_bind (wpAny_attempt (wpAny_callSpecial?_slot (name := Str.ofString "__next__") tE F.slot_enumerate_next (wpAny_call_entry F.slot_enumerate_next tE F.entry_enumerate_next ?_ (F.args_enumerate_next_1 _))))
  show wpAny _ _ (field (.ref e) 2 >>= fun _ => _) _ _ _
  refine wpAny_bind (wpAny_field he rfl (x := .ref it) rfl ?_)
  refine wpAny_bind (wpAny_nextOf_tuple_end hq hi ht hn fun g x y z => ?_)
  obtain ⟨o, ho, hc⟩ := z
  exact wpAny_bind (wpAny_isInstance (T := "StopIteration") (b := true) ⟨o, ho, hc⟩ isSubtype_stop (wpAny_pure (k _ y)))
/-- the tuple at a, each item in a new pair -/
def IteT (K : PySem.W.Frag) (a : Addr) : It :=
  ⟨fun i H => ∃ (xs : List V) (x : V), SqT K H a xs ∧ xs[i]? = some x, fun i H v H' => ∃ T x, v = .ref T ∧ H T = none ∧ H' = upd H T (.tup [.int (i : Nat), x]) ∧ ∀ xs, SqT K H a xs → xs[i]? = some x, fun i H => ∃ xs : List V, SqT K H a xs ∧ xs.length ≤ i⟩
theorem turn_enT {P : Program} {w : World} {K : PySem.W.Frag} {elts : List Expr} {kk : Nat} {tpos : Pos} (a e it : Addr) (hai : a ≠ it) (hea : e ≠ a) :
    Turn P w K (.Tuple elts kk tpos) (IteT K a) [e, it] e (fun i h => (∃ old, IsEnum h e it ((i : Nat) : Int) old) ∧ h.IsTupleIter it a i ∧ e ≠ it) where
  mem := by simp
  obj := fun i h st b hb => by
    obtain ⟨⟨old, he⟩, ⟨o, ho, hc, hd⟩, _⟩ := st
    simp only [List.mem_cons, List.not_mem_nil, or_false] at hb
    rcases hb with z | z
    · rw [z]; exact ⟨_, he, fun v q => nomatch q⟩
    · rw [z]; exact ⟨o, ho, fun v q => by rw [hd] at q; cases q⟩
  keep := fun i h h' st k => let ⟨⟨old, he⟩, hi, hne⟩ := st; ⟨⟨old, k e (by simp) _ he⟩, hi.at fun o q => k it (by simp) o q, hne⟩
  item := by
    intro X hP hw hK hc i pins s σ H E I hf st hg
    subst hP hw hK
    obtain ⟨⟨old, he⟩, hit, hne⟩ := st
    obtain ⟨xs, x, hq, hx⟩ := hg
    obtain ⟨its, rv, p, hz⟩ := I.tuple hq
    obtain ⟨u, hu, ru⟩ := rv.get hx
    have hel : e < s.heap.objs.size := Heap.lt_size he
    have hil : it < s.heap.objs.size := by obtain ⟨_, q, _⟩ := hit; exact Heap.lt_size q
    have hlen : i < its.toArray.size := by
      rw [List.size_toArray]
      exact (List.getElem?_eq_some_iff.mp hu).1
    refine wpAny_pyNext_enum_itemC (Draws.tuple (A := X.A.in1) (I.ok.hd hc) it a hai its.toArray) he ⟨hit, p⟩ hlen hne (by simp; exact ⟨hne, hea⟩) fun y g tk hP ho hst hT hsz hk => ?_
    have ey : y = u := by
      have : its.toArray[i]? = some u := by simpa using hu
      rw [this] at hP
      cases hP
      rfl
    subst ey
    refine ⟨_, rfl, wpAny_letOwnedTupleGo_enum (s := { s with heap := g, toks := tk + 1 }) ho fun g' he' sb => ?_⟩
    have hT2 : g'.get? s.heap.objs.size = some { cls := .type "tuple", data := .seq #[.int i tk, y] } := (sb.2 _ (Nat.ne_of_gt hel)).trans hT
    have new : ObjOk X.prog X.w (upd H s.heap.objs.size (.tup [.int (i : Nat), x])) g' s.heap.objs.size (.tup [.int (i : Nat), x]) :=
      ⟨by show 2 ≤ sizeLine; decide, [.int i tk, y], .cons ⟨_, rfl⟩ (.cons ru .nil), ⟨_, hT2, rfl, _, rfl⟩⟩
    have I1 : Inv X pins σ (upd H s.heap.objs.size (.tup [.int (i : Nat), x])) { s with heap := g', toks := tk + 1 } :=
      I.turnedNew (ch := [e, it]) (fun b ob hb q => (sb.2 b (fun z => hb (by simp [z]))).trans (hk b ob (fun z => hb (by simp [z])) (fun z => hb (by simp [z])) q)) hf (Nat.le_refl _) new
    refine ⟨.ref s.heap.objs.size, _, I1, rfl, ⟨_, x, rfl, I.hok.fresh (Nat.le_refl _), rfl, fun ys hy => by rw [I.tuple_inj hy hq]; exact hx⟩, ⟨⟨y, ?_⟩, hst.1.at fun o q => (sb.2 it (Ne.symm hne)).trans q, hne⟩, fun b hb => ?_⟩
    · have e1 : ((i + 1 : Nat) : Int) = (i : Int) + 1 := by omega
      rw [e1]; exact he'
    · have hb' : b < s.heap.objs.size := by
        simp only [List.mem_cons, List.not_mem_nil, or_false] at hb
        rcases hb with z | z
        · rw [z]; exact hel
        · rw [z]; exact hil
      rw [upd_ne (Nat.ne_of_lt hb')]
      exact (hf b hb).1
  done := by
    intro X hP hw hK hc i pins s σ H E I hf st hg
    subst hP hw hK
    obtain ⟨⟨old, he⟩, hit, hne⟩ := st
    obtain ⟨xs, hq, hx⟩ := hg
    obtain ⟨its, rv, p, hz⟩ := I.tuple hq
    obtain ⟨f0, f1, f2, f3, f4, f5⟩ := hf it (by simp)
    have hl := rv.length
    exact en_end (I.ok.hd hc) he hit p (by simp; omega) fun g eb => ⟨rfl, I.turned (t' := s.toks) (fun b o hb q => eb b o hb q) f0 f1 f3 f4 f5⟩
  self := fun A i s Q E st h => let ⟨⟨_, he⟩, _⟩ := st; wpAny_pyIter_enum he h
/-- enumerate(list or tuple) -/
def iEn (K : PySem.W.Frag) (ta : TA) : TI := fun σ H R => ta σ H fun vs H1 => ∃ a xs, vs = [.ref a] ∧ (SqL K H1 a xs ∧ R (Ite K a) H1 ∨ SqT K H1 a xs ∧ R (IteT K a) H1)
theorem pi_en {X : Cx} {e : Expr} {ta : TA} {p pos tpos : Pos} {elts : List Expr} {kk : Nat} (hg : Gl X "enumerate") (hm : X.mg "enumerate" = none) (ha : PA X [e] ta) (hs : starEach [e] X.env = [(false, eval e X.env)]) :
    PI X (.Tuple elts kk tpos) (.Call (.Name "enumerate" p) [e] [] pos) (iEn X.K ta) := by
  refine ⟨fun pins s σ H R I h => ?_⟩
  refine Call_ (ld_blt I hg hm boot_enumerate (PyProof.Rows.callWith_type1 (thn (ha.run pos pins s σ H _ I h) fun us s1 ⟨vs, H1, I1, r1, q1⟩ => ?_) hs rfl))
  obtain ⟨a, xs, ex, hq⟩ := q1
  subst ex
  have r2 := Vals.ref1 r1
  subst r2
  have fr : ∀ b : Addr, b ∈ [s1.heap.objs.size + 1, s1.heap.objs.size] → s1.heap.objs.size ≤ b := fun b hb => by
    simp only [List.mem_cons, List.not_mem_nil, or_false] at hb
    rcases hb with z | z
    · rw [z]; exact Nat.le_add_right _ _
    · rw [z]; exact Nat.le_refl _
  rcases hq with ⟨hq, q⟩ | ⟨hq, q⟩
  · obtain ⟨its, rv, p', hz⟩ := I1.list hq
    refine en_call (begins_list a its.toArray) p'.isList fun g he hit hk => wpAny_pyIter_enum he ?_
    have I2 : Inv X pins σ H1 { s1 with heap := g } := I1.kept (t' := s1.toks) hk
    exact ⟨s1.heap.objs.size + 1, [s1.heap.objs.size + 1, s1.heap.objs.size], _, _, H1, rfl, I2, turn_enum a (s1.heap.objs.size + 1) s1.heap.objs.size, ⟨⟨.none, he⟩, ⟨_, hit, rfl, rfl⟩, Nat.succ_ne_self _⟩, fun b hb => I1.fpOk (fr b hb) (I1.hok.fresh (fr b hb)), q⟩
  · obtain ⟨its, rv, p', hz⟩ := I1.tuple hq
    have la : a < s1.heap.objs.size := by obtain ⟨_, q, _⟩ := p'; exact Heap.lt_size q
    refine en_call (begins_tuple a its.toArray) p' fun g he hit hk => wpAny_pyIter_enum he ?_
    have I2 : Inv X pins σ H1 { s1 with heap := g } := I1.kept (t' := s1.toks) hk
    exact ⟨s1.heap.objs.size + 1, [s1.heap.objs.size + 1, s1.heap.objs.size], _, _, H1, rfl, I2, turn_enT a (s1.heap.objs.size + 1) s1.heap.objs.size (Nat.ne_of_lt la) (Nat.ne_of_gt (Nat.lt_succ_of_lt la)), ⟨⟨.none, he⟩, ⟨_, hit, rfl, rfl⟩, Nat.succ_ne_self _⟩, fun b hb => I1.fpOk (fr b hb) (I1.hok.fresh (fr b hb)), q⟩
theorem enumD_get : ∀ {xs : List D} {k i : Nat} {d : D}, (enumD k xs)[i]? = some d → ∃ x, xs[i]? = some x ∧ d = .tuple [.int ((k + i : Nat) : Int), x]
  | [], _, _, _, h => by simp [enumD] at h
  | x :: xs, k, 0, d, h => by
    simp [enumD] at h
    exact ⟨x, rfl, h.symm⟩
  | x :: xs, k, i + 1, d, h => by
    obtain ⟨y, h1, h2⟩ := enumD_get (xs := xs) (k := k + 1) (i := i) (by simpa [enumD] using h)
    exact ⟨y, by simpa using h1, by rw [h2, show k + 1 + i = k + (i + 1) by omega]⟩
theorem enumD_len : ∀ (xs : List D) (k : Nat), (enumD k xs).length = xs.length
  | [], _ => rfl
  | x :: xs, k => by simp only [enumD, List.length_cons, enumD_len xs (k + 1)]
theorem it_enT {K : PySem.W.Frag} {a : Addr} {xs : List D} : ItOk K (IteT K a) (enumD 0 xs) [(.ref a, .tuple xs)] := fun O H al hG i => by
  have g1 : Dr K (mi H O) (.ref a) (.tuple xs) := hG _ List.mem_cons_self
  cases g1 with
  | tup h1 h2 =>
    rename_i vs
    have q1 : SqT K H a vs := .inl (.inl (mi_lt h1))
    refine ⟨fun d hd => ?_, fun hl => ⟨vs, q1, by rw [enumD_len] at hl; rw [h2.len]; exact hl⟩⟩
    obtain ⟨x, hx, rfl⟩ := enumD_get hd
    obtain ⟨v, hv, hvd⟩ := h2.get hx
    refine ⟨⟨vs, v, q1, hv⟩, fun z H' hz => ?_⟩
    obtain ⟨T, v', rfl, hT, rfl, e1⟩ := hz
    have := (e1 vs q1).symm.trans hv
    cases this
    have sm : Same H (upd H T (.tup [.int (i : Nat), v])) := same_upd hT
    refine ⟨sm, .tup (xs := [.int (i : Nat), v]) ?_ (.cons (by rw [Nat.zero_add]; exact .int _) (.cons (Dr.mono (mi_same sm) _ hvd) .nil))⟩
    rw [mi_out (al.out hT), upd_same]; rfl
theorem it_enL {K : PySem.W.Frag} {a : Addr} {xs : List D} : ItOk K (Ite K a) (enumD 0 xs) [(.ref a, .list xs)] := fun O H al hG i => by
  have g1 : Dr K (mi H O) (.ref a) (.list xs) := hG _ List.mem_cons_self
  cases g1 with
  | lst h1 h2 =>
    rename_i vs
    have q1 : SqL K H a vs := .inl (.inl (mi_lt h1))
    refine ⟨fun d hd => ?_, fun hl => ⟨vs, q1, by rw [enumD_len] at hl; rw [h2.len]; exact hl⟩⟩
    obtain ⟨x, hx, rfl⟩ := enumD_get hd
    obtain ⟨v, hv, hvd⟩ := h2.get hx
    refine ⟨⟨vs, v, q1, hv⟩, fun z H' hz => ?_⟩
    obtain ⟨T, v', rfl, hT, rfl, e1⟩ := hz
    have := (e1 vs q1).symm.trans hv
    cases this
    have sm : Same H (upd H T (.tup [.int (i : Nat), v])) := same_upd hT
    refine ⟨sm, .tup (xs := [.int (i : Nat), v]) ?_ (.cons (by rw [Nat.zero_add]; exact .int _) (.cons (Dr.mono (mi_same sm) _ hvd) .nil))⟩
    rw [mi_out (al.out hT), upd_same]; rfl
section
variable {C : Fam} {a : Expr} {f : En → Option D} {pos : Pos}
theorem si_enum {elts : List Expr} {kk : Nat} {tpos p : Pos} (hg : C.sc.names.lookup ("enumerate" : Str) = some .globalImplicit) (hm : C.mg "enumerate" = none) (ha : SE C a f) (hp : plainX a = true) :
    SI C (.Tuple elts kk tpos) (.Call (.Name "enumerate" p) [a] [] pos) (fun env => match f env with
      | none => none
      | some x => match seq2 x with
        | none => none
        | some ds => some (enumD 0 ds)) := by
  obtain ⟨ta, ha1, ha2⟩ := ha
  refine ⟨iEn C.K (tCons ta tNil), fun X hX => ?_, fun O σ H env R ds r hf q => ?_⟩
  · rw [← hX.hK]
    exact pi_en (show X.env.scope.names.lookup ("enumerate" : Str) = _ by rw [hX.hsc]; exact hg) (by rw [hX.hmg]; exact hm) (pa_cons (ha1 X hX) pa_nil (star_ok hp)) (star_ok hp)
  · dsimp only at hf
    split at hf
    · cases hf
    · rename_i x hx
      split at hf
      · cases hf
      · rename_i es hs
        cases hf
        refine ha2 O σ H env _ _ r hx fun v H1 s1 hv => ?_
        unfold seq2 at hs
        split at hs
        · cases hs
          cases hv with
          | lst h1 h2 => exact ⟨_, _, rfl, .inl ⟨.inl (.inl (mi_lt h1)), q _ H1 _ s1 it_enL fun z hz => by rw [List.mem_singleton.mp hz]; exact .lst h1 h2⟩⟩
        · cases hs
          cases hv with
          | tup h1 h2 => exact ⟨_, _, rfl, .inr ⟨.inl (.inl (mi_lt h1)), q _ H1 _ s1 it_enT fun z hz => by rw [List.mem_singleton.mp hz]; exact .tup h1 h2⟩⟩
        · cases hs
end
end J

/-! zip over a tuple and a list. -/
namespace J
open PySem PySem.Spec PyProof.Rows L2
theorem dr_tEnd {P : Program} {w : World} {A : Around} (hq : A.handled = none) (it t : Addr) (ys : Array Value) (n : Nat) (hn : ys[n]? = none) :
    Draws P w A it [it, t] n (fun i v => ys[i]? = some v) (fun i h => i = n ∧ h.IsTupleIter it t i ∧ h.IsTuple t ys) where
  live := fun _ _ st => let ⟨o, ho, _⟩ := st.2.1; ⟨o, ho⟩
  frame := fun _ _ _ st hk => ⟨st.1, st.2.1.at fun o e => hk it (by simp) o e, st.2.2.at fun o e => hk t (by simp) o e⟩
  item := fun i s Q E hi st _ => absurd st.1 (Nat.ne_of_lt hi)
  done := fun s Q E st hE => wpAny_nextOf_tuple_end hq st.2.1 st.2.2 hn hE
theorem dr_lEnd {P : Program} {w : World} {A : Around} (hq : A.handled = none) (it t : Addr) (ys : Array Value) (n : Nat) (hn : ys[n]? = none) :
    Draws P w A it [it, t] n (fun i v => ys[i]? = some v) (fun i h => i = n ∧ h.IsListIter it t i ∧ h.IsList t ys) where
  live := fun _ _ st => let ⟨o, ho, _⟩ := st.2.1; ⟨o, ho⟩
  frame := fun _ _ _ st hk => ⟨st.1, st.2.1.at fun o e => hk it (by simp) o e, st.2.2.at fun o e => hk t (by simp) o e⟩
  item := fun i s Q E hi st _ => absurd st.1 (Nat.ne_of_lt hi)
  done := fun s Q E st hE => wpAny_nextOf_list_end hq st.2.1 st.2.2 hn fun h' x he hx => hE h' x he hx
/-- the tuple at a and the list at b, the items in new pairs -/
def ItzM (K : PySem.W.Frag) (a b : Addr) : It :=
  ⟨fun i H => ∃ (xs ys : List V) (x y : V), SqT K H a xs ∧ SqL K H b ys ∧ xs[i]? = some x ∧ ys[i]? = some y,
    fun i H v H' => ∃ T x y, v = .ref T ∧ H T = none ∧ H' = upd H T (.tup [x, y]) ∧ (∀ xs, SqT K H a xs → xs[i]? = some x) ∧ ∀ ys, SqL K H b ys → ys[i]? = some y,
    fun i H => ∃ xs ys : List V, SqT K H a xs ∧ SqL K H b ys ∧ (xs.length ≤ i ∨ ys.length ≤ i)⟩
theorem turn_zipM {P : Program} {w : World} {K : PySem.W.Frag} {elts : List Expr} {kk : Nat} {tpos : Pos} {a b z TI TO i1 i2 : Addr} (S : ZipSep2 z TI TO i1 i2 [i1, a] [i2, b]) (ne1 : a ≠ i1) (ne2 : b ≠ i2) :
    Turn P w K (.Tuple elts kk tpos) (ItzM K a b) [z, TI, TO, i1, i2] z (fun i h => IsZip h z TI TO .none ∧ IsTupOf2 h TI (.ref i1) (.ref i2) ∧ (∃ x y, IsTupOf2 h TO x y) ∧ h.IsTupleIter i1 a i ∧ h.IsListIter i2 b i) where
  mem := by simp
  obj := fun i h st c hc => by
    obtain ⟨hz, hTI, ⟨x, y, hTO⟩, ⟨o1, e1, _, d1⟩, ⟨o2, e2, _, d2⟩⟩ := st
    simp only [List.mem_cons, List.not_mem_nil, or_false] at hc
    rcases hc with q | q | q | q | q <;> rw [q]
    · exact ⟨_, hz, fun v q => nomatch q⟩
    · exact ⟨_, hTI, fun v q => nomatch q⟩
    · exact ⟨_, hTO, fun v q => nomatch q⟩
    · exact ⟨o1, e1, fun v q => by rw [d1] at q; cases q⟩
    · exact ⟨o2, e2, fun v q => by rw [d2] at q; cases q⟩
  keep := fun i h h' st k => by
    obtain ⟨hz, hTI, ⟨x, y, hTO⟩, h1, h2⟩ := st
    exact ⟨k z (by simp) _ hz, k TI (by simp) _ hTI, ⟨x, y, k TO (by simp) _ hTO⟩, h1.at fun o q => k i1 (by simp) o q, h2.at fun o q => k i2 (by simp) o q⟩
  item := by
    intro X hP hw hK hc i pins s σ H E I hf st hg
    subst hP hw hK
    obtain ⟨hz, hTI, ⟨x0, y0, hTO⟩, h1, h2⟩ := st
    obtain ⟨xs, ys, x, y, hqx, hqy, hx, hy⟩ := hg
    obtain ⟨its, rv, p, _⟩ := I.tuple hqx
    obtain ⟨its2, rv2, p2, _⟩ := I.list hqy
    obtain ⟨u, hu, ru⟩ := rv.get hx
    obtain ⟨u2, hu2, ru2⟩ := rv2.get hy
    have hx' : its.toArray[i]? = some u := by simpa using hu
    have hy' : its2.toArray[i]? = some u2 := by simpa using hu2
    have hzl : z < s.heap.objs.size := Heap.lt_size hz
    have l1 : i < its.toArray.size := (Array.getElem?_eq_some_iff.mp hx').1
    have l2 : i < its2.toArray.size := (Array.getElem?_eq_some_iff.mp hy').1
    refine wpAny_pyNext_zipD2_item S (Draws.tuple (A := X.A.in1) (I.ok.hd hc) i1 a ne1 its.toArray) (Draws.list (A := X.A.in1) (I.ok.hd hc) i2 b ne2 its2.toArray) hz hTI hTO ⟨h1, p⟩ ⟨h2, p2.isList⟩ l1 l2 fun v1 v2 g tk y1 y2 z' TO' s1 s2 hT hsz hk => ?_
    have e1 : v1 = u := by rw [hx'] at y1; cases y1; rfl
    have e2 : v2 = u2 := by rw [hy'] at y2; cases y2; rfl
    subst e1 e2
    refine ⟨_, rfl, wpAny_letOwnedTupleGo_zip (s := { s with heap := g, toks := tk }) z' fun g' z'' sb => ?_⟩
    have hT2 : g'.get? s.heap.objs.size = some { cls := .type "tuple", data := .seq #[v1, v2] } := (sb.2 _ (Nat.ne_of_gt hzl)).trans hT
    have new : ObjOk X.prog X.w (upd H s.heap.objs.size (.tup [x, y])) g' s.heap.objs.size (.tup [x, y]) := ⟨by show 2 ≤ sizeLine; decide, [v1, v2], .cons ru (.cons ru2 .nil), ⟨_, hT2, rfl, _, rfl⟩⟩
    have I1 : Inv X pins σ (upd H s.heap.objs.size (.tup [x, y])) { s with heap := g', toks := tk } :=
      I.turnedNew (t' := tk) (ch := [z, TI, TO, i1, i2]) (fun c o hb q => (sb.2 c (fun q' => hb (by simp [q']))).trans (hk c o (fun q' => hb (by simp [q'])) (fun q' => hb (by simp [q'])) (fun q' => hb (by simp [q'])) (fun q' => hb (by simp [q'])) q)) hf (Nat.le_refl _) new
    refine ⟨.ref s.heap.objs.size, _, I1, rfl, ⟨_, x, y, rfl, I.hok.fresh (Nat.le_refl _), rfl, fun l hl => by rw [I.tuple_inj hl hqx]; exact hx, fun l hl => by rw [I.list_inj hl hqy]; exact hy⟩, ⟨z'', ?_, ⟨v1, v2, ?_⟩, ?_, ?_⟩, fun c hcm => ?_⟩
    · exact (sb.2 _ S.TIz).trans (hk _ _ S.TIz S.TITO S.TIi1 S.TIi2 hTI)
    · exact (sb.2 _ S.TOz).trans TO'
    · exact s1.1.at fun o q => (sb.2 _ (Ne.symm S.zi1)).trans q
    · exact s2.1.at fun o q => (sb.2 _ (Ne.symm S.zi2)).trans q
    · have hlt : c < s.heap.objs.size := by
        simp only [List.mem_cons, List.not_mem_nil, or_false] at hcm
        rcases hcm with q | q | q | q | q <;> rw [q]
        · exact hzl
        · exact Heap.lt_size hTI
        · exact Heap.lt_size hTO
        · obtain ⟨_, e1, _⟩ := h1; exact Heap.lt_size e1
        · obtain ⟨_, e2, _⟩ := h2; exact Heap.lt_size e2
      rw [upd_ne (Nat.ne_of_lt hlt)]
      exact (hf c hcm).1
  done := by
    intro X hP hw hK hc i pins s σ H E I hf st hg
    subst hP hw hK
    obtain ⟨hz, hTI, ⟨x0, y0, hTO⟩, h1, h2⟩ := st
    obtain ⟨xs, ys, hqx, hqy, hend⟩ := hg
    obtain ⟨its, rv, p, _⟩ := I.tuple hqx
    obtain ⟨its2, rv2, p2, _⟩ := I.list hqy
    have l1 := rv.length
    have l2 := rv2.length
    have fin : ∀ (g : Heap) (tk : Nat), (∀ c o, c ≠ z → c ≠ TO → c ≠ i1 → c ≠ i2 → s.heap.get? c = some o → g.get? c = some o) → (none : Option Value) = none ∧ Inv X pins σ H { s with heap := g, toks := tk } := fun g tk hk =>
      ⟨rfl, I.turnedL (t' := tk) (ch := [z, TI, TO, i1, i2]) (fun c o hb q => hk c o (fun q' => hb (by simp [q'])) (fun q' => hb (by simp [q'])) (fun q' => hb (by simp [q'])) (fun q' => hb (by simp [q'])) q) hf⟩
    by_cases c1 : i < its.length
    · by_cases c2 : i < its2.length
      · exfalso
        rcases hend with q | q <;> omega
      · exact wpAny_pyNext_zipD2_end S (Draws.tuple (A := X.A.in1) (I.ok.hd hc) i1 a ne1 its.toArray) (dr_lEnd (A := X.A.in1) (I.ok.hd hc) i2 b its2.toArray i (by simp; omega)) hz hTI hTO ⟨h1, p⟩ ⟨rfl, h2, p2.isList⟩ (by simp; omega) (Nat.le_refl _) (.inr rfl) fin
    · by_cases c2 : i < its2.length
      · exact wpAny_pyNext_zipD2_end S (dr_tEnd (A := X.A.in1) (I.ok.hd hc) i1 a its.toArray i (by simp; omega)) (Draws.list (A := X.A.in1) (I.ok.hd hc) i2 b ne2 its2.toArray) hz hTI hTO ⟨rfl, h1, p⟩ ⟨h2, p2.isList⟩ (Nat.le_refl _) (by simp; omega) (.inl rfl) fin
      · exact wpAny_pyNext_zipD2_end S (dr_tEnd (A := X.A.in1) (I.ok.hd hc) i1 a its.toArray i (by simp; omega)) (dr_lEnd (A := X.A.in1) (I.ok.hd hc) i2 b its2.toArray i (by simp; omega)) hz hTI hTO ⟨rfl, h1, p⟩ ⟨rfl, h2, p2.isList⟩ (Nat.le_refl _) (Nat.le_refl _) (.inl rfl) fin
  self := fun A i s Q E st h => wpAny_pyIter_zip st.1 h
/-- zip of two of any kind -/
def iZipM (K : PySem.W.Frag) (ta : TA) : TI := fun σ H R => ta σ H fun vs H1 => ∃ a b xs ys, vs = [.ref a, .ref b] ∧ SqT K H1 a xs ∧ SqL K H1 b ys ∧ R (ItzM K a b) H1
theorem pi_zipM {X : Cx} {e e2 : Expr} {ta : TA} {p pos tpos : Pos} {elts : List Expr} {kk : Nat} (hg : Gl X "zip") (hm : X.mg "zip" = none) (ha : PA X [e, e2] ta) (hs : starEach [e, e2] X.env = (false, eval e X.env) :: starEach [e2] X.env) (hpl : (backTo pos (starEach [e2] X.env)).any (·.1) = false) :
    PI X (.Tuple elts kk tpos) (.Call (.Name "zip" p) [e, e2] [] pos) (iZipM X.K ta) := by
  refine ⟨fun pins s σ H R I h => ?_⟩
  refine Call_ (ld_blt I hg hm PyProof.Rows.boot_zip (PyProof.Rows.callWith_type1 (thn (ha.run pos pins s σ H _ I h) fun us s1 ⟨vs, H1, I1, r1, q1⟩ => ?_) hs hpl))
  obtain ⟨a, b, xs, ys, ex, hqx, hqy, q⟩ := q1
  subst ex
  have ru : us = [.ref a, .ref b] := by
    cases r1 with
    | cons r rr =>
      cases rr with
      | cons r' rr' =>
        cases rr'
        cases r
        cases r'
        rfl
  subst ru
  have fr : ∀ c, c ∈ [s1.heap.objs.size + 4, s1.heap.objs.size + 2, s1.heap.objs.size + 3, s1.heap.objs.size, s1.heap.objs.size + 1] → FpOk X pins H1 c := fun c hcm => by
    have hle : s1.heap.objs.size ≤ c := by
      simp only [List.mem_cons, List.not_mem_nil, or_false] at hcm
      rcases hcm with z | z | z | z | z
      · rw [z]; exact Nat.le_add_right _ 4
      · rw [z]; exact Nat.le_add_right _ 2
      · rw [z]; exact Nat.le_add_right _ 3
      · rw [z]; exact Nat.le_refl _
      · rw [z]; exact Nat.le_add_right _ 1
    exact I1.fpOk hle (I1.hok.fresh hle)
  obtain ⟨its, rv, p1, _⟩ := I1.tuple hqx
  obtain ⟨its2, rv2, p2, _⟩ := I1.list hqy
  have la : a < s1.heap.objs.size := by obtain ⟨_, q, _⟩ := p1; exact Heap.lt_size q
  have lb : b < s1.heap.objs.size := p2.lt
  refine zip_begins2 (begins_tuple a its.toArray) (begins_list b its2.toArray) p1 p2.isList fun g hz hTI hTO g1 g2 hsz hk => wpAny_pyIter_zip hz ?_
  have I2 : Inv X pins σ H1 { s1 with heap := g } := I1.kept (t' := s1.toks) hk
  exact ⟨s1.heap.objs.size + 4, [s1.heap.objs.size + 4, s1.heap.objs.size + 2, s1.heap.objs.size + 3, s1.heap.objs.size, s1.heap.objs.size + 1], _, _, H1, rfl, I2, turn_zipM (zip_sep2 (N := s1.heap.objs.size) (fp1 := [a]) (fp2 := [b]) (fun c hc => by rw [List.mem_singleton.mp hc]; exact la) (fun c hc => by rw [List.mem_singleton.mp hc]; exact lb)) (Nat.ne_of_lt la) (Nat.ne_of_lt (Nat.lt_succ_of_lt lb)), ⟨hz, hTI, ⟨_, _, hTO⟩, ⟨_, g1, rfl, rfl⟩, ⟨_, g2, rfl, rfl⟩⟩, fr, q⟩
theorem it_zipM {K : PySem.W.Frag} {a b : Addr} {xs ys : List D} : ItOk K (ItzM K a b) (zipD xs ys) [(.ref a, .tuple xs), (.ref b, .list ys)] := fun O H al hG i => by
  have g1 : Dr K (mi H O) (.ref a) (.tuple xs) := hG _ List.mem_cons_self
  have g2 : Dr K (mi H O) (.ref b) (.list ys) := hG _ (List.mem_cons_of_mem _ List.mem_cons_self)
  cases g1 with
  | tup h1 h2 =>
    rename_i vs
    cases g2 with
    | lst h3 h4 =>
      rename_i us
      have q1 : SqT K H a vs := .inl (.inl (mi_lt h1))
      have q2 : SqL K H b us := .inl (.inl (mi_lt h3))
      refine ⟨fun d hd => ?_, fun hl => ⟨vs, us, q1, q2, ?_⟩⟩
      · obtain ⟨x, y, hx, hy, rfl⟩ := zipD_get hd
        obtain ⟨v, hv, hvd⟩ := h2.get hx
        obtain ⟨u, hu, hud⟩ := h4.get hy
        refine ⟨⟨vs, us, v, u, q1, q2, hv, hu⟩, fun z H' hz => ?_⟩
        obtain ⟨T, v', u', rfl, hT, rfl, e1, e2⟩ := hz
        have := (e1 vs q1).symm.trans hv
        cases this
        have := (e2 us q2).symm.trans hu
        cases this
        have sm : Same H (upd H T (.tup [v, u])) := same_upd hT
        refine ⟨sm, .tup (xs := [v, u]) ?_ (.cons (Dr.mono (mi_same sm) _ hvd) (.cons (Dr.mono (mi_same sm) _ hud) .nil))⟩
        rw [mi_out (al.out hT), upd_same]; rfl
      · rw [zipD_len] at hl
        have := h2.len
        have := h4.len
        by_cases h : vs.length ≤ i
        · exact .inl h
        · exact .inr (by omega)
theorem PI.or2 {X : Cx} {tg e : Expr} {t u : TI} (h : PI X tg e t) (h' : PI X tg e u) : PI X tg e (fun σ H R => t σ H R ∨ u σ H R) :=
  ⟨fun pins s σ H R I hw => hw.elim (fun q => h.run pins s σ H R I q) fun q => h'.run pins s σ H R I q⟩
section
variable {C : Fam} {a b : Expr} {f g : En → Option D} {pos : Pos}
theorem si_zipM {elts : List Expr} {kk : Nat} {tpos p : Pos} (hg : C.sc.names.lookup ("zip" : Str) = some .globalImplicit) (hm : C.mg "zip" = none) (ha : SE C a f) (hb : SE C b g) (hp : plainX a = true) (hp2 : plainX b = true) :
    SI C (.Tuple elts kk tpos) (.Call (.Name "zip" p) [a, b] [] pos) (fun env => match f env with
      | none => none
      | some x => match g env with
        | none => none
        | some y => zip2 x y) := by
  have hA := ha
  have hB := hb
  obtain ⟨ti, t1, t2⟩ := si_zip (elts := elts) (kk := kk) (tpos := tpos) (p := p) (pos := pos) hg hm hA hB hp hp2
  obtain ⟨ta, ha1, ha2⟩ := ha
  obtain ⟨tb, hb1, hb2⟩ := hb
  refine ⟨fun σ H R => ti σ H R ∨ iZipM C.K (tCons ta (tCons tb tNil)) σ H R, fun X hX => ?_, fun O σ H env R ds r hf q => ?_⟩
  · refine PI.or2 (t1 X hX) ?_
    rw [← hX.hK]
    exact pi_zipM (show X.env.scope.names.lookup ("zip" : Str) = _ by rw [hX.hsc]; exact hg) (by rw [hX.hmg]; exact hm) (pa_cons (ha1 X hX) (pa_cons (hb1 X hX) pa_nil (star_ok hp2)) (star_ok hp)) (star_ok hp) (star_any (by rw [List.all_cons, hp2]; rfl))
  · dsimp only at hf
    split at hf
    · cases hf
    · rename_i x hx
      split at hf
      · cases hf
      · rename_i y hy
        unfold zip2 at hf
        split at hf
        · refine .inl (t2 O σ H env R ds r ?_ q)
          dsimp only
          rw [hx]
          dsimp only
          rw [hy]
          exact hf
        · refine .inl (t2 O σ H env R ds r ?_ q)
          dsimp only
          rw [hx]
          dsimp only
          rw [hy]
          exact hf
        · cases hf
          refine .inr (ha2 O σ H env _ _ r hx fun v H1 s1 hv => hb2 O σ H1 env _ _ (r.mono s1) hy fun w H2 s2 hw => ?_)
          have hv2 := Dr.mono (mi_same s2) _ hv
          cases hv2 with
          | tup h1 h2 =>
            cases hw with
            | lst h3 h4 =>
              refine ⟨_, _, _, _, rfl, .inl (.inl (mi_lt h1)), .inl (.inl (mi_lt h3)), q _ H2 _ (s1.trans s2) it_zipM fun z hz => ?_⟩
              rcases List.mem_cons.mp hz with e | hz
              · rw [e]; exact .tup h1 h2
              · rw [List.mem_singleton.mp hz]; exact .lst h3 h4
        · cases hf
end
end J

/-! Fields of an object; dicts with tuples for keys. -/
namespace J
open PySem PySem.Spec PyProof.Rows L2
def encK (k : List Int) : PyData := .tuple (k.map .int)
theorem encK_le : PySem.W.dataLe false encK = fun p q => decide (p ≤ q) := by
  funext p q
  show (!PySem.W.dataLt (.tuple (q.map .int)) (.tuple (p.map .int))) = _
  rw [PySem.W.dataLt_tuple]
  show (!PySem.W.rowLt (q.map .int) (p.map .int)) = _
  rw [PySem.W.dataLt_ints]
  by_cases h : q < p
  · have h' : ¬ p ≤ q := fun r => List.not_lt.mpr r h
    simp [h, h']
  · have h' : p ≤ q := List.not_lt.mp h
    simp [h, h']
/-- addresses of tuples of ints -/
def KsAt (H : Hp) : List Addr → List (List Int) → Prop
  | [], [] => True
  | b :: bs, k :: ks => H b = some (.tup (k.map V.int)) ∧ KsAt H bs ks
  | _, _ => False
theorem ksAt_of {H : Hp} : ∀ {out : List Value} {ks : List (List Int)}, PySem.W.EachIs (fun v k => ∃ b, v = Value.ref b ∧ H b = some (.tup (k.map V.int))) out ks → ∃ bs, out = bs.map Value.ref ∧ KsAt H bs ks
  | _, _, .nil => ⟨[], rfl, trivial⟩
  | _, _, .cons ⟨b, e, h⟩ t => by
    obtain ⟨bs, e2, h2⟩ := ksAt_of t
    exact ⟨b :: bs, by rw [e, e2]; rfl, h, h2⟩
theorem KsAt.len {H : Hp} : ∀ {bs : List Addr} {ks : List (List Int)}, KsAt H bs ks → bs.length = ks.length
  | [], [], _ => rfl
  | b :: bs, k :: ks, h => by rw [List.length_cons, List.length_cons, KsAt.len h.2]
  | [], _ :: _, h => h.elim
  | _ :: _, [], h => h.elim
theorem KsAt.dr {K : PySem.W.Frag} {H H' : Hp} (e : ∀ b k, H b = some (.tup k) → H' b = some (.tup k)) : ∀ {bs : List Addr} {ks : List (List Int)}, KsAt H bs ks → DrA K H' (bs.map V.ref) (ks.map fun k => .tuple (k.map .int))
  | [], [], _ => .nil
  | b :: bs, k :: ks, h => .cons (.tup (e _ _ h.1) (DrA.ints k)) (KsAt.dr e h.2)
  | [], _ :: _, h => h.elim
  | _ :: _, [], h => h.elim
theorem kV_ints (k : List Int) : (k.map (Sum.inl : Int → Key)).map kV = k.map V.int := by
  rw [List.map_map]; rfl
section
variable {X : Cx}
theorem each_keys {H : Hp} {h : Heap} {P : Program} {w : World} (hok : HOk P w H h) : ∀ {kvs : List (List Key × V)} {xs : List (List Key × Addr × Value)} {ks : List (List Int)}, Paired (fun (p : List Key × V) (q : List Key × Addr × Value) => p.1 = q.1 ∧ H q.2.1 = some (.tup (p.1.map kV)) ∧ RelV p.2 q.2.2) kvs xs →
    kvs.map (·.1) = ks.map (fun k => k.map Sum.inl) →
    PySem.W.EachIs (fun v k => ∃ b, v = Value.ref b ∧ H b = some (.tup (k.map V.int))) (xs.map fun x => Value.ref x.2.1) ks ∧ PySem.W.EachIs (fun v k => Reads h v (encK k) []) (xs.map fun x => Value.ref x.2.1) ks
  | _, _, [], .nil, _ => ⟨.nil, .nil⟩
  | _, _, _ :: _, .nil, e => by simp at e
  | _, _, [], .cons _ _, e => by simp at e
  | _, _, k :: ks, .cons (a := a) (b := b) q t, e => by
    simp only [List.map_cons, List.cons.injEq] at e
    obtain ⟨h1, h2⟩ := each_keys hok t e.2
    have hb : H b.2.1 = some (.tup (k.map V.int)) := by rw [q.2.1, e.1, kV_ints]
    obtain ⟨_, its, rv, o, ho, hc, n, hd⟩ := hok _ _ hb
    exact ⟨.cons ⟨_, rfl, hb⟩ h1, .cons (reads_tuple_at ho hc hd (by simpa using (rv.ints).reads h)) h2⟩
/-- sorted(d) of a dict with tuples of ints for keys -/
theorem call_sortedDT (hcalm : X.calm = true) (hu : X.A.units + 64 < cLine) : CallR X (.builtin "sorted") (fun xs H Q => ∃ (a : Addr) (kvs : List (List Key × V)) (ks : List (List Int)), xs = [.ref a] ∧ H a = some (.dT kvs) ∧ kvs.map (·.1) = ks.map (fun k => k.map Sum.inl) ∧ ks.length ≤ 1000 ∧ (∀ k ∈ ks, k ≠ []) ∧
    ∀ (p : Addr) (bs : List Addr), KsAt H bs (sortL ks) → H p = none → Q (.ref p) (upd H p (.lst (bs.map V.ref)))) := by
  intro pins s σ H xs us Q I r q
  obtain ⟨a, kvs, ks, ex, hd, hks, h64, hne, q⟩ := q
  subst ex
  obtain ⟨u, eu, rx⟩ := vals1 r
  subst eu
  cases rx
  obtain ⟨z, hs, xs', pr, o, es, ep, ho, hx, hdt, he, hn⟩ := (show ObjOk X.prog X.w H s.heap a (.dT kvs) from I.hok a _ hd)
  have l1 : es.size = xs'.length := size_of_entries he
  have l2 : kvs.length = xs'.length := Paired.length pr
  have l3 : kvs.length = ks.length := by
    have e := congrArg List.length hks
    rw [List.length_map, List.length_map] at e
    exact e
  refine Calls.call_function_entry PyProof.Rows.kind_sorted PyProof.Rows.plain_sorted PyProof.Rows.entry_sorted (PyProof.Rows.args_sorted1 _) ?_
  unfold Builtin.«sorted»
  refine wpAny_bind (m := checkCount "sorted" 1 1 _) (wpAny_pure ?_)
  refine wpAny_bind (PySem.W.kdu_collect (A := X.A.in1) (kdl_raw hs hx hdt) (I.ok.hd hcalm) ho (by omega) fun h' tk acc hk hacc => ?_)
  have ea : acc.toList = xs'.map fun x => Value.ref x.2.1 := by
    have hl : acc.toList.length = xs'.length := by rw [Array.length_toList, hacc.1]; exact l1
    apply List.ext_getElem?
    intro j
    rw [List.getElem?_map]
    cases hj : acc.toList[j]? with
    | none =>
      have h1 := List.getElem?_eq_none_iff.mp hj
      rw [List.getElem?_eq_none (by omega)]
      all_goals rfl
    | some v =>
      obtain ⟨en, hen, hv⟩ := hacc.2 j v (by rw [← Array.getElem?_toList]; exact hj)
      have qe := entry_at he j
      rw [hen] at qe
      cases hb : xs'[j]? with
      | none =>
        rw [hb] at qe
        exact nomatch (show some en = none from qe)
      | some b =>
        rw [hb] at qe
        have e2 : en = entryOfKey (tupleKind (mixKind X.prog X.w)) b := Option.some.inj qe
        rw [hv, e2]
        all_goals rfl
  have I1 : Inv X pins σ H { s with heap := h', toks := tk } := I.kept hk
  have hal : acc.toList.length = ks.length := by rw [ea, List.length_map]; omega
  refine wpAny_bind (wpAny_newList ?_ (by rw [hal, sizeLine_eq]; omega))
  have hoL : (h'.push (seqObj "list" acc.toList.toArray 0)).get? h'.objs.size = some (seqObj "list" acc.toList.toArray 0) := Heap.get?_push_size _ rfl
  show wpAny _ _ _ _ _ { s with heap := h'.push (seqObj "list" acc.toList.toArray 0), toks := tk }
  obtain ⟨k1, k2⟩ := each_keys I1.hok pr hks
  rw [← ea] at k1 k2
  refine wpAny_bind (wpAny_holding (PySem.W.list_sort_data (s := { s with heap := h'.push (seqObj "list" acc.toList.toArray 0), toks := tk }) (enc := encK) hoL k1 (k2.mono fun v k hv => ⟨[], PyProof.Rows.Reads.keeps (fun b o e => Heap.get?_push_of_some _ e) hv, by simp⟩) (PySem.W.AllAlike.of fun k k' => by
      show PySem.W.alike (.tuple _) (.tuple _) = true
      simp only [PySem.W.alike]
      exact PySem.W.alike_ints k k') (.inl fun d hd => ?_) (by omega) (fun k _ => ?_) fun out hl hR => ?_))
  · obtain ⟨k, hk', rfl⟩ := List.mem_map.mp hd
    cases k with
    | nil => exact absurd rfl (hne _ hk')
    | cons x r => exact ⟨_, _, rfl⟩
  · have e0 : (encK k).depth ≤ 1 := by
      unfold encK
      simp only [PyData.depth, PySem.W.depth_ints]
      omega
    have e1 : X.A.in1.units ≤ X.A.units + 8 := by simp [Around.in1]
    omega
  · rw [encK_le] at hR
    obtain ⟨bs, rfl, hbs⟩ := ksAt_of hR
    obtain ⟨e', he'⟩ := PyProof.Rows.sortedHeap_at (vs := acc.toList) (out := (bs.map Value.ref).toArray) hoL
    have hlen : (bs.map V.ref).length ≤ sizeLine := by
      rw [List.length_map] at hl ⊢
      rw [hl, sizeLine_eq]; omega
    refine wpAny_pure ⟨_, rfl, .ref h'.objs.size, upd H h'.objs.size (.lst (bs.map V.ref)), I1.laid (t' := tk) (fun b u e => ?_) (Nat.le_refl _)
      (show ObjOk X.prog X.w _ _ _ (.lst (bs.map V.ref)) from ⟨hlen, bs.map Value.ref, e', vals_refs bs, he'⟩), rfl, q _ bs hbs (I1.hok.fresh (Nat.le_refl _))⟩
    have hb : b < h'.objs.size := Heap.lt_size e
    rw [PyProof.Rows.sortedHeap_old (Nat.ne_of_lt hb) (by rw [size_push']; exact Nat.lt_succ_of_lt hb)]
    exact Heap.get?_push_of_some _ e
end
end J
namespace J
open PySem PySem.Spec PyProof.Rows L2
theorem undt_eq : ∀ {r : List (D × D)} {es : List (List Int × D)}, undt r = some es → r = es.map fun p => (.tuple (p.1.map .int), p.2)
  | [], es, h => by cases h; rfl
  | (.tuple ks, d) :: r, es, h => by
    simp only [undt] at h
    split at h
    · cases h
    · rename_i ns hn
      split at h
      · cases h
      · rename_i es' he
        cases h
        rw [undt_eq he, ints_eq hn]; rfl
  | (.none, d) :: r, es, h => by simp [undt] at h
  | (.bool _, d) :: r, es, h => by simp [undt] at h
  | (.int _, d) :: r, es, h => by simp [undt] at h
  | (.str _, d) :: r, es, h => by simp [undt] at h
  | (.list _, d) :: r, es, h => by simp [undt] at h
  | (.dict _, d) :: r, es, h => by simp [undt] at h
theorem undtD_eq {x : D} {es : List (List Int × D)} (h : undtD x = some es) : x = dtD es := by
  unfold undtD at h
  split at h
  · rw [undt_eq h]; rfl
  · cases h
theorem dtD_inj {es es' : List (List Int × D)} (h : dtD es = dtD es') : es = es' := by
  unfold dtD at h
  injection h with h
  injection h with _ h
  have key : ∀ (es es' : List (List Int × D)), es.map (fun p => ((.tuple (p.1.map .int), p.2) : D × D)) = es'.map (fun p => (.tuple (p.1.map .int), p.2)) → es = es' := by
    intro es
    induction es with
    | nil => intro es' h; cases es' with
      | nil => rfl
      | cons _ _ => simp at h
    | cons p r ih => intro es' h; cases es' with
      | nil => simp at h
      | cons q r' =>
        simp only [List.map_cons, List.cons.injEq, Prod.mk.injEq, PyData.tuple.injEq] at h
        obtain ⟨⟨h1, h2⟩, h3⟩ := h
        have h4 : p.1 = q.1 := by
          exact (List.map_inj_right (f := (PyData.int : Int → D)) (fun a b e => by injection e)).mp h1
        rw [ih _ h3]
        congr 1
        exact Prod.ext h4 h2
  exact key _ _ h
theorem Tp.dt {K : PySem.W.Frag} {O : List Addr} {H : Hp} {v : V} {es : List (List Int × D)} (h : Tp K O H v (dtD es)) : ∃ a kvs, v = .ref a ∧ H a = some (.dT kvs) ∧ kvs.map (·.1) = es.map (fun p => p.1.map Sum.inl) ∧ DrA K (mi H O) (kvs.map (·.2)) (es.map (·.2)) := by
  rcases h with h | ⟨a, vs, ds', rfl, e, h1, h2⟩ | ⟨a, kvs, es', e1, e2, h1, h2, h3⟩ | ⟨x, C, dx, vs, fs, e1, e2, e3, h1, h2, h3⟩
  · generalize hd : dtD es = d at h
    cases h with
    | scr h1 =>
      rename_i ns
      unfold dtD at hd
      injection hd with hd
      cases ns <;> simp at hd
    | _ => unfold dtD at hd; cases hd
  · cases e
  · have := dtD_inj e2
    subst this
    exact ⟨a, kvs, e1, h1, h2, h3⟩
  · cases fs with
    | nil => exact absurd rfl e3
    | cons p r => cases e2
theorem val_get {K : PySem.W.Frag} {H : Hp} {ns : List Int} : ∀ {kvs : List (List Key × V)} {es : List (List Int × D)}, kvs.map (·.1) = es.map (fun p => p.1.map Sum.inl) → DrA K H (kvs.map (·.2)) (es.map (·.2)) →
    (∀ d, dgetD ns es = some d → ∃ v, valV kvs (ns.map Sum.inl) = some v ∧ Dr K H v d) ∧ (dgetD ns es = none → valV kvs (ns.map Sum.inl) = none)
  | [], [], _, _ => ⟨(fun d h => by cases h), fun _ => valV_nil⟩
  | [], _ :: _, e, _ => by simp at e
  | _ :: _, [], e, _ => by simp at e
  | p :: kvs, q :: es, e, h => by
    simp only [List.map_cons, List.cons.injEq] at e h
    cases h with
    | cons h1 h2 =>
      obtain ⟨k1, k2⟩ := val_get e.2 h2
      obtain ⟨qk, qd⟩ := q
      simp only [dgetD]
      by_cases hq : qk = ns
      · subst hq
        have e1 : valV (p :: kvs) (qk.map Sum.inl) = some p.2 := valV_pos e.1
        rw [if_pos rfl, e1]
        exact ⟨fun d hd => by cases hd; exact ⟨_, rfl, h1⟩, fun z => by cases z⟩
      · have e1 : valV (p :: kvs) (ns.map Sum.inl) = valV kvs (ns.map Sum.inl) := valV_neg (fun z => hq (by
          have z' := e.1.symm.trans z
          exact (List.map_inj_right (f := (Sum.inl : Int → Key)) (fun a b e => by injection e)).mp z'))
        rw [if_neg hq, e1]
        exact ⟨k1, k2⟩
theorem tupI_eq {x : D} {ns : List Int} (h : tupI x = some ns) : x = .tuple (ns.map .int) := by
  unfold tupI at h
  split at h
  · rw [ints_eq h]
  · cases h
section
variable {C : Fam} {a b c e : Expr} {es : List Expr} {f g k : En → Option D} {pos : Pos}
theorem sb_fld {n : Str} (ha : SB C a f) (ho : notCall a = true) : SB C (.Attribute a n pos) (fun env => match f env with
    | none => none
    | some x => opFld n x) := by
  obtain ⟨ta, ha1, ha2⟩ := ha
  refine ⟨tFld C.K ta n, fun X hX => ?_, fun O σ H env Q d r hf q => ?_⟩
  · rw [← hX.hK]; exact pe_fld (ha1 X hX) (base_ok ho)
  · dsimp only at hf
    split at hf
    · cases hf
    · rename_i x hx
      refine ha2 O σ H env _ x r hx fun v H1 s1 hv => ?_
      unfold opFld at hf
      split at hf
      · obtain ⟨x, C', dx, vs, u, rfl, h1, h2, h3, h4, h5⟩ := hv.fld hf
        exact ⟨x, C', dx, vs, u, rfl, h1, h2, h3, h4, q u H1 s1 h5.tp⟩
      · cases hf
theorem Tp0.str {K : PySem.W.Frag} {O : List Addr} {H : Hp} {v : V} {d : D} (h : Tp0 K O H v d) (hs : strictD d = true) : Dr K (mi H O) v d := by
  rcases h with h | ⟨a, vs, ds', rfl, e, h1, h2⟩ | ⟨a, kvs, es, e1, e2, h1, h2, h3⟩
  · exact h
  · rw [e] at hs; cases hs
  · rw [e2] at hs; cases hs
theorem se_flds {n : Str} (ha : SB C a f) (ho : notCall a = true) : SE C (.Attribute a n pos) (fun env => match f env with
    | none => none
    | some x => opFldS n x) := by
  obtain ⟨ta, ha1, ha2⟩ := ha
  refine ⟨tFld C.K ta n, fun X hX => ?_, fun O σ H env Q d r hf q => ?_⟩
  · rw [← hX.hK]; exact pe_fld (ha1 X hX) (base_ok ho)
  · dsimp only at hf
    split at hf
    · cases hf
    · rename_i x hx
      refine ha2 O σ H env _ x r hx fun v H1 s1 hv => ?_
      unfold opFldS at hf
      split at hf
      · rename_i d' hd'
        split at hf
        · rename_i hs
          cases hf
          unfold opFld at hd'
          split at hd'
          · obtain ⟨x, C', dx, vs, u, rfl, h1, h2, h3, h4, h5⟩ := hv.fld hd'
            exact ⟨x, C', dx, vs, u, rfl, h1, h2, h3, h4, q u H1 s1 (h5.str hs)⟩
          · cases hd'
        · cases hf
      · cases hf
theorem se_dix (ha : SB C a f) (hb : SB C b g) (hp : plainX b = true) : SE C (.Subscript a b pos) (fun env => match f env with
    | none => none
    | some x => match g env with
      | none => none
      | some y => opDix x y) := by
  obtain ⟨ta, ha1, ha2⟩ := ha
  obtain ⟨tb, hb1, hb2⟩ := hb
  refine ⟨tDGet ta tb, fun X hX => ?_, fun O σ H env Q d r hf q => ?_⟩
  · exact pe_dget (by have := hX.hu; omega) (ha1 X hX) (hb1 X hX) (plain_ix hp)
  · dsimp only at hf
    split at hf
    · cases hf
    · rename_i x hx
      split at hf
      · cases hf
      · rename_i y hy
        refine ha2 O σ H env _ x r hx fun v H1 s1 hv => hb2 O σ H1 env _ y (r.mono s1) hy fun w H2 s2 hw => ?_
        unfold opDix at hf
        split at hf
        · cases hf
        · rename_i es he
          split at hf
          · cases hf
          · rename_i ns hn
            have := undtD_eq he
            subst this
            have := tupI_eq hn
            subst this
            obtain ⟨p, kvs, rfl, h1, h2, h3⟩ := (hv.mono s2).dt
            obtain ⟨b', ws, rfl, h4, h5⟩ := hw.tuple
            have := h5.ofInts
            subst this
            obtain ⟨v', h6, h7⟩ := (val_get (ns := ns) h2 h3).1 _ hf
            refine ⟨p, v', rfl, ?_, q v' H2 (s1.trans s2) h7⟩
            rw [← h6]
            exact DGet.t h1 (by rw [kV_ints]; exact mi_lt h4)
theorem m2_ok {X : Cx} {apos cpos : Pos} {m : Str} (h1 : plainX b = true) (h2 : plainX c = true) (ho : notCall a = true) (hl : (apos.endLine == cpos.line) = true) : M2 X a m apos b c cpos where
  base := base_ok ho
  few := by
    have : starEach [b, c] X.env = [(false, eval b X.env), (false, eval c X.env)] := by rw [star_ok h1, star_ok h2]; rfl
    rw [this]; rfl
  line := hl
  trees := by
    have : starEach [b, c] X.env = [(false, eval b X.env), (false, eval c X.env)] := by rw [star_ok h1, star_ok h2]; rfl
    rw [this]; rfl
theorem se_dget {apos : Pos} (ha : SB C a f) (hb : SB C b g) (hc : SE C c k) (hp : plainX b = true) (hp2 : plainX c = true) (ho : notCall a = true) (hl : (apos.endLine == pos.line) = true) : SE C (.Call (.Attribute a "get" apos) [b, c] [] pos) (fun env => match f env with
    | none => none
    | some x => match g env with
      | none => none
      | some y => match k env with
        | none => none
        | some z => opDget x y z) := by
  obtain ⟨ta, ha1, ha2⟩ := ha
  obtain ⟨tb, hb1, hb2⟩ := hb
  obtain ⟨tc, hc1, hc2⟩ := hc
  refine ⟨tDGet2 ta tb tc, fun X hX => ?_, fun O σ H env Q d r hf q => ?_⟩
  · exact pe_dget2 (by have := hX.hu; omega) (ha1 X hX) (hb1 X hX) (hc1 X hX) (m2_ok hp hp2 ho hl)
  · dsimp only at hf
    split at hf
    · cases hf
    · rename_i x hx
      split at hf
      · cases hf
      · rename_i y hy
        split at hf
        · cases hf
        · rename_i z hz
          refine ha2 O σ H env _ x r hx fun v H1 s1 hv => ?_
          unfold opDget at hf
          split at hf
          · cases hf
          · rename_i es he
            split at hf
            · cases hf
            · rename_i ns hn
              cases hf
              have := undtD_eq he
              subst this
              have := tupI_eq hn
              subst this
              obtain ⟨p, kvs, rfl, h1, h2, h3⟩ := hv.dt
              refine ⟨p, rfl, .inr ⟨kvs, .inl h1⟩, hb2 O σ H1 env _ _ (r.mono s1) hy fun w H2 s2 hw => hc2 O σ H2 env _ _ ((r.mono s1).mono s2) hz fun u H3 s3 hu => ?_⟩
              obtain ⟨b', ws, rfl, h4, h5⟩ := hw.tuple
              have := h5.ofInts
              subst this
              have h3' := DrA.mono (mi_same (O := O) (s2.trans s3)) _ h3
              refine ⟨valV kvs (ns.map Sum.inl), DGet.t (s3.at (s2.at h1)) (by rw [kV_ints]; exact s3.at (mi_lt h4)), ?_⟩
              refine q _ H3 ((s1.trans s2).trans s3) ?_
              obtain ⟨g1, g2⟩ := val_get (ns := ns) h2 h3'
              cases hg : dgetD ns es with
              | none => rw [g2 hg]; exact hu
              | some d' =>
                obtain ⟨v', h6, h7⟩ := g1 _ hg
                rw [h6]; exact h7
theorem se_dsort {p : Pos} (ha : SB C a f) (hp : plainX a = true) (hg : C.sc.names.lookup ("sorted" : Str) = some .globalImplicit) (hm : C.mg "sorted" = none) : SE C (.Call (.Name "sorted" p) [a] [] pos) (fun env => match f env with
    | none => none
    | some x => opDsort x) := by
  obtain ⟨ta, ha1, ha2⟩ := ha
  refine ⟨tCB (fun xs H Q => ∃ (a : Addr) (kvs : List (List Key × V)) (ks : List (List Int)), xs = [.ref a] ∧ H a = some (.dT kvs) ∧ kvs.map (·.1) = ks.map (fun k => k.map Sum.inl) ∧ ks.length ≤ 1000 ∧ (∀ k ∈ ks, k ≠ []) ∧
    ∀ (p : Addr) (bs : List Addr), KsAt H bs (sortL ks) → H p = none → Q (.ref p) (upd H p (.lst (bs.map V.ref)))) (tCons ta tNil), fun X hX => ?_, fun O σ H env Q d r hf q => ?_⟩
  · exact pe_callB (call_sortedDT hX.calm hX.hu) (show X.env.scope.names.lookup ("sorted" : Str) = _ by rw [hX.hsc]; exact hg) (by rw [hX.hmg]; exact hm) (by decide +kernel) (pa_cons (ha1 X hX) pa_nil (star_ok hp)) (by decide) (by decide) (star_ok hp) rfl
  · dsimp only at hf
    split at hf
    · cases hf
    · rename_i x hx
      refine ha2 O σ H env _ x r hx fun v H1 s1 hv => ?_
      unfold opDsort at hf
      split at hf
      · cases hf
      · rename_i es he
        split at hf
        · rename_i hc
          cases hf
          have := undtD_eq he
          subst this
          obtain ⟨p', kvs, rfl, h1, h2, h3⟩ := hv.dt
          refine ⟨p', kvs, es.map (·.1), rfl, h1, by rw [h2, List.map_map]; rfl, by rw [List.length_map]; exact hc.2, fun k hk => ?_, fun p bs hbs hp => ?_⟩
          · have := List.all_eq_true.mp hc.1 k hk
            intro z
            subst z
            cases this
          · have al := (r.mono s1).al
            refine q _ _ (s1.trans (same_upd hp)) (.lst (by rw [mi_out (al.out hp), upd_same]; rfl) (hbs.dr fun b k hb => ?_))
            rw [mi_upd (al.out hp), upd_ne (ne_of_none hb hp), mi_out (al.tup hb)]
            rw [hb]; rfl
        · cases hf
end
end J

/-! From the text to the little language. -/
namespace J
open PySem PySem.Spec PyProof.Rows L2
/-- what a row's module holds: its defs (their numbers, the borrowed parameters), built-in names that it leaves alone, constants -/
structure Rw where
  fns : List (Str × Nat × List Bool)
  frs : List Str
  cst : List (Str × IE)
structure Rw.ok (R : Rw) (Φ : Nat → List D → Option D) (C : Fam) : Prop where
  nd : C.N.Nodup
  fn : ∀ p ∈ R.fns, FnAt C p.1 p.2.2 (Φ p.2.1)
  fr : ∀ x ∈ R.frs, C.mg x = none
  cs : ∀ p ∈ R.cst, ∃ v u d, C.mg p.1 = some u ∧ L2.RelV v u ∧ (∀ H, Dr C.K H v d) ∧ ∀ env, evE Φ p.2 env = some d
theorem Rw.ok.blk {R : Rw} {Φ : Nat → List D → Option D} {C : Fam} (h : R.ok Φ C) (scope : Scope) : R.ok Φ (C.blk scope) :=
  ⟨h.nd, fun p hp => ⟨(h.fn p hp).ex⟩, h.fr, h.cs⟩
def idx : List Str → Str → Nat → Option Nat
  | [], _, _ => none
  | y :: r, x, k => if y = x then some k else idx r x (k + 1)
theorem idx_ok : ∀ {N : List Str} {x : Str} {k i : Nat}, idx N x k = some i → k ≤ i ∧ N[i - k]? = some x
  | [], _, _, _, h => by cases h
  | y :: r, x, k, i, h => by
    unfold idx at h
    split at h
    · rename_i e
      cases h
      rw [Nat.sub_self, e]
      exact ⟨Nat.le_refl _, rfl⟩
    · obtain ⟨h1, h2⟩ := idx_ok h
      refine ⟨by omega, ?_⟩
      rw [show i - k = (i - (k + 1)) + 1 by omega]
      exact h2
theorem idx_get {N : List Str} {x : Str} {i : Nat} (h : idx N x 0 = some i) : N[i]? = some x := (idx_ok h).2
def visB (sc : Scope) (x : Str) : Bool := (match sc.names.lookup x with
  | some .local => true
  | some .cell => true
  | some .free => true
  | _ => false) && !(x == ("__debug__" : Str)) && !(x == ("__classdict__" : Str))
theorem visB_ok {sc : Scope} {x : Str} (h : visB sc x = true) : Vis sc x ∧ (x == ("__debug__" : Str)) = false ∧ (x == ("__classdict__" : Str)) = false := by
  unfold visB at h
  rw [Bool.and_eq_true, Bool.and_eq_true] at h
  obtain ⟨⟨h1, h2⟩, h3⟩ := h
  refine ⟨?_, by simpa using h2, by simpa using h3⟩
  split at h1
  · exact .inl (by assumption)
  · exact .inr (.inl (by assumption))
  · exact .inr (.inr (by assumption))
  · cases h1
def glB (sc : Scope) (x : Str) : Bool := (match sc.names.lookup x with
  | some .globalImplicit => true
  | _ => false) && !(x == ("__debug__" : Str)) && !(x == ("__name__" : Str))
theorem glB_ok {sc : Scope} {x : Str} (h : glB sc x = true) : sc.names.lookup x = some .globalImplicit ∧ (x == ("__debug__" : Str)) = false ∧ x ≠ ("__name__" : Str) := by
  unfold glB at h
  rw [Bool.and_eq_true, Bool.and_eq_true] at h
  obtain ⟨⟨h1, h2⟩, h3⟩ := h
  refine ⟨?_, by simpa using h2, fun e => ?_⟩
  · split at h1
    · assumption
    · cases h1
  · rw [e] at h3; simp at h3
def biOf (x : Str) : Option Bi :=
  if x = "len" then some .len else if x = "min" then some .min else if x = "max" then some .max else if x = "sum" then some .sum else if x = "all" then some .all else if x = "any" then some .any else if x = "abs" then some .abs
  else if x = "int" then some .int else if x = "str" then some .str else if x = "tuple" then some .tuple else if x = "list" then some .list else if x = "sorted" then some .sorted else none
inductive BiFact (b : Bi) (x : Str) : Prop
  | fn (id : String) (h : bootBuiltins x = some (.builtin id)) (hc : ∀ X : Cx, X.calm = true → CallR X (.builtin id) (rGA X.K (evBi b)))
  | ty (T : String) (h : bootBuiltins x = some (.type T)) (hc : ∀ X : Cx, X.calm = true → CallR X (.type T) (rGA X.K (evBi b)))
theorem biOf_ok {x : Str} {b : Bi} (h : biOf x = some b) : BiFact b x := by
  unfold biOf at h
  split at h
  · cases h; subst_vars; exact .fn "len" (by decide +kernel) fun X hc => cr_len
  split at h
  · cases h; subst_vars; exact .fn "min" (by decide +kernel) fun X hc => cr_min' hc
  split at h
  · cases h; subst_vars; exact .fn "max" (by decide +kernel) fun X hc => cr_max' hc
  split at h
  · cases h; subst_vars; exact .fn "sum" (by decide +kernel) fun X hc => cr_sum' hc
  split at h
  · cases h; subst_vars; exact .fn "all" (by decide +kernel) fun X hc => cr_all' hc
  split at h
  · cases h; subst_vars; exact .fn "any" (by decide +kernel) fun X hc => cr_any' hc
  split at h
  · cases h; subst_vars; exact .fn "abs" (by decide +kernel) fun X hc => cr_abs'
  split at h
  · cases h; subst_vars; exact .ty "int" (by decide +kernel) fun X hc => cr_int'
  split at h
  · cases h; subst_vars; exact .ty "str" (by decide +kernel) fun X hc => cr_str'
  split at h
  · cases h; subst_vars; exact .ty "tuple" (by decide +kernel) fun X hc => cr_tuple'
  split at h
  · cases h; subst_vars; exact .ty "list" (by decide +kernel) fun X hc => cr_list'
  split at h
  · cases h; subst_vars; exact .fn "sorted" (by decide +kernel) fun X hc => cr_sorted'
  cases h
def tyOf (x : Str) : Option Ty :=
  if x = "int" then some .int else if x = "bool" then some .bool else if x = "str" then some .str else if x = "tuple" then some .tuple else if x = "list" then some .list else none
theorem tyOf_ok {x : Str} {t : Ty} (h : tyOf x = some t) : bootBuiltins x = some (.type (tyN t)) := by
  unfold tyOf at h
  split at h
  · cases h; subst_vars; decide +kernel
  split at h
  · cases h; subst_vars; decide +kernel
  split at h
  · cases h; subst_vars; decide +kernel
  split at h
  · cases h; subst_vars; decide +kernel
  split at h
  · cases h; subst_vars; decide +kernel
  cases h
abbrev Rec := Scope → Bool → Expr → Option IE
/-- arguments, by the flags (none more: strict) -/
def trA (rc : Rec) (sc : Scope) : List Bool → List Expr → Option IE
  | _, [] => some .nil
  | [], _ :: _ => none
  | b :: bs, e :: es => match rc sc b e with
    | none => none
    | some a => match trA rc sc bs es with
      | none => none
      | some as => some (.cons a as)
def trB (rc : Rec) (sc : Scope) (op : BoolOp) : List Expr → Option IE
  | [] => none
  | [e] => rc sc false e
  | e :: es => match rc sc true e with
    | none => none
    | some a => match trB rc sc op es with
      | none => none
      | some b => some (match op with | .And => .an a b | .Or => .or a b)
/-- range(..) -/
def trR (R : Rw) (rc : Rec) (sc : Scope) : Expr → Option (IE × IE)
  | .Call (.Name x _) [a] [] _ => if x = "range" ∧ glB sc x = true ∧ x ∈ R.frs then (rc sc true a).map fun a' => (.ci 0, a') else none
  | .Call (.Name x _) [a, b] [] _ => if x = "range" ∧ glB sc x = true ∧ x ∈ R.frs then match rc sc true a, rc sc true b with
    | some a', some b' => some (a', b')
    | _, _ => none else none
  | _ => none
def isTupX : Expr → Bool
  | .Tuple _ _ _ => true
  | _ => false
/-- zip(..) -/
def trZ (R : Rw) (rc : Rec) (sc : Scope) (tg : Expr) : Expr → Option IE
  | .Call (.Name x _) [a, b] [] _ => if x = "zip" ∧ glB sc x = true ∧ x ∈ R.frs ∧ isTupX tg = true then match rc sc false a, rc sc false b with
    | some a', some b' => some (.zip a' b')
    | _, _ => none else none
  | _ => none
/-- enumerate(..) -/
def trEn (R : Rw) (rc : Rec) (sc : Scope) (tg : Expr) : Expr → Option IE
  | .Call (.Name x _) [a] [] _ => if x = "enumerate" ∧ glB sc x = true ∧ x ∈ R.frs ∧ isTupX tg = true then match rc sc false a with
    | some a' => some (.enum a')
    | none => none else none
  | _ => none
/-- what is walked -/
def trI (R : Rw) (rc : Rec) (sc : Scope) (tg e : Expr) : Option IE := match trR R rc sc e with
  | some (a, b) => some (.rg a b)
  | none => match trZ R rc sc tg e with
    | some z => some z
    | none => match trEn R rc sc tg e with
     | some z => some z
     | none => match rc sc false e with
      | some (.rg _ _) => none
      | some (.enum _) => none
      | some (.zip _ _) => none
      | q => q
def nameOf : Expr → Option Str
  | .Name x _ => some x
  | _ => none
/-- a name that is assigned to -/
def trN (N : List Str) (sc : Scope) (top : Bool) : Expr → Option Nat
  | .Name x _ => match sc.names.lookup x with
    | some .local => idx N x 0
    | some .cell => if top then idx N x 0 else none
    | _ => none
  | _ => none
def trNs (N : List Str) (sc : Scope) (top : Bool) : List Expr → Option (List Nat)
  | [] => some []
  | e :: es => match trN N sc top e, trNs N sc top es with
    | some i, some is => some (i :: is)
    | _, _ => none
def trT (N : List Str) (sc : Scope) (top : Bool) : Expr → Option (List Nat)
  | .Tuple es _ _ => match trNs N sc top es with
    | some (i :: j :: is) => some (i :: j :: is)
    | _ => none
  | e => (trN N sc top e).map fun i => [i]
def trO (rc : Rec) (sc : Scope) : Option Expr → Option IE
  | none => some .nil
  | some e => match rc sc true e with
    | some .nil => none
    | q => q
def trC (rc : Rec) (sc : Scope) : List Expr → Option IE
  | [] => some .nil
  | [e] => match rc sc true e with
    | some .nil => none
    | q => q
  | _ => none
/-- the slots of a comprehension's own names -/
def ownSlots (N : List Str) (scope : Scope) : List Nat := (List.range N.length).filter fun i => match N[i]? with
  | some x => match scope.names.lookup x with
    | some .local => true
    | some .cell => true
    | _ => false
  | none => false
def trComp (R : Rw) (N : List Str) (rc : Rec) (sc : Scope) (elt tg iter : Expr) (ifs : List Expr) (scope : Scope) : Option IE :=
  match trI R rc sc tg iter, trT N (relS scope sc) false tg, trC rc (relS scope sc) ifs, rc (relS scope sc) false elt with
  | some src, some tgs, some cond, some e => if blkC N sc scope (ownOf N (ownSlots N scope)) = true ∧ (∀ i ∈ tgs, i ∈ ownSlots N scope) then some (.comp e tgs src cond (ownSlots N scope)) else none
  | _, _, _, _ => none
/-- set(a) as the only argument -/
def setArg (R : Rw) (sc : Scope) : List Expr → Option Expr
  | [.Call (.Name x _) [a] [] _] => if x = "set" ∧ glB sc x = true ∧ x ∈ R.frs then some a else none
  | _ => none
/-- a field that is a dict -/
def isDF : Expr → Bool
  | .Attribute _ n _ => decide (n = "fences")
  | _ => false
def dfArg : List Expr → Option Expr
  | [e] => if isDF e = true then some e else none
  | _ => none
def trCall (R : Rw) (rc : Rec) (sc : Scope) (x : Str) (args : List Expr) : Option IE :=
  if glB sc x = true then match R.fns.lookup x with
    | some (k, bs) => if args ≠ [] ∧ bs.length = args.length then (trA rc sc bs args).map (.call k) else none
    | none => if x ∈ R.frs then match x == ("isinstance" : Str), args with
      | true, [a, .Name t _] => if t ∈ R.frs ∧ glB sc t = true then match tyOf t, rc sc true a with
        | some ty, some a' => some (.isi ty a')
        | _, _ => none else none
      | true, _ => none
      | false, args => match setArg R sc args with
       | some a => if x = "len" then (rc sc true a).map .lset else if x = "sorted" then (rc sc true a).map .sset else none
       | none => match dfArg args with
        | some a => if x = "sorted" then (rc sc true a).map .dsort else none
        | none => match (if x = "list" ∨ x = "tuple" then match args with | [e] => trR R rc sc e | _ => none else none) with
        | some (a, b) => some (if x = "list" then .rgL a b else .rgT a b)
        | none => match biOf x with
          | some b => if args ≠ [] then (trA rc sc (args.map fun _ => true) args).map (.bi b) else none
          | none => none
      else none
  else none
def isJoin (m : Str) : Option Bool := if m = "join" then some true else if m = "split" then some false else none
def isM1 : Expr → Bool
  | .UnaryOp .USub (.Constant (.int i) _ _) _ => decide (i = 1)
  | _ => false
def trRev (rc : Rec) (sc : Scope) (a : Expr) : Option Expr → Option Expr → Expr → Option IE
  | none, none, st => if isM1 st = true then (rc sc true a).map .rev else none
  | _, _, _ => none
def stepE (R : Rw) (N : List Str) (rc : Rec) (sc : Scope) (w : Bool) : Expr → Option IE
  | .Name x _ => if visB sc x then (idx N x 0).map (if w then .bv else .var) else if glB sc x then match R.cst.lookup x with
      | some c => some c
      | none => none
    else none
  | .Constant .none _ _ => some .cn
  | .Constant (.bool b) _ _ => some (.cb b)
  | .Constant (.int i) _ _ => some (.ci i)
  | .Constant (.str s) _ _ => some (.cs s)
  | .BinOp a op b _ => match rc sc true a, rc sc true b with
    | some a', some b' => some (.bin op a' b')
    | _, _ => none
  | .UnaryOp .USub a _ => (rc sc true a).map .neg
  | .UnaryOp .Not a _ => (rc sc true a).map .nt
  | .BoolOp op vs _ => trB rc sc op vs
  | .Compare a [op] [b] _ => match rc sc true a, rc sc true b with
    | some a', some b' => some (.cmp op a' b')
    | _, _ => none
  | .Compare a [op, op'] [b, c] _ => match rc sc true a, rc sc true b, rc sc true c with
    | some a', some b', some c' => some (.cmp2 op op' a' b' c')
    | _, _, _ => none
  | .Tuple es _ _ => (trA rc sc (es.map fun _ => false) es).map .tup
  | .List es _ => (trA rc sc (es.map fun _ => false) es).map .lst
  | .Subscript a (.Slice lo hi none _) _ => match rc sc true a, trO rc sc lo, trO rc sc hi with
    | some a', some l, some h => some (.sl a' l h)
    | _, _, _ => none
  | .Subscript a (.Slice lo hi (some st) _) _ => trRev rc sc a lo hi st
  | .Subscript a b _ => match rc sc true a, rc sc true b with
    | some a', some b' => some (if isDF a = true then .dix a' b' else .ix a' b')
    | _, _ => none
  | .Call (.Name x _) args [] _ => trCall R rc sc x args
  | .Call (.Attribute o m apos) [a] [] pos => match isJoin m, rc sc true o, rc sc true a with
    | some j, some o', some a' => if notCall o = true ∧ (apos.endLine == pos.line) = true then some (if j then .join o' a' else .split o' a') else none
    | _, _, _ => none
  | .Call (.Attribute o m apos) [a, b] [] pos => match rc sc true o, rc sc true a, rc sc false b with
    | some o', some a', some b' => if m = "get" ∧ notCall o = true ∧ (apos.endLine == pos.line) = true then some (.dget o' a' b') else none
    | _, _, _ => none
  | .Attribute a n _ => match rc sc true a with
    | some a' => if notCall a = true then some (if w then .fld a' n else .flds a' n) else none
    | none => none
  | .ListComp elt [⟨tg, iter, ifs, 0⟩] scope _ => trComp R N rc sc elt tg iter ifs scope
  | _ => none
def trE (R : Rw) (N : List Str) : Nat → Rec
  | 0 => fun _ _ _ => none
  | n + 1 => stepE R N (trE R N n)
end J

/-! The translation is sound: expressions. -/
namespace J
open PySem PySem.Spec PyProof.Rows L2
structure Good (C : Fam) (Φ : Nat → List D → Option D) (w : Bool) (e : Expr) (ie : IE) : Prop where
  sb : SB C e (evE Φ ie)
  se : w = false → SE C e (evE Φ ie)
  st : ST C e (evE Φ ie)
  pl : plainX e = true
theorem Good.of {C : Fam} {Φ : Nat → List D → Option D} {w : Bool} {e : Expr} {ie : IE} (h : SE C e (evE Φ ie)) (ht : ST C e (evE Φ ie)) (hp : plainX e = true) : Good C Φ w e ie := ⟨h.sb, fun _ => h, ht, hp⟩
def Snd (R : Rw) (N : List Str) (Φ : Nat → List D → Option D) (rc : Rec) : Prop := ∀ C : Fam, C.N = N → R.ok Φ C → ∀ (w : Bool) (e : Expr) (ie : IE), rc C.sc w e = some ie → Good C Φ w e ie
section
variable {R : Rw} {N : List Str} {Φ : Nat → List D → Option D} {rc : Rec} {C : Fam}
theorem trA_ok (S : Snd R N Φ rc) (hN : C.N = N) (hR : R.ok Φ C) : ∀ (bs : List Bool) (es : List Expr) (as : IE), trA rc C.sc bs es = some as → SA C bs es (evA Φ as) ∧ es.all plainX = true
  | bs, [], as, h => by
    have : as = .nil := by cases bs <;> (simp only [trA] at h; cases h; rfl)
    subst this
    exact ⟨sa_nil.cg fun env => by (simp only [evA] <;> rfl), rfl⟩
  | [], e :: es, as, h => by simp [trA] at h
  | b :: bs, e :: es, as, h => by
    simp only [trA] at h
    split at h
    · cases h
    · rename_i a ha
      split at h
      · cases h
      · rename_i as' has
        cases h
        obtain ⟨h1, h2⟩ := trA_ok S hN hR bs es as' has
        have G := S C hN hR b e a ha
        refine ⟨?_, by rw [List.all_cons, G.pl, h2]; rfl⟩
        cases b with
        | true => exact (sa_consb G.sb h1 G.pl).cg fun env => by (simp only [evA] <;> rfl)
        | false => exact (sa_cons (G.se rfl) h1 G.pl).cg fun env => by (simp only [evA] <;> rfl)
theorem trB_ok (S : Snd R N Φ rc) (hN : C.N = N) (hR : R.ok Φ C) {op : BoolOp} {pos : Pos} : ∀ (es : List Expr) (ie : IE), trB rc C.sc op es = some ie → SE C (.BoolOp op es pos) (evE Φ ie) ∧ SW C (.BoolOp op es pos) (evE Φ ie)
  | [], ie, h => by simp [trB] at h
  | [e], ie, h => by
    have G := S C hN hR false e ie h
    refine ⟨se_one (G.se rfl), ?_⟩
    cases op with
    | And => exact sw_and1 G.st
    | Or => exact sw_or1 G.st
  | e :: e2 :: es, ie, h => by
    simp only [trB] at h
    split at h
    · cases h
    · rename_i a ha
      split at h
      · cases h
      · rename_i b hb
        cases h
        obtain ⟨h1, h2⟩ := trB_ok S hN hR (e2 :: es) b hb
        have G := S C hN hR true e a ha
        cases op with
        | And => exact ⟨(se_and G.sb h1).cg fun env => by (simp only [evE] <;> rfl), (sw_and G.st h2).cg fun env => by (simp only [evE] <;> rfl)⟩
        | Or => exact ⟨(se_or G.sb h1).cg fun env => by (simp only [evE] <;> rfl), (sw_or G.st h2).cg fun env => by (simp only [evE] <;> rfl)⟩
theorem trR_ok (S : Snd R N Φ rc) (hN : C.N = N) (hR : R.ok Φ C) {e : Expr} {a b : IE} (h : trR R rc C.sc e = some (a, b)) : SR C e (evE Φ a) (evE Φ b) ∧ plainX e = true ∧ ∀ tg, SI C tg e (evI Φ (.rg a b)) := by
  unfold trR at h
  split at h
  · split at h
    · rename_i hx
      obtain ⟨rfl, hg, hf⟩ := hx
      obtain ⟨a', ha, ea⟩ := Option.map_eq_some_iff.mp h
      cases ea
      have G := S C hN hR true _ _ ha
      have g := glB_ok hg
      have m := hR.fr _ hf
      refine ⟨?_, rfl, fun tg => (si_rg1 g.1 m G.sb G.pl).cg fun env => by (simp only [evI, evE] <;> rfl)⟩
      have := sr_1 (p := ‹Pos›) (pos := ‹Pos›) g.1 m G.sb G.pl
      have e1 : evE Φ (.ci 0) = fun _ => some (.int 0) := by funext env; simp only [evE]
      rw [e1]
      exact sr_1 g.1 m G.sb G.pl
    · cases h
  · split at h
    · rename_i hx
      obtain ⟨rfl, hg, hf⟩ := hx
      split at h
      · rename_i a' b' ha hb
        cases h
        have G := S C hN hR true _ _ ha
        have G' := S C hN hR true _ _ hb
        have g := glB_ok hg
        have m := hR.fr _ hf
        exact ⟨sr_2 g.1 m G.sb G'.sb G.pl G'.pl, rfl, fun tg => (si_rg2 g.1 m G.sb G'.sb G.pl G'.pl).cg fun env => by (simp only [evI] <;> rfl)⟩
      · cases h
    · cases h
  · cases h
theorem evI_any {ie : IE} (h1 : ∀ a b, ie ≠ .rg a b) (h2 : ∀ a, ie ≠ .enum a) (h3 : ∀ a b, ie ≠ .zip a b) (env : En) : evI Φ ie env = (match evE Φ ie env with
    | none => none
    | some x => itemsD x) := by
  cases ie <;> first
    | (simp only [evI] <;> rfl)
    | exact absurd rfl (h1 _ _)
    | exact absurd rfl (h2 _)
    | exact absurd rfl (h3 _ _)
theorem trZ_ok (S : Snd R N Φ rc) (hN : C.N = N) (hR : R.ok Φ C) {tg e : Expr} {ie : IE} (h : trZ R rc C.sc tg e = some ie) : SI C tg e (evI Φ ie) ∧ plainX e = true := by
  unfold trZ at h
  split at h
  · split at h
    · rename_i hx
      obtain ⟨rfl, hg, hf, ht⟩ := hx
      split at h
      · rename_i a' b' ha hb
        cases h
        have G := S C hN hR false _ _ ha
        have G' := S C hN hR false _ _ hb
        cases tg <;> first | (simp [isTupX] at ht; done) | skip
        exact ⟨(si_zipM (glB_ok hg).1 (hR.fr _ hf) (G.se rfl) (G'.se rfl) G.pl G'.pl).cg fun env => by (simp only [evI] <;> rfl), rfl⟩
      · cases h
    · cases h
  · cases h
theorem trEn_ok (S : Snd R N Φ rc) (hN : C.N = N) (hR : R.ok Φ C) {tg e : Expr} {ie : IE} (h : trEn R rc C.sc tg e = some ie) : SI C tg e (evI Φ ie) ∧ plainX e = true := by
  unfold trEn at h
  split at h
  · split at h
    · rename_i hx
      obtain ⟨rfl, hg, hf, ht⟩ := hx
      split at h
      · rename_i a' ha
        cases h
        have G := S C hN hR false _ _ ha
        cases tg <;> first | (simp [isTupX] at ht; done) | skip
        exact ⟨(si_enum (glB_ok hg).1 (hR.fr _ hf) (G.se rfl) G.pl).cg fun env => by (simp only [evI] <;> rfl), rfl⟩
      · cases h
    · cases h
  · cases h
theorem trI_ok (S : Snd R N Φ rc) (hN : C.N = N) (hR : R.ok Φ C) {tg e : Expr} {ie : IE} (h : trI R rc C.sc tg e = some ie) : SI C tg e (evI Φ ie) ∧ plainX e = true := by
  unfold trI at h
  split at h
  · rename_i a b hr
    cases h
    obtain ⟨_, h2, h3⟩ := trR_ok S hN hR hr
    exact ⟨h3 tg, h2⟩
  · split at h
    · rename_i z hz
      cases h
      exact trZ_ok S hN hR hz
    · split at h
      · rename_i z hz
        cases h
        exact trEn_ok S hN hR hz
      · split at h
        · cases h
        · cases h
        · cases h
        · rename_i n1 n2 n3
          have G := S C hN hR false _ _ h
          refine ⟨(si_any (G.se rfl)).cg fun env => evI_any (fun a b z => ?_) (fun a z => ?_) (fun a b z => ?_) env, G.pl⟩
          · rw [z] at h; exact n1 a b h
          · rw [z] at h; exact n2 a h
          · rw [z] at h; exact n3 a b h
theorem trN_ok {C : Fam} {e : Expr} {i : Nat} (h : trN C.N C.sc C.top e = some i) : TgN C e i := by
  unfold trN at h
  split at h
  · split at h
    · rename_i hl
      exact .mk (idx_get h) (.inl hl)
    · rename_i hl
      split at h
      · rename_i ht
        exact .mk (idx_get h) (.inr ⟨hl, ht⟩)
      · cases h
    · cases h
  · cases h
theorem trNs_ok {C : Fam} : ∀ {es : List Expr} {is : List Nat}, trNs C.N C.sc C.top es = some is → TgNs C es is
  | [], is, h => by cases h; exact .nil
  | e :: es, is, h => by
    simp only [trNs] at h
    split at h
    · rename_i i is' hi his
      cases h
      exact .cons (trN_ok hi) (trNs_ok his)
    · cases h
theorem trT_ok {C : Fam} {e : Expr} {tg : List Nat} (h : trT C.N C.sc C.top e = some tg) : TgOk C e tg := by
  unfold trT at h
  split at h
  · split at h
    · rename_i i j is hs
      cases h
      exact .tup (trNs_ok hs)
    · cases h
  · obtain ⟨i, hi, e1⟩ := Option.map_eq_some_iff.mp h
    subst e1
    exact .name (trN_ok hi)
theorem evO_any {ie : IE} (h : ie ≠ .nil) (env : En) : evO Φ ie env = (match evE Φ ie env with
    | some (.int i) => some (some i)
    | _ => none) := by
  cases ie <;> first
    | exact absurd rfl h
    | (simp only [evO] <;> rfl)
theorem evC_any {ie : IE} (h : ie ≠ .nil) (env : En) : evC Φ ie env = testD (evE Φ ie env) := by
  cases ie <;> first
    | exact absurd rfl h
    | (simp only [evC] <;> rfl)
theorem trO_ok (S : Snd R N Φ rc) (hN : C.N = N) (hR : R.ok Φ C) {o : Option Expr} {ie : IE} (h : trO rc C.sc o = some ie) : SO C o (evO Φ ie) := by
  unfold trO at h
  split at h
  · cases h
    exact so_none.cg fun env => by (simp only [evO] <;> rfl)
  · split at h
    · cases h
    · rename_i n1
      have G := S C hN hR true _ _ h
      exact (so_some G.sb).cg fun env => evO_any (fun z => by rw [z] at h; exact n1 h) env
theorem trC_ok (S : Snd R N Φ rc) (hN : C.N = N) (hR : R.ok Φ C) {ifs : List Expr} {ie : IE} (h : trC rc C.sc ifs = some ie) : SC C ifs (evC Φ ie) := by
  unfold trC at h
  split at h
  · cases h
    exact sc_nil.cg fun env => by (simp only [evC] <;> rfl)
  · split at h
    · cases h
    · rename_i n1
      have G := S C hN hR true _ _ h
      exact (sc_one G.st).cg fun env => evC_any (fun z => by rw [z] at h; exact n1 h) env
  · cases h
theorem trComp_parts (S : Snd R N Φ rc) (hN : C.N = N) (hR : R.ok Φ C) {elt tg iter : Expr} {ifs : List Expr} {scope : Scope} {ie : IE} (h : trComp R N rc C.sc elt tg iter ifs scope = some ie) :
    ∃ e tgl src cond vs, ie = .comp e tgl src cond vs ∧ SI C tg iter (evI Φ src) ∧ plainX iter = true ∧ BlkOk C.N C.sc scope (ownOf C.N vs) ∧ TgOk (C.blk scope) tg tgl ∧ (∀ i ∈ tgl, i ∈ vs) ∧ SC (C.blk scope) ifs (evC Φ cond) ∧ SE (C.blk scope) elt (evE Φ e) := by
  unfold trComp at h
  split at h
  · rename_i src tgl cond e h1 h2 h3 h4
    split at h
    · rename_i hb
      cases h
      subst hN
      have i1 := trI_ok S rfl hR h1
      exact ⟨e, tgl, src, cond, _, rfl, i1.1, i1.2, blkOk_by hb.1, trT_ok (C := C.blk scope) h2, hb.2, trC_ok (C := C.blk scope) S rfl (hR.blk scope) h3, (S (C.blk scope) rfl (hR.blk scope) false _ _ h4).se rfl⟩
    · cases h
  · cases h
theorem comp_eq {e : IE} {tgl : List Nat} {src cond : IE} {vs : List Nat} (env : En) : evE Φ (.comp e tgl src cond vs) env = (match evI Φ src env with
      | none => none
      | some ds => if ds.length ≤ 40000 then (compL (turnC tgl vs (evC Φ cond) (evE Φ e) env) ds).map PyData.list else none) := by
  (simp only [evE] <;> rfl)
theorem trComp_ok (S : Snd R N Φ rc) (hN : C.N = N) (hR : R.ok Φ C) {elt tg iter : Expr} {ifs : List Expr} {scope : Scope} {ie : IE} {pos : Pos} (h : trComp R N rc C.sc elt tg iter ifs scope = some ie) :
    SF C (.ListComp elt [⟨tg, iter, ifs, 0⟩] scope pos) (evE Φ ie) := by
  obtain ⟨e, tgl, src, cond, vs, rfl, h1, h2, h3, h4, h5, h6, h7⟩ := trComp_parts S hN hR h
  exact (sf_comp hR.nd h1 h2 h3 h4 h5 h6 h7).cg fun env => comp_eq env
theorem lookup_mem {α β : Type} [BEq α] [LawfulBEq α] {l : List (α × β)} {x : α} {y : β} (h : l.lookup x = some y) : (x, y) ∈ l := by
  induction l with
  | nil => cases h
  | cons p r ih =>
    obtain ⟨a, b⟩ := p
    rw [List.lookup_cons] at h
    split at h
    · rename_i he
      cases h
      rw [eq_of_beq he]
      exact List.mem_cons_self
    · exact List.mem_cons_of_mem _ (ih h)
theorem setArg_ok {sc : Scope} {args : List Expr} {a : Expr} (h : setArg R sc args = some a) : ∃ p q, args = [.Call (.Name "set" p) [a] [] q] ∧ glB sc "set" = true ∧ ("set" : Str) ∈ R.frs := by
  unfold setArg at h
  split at h
  · split at h
    · rename_i hx
      cases h
      obtain ⟨rfl, h1, h2⟩ := hx
      exact ⟨_, _, rfl, h1, h2⟩
    · cases h
  · cases h
theorem trCall_ok (S : Snd R N Φ rc) (hN : C.N = N) (hR : R.ok Φ C) {x : Str} {p pos : Pos} {args : List Expr} {ie : IE} (h : trCall R rc C.sc x args = some ie) : SE C (.Call (.Name x p) args [] pos) (evE Φ ie) := by
  unfold trCall at h
  split at h
  · rename_i hg
    have g := glB_ok hg
    split at h
    · rename_i k bs hl
      split at h
      · rename_i hb
        obtain ⟨as, ha, ea⟩ := Option.map_eq_some_iff.mp h
        subst ea
        obtain ⟨h1, h2⟩ := trA_ok S hN hR _ _ _ ha
        cases args with
        | nil => exact absurd rfl hb.1
        | cons e es => exact (se_call (hR.fn _ (lookup_mem hl)) g.1 h1 h2 g.2.1).cg fun env => by (simp only [evE] <;> rfl)
      · cases h
    · split at h
      · rename_i hf
        split at h
        · rename_i a t tp hx
          have ex : x = ("isinstance" : Str) := eq_of_beq hx
          subst ex
          split at h
          · rename_i ht
            split at h
            · rename_i ty a' hty ha
              cases h
              have G := S C hN hR true _ _ ha
              have g2 := glB_ok ht.2
              exact (se_isi G.sb G.pl g.1 (hR.fr _ hf) g2.1 (hR.fr _ ht.1) (tyOf_ok hty) g2.2.2 g2.2.1).cg fun env => by (simp only [evE] <;> rfl)
            · cases h
          · cases h
        · cases h
        · split at h
          · rename_i a hsa
            obtain ⟨p2, q2, rfl, hg2, hf2⟩ := setArg_ok hsa
            split at h
            · rename_i hx
              subst hx
              obtain ⟨a', ha, ea⟩ := Option.map_eq_some_iff.mp h
              subst ea
              have G := S C hN hR true _ _ ha
              exact (se_lset g.1 (hR.fr _ hf) (glB_ok hg2).1 (hR.fr _ hf2) G.sb G.pl).cg fun env => by (simp only [evE] <;> rfl)
            · split at h
              · rename_i hx
                subst hx
                obtain ⟨a', ha, ea⟩ := Option.map_eq_some_iff.mp h
                subst ea
                have G := S C hN hR true _ _ ha
                exact (se_sset g.1 (hR.fr _ hf) (glB_ok hg2).1 (hR.fr _ hf2) G.sb G.pl).cg fun env => by (simp only [evE] <;> rfl)
              · cases h
          split at h
          · rename_i a hda
            split at h
            · rename_i hx
              subst hx
              obtain ⟨a', ha, ea⟩ := Option.map_eq_some_iff.mp h
              subst ea
              have G := S C hN hR true _ _ ha
              unfold dfArg at hda
              split at hda
              · split at hda
                · cases hda
                  exact (se_dsort G.sb G.pl g.1 (hR.fr _ hf)).cg fun env => by (simp only [evE] <;> rfl)
                · cases hda
              · cases hda
            · cases h
          split at h
          · rename_i a b hr
            cases h
            split at hr
            · rename_i hlt
              split at hr
              · obtain ⟨r1, r2, _⟩ := trR_ok S hN hR hr
                by_cases hx : x = ("list" : Str)
                · rw [if_pos hx]
                  subst hx
                  exact ((sf_rgL r1 r2 g.1 (hR.fr _ hf)).se).cg fun env => by (simp only [evE] <;> rfl)
                · rw [if_neg hx]
                  have hx2 : x = ("tuple" : Str) := hlt.resolve_left hx
                  subst hx2
                  exact (se_rgT r1 r2 g.1 (hR.fr _ hf)).cg fun env => by (simp only [evE] <;> rfl)
              · cases hr
            · cases hr
          · split at h
            · rename_i b hb
              split at h
              · rename_i hne
                obtain ⟨as, ha, ea⟩ := Option.map_eq_some_iff.mp h
                subst ea
                obtain ⟨h1, h2⟩ := trA_ok S hN hR _ _ _ ha
                obtain ⟨e, es, rfl⟩ := List.exists_cons_of_ne_nil hne
                cases biOf_ok hb with
                | fn id hv hc => exact (se_bi (fun X hX => hc X hX.calm) g.1 (hR.fr _ hf) hv h1 h2 g.2.2 g.2.1).cg fun env => by (simp only [evE] <;> rfl)
                | ty T hv hc => exact (se_ty (fun X hX => hc X hX.calm) g.1 (hR.fr _ hf) hv h1 h2 g.2.2 g.2.1).cg fun env => by (simp only [evE] <;> rfl)
              · cases h
            · cases h
      · cases h
  · cases h
theorem all_false (es : List Expr) : (es.map fun _ => false).all (! ·) = true := by simp
theorem sub_ix {a b : Expr} {pos : Pos} (S : Snd R N Φ rc) (hN : C.N = N) (hR : R.ok Φ C) {ie : IE} {w : Bool} (h : (match rc C.sc true a, rc C.sc true b with
    | some a', some b' => some (if isDF a = true then IE.dix a' b' else IE.ix a' b')
    | _, _ => none) = some ie) : Good C Φ w (.Subscript a b pos) ie := by
  split at h
  · rename_i a' b' ha hb
    cases h
    have G := S C hN hR true _ _ ha
    have G' := S C hN hR true _ _ hb
    split
    · have q : SE C (.Subscript a b pos) (evE Φ (.dix a' b')) := (se_dix G.sb G'.sb G'.pl).cg fun env => by (simp only [evE] <;> rfl)
      exact .of q (st_of q fun _ _ => rfl) rfl
    · have q : SE C (.Subscript a b pos) (evE Φ (.ix a' b')) := (se_ix G.sb G'.sb G'.pl).cg fun env => by (simp only [evE] <;> rfl)
      exact .of q (st_of q fun _ _ => rfl) rfl
  · cases h
theorem isM1_ok {e : Expr} (h : isM1 e = true) : ∃ k p1 p2, e = .UnaryOp .USub (.Constant (.int 1) k p1) p2 := by
  unfold isM1 at h
  split at h
  · have := of_decide_eq_true h
    subst this
    exact ⟨_, _, _, rfl⟩
  · cases h
set_option maxHeartbeats 4000000 in
theorem step_ok (S : Snd R N Φ rc) : Snd R N Φ (stepE R N rc) := by
  intro C hN hR w e ie h
  cases e <;> try (cases h; done)
  case Name x pos =>
    simp only [stepE] at h
    split at h
    · rename_i hv
      obtain ⟨i, hi, ei⟩ := Option.map_eq_some_iff.mp h
      subst ei
      have v := visB_ok hv
      subst hN
      have sb : SB C (.Name x pos) (fun env => getB env i) := sb_var (idx_get hi) v.1 v.2.1 v.2.2
      have se : SE C (.Name x pos) (fun env => getV env i) := se_var (idx_get hi) v.1 v.2.1 v.2.2
      cases w with
      | true =>
        have q : SB C (.Name x pos) (evE Φ (.bv i)) := sb.cg fun env => by (simp only [evE] <;> rfl)
        exact ⟨q, (fun z => nomatch z), sb_st q (fun _ _ => rfl), rfl⟩
      | false =>
        have q : SE C (.Name x pos) (evE Φ (.var i)) := se.cg fun env => by (simp only [evE] <;> rfl)
        exact .of q (st_of q fun _ _ => rfl) rfl
    · split at h
      · rename_i hg
        split at h
        · rename_i c hc
          cases h
          obtain ⟨v, u, d, h1, h2, h3, h4⟩ := hR.cs _ (lookup_mem hc)
          have g := glB_ok hg
          have q : SE C (.Name x pos) (evE Φ ie) := (se_c (fun X hX => pe_glob (show X.env.scope.names.lookup x = _ by rw [hX.hsc]; exact g.1) (by rw [hX.hmg]; exact h1) h2 g.2.1) h3).cg h4
          exact .of q (st_of q fun _ _ => rfl) rfl
        · cases h
      · cases h
  case Constant c k pos =>
    cases c <;> try (cases h; done)
    case none =>
      cases h
      have q : SE C (.Constant .none k pos) (evE Φ .cn) := (se_c (fun X hX => pe_non) fun H => .non).cg fun env => by (simp only [evE] <;> rfl)
      exact .of q (st_of q fun _ _ => rfl) rfl
    case bool b =>
      cases h
      have q : SE C (.Constant (.bool b) k pos) (evE Φ (.cb b)) := (se_c (fun X hX => pe_bl) fun H => .bl b).cg fun env => by (simp only [evE] <;> rfl)
      exact .of q (st_of q fun _ _ => rfl) rfl
    case int b =>
      cases h
      have q : SE C (.Constant (.int b) k pos) (evE Φ (.ci b)) := (se_c (fun X hX => pe_int) fun H => .int b).cg fun env => by (simp only [evE] <;> rfl)
      exact .of q (st_of q fun _ _ => rfl) rfl
    case str b =>
      cases h
      have q : SE C (.Constant (.str b) k pos) (evE Φ (.cs b)) := (se_c (fun X hX => pe_str) fun H => .str b).cg fun env => by (simp only [evE] <;> rfl)
      exact .of q (st_of q fun _ _ => rfl) rfl
  case BinOp a op b pos =>
    simp only [stepE] at h
    split at h
    · rename_i a' b' ha hb
      cases h
      have G := S C hN hR true _ _ ha
      have G' := S C hN hR true _ _ hb
      have q : SE C (.BinOp a op b pos) (evE Φ (.bin op a' b')) := (se_bin G.sb G'.sb).cg fun env => by (simp only [evE] <;> rfl)
      exact .of q (st_of q fun _ _ => rfl) rfl
    · cases h
  case UnaryOp op a pos =>
    cases op <;> try (cases h; done)
    case USub =>
      obtain ⟨a', ha, ea⟩ := Option.map_eq_some_iff.mp (show (rc C.sc true a).map IE.neg = some ie from h)
      subst ea
      have G := S C hN hR true _ _ ha
      have q : SE C (.UnaryOp .USub a pos) (evE Φ (.neg a')) := (se_neg G.sb).cg fun env => by (simp only [evE] <;> rfl)
      exact .of q (st_of q fun _ _ => rfl) rfl
    case Not =>
      obtain ⟨a', ha, ea⟩ := Option.map_eq_some_iff.mp (show (rc C.sc true a).map IE.nt = some ie from h)
      subst ea
      have G := S C hN hR true _ _ ha
      exact .of ((se_not G.sb).cg fun env => by (simp only [evE] <;> rfl)) ((st_not G.st).cg fun env => by (simp only [evE] <;> rfl)) rfl
  case BoolOp op vs pos =>
    obtain ⟨h1, h2⟩ := trB_ok S hN hR (pos := pos) vs ie h
    exact .of h1 h2.st rfl
  case Compare a ops cs pos =>
    match ops, cs, h with
    | [op], [b], h =>
      simp only [stepE] at h
      split at h
      · rename_i a' b' ha hb
        cases h
        have G := S C hN hR true _ _ ha
        have G' := S C hN hR true _ _ hb
        exact .of ((se_cmp G.sb G'.sb G'.pl).cg fun env => by (simp only [evE] <;> rfl)) ((st_cmp G.sb G'.sb G'.pl).cg fun env => by (simp only [evE] <;> rfl)) rfl
      · cases h
    | [op, op'], [b, c], h =>
      simp only [stepE] at h
      split at h
      · rename_i a' b' c' ha hb hc
        cases h
        have G := S C hN hR true _ _ ha
        have G' := S C hN hR true _ _ hb
        have G'' := S C hN hR true _ _ hc
        exact .of ((se_cmp2 G.sb G'.sb G''.sb G''.pl).cg fun env => by (simp only [evE] <;> rfl)) ((st_cmp2 G.sb G'.sb G''.sb G''.pl).cg fun env => by (simp only [evE] <;> rfl)) rfl
      · cases h
  case Tuple es k pos =>
    obtain ⟨as, ha, ea⟩ := Option.map_eq_some_iff.mp (show (trA rc C.sc (es.map fun _ => false) es).map IE.tup = some ie from h)
    subst ea
    obtain ⟨h1, h2⟩ := trA_ok S hN hR _ _ _ ha
    have q : SE C (.Tuple es k pos) (evE Φ (.tup as)) := (se_tup h1 (all_false es)).cg fun env => by (simp only [evE] <;> rfl)
    exact .of q (st_of q fun _ _ => rfl) rfl
  case List es pos =>
    obtain ⟨as, ha, ea⟩ := Option.map_eq_some_iff.mp (show (trA rc C.sc (es.map fun _ => false) es).map IE.lst = some ie from h)
    subst ea
    obtain ⟨h1, h2⟩ := trA_ok S hN hR _ _ _ ha
    have q : SE C (.List es pos) (evE Φ (.lst as)) := ((sf_lst h1 (all_false es)).se).cg fun env => by (simp only [evE] <;> rfl)
    exact .of q (st_of q fun _ _ => rfl) rfl
  case ListComp elt gs scope pos =>
    match gs, h with
    | [⟨tg, iter, ifs, 0⟩], h =>
      have q := (trComp_ok (pos := pos) S hN hR h).se
      exact .of q (st_of q fun _ _ => rfl) rfl
  case Subscript a b pos =>
    by_cases hs : ∃ lo hi st p, b = .Slice lo hi st p
    · obtain ⟨lo, hi, st, p, rfl⟩ := hs
      cases st with
      | some z =>
        have h' : trRev rc C.sc a lo hi z = some ie := h
        unfold trRev at h'
        split at h'
        · split at h'
          · rename_i hm
            obtain ⟨k, p1, p2, rfl⟩ := isM1_ok hm
            obtain ⟨a', ha, ea⟩ := Option.map_eq_some_iff.mp h'
            subst ea
            have G := S C hN hR true _ _ ha
            have q : SE C (.Subscript a (.Slice none none (some (.UnaryOp .USub (.Constant (.int 1) k p1) p2)) p) pos) (evE Φ (.rev a')) := (se_rev G.sb).cg fun env => by (simp only [evE] <;> rfl)
            exact .of q (st_of q fun _ _ => rfl) rfl
          · cases h'
        · cases h'
      | none =>
        simp only [stepE] at h
        split at h
        · rename_i a' l hh ha hl hh'
          cases h
          have G := S C hN hR true _ _ ha
          have q : SE C (.Subscript a (.Slice lo hi none p) pos) (evE Φ (.sl a' l hh)) := (se_sl G.sb (trO_ok S hN hR hl) (trO_ok S hN hR hh')).cg fun env => by (simp only [evE] <;> rfl)
          exact .of q (st_of q fun _ _ => rfl) rfl
        · cases h
    · cases b <;> first | exact absurd ⟨_, _, _, _, rfl⟩ hs | exact sub_ix S hN hR h
  case Call f args kws pos =>
    cases kws with
    | cons _ _ => cases f <;> cases args <;> first | (cases h; done) | (rename_i r; cases r <;> first | (cases h; done) | (rename_i r2; cases r2 <;> (cases h; done)))
    | nil =>
      cases f <;> try (cases args <;> first | (cases h; done) | (rename_i r; cases r <;> first | (cases h; done) | (rename_i r2; cases r2 <;> (cases h; done))))
      case Name x p =>
        have q := trCall_ok (p := p) (pos := pos) S hN hR (show trCall R rc C.sc x args = some ie by
          cases args <;> first | exact h | (rename_i r; cases r <;> first | exact h | (rename_i r2; cases r2 <;> exact h)))
        exact .of q (st_of q fun _ _ => rfl) rfl
      case Attribute o m apos =>
        match args, h with
        | [a], h =>
          simp only [stepE] at h
          split at h
          · rename_i j o' a' hj ho ha
            split at h
            · rename_i hc
              cases h
              have G := S C hN hR true _ _ ho
              have G' := S C hN hR true _ _ ha
              unfold isJoin at hj
              split at hj
              · cases hj
                subst_vars
                have q : SE C (.Call (.Attribute o "join" apos) [a] [] pos) (evE Φ (.join o' a')) := (se_join G.sb G'.sb G'.pl hc.1 hc.2).cg fun env => by (simp only [evE] <;> rfl)
                exact .of q (st_of q fun _ _ => rfl) rfl
              · split at hj
                · cases hj
                  subst_vars
                  have q : SE C (.Call (.Attribute o "split" apos) [a] [] pos) (evE Φ (.split o' a')) := ((sf_split G.sb G'.sb G'.pl hc.1 hc.2).se).cg fun env => by (simp only [evE] <;> rfl)
                  exact .of q (st_of q fun _ _ => rfl) rfl
                · cases hj
            · cases h
          · cases h
        | [a, b], h =>
          simp only [stepE] at h
          split at h
          · rename_i o' a' b' ho ha hb
            split at h
            · rename_i hc
              cases h
              obtain ⟨rfl, hc1, hc2⟩ := hc
              have G := S C hN hR true _ _ ho
              have G' := S C hN hR true _ _ ha
              have G2 := S C hN hR false _ _ hb
              have q : SE C (.Call (.Attribute o "get" apos) [a, b] [] pos) (evE Φ (.dget o' a' b')) := (se_dget G.sb G'.sb (G2.se rfl) G'.pl G2.pl hc1 hc2).cg fun env => by (simp only [evE] <;> rfl)
              exact .of q (st_of q fun _ _ => rfl) rfl
            · cases h
          · cases h
  case Attribute a n pos =>
    simp only [stepE] at h
    split at h
    · rename_i a' ha
      split at h
      · rename_i hc
        cases h
        have G := S C hN hR true _ _ ha
        cases w with
        | true =>
          have q : SB C (.Attribute a n pos) (evE Φ (.fld a' n)) := (sb_fld G.sb hc).cg fun env => by (simp only [evE] <;> rfl)
          exact ⟨q, (fun z => nomatch z), sb_st q (fun _ _ => rfl), rfl⟩
        | false =>
          have q : SE C (.Attribute a n pos) (evE Φ (.flds a' n)) := (se_flds G.sb hc).cg fun env => by (simp only [evE] <;> rfl)
          exact .of q (st_of q fun _ _ => rfl) rfl
      · cases h
    · cases h
theorem trE_ok (R : Rw) (N : List Str) (Φ : Nat → List D → Option D) : ∀ n : Nat, Snd R N Φ (trE R N n)
  | 0 => fun _ _ _ _ _ _ h => by cases h
  | n + 1 => step_ok (trE_ok R N Φ n)
end
end J

/-! The translation of statements, and its soundness. -/
namespace J
open PySem PySem.Spec PyProof.Rows L2
section
variable {C : Fam} {a b c e : Expr} {es : List Expr} {f g k : En → Option D} {pos : Pos}
/-- [..] * n, a new list -/
theorem sf_mul (ha : SB C a f) (hb : SB C b g) : SF C (.BinOp a .Mult b pos) (fun env => match f env with
    | some (.list xs) => match g env with
      | some (.int k) => opMul (.list xs) (.int k)
      | _ => none
    | _ => none) := by
  obtain ⟨ta, ha1, ha2⟩ := ha
  obtain ⟨tb, hb1, hb2⟩ := hb
  refine ⟨tOp rRep ta tb, fun X hX => pe_op op_rep (ha1 X hX) (hb1 X hX), fun O σ H env Q d r hf q => ?_⟩
  dsimp only at hf
  split at hf
  · rename_i xs hx
    split at hf
    · rename_i kk hk
      simp only [opMul] at hf
      split at hf
      · rename_i hl
        cases hf
        refine ha2 O σ H env _ _ r hx fun v H1 s1 hv => hb2 O σ H1 env _ _ (r.mono s1) hk fun w H2 s2 hw => ?_
        cases hw.int
        obtain ⟨p, vs, rfl, h1, h2⟩ := (hv.mono s2).list
        refine ⟨p, kk, vs, rfl, rfl, h1, by omega, by omega, ?_, fun l hl => ?_⟩
        · rw [h2.len]
          exact szl24 (Nat.le_trans (Nat.mul_le_mul hl.2.2 (show kk.toNat ≤ 1000 by omega)) (by decide))
        · exact q l _ _ _ ((s1.trans s2).trans (same_upd hl)) ((s1.trans s2).free hl) rfl upd_same (DrA.mono (mi_new hl (r.mono (s1.trans s2)).al) _ (h2.rep _))
      · cases hf
    · cases hf
  · cases hf
/-- [..] + [..], a new list -/
theorem sf_add (ha : SB C a f) (hb : SB C b g) : SF C (.BinOp a .Add b pos) (fun env => match f env with
    | some (.list xs) => match g env with
      | some (.list ys) => opAdd (.list xs) (.list ys)
      | _ => none
    | _ => none) := by
  obtain ⟨ta, ha1, ha2⟩ := ha
  obtain ⟨tb, hb1, hb2⟩ := hb
  refine ⟨tOp rCat ta tb, fun X hX => pe_op op_cat (ha1 X hX) (hb1 X hX), fun O σ H env Q d r hf q => ?_⟩
  dsimp only at hf
  split at hf
  · rename_i xs hx
    split at hf
    · rename_i ys hy
      simp only [opAdd] at hf
      split at hf
      · rename_i hl
        cases hf
        refine ha2 O σ H env _ _ r hx fun v H1 s1 hv => hb2 O σ H1 env _ _ (r.mono s1) hy fun w H2 s2 hw => ?_
        obtain ⟨p, vs, rfl, h1, h2⟩ := (hv.mono s2).list
        obtain ⟨p2, ws, rfl, h3, h4⟩ := hw.list
        refine ⟨p, p2, vs, ws, rfl, rfl, h1, h3, szl24 (by rw [h2.len, h4.len]; exact hl), fun l hl => ?_⟩
        exact q l _ _ _ ((s1.trans s2).trans (same_upd hl)) ((s1.trans s2).free hl) rfl upd_same (DrA.mono (mi_new hl (r.mono (s1.trans s2)).al) _ (h2.app h4))
      · cases hf
    · cases hf
  · cases hf
end
/-- a new list, for a slot that owns it -/
def stepF (R : Rw) (rc : Rec) (sc : Scope) : Expr → Option IE
  | .List es _ => (trA rc sc (es.map fun _ => false) es).map .lst
  | .BinOp a .Mult b _ => match rc sc true a, rc sc true b with
    | some a', some b' => some (.bin .Mult a' b')
    | _, _ => none
  | .BinOp a .Add b _ => match rc sc true a, rc sc true b with
    | some a', some b' => some (.bin .Add a' b')
    | _, _ => none
  | .Call (.Name x _) [e] [] _ => if x = "list" ∧ glB sc x = true ∧ x ∈ R.frs then match trR R rc sc e with
    | some (a, b) => some (.rgL a b)
    | none => none else none
  | .Call (.Attribute o m apos) [a] [] pos => match isJoin m, rc sc true o, rc sc true a with
    | some false, some o', some a' => if notCall o = true ∧ (apos.endLine == pos.line) = true then some (.split o' a') else none
    | _, _, _ => none
  | _ => none
theorem stepF_ok {R : Rw} {N : List Str} {Φ : Nat → List D → Option D} {rc : Rec} {C : Fam} (S : Snd R N Φ rc) (hN : C.N = N) (hR : R.ok Φ C) {e : Expr} {ie : IE} (h : stepF R rc C.sc e = some ie) :
    ∃ F : En → Option D, SF C e F ∧ notComp e = true ∧ ∀ env ds, evE Φ ie env = some (.list ds) → F env = some (.list ds) := by
  unfold stepF at h
  split at h
  · obtain ⟨as, ha, ea⟩ := Option.map_eq_some_iff.mp h
    subst ea
    obtain ⟨h1, h2⟩ := trA_ok S hN hR _ _ _ ha
    exact ⟨_, sf_lst h1 (all_false _), rfl, fun env ds hd => by simp only [evE] at hd; exact hd⟩
  · split at h
    · rename_i a' b' ha hb
      cases h
      have G := S C hN hR true _ _ ha
      have G' := S C hN hR true _ _ hb
      refine ⟨_, sf_mul G.sb G'.sb, rfl, fun env ds hd => ?_⟩
      simp only [evE] at hd
      split at hd
      · cases hd
      · rename_i x hx
        split at hd
        · cases hd
        · rename_i y hy
          rw [hx, hy]
          have hd' : opMul x y = some (.list ds) := hd
          cases x <;> cases y <;> first
            | exact hd'
            | (simp [opMul] at hd'; done)
            | (simp only [opMul] at hd'; split at hd' <;> cases hd')
    · cases h
  · split at h
    · rename_i a' b' ha hb
      cases h
      have G := S C hN hR true _ _ ha
      have G' := S C hN hR true _ _ hb
      refine ⟨_, sf_add G.sb G'.sb, rfl, fun env ds hd => ?_⟩
      simp only [evE] at hd
      split at hd
      · cases hd
      · rename_i x hx
        split at hd
        · cases hd
        · rename_i y hy
          rw [hx, hy]
          have hd' : opAdd x y = some (.list ds) := hd
          cases x <;> cases y <;> first
            | exact hd'
            | (simp [opAdd] at hd'; done)
            | (simp only [opAdd] at hd'; split at hd' <;> cases hd')
    · cases h
  · split at h
    · rename_i hx
      obtain ⟨rfl, hg, hf⟩ := hx
      split at h
      · rename_i a b hr
        cases h
        obtain ⟨r1, r2, _⟩ := trR_ok S hN hR hr
        exact ⟨_, sf_rgL r1 r2 (glB_ok hg).1 (hR.fr _ hf), rfl, fun env ds hd => by simp only [evE] at hd; exact hd⟩
      · cases h
    · cases h
  · split at h
    · rename_i o' a' hj ho ha
      split at h
      · rename_i hc
        cases h
        have G := S C hN hR true _ _ ho
        have G' := S C hN hR true _ _ ha
        unfold isJoin at hj
        split at hj
        · cases hj
        · split at hj
          · subst_vars
            exact ⟨_, sf_split G.sb G'.sb G'.pl hc.1 hc.2, rfl, fun env ds hd => by simp only [evE] at hd; exact hd⟩
          · cases hj
      · cases h
    · cases h
  · cases h
/-! ### which statements change a slot -/
def isN (x : Str) : Expr → Bool
  | .Name y _ => y == x
  | _ => false
def tgtN (x : Str) : Expr → Bool
  | .Name y _ => y == x
  | .Subscript (.Name y _) _ _ => y == x
  | _ => false
def mutS (x : Str) : Nat → Stmt → Bool
  | 0, _ => true
  | n + 1, s => match s with
    | .Assign ts _ _ => ts.any (tgtN x)
    | .Expr (.Call (.Attribute o _ _) _ _ _) _ => isN x o
    | .If _ a b _ => a.any (mutS x n) || b.any (mutS x n)
    | .For _ _ a _ _ => a.any (mutS x n)
    | .While _ a _ _ => a.any (mutS x n)
    | _ => false
def endsRet : List Stmt → Bool
  | [] => false
  | [.Return _ _] => true
  | _ :: r => endsRet r
def addShr : List Nat → IS → IS
  | [], b => b
  | i :: is, b => .seq (.shr i) (addShr is b)
def mutI (N : List Str) (i : Nat) (s : Stmt) : Bool := match N[i]? with
  | some x => mutS x 20 s
  | none => true
def trBlk (tr1 : Stmt → Option IS) (N : List Str) (ow : List Nat) (fin : Bool) : Option Stmt → List Stmt → Option IS
  | _, [] => some .skip
  | prev, s :: r => match tr1 s, trBlk tr1 N ow fin (some s) r with
    | some a, some b => some (addShr (if fin then ow.filter fun i => (match prev with | some p => mutI N i p | none => false) && !((s :: r).any (mutI N i)) else []) (.seq a b))
    | _, _ => none
def blk (tr1 : Stmt → Option IS) (N : List Str) (ow : List Nat) (sts : List Stmt) : Option IS := trBlk tr1 N ow (endsRet sts) none sts
/-- x, y = .. -/
def parN (N : List Str) (sc : Scope) : List Expr → Option (Nat × Nat)
  | [.Name x px, .Name y py] => match idx N x 0, idx N y 0 with
    | some i, some j => if i ≠ j ∧ sc.names.lookup x = some .local ∧ sc.names.lookup y = some .local ∧ (py.line == px.line) = true ∧ (x == y) = false then some (i, j) else none
    | _, _ => none
  | _ => none
/-- two names, not both plain locals -/
def cellN (sc : Scope) : List Expr → Bool
  | [.Name x _, .Name y _] => !(decide (sc.names.lookup x = some .local) && decide (sc.names.lookup y = some .local))
  | _ => false
def cInt : Expr → Bool
  | .Constant (.int _) _ _ => true
  | _ => false
def stepS (R : Rw) (N : List Str) (rc : Rec) (sc : Scope) (ow : List Nat) (tr1 : Stmt → Option IS) : Stmt → Option IS
  | .Assign [.Name x px] (.ListComp elt [⟨tg, iter, ifs, 0⟩] scope lpos) _ => match trN N sc true (.Name x px), trComp R N rc sc elt tg iter ifs scope with
    | some i, some e => if sc.names.lookup x = some .local ∧ (px.line == lpos.line) = true ∧ (scope.names.any fun (n, k) => n == x && (k == .local || k == .cell)) = false then some (if i ∈ ow then .setO i e else .set i e) else none
    | _, _ => none
  | .Assign [.Name x px] e _ => match trN N sc true (.Name x px) with
    | some i => if i ∈ ow then (stepF R rc sc e).map (.setO i) else if notComp e = true then (rc sc false e).map (.set i) else none
    | none => none
  | .Assign [.Tuple ts _ _] (.Tuple [a, b] _ _) _ => if (cInt a && cInt b) || cellN sc ts then match trNs N sc true ts, rc sc false a, rc sc false b with
      | some [i, j], some a', some b' => some (.unp [i, j] (.tup (.cons a' (.cons b' .nil))))
      | _, _, _ => none
    else if foldedForSure 8 a || foldedForSure 8 b || constantsAlone 8 a then none else match parN N sc ts, rc sc false a, rc sc false b with
      | some (i, j), some a', some b' => some (.par i j a' b')
      | _, _, _ => none
  | .Assign [.Tuple ts _ _] e _ => if notComp e = true ∧ notTuple e = true then match trNs N sc true ts, rc sc false e with
      | some (i :: j :: is), some e' => some (.unp (i :: j :: is) e')
      | _, _ => none else none
  | .Assign [.Subscript (.Name x _) b _] e _ => if visB sc x = true ∧ notComp e = true then match idx N x 0, rc sc true b, rc sc false e with
      | some i, some b', some e' => some (.sti i b' e')
      | _, _, _ => none else none
  | .Expr (.Call (.Attribute (.Name x _) m apos) [e] [] cpos) _ => if m = "append" ∧ visB sc x = true ∧ (apos.endLine == cpos.line) = true then match idx N x 0, rc sc false e with
      | some i, some e' => some (.app i e')
      | _, _ => none else none
  | .If c a b _ => match rc sc true c, blk tr1 N ow a, blk tr1 N ow b with
    | some c', some a', some b' => some (.ifs c' a' b')
    | _, _, _ => none
  | .For tg iter a [] _ => match trT N sc true tg, trI R rc sc tg iter, blk tr1 N ow a with
    | some t, some i, some a' => some (.for_ t i a')
    | _, _, _ => none
  | .While c a [] _ => match rc sc true c, blk tr1 N ow a with
    | some c', some a' => some (.whl c' a')
    | _, _ => none
  | .Return (some (.Name x _)) _ => if visB sc x = true then (idx N x 0).map fun i => .ret (.var i) else none
  | .Return (some e) _ => match rc sc false e with
    | some (.var _) => none
    | some e' => some (.ret e')
    | none => none
  | .Raise _ _ _ => some .nev
  | _ => none
def trS (R : Rw) (N : List Str) (rc : Rec) (sc : Scope) (ow : List Nat) : Nat → Stmt → Option IS
  | 0 => fun _ => none
  | n + 1 => stepS R N rc sc ow (trS R N rc sc ow n)
/-! ### soundness -/
def SndS (C : Fam) (Φ : Nat → List D → Option D) (tr1 : Stmt → Option IS) : Prop := ∀ st is, tr1 st = some is → S1 C st (evS Φ is)
section
variable {R : Rw} {N : List Str} {Φ : Nat → List D → Option D} {rc : Rec} {C : Fam} {tr1 : Stmt → Option IS} {ow : List Nat}
theorem addShr_ok {sts : List Stmt} : ∀ (is : List Nat) (b : IS), SS C sts (evS Φ b) → SS C sts (evS Φ (addShr is b))
  | [], b, h => h
  | i :: is, b, h => (ss_shr (i := i) (addShr_ok is b h)).cg fun env => by
    show evS Φ (.seq (.shr i) (addShr is b)) env = _
    simp only [evS] <;> rfl
theorem trBlk_ok (T : SndS C Φ tr1) {fin : Bool} : ∀ (sts : List Stmt) (prev : Option Stmt) (is : IS), trBlk tr1 N ow fin prev sts = some is → SS C sts (evS Φ is)
  | [], prev, is, h => by
    have : is = .skip := by cases prev <;> (simp only [trBlk] at h; cases h; rfl)
    subst this
    exact ss_nil.cg fun env => by (simp only [evS] <;> rfl)
  | s :: r, prev, is, h => by
    simp only [trBlk] at h
    split at h
    · rename_i a b ha hb
      cases h
      refine addShr_ok _ _ ?_
      exact (ss_cons (T s a ha) (trBlk_ok T r (some s) b hb)).cg fun env => by (simp only [evS] <;> rfl)
    · cases h
theorem blk_ok (T : SndS C Φ tr1) {sts : List Stmt} {is : IS} (h : blk tr1 N ow sts = some is) : SS C sts (evS Φ is) := trBlk_ok T sts none is h
theorem sws_int {a b : Expr} {ts : List Expr} {kk k2 : Nat} {tp p2 : Pos} {env : Env} (ha : cInt a = true) (hb : cInt b = true) : swappedStores [.Tuple ts kk tp] (.Tuple [a, b] k2 p2) env = pure none := by
  have fa : foldedForSure 8 a = true := by
    cases a <;> first | (simp [cInt] at ha; done) | skip
    rename_i c _ _
    cases c <;> first | rfl | (simp [cInt] at ha; done)
  have fb : foldedForSure 8 b = true := by
    cases b <;> first | (simp [cInt] at hb; done) | skip
    rename_i c _ _
    cases c <;> first | rfl | (simp [cInt] at hb; done)
  have fab : [a, b].all (foldedForSure 8) = true := by rw [List.all_cons, List.all_cons, fa, fb]; rfl
  unfold swappedStores
  simp only [fab, if_true]
  split <;> first | rfl | skip
  split <;> first | rfl | skip
  split <;> rfl
theorem sws_cell {a b : Expr} {ts : List Expr} {kk k2 : Nat} {tp p2 : Pos} {env : Env} (h : cellN env.scope ts = true) : swappedStores [.Tuple ts kk tp] (.Tuple [a, b] k2 p2) env = pure none := by
  unfold cellN at h
  split at h
  · rename_i x px y py
    have hn : ([Expr.Name x px, .Name y py].filterMap fun
      | .Name id pos => if env.kindOf id == some .local && pos.line == px.line then some id else none
      | _ => none).length ≠ 2 := by
      have kx : env.kindOf x = env.scope.names.lookup x := rfl
      have ky : env.kindOf y = env.scope.names.lookup y := rfl
      simp only [List.filterMap_cons, List.filterMap_nil, kx, ky]
      by_cases h1 : env.scope.names.lookup x = some .local
      · have h2 : ¬ env.scope.names.lookup y = some .local := fun z => by simp [h1, z] at h
        have h2' : (env.scope.names.lookup y == some .local) = false := beq_eq_false_iff_ne.mpr h2
        rw [h2']
        split <;> simp
      · have h1' : (env.scope.names.lookup x == some .local) = false := beq_eq_false_iff_ne.mpr h1
        rw [h1']
        simp only [Bool.false_and, Bool.false_eq_true, if_false]
        split <;> simp
    unfold swappedStores
    simp only []
    split
    · rfl
    split
    · rfl
    split
    · rfl
    · rename_i q
      exfalso
      apply q
      have : ((([Expr.Name x px, .Name y py].filterMap fun
        | .Name id pos => if env.kindOf id == some .local && pos.line == px.line then some id else none
        | _ => none).length != 2) = true) := by simpa using hn
      rw [Bool.or_eq_true]
      exact .inl this
  · cases h
theorem sws_par {a b : Expr} {x y : Str} {px py : Pos} {kk k2 : Nat} {tp p2 : Pos} {env : Env} (hk : env.scope.kind = .function) (hx : env.scope.names.lookup x = some .local) (hy : env.scope.names.lookup y = some .local) (hl : (py.line == px.line) = true) (hxy : (x == y) = false)
    (ha : plainX a = true) (hb : plainX b = true) (fa : foldedForSure 8 a = false) (ca : constantsAlone 8 a = false) : swappedStores [.Tuple [.Name x px, .Name y py] kk tp] (.Tuple [a, b] k2 p2) env = pure (some [x, y]) := by
  have kx : env.kindOf x = some .local := hx
  have ky : env.kindOf y = some .local := hy
  have hbk : env.blockKind = .function := by unfold Env.blockKind; rw [hk]; rfl
  have st : ∀ z : Expr, plainX z = true → (match z with | .Starred .. => true | _ => false) = false := fun z hz => by cases z <;> first | rfl | (simp [plainX] at hz)
  unfold swappedStores
  have hne : ¬ x = y := fun e => by rw [e] at hxy; simp at hxy
  have hed : [x, y].eraseDups = [x, y] := by
    rw [List.eraseDups_cons]
    have : ([y].filter fun z => !z == x) = [y] := by
      have : (y == x) = false := beq_eq_false_iff_ne.mpr fun e => hne e.symm
      simp [this]
    rw [this]
    rfl
  have fab : [a, b].all (foldedForSure 8) = false := by rw [List.all_cons, fa]; rfl
  have cab : [a, b].all (constantsAlone 8) = false := by rw [List.all_cons, ca]; rfl
  have sab : ([a, b].any fun | .Starred .. => true | _ => false) = false := List.any_eq_false.mpr fun z hz => by
    have : plainX z = true := by
      rcases List.mem_cons.mp hz with rfl | hz
      · exact ha
      · rw [List.mem_singleton.mp hz]; exact hb
    rw [st z this]
    decide
  have hlx : (px.line == px.line) = true := beq_self_eq_true _
  simp only [hbk, fab, cab, kx, ky, hl, Expr.pos, List.filterMap_cons, List.filterMap_nil, List.head?_cons, Option.map_some, Option.getD_some, hlx, hed]
  simp [sab, hed]
  rintro (h | h)
  · exact absurd (h.symm.trans (st a ha)) (by decide)
  · exact absurd (h.symm.trans (st b hb)) (by decide)
theorem evR_any {e : IE} (h : ∀ i, e ≠ .var i) (env : En) : evR Φ e env = evE Φ e env := by
  cases e <;> first
    | exact absurd rfl (h _)
    | rfl
theorem parN_ok {ts : List Expr} {i j : Nat} (h : parN N C.sc ts = some (i, j)) : ∃ x y px py, ts = [.Name x px, .Name y py] ∧ N[i]? = some x ∧ N[j]? = some y ∧ i ≠ j ∧ C.sc.names.lookup x = some .local ∧ C.sc.names.lookup y = some .local ∧ (py.line == px.line) = true ∧ (x == y) = false := by
  unfold parN at h
  split at h
  · split at h
    · rename_i i' j' hi hj
      split at h
      · rename_i hc
        cases h
        exact ⟨_, _, _, _, rfl, idx_get hi, idx_get hj, hc.1, hc.2.1, hc.2.2.1, hc.2.2.2.1, hc.2.2.2.2⟩
      · cases h
    · cases h
  · cases h
set_option maxHeartbeats 8000000 in
theorem stepS_ok (S : Snd R N Φ rc) (hN : C.N = N) (hR : R.ok Φ C) (hk : C.sc.kind = .function) (htop : C.top = true) (T : SndS C Φ tr1) : SndS C Φ (stepS R N rc C.sc ow tr1) := by
  intro st is h
  unfold stepS at h
  split at h
  · rename_i x px elt tg iter ifs scope lpos pos
    split at h
    · rename_i i e hi hc
      split at h
      · rename_i hcond
        cases h
        obtain ⟨el, tgl, src, cond, vs, rfl, h1, h2, h3, h4, h5, h6, h7⟩ := trComp_parts S hN hR hc
        subst hN
        have hidx : C.N[i]? = some x := by
          have := hi
          unfold trN at this
          simp only [hcond.1] at this
          exact idx_get this
        have q : SGf C (.Assign [.Name x px] (.ListComp elt [⟨tg, iter, ifs, 0⟩] scope lpos) pos) i (evE Φ (.comp el tgl src cond vs)) :=
          (sgf_comp hR.nd hidx hcond.1 hk hcond.2.1 hcond.2.2 h1 h2 h3 h4 h5 h6 h7).cg fun env => comp_eq env
        split
        · exact (s1_setO q).cg fun env => by (simp only [evS] <;> rfl)
        · exact (s1_set q.v).cg fun env => by (simp only [evS] <;> rfl)
      · cases h
    · cases h
  · rename_i x px e pos hne
    split at h
    · rename_i i hi
      subst hN
      have tn : TgN C (.Name x px) i := trN_ok (by rw [htop]; exact hi)
      split at h
      · obtain ⟨e', he, ee⟩ := Option.map_eq_some_iff.mp h
        subst ee
        obtain ⟨F, q1, q2, q3⟩ := stepF_ok S rfl hR he
        obtain ⟨t, p1, p2⟩ := s1_setO (sgf (pos := pos) hR.nd tn q1 q2)
        refine ⟨t, p1, fun O0 H0 G σ H env Dn fl r hf q => p2 O0 H0 G σ H env Dn fl r ?_ q⟩
        simp only [evS] at hf
        split at hf
        · rename_i ds hd
          dsimp only
          rw [q3 env ds hd]
          exact hf
        · cases hf
      · split at h
        · rename_i hn
          obtain ⟨e', he, ee⟩ := Option.map_eq_some_iff.mp h
          subst ee
          have G := S C rfl hR false _ _ he
          exact (s1_set (sgv (pos := pos) hR.nd tn (G.se rfl) hn)).cg fun env => by (simp only [evS] <;> rfl)
        · cases h
    · cases h
  · rename_i ts kk tp a b k2 p2 pos
    split at h
    · rename_i hc
      split at h
      · rename_i i j a' b' h1 h2 h3
        cases h
        subst hN
        have G := S C rfl hR false _ _ h2
        have G' := S C rfl hR false _ _ h3
        have tn : TgNs C ts [i, j] := trNs_ok (by rw [htop]; exact h1)
        have q : SE C (.Tuple [a, b] k2 p2) (evE Φ (.tup (.cons a' (.cons b' .nil)))) := (se_tup (bs := [false, false]) (sa_cons (G.se rfl) (sa_cons (G'.se rfl) (sa_nil (bs := [])) G'.pl) G.pl) rfl).cg fun env => by (simp only [evE, evA] <;> rfl)
        refine (s1_unp (pos := pos) hR.nd tn q rfl fun X hX => ?_).cg fun env => by (simp only [evS] <;> rfl)
        rw [Bool.or_eq_true] at hc
        rcases hc with hc | hc
        · rw [Bool.and_eq_true] at hc
          exact sws_int hc.1 hc.2
        · exact sws_cell (by rw [hX.hsc]; exact hc)
      · cases h
    · split at h
      · cases h
      · rename_i hfold
        split at h
        · rename_i i j a' b' h1 h2 h3
          cases h
          subst hN
          have G := S C rfl hR false _ _ h2
          have G' := S C rfl hR false _ _ h3
          obtain ⟨x, y, px, py, rfl, p1, p2, p3, p4, p5, p6, p7⟩ := parN_ok h1
          simp only [Bool.or_eq_true, not_or, Bool.not_eq_true] at hfold
          exact (s1_par (pos := pos) hR.nd p1 p2 p3 p4 p5 (G.se rfl) (G'.se rfl) G.pl G'.pl fun X hX => sws_par (by rw [hX.hsc]; exact hk) (by rw [hX.hsc]; exact p4) (by rw [hX.hsc]; exact p5) p6 p7 G.pl G'.pl hfold.1.1 hfold.2).cg fun env => by (simp only [evS] <;> rfl)
        · cases h
  · rename_i ts kk tp e pos hne
    split at h
    · rename_i hc
      split at h
      · rename_i i j is e' h1 h2
        cases h
        subst hN
        have G := S C rfl hR false _ _ h2
        have tn : TgNs C ts (i :: j :: is) := trNs_ok (by rw [htop]; exact h1)
        exact (s1_unp (pos := pos) hR.nd tn (G.se rfl) hc.1 fun X hX => sws_no hc.2).cg fun env => by (simp only [evS] <;> rfl)
      · cases h
    · cases h
  · rename_i x xp b sp e pos
    split at h
    · rename_i hc
      split at h
      · rename_i i b' e' h1 h2 h3
        cases h
        subst hN
        have G := S C rfl hR true _ _ h2
        have G' := S C rfl hR false _ _ h3
        have v := visB_ok hc.1
        exact (s1_sti (pos := pos) (idx_get h1) v.1 v.2.1 v.2.2 (G'.se rfl) G.sb G.pl hc.2).cg fun env => by (simp only [evS] <;> rfl)
      · cases h
    · cases h
  · rename_i x xp m apos e cpos pos
    split at h
    · rename_i hc
      obtain ⟨rfl, hc2, hc3⟩ := hc
      split at h
      · rename_i i e' h1 h2
        cases h
        subst hN
        have G := S C rfl hR false _ _ h2
        have v := visB_ok hc2
        exact (s1_app (pos := pos) (idx_get h1) v.1 v.2.1 v.2.2 (G.se rfl) G.pl hc3).cg fun env => by (simp only [evS] <;> rfl)
      · cases h
    · cases h
  · rename_i c a b pos
    split at h
    · rename_i c' a' b' h1 h2 h3
      cases h
      have G := S C hN hR true _ _ h1
      exact (s1_if (pos := pos) G.st (blk_ok T h2) (blk_ok T h3)).cg fun env => by (simp only [evS] <;> rfl)
    · cases h
  · rename_i tg iter a pos
    split at h
    · rename_i t i a' h1 h2 h3
      cases h
      subst hN
      obtain ⟨q1, q2⟩ := trI_ok S rfl hR h2
      exact (s1_for (pos := pos) hR.nd q1 q2 (trT_ok (by rw [htop]; exact h1)) (blk_ok T h3)).cg fun env => by (simp only [evS] <;> rfl)
    · cases h
  · rename_i c a pos
    split at h
    · rename_i c' a' h1 h2
      cases h
      have G := S C hN hR true _ _ h1
      exact (s1_while (pos := pos) (n := fuelW) G.st (blk_ok T h2)).cg fun env => by (simp only [evS] <;> rfl)
    · cases h
  · rename_i x xp pos
    split at h
    · rename_i hc
      obtain ⟨i, hi, ei⟩ := Option.map_eq_some_iff.mp h
      subst ei
      subst hN
      have v := visB_ok hc
      exact (s1_retv (pos := pos) (idx_get hi) v.1 v.2.1 v.2.2).cg fun env => by (simp only [evS, evR] <;> rfl)
    · cases h
  · rename_i e pos hne
    split at h
    · cases h
    · rename_i e' hnv he
      cases h
      have G := S C hN hR false _ _ he
      refine (s1_ret (pos := pos) (G.se rfl)).cg fun env => ?_
      simp only [evS]
      rw [evR_any (fun i z => hnv i (by rw [z])) env]
    · cases h
  · cases h
    exact s1_nev.cg fun env => by (simp only [evS] <;> rfl)
  · cases h
theorem trS_ok (S : Snd R N Φ rc) (hN : C.N = N) (hR : R.ok Φ C) (hk : C.sc.kind = .function) (htop : C.top = true) : ∀ n : Nat, SndS C Φ (trS R N rc C.sc ow n)
  | 0 => fun _ _ h => by cases h
  | n + 1 => stepS_ok S hN hR hk htop (trS_ok S hN hR hk htop n)
end
end J

/-! A def keeps its promise; all defs of a row, by fuel; the law. -/
namespace J
open PySem PySem.Spec PyProof.Rows L2
theorem start_val {K : PySem.W.Frag} {O : List Addr} {H : Hp} : ∀ {bs : List Bool} {vs : List V} {ds : List D} {i : Nat} {d : D}, ArgR K O H bs vs ds → (start0 bs ds)[i]? = some (Sl.val d) → ∃ v, vs[i]? = some v ∧ Dr K (mi H O) v d
  | [], vs, ds, i, d, _, h => by simp [start0] at h
  | b :: bs, vs, [], i, d, _, h => by simp [start0] at h
  | b :: bs, [], e :: ds, i, d, ha, h => by cases b <;> simp [ArgR] at ha
  | true :: bs, v :: vs, e :: ds, 0, d, ha, h => by simp [start0] at h
  | false :: bs, v :: vs, e :: ds, 0, d, ha, h => by
    simp [start0] at h
    subst h
    exact ⟨v, rfl, ha.1⟩
  | b :: bs, v :: vs, e :: ds, i + 1, d, ha, h => by
    have ha2 : ArgR K O H bs vs ds := by cases b <;> exact ha.2
    exact (start_val (i := i) ha2 (by simpa [start0] using h)).imp fun u hu => ⟨by simpa using hu.1, hu.2⟩
theorem start_bor {K : PySem.W.Frag} {O : List Addr} {H : Hp} : ∀ {bs : List Bool} {vs : List V} {ds : List D} {i : Nat} {d : D}, ArgR K O H bs vs ds → (start0 bs ds)[i]? = some (Sl.bor d) → ∃ v, vs[i]? = some v ∧ Tp K O H v d
  | [], vs, ds, i, d, _, h => by simp [start0] at h
  | b :: bs, vs, [], i, d, _, h => by simp [start0] at h
  | b :: bs, [], e :: ds, i, d, ha, h => by cases b <;> simp [ArgR] at ha
  | true :: bs, v :: vs, e :: ds, 0, d, ha, h => by
    simp [start0] at h
    subst h
    exact ⟨v, rfl, ha.1⟩
  | false :: bs, v :: vs, e :: ds, 0, d, ha, h => by simp [start0] at h
  | b :: bs, v :: vs, e :: ds, i + 1, d, ha, h => by
    have ha2 : ArgR K O H bs vs ds := by cases b <;> exact ha.2
    exact (start_bor (i := i) ha2 (by simpa [start0] using h)).imp fun u hu => ⟨by simpa using hu.1, hu.2⟩
theorem start_own : ∀ {bs : List Bool} {ds : List D} {i : Nat} {es : List D}, (start0 bs ds)[i]? ≠ some (Sl.own es)
  | [], ds, i, es, h => by simp [start0] at h
  | b :: bs, [], i, es, h => by simp [start0] at h
  | b :: bs, e :: ds, 0, es, h => by cases b <;> simp [start0] at h
  | b :: bs, e :: ds, i + 1, es, h => start_own (bs := bs) (ds := ds) (i := i) (by simpa [start0] using h)
theorem start0_len : ∀ (bs : List Bool) (ds : List D), ds.length = bs.length → (start0 bs ds).length = ds.length
  | [], [], _ => rfl
  | [], _ :: _, h => by simp at h
  | _ :: _, [], h => by simp at h
  | b :: bs, d :: ds, h => by simp only [start0, List.length_cons] at h ⊢; rw [start0_len bs ds (by omega)]
theorem app_no {l : En} {n i : Nat} {s : Sl} (h : (l ++ List.replicate n Sl.no)[i]? = some s) : s = .no ∨ l[i]? = some s := by
  by_cases hi : i < l.length
  · rw [List.getElem?_append_left hi] at h
    exact .inr h
  · rw [List.getElem?_append_right (by omega)] at h
    have := List.mem_of_getElem? h
    exact .inl (List.eq_of_mem_replicate this)
theorem fn_ok {P : Program} {w : World} {K : PySem.W.Frag} {mg : Str → Option Value} {base : Heap} {x y : Str} {params : Arguments} {body : List Stmt} {scope : Scope} {f : Addr} {fd : FuncData} {N ps : List Str} {n : Nat}
    {R : Rw} {Φ : Nat → List D → Option D} {F : Fd} {ow : List Nat} {m : Nat} (hF : FunD K x y params body scope [] [] f fd) (S : FnScope N ps scope) (hR : R.ok Φ ⟨P, w, K, mg, base, N, scope, n, true⟩)
    (htr : blk (trS R N (trE R N m) scope ow m) N ow body = some F.body) (hsl : F.slots = N.length) (hbs : F.bs.length = ps.length) : FnOk P w K mg base CX0 (n + 1) f fd ps (spF K F.bs (evF Φ F)) := by
  have hlen : ∀ vs H (Q : VK) (E : XK), spF K F.bs (evF Φ F) vs H Q E → vs.length = ps.length := fun vs H Q E h => by
    obtain ⟨O, ds, d, _, ha, hf, _⟩ := h
    rw [ha.len]
    unfold evF at hf
    split at hf
    · rename_i hl; rw [hl, hbs]
    · cases hf
  refine hF.ok S hlen (fun cdv A outer s H vs Q E hr h => ?_)
  let C : Fam := ⟨P, w, K, mg, base, N, scope, n, true⟩
  have T := trS_ok (ow := ow) (C := C) (trE_ok R N Φ m) rfl hR S.kind rfl m
  obtain ⟨t, h1, h2⟩ := blk_ok T htr
  have hl := hlen vs H Q E h
  obtain ⟨O, ds, d, al, ha, hf, q⟩ := h
  refine ⟨t, PSs.nox (h1 _ ⟨rfl, rfl, rfl, rfl, rfl, rfl, rfl, rfl, hr, rfl, fun _ _ => rfl⟩), ?_⟩
  unfold evF at hf
  split at hf
  · rename_i hdl
    have hpl : ps.length ≤ N.length := by have := congrArg List.length S.pre; rw [List.length_take] at this; omega
    have e0 := start0_len F.bs ds hdl
    have hst : ∀ i v, vs[i]? = some v → (L2.start N vs)[i]? = some (some v) := fun i v hv => by
      have hi : i < vs.length := (List.getElem?_eq_some_iff.mp hv).1
      unfold L2.start
      rw [List.getElem?_append_left (by rw [List.length_map]; exact hi), List.getElem?_map, hv]
      rfl
    have rf : RF K O H [] (L2.start N vs) H (start0 F.bs ds ++ List.replicate (F.slots - ds.length) Sl.no) := by
      refine ⟨O, fun _ => 0, ?_, al, fun i d hd => ?_, fun i es hd => ?_, fun i d hd => ?_, fun i j es es' hd => ?_, (fun g hg => by cases hg), Same.refl H, (fun a ha => ha), (fun a ha => .inl ha)⟩
      · unfold L2.start
        rw [List.length_append, List.length_append, List.length_map, List.length_replicate, List.length_replicate, e0, hsl, ← ha.len]
      · rcases app_no hd with z | z
        · cases z
        · obtain ⟨v, hv, hdr⟩ := start_val ha z
          exact ⟨v, hst i v hv, hdr⟩
      · rcases app_no hd with z | z
        · cases z
        · exact absurd z start_own
      · rcases app_no hd with z | z
        · cases z
        · obtain ⟨v, hv, hdr⟩ := start_bor ha z
          exact ⟨v, hst i v hv, hdr⟩
      · rcases app_no hd with z | z
        · cases z
        · exact absurd z start_own
    split at hf
    · rename_i d' he
      cases hf
      exact h2 O H [] _ H _ _ _ rf he fun v H' s hv => q v H' s hv
    · rename_i env' he
      cases hf
      refine h2 O H [] _ H _ _ _ rf he fun σ' H' r' => ?_
      obtain ⟨O', oa', r'⟩ := r'
      exact q _ H' r'.ext .non
    · cases hf
  · cases hf

/-! ### all defs of a row -/
/-- one turn of the fuel: the tables of the little language, or one's own functions -/
def stepP (tab : Nat → Option Fd) (ext : Nat → (Nat → List D → Option D) → List D → Option D) (Φ : Nat → List D → Option D) (k : Nat) : List D → Option D := match tab k with
  | some F => evF Φ F
  | none => ext k Φ
def Phi (tab : Nat → Option Fd) (ext : Nat → (Nat → List D → Option D) → List D → Option D) : Nat → Nat → List D → Option D
  | 0 => fun _ _ => none
  | n + 1 => stepP tab ext (Phi tab ext n)
/-- what stands behind the head of one def -/
structure DefOk (P : Program) (w : World) (K : PySem.W.Frag) (mg : Str → Option Value) (base : Heap) (R : Rw) (tab : Nat → Option Fd) (ext : Nat → (Nat → List D → Option D) → List D → Option D) (p : Str × Nat × List Bool) : Prop where
  ex : ∃ f fd ps, mg p.1 = some (.ref f) ∧ PySem.W.keepIn K (.ref f) = true ∧ Binds K fd ps [] ∧
    ∀ n Φ, (∀ N sc, N.Nodup → R.ok Φ ⟨P, w, K, mg, base, N, sc, n, true⟩) → FnOk P w K mg base CX0 (n + 1) f fd ps (spF K p.2.2 (stepP tab ext Φ p.2.1))
theorem def_ok {P : Program} {w : World} {K : PySem.W.Frag} {mg : Str → Option Value} {base : Heap} {R : Rw} {tab : Nat → Option Fd} {ext : Nat → (Nat → List D → Option D) → List D → Option D} {x : Str} {k : Nat} {params : Arguments} {body : List Stmt} {scope : Scope} {f : Addr} {fd : FuncData} {N ps : List Str}
    {F : Fd} {ow : List Nat} {m : Nat} (hF : FunD K x x params body scope [] [] f fd) (hm : mg x = some (.ref f)) (hb : Binds K fd ps []) (S : FnScope N ps scope) (hk : tab k = some F) (htr : blk (trS R N (trE R N m) scope ow m) N ow body = some F.body) (hsl : F.slots = N.length) (hbs : F.bs.length = ps.length) :
    DefOk P w K mg base R tab ext (x, k, F.bs) := by
  refine ⟨f, fd, ps, hm, hF.kp, hb, fun n Φ hR => ?_⟩
  have : stepP tab ext Φ k = evF Φ F := by unfold stepP; rw [hk]
  show FnOk P w K mg base CX0 (n + 1) f fd ps (spF K F.bs (stepP tab ext Φ k))
  rw [this]
  exact fn_ok hF S (hR N scope S.nd) htr hsl hbs
/-- the script as data -/
def scr (ns : List Int) : D := .dict (ns.map fun n => (.int n, .none))
theorem law_sp {K : PySem.W.Frag} {F : List D → Option D} {H : Hp} {a : Addr} {ns : List Int} (hF : F [scr ns] = some (.bool true)) (hS : SqL K H a (ns.map V.int)) (ht : TabOk K H) : spF K [false] F [.ref a] H (fun v _ => v = .bl true) fun _ _ _ => False := by
  refine ⟨[], [scr ns], .bool true, ⟨(fun a ha => by cases ha), ht⟩, ?_, hF, (fun v H' s hv => by cases hv; rfl)⟩
  refine ⟨?_, by unfold ArgR; trivial⟩
  refine .scr ?_
  have hm : ∀ {b : Addr} {u : HO}, H b = some u → tbO u = false → mi H [] b = some u := fun h1 h2 => mi_some.mpr ⟨by simp, h1, h2⟩
  rcases hS with (h | ⟨o, h⟩) | h
  · exact .inl (.inl (hm h rfl))
  · exact .inl (.inr ⟨o, hm h rfl⟩)
  · exact .inr h
end J
namespace J
open PySem PySem.Spec PyProof.Rows L2
theorem def_level {P : Program} {w : World} {K : PySem.W.Frag} {mg : Str → Option Value} {base : Heap} {R : Rw} {tab : Nat → Option Fd} {ext : Nat → (Nat → List D → Option D) → List D → Option D} {x : Str} {k level : Nat} {params : Arguments} {body : List Stmt} {scope : Scope} {f : Addr} {fd : FuncData} {N ps : List Str}
    {F : Fd} {ow : List Nat} {m : Nat} (hF : FunD K x x params body scope [] [] f fd) (hm : mg x = some (.ref f)) (hb : Binds K fd ps []) (S : FnScope N ps scope) (hk : tab k = some F) (htr : blk (trS R N (trE R N m) scope ow m) N ow body = some F.body) (hsl : F.slots = N.length) (hbs : F.bs.length = ps.length)
    (hR : ∀ N sc, N.Nodup → R.ok (Phi tab ext level) ⟨P, w, K, mg, base, N, sc, level, true⟩) : FnOk P w K mg base CX0 (level + 1) f fd ps (spF K F.bs (Phi tab ext (level + 1) k)) := by
  have : Phi tab ext (level + 1) k = evF (Phi tab ext level) F := by
    show stepP tab ext (Phi tab ext level) k = _
    unfold stepP
    rw [hk]
  rw [this]
  exact fn_ok hF S (hR N scope S.nd) htr hsl hbs
end J

/-! A def with a dict, by hand: the ends that a law draws. -/
namespace J
open PySem PySem.Spec PyProof.Rows L2
def ieA : IE := .bin .Mod (.bv 0) (.ix (.bv 1) (.ci 0))
def ieB : IE := .bin .Mod (.bin .FloorDiv (.bv 0) (.ci 7)) (.bv 2)
def ieC (kd : Nat) : IE := .bin .Mod (.bin .FloorDiv (.call kd (.cons (.var 0) (.cons (.var 4) .nil))) (.ci 4)) (.ix (.bv 1) (.ci 0))
def drawsF (kd : Nat) (Φ : Nat → List D → Option D) (a w m : D) : List D → Option (List Int)
  | [] => some []
  | r :: rs => match evE Φ (ieC kd) [.val a, .val w, .val m, .no, .val r] with
    | some (.int x) => (drawsF kd Φ a w m rs).map (x :: ·)
    | _ => none
def endsF (kd : Nat) (Φ : Nat → List D → Option D) : List D → Option D
  | [a, w, m] => match evE Φ ieA [.val a, .val w, .val m, .no, .no] with
    | some (.int x) => match evI Φ (.rg (.ci 0) ieB) [.val a, .val w, .val m, .no, .no] with
      | some rs => if rs.length ≤ 50 then (drawsF kd Φ a w m rs).map fun xs => .tuple ((sortI (undupI (x :: xs))).map .int) else none
      | none => none
    | _ => none
  | _ => none
section
variable {K : PySem.W.Frag} {O : List Addr} {σ : L2.St} {H H' : Hp} {env : En} {p : Addr} {o : HO}
end
end J

/-! Defs that raise; a def that catches it. -/
namespace J
open PySem PySem.Spec PyProof.Rows L2
theorem ps_nox {X : Cx} {st : Stmt} {t : TS} (h : PS X.nox st t) : PS X st t := ⟨fun pins s σ H D I hw =>
  wpAny_mono (h.run pins s σ H D (I.wish _) hw) (fun _ _ q => q.unwish) fun _ _ z => False.elim z⟩
theorem pa_nox {X : Cx} {es : List Expr} {t : TA} (h : PA X.nox es t) : PA X es t := ⟨fun p pins s σ H Q I hw =>
  wpAny_mono (h.run p pins s σ H Q (I.wish _) hw) (fun _ _ ⟨v, H', I', r, q⟩ => ⟨v, H', I'.unwish, r, q⟩) fun _ _ z => False.elim z⟩
/-- what a def promises that raises: of the class at cn, where F says so -/
def spX (K : PySem.W.Frag) (bs : List Bool) (cn : Addr) (F : List D → Option D) : Sp := fun vs H _ E => ∃ O ds, Al K O H ∧ ArgR K O H bs vs ds ∧ F ds = some (.bool true) ∧ ∀ H', Same H H' → E (.ref cn) none H'
/-- a class of the program over ValueError -/
structure ExF (K : PySem.W.Frag) (mg : Str → Option Value) (x : Str) (cn : Addr) : Prop where
  g : mg x = some (.ref cn)
  n : PySem.W.excIn K cn He.veBase "ValueError.__new__" = true
  k : PySem.W.keepIn K (.ref cn) = true
  b : PySem.W.subIn K (.ref cn) (.type "BaseException") = some true
  t : PySem.W.typeIn K (.ref cn) = some (.type "type")
def notVar : IE → Bool
  | .var _ => false
  | _ => true
theorem evR_e {Φ : Nat → List D → Option D} {e : IE} {env : En} (h : notVar e = true) : evR Φ e env = evE Φ e env := by
  cases e <;> first | rfl | (simp [notVar] at h)
theorem start_rf {K : PySem.W.Frag} {O : List Addr} {H : Hp} {bs : List Bool} {vs : List V} {ds : List D} {N : List Str} {slots : Nat} (al : Al K O H) (ha : ArgR K O H bs vs ds) (hdl : ds.length = bs.length) (hsl : slots = N.length) : RF K O H [] (L2.start N vs) H (start0 bs ds ++ List.replicate (slots - ds.length) Sl.no) := by
  have e0 := start0_len bs ds hdl
  have hst : ∀ i v, vs[i]? = some v → (L2.start N vs)[i]? = some (some v) := fun i v hv => by
    have hi : i < vs.length := (List.getElem?_eq_some_iff.mp hv).1
    unfold L2.start
    rw [List.getElem?_append_left (by rw [List.length_map]; exact hi), List.getElem?_map, hv]
    rfl
  refine ⟨O, fun _ => 0, ?_, al, fun i d hd => ?_, fun i es hd => ?_, fun i d hd => ?_, fun i j es es' hd => ?_, (fun g hg => by cases hg), Same.refl H, (fun a ha => ha), (fun a ha => .inl ha)⟩
  · unfold L2.start
    rw [List.length_append, List.length_append, List.length_map, List.length_replicate, List.length_replicate, e0, hsl, ← ha.len]
  · rcases app_no hd with z | z
    · cases z
    · obtain ⟨v, hv, hdr⟩ := start_val ha z
      exact ⟨v, hst i v hv, hdr⟩
  · rcases app_no hd with z | z
    · cases z
    · exact absurd z start_own
  · rcases app_no hd with z | z
    · cases z
    · obtain ⟨v, hv, hdr⟩ := start_bor ha z
      exact ⟨v, hst i v hv, hdr⟩
  · rcases app_no hd with z | z
    · cases z
    · exact absurd z start_own
/-- what isinstance tells of an exception of the class at cn: of a class above it, of ValueError, of one beside it -/
structure ExI (K : PySem.W.Frag) (mg : Str → Option Value) (cn : Addr) (xj xt : Str) (cj ct : Addr) : Prop where
  c : ExcC K cn
  e : PySem.W.exmOne K (.ref cn) (.ref cn) = some true
  gj : mg xj = some (.ref cj)
  gt : mg xt = some (.ref ct)
  kj : PySem.W.kitOne K (.ref cn) (.ref cj) = some true
  kv : PySem.W.kitOne K (.ref cn) (.type "ValueError") = some true
  kt : PySem.W.kitOne K (.ref cn) (.ref ct) = some false
/-- a def that raises, for its callers -/
structure FnAtX (C : Fam) (x : Str) (bs : List Bool) (cn : Addr) (F : List D → Option D) : Prop where
  ex : ∃ f fd ps, C.mg x = some (.ref f) ∧ FnOk C.P C.w C.K C.mg C.base (L2.CX C.P C.w) C.n f fd ps (spX C.K bs cn F) ∧ PySem.W.keepIn C.K (.ref f) = true ∧ Binds C.K fd ps []
def refF (bs : List Bool) (Ψ : List D → Option D) (ds : List D) : Option D := if ds.length = bs.length then (match Ψ ds with
  | some (.bool true) => some (.bool true)
  | _ => none) else none
def isiE (z : Str) (y : Expr) (p1 p2 p4 : Pos) : Expr := .Call (.Name "isinstance" p1) [.Name z p2, y] [] p4
/-! ### read off the text -/
/-! ### all defs, and those that raise -/
structure DefOk2 (P : Program) (w : World) (K : PySem.W.Frag) (mg : Str → Option Value) (base : Heap) (R : Rw) (xs : List (Str × Nat × List Bool)) (cn : Addr) (tab : Nat → Option Fd) (ext : Nat → (Nat → List D → Option D) → List D → Option D) (p : Str × Nat × List Bool) : Prop where
  ex : ∃ f fd ps, mg p.1 = some (.ref f) ∧ PySem.W.keepIn K (.ref f) = true ∧ Binds K fd ps [] ∧
    ∀ n Φ, (∀ N sc, N.Nodup → R.ok Φ ⟨P, w, K, mg, base, N, sc, n, true⟩) → (∀ q ∈ xs, ∀ N sc, FnAtX ⟨P, w, K, mg, base, N, sc, n, true⟩ q.1 q.2.2 cn (Φ q.2.1)) → FnOk P w K mg base CX0 (n + 1) f fd ps (spF K p.2.2 (stepP tab ext Φ p.2.1))
section
variable {P : Program} {w : World} {K : PySem.W.Frag} {mg : Str → Option Value} {base : Heap} {R : Rw} {xs : List (Str × Nat × List Bool)} {cn : Addr} {tab : Nat → Option Fd} {ext : Nat → (Nat → List D → Option D) → List D → Option D}
theorem DefOk.two {p : Str × Nat × List Bool} (h : DefOk P w K mg base R tab ext p) : DefOk2 P w K mg base R xs cn tab ext p := by
  obtain ⟨f, fd, ps, h1, h2, h3, h4⟩ := h.ex
  exact ⟨f, fd, ps, h1, h2, h3, fun n Φ hR _ => h4 n Φ hR⟩
end
/-! ### the head: classes looked at, too -/
def exOne (K : PySem.W.Frag) (x : Str) : Bool := PySem.W.excIn K (He.ga K x) He.veBase "ValueError.__new__" && (PySem.W.keepIn K (.ref (He.ga K x)) && (decide (PySem.W.subIn K (.ref (He.ga K x)) (.type "BaseException") = some true) && decide (PySem.W.typeIn K (.ref (He.ga K x)) = some (.type "type"))))
def exIs (K : PySem.W.Frag) (x xj xt : Str) : Bool :=
  decide (PySem.W.findIn K (.ref (He.ga K x)) "__getattribute__" = some (some (.builtin "BaseException.__getattribute__"))) && (decide (PySem.W.findIn K (.ref (He.ga K x)) "__getattr__" = some none) && (PySem.W.hasDictIn K (He.ga K x) && (decide (PySem.W.findIn K (.ref (He.ga K x)) "__class__" = some (some (.builtin "object.__class__"))) &&
  (decide (PySem.W.specialIn K (.builtin "object.__class__") "__get__" = some (some (.builtin "getset_descriptor.__get__"))) && (decide (PySem.W.takesIn K (.builtin "object.__class__") = some true) && (decide (PySem.W.mroIn K (He.ga K x) (.type "object") = some true) && (decide (PySem.W.exmOne K (.ref (He.ga K x)) (.ref (He.ga K x)) = some true) &&
  (decide (PySem.W.kitOne K (.ref (He.ga K x)) (.ref (He.ga K xj)) = some true) && (decide (PySem.W.kitOne K (.ref (He.ga K x)) (.type "ValueError") = some true) && decide (PySem.W.kitOne K (.ref (He.ga K x)) (.ref (He.ga K xt)) = some false))))))))))
theorem exF_of {K : PySem.W.Frag} {mg : Str → Option Value} {x : Str} (h : exOne K x = true) (g : mg x = some (.ref (He.ga K x))) : ExF K mg x (He.ga K x) := by
  unfold exOne at h
  simp only [Bool.and_eq_true, decide_eq_true_eq] at h
  exact ⟨g, h.1, h.2.1, h.2.2.1, h.2.2.2⟩
theorem exI_of {K : PySem.W.Frag} {mg : Str → Option Value} {x xj xt : Str} (h0 : exOne K x = true) (h : exIs K x xj xt = true) (gj : mg xj = some (.ref (He.ga K xj))) (gt : mg xt = some (.ref (He.ga K xt))) : ExI K mg (He.ga K x) xj xt (He.ga K xj) (He.ga K xt) := by
  unfold exIs at h
  unfold exOne at h0
  simp only [Bool.and_eq_true, decide_eq_true_eq] at h h0
  obtain ⟨h1, h2, h3, h4, h5, h6, h7, h8, h9, h10, h11⟩ := h
  exact ⟨⟨h1, h2, h0.2.2.1, h3, h4, h5, h6, h7⟩, h8, gj, gt, h9, h10, h11⟩
def obsX (n : Nat) (fa : List He.Fa) (fn : List He.DefD) (ex : PySem.W.Frag → Bool) (g : Addr → Option Obj) : He.AlD × Bool := (He.obsDG n fa fn g, ex (He.frG g (He.asD g n)))
def hookX (n : Nat) (fa : List He.Fa) (fn : List He.DefD) (ex : PySem.W.Frag → Bool) : PySem.W.Hook where
  α := He.AlD × Bool
  obs := fun s => obsX n fa fn ex s.heap.get?
  val := fun _ => (He.valD fn, true)
  says := fun _ h => ∃ K : PySem.W.Frag, K.In h ∧ He.SaysD fa fn K ∧ ex K = true
  of := fun _ _ e => ⟨_, He.frG_in, congrArg Prod.fst e, congrArg Prod.snd e⟩
  keeps := fun _ _ _ ⟨K, hK, c⟩ k => ⟨K, PySem.W.Frag.In.keeps hK k, c⟩
theorem obsX_eq {n : Nat} {fa : List He.Fa} {fn : List He.DefD} {ex : PySem.W.Frag → Bool} {g : Addr → Option Obj} {s : Shared} (h : ∀ a, g a = s.heap.get? a) : obsX n fa fn ex g = (hookX n fa fn ex).obs s := by
  have e : g = s.heap.get? := funext h
  rw [e] <;> rfl
end J

/-! The class Grower, by hand: its object, its methods that change it. -/
namespace J
open PySem PySem.Spec PyProof.Rows L2
def objG (w e : D) (left : List D) (es : List (List Int × D)) (s : D) : D := obD [("web", w), ("ends", e), ("left", .list left), ("fences", dtD es), ("some", s)]
def fldsG (vw ve : V) (l d : Addr) (vs : V) : List (Str × V) := [("web", vw), ("ends", ve), ("left", .ref l), ("fences", .ref d), ("some", vs)]
structure ClG (K : PySem.W.Frag) (C : Addr) : Prop where
  cl : Cls K C
  n1 : NoAttr K C "web"
  n2 : NoAttr K C "ends"
  n3 : NoAttr K C "left"
  n4 : NoAttr K C "fences"
  n5 : NoAttr K C "some"
theorem lkW (vw ve : V) (l d : Addr) (vs : V) : (fldsG vw ve l d vs).lookup ("web" : Str) = some vw := by rfl
theorem lkE (vw ve : V) (l d : Addr) (vs : V) : (fldsG vw ve l d vs).lookup ("ends" : Str) = some ve := by rfl
theorem lkL (vw ve : V) (l d : Addr) (vs : V) : (fldsG vw ve l d vs).lookup ("left" : Str) = some (.ref l) := by rfl
theorem lkF (vw ve : V) (l d : Addr) (vs : V) : (fldsG vw ve l d vs).lookup ("fences" : Str) = some (.ref d) := by rfl
theorem lkS (vw ve : V) (l d : Addr) (vs : V) : (fldsG vw ve l d vs).lookup ("some" : Str) = some vs := by rfl
abbrev OG (x l d : Addr) (O0 : List Addr) : List Addr := x :: l :: d :: O0
/-- a Grower stands at x -/
structure GrAt (K : PySem.W.Frag) (C : Addr) (H : Hp) (O0 : List Addr) (x l d dx : Addr) (vw ve : V) (w e : D) (left : List D) (es : List (List Int × D)) (s : D) : Prop where
  al : Al K (OG x l d O0) H
  dw : Dr K (mi H (OG x l d O0)) vw w
  de : Dr K (mi H (OG x l d O0)) ve e
  ob : ∃ vs, H x = some (.ins C dx (fldsG vw ve l d vs)) ∧ Dr K (mi H (OG x l d O0)) vs s
  ls : ∃ us, H l = some (.lst us) ∧ DrA K (mi H (OG x l d O0)) us left
  ds : ∃ kvs, H d = some (.dT kvs) ∧ kvs.map (·.1) = es.map (fun p => p.1.map Sum.inl) ∧ DrA K (mi H (OG x l d O0)) (kvs.map (·.2)) (es.map (·.2))
section
variable {K : PySem.W.Frag} {C : Addr} {H H' : Hp} {O0 : List Addr} {x l d dx : Addr} {vw ve : V} {w e : D} {left left' : List D} {es es' : List (List Int × D)} {s s' : D}
theorem GrAt.tp (c : ClG K C) (g : GrAt K C H O0 x l d dx vw ve w e left es s) : Tp K (OG x l d O0) H (.ref x) (objG w e left es s) := by
  obtain ⟨vs, h1, h2⟩ := g.ob
  refine .inr (.inr (.inr ⟨x, C, dx, _, _, rfl, rfl, List.cons_ne_nil _ _, h1, c.cl, fun p hp => ?_⟩))
  simp only [List.mem_cons, List.not_mem_nil, or_false] at hp
  rcases hp with rfl | rfl | rfl | rfl | rfl
  · exact ⟨c.n1, vw, lkW .., .inl g.dw⟩
  · exact ⟨c.n2, ve, lkE .., .inl g.de⟩
  · obtain ⟨us, h3, h4⟩ := g.ls
    exact ⟨c.n3, _, lkL .., .inr (.inl ⟨l, us, _, rfl, rfl, h3, h4⟩)⟩
  · obtain ⟨kvs, h3, h4, h5⟩ := g.ds
    exact ⟨c.n4, _, lkF .., .inr (.inr ⟨d, kvs, es, rfl, rfl, h3, h4, h5⟩)⟩
  · exact ⟨c.n5, vs, lkS .., .inl h2⟩
theorem GrAt.mono (g : GrAt K C H O0 x l d dx vw ve w e left es s) (sm : Same H H') : GrAt K C H' O0 x l d dx vw ve w e left es s where
  al := g.al.mono sm
  dw := Dr.mono (mi_same sm) _ g.dw
  de := Dr.mono (mi_same sm) _ g.de
  ob := let ⟨vs, h1, h2⟩ := g.ob; ⟨vs, sm.at h1, Dr.mono (mi_same sm) _ h2⟩
  ls := let ⟨us, h1, h2⟩ := g.ls; ⟨us, sm.at h1, DrA.mono (mi_same sm) _ h2⟩
  ds := let ⟨kvs, h1, h2, h3⟩ := g.ds; ⟨kvs, sm.at h1, h2, DrA.mono (mi_same sm) _ h3⟩
end
/-- all but the object's own stays -/
structure SmX (x l d : Addr) (H H' : Hp) : Prop where
  ext : ∀ b o, b ≠ x → b ≠ l → b ≠ d → H b = some o → tbO o = false → H' b = some o
  tbs : ∀ b ps, H b = some (.tbl ps) → ∃ qs, H' b = some (.tbl qs)
  tab : ∀ b, LamX.TabS H b lamQ → LamX.TabS H' b lamQ
theorem SmX.refl {x l d : Addr} (H : Hp) : SmX x l d H H := ⟨fun _ _ _ _ _ h _ => h, fun _ ps h => ⟨ps, h⟩, fun _ t => t⟩
theorem SmX.then {x l d : Addr} {H H1 H2 : Hp} (a : SmX x l d H H1) (e : Same H1 H2) : SmX x l d H H2 := ⟨fun b o h1 h2 h3 h n => e.ext b o (a.ext b o h1 h2 h3 h n) n, fun b ps h => let ⟨_, z⟩ := a.tbs b ps h; e.tbs b _ z, fun b t => e.tab b (a.tab b t)⟩
theorem SmX.upd {x l d p : Addr} {o : HO} {H H1 : Hp} (a : SmX x l d H H1) (hp : p = x ∨ p = l ∨ p = d) (hw : okW (H1 p) = true) : SmX x l d H (upd H1 p o) where
  ext := fun b u h1 h2 h3 h n => by
    have hb : b ≠ p := fun z => by
      subst z
      rcases hp with e | e | e
      · exact h1 e
      · exact h2 e
      · exact h3 e
    rw [upd_ne hb]
    exact a.ext b u h1 h2 h3 h n
  tbs := fun b ps h => by
    obtain ⟨qs, z⟩ := a.tbs b ps h
    rw [upd_ne fun e => by rw [← e, z] at hw; cases hw]
    exact ⟨qs, z⟩
  tab := fun b t => tabS_upd (a.tab b t) hw
/-- a dict entry put -/
def putD (es : List (List Int × D)) (ns : List Int) (v : D) : List (List Int × D) := if es.any (fun p => decide (p.1 = ns)) then es.map (fun p => if p.1 = ns then (p.1, v) else p) else es ++ [(ns, v)]
/-! ### what grow does, by data -/
def ieBy : IE := .call 70 (.cons (.ix (.bv 2) (.ci 1)) (.cons (.tup (.cons (.ci 0) (.cons (.ci 1) .nil))) .nil))
def ieP : IE := .call 70 (.cons (.dget (.fld (.bv 0) (Str.ofString "fences")) (.bv 4) (.tup (.cons (.ci 0) (.cons (.ci 1) .nil)))) (.cons (.var 3) .nil))
def ieEn : IE := .enum (.ix (.fld (.bv 0) (Str.ofString "web")) (.ci 1))
def ieCnd : IE := .an (.cmp .IsNot (.ix (.fld (.bv 0) (Str.ofString "left")) (.bv 5)) .cn) (.cmp .NotEq (.cmp .In (.ix (.bv 6) (.ci 0)) (.bv 4)) (.cmp .In (.ix (.bv 6) (.ci 1)) (.bv 4)))
def ieM : IE := .call 126 (.cons (.ix (.fld (.bv 0) (Str.ofString "left")) (.bv 5)) (.cons (.var 3) .nil))
def ieSo : IE := .bi .tuple (.cons (.bi .sorted (.cons (.bin .Add (.fld (.bv 0) (Str.ofString "some")) (.tup (.cons (.ix (.bv 2) (.ci 0)) .nil))) .nil)) .nil)
section
variable (Φ : Nat → List D → Option D)
def tiesF (w e : D) (es : List (List Int × D)) (s sd fd by_ si : D) : List D → List D → Option (List D)
  | [], left => some left
  | .tuple [.int k, t] :: r, left => match testD (evE Φ ieCnd [.bor (objG w e left es s), .val sd, .val fd, .val by_, .val si, .val (.int k), .val t]) with
    | none => none
    | some false => tiesF w e es s sd fd by_ si r left
    | some true => match evE Φ ieM [.bor (objG w e left es s), .val sd, .val fd, .val by_, .val si, .val (.int k), .val t] with
      | none => none
      | some v => match ixN left.length k with
        | none => none
        | some j => tiesF w e es s sd fd by_ si r (left.set j v)
  | _ :: _, _ => none
def sidesF (w e s sd fd by_ : D) : List D → List D → List (List Int × D) → Option (List D × List (List Int × D))
  | [], left, es => some (left, es)
  | si :: r, left, es => match evE Φ ieP [.bor (objG w e left es s), .val sd, .val fd, .val by_, .val si, .no, .no] with
    | none => none
    | some v => match tupI si with
      | none => none
      | some ns => if es.length ≤ 1000 then (match evI Φ ieEn [.bor (objG w e left (putD es ns v) s), .val sd, .val fd, .val by_, .val si, .no, .no] with
        | none => none
        | some its => match tiesF Φ w e (putD es ns v) s sd fd by_ si its left with
          | none => none
          | some left' => sidesF w e s sd fd by_ r left' (putD es ns v)) else none
def growF (w e : D) (left : List D) (es : List (List Int × D)) (s : D) : Option (Option (List D × List (List Int × D) × D)) := match Φ 127 [objG w e left es s] with
  | some (.list ss) => match Φ 128 [objG w e left es s, .list ss] with
    | some fd => if isNoneD fd then some none else match evE Φ ieBy [.bor (objG w e left es s), .val (.list ss), .val fd, .no, .no, .no, .no] with
      | some by_ => match sidesF Φ w e s (.list ss) fd by_ ss left es with
        | some (left', es') => match evE Φ ieSo [.bor (objG w e left' es' s), .val (.list ss), .val fd, .val by_, .no, .no, .no] with
          | some s' => some (some (left', es', s'))
          | none => none
        | none => none
      | none => none
    | none => none
  | _ => none
end
def unG : D → Option (D × D × List D × List (List Int × D) × D)
  | .dict [(_, w), (_, e), (_, .list left), (_, f), (_, s)] => match undtD f with
    | some es => some (w, e, left, es, s)
    | none => none
  | _ => none
def growD (Φ : Nat → List D → Option D) : List D → Option D
  | [o] => match unG o with
    | some (w, e, left, es, s) => match growF Φ w e left es s with
      | some none => some (.tuple [.bool false, objG w e left es s])
      | some (some (left', es', s')) => some (.tuple [.bool true, objG w e left' es' s'])
      | none => none
    | none => none
  | _ => none
section
variable {K : PySem.W.Frag} {C : Addr} {H H' H0 : Hp} {O0 : List Addr} {x l d dx : Addr} {vw ve : V} {w e : D} {left left' : List D} {es es' : List (List Int × D)} {s s' : D} {σ : L2.St} {ss : List Sl}
/-- between two steps of a method -/
structure Wg (K : PySem.W.Frag) (C : Addr) (O0 : List Addr) (x l d dx : Addr) (vw ve : V) (w e : D) (H0 : Hp) (σ : L2.St) (H : Hp) (left : List D) (es : List (List Int × D)) (s : D) (ss : List Sl) : Prop where
  re : Re K (OG x l d O0) σ H (.bor (objG w e left es s) :: ss)
  pl : ∀ t ∈ ss, (∃ d, t = Sl.val d) ∨ t = .no
  h0 : σ[0]? = some (some (.ref x))
  gr : GrAt K C H O0 x l d dx vw ve w e left es s
  sm : SmX x l d H0 H
theorem Wg.mono (h : Wg K C O0 x l d dx vw ve w e H0 σ H left es s ss) (q : Same H H') : Wg K C O0 x l d dx vw ve w e H0 σ H' left es s ss :=
  ⟨h.re.mono q, h.pl, h.h0, h.gr.mono q, h.sm.then q⟩
theorem Wg.set (h : Wg K C O0 x l d dx vw ve w e H0 σ H left es s ss) {i : Nat} {v : V} {dv : D} (hv : Dr K (mi H (OG x l d O0)) v dv) : Wg K C O0 x l d dx vw ve w e H0 (σ.set (i + 1) (some v)) H left es s (ss.set i (.val dv)) :=
  ⟨h.re.set (i := i + 1) hv, fun t ht => by
    rcases List.mem_or_eq_of_mem_set ht with z | z
    · exact h.pl t z
    · exact .inl ⟨_, z⟩, by rw [List.getElem?_set_ne (by omega)]; exact h.h0, h.gr, h.sm⟩
end
section
variable {K : PySem.W.Frag} {C : Addr} {H H' H0 : Hp} {O0 : List Addr} {x l d dx : Addr} {vw ve : V} {w e : D} {left left' : List D} {es es' : List (List Int × D)} {s s' sd fd by_ si : D} {σ : L2.St} {ss : List Sl} {Φ : Nat → List D → Option D}
theorem Wg.start (c : ClG K C) (g : GrAt K C H O0 x l d dx vw ve w e left es s) (h0 : σ[0]? = some (some (.ref x))) {n : Nat} (hl : σ.length = n + 1) : Wg K C O0 x l d dx vw ve w e H σ H left es s (List.replicate n .no) where
  re := {
    len := by rw [hl, List.length_cons, List.length_replicate]
    al := g.al
    val := fun i d q => by
      cases i with
      | zero => cases q
      | succ i => have := List.mem_of_getElem? (show (List.replicate n Sl.no)[i]? = some (Sl.val d) by simpa using q); cases List.eq_of_mem_replicate this
    own := fun i d q => by
      cases i with
      | zero => cases q
      | succ i => have := List.mem_of_getElem? (show (List.replicate n Sl.no)[i]? = some (Sl.own d) by simpa using q); cases List.eq_of_mem_replicate this
    bor := fun i d q => by
      cases i with
      | zero => cases q; exact ⟨_, h0, g.tp c⟩
      | succ i => have := List.mem_of_getElem? (show (List.replicate n Sl.no)[i]? = some (Sl.bor d) by simpa using q); cases List.eq_of_mem_replicate this }
  pl := fun t ht => .inr (List.eq_of_mem_replicate ht)
  h0 := h0
  gr := g
  sm := SmX.refl _
end
end J

/-! The class Grower, by hand: how it is made; the def that uses it. -/
namespace J
open PySem PySem.Spec PyProof.Rows L2
def leftOf (d : D) : D := if isNoneD d then .none else .tuple [d, .int 1]
def initD : List D → Option D
  | [w, e, .list ps] => if ps.length ≤ 1000 then some (objG w e (ps.map leftOf) [] (.tuple [])) else none
  | _ => none
end J

/-! The def that uses a Grower; rows with this class. -/
namespace J
open PySem PySem.Spec PyProof.Rows L2
def ieJ : IE := .nt (.call 20 (.cons (.var 0) (.cons (.flds (.bv 3) (Str.ofString "some")) (.cons (.var 1) .nil))))
def loopF (Φ : Nat → List D → Option D) (w e p : D) : Nat → List D → List (List Int × D) → D → Option (Option (List D × List (List Int × D) × D))
  | 0, _, _, _ => none
  | n + 1, left, es, s => match evE Φ ieJ [.val w, .val e, .val p, .bor (objG w e left es s)] with
    | some (.bool false) => some (some (left, es, s))
    | some (.bool true) => match Φ 130 [objG w e left es s] with
      | some (.tuple [.bool false, _]) => some none
      | some (.tuple [.bool true, o]) => match unG o with
        | some (_, _, left', es', s') => loopF Φ w e p n left' es' s'
        | none => none
      | _ => none
    | _ => none
def grownF (Φ : Nat → List D → Option D) : List D → Option D
  | [w, e, p] => match Φ 131 [w, e, p] with
    | none => none
    | some o => match unG o with
      | none => none
      | some (_, _, left, es, s) => match loopF Φ w e p 200 left es s with
        | none => none
        | some none => some .none
        | some (some (left', es', s')) => match Φ 129 [objG w e left' es' s'] with
          | none => none
          | some fs => some (.tuple [s', fs])
  | _ => none
end J

/-! Rows with the class Grower: all defs, by fuel. -/
namespace J
open PySem PySem.Spec PyProof.Rows L2
structure DefOkE (P : Program) (w : World) (K : PySem.W.Frag) (mg : Str → Option Value) (base : Heap) (R : Rw) (E : Nat → (Nat → List D → Option D) → Prop) (tab : Nat → Option Fd) (ext : Nat → (Nat → List D → Option D) → List D → Option D) (p : Str × Nat × List Bool) : Prop where
  ex : ∃ f fd ps, mg p.1 = some (.ref f) ∧ PySem.W.keepIn K (.ref f) = true ∧ Binds K fd ps [] ∧
    ∀ n Φ, (∀ N sc, N.Nodup → R.ok Φ ⟨P, w, K, mg, base, N, sc, n, true⟩) → E n Φ → FnOk P w K mg base CX0 (n + 1) f fd ps (spF K p.2.2 (stepP tab ext Φ p.2.1))
section
variable {P : Program} {w : World} {K : PySem.W.Frag} {mg : Str → Option Value} {base : Heap} {R : Rw} {E : Nat → (Nat → List D → Option D) → Prop} {tab : Nat → Option Fd} {ext : Nat → (Nat → List D → Option D) → List D → Option D}
theorem DefOk.e {p : Str × Nat × List Bool} (h : DefOk P w K mg base R tab ext p) : DefOkE P w K mg base R E tab ext p := by
  obtain ⟨f, fd, ps, h1, h2, h3, h4⟩ := h.ex
  exact ⟨f, fd, ps, h1, h2, h3, fun n Φ hR _ => h4 n Φ hR⟩
theorem all_okE (hd : ∀ p ∈ R.fns, DefOkE P w K mg base R E tab ext p) (hfr : ∀ x ∈ R.frs, mg x = none)
    (hcs : ∀ p ∈ R.cst, ∃ v u d, mg p.1 = some u ∧ L2.RelV v u ∧ (∀ H, Dr K H v d) ∧ ∀ Φ env, evE Φ p.2 env = some d) (h0 : E 0 (Phi tab ext 0))
    (hs : ∀ n, (∀ j, j ≤ n → ∀ (N : List Str) (sc : Scope), N.Nodup → R.ok (Phi tab ext j) ⟨P, w, K, mg, base, N, sc, j, true⟩) → E n (Phi tab ext n) → E (n + 1) (Phi tab ext (n + 1))) :
    ∀ (n : Nat), (∀ j, j ≤ n → ∀ (N : List Str) (sc : Scope), N.Nodup → R.ok (Phi tab ext j) ⟨P, w, K, mg, base, N, sc, j, true⟩) ∧ E n (Phi tab ext n) := by
  intro n
  induction n with
  | zero =>
    refine ⟨fun j hj N sc nd => ?_, h0⟩
    obtain rfl : j = 0 := by omega
    refine ⟨nd, fun p hp => ?_, hfr, fun p hp => ?_⟩
    · obtain ⟨f, fd, ps, h1, h2, h3, h4⟩ := (hd p hp).ex
      refine ⟨f, fd, ps, h1, ⟨fun vs H Q E h => ?_, fun A outer s H args us vs Q E _ _ _ _ h => ?_⟩, h2, h3⟩
      · obtain ⟨_, _, _, _, _, z, _⟩ := h; cases z
      · obtain ⟨_, _, _, _, _, z, _⟩ := h; cases z
    · obtain ⟨v, u, d, h1, h2, h3, h4⟩ := hcs p hp
      exact ⟨v, u, d, h1, h2, h3, h4 _⟩
  | succ n ih =>
    refine ⟨fun j hj N sc nd => ?_, hs n ih.1 ih.2⟩
    by_cases hjn : j ≤ n
    · exact ih.1 j hjn N sc nd
    obtain rfl : j = n + 1 := by omega
    refine ⟨nd, fun p hp => ?_, hfr, fun p hp => ?_⟩
    · obtain ⟨f, fd, ps, h1, h2, h3, h4⟩ := (hd p hp).ex
      exact ⟨f, fd, ps, h1, h4 n _ (ih.1 n (Nat.le_refl n)) ih.2, h2, h3⟩
    · obtain ⟨v, u, d, h1, h2, h3, h4⟩ := hcs p hp
      exact ⟨v, u, d, h1, h2, h3, h4 _⟩
/-- a method that the little language serves -/
structure MtOk (K : PySem.W.Frag) (R : Rw) (Cl : Addr) (m : Str) (F : Fd) (np : Nat) : Prop where
  ex : ∃ y params body scope f fd N ps ow, FunD K m y params body scope [] [] f fd ∧ Meth K Cl m f ∧ Binds K fd ps [] ∧ FnScope N ps scope ∧ ps.length = np ∧ F.slots = N.length ∧ F.bs.length = ps.length ∧ blk (trS R N (trE R N 40) scope ow 40) N ow body = some F.body
theorem MtOk.ok {Cl : Addr} {m : Str} {F : Fd} {np n : Nat} {Φ : Nat → List D → Option D} (h : MtOk K R Cl m F np) (hR : ∀ N sc, N.Nodup → R.ok Φ ⟨P, w, K, mg, base, N, sc, n, true⟩) : ∃ f fd ps, Meth K Cl m f ∧ FnOk P w K mg base CX0 (n + 1) f fd ps (spF K F.bs (evF Φ F)) ∧ Binds K fd ps [] := by
  obtain ⟨y, params, body, scope, f, fd, N, ps, ow, hF, hm, hb, S, _, hsl, hbs, htr⟩ := h.ex
  exact ⟨f, fd, ps, hm, fn_ok hF S (hR N scope S.nd) htr hsl hbs, hb⟩
end
end J

/-! Rows with the class Grower and with defs that raise. -/
namespace J
open PySem PySem.Spec PyProof.Rows L2
def ExX (P : Program) (w : World) (K : PySem.W.Frag) (mg : Str → Option Value) (base : Heap) (xs : List (Str × Nat × List Bool)) (cn : Addr) (n : Nat) (Φ : Nat → List D → Option D) : Prop := ∀ q ∈ xs, ∀ N sc, FnAtX ⟨P, w, K, mg, base, N, sc, n, true⟩ q.1 q.2.2 cn (Φ q.2.1)
section
variable {P : Program} {w : World} {K : PySem.W.Frag} {mg : Str → Option Value} {base : Heap} {R : Rw} {E E' : Nat → (Nat → List D → Option D) → Prop} {tab : Nat → Option Fd} {ext : Nat → (Nat → List D → Option D) → List D → Option D} {xs : List (Str × Nat × List Bool)} {cn : Addr} {p : Str × Nat × List Bool}
theorem DefOkE.mono (h : DefOkE P w K mg base R E tab ext p) (hE : ∀ n Φ, E' n Φ → E n Φ) : DefOkE P w K mg base R E' tab ext p := by
  obtain ⟨f, fd, ps, h1, h2, h3, h4⟩ := h.ex
  exact ⟨f, fd, ps, h1, h2, h3, fun n Φ hR e => h4 n Φ hR (hE n Φ e)⟩
theorem DefOk2.e (h : DefOk2 P w K mg base R xs cn tab ext p) : DefOkE P w K mg base R (fun n Φ => E n Φ ∧ ExX P w K mg base xs cn n Φ) tab ext p := by
  obtain ⟨f, fd, ps, h1, h2, h3, h4⟩ := h.ex
  exact ⟨f, fd, ps, h1, h2, h3, fun n Φ hR e => h4 n Φ hR e.2⟩
end
end J

/-! A lambda with one parameter that is handed to a def, which hands it on to itself. -/
namespace J
open PySem PySem.Spec PyProof.Rows L2
/-! ### the making -/
/-! ### the call -/
section
variable {P : Program} {w : World} {K : PySem.W.Frag} {mg : Str → Option Value} {base : Heap}
def lamD (ib : IE) (Φ : Nat → List D → Option D) : List D → Option D
  | [d, m] => evE Φ ib [.val d, .val m]
  | _ => none
end
/-! ### the def that hands it on to itself -/
def ieW : IE := .cmp .Eq (.bv 1) (.tup .nil)
def ieAt : IE := .ix (.bv 1) (.ci 0)
def ieB1 : IE := .ix (.bv 0) (.bv 3)
def ieB2 : IE := .sl (.bv 1) (.ci 1) .nil
def ieE4 : IE := .bin .Add (.bin .Add (.sl (.bv 0) .nil (.bv 3)) (.tup (.cons (.var 4) .nil))) (.sl (.bv 0) (.bin .Add (.bv 3) (.ci 1)) .nil)
def putDD (kp kl : Nat) (Φ : Nat → List D → Option D) : List D → Option D
  | [a, b, m] => match evE Φ ieW [.val a, .val b, .no, .no, .no] with
    | some (.bool true) => Φ kl [a, m]
    | some (.bool false) => (match evE Φ ieAt [.val a, .val b, .no, .no, .no] with
      | some x => (match evE Φ ieB1 [.val a, .val b, .no, .val x, .no] with
        | some y => (match evE Φ ieB2 [.val a, .val b, .no, .val x, .no] with
          | some z => (match Φ kp [y, z, m] with
            | some r => evE Φ ieE4 [.val a, .val b, .no, .val x, .val r]
            | none => none)
          | none => none)
        | none => none)
      | none => none)
    | _ => none
  | _ => none
section
variable {P : Program} {w : World} {K : PySem.W.Frag} {mg : Str → Option Value} {base : Heap}
/-! ### the def that makes it -/
def ieS1 (k : Nat) : IE := .call k (.cons (.var 0) (.cons (.tup .nil) .nil))
def ieS2 : IE := .ix (.bv 3) (.bin .Mod (.bv 1) (.bi .len (.cons (.bv 3) .nil)))
def spoD (kp ks : Nat) (Φ : Nat → List D → Option D) : List D → Option D
  | [a, .int n, m] => match evE Φ (ieS1 ks) [.val a, .val (.int n), .val m, .no, .no] with
    | some x => (match evE Φ ieS2 [.val a, .val (.int n), .val m, .val x, .no] with
      | some y => Φ kp [a, y, .int n]
      | none => none)
    | none => none
  | _ => none
end
end J

/-! Rows with a lambda: all defs, by fuel; the head. -/
namespace J
open PySem PySem.Spec PyProof.Rows L2
section
variable {P : Program} {w : World} {K : PySem.W.Frag} {mg : Str → Option Value} {base : Heap} {R : Rw} {tab : Nat → Option Fd} {ext : Nat → (Nat → List D → Option D) → List D → Option D}
end
/-! ### the head: tables of code objects -/
end J

/-! An exception out of a comprehension. -/
namespace J
open PySem PySem.Spec PyProof.Rows L2
/-! ### the block, its own environment kept -/
def postX (M : Model) (A : Around) (E : Value → Shared → Prop) (Q : Value → Shared → Prop) (acc : Value) (ce : Env) (r : Result) (s' : Shared) : Prop := match r with
  | .ok _ => ∃ m, s'.heap.Ns ce.locals m ∧ ∀ h', Heap.SameBut ce.locals s'.heap h' → Q acc { s' with heap := h' }
  | .error x => ∃ m, s'.heap.Ns ce.locals m ∧ ∀ h', Heap.SameBut ce.locals s'.heap h' → wpAny M A (passOn "comprehension.variables-let-go" x ce : Sem Value) (fun _ _ => False) E { s' with heap := h' }
theorem compr_x {M : Model} {A : Around} {E : Value → Shared → Prop} {s : Shared} {env : Env} {e : Expr} {sco : Scope} {pos : Pos} {mk src : Sem Value} {g : Comprehension} {gs : List Comprehension} {clo : List (Str × Addr)} {Q : Value → Shared → Prop}
    (h1 : clausesOf e = g :: gs) (h2 : ∀ x, foldedSetIterable g.iter env x = pure x) (h3 : closureFor sco env = pure clo) (hk : sco.kind = .function) (hn : ∀ x ∈ sco.names, x.2 = .local → sco.names.lookup x.1 = some .local)
    (h : wpAny M A src (fun x t1 => wpAny M A (pyIter x) (fun it t2 => wpAny M A mk (fun acc t3 =>
      wpAny M A (newFunctionEnv sco env.globals clo [] env.qual none .none (some env)) (fun ce t4 =>
        codeAny M A (.compStart e 0 it acc { ce with scope := relabel sco env }) (postX M A E Q acc { ce with scope := relabel sco env }) t4) E t3) E t2) E t1) E s) :
    wpAny M A (comprehension e sco env pos mk false src none) Q E s := by
  unfold comprehension
  rw [h3, h1]
  refine wpAny_bind (wpAny_mono h (fun x t1 k1 => wpAny_bind (wpAny_standAt (wpAny_bind (wpAny_of_eq (h2 x) (wpAny_bind (wpAny_holding (wpAny_mono k1 (fun it t2 k2 => ?_) fun _ _ z => z))))))) fun _ _ z => z)
  refine wpAny_standIf (wpAny_bind (wpAny_mono k2 (fun acc t3 k3 => wpAny_bind (wpAny_pure (wpAny_bind (wpAny_mono k3 (fun ce t4 k4 => ?_) fun _ _ z => z)))) fun _ _ z => z))
  dsimp only
  have loc : ∀ x ∈ (sco.names.filter fun y => (y.2 == .local || y.2 == .cell) && y.1 != (".0" : Str)).reverse, x.2 = .local → Env.kindOf { ce with scope := relabel sco env } x.1 = some .local := fun x hx hl =>
    lookup_relabel_local (hn x (List.mem_filter.mp (List.mem_reverse.mp hx)).1 hl)
  refine wpAny_holding (wpAny_bind (wpAny_attempt (wpAny_holding (wpAny_run (codeAny_mono k4 fun r t5 k5 => ?_)))))
  cases r with
  | ok f =>
    obtain ⟨m, a1, a2⟩ := k5
    exact wpAny_bind (wpAny_holding (wpAny_comp_letGo (cenv := { ce with scope := relabel sco env }) hk _ t5 m loc a1 fun h' m' _ sb => wpAny_pure (a2 h' sb)))
  | error x =>
    obtain ⟨m, a1, a2⟩ := k5
    exact wpAny_bind (wpAny_holding (wpAny_comp_letGo (cenv := { ce with scope := relabel sco env }) hk _ t5 m loc a1 fun h' m' _ sb => wpAny_mono (a2 h' sb) (fun _ _ f => f.elim) fun _ _ z => z))
/-! ### what a call in the block lets out -/
def OutX (X : Cx) (Y : Cx) (E : XK) (u : Value) (s' : Shared) : Prop := ∃ pins σ H s, Inv Y pins σ H s ∧ L2.CX X.prog X.w X.stack H s E u s'
/-- the state without the exception -/
theorem aside {Y : Cx} {pins : List (Addr × Obj)} {σ : L2.St} {H : Hp} {s s' : Shared} {E : XK} {u : Value} (I : Inv Y pins σ H s) (c : L2.CX Y.prog Y.w Y.stack H s E u s') :
    ∃ (a : Addr) (B : Heap) (sI : Shared) (H' : Hp) (cls : Value) (d : Option Addr), u = .ref a ∧ HandSPX.FlyingZ B Y.stack a (Zc cls d) s'.heap ∧ Inv Y pins σ H' sI ∧ (∀ b o, sI.heap.get? b = some o → b ∉ frs Y.stack → B.get? b = some o) ∧ (∀ b o, sI.heap.get? b = some o → s'.heap.get? b = some o) ∧ H' a = none ∧ s'.os = sI.os ∧ AllBare s'.gens ∧ E cls d H' := by
  obtain ⟨a, B, H', cls, d, rfl, fl, hok, ub, na, os, ag, hE⟩ := c
  obtain ⟨G, in1, out1⟩ := restrict s'.heap fun b => (B.get? b).isSome || decide (b ∈ frs Y.stack)
  have onB : ∀ b o, B.get? b = some o → G.get? b = some o := fun b o e => (in1 b (by simp [e])).trans (fl.1 b o e)
  have onF : ∀ b, b ∈ frs Y.stack → G.get? b = s'.heap.get? b := fun b hb => in1 b (by simp [hb])
  have back : ∀ b o, G.get? b = some o → s'.heap.get? b = some o ∧ ((B.get? b).isSome = true ∨ b ∈ frs Y.stack) := fun b o e => by
    cases q : ((B.get? b).isSome || decide (b ∈ frs Y.stack)) with
    | false =>
      rw [out1 b q] at e
      cases e
    | true =>
      rw [in1 b q] at e
      refine ⟨e, ?_⟩
      rw [Bool.or_eq_true, decide_eq_true_eq] at q
      exact q
  refine ⟨a, B, { s with heap := G, gens := s'.gens, drawn := s'.drawn, toks := s'.toks }, H', cls, d, rfl, fl, ?_, fun b o e hb => ?_, fun b o e => (back b o e).1, na, os, ag, hE⟩
  · refine I.call (ch := []) ⟨fun b o e n hb _ => onB b o (ub.keep b o e n hb), fun b o e n hb _ => ?_, fun b o e n _ => ub.free b o e n, fun b o e _ => ?_, ub.tups, ub.frzs, ub.tbls⟩ (hok.kept onB) ag (fun _ z => nomatch z)
    · obtain ⟨sl, q⟩ := ub.slot b o e hb
      exact ⟨sl, (onF b hb).trans q⟩
    · by_cases hb : b ∈ frs Y.stack
      · obtain ⟨sl, q⟩ := ub.slot b o e hb
        exact ⟨_, (onF b hb).trans q⟩
      · obtain ⟨o2, q⟩ := ub.there b o e hb
        exact ⟨o2, onB b o2 q⟩
  · obtain ⟨e2, z⟩ := back b o e
    rcases z with z | z
    · obtain ⟨o2, q⟩ := Option.isSome_iff_exists.mp z
      have := fl.1 b o2 q
      rw [e2] at this
      cases this
      exact q
    · exact absurd z hb
theorem frames_but {h h' base : Heap} {C : Addr} (sb : Heap.SameBut C h h') : ∀ {l : List Env}, h.FunFrames base l → C ∉ frs l → h'.FunFrames base l
  | [], _, _ => trivial
  | env :: l, ⟨hk, ⟨L, o, hf, hn, ho, hd⟩, r⟩, hC => by
    have e1 : L ≠ C := fun z => hC (List.mem_filterMap.mpr ⟨env, List.mem_cons_self, by rw [hf, z]⟩)
    refine ⟨hk, ⟨L, o, hf, hn, (sb.2 L e1).trans ho, hd⟩, frames_but sb r fun z => hC ?_⟩
    obtain ⟨e, he, q⟩ := List.mem_filterMap.mp z
    exact List.mem_filterMap.mpr ⟨e, List.mem_cons_of_mem _ he, q⟩
theorem note_eq {e : Value} {env env' : Env} (h : env.frame = env'.frame) : noteFrame e env = noteFrame e env' := by
  unfold noteFrame PySem.frameOf
  rw [h]
section
variable {X : Cx} {pins : List (Addr × Obj)} {σ : L2.St} {H3 : Hp} {s3 : Shared} {scope : Scope} {ce : Env} {fp : List Addr} {W : WX} {E : XK} {Q : Value → Shared → Prop} {acc : Value}
/-- it leaves the block -/
theorem out_ok (hst : X.stack = X.env :: X.outer) (hf : X.env.frame = some X.env.locals) (tk : Takes X W) (hW : ∀ cls d H, E cls d H → W cls d σ H) (I3 : Inv X pins σ H3 s3) (cL : ce.locals = s3.heap.objs.size) (cF : ce.frame = X.env.frame) (f3 : ∀ b ∈ fp, FpOk X pins H3 b ∧ b < s3.heap.objs.size)
    {u : Value} {s' : Shared} (h : OutX X (X.blk s3 H3 scope ce fp) E u s') :
    notedBy (model X.prog X.w) X.A ce (fun e s2 => postX (model X.prog X.w) X.A X.xe Q acc ce (.error e) s2) u s' := by
  obtain ⟨pins1, σ1, H1, s1, I1, c⟩ := h
  obtain ⟨a, B, sI, H', cls, d, rfl, fl, I6, nb, sub, na, os, ag, hE⟩ := aside I1 c
  have fl : HandSPX.FlyingZ B (X.env :: X.outer) a (Zc cls d) s'.heap := by rw [← hst]; exact fl
  have nb : ∀ b o, sI.heap.get? b = some o → b ∉ frs X.stack → B.get? b = some o := nb
  have hfr : X.A.frames = some (X.env :: X.outer) := by rw [I3.ok.frames, hst]
  have nC : H' ce.locals = none := I6.free
  obtain ⟨m, hns, _⟩ := I6.loc
  have hns : sI.heap.Ns ce.locals m := hns
  have cout : ce.locals ∉ frs X.stack := fun hm => by
    obtain ⟨_, o, e, _⟩ := I3.stack.mem hm
    have := Heap.lt_size e
    rw [cL] at this
    exact Nat.lt_irrefl _ this
  have inB : B.Ns ce.locals m := hns.at fun o e => nb _ o e cout
  have I7 : Inv X pins σ H' sI := I3.call' (ch := fp) I6.os I6.base I6.hok I6.bare fun b hb => ⟨(f3 b hb).1.2.2.2.1, (f3 b hb).1.2.1, (f3 b hb).1.2.2.2.2.1, (f3 b hb).1.2.2.2.2.2⟩
  unfold notedBy
  rw [note_eq cF]
  refine HandSPX.looks_onZ Zc.steady hfr hf fl fun h1 held up1 => ?_
  refine ⟨m, inB.at fun o e => held.1 _ o e, fun h2 sb => ?_⟩
  -- the ground without the block's names
  obtain ⟨f0, f1, f2, f4, f5, f6⟩ := I3.fpOk (b := ce.locals) (H' := H3) (by rw [cL]; exact Nat.le_refl _) (by rw [cL]; exact I3.hok.fresh (Nat.le_refl _))
  have I8 : Inv X pins σ H' { sI with heap := PySem.W.hideAll sI.heap [ce.locals], toks := sI.toks } := I7.turned (fun b o hb e => PySem.W.hideAll_get _ e (by simp [hb])) nC f1 f4 f5 f6
  have hide : ∀ {h : Heap} {b : Addr} {o : Obj}, (PySem.W.hideAll h [ce.locals]).get? b = some o → h.get? b = some o ∧ b ≠ ce.locals := fun {h b o} e => ⟨PySem.W.of_hideAll _ e, fun z => by
    rw [z, PySem.W.hideAll_none _ (by simp)] at e
    cases e⟩
  obtain ⟨st1, noA, ff1, oe, vs, T, oT, ts, he, hz, hd, hv1, hnT, hTa, hT, hdT, hfl⟩ := held
  have dictC : ∃ o es ep, h1.get? ce.locals = some o ∧ o.data = .dict es ep := by
    obtain ⟨o, es, ep, q1, q2, _⟩ := inB
    exact ⟨o, es, ep, st1 _ _ q1, q2⟩
  obtain ⟨oC, es, ep, qC, qD⟩ := dictC
  have aC : a ≠ ce.locals := fun z => by
    rw [z, qC] at he
    cases he
    rw [qD] at hd
    cases hd
  have tC : T ≠ ce.locals := fun z => by
    rw [z, qC] at hT
    cases hT
    rw [qD] at hdT
    cases hdT
  have held2 : HandSPX.HeldZ (PySem.W.hideAll B [ce.locals]) (X.env :: X.outer) a (Zc cls d) X.env.locals h2 := by
    refine ⟨fun b o e => (sb.2 b (hide e).2).trans (st1 b o (hide e).1), ?_, ?_, oe, vs, T, oT, ts, (sb.2 a aC).trans he, hz, hd, hv1, ?_, hTa, (sb.2 T tC).trans hT, hdT, hfl⟩
    · cases q : (PySem.W.hideAll B [ce.locals]).get? a with
      | none => rfl
      | some o =>
        have := (hide q).1
        rw [noA] at this
        cases this
    · have ff2 : h1.FunFrames (PySem.W.hideAll B [ce.locals]) (X.env :: X.outer) := funFrames_none ff1 fun L hL => by
        cases q : (PySem.W.hideAll B [ce.locals]).get? L with
        | none => rfl
        | some o =>
          obtain ⟨bn, _⟩ := ff1.mem hL
          have := (hide q).1
          rw [bn] at this
          cases this
      have cout2 : ce.locals ∉ frs (X.env :: X.outer) := by rw [← hst]; exact cout
      exact frames_but sb ff2 cout2
    · cases q : (PySem.W.hideAll B [ce.locals]).get? T with
      | none => rfl
      | some o =>
        have := (hide q).1
        rw [hnT] at this
        cases this
  unfold PySem.passOn
  refine wpAny_bind (wpAny_field ((sb.2 a aC).trans he) hd hv1 ?_)
  rw [if_neg (show ¬ ((Value.ref T == Value.none) = true) from by simp)]
  have fin : wpAny (model X.prog X.w) X.A (setFlight (.ref a) ce.frame) (fun _ s4 => wpAny (model X.prog X.w) X.A (throw (.ref a) : Sem Value) (fun _ _ => False) X.xe s4) X.xe { s' with heap := h2 } := by
    rw [cF, hf]
    refine HandSPX.setFlight_onZ held2 fun h4 held4 up4 => wpAny_throw (tk _ _ ?_)
    refine ⟨a, _, _, pins, σ, H', cls, d, rfl, I8, fun b o e hb => PySem.W.hideAll_get _ (nb b o (hide e).1 hb) fun z => (hide e).2 (List.mem_singleton.mp z), fun b o e hdn => ?_, .inr (.inr (by rw [hst]; exact held4)), na, os, ag, hW _ _ _ hE⟩
    obtain ⟨sl1, q1⟩ := up1 b o (sub b o (hide e).1) hdn
    have q2 : h2.get? b = some { o with slots := sl1 } := (sb.2 b (hide e).2).trans q1
    obtain ⟨sl4, q4⟩ := up4 b { o with slots := sl1 } q2 hdn
    exact ⟨sl4, q4⟩
  first
    | exact wpAny_bind (wpAny_pure (wpAny_bind fin))
    | exact wpAny_bind fin
/-- a comprehension whose item may raise -/
theorem lcx {s : Shared} {H : Hp} {R : VK} {elt tg iter : Expr} {ifs : List Expr} {own : List (Str × Nat)} {pos pos' : Pos} {wi : TI} {g : TG} {tt : TT} {te : TE}
    (hst : X.stack = X.env :: X.outer) (hf : X.env.frame = some X.env.locals) (tk : Takes X W) (hW : ∀ cls d H, E cls d H → W cls d σ H) (hc : X.calm = true) (hN : X.N.Nodup) (I : Inv X pins σ H s) (hi : PI X tg iter wi) (ok : BlkOk X.N X.env.scope scope own)
    (pg : ∀ (s : Shared) (H : Hp) (C : Addr) (cl : List (Str × Addr)) (fp : List Addr), PG (X.blk s H scope (compEnvC scope cl C X.env) fp) tg g)
    (pt : ∀ (s : Shared) (H : Hp) (C : Addr) (cl : List (Str × Addr)) (fp : List Addr), PTs (X.blk s H scope (compEnvC scope cl C X.env) fp) ifs tt)
    (pe : ∀ (s : Shared) (H : Hp) (C : Addr) (cl : List (Str × Addr)) (fp : List Addr), PE ((X.blk s H scope (compEnvC scope cl C X.env) fp).tr [] (OutX X (X.blk s H scope (compEnvC scope cl C X.env) fp) E)) elt te)
    (hs : ∀ x, foldedSetIterable iter X.env x = pure x) (h : tLc wi g tt te (own.map (·.2)) σ H R) :
    wpAny (model X.prog X.w) X.A (comprehension (.ListComp elt [⟨tg, iter, ifs, 0⟩] scope pos) scope X.env pos' (newList []) false (eval iter X.env) none) (EP X pins σ R) X.xe s := by
  have clo : ∀ y ∈ scope.names, y.2 = .free → ∃ c, X.env.cells.lookup y.1 = some c := fun y hy e => (ok.free y hy e).elim (fun k => I.ok.has _ (.inl k)) fun k => I.ok.has _ (.inr k)
  refine compr_x rfl hs (closure_ok clo) ok.kind (fun y hy e => by rw [ok.uniq y hy, e]) (thn (hi.run pins s σ H _ I h) fun xv s1 hx => thn hx fun itv s2 k2 => ?_)
  obtain ⟨it, fp, tn, Jt, H2, rfl, I2, T, st2, f2, q⟩ := k2
  refine wpAny_newObj_type (newEnv_comp ?_) (by show 0 ≤ sizeLine; decide)
  generalize eD : s2.heap.objs.size = L0
  have L0n : H2 L0 = none := I2.hok.fresh (Nat.le_of_eq eD)
  obtain ⟨Wt, ⟨n0, w0⟩, turn⟩ := q L0 L0n
  generalize e3 : ({ s2 with heap := s2.heap.push { cls := .type "list", data := .seq ([] : List Value).toArray } } : Shared) = s3
  have hp3 : s3.heap = s2.heap.push { cls := .type "list", data := .seq ([] : List Value).toArray } := by rw [← e3]
  have I3 : Inv X pins σ (upd H2 L0 (.lst [])) s3 := by
    rw [← e3]
    exact I2.laid (t' := s2.toks) (fun b o e => Heap.get?_push_of_some _ e) (Nat.le_of_eq eD) ⟨Nat.zero_le _, [], 0, .nil, by rw [← eD]; exact Heap.get?_push_size _ rfl⟩
  have f3 : ∀ b ∈ fp, FpOk X pins (upd H2 L0 (.lst [])) b ∧ b < s3.heap.objs.size := fun b hb => by
    obtain ⟨o, e, _⟩ := T.obj _ _ st2 b hb
    have lt := Heap.lt_size e
    refine ⟨⟨?_, (f2 b hb).2⟩, by rw [hp3, Heap.size_push]; exact Nat.lt_succ_of_lt lt⟩
    rw [upd_ne (by rw [← eD]; exact Nat.ne_of_lt lt)]
    exact (f2 b hb).1
  have st3 : tn 0 s3.heap := T.keep _ _ _ st2 fun b _ o e => by rw [hp3]; exact Heap.get?_push_of_some _ e
  generalize hH3 : upd H2 L0 (.lst []) = H4 at I3 f3 w0
  have I4 := block_start I3 ok hN f3
  have qg := pg s3 H4 s3.heap.objs.size (cellsFrom (s3.heap.objs.size + 1) scope.names (cloFrom X.env.cells scope.names [])) fp
  have qt := pt s3 H4 s3.heap.objs.size (cellsFrom (s3.heap.objs.size + 1) scope.names (cloFrom X.env.cells scope.names [])) fp
  have qe := pe s3 H4 s3.heap.objs.size (cellsFrom (s3.heap.objs.size + 1) scope.names (cloFrom X.env.cells scope.names [])) fp
  show codeAny _ _ (.compStart (.ListComp elt [⟨tg, iter, ifs, 0⟩] scope pos) 0 (.ref it) (.ref L0) (compEnvC scope (cellsFrom (s3.heap.objs.size + 1) scope.names (cloFrom X.env.cells scope.names [])) s3.heap.objs.size X.env)) (postX (model X.prog X.w) X.A X.xe (EP X pins σ R) (.ref L0) (compEnvC scope (cellsFrom (s3.heap.objs.size + 1) scope.names (cloFrom X.env.cells scope.names [])) s3.heap.objs.size X.env)) { s3 with heap := pushCells (s3.heap.push { cls := .type "dict", data := .dict #[] }) scope.names }
  have none4 : ∀ b ∈ fp, H4 b = none := fun b hb => (f3 b hb).1.1
  generalize ece : compEnvC scope (cellsFrom (s3.heap.objs.size + 1) scope.names (cloFrom X.env.cells scope.names [])) s3.heap.objs.size X.env = ce at I4 qg qt qe ⊢
  have cL : ce.locals = s3.heap.objs.size := by rw [← ece]; rfl
  have cF : ce.frame = X.env.frame := by rw [← ece]; rfl
  generalize es4 : ({ s3 with heap := pushCells (s3.heap.push { cls := .type "dict", data := .dict #[] }) scope.names } : Shared) = s4 at I4 ⊢
  have st4 : tn 0 s4.heap := T.keep _ _ _ st3 fun b _ o e => by rw [← es4]; exact pushCells_keeps _ _ _ _ (Heap.get?_push_of_some _ e)
  have stat : ∀ {σ' : L2.St} {H' : Hp} {s' : Shared}, Inv (X.blk s3 H4 scope ce fp) [] σ' H' s' → (∀ b ∈ fp, H' b = none) → ∀ b ∈ fp, FpOk (X.blk s3 H4 scope ce fp) [] H' b := fun {σ' H' s'} J hn b hb =>
    ⟨hn b hb, (J.ok.exf b hb).1, J.ok.exfs b hb, .inl hb, fun x c e => (J.ok.exf b hb).2 x c e, fun p hp => absurd hp (by show p ∉ ([] : List (Addr × Obj)) ++ []; simp)⟩
  have body : codeAny (model X.prog X.w) X.A (.compLoop (.ListComp elt [⟨tg, iter, ifs, 0⟩] scope pos) 0 (.ref it) (.ref L0) ce) (postX (model X.prog X.w) X.A X.xe (EP X pins σ R) (.ref L0) ce) s4 := by
    refine compLoop_any (fun n s' => ∃ i H', Inv (X.blk s3 H4 scope ce fp) [] (wipe σ (own.map (·.2))) H' s' ∧ tn i s'.heap ∧ (∀ b ∈ fp, H' b = none) ∧ Wt i n H') ?_ n0 ⟨0, H4, I4, st4, none4, w0⟩
    rintro n s5 ⟨i, H5, I5, st5, n5, w5⟩
    rcases turn i n H5 w5 with ⟨stop, fin⟩ | ⟨go, Nx, hNx, step⟩
    · refine thnF (T.done (X.blk s3 H4 scope ce fp) rfl rfl rfl hc i [] s5 _ H5 (fun _ _ => False) I5 (stat I5 n5) st5 stop) fun r s6 ⟨hr, I6⟩ => ?_
      subst hr
      have I7 : Inv X pins σ H5 s6 := I3.call' (ch := fp) I6.os I6.base I6.hok I6.bare fun b hb => ⟨(f3 b hb).1.2.2.2.1, (f3 b hb).1.2.1, (f3 b hb).1.2.2.2.2.1, (f3 b hb).1.2.2.2.2.2⟩
      have nC : H5 ce.locals = none := I6.free
      obtain ⟨m, hn, _⟩ := I6.loc
      obtain ⟨f0, f1, _, f4, f5, f6⟩ := I3.fpOk (b := ce.locals) (H' := H5) (by rw [cL]; exact Nat.le_refl _) nC
      exact ⟨m, hn, fun h' sb => ⟨.ref L0, H5, I7.turned (t' := s6.toks) (fun b o hb e => (sb.2 b hb).trans e) f0 f1 f4 f5 f6, rfl, fin⟩⟩
    · refine thnF (T.item (X.blk s3 H4 scope ce fp) rfl rfl rfl hc i [] s5 _ H5 (fun _ _ => False) I5 (stat I5 n5) st5 go) fun r s6 ⟨v6, hr, h6⟩ => ?_
      subst hr
      refine thnF h6 fun _ s7 ⟨x, H7, I7, r7, y7, st7, n7⟩ => ?_
      have P7 := I7.pinned (stat I7 n7) (T.obj _ _ st7)
      refine thnF (qg.run _ s7 _ H7 x v6 _ P7 r7 (step x H7 y7)) fun _ s8 ⟨σ8, H8, I8, hw8, q8⟩ => ?_
      refine thnF (qt.run _ s8 σ8 H8 _ I8 q8) fun b s9 ⟨H9, I9, q9⟩ => ?_
      have close : ∀ {s' : Shared} {H' : Hp}, Inv (X.blk s3 H4 scope ce fp) ([] ++ pinsAt fp s7.heap) σ8 H' s' → Nx H' → ∃ m, m < n ∧ ∃ i H', Inv (X.blk s3 H4 scope ce fp) [] (wipe σ (own.map (·.2))) H' s' ∧ tn i s'.heap ∧ (∀ b ∈ fp, H' b = none) ∧ Wt i m H' := fun {s' H'} J nx => by
        obtain ⟨m', lt, w'⟩ := hNx H' nx
        have held : ∀ b ∈ fp, ∀ o, s7.heap.get? b = some o → s'.heap.get? b = some o ∧ H' b = none := fun b hb o e =>
          ⟨(J.pin (b, o) (List.mem_append_right _ (List.mem_append_right _ (mem_pinsAt hb e)))).1, (J.pin (b, o) (List.mem_append_right _ (List.mem_append_right _ (mem_pinsAt hb e)))).2.1⟩
        refine ⟨m', lt, i + 1, H', (J.unpinned (pins := [])).weak (by rw [← hw8, wipe_length]) (fun j v e => ?_), T.keep _ _ _ st7 fun b hb o e => (held b hb o e).1, fun b hb => ?_, w'⟩
        · rw [← hw8] at e
          exact (wipe_some e).1
        · obtain ⟨o, e, _⟩ := T.obj _ _ st7 b hb
          exact (held b hb o e).2
      cases b with
      | false =>
        rw [if_neg (by decide)] at q9 ⊢
        exact close I9 q9
      | true =>
        rw [if_pos rfl] at q9 ⊢
        refine wpAny_mono (qe.run _ s9 σ8 H9 _ (I9.wish _) q9) (fun z s10 ⟨yv, H10, I10, r10, acc2, hD10, hz10, nx⟩ => ?_) fun u s10 hx => out_ok hst hf tk hW I3 cL cF f3 hx
        exact app_ok (X := X.blk s3 H4 scope ce fp) I10.unwish hD10 hz10 r10 fun s11 I11 => close I11 nx
  exact codeAny_compStart_list body (T.self X.A 0 _ _ _ st4 body)
end
end J

/-! Defs that raise out of calls: number_of, tie_of, read. -/
namespace J
open PySem PySem.Spec PyProof.Rows L2
theorem anyX {P : Program} {w : World} {K : PySem.W.Frag} {mg : Str → Option Value} {base : Heap} {CX : CXT} {k : Nat} {f : Addr} {fd : FuncData} {ps : List Str} {sp : Sp} (F : FnOk P w K mg base CX0 k f fd ps sp) : FnOk P w K mg base CX k f fd ps sp :=
  ⟨F.len, fun A outer s H args us vs Q E h1 h2 h3 h4 h5 => codeAny_mono (F.run A outer s H args us vs Q E h1 h2 h3 h4 h5) fun r s' h => by
    cases r with
    | error e => exact (show False from h).elim
    | ok fl => cases fl <;> exact h⟩
/-! ### a call that returns, or raises -/
def tCall2 (sp1 sp2 : Sp) (E : L2.St → XK) (t : TA) : TE := fun σ H Q => t σ H fun vs H1 => sp1 vs H1 Q (E σ) ∨ sp2 vs H1 Q (E σ)
theorem pe_call2 {X : Cx} {k : Nat} {f : Addr} {fd1 fd2 : FuncData} {ps1 ps2 : List Str} {sp1 sp2 : Sp} {E : L2.St → XK} {x : Str} {p pos : Pos} {e : Expr} {es : List Expr} {t : TA}
    (F1 : FnOk X.prog X.w X.K X.mg X.base CX0 k f fd1 ps1 sp1) (F2 : FnOk X.prog X.w X.K X.mg X.base (L2.CX X.prog X.w) k f fd2 ps2 sp2) (hr : Room k X.A) (hg : Gl X x) (hm : X.mg x = some (.ref f)) (hk : PySem.W.keepIn X.K (.ref f) = true) (b1 : Binds X.K fd1 ps1 []) (b2 : Binds X.K fd2 ps2 [])
    (hx : ∀ σ, PassesAt (L2.CX X.prog X.w) X σ (E σ)) (ha : PA X (e :: es) t) (hdb : (x == ("__debug__" : Str)) = false) (he : starEach (e :: es) X.env = (false, eval e X.env) :: starEach es X.env) (hpl : (backTo pos (starEach es X.env)).any (·.1) = false) :
    PE X (.Call (.Name x p) (e :: es) [] pos) (tCall2 sp1 sp2 E t) := by
  refine ⟨fun pins s0 σ H0 Q I h => wpAny_Call_Name_kw (ld_glob I hg hm ?_ hdb)⟩
  refine PySem.W.callWith_K (h₀ := X.base) I.ok.mod.kin hk (thn (ha.run pos pins s0 σ H0 _ I h) fun us s1 ⟨vs, H1, I1, r, q⟩ => ⟨I1.kIn, ?_⟩) he hpl
  rcases q with q | q
  · exact run_fnS (anyX F1) hr b1 (hx σ) I1 r q
  · exact run_fnS F2 hr b2 (hx σ) I1 r q
/-- a def with one parameter that returns, or raises -/
structure FnAt2 (C : Fam) (x : Str) (cn : Addr) (F G : List D → Option D) : Prop where
  ex : ∃ f fd1 ps1 fd2 ps2, C.mg x = some (.ref f) ∧ FnOk C.P C.w C.K C.mg C.base CX0 C.n f fd1 ps1 (spF C.K [false] F) ∧ FnOk C.P C.w C.K C.mg C.base (L2.CX C.P C.w) C.n f fd2 ps2 (spX C.K [false] cn G) ∧ PySem.W.keepIn C.K (.ref f) = true ∧ Binds C.K fd1 ps1 [] ∧ Binds C.K fd2 ps2 []
theorem fnAt2 {C : Fam} {x : Str} {cn : Addr} {F G : List D → Option D} (h1 : FnAt C x [false] F) (h2 : FnAtX C x [false] cn G) : FnAt2 C x cn F G := by
  obtain ⟨f, fd1, ps1, m1, k1, kk, b1⟩ := h1.ex
  obtain ⟨f', fd2, ps2, m2, k2, _, b2⟩ := h2.ex
  rw [m1] at m2
  cases m2
  exact ⟨f, fd1, ps1, fd2, ps2, m1, k1, k2, kk, b1, b2⟩
theorem FnAt2.blk {C : Fam} {x : Str} {cn : Addr} {F G : List D → Option D} (h : FnAt2 C x cn F G) (scope : Scope) : FnAt2 (C.blk scope) x cn F G := ⟨h.ex⟩
/-- the call, in a context that takes what it lets out -/
theorem call2 {C : Fam} {X : Cx} {x : Str} {cn : Addr} {F G : List D → Option D} {E : L2.St → XK} {p pos : Pos} {a : Expr} {t : TA} (A : FnAt2 C x cn F G) (hX : C.ok X.nox) (hg : glB C.sc x = true) (hx : ∀ σ, PassesAt (L2.CX X.prog X.w) X σ (E σ)) (ha : PA X.nox [a] t) (hp : plainX a = true) :
    PE X (.Call (.Name x p) [a] [] pos) (tCall2 (spF C.K [false] F) (spX C.K [false] cn G) E t) := by
  obtain ⟨f, fd1, ps1, fd2, ps2, m, k1, k2, kk, b1, b2⟩ := A.ex
  have e1 : X.prog = C.P := hX.hP
  have e2 : X.w = C.w := hX.hw
  have e3 : X.K = C.K := hX.hK
  have e4 : X.mg = C.mg := hX.hmg
  have e5 : X.base = C.base := hX.hb
  have e6 : X.env.scope = C.sc := hX.hsc
  refine pe_call2 (k := C.n) (f := f) (fd1 := fd1) (fd2 := fd2) (ps1 := ps1) (ps2 := ps2) ?_ ?_ hX.room (show X.env.scope.names.lookup x = _ by rw [e6]; exact (glB_ok hg).1) (by rw [e4]; exact m) (by rw [e3]; exact kk) (by rw [e3]; exact b1) (by rw [e3]; exact b2) hx (pa_nox ha) (glB_ok hg).2.1 (star_ok hp) rfl
  · rw [e1, e2, e3, e4, e5]
    exact k1
  · rw [e1, e2, e3, e4, e5]
    exact k2
/-! ### arguments that are such calls -/
def argX (kn kx : Nat) (Φ : Nat → List D → Option D) : List IE → En → Option Bool
  | [], _ => some false
  | a :: r, env => match evE Φ a env with
    | some d => (match Φ kx [d] with
      | some (.bool true) => some true
      | some (.bool false) => (match Φ kn [d] with
        | some _ => argX kn kx Φ r env
        | none => none)
      | _ => none)
    | none => none
theorem argX_cons {kn kx : Nat} {Φ : Nat → List D → Option D} {a : IE} {r : List IE} {env : En} (h : argX kn kx Φ (a :: r) env = some true) : ∃ d, evE Φ a env = some d ∧ (Φ kx [d] = some (.bool true) ∨ ∃ d', Φ kn [d] = some d' ∧ argX kn kx Φ r env = some true) := by
  unfold argX at h
  split at h
  · rename_i d hd
    refine ⟨d, hd, ?_⟩
    split at h
    · rename_i hx; exact .inl hx
    · split at h
      · rename_i d' hd'
        exact .inr ⟨d', hd', h⟩
      · cases h
    · cases h
  · cases h
theorem args_x {C : Fam} {Φ : Nat → List D → Option D} {x : Str} {cn : Addr} {kn kx : Nat} (A : FnAt2 C x cn (Φ kn) (Φ kx)) (hg : glB C.sc x = true) (W : WX) : ∀ (l : List (Expr × IE × Pos × Pos)), (∀ z ∈ l, SA C [false] [z.1] (evA Φ (.cons z.2.1 .nil)) ∧ plainX z.1 = true) →
    ∃ tA : TA, (∀ X, C.ok X.nox → Takes X W → PA X (l.map fun z => .Call (.Name x z.2.2.1) [z.1] [] z.2.2.2) tA) ∧ ∀ O σ H env Q, Re C.K O σ H env → argX kn kx Φ (l.map fun z => z.2.1) env = some true → (∀ H', Same H H' → W (.ref cn) none σ H') → tA σ H Q
  | [], _ => ⟨tNil, fun X _ _ => pa_nil, fun O σ H env Q _ h _ => by cases h⟩
  | z :: l, hl => by
    obtain ⟨tr, r1, r2⟩ := args_x A hg W l fun y hy => hl y (List.mem_cons_of_mem _ hy)
    obtain ⟨⟨ta, a1, a2⟩, hp⟩ := hl z List.mem_cons_self
    refine ⟨tCons (tCall2 (spF C.K [false] (Φ kn)) (spX C.K [false] cn (Φ kx)) (WE W) ta) tr, fun X hX tk => pa_cons (call2 A hX hg (fun σ => passAt tk σ) (a1 _ hX) hp) (r1 X hX tk) (star_ok rfl), fun O σ H env Q r h hW => ?_⟩
    obtain ⟨d, hd, h⟩ := argX_cons h
    have hA : evA Φ (.cons z.2.1 .nil) env = some [d] := by simp only [evA, hd]
    refine a2 O σ H env _ _ r hA fun vs H1 s1 ha => ?_
    rcases h with h | ⟨d', h1, h2⟩
    · exact .inr ⟨O, [d], (r.mono s1).al, ha, h, fun H' s' => hW H' (s1.trans s')⟩
    · refine .inl ⟨O, [d], d', (r.mono s1).al, ha, h1, fun v H2 s2 hv => ?_⟩
      exact r2 O σ H2 env _ ((r.mono s1).mono s2) h2 fun H' s' => hW H' ((s1.trans s2).trans s')
/-! ### a suite that raises -/
def rz (xn : Str) : List Stmt → Bool
  | [.Raise (some (.Call (.Name x _) [.Constant (.str _) _ _] [] _)) none _] => decide (x = xn)
  | _ => false
theorem rz_ok {xn : Str} {b : List Stmt} (h : rz xn b = true) : ∃ msg j p5 p6 p7 p8, b = [.Raise (some (.Call (.Name xn p5) [.Constant (.str msg) j p6] [] p7)) none p8] := by
  unfold rz at h
  split at h
  · rw [decide_eq_true_eq] at h
    subst h
    exact ⟨_, _, _, _, _, _, rfl⟩
  · cases h
section
variable {P : Program} {w : World} {K : PySem.W.Frag} {mg : Str → Option Value} {base : Heap} {x xn : Str} {params : Arguments} {scope : Scope} {body : List Stmt} {f cn : Addr} {fd : FuncData} {n : Nat} {R : Rw} {Φ : Nat → List D → Option D}
theorem pss_rz {N : List Str} {b : List Stmt} {cdv : Value} {A : Around} {outer : List Env} {s : Shared} {H : Hp} {E : XK} (hg : glB scope xn = true) (XF : ExF K mg xn cn) (h : rz xn b = true) :
    PSs (cxOf (L2.CX P w) P w K mg base N x scope f cdv A outer s H E) b (fun _ _ H' => E (.ref cn) none H') := by
  obtain ⟨msg, j, p5, p6, p7, p8, rfl⟩ := rz_ok h
  exact pss_one (ps_raise rfl (takes_of (E := E) rfl rfl rfl rfl) (pmk_own (X := cxOf (L2.CX P w) P w K mg base N x scope f cdv A outer s H E) PySem.F.excBase_ValueError XF.n XF.g XF.k (raises_own XF.b XF.t) (glB_ok hg).1 (glB_ok hg).2.1))
/-! ### the first statement raises -/
def rais0 (R : Rw) (N : List Str) (sc : Scope) (m : Nat) (xn : Str) : List Stmt → Option IS
  | .If c b [] _ :: _ => if rz xn b = true ∧ glB sc xn = true then match trE R N m sc true c with
    | some ic => if notVar ic = true then some (.seq (.ret ic) .skip) else none
    | none => none else none
  | _ => none
theorem rais0_fn {N ps : List Str} {F : Fd} {m : Nat} (hF : FunD K x x params body scope [] [] f fd) (S : FnScope N ps scope) (hR : R.ok Φ ⟨P, w, K, mg, base, N, scope, n, true⟩) (h : rais0 R N scope m xn body = some F.body) (XF : ExF K mg xn cn) (hsl : F.slots = N.length) (hbs : F.bs.length = ps.length) :
    FnOk P w K mg base (L2.CX P w) (n + 1) f fd ps (spX K F.bs cn (evF Φ F)) := by
  unfold rais0 at h
  split at h
  case h_2 => cases h
  rename_i c b p1 rest
  split at h
  case isFalse => cases h
  rename_i hb
  obtain ⟨hb, hg⟩ := hb
  split at h
  case h_2 => cases h
  rename_i ic hc
  split at h
  case isFalse => cases h
  rename_i hv
  have hFb : F.body = .seq (.ret ic) .skip := (Option.some.inj h).symm
  have hlen : ∀ vs H (Q : VK) (E : XK), spX K F.bs cn (evF Φ F) vs H Q E → vs.length = ps.length := fun vs H Q E h => by
    obtain ⟨O, ds, _, ha, hf, _⟩ := h
    rw [ha.len]
    unfold evF at hf
    split at hf
    · rename_i hl; rw [hl, hbs]
    · cases hf
  refine hF.ok S hlen (fun cdv A outer s H vs Q E hr h => ?_)
  let C : Fam := ⟨P, w, K, mg, base, N, scope, n, true⟩
  obtain ⟨tc, c1, c2⟩ := (trE_ok R N Φ m C rfl hR true _ _ hc).st
  obtain ⟨O, ds, al, ha, hf, q⟩ := h
  have ok : C.ok (cxOf (L2.CX P w) P w K mg base N x scope f cdv A outer s H E).nox := ⟨rfl, rfl, rfl, rfl, rfl, rfl, rfl, rfl, hr, rfl, fun _ _ => rfl⟩
  refine ⟨tSeq (tIfS tc _ tNext) (fun _ _ _ => False), pss_cons (ps_if (PT.nox (c1 _ ok)) (pss_rz hg XF hb) pss_nil) ⟨fun pins s σ H D I h => h.elim⟩, ?_⟩
  unfold evF at hf
  split at hf
  · rename_i hdl
    obtain ⟨O1, oa1, r1⟩ := start_rf (N := N) al ha hdl hsl
    rw [hFb] at hf
    have hy : evE Φ ic (start0 F.bs ds ++ List.replicate (F.slots - ds.length) .no) = some (.bool true) := by
      simp only [evS] at hf
      rw [evR_e hv] at hf
      cases hz : evE Φ ic (start0 F.bs ds ++ List.replicate (F.slots - ds.length) .no) with
      | none => rw [hz] at hf; cases hf
      | some d => rw [hz] at hf; dsimp only [Option.map_some] at hf; cases hf; rfl
    exact c2 O1 _ H _ _ _ r1.re hy fun H2 s2 => iteT (q H2 s2)
  · cases hf
/-! ### tie_of -/
def ieT1 : IE := .split (.bv 0) (.cs (Str.ofString "="))
def ieCn (i : Nat) : IE := .cmp .NotEq (.bi .len (.cons (.bv i) .nil)) (.ci 2)
def ieT2 : IE := .split (.ix (.bv 1) (.ci 0)) (.cs (Str.ofString "-"))
def ieA1 : IE := .ix (.bv 2) (.ci 0)
def ieA2 : IE := .ix (.bv 2) (.ci 1)
def ieA3 : IE := .ix (.bv 1) (.ci 1)
def tieXD (kn kx : Nat) (Φ : Nat → List D → Option D) : List D → Option D
  | [t] => match evE Φ ieT1 [.val t, .no, .no] with
    | some p => (match evE Φ (ieCn 1) [.val t, .val p, .no] with
      | some (.bool true) => some (.bool true)
      | some (.bool false) => (match evE Φ ieT2 [.val t, .val p, .no] with
        | some q => (match evE Φ (ieCn 2) [.val t, .val p, .val q] with
          | some (.bool true) => some (.bool true)
          | some (.bool false) => (argX kn kx Φ [ieA1, ieA2, ieA3] [.val t, .val p, .val q]).map .bool
          | _ => none)
        | none => none)
      | _ => none)
    | none => none
  | _ => none
def tieN : List Str := ["word", "parts", "places"]
def tieChk (R : Rw) (xn y : Str) (sc : Scope) : List Stmt → Bool
  | [.Assign [t1] e1 _, .If c1 b1 [] _, .Assign [t2] e2 _, .If c2 b2 [] _, .Return (some (.Tuple [.Call (.Name y1 _) [a1] [] _, .Call (.Name y2 _) [a2] [] _, .Call (.Name y3 _) [a3] [] _] _ _)) _] =>
    decide (y1 = y ∧ y2 = y ∧ y3 = y) && (glB sc y && (glB sc xn && (rz xn b1 && (rz xn b2 && (decide (trN tieN sc true t1 = some 1) && (decide (trN tieN sc true t2 = some 2) && (notComp e1 && (notComp e2
    && (decide (trE R tieN 40 sc false e1 = some ieT1) && (decide (trE R tieN 40 sc true c1 = some (ieCn 1)) && (decide (trE R tieN 40 sc false e2 = some ieT2) && (decide (trE R tieN 40 sc true c2 = some (ieCn 2))
    && (decide (trA (trE R tieN 40) sc [false] [a1] = some (.cons ieA1 .nil)) && (decide (trA (trE R tieN 40) sc [false] [a2] = some (.cons ieA2 .nil)) && decide (trA (trE R tieN 40) sc [false] [a3] = some (.cons ieA3 .nil))))))))))))))))
  | _ => false
theorem one_arg2 {K : PySem.W.Frag} {O : List Addr} {H : Hp} {vs : List V} {d : D} (h : ArgR K O H [false] vs [d]) : ∃ v, vs = [v] ∧ Dr K (mi H O) v d := by
  match vs, h with
  | [v], h => exact ⟨v, rfl, h.1⟩
  | [], h => exact h.elim
  | _ :: _ :: _, h => exact h.2.elim
theorem tie_fn {y : Str} {kn kx : Nat} (hF : FunD K x x params body scope [] [] f fd) (S : FnScope tieN ["word"] scope) (hR : R.ok Φ ⟨P, w, K, mg, base, tieN, scope, n, true⟩) (A2 : FnAt2 ⟨P, w, K, mg, base, tieN, scope, n, true⟩ y cn (Φ kn) (Φ kx)) (XF : ExF K mg xn cn) (hc : tieChk R xn y scope body = true) :
    FnOk P w K mg base (L2.CX P w) (n + 1) f fd ["word"] (spX K [false] cn (tieXD kn kx Φ)) := by
  have inv : ∀ {ds : List D} {r : D}, tieXD kn kx Φ ds = some r → ∃ t, ds = [t] := fun {ds r} h => by
    unfold tieXD at h
    split at h
    · exact ⟨_, rfl⟩
    · cases h
  have hlen : ∀ vs H (Q : VK) (E : XK), spX K [false] cn (tieXD kn kx Φ) vs H Q E → vs.length = (["word"] : List Str).length := fun vs H Q E h => by
    obtain ⟨O, ds, _, ha, hf, _⟩ := h
    obtain ⟨t, rfl⟩ := inv hf
    rw [ha.len]
    rfl
  unfold tieChk at hc
  split at hc
  case h_2 => cases hc
  rename_i t1 e1 p1 c1 b1 p2 t2 e2 p3 c2 b2 p4 y1 p5 a1 p6 y2 p7 a2 p8 y3 p9 a3 p10 tk tp p11
  simp only [Bool.and_eq_true, decide_eq_true_eq] at hc
  obtain ⟨⟨rfl, rfl, rfl⟩, k2, k3, k4, k5, k6, k7, k8, k9, k10, k11, k12, k13, k14, k15, k16⟩ := hc
  refine hF.ok S hlen (fun cdv A outer s H vs Q E hr h => ?_)
  obtain ⟨O, ds, al, ha, hf, q⟩ := h
  obtain ⟨t, rfl⟩ := inv hf
  obtain ⟨v, rfl, hv⟩ := one_arg2 ha
  let C : Fam := ⟨P, w, K, mg, base, tieN, scope, n, true⟩
  let X0 : Cx := cxOf (L2.CX P w) P w K mg base tieN x scope f cdv A outer s H E
  have ok : C.ok X0.nox := ⟨rfl, rfl, rfl, rfl, rfl, rfl, rfl, rfl, hr, rfl, fun _ _ => rfl⟩
  have T1 := trN_ok (C := C) k6
  have T2 := trN_ok (C := C) k7
  have Sn := trE_ok R tieN Φ 40
  obtain ⟨te1, r1, q1⟩ := (Sn C rfl hR _ _ _ k10).se rfl
  obtain ⟨tc1, r2, q2⟩ := (Sn C rfl hR _ _ _ k11).st
  obtain ⟨te2, r3, q3⟩ := (Sn C rfl hR _ _ _ k12).se rfl
  obtain ⟨tc2, r4, q4⟩ := (Sn C rfl hR _ _ _ k13).st
  have g1 := trA_ok (C := C) Sn rfl hR _ _ _ k14
  have g2 := trA_ok (C := C) Sn rfl hR _ _ _ k15
  have g3 := trA_ok (C := C) Sn rfl hR _ _ _ k16
  have pl : ∀ {a : Expr}, [a].all plainX = true → plainX a = true := fun {a} h => by simpa using h
  have nd : C.N.Nodup := hR.nd
  obtain ⟨tA, u1, u2⟩ := args_x (C := C) A2 k2 (fun cls d _ H => E cls d H) [(a1, ieA1, p5, p6), (a2, ieA2, p7, p8), (a3, ieA3, p9, p10)] fun z hz => by
    simp only [List.mem_cons, List.not_mem_nil, or_false] at hz
    rcases hz with rfl | rfl | rfl
    · exact ⟨g1.1, pl g1.2⟩
    · exact ⟨g2.1, pl g2.2⟩
    · exact ⟨g3.1, pl g3.2⟩
  have pA := u1 X0 ok (takes_of (E := E) rfl rfl rfl rfl)
  refine ⟨tSeq (tAsg te1 (gName 1)) (tSeq (tIfS tc1 (fun _ _ H' => E (.ref cn) none H') tNext) (tSeq (tAsg te2 (gName 2)) (tSeq (tIfS tc2 (fun _ _ H' => E (.ref cn) none H') tNext) (tSeq (tRet (tTup tA)) tNext)))),
    pss_cons (ps_nox (T1.set nd ok (r1 _ ok) k8)) (pss_cons (ps_if (PT.nox (r2 _ ok)) (pss_rz k3 XF k4) pss_nil) (pss_cons (ps_nox (T2.set nd ok (r3 _ ok) k9)) (pss_cons (ps_if (PT.nox (r4 _ ok)) (pss_rz k3 XF k5) pss_nil) (pss_cons (ps_ret (pe_tup pA)) pss_nil)))), ?_⟩
  have hst : L2.start tieN [v] = [some v, none, none] := rfl
  rw [hst]
  have re : Re K O [some v, none, none] H [.val t, .no, .no] := {
    len := rfl
    al := al
    val := fun i z q => by
      match i, q with
      | 0, q => cases q; exact ⟨_, rfl, hv⟩
      | 1, q => cases q
      | 2, q => cases q
      | i + 3, q => cases q
    own := fun i z q => by
      match i, q with
      | 0, q => cases q
      | 1, q => cases q
      | 2, q => cases q
      | i + 3, q => cases q
    bor := fun i z q => by
      match i, q with
      | 0, q => cases q
      | 1, q => cases q
      | 2, q => cases q
      | i + 3, q => cases q }
  simp only [tieXD] at hf
  split at hf
  case h_2 => cases hf
  rename_i pp hp
  refine q1 O _ H _ _ pp re hp fun v1 H1 s1 hv1 => ?_
  have re1 : Re K O [some v, some v1, none] H1 [.val t, .val pp, .no] := (re.mono s1).set (i := 1) hv1
  split at hf
  · rename_i hb
    exact q2 O _ H1 _ _ true re1 hb fun H2 s2 => iteT (q H2 (s1.trans s2))
  · rename_i hb
    refine q2 O _ H1 _ _ false re1 hb fun H2 s2 => iteF ?_
    split at hf
    case h_2 => cases hf
    rename_i qq hq
    refine q3 O _ H2 _ _ qq (re1.mono s2) hq fun v2 H3 s3 hv2 => ?_
    have re2 : Re K O [some v, some v1, some v2] H3 [.val t, .val pp, .val qq] := ((re1.mono s2).mono s3).set (i := 2) hv2
    have s13 := (s1.trans s2).trans s3
    split at hf
    · rename_i hb2
      exact q4 O _ H3 _ _ true re2 hb2 fun H4 s4 => iteT (q H4 (s13.trans s4))
    · rename_i hb2
      refine q4 O _ H3 _ _ false re2 hb2 fun H4 s4 => iteF ?_
      have hx : argX kn kx Φ [ieA1, ieA2, ieA3] [.val t, .val pp, .val qq] = some true := by
        cases hz : argX kn kx Φ [ieA1, ieA2, ieA3] [.val t, .val pp, .val qq] with
        | none => rw [hz] at hf; cases hf
        | some b => rw [hz] at hf; cases hf; rfl
      exact u2 O _ H4 _ _ (re2.mono s4) hx fun H' s' => q H' ((s13.trans s4).trans s')
    · cases hf
  · cases hf
end
end J

/-! read: an exception out of a call, or out of a comprehension. -/
namespace J
open PySem PySem.Spec PyProof.Rows L2
theorem pi_nox {X : Cx} {tg iter : Expr} {wi : TI} (h : PI X.nox tg iter wi) : PI X tg iter wi := ⟨fun pins s σ H Z I hw =>
  wpAny_mono (h.run pins s σ H Z (I.wish _) hw) (fun _ _ q => wpAny_mono q (fun _ _ ⟨it, fp, tn, J, H', e, I', T, st, f, q⟩ => ⟨it, fp, tn, J, H', e, I'.unwish, T, st, f, q⟩) fun _ _ z => z.elim) fun _ _ z => z.elim⟩
/-- the loop, where the item at j raises -/
theorem lc_raise {K : PySem.W.Frag} {tg vs : List Nat} {te : TE} {elt : En → Option D} {eltX : En → Prop} {Ex : Hp → Prop} (htg : ∀ i ∈ tg, i ∈ vs)
    (h1 : ∀ O σ H env Q d, Re K O σ H env → elt env = some d → Wk K O H d Q → te σ H Q) (h2 : ∀ O σ H env Q, Re K O σ H env → eltX env → (∀ H', Same H H' → Ex H') → te σ H Q)
    {O : List Addr} {σ : L2.St} {H : Hp} {env : En} (r : Re K O σ H env) {Jt : It} {ds : List D} {G : List (V × D)} (hJ : ItOk K Jt ds G) (hG : ∀ z ∈ G, Dr K (mi H O) z.1 z.2) (hz : ds.length ≤ 40000)
    {j : Nat} (hj : j < ds.length) (hb : ∀ i d, i < j → ds[i]? = some d → ∃ env' y, bindT tg d (wipeE env vs) = some env' ∧ elt env' = some y) (hx : ∀ d, ds[j]? = some d → ∃ env', bindT tg d (wipeE env vs) = some env' ∧ eltX env')
    {Dl : Addr} (hD : H Dl = none) (hE : ∀ H', Same H H' → Ex H') {Qd : Hp → Prop} :
    ∃ W : Nat → Nat → Hp → Prop, (∃ m, W 0 m (upd H Dl (.lst []))) ∧ ∀ i m H, W i m H →
      (Jt.stop i H ∧ Qd H) ∨ (Jt.go i H ∧ ∃ Nx : Hp → Prop, (∀ H', Nx H' → ∃ m', m' < m ∧ W (i + 1) m' H') ∧ ∀ x H', Jt.yld i H x H' → tgG K tg x (wipe σ vs) H' fun σ2 H2 => wipe σ2 vs = wipe σ vs ∧ tYes σ2 H2 fun b H3 =>
        if b = true then te σ2 H3 fun y H4 => ∃ acc, H4 Dl = some (.lst acc) ∧ acc.length < sizeLine ∧ Nx (upd H4 Dl (.lst (acc ++ [y]))) else Nx H3) := by
  refine ⟨fun i m H' => m = ds.length - i ∧ i ≤ j ∧ Same H H' ∧ ∃ us, H' Dl = some (.lst us) ∧ us.length ≤ i, ⟨ds.length, rfl, Nat.zero_le _, same_upd hD, [], upd_same, Nat.le_refl _⟩, fun i m H' hW => ?_⟩
  obtain ⟨em, hi, s, us, hl, hul⟩ := hW
  have al' : Al K (Dl :: O) H' := ⟨fun a ha => by
    rcases List.mem_cons.mp ha with rfl | ha
    · rw [hl]; rfl
    · exact (r.al.mono s).nt a ha, r.al.tb.mono s⟩
  have hG' : ∀ z ∈ G, Dr K (mi H' (Dl :: O)) z.1 z.2 := fun z hz => Dr.mono (mi_fresh hD s) _ (hG z hz)
  obtain ⟨j1, _⟩ := hJ (Dl :: O) H' al' hG' i
  have hin : i < ds.length := by omega
  obtain ⟨hgo, hy⟩ := j1 _ (List.getElem?_eq_getElem hin)
  refine .inr ⟨hgo, fun H'' => i < j ∧ Same H H'' ∧ ∃ us, H'' Dl = some (.lst us) ∧ us.length ≤ i + 1, fun H'' ⟨a1, a2, a3⟩ => ⟨ds.length - (i + 1), by omega, rfl, by omega, a2, a3⟩, fun x H2 hx2 => ?_⟩
  obtain ⟨s2, hxd⟩ := hy x H2 hx2
  have hl2 : H2 Dl = some (.lst us) := s2.at hl
  have rr : Re K (Dl :: O) (wipe σ vs) H2 (wipeE env vs) := (r.wipe vs).fresh hD (s.trans s2) (by rw [hl2]; rfl)
  have go : ∀ {env'}, bindT tg ds[i] (wipeE env vs) = some env' → (∀ σ2, Re K (Dl :: O) σ2 H2 env' → te σ2 H2 fun y H4 => ∃ acc, H4 Dl = some (.lst acc) ∧ acc.length < sizeLine ∧ (i < j ∧ Same H (upd H4 Dl (.lst (acc ++ [y]))) ∧ ∃ us, (upd H4 Dl (.lst (acc ++ [y]))) Dl = some (.lst us) ∧ us.length ≤ i + 1)) →
      tgG K tg x (wipe σ vs) H2 fun σ2 H2 => wipe σ2 vs = wipe σ vs ∧ tYes σ2 H2 fun b H3 => if b = true then te σ2 H3 fun y H4 => ∃ acc, H4 Dl = some (.lst acc) ∧ acc.length < sizeLine ∧ (i < j ∧ Same H (upd H4 Dl (.lst (acc ++ [y]))) ∧ ∃ us, (upd H4 Dl (.lst (acc ++ [y]))) Dl = some (.lst us) ∧ us.length ≤ i + 1) else (i < j ∧ Same H H3 ∧ ∃ us, H3 Dl = some (.lst us) ∧ us.length ≤ i + 1) := fun {env'} hbi k =>
    tgG_run (Pr := fun σ' e' => Re K (Dl :: O) σ' H2 e' ∧ wipe σ' vs = wipe σ vs) (fun σ' e' i' v d hi' hp hv => ⟨hp.1.set hv, by rw [wipe_set (htg i' hi')]; exact hp.2⟩) ⟨rr, wipe_wipe vs vs fun _ h => h⟩ hxd hbi fun σ2 hp => ⟨hp.2, by
      unfold tYes
      dsimp only
      rw [if_pos rfl]
      exact k σ2 hp.1⟩
  by_cases hij : i < j
  · obtain ⟨env', y, hbi, hey⟩ := hb i _ hij (List.getElem?_eq_getElem hin)
    refine go hbi fun σ2 hp => h1 _ σ2 H2 env' _ _ hp hey fun v H4 s4 hv => ?_
    have hl4 : H4 Dl = some (.lst us) := s4.at hl2
    exact ⟨us, hl4, szlt (by omega), hij, ((s.trans s2).trans s4).upd hD (by rw [hl4]; rfl), us ++ [v], upd_same, by rw [List.length_append]; show us.length + 1 ≤ i + 1; omega⟩
  · have e : i = j := by omega
    subst e
    obtain ⟨env', hbi, hxx⟩ := hx _ (List.getElem?_eq_getElem hin)
    exact go hbi fun σ2 hp => h2 _ σ2 H2 env' _ hp hxx fun H' s' => hE H' ((s.trans s2).trans s')
/-! ### read -/
def ieR0 : IE := .nt (.isi .str (.bv 0))
def ieR1 : IE := .split (.bv 0) (.cs (Str.ofString " "))
def ieR2 : IE := .or (.cmp .Lt (.bi .len (.cons (.bv 1) .nil)) (.ci 2)) (.cmp .NotEq (.ix (.bv 1) (.ci 1)) (.cs (Str.ofString ":")))
def ieRa : IE := .ix (.bv 1) (.ci 0)
def ieRs : IE := .sl (.bv 1) (.ci 2) .nil
def ieR3 (kn kt : Nat) : IE := .tup (.cons (.call kn (.cons ieRa .nil)) (.cons (.bi .tuple (.cons (.comp (.call kt (.cons (.var 3) .nil)) [3] ieRs .nil [3]) .nil)) .nil))
def ieR4 (kw kp : Nat) : IE := .or (.nt (.call kw (.cons (.var 2) .nil))) (.cmp .NotEq (.call kp (.cons (.var 2) .nil)) (.bv 0))
def wordsX (kt tx : Nat) (Φ : Nat → List D → Option D) : List D → Option Bool
  | [] => some false
  | d :: r => match Φ tx [d] with
    | some (.bool true) => some true
    | some (.bool false) => (match Φ kt [d] with
      | some _ => wordsX kt tx Φ r
      | none => none)
    | _ => none
theorem wordsX_true {kt tx : Nat} {Φ : Nat → List D → Option D} : ∀ {ds : List D}, wordsX kt tx Φ ds = some true → ∃ j, j < ds.length ∧ (∀ i d, i < j → ds[i]? = some d → ∃ y, Φ kt [d] = some y) ∧ ∀ d, ds[j]? = some d → Φ tx [d] = some (.bool true)
  | [], h => by cases h
  | d :: r, h => by
    unfold wordsX at h
    split at h
    · rename_i hx
      exact ⟨0, by simp, fun i d hi => by omega, fun z hz => by cases hz; exact hx⟩
    · split at h
      · rename_i y hy
        obtain ⟨j, h1, h2, h3⟩ := wordsX_true h
        refine ⟨j + 1, by simpa using h1, fun i z hi hz => ?_, fun z hz => h3 z hz⟩
        cases i with
        | zero => cases hz; exact ⟨y, hy⟩
        | succ i => exact h2 i z (by omega) hz
      · cases h
    · cases h
def readXD (kn nx kt tx kw kp : Nat) (Φ : Nat → List D → Option D) : List D → Option D
  | [t] => match evE Φ ieR0 [.val t, .no, .no, .no] with
    | some (.bool false) => (match evE Φ ieR1 [.val t, .no, .no, .no] with
      | some ws => (match evE Φ ieR2 [.val t, .val ws, .no, .no] with
        | some (.bool true) => some (.bool true)
        | some (.bool false) => (match argX kn nx Φ [ieRa] [.val t, .val ws, .no, .no] with
          | some true => some (.bool true)
          | some false => (match evI Φ ieRs [.val t, .val ws, .no, .no] with
            | some ds => if ds.length ≤ 40000 then (match wordsX kt tx Φ ds with
              | some true => some (.bool true)
              | some false => (match evE Φ (ieR3 kn kt) [.val t, .val ws, .no, .no] with
                | some d => evE Φ (ieR4 kw kp) [.val t, .val ws, .val d, .no]
                | none => none)
              | none => none) else none
            | none => none)
          | none => none)
        | _ => none)
      | none => none)
    | _ => none
  | _ => none
def readN : List Str := ["text", "words", "found", "word"]
def readChk (R : Rw) (kn kt kw kp : Nat) (xn y z : Str) (sc : Scope) : List Stmt → Bool
  | .If c0 b0 [] _ :: .Assign [t1] e1 _ :: .If c1 b1 [] _ :: .Assign [t2] (.Tuple [.Call (.Name y1 p1) [a1] [] q1, .Call (.Name y2 p2) [.ListComp (.Call (.Name y3 p3) [a3] [] q3) [⟨tg, iter, [], 0⟩] cs lp] [] q2] kk tp) _ :: .If c2 b2 [] _ :: _ =>
    decide (y1 = y ∧ y2 = "tuple" ∧ y3 = z) && (glB sc y && (glB sc "tuple" && (glB (relS cs sc) z && (decide (("tuple" : Str) ∈ R.frs) && (glB sc xn && (rz xn b0 && (rz xn b1 && (rz xn b2 && (decide (trN readN sc true t1 = some 1) && (decide (trN readN sc true t2 = some 2) && (notComp e1 && (decide (trE R readN 40 sc true c0 = some ieR0) && (decide (trE R readN 40 sc false e1 = some ieR1) && (decide (trE R readN 40 sc true c1 = some ieR2) && (decide (trA (trE R readN 40) sc [false] [a1] = some (.cons ieRa .nil)) && (decide (trA (trE R readN 40) (relS cs sc) [false] [a3] = some (.cons (.var 3) .nil)) && (decide (trComp R readN (trE R readN 40) sc (.Call (.Name y3 p3) [a3] [] q3) tg iter [] cs = some (.comp (.call kt (.cons (.var 3) .nil)) [3] ieRs .nil [3])) && (decide (trE R readN 40 sc false (.Tuple [.Call (.Name y1 p1) [a1] [] q1, .Call (.Name y2 p2) [.ListComp (.Call (.Name y3 p3) [a3] [] q3) [⟨tg, iter, [], 0⟩] cs lp] [] q2] kk tp) = some (ieR3 kn kt)) && (decide (trE R readN 40 sc true c2 = some (ieR4 kw kp)))))))))))))))))))))
  | _ => false
theorem TgN.setX {C : Fam} {x e : Expr} {i : Nat} {pos : Pos} (h : TgN C x i) (nd : C.N.Nodup) {X : Cx} (hX : C.ok X.nox) {t : TE} (he : PE X e t) (hn : notComp e = true) : PS X (.Assign [x] e pos) (tAsg t (gName i)) := by
  have e1 : X.N = C.N := hX.hN
  have e2 : X.env.scope = C.sc := hX.hsc
  cases h with
  | mk hi hx =>
    refine ps_set (by rw [e1]; exact nd) (by rw [e1]; exact hi) ?_ he (sw_no hn) ?_
    · rcases hx with hx | hx
      · exact .inl (by rw [e2]; exact hx)
      · exact .inr (by rw [e2]; exact hx.1)
    · rcases hx with hx | hx
      · exact .inr (by rw [e2]; exact hx)
      · exact .inl (hX.fn hx.2 _)
section
variable {P : Program} {w : World} {K : PySem.W.Frag} {mg : Str → Option Value} {base : Heap} {x xn : Str} {params : Arguments} {scope : Scope} {body : List Stmt} {f cn : Addr} {fd : FuncData} {n : Nat} {R : Rw} {Φ : Nat → List D → Option D}
theorem read_fn {y z : Str} {kn nx kt tx kw kp : Nat} (hF : FunD K x x params body scope [] [] f fd) (S : FnScope readN ["text"] scope) (hR : R.ok Φ ⟨P, w, K, mg, base, readN, scope, n, true⟩) (A2 : FnAt2 ⟨P, w, K, mg, base, readN, scope, n, true⟩ y cn (Φ kn) (Φ nx)) (A3 : FnAt2 ⟨P, w, K, mg, base, readN, scope, n, true⟩ z cn (Φ kt) (Φ tx))
    (XF : ExF K mg xn cn) (hc : readChk R kn kt kw kp xn y z scope body = true) : FnOk P w K mg base (L2.CX P w) (n + 1) f fd ["text"] (spX K [false] cn (readXD kn nx kt tx kw kp Φ)) := by
  have inv : ∀ {ds : List D} {r : D}, readXD kn nx kt tx kw kp Φ ds = some r → ∃ t, ds = [t] := fun {ds r} h => by
    unfold readXD at h
    split at h
    · exact ⟨_, rfl⟩
    · cases h
  have hlen : ∀ vs H (Q : VK) (E : XK), spX K [false] cn (readXD kn nx kt tx kw kp Φ) vs H Q E → vs.length = (["text"] : List Str).length := fun vs H Q E h => by
    obtain ⟨O, ds, _, ha, hf, _⟩ := h
    obtain ⟨t, rfl⟩ := inv hf
    rw [ha.len]
    rfl
  unfold readChk at hc
  split at hc
  case h_2 => cases hc
  rename_i c0 b0 p0 t1 e1 p1 c1 b1 p2 t2 y1 p3 a1 q1 y2 p4 y3 p5 a3 q3 tg iter cs lp q2 kk tp p6 c2 b2 p7 rest
  simp only [Bool.and_eq_true, decide_eq_true_eq] at hc
  obtain ⟨⟨rfl, rfl, rfl⟩, k2, k3, k4, k5, k6, k7, k8, k9, k10, k11, k12, k13, k14, k15, k16, k17, k18, k19, k20⟩ := hc
  refine hF.ok S hlen (fun cdv A outer s H vs Q E hr h => ?_)
  obtain ⟨O, ds, al, ha, hf, q⟩ := h
  obtain ⟨t, rfl⟩ := inv hf
  obtain ⟨v, rfl, hv⟩ := one_arg2 ha
  let C : Fam := ⟨P, w, K, mg, base, readN, scope, n, true⟩
  let X0 : Cx := cxOf (L2.CX P w) P w K mg base readN x scope f cdv A outer s H E
  have ok : C.ok X0.nox := ⟨rfl, rfl, rfl, rfl, rfl, rfl, rfl, rfl, hr, rfl, fun _ _ => rfl⟩
  have tk0 : Takes X0 (fun cls d _ H => E cls d H) := takes_of (E := E) rfl rfl rfl rfl
  have T1 := trN_ok (C := C) k10
  have T2 := trN_ok (C := C) k11
  have Sn := trE_ok R readN Φ 40
  obtain ⟨tc0, r0, q0⟩ := (Sn C rfl hR _ _ _ k13).st
  obtain ⟨te1, r1, q1'⟩ := (Sn C rfl hR _ _ _ k14).se rfl
  obtain ⟨tc1, r2, q2'⟩ := (Sn C rfl hR _ _ _ k15).st
  obtain ⟨te3, r3, q3'⟩ := (Sn C rfl hR _ _ _ k19).se rfl
  obtain ⟨tc2, r4, q4'⟩ := (Sn C rfl hR _ _ _ k20).st
  have g1 := trA_ok (C := C) Sn rfl hR _ _ _ k16
  have g3 := trA_ok (C := C.blk cs) Sn rfl (hR.blk cs) _ _ _ k17
  obtain ⟨⟨ta3, a31, a32⟩, pl3⟩ := g3
  have pl : ∀ {a : Expr}, [a].all plainX = true → plainX a = true := fun {a} h => by simpa using h
  have nd : C.N.Nodup := hR.nd
  obtain ⟨tA, u1, u2⟩ := args_x (C := C) A2 k2 (fun cls d _ H => E cls d H) [(a1, ieRa, p3, q1)] fun z hz => by
    rw [List.mem_singleton.mp hz]
    exact ⟨g1.1, pl g1.2⟩
  obtain ⟨⟨ta1, a11, a12⟩, pl1⟩ := g1
  -- number_of(..), either way
  have pe1 : PE X0 (.Call (.Name y1 p3) [a1] [] q1) (tCall2 (spF K [false] (Φ kn)) (spX K [false] cn (Φ nx)) (WE fun cls d _ H => E cls d H) ta1) := call2 (C := C) A2 ok k2 (fun σ => passAt tk0 σ) (a11 _ ok) (pl pl1)
  -- the comprehension, either way
  obtain ⟨ee, tgl, src, cond, vs', ec, i1, i2, i3, i4, i5, i6, i7⟩ := trComp_parts (C := C) Sn rfl hR k18
  cases ec
  obtain ⟨wi, w1, w2⟩ := i1
  have peL : PE X0 (.ListComp (.Call (.Name y3 p5) [a3] [] q3) [⟨tg, iter, [], 0⟩] cs lp) (tLc wi (tgG K [3]) tYes (tCall2 (spF K [false] (Φ kt)) (spX K [false] cn (Φ tx)) (fun _ => E) ta3) [3]) := by
    refine ⟨fun pins s0 σ H0 Q0 I h0 => ?_⟩
    rw [eval_ListComp]
    have e3 : (ownOf C.N [3]).map (·.2) = [3] := ownOf_snd _ _
    refine lcx (own := ownOf C.N [3]) (W := fun cls d _ H => E cls d H) (E := E) rfl rfl tk0 (fun _ _ _ h => h) rfl nd I (pi_nox (w1 _ ok)) i3 (fun s H A cl fp => i4.pg nd ok.blk) (fun s H A cl fp => pts_nil) (fun s1 H1 A1 cl fp => ?_) (nofold i2) (by rw [e3]; exact h0)
    refine call2 (C := C.blk cs) (X := (X0.blk s1 H1 cs (compEnvC cs cl A1 X0.env) fp).tr [] (OutX X0 (X0.blk s1 H1 cs (compEnvC cs cl A1 X0.env) fp) E)) (A3.blk cs) ok.blk k4 (fun σ pins H s e s' I2 c => ⟨pins, σ, H, s, I2.unwish, c⟩) (a31 _ ok.blk) (pl pl3)
  have peT := pe_tupleOf (p := p4) (pos := q2) (show Gl X0 "tuple" from (glB_ok k3).1) (hR.fr _ k5) peL (star_ok rfl)
  have pA2 : PA X0 [.Call (.Name y1 p3) [a1] [] q1, .Call (.Name "tuple" p4) [.ListComp (.Call (.Name y3 p5) [a3] [] q3) [⟨tg, iter, [], 0⟩] cs lp] [] q2] _ := pa_cons pe1 (pa_cons peT pa_nil (star_ok rfl)) (star_ok rfl)
  have hst : L2.start readN [v] = [some v, none, none, none] := rfl
  have re : Re K O [some v, none, none, none] H [.val t, .no, .no, .no] := {
    len := rfl
    al := al
    val := fun i z q => by
      match i, q with
      | 0, q => cases q; exact ⟨_, rfl, hv⟩
      | 1, q => cases q
      | 2, q => cases q
      | 3, q => cases q
      | i + 4, q => cases q
    own := fun i z q => by
      match i, q with
      | 0, q => cases q
      | 1, q => cases q
      | 2, q => cases q
      | 3, q => cases q
      | i + 4, q => cases q
    bor := fun i z q => by
      match i, q with
      | 0, q => cases q
      | 1, q => cases q
      | 2, q => cases q
      | 3, q => cases q
      | i + 4, q => cases q }
  have nev : ∀ {sts : List Stmt}, PSs X0 sts (fun _ _ _ => False) := fun {sts} => ⟨fun pins s σ H D I h => h.elim⟩
  have P0 := ps_if (pos := p0) (PT.nox (r0 _ ok)) (pss_rz (P := P) (w := w) (base := base) (x := x) (f := f) (N := readN) (cdv := cdv) (A := A) (outer := outer) (s := s) (H := H) (E := E) k6 XF k7) pss_nil
  have P1 := ps_nox (X := X0) (T1.set (pos := p1) nd ok (r1 _ ok) k12)
  have P2 := ps_if (pos := p2) (PT.nox (r2 _ ok)) (pss_rz (P := P) (w := w) (base := base) (x := x) (f := f) (N := readN) (cdv := cdv) (A := A) (outer := outer) (s := s) (H := H) (E := E) k6 XF k8) pss_nil
  have P4 := ps_if (pos := p7) (PT.nox (r4 _ ok)) (pss_rz (P := P) (w := w) (base := base) (x := x) (f := f) (N := readN) (cdv := cdv) (A := A) (outer := outer) (s := s) (H := H) (E := E) k6 XF k9) pss_nil
  have P3n := ps_nox (X := X0) (T2.set (pos := p6) nd ok (r3 _ ok) rfl)
  have P3x := TgN.setX (pos := p6) T2 nd ok (pe_tup (pos := tp) (x1 := kk) pA2) rfl
  rw [hst]
  simp only [readXD] at hf
  split at hf
  case h_2 => cases hf
  rename_i hb0
  split at hf
  case h_2 => cases hf
  rename_i ws hws
  have go2 : ∀ {T : TS}, (∀ v1 H3, Same H H3 → Re K O [some v, some v1, none, none] H3 [.val t, .val ws, .no, .no] → T { nx := fun _ H' => Q .non H', rt := Q } [some v, some v1, none, none] H3) → tSeq (tIfS tc0 (fun _ _ H' => E (.ref cn) none H') tNext) (tSeq (tAsg te1 (gName 1)) T) { nx := fun _ H' => Q .non H', rt := Q } [some v, none, none, none] H := fun {T} k => by
    refine q0 O _ H _ _ false re hb0 fun H1 s1 => iteF ?_
    refine q1' O _ H1 _ _ ws (re.mono s1) hws fun v1 H2 s2 hv1 => ?_
    exact k v1 H2 (s1.trans s2) (((re.mono s1).mono s2).set (i := 1) hv1)
  split at hf
  · rename_i hb1
    exact ⟨_, pss_cons P0 (pss_cons P1 (pss_cons P2 nev)), go2 fun v1 H3 s3 re1 => q2' O _ H3 _ _ true re1 hb1 fun H4 s4 => iteT (q H4 (s3.trans s4))⟩
  · rename_i hb1
    split at hf
    · -- number_of raises
      rename_i hx
      refine ⟨_, pss_cons P0 (pss_cons P1 (pss_cons P2 (pss_cons P3x nev))), go2 fun v1 H3 s3 re1 => q2' O _ H3 _ _ false re1 hb1 fun H4 s4 => iteF ?_⟩
      obtain ⟨d, hd, h⟩ := argX_cons hx
      have hA : evA Φ (.cons ieRa .nil) [.val t, .val ws, .no, .no] = some [d] := by simp only [evA, hd]
      refine a12 O _ H4 _ _ _ (re1.mono s4) hA fun vs5 H5 s5 ha5 => ?_
      rcases h with h | ⟨d', _, h2⟩
      · exact .inr ⟨O, [d], ((re1.mono s4).mono s5).al, ha5, h, fun H' s' => q H' (((s3.trans s4).trans s5).trans s')⟩
      · cases h2
    · rename_i hx
      split at hf
      case h_2 => cases hf
      rename_i dw hdw
      split at hf
      case isFalse => cases hf
      rename_i hlw
      split at hf
      · -- tie_of raises
        rename_i hxw
        refine ⟨_, pss_cons P0 (pss_cons P1 (pss_cons P2 (pss_cons P3x nev))), go2 fun v1 H3 s3 re1 => q2' O _ H3 _ _ false re1 hb1 fun H4 s4 => iteF ?_⟩
        have hok : ∃ d d', evE Φ ieRa [.val t, .val ws, .no, .no] = some d ∧ Φ kn [d] = some d' := by
          unfold argX at hx
          split at hx
          · rename_i d hd
            split at hx
            · cases hx
            · split at hx
              · rename_i d' hd'
                exact ⟨d, d', hd, hd'⟩
              · cases hx
            · cases hx
          · cases hx
        obtain ⟨d, d', hd, hd'⟩ := hok
        have hA : evA Φ (.cons ieRa .nil) [.val t, .val ws, .no, .no] = some [d] := by simp only [evA, hd]
        refine a12 O _ H4 _ _ _ (re1.mono s4) hA fun vs5 H5 s5 ha5 => .inl ⟨O, [d], d', ((re1.mono s4).mono s5).al, ha5, hd', fun v6 H6 s6 hv6 => ?_⟩
        have re6 := ((re1.mono s4).mono s5).mono s6
        have s36 := ((s3.trans s4).trans s5).trans s6
        obtain ⟨j, j1, j2, j3⟩ := wordsX_true hxw
        refine w2 O _ H6 _ _ dw re6 hdw fun Jt H7 G s7 hJ hG Dl hD => ?_
        have bnd : ∀ z : D, bindT [3] z (wipeE [.val t, .val ws, .no, .no] [3]) = some [.val t, .val ws, .no, .val z] := fun z => rfl
        refine lc_raise (te := tCall2 (spF K [false] (Φ kt)) (spX K [false] cn (Φ tx)) (fun _ => E) ta3) (elt := evE Φ (.call kt (.cons (.var 3) .nil))) (eltX := fun env => ∃ z, evA Φ (.cons (.var 3) .nil) env = some [z] ∧ Φ tx [z] = some (.bool true)) (Ex := fun H' => E (.ref cn) none H') i5 (fun O' σ' H' env' Q' d2 r' he hq => ?_) (fun O' σ' H' env' Q' r' he hE => ?_)
          (re6.mono s7) hJ hG hlw j1 (fun i z hi hz => ?_) (fun z hz => ?_) hD (fun H' s' => q H' ((s36.trans s7).trans s'))
        · simp only [evE] at he
          split at he
          · cases he
          · rename_i zs hzs
            exact a32 O' σ' H' env' _ _ r' hzs fun vs8 H8 s8 ha8 => .inl ⟨O', zs, d2, (r'.mono s8).al, ha8, he, fun v9 H9 s9 hv9 => hq v9 H9 (s8.trans s9) hv9⟩
        · obtain ⟨z, hz1, hz2⟩ := he
          exact a32 O' σ' H' env' _ _ r' hz1 fun vs8 H8 s8 ha8 => .inr ⟨O', [z], (r'.mono s8).al, ha8, hz2, fun H9 s9 => hE H9 (s8.trans s9)⟩
        · obtain ⟨y, hy⟩ := j2 i z hi hz
          refine ⟨_, y, bnd z, ?_⟩
          simp only [evE, evA, getV, List.getElem?_cons_succ, List.getElem?_cons_zero]
          exact hy
        · refine ⟨_, bnd z, z, ?_, j3 z hz⟩
          simp only [evE, evA, getV, List.getElem?_cons_succ, List.getElem?_cons_zero]
      · -- no web's writing
        rename_i hxw
        split at hf
        case h_2 => cases hf
        rename_i dd hdd
        refine ⟨_, pss_cons P0 (pss_cons P1 (pss_cons P2 (pss_cons P3n (pss_cons P4 nev)))), go2 fun v1 H3 s3 re1 => q2' O _ H3 _ _ false re1 hb1 fun H4 s4 => iteF ?_⟩
        refine q3' O _ H4 _ _ dd (re1.mono s4) hdd fun v2 H5 s5 hv2 => ?_
        have re2 : Re K O [some v, some v1, some v2, none] H5 [.val t, .val ws, .val dd, .no] := ((re1.mono s4).mono s5).set (i := 2) hv2
        exact q4' O _ H5 _ _ true re2 hf fun H6 s6 => iteT (q H6 (((s3.trans s4).trans s5).trans s6))
      · cases hf
    · cases hf
  · cases hf
end
end J

/-! try: found = read(text), except .. as e: .. -/
namespace J
open PySem PySem.Spec PyProof.Rows L2
/-- what such a def tells: rx whether the call raises, kr what it returns -/
def tryF (kr rx : Nat) (exc : D) (ret : IE) (m : Nat) (Φ : Nat → List D → Option D) : List D → Option D
  | [t] => match Φ rx [t] with
    | some (.bool true) => some exc
    | some (.bool false) => (match Φ kr [t] with
      | some d => evE Φ ret (.val t :: .val d :: List.replicate m .no)
      | none => none)
    | _ => none
  | _ => none
theorem tryF_inv {kr rx m : Nat} {exc r : D} {ret : IE} {Φ : Nat → List D → Option D} {ds : List D} (h : tryF kr rx exc ret m Φ ds = some r) :
    ∃ t, ds = [t] ∧ ((Φ rx [t] = some (.bool true) ∧ r = exc) ∨ ∃ d, Φ kr [t] = some d ∧ evE Φ ret (.val t :: .val d :: List.replicate m .no) = some r) := by
  unfold tryF at h
  split at h
  · rename_i t
    refine ⟨t, rfl, ?_⟩
    split at h
    · rename_i hx
      cases h
      exact .inl ⟨hx, rfl⟩
    · split at h
      · rename_i d hd
        exact .inr ⟨d, hd, h⟩
      · cases h
    · cases h
  · cases h
/-- how isinstance answers of an exception of the class at cn -/
structure ExJ (K : PySem.W.Frag) (mg : Str → Option Value) (cn : Addr) (x : Str) (c : Addr) (b : Bool) : Prop where
  g : mg x = some (.ref c)
  k : PySem.W.kitOne K (.ref cn) (.ref c) = some b
section
variable {P : Program} {w : World} {K : PySem.W.Frag} {mg : Str → Option Value} {base : Heap} {x g xn xj xt en : Str} {params : Arguments} {scope : Scope} {f cn cx cj ct : Addr} {fd : FuncData} {N : List Str} {n i kr rx m : Nat} {R : Rw} {Φ : Nat → List D → Option D} {exc : D} {ret : IE}
/-- what the and of the three tests asks -/
abbrev tAnd3 (K : PySem.W.Frag) (cn cj ct a : Addr) (i : Nat) : TE := tAndV (tCB (rIsE K cn a) (tCons (tVar i) (tCons (tC (.ref cj)) tNil))) (tAndV (tCB (rIsE K cn a) (tCons (tVar i) (tCons (tC (.ty "ValueError")) tNil))) (tNotV (tCB (rIsE K cn a) (tCons (tVar i) (tCons (tC (.ref ct)) tNil)))))
theorem and3_run {a : Addr} {σ : L2.St} {H : Hp} {Q : VK} (hv : σ[i]? = some (some (.ref a))) (kj : PySem.W.kitOne K (.ref cn) (.ref cj) = some true) (kv : PySem.W.kitOne K (.ref cn) (.type "ValueError") = some true) (kt : PySem.W.kitOne K (.ref cn) (.ref ct) = some false) (q : Q (.bl true) H) : tAnd3 K cn cj ct a i σ H Q :=
  ⟨.ref a, hv, .ref cj, .ref cj, true, rfl, fun u h => h, kj, true, rfl, iteT ⟨.ref a, hv, .ty "ValueError", .type "ValueError", true, rfl, fun u h => h, kv, true, rfl, iteT ⟨.ref a, hv, .ref ct, .ref ct, false, rfl, fun u h => h, kt, false, rfl, q⟩⟩⟩
theorem and3_pe {X : Cx} {a : Addr} {oe : Obj} {pn : List (Addr × Obj)} {pb pn2 q1 q2 q3 q4 q5 q6 q7 q8 q9 q10 q11 q12 : Pos} (hN : X.N = N) (hs : X.env.scope = scope) (hm : X.mg = mg) (hK : X.K = K) (ec : ExcC K cn) (hz : Zc (.ref cn) none oe) (hfl : ∃ vs, oe.data = .fields vs)
    (hi : N[i]? = some en) (hen : visB scope en = true) (hgj : glB scope xj = true) (hgt : glB scope xt = true) (hgv : glB scope "ValueError" = true) (hgi : glB scope "isinstance" = true) (hmv : mg "ValueError" = none) (hmi : mg "isinstance" = none) (gj : mg xj = some (.ref cj)) (gt : mg xt = some (.ref ct)) :
    PE (X.suite a ((a, oe) :: pn)) (.BoolOp .And [isiE en (.Name xj q3) q1 q2 q4, isiE en (.Name "ValueError" q7) q5 q6 q8, .UnaryOp .Not (isiE en (.Name xt q11) q9 q10 q12) pn2] pb) (tAnd3 K cn cj ct a i) := by
  subst hN hs hm hK
  have vis := visB_ok hen
  have isi : ∀ {y : Expr} {c : V} {p1 p2 p4 : Pos}, plainX y = true → PE (X.suite a ((a, oe) :: pn)) y (tC c) → PE (X.suite a ((a, oe) :: pn)) (isiE en y p1 p2 p4) (tCB (rIsE X.K cn a) (tCons (tVar i) (tCons (tC c) tNil))) := fun {y c p1 p2 p4} hp hy =>
    pe_callB (call_isE ec hz hfl) (show Gl (X.suite a ((a, oe) :: pn)) "isinstance" from (glB_ok hgi).1) hmi (by decide +kernel) (pa_cons (pe_var hi vis.1 vis.2.1 vis.2.2) (pa_cons hy pa_nil (star_ok hp)) (star_ok rfl)) (by decide) (by decide) (star_ok rfl) (star_any (by rw [List.all_cons, hp]; rfl))
  exact pe_and (isi rfl (pe_glob (v := .ref cj) (show Gl (X.suite a ((a, oe) :: pn)) xj from (glB_ok hgj).1) gj rfl (glB_ok hgj).2.1)) (pe_and (isi rfl (pe_bltn (v := .ty "ValueError") (show Gl (X.suite a ((a, oe) :: pn)) "ValueError" from (glB_ok hgv).1) hmv (show bootBuiltins ("ValueError" : Str) = some (.type "ValueError") by decide +kernel) rfl))
    (pe_one (pe_not (isi rfl (pe_glob (v := .ref ct) (show Gl (X.suite a ((a, oe) :: pn)) xt from (glB_ok hgt).1) gt rfl (glB_ok hgt).2.1)))))
/-- the def, given how its suite runs -/
theorem try_fn {pg pc pe np pos pos' pr : Pos} {a0 er : Expr} {t1 : Expr} {b0 : Stmt} {suite : List Stmt} {tsu : Addr → TS}
    (hF : FunD K x x params [.Try [.Assign [t1] (.Call (.Name g pg) [a0] [] pc) pe] [.ExceptHandler (some (.Name xn np)) (some en) (b0 :: suite) pos'] [] [] pos, .Return (some er) pr] scope [] [] f fd)
    (S : FnScope N ["text"] scope) (hR : R.ok Φ ⟨P, w, K, mg, base, N, scope, n, true⟩) (hG : FnAtX ⟨P, w, K, mg, base, N, scope, n, true⟩ g [false] cn (Φ rx)) (hN : N.length = m + 2) (hT : trN N scope true t1 = some 1) (hC : trE R N 40 scope false (.Call (.Name g pg) [a0] [] pc) = some (.call kr (.cons (.var 0) .nil)))
    (hA : trA (trE R N 40) scope [false] [a0] = some (.cons (.var 0) .nil)) (hE : trE R N 40 scope false er = some ret) (hgg : glB scope g = true) (hgn : glB scope xn = true) (hi : N[i]? = some en) (hi2 : 2 ≤ i) (hel : scope.names.lookup en = some .local)
    (gx : mg xn = some (.ref cx)) (ex : PySem.W.exmOne K (.ref cn) (.ref cx) = some true)
    (hsu : ∀ (cdv : Value) (A : Around) (outer : List Env) (s : Shared) (H : Hp) (E : XK) (a : Addr) (oe : Obj) (pn : List (Addr × Obj)), Zc (.ref cn) none oe → (∃ vs, oe.data = .fields vs) → PSs ((cxOf CX0 P w K mg base N x scope f cdv A outer s H E).suite a ((a, oe) :: pn)) (b0 :: suite) (tsu a))
    (hrun : ∀ (a : Addr) (O : List Addr) (σ : L2.St) (H : Hp) (D : Ends), σ.length = N.length → σ[i]? = some (some (.ref a)) → Al K O H → (∀ v H', Same H H' → Dr K (mi H' O) v exc → D.rt v H') → tsu a D σ H) :
    FnOk P w K mg base CX0 (n + 1) f fd ["text"] (spF K [false] (tryF kr rx exc ret m Φ)) := by
  have hlen : ∀ vs H (Q : VK) (E : XK), spF K [false] (tryF kr rx exc ret m Φ) vs H Q E → vs.length = (["text"] : List Str).length := fun vs H Q E h => by
    obtain ⟨O, ds, d, _, ha, hf, _⟩ := h
    obtain ⟨t, rfl, _⟩ := tryF_inv hf
    rw [ha.len]
    rfl
  refine hF.ok S hlen (fun cdv A outer s H vs Q E hr h => ?_)
  let C : Fam := ⟨P, w, K, mg, base, N, scope, n, true⟩
  let X0 : Cx := cxOf CX0 P w K mg base N x scope f cdv A outer s H E
  have ok : C.ok X0.nox := ⟨rfl, rfl, rfl, rfl, rfl, rfl, rfl, rfl, hr, rfl, fun _ _ => rfl⟩
  have Sn := trE_ok R N Φ 40
  have T1 := trN_ok (C := C) hT
  have nd : C.N.Nodup := hR.nd
  obtain ⟨tcl, c1, c2⟩ := (Sn C rfl hR _ _ _ hC).se rfl
  obtain ⟨ter, e1, e2⟩ := (Sn C rfl hR _ _ _ hE).se rfl
  obtain ⟨⟨ta, b1, b2⟩, hpl⟩ := trA_ok (C := C) Sn rfl hR _ _ _ hA
  obtain ⟨fg, fdg, psg, m1, m2, m3, m4⟩ := hG.ex
  obtain ⟨O, ds, d, al, ha, hf, q⟩ := h
  obtain ⟨t, rfl, hcase⟩ := tryF_inv hf
  obtain ⟨O1, oa1, r1⟩ := start_rf (N := N) al ha rfl rfl
  have est : start0 [false] [t] ++ List.replicate (N.length - [t].length) Sl.no = .val t :: .no :: List.replicate m .no := by
    rw [hN, show m + 2 - [t].length = m + 1 by simp]
    rfl
  rw [est] at r1
  have re := r1.re
  obtain ⟨v, rfl, hv0⟩ := one_arg2 ha
  have hlN : (L2.start N [v]).length = N.length := by
    rw [re.len, hN]
    simp
  have oO : O1 = O ∨ True := .inr trivial
  rcases hcase with ⟨hx, rfl⟩ | ⟨d1, hd1, hret⟩
  · -- it raises
    let ts : Addr → Value → Option Addr → TS := fun a cls d D σ H => cls = .ref cn ∧ d = none ∧ tsu a D σ H
    have try1 : PS X0 (.Try [.Assign [t1] (.Call (.Name g pg) [a0] [] pc) pe] [.ExceptHandler (some (.Name xn np)) (some en) (b0 :: suite) pos'] [] [] pos) (fun D σ H => tAsg (tCallS (spX K [false] cn (Φ rx)) (WE (wAs X0.K (.ref cx) i ts (fun _ _ _ _ => False) D)) ta) (gName 1) D σ H) := by
      refine ps_try_as (tb := fun W => tAsg (tCallS (spX K [false] cn (Φ rx)) (WE W) ta) (gName 1)) (i := i) rfl rfl S.nd hi hel ⟨(glB_ok hgn).1, (glB_ok hgn).2.1, .inl gx⟩ takes0 (fun W pn xe tk _ => ?_) (fun a oe cls d pn hz hfl => ⟨fun pins s1 σ1 H1 D1 I1 h1 => ?_⟩)
      · exact pss_one (TgN.setX (X := X0.tr pn xe) T1 nd ⟨rfl, rfl, rfl, rfl, rfl, rfl, rfl, rfl, hr, rfl, fun _ _ => rfl⟩ (pe_callS (k := n) m2 hr (glB_ok hgg).1 m1 m3 m4 (fun σ => passAt tk σ) (pa_nox (b1 _ ⟨rfl, rfl, rfl, rfl, rfl, rfl, rfl, rfl, hr, rfl, fun _ _ => rfl⟩)) (glB_ok hgg).2.1 (star_ok (by simpa using hpl)) (star_any rfl)) rfl)
      · obtain ⟨rfl, rfl, h1⟩ := h1
        exact (hsu cdv A outer s H E a oe pn hz hfl).run pins s1 σ1 H1 D1 I1 h1
    refine ⟨tSeq _ (fun _ _ _ => False), pss_cons try1 ⟨fun pins s σ H D I h => h.elim⟩, ?_⟩
    have hA1 : evA Φ (.cons (.var 0) .nil) (.val t :: .no :: List.replicate m .no) = some [t] := by simp only [evA, evE, getV, List.getElem?_cons_zero]
    refine b2 O1 _ H _ _ _ re hA1 fun vs' H1 s1 ha1 => ⟨O1, [t], (re.mono s1).al, ha1, hx, fun H2 s2 => ⟨true, ex, fun _ a na => ⟨rfl, rfl, ?_⟩, fun z => nomatch z⟩⟩
    have hii : i < (L2.start N [v]).length := by
      rw [hlN]
      exact (List.getElem?_eq_some_iff.mp hi).1
    refine hrun a O _ H2 _ (by rw [List.length_set]; exact hlN) (by rw [List.getElem?_set_self hii]) (al.mono (s1.trans s2)) fun v3 H3 s3 hv3 => ?_
    exact q v3 H3 ((s1.trans s2).trans s3) hv3
  · -- it returns
    have hlast : notVar ret = true ∨ True := .inr trivial
    refine ⟨tSeq (tAsg tcl (gName 1)) (tSeq (tRet ter) tNext), pss_cons (ps_try_thru0 (pss_one (T1.set nd ok (c1 _ ok) rfl))) (pss_cons (ps_ret (PE.nox (e1 _ ok))) pss_nil), ?_⟩
    have hcl : evE Φ (.call kr (.cons (.var 0) .nil)) (.val t :: .no :: List.replicate m .no) = some d1 := by
      simp only [evE, evA, getV, List.getElem?_cons_zero]
      exact hd1
    have re0 : Re K O (L2.start N [v]) H (.val t :: .no :: List.replicate m .no) := {
      len := re.len
      al := al
      val := fun j z qz => by
        match j, qz with
        | 0, qz => cases qz; exact ⟨v, rfl, hv0⟩
        | 1, qz => cases qz
        | j + 2, qz => rw [List.getElem?_cons_succ, List.getElem?_cons_succ, List.getElem?_replicate] at qz; split at qz <;> cases qz
      own := fun j z qz => by
        match j, qz with
        | 0, qz => cases qz
        | 1, qz => cases qz
        | j + 2, qz => rw [List.getElem?_cons_succ, List.getElem?_cons_succ, List.getElem?_replicate] at qz; split at qz <;> cases qz
      bor := fun j z qz => by
        match j, qz with
        | 0, qz => cases qz
        | 1, qz => cases qz
        | j + 2, qz => rw [List.getElem?_cons_succ, List.getElem?_cons_succ, List.getElem?_replicate] at qz; split at qz <;> cases qz }
    refine c2 O _ H _ _ d1 re0 hcl fun v1 H1 s1 hv1 => ?_
    have re1 : Re K O ((L2.start N [v]).set 1 (some v1)) H1 (.val t :: .val d1 :: List.replicate m .no) := (re0.mono s1).set (i := 1) hv1
    exact e2 O _ H1 _ _ d re1 hret fun v2 H2 s2 hv2 => q v2 H2 (s1.trans s2) hv2
/-! ### read off the text -/
def rightN : List Str := ["text", "found", "e"]
def rightChk (R : Rw) (kr : Nat) (ret : IE) (g xn xj xt : Str) (sc : Scope) : List Stmt → Bool
  | [.Try [.Assign [t1] (.Call (.Name g1 pg) [a0] [] pc) _] [.ExceptHandler (some (.Name xn1 _)) (some en1) [.Return (some (.BoolOp .And [.Call (.Name k1 _) [.Name m1 _, .Name j1 _] [] _, .Call (.Name k2 _) [.Name m2 _, .Name j2 _] [] _, .UnaryOp .Not (.Call (.Name k3 _) [.Name m3 _, .Name j3 _] [] _) _] _)) _] _] [] [] _, .Return (some er) _] =>
    decide (g1 = g ∧ xn1 = xn ∧ en1 = "e" ∧ j1 = xj ∧ j2 = "ValueError" ∧ j3 = xt) && (decide (k1 = "isinstance" ∧ k2 = "isinstance" ∧ k3 = "isinstance" ∧ m1 = "e" ∧ m2 = "e" ∧ m3 = "e") && (glB sc g && (glB sc xn && (glB sc xj && (glB sc xt && (glB sc "ValueError" && (glB sc "isinstance" && (visB sc "e" && (decide (sc.names.lookup ("e" : Str) = some .local) && (decide (trN rightN sc true t1 = some 1) && (decide (trE R rightN 40 sc false (.Call (.Name g1 pg) [a0] [] pc) = some (.call kr (.cons (.var 0) .nil))) && (decide (trA (trE R rightN 40) sc [false] [a0] = some (.cons (.var 0) .nil)) && (decide (trE R rightN 40 sc false er = some ret))))))))))))))
  | _ => false
def toldN : List Str := ["text", "found", "e", "good"]
def toldChk (R : Rw) (kr : Nat) (ret : IE) (g xn xj xt : Str) (sc : Scope) : List Stmt → Bool
  | [.Try [.Assign [t1] (.Call (.Name g1 pg) [a0] [] pc) _] [.ExceptHandler (some (.Name xn1 _)) (some en1) [.Assign [.Name gd1 _] (.BoolOp .And [.Call (.Name k1 _) [.Name m1 _, .Name j1 _] [] _, .Call (.Name k2 _) [.Name m2 _, .Name j2 _] [] _, .UnaryOp .Not (.Call (.Name k3 _) [.Name m3 _, .Name j3 _] [] _) _] _) _, .Return (some (.Subscript (.List [.Constant (.int i0) _ _, .Constant .none _ _] _) (.Call (.Name it _) [.Name gd2 _] [] _) _)) _] _] [] [] _, .Return (some er) _] =>
    decide (g1 = g ∧ xn1 = xn ∧ en1 = "e" ∧ j1 = xj ∧ j2 = "ValueError" ∧ j3 = xt) && (decide (k1 = "isinstance" ∧ k2 = "isinstance" ∧ k3 = "isinstance" ∧ m1 = "e" ∧ m2 = "e" ∧ m3 = "e") && (decide (gd1 = "good" ∧ gd2 = "good" ∧ it = "int" ∧ i0 = 0) && (glB sc "int" && (visB sc "good" && (decide (sc.names.lookup ("good" : Str) = some .local) && (glB sc g && (glB sc xn && (glB sc xj && (glB sc xt && (glB sc "ValueError" && (glB sc "isinstance" && (visB sc "e" && (decide (sc.names.lookup ("e" : Str) = some .local) && (decide (trN toldN sc true t1 = some 1) && (decide (trE R toldN 40 sc false (.Call (.Name g1 pg) [a0] [] pc) = some (.call kr (.cons (.var 0) .nil))) && (decide (trA (trE R toldN 40) sc [false] [a0] = some (.cons (.var 0) .nil)) && (decide (trE R toldN 40 sc false er = some ret))))))))))))))))))
  | _ => false
theorem told_fn {body : List Stmt} (hF : FunD K x x params body scope [] [] f fd) (S : FnScope toldN ["text"] scope) (hR : R.ok Φ ⟨P, w, K, mg, base, toldN, scope, n, true⟩) (hG : FnAtX ⟨P, w, K, mg, base, toldN, scope, n, true⟩ g [false] cn (Φ rx)) (hc : toldChk R kr ret g xn xj xt scope body = true)
    (gx : mg xn = some (.ref cx)) (ex : PySem.W.exmOne K (.ref cn) (.ref cx) = some true) (ec : ExcC K cn) (hmv : mg "ValueError" = none) (hmi : mg "isinstance" = none) (hmt : mg "int" = none) (EJ : ExJ K mg cn xj cj true) (EV : PySem.W.kitOne K (.ref cn) (.type "ValueError") = some true) (ET : ExJ K mg cn xt ct false) :
    FnOk P w K mg base CX0 (n + 1) f fd ["text"] (spF K [false] (tryF kr rx .none ret 2 Φ)) := by
  unfold toldChk at hc
  split at hc
  case h_2 => cases hc
  rename_i t1 g1 pg a0 pc p1 xn1 p2 en1 gd1 p3 k1 p4 m1 p5 j1 p6 p7 k2 p8 m2 p9 j2 p10 p11 k3 p12 m3 p13 j3 p14 p15 p16 p17 p18 i0 p19 p20 p21 p22 p23 it p24 gd2 p25 p26 p27 p28 p29 p30 er p31
  simp only [Bool.and_eq_true, decide_eq_true_eq] at hc
  obtain ⟨⟨rfl, rfl, rfl, rfl, rfl, rfl⟩, ⟨rfl, rfl, rfl, rfl, rfl, rfl⟩, ⟨rfl, rfl, rfl, rfl⟩, u1, u2, u3, h1, h2, h3, h4, h5, h6, h7, h8, h9, h10, h11, h12⟩ := hc
  have vg := visB_ok u2
  refine try_fn (i := 2) (tsu := fun a => tSeq (tAsg (tAnd3 K cn cj ct a 2) (gName 3)) (tSeq (tRet (tOp (rG2 K opIx) (tLst (tCons (tC (.int 0)) (tCons (tC .non) tNil))) (tCB (rGA K biInt) (tCons (tVar 3) tNil)))) tNext)) hF S hR hG rfl h9 h10 h11 h12 h1 h2 rfl (Nat.le_refl _) h8 gx ex (fun cdv A outer s H E a oe pn hz hfl => ?_) (fun a O σ H D hl hv al q => ?_)
  · have pg : PE ((cxOf CX0 P w K mg base toldN x scope f cdv A outer s H E).suite a ((a, oe) :: pn)) (.Name "good" p25) (tVar 3) := pe_var (i := 3) rfl vg.1 vg.2.1 vg.2.2
    refine pss_cons (ps_set (i := 3) S.nd rfl (.inl u3) (and3_pe (X := cxOf CX0 P w K mg base toldN x scope f cdv A outer s H E) rfl rfl rfl rfl ec hz hfl rfl h7 h3 h4 h5 h6 hmv hmi EJ.g ET.g) (sw_no rfl) (.inr u3)) (pss_cons (ps_ret (pe_ix ixr (pe_lst (pa_cons pe_int (pa_cons pe_non pa_nil))) (pe_callTy cr_int' (show Gl ((cxOf CX0 P w K mg base toldN x scope f cdv A outer s H E).suite a ((a, oe) :: pn)) "int" from (glB_ok u1).1) hmt (by decide +kernel) (pa_cons pg pa_nil (star_ok rfl)) (by decide) (by decide) (star_ok rfl) (star_any rfl)) (plain_ix rfl))) pss_nil)
  · refine and3_run hv EJ.k EV ET.k ?_
    have h3 : (σ.set 3 (some (V.bl true)))[3]? = some (some (V.bl true)) := by
      rw [List.getElem?_set_self (by rw [hl]; decide)]
    refine ⟨by decide, wk_lst (Q := fun x H1 => tCB (rGA K biInt) (tCons (tVar 3) tNil) (σ.set 3 (some (V.bl true))) H1 fun y H2 => rG2 K opIx x y H2 D.rt) (fun v1 H1 s1 hv1 => ?_) al (.cons (.int 0) (.cons .non .nil))⟩
    refine ⟨.bl true, h3, O, [.bool true], .int 1, al.mono s1, ⟨Tp.of (.bl true), trivial⟩, rfl, fun v2 H2 s2 hv2 => ?_⟩
    exact ⟨O, .list [.int 0, .none], .int 1, .none, (al.mono s1).mono s2, Tp.of (Dr.mono (mi_same s2) _ hv1), Tp.of hv2, rfl, fun v3 H3 s3 hv3 => q v3 H3 ((s1.trans s2).trans s3) hv3⟩
end
end J

/-! Rows with read: the defs that raise, by fuel. -/
namespace J
open PySem PySem.Spec PyProof.Rows L2
def ieTold : IE := .ix (.lst (.cons (.var 1) (.cons (.ci 0) .nil))) (.bi .int (.cons (.cmp .Is (.bv 1) .cn) .nil))
def ieRight (kw kp : Nat) : IE := .an (.cmp .Is (.call kw (.cons (.var 1) .nil)) (.cb true)) (.cmp .Eq (.call kp (.cons (.var 1) .nil)) (.bv 0))
theorem tab0 {K : PySem.W.Frag} {H : Hp} (h : (tabP K).isEmpty = true) : TabOk K H := fun b hb => by
  rw [List.isEmpty_iff.mp h] at hb
  cases hb
structure DefXE (P : Program) (w : World) (K : PySem.W.Frag) (mg : Str → Option Value) (base : Heap) (R : Rw) (xs : List (Str × Nat × List Bool)) (cn : Addr) (tab : Nat → Option Fd) (ext : Nat → (Nat → List D → Option D) → List D → Option D) (p : Str × Nat × List Bool) : Prop where
  ex : ∃ f fd ps, mg p.1 = some (.ref f) ∧ PySem.W.keepIn K (.ref f) = true ∧ Binds K fd ps [] ∧
    ∀ n Φ, (∀ N sc, N.Nodup → R.ok Φ ⟨P, w, K, mg, base, N, sc, n, true⟩) → ExX P w K mg base xs cn n Φ → FnOk P w K mg base (L2.CX P w) (n + 1) f fd ps (spX K p.2.2 cn (stepP tab ext Φ p.2.1))
section
variable {P : Program} {w : World} {K : PySem.W.Frag} {mg : Str → Option Value} {base : Heap} {R : Rw} {tab : Nat → Option Fd} {ext : Nat → (Nat → List D → Option D) → List D → Option D} {xs : List (Str × Nat × List Bool)} {cn : Addr}
theorem exXE_all (hx : ∀ p ∈ xs, DefXE P w K mg base R xs cn tab ext p) :
    ExX P w K mg base xs cn 0 (Phi tab ext 0) ∧ ∀ n, (∀ j, j ≤ n → ∀ (N : List Str) (sc : Scope), N.Nodup → R.ok (Phi tab ext j) ⟨P, w, K, mg, base, N, sc, j, true⟩) → ExX P w K mg base xs cn n (Phi tab ext n) → ExX P w K mg base xs cn (n + 1) (Phi tab ext (n + 1)) := by
  refine ⟨fun q hq N sc => ?_, fun n hR E q hq N sc => ?_⟩
  · obtain ⟨f, fd, ps, h1, h2, h3, h4⟩ := (hx q hq).ex
    refine ⟨f, fd, ps, h1, ⟨fun vs H Q E h => ?_, fun A outer s H args us vs Q E _ _ _ _ h => ?_⟩, h2, h3⟩
    · obtain ⟨_, _, _, _, z, _⟩ := h; cases z
    · obtain ⟨_, _, _, _, z, _⟩ := h; cases z
  · obtain ⟨f, fd, ps, h1, h2, h3, h4⟩ := (hx q hq).ex
    exact ⟨f, fd, ps, h1, h4 n _ (hR n (Nat.le_refl n)) E, h2, h3⟩
theorem num_def {x xn : Str} {k m : Nat} {params : Arguments} {body : List Stmt} {scope : Scope} {f : Addr} {fd : FuncData} {N ps : List Str} {F : Fd} (hF : FunD K x x params body scope [] [] f fd) (hm : mg x = some (.ref f)) (hb : Binds K fd ps []) (S : FnScope N ps scope) (hk : tab k = some F)
    (h : rais0 R N scope m xn body = some F.body) (X : ExF K mg xn cn) (hsl : F.slots = N.length) (hbs : F.bs.length = ps.length) : DefXE P w K mg base R xs cn tab ext (x, k, F.bs) := by
  refine ⟨f, fd, ps, hm, hF.kp, hb, fun n Φ hR _ => ?_⟩
  have : stepP tab ext Φ k = evF Φ F := by unfold stepP; rw [hk]
  show FnOk P w K mg base (L2.CX P w) (n + 1) f fd ps (spX K F.bs cn (stepP tab ext Φ k))
  rw [this]
  exact rais0_fn hF S (hR N scope S.nd) h X hsl hbs
theorem tie_def {x y xn : Str} {k kn kx : Nat} {params : Arguments} {body : List Stmt} {scope : Scope} {f : Addr} {fd : FuncData} (hF : FunD K x x params body scope [] [] f fd) (hm : mg x = some (.ref f)) (hb : Binds K fd ["word"] []) (S : FnScope tieN ["word"] scope) (hk : tab k = none) (he : ∀ Φ, ext k Φ = tieXD kn kx Φ)
    (h : tieChk R xn y scope body = true) (X : ExF K mg xn cn) (h1 : (y, kn, [false]) ∈ R.fns) (h2 : (y, kx, [false]) ∈ xs) : DefXE P w K mg base R xs cn tab ext (x, k, [false]) := by
  refine ⟨f, fd, ["word"], hm, hF.kp, hb, fun n Φ hR e => ?_⟩
  have : stepP tab ext Φ k = tieXD kn kx Φ := by unfold stepP; rw [hk]; exact he Φ
  show FnOk P w K mg base (L2.CX P w) (n + 1) f fd ["word"] (spX K [false] cn (stepP tab ext Φ k))
  rw [this]
  exact tie_fn hF S (hR _ _ S.nd) (fnAt2 ((hR _ _ S.nd).fn _ h1) (e _ h2 _ _)) X h
theorem read_def {x y z xn : Str} {k kn nx kt tx kw kp : Nat} {params : Arguments} {body : List Stmt} {scope : Scope} {f : Addr} {fd : FuncData} (hF : FunD K x x params body scope [] [] f fd) (hm : mg x = some (.ref f)) (hb : Binds K fd ["text"] []) (S : FnScope readN ["text"] scope) (hk : tab k = none)
    (he : ∀ Φ, ext k Φ = readXD kn nx kt tx kw kp Φ) (h : readChk R kn kt kw kp xn y z scope body = true) (X : ExF K mg xn cn) (h1 : (y, kn, [false]) ∈ R.fns) (h2 : (y, nx, [false]) ∈ xs) (h3 : (z, kt, [false]) ∈ R.fns) (h4 : (z, tx, [false]) ∈ xs) : DefXE P w K mg base R xs cn tab ext (x, k, [false]) := by
  refine ⟨f, fd, ["text"], hm, hF.kp, hb, fun n Φ hR e => ?_⟩
  have : stepP tab ext Φ k = readXD kn nx kt tx kw kp Φ := by unfold stepP; rw [hk]; exact he Φ
  show FnOk P w K mg base (L2.CX P w) (n + 1) f fd ["text"] (spX K [false] cn (stepP tab ext Φ k))
  rw [this]
  exact read_fn hF S (hR _ _ S.nd) (fnAt2 ((hR _ _ S.nd).fn _ h1) (e _ h2 _ _)) (fnAt2 ((hR _ _ S.nd).fn _ h3) (e _ h4 _ _)) X h
theorem told_def {x g xn xj xt : Str} {k kr rx : Nat} {ret : IE} {params : Arguments} {body : List Stmt} {scope : Scope} {f cx cj ct : Addr} {fd : FuncData} (hF : FunD K x x params body scope [] [] f fd) (hm : mg x = some (.ref f)) (hb : Binds K fd ["text"] []) (S : FnScope toldN ["text"] scope) (hk : tab k = none)
    (he : ∀ Φ, ext k Φ = tryF kr rx .none ret 2 Φ) (hc : toldChk R kr ret g xn xj xt scope body = true) (hg : (g, rx, [false]) ∈ xs) (gx : mg xn = some (.ref cx)) (ex : PySem.W.exmOne K (.ref cn) (.ref cx) = some true) (XI : ExI K mg cn xj xt cj ct) (hmv : mg "ValueError" = none) (hmi : mg "isinstance" = none) (hmt : mg "int" = none) :
    DefOkE P w K mg base R (ExX P w K mg base xs cn) tab ext (x, k, [false]) := by
  refine ⟨f, fd, ["text"], hm, hF.kp, hb, fun n Φ hR e => ?_⟩
  have : stepP tab ext Φ k = tryF kr rx .none ret 2 Φ := by unfold stepP; rw [hk]; exact he Φ
  show FnOk P w K mg base CX0 (n + 1) f fd ["text"] (spF K [false] (stepP tab ext Φ k))
  rw [this]
  exact told_fn hF S (hR _ _ S.nd) (e _ hg _ _) hc gx ex XI.c hmv hmi hmt ⟨XI.gj, XI.kj⟩ XI.kv ⟨XI.gt, XI.kt⟩
end
end J

namespace J
open PySem
/-- written -/
def fd0 : Fd := ⟨[false], 5, (.seq (.set 1 (.comp (.bin .Add (.bin .Add (.bin .Add (.bin .Add (.bi .str (.cons (.bv 2) .nil)) (.cs (Str.ofString "-"))) (.bi .str (.cons (.bv 3) .nil))) (.cs (Str.ofString "="))) (.bi .str (.cons (.bv 4) .nil))) [2, 3, 4] (.ix (.bv 0) (.ci 1)) .nil [2, 3, 4])) (.seq (.ret (.join (.cs (Str.ofString " ")) (.bin .Add (.lst (.cons (.bi .str (.cons (.ix (.bv 0) (.ci 0)) .nil)) (.cons (.cs (Str.ofString ":")) .nil))) (.bv 1)))) .skip))⟩
/-- _law_cell_at -/
def fd1 : Fd := ⟨[false, false], 2, (.seq (.ifs (.cmp .Lt (.bv 1) (.bi .len (.cons (.bv 0) .nil))) (.seq (.ret (.ix (.bv 0) (.bv 1))) .skip) .skip) (.seq (.ret (.ci 0)) .skip))⟩
/-- _law_mixed -/
def fd2 : Fd := ⟨[false, false], 3, (.seq (.set 2 (.bin .Mod (.bin .Mult (.bin .Add (.bin .Add (.call 1 (.cons (.var 0) (.cons (.var 1) .nil))) (.bin .Mult (.ci 7919) (.bv 1))) (.ci 1)) (.ci 48271)) (.ci 2147483647))) (.seq (.ret (.bin .Mod (.bin .Add (.bin .Add (.bin .Mult (.bv 2) (.bv 2)) (.bin .Mult (.ci 7) (.bv 2))) (.bv 1)) (.ci 2147483629))) .skip))⟩
/-- _law_drawn -/
def fd3 : Fd := ⟨[false, false], 3, (.seq (.set 2 (.bin .Mod (.bin .Mult (.bin .Add (.bin .Add (.bv 0) (.bin .Mult (.ci 104729) (.bv 1))) (.ci 17)) (.ci 69621)) (.ci 2147483647))) (.seq (.ret (.bin .Mod (.bin .Add (.bin .Add (.bin .Mult (.bv 2) (.bv 2)) (.bin .Mult (.ci 3) (.bv 2))) (.bv 1)) (.ci 2147483629))) .skip))⟩
/-- _law_web -/
def fd4 : Fd := ⟨[false], 10, (.seq (.set 1 (.ix (.tup (.cons (.ci 2) (.cons (.ci 3) (.cons (.ci 4) (.cons (.ci 5) (.cons (.ci 6) (.cons (.ci 7) (.cons (.ci 4) (.cons (.ci 1) .nil))))))))) (.bin .Mod (.bv 0) (.ci 8)))) (.seq (.set 2 (.ix (.tup (.cons (.ci 1) (.cons (.ci 3) (.cons (.ci 10) (.cons (.ci 100) .nil))))) (.bin .Mod (.bin .FloorDiv (.bv 0) (.ci 8)) (.ci 4)))) (.seq (.setO 3 (.lst .nil)) (.seq (.for_ [4] (.rg (.ci 1) (.bv 1)) (.seq (.set 5 (.bin .FloorDiv (.call 3 (.cons (.var 0) (.cons (.var 4) .nil))) (.ci 4))) (.seq (.ifs (.cmp .Gt (.bin .Mod (.bv 5) (.ci 16)) (.ci 0)) (.seq (.app 3 (.tup (.cons (.bin .Mod (.bin .FloorDiv (.bv 5) (.ci 16)) (.bv 4)) (.cons (.var 4) (.cons (.bin .Mod (.bin .FloorDiv (.bv 5) (.ci 512)) (.bv 2)) .nil))))) .skip) .skip) .skip))) (.seq (.ifs (.cmp .Gt (.bv 1) (.ci 1)) (.seq (.for_ [6] (.rg (.ci 0) (.bin .Mod (.bin .FloorDiv (.bv 0) (.ci 32)) (.bin .Sub (.ci 11) (.bi .len (.cons (.bv 3) .nil))))) (.seq (.set 5 (.bin .FloorDiv (.call 3 (.cons (.var 0) (.cons (.bin .Add (.ci 20) (.bv 6)) .nil))) (.ci 4))) (.seq (.set 7 (.bin .Mod (.bv 5) (.bv 1))) (.seq (.set 8 (.bin .Mod (.bin .Add (.bin .Add (.bv 7) (.ci 1)) (.bin .Mod (.bin .FloorDiv (.bv 5) (.ci 8)) (.bin .Sub (.bv 1) (.ci 1)))) (.bv 1))) (.seq (.app 3 (.tup (.cons (.bi .min (.cons (.bv 7) (.cons (.bv 8) .nil))) (.cons (.bi .max (.cons (.bv 7) (.cons (.bv 8) .nil))) (.cons (.bin .Mod (.bin .FloorDiv (.bv 5) (.ci 512)) (.bv 2)) .nil))))) .skip))))) .skip) .skip) (.seq (.shr 3) (.seq (.set 9 (.bin .Mod (.bin .FloorDiv (.bv 0) (.ci 1024)) (.ci 5))) (.seq (.ret (.tup (.cons (.var 1) (.cons (.bi .tuple (.cons (.bin .Add (.sl (.bv 3) (.bv 9) .nil) (.sl (.bv 3) .nil (.bv 9))) .nil)) .nil)))) .skip))))))))⟩
/-- is_number -/
def fd6 : Fd := ⟨[false, false, false], 3, (.seq (.ret (.an (.isi .int (.bv 0)) (.an (.nt (.isi .bool (.bv 0))) (.cmp2 .LtE .LtE (.bv 1) (.bv 0) (.bv 2))))) .skip)⟩
/-- is_tie -/
def fd7 : Fd := ⟨[false, false], 3, (.seq (.ifs (.or (.nt (.isi .tuple (.bv 0))) (.or (.cmp .NotEq (.bi .len (.cons (.bv 0) .nil)) (.ci 3)) (.nt (.bi .all (.cons (.comp (.call 6 (.cons (.var 2) (.cons (.ci 0) (.cons (.bin .Sub (.bv 1) (.ci 1)) .nil)))) [2] (.sl (.bv 0) .nil (.ci 2)) .nil [2]) .nil))))) (.seq (.ret (.cb false)) .skip) .skip) (.seq (.ret (.an (.cmp .Lt (.ix (.bv 0) (.ci 0)) (.ix (.bv 0) (.ci 1))) (.call 6 (.cons (.ix (.bv 0) (.ci 2)) (.cons (.ci 0) (.cons (.ci 99) .nil)))))) .skip))⟩
/-- is_web -/
def fd8 : Fd := ⟨[false], 2, (.seq (.ifs (.or (.nt (.isi .tuple (.bv 0))) (.or (.cmp .NotEq (.bi .len (.cons (.bv 0) .nil)) (.ci 2)) (.nt (.call 6 (.cons (.ix (.bv 0) (.ci 0)) (.cons (.ci 1) (.cons (.ci 7) .nil))))))) (.seq (.ret (.cb false)) .skip) .skip) (.seq (.ifs (.or (.nt (.isi .tuple (.ix (.bv 0) (.ci 1)))) (.cmp .Gt (.bi .len (.cons (.ix (.bv 0) (.ci 1)) .nil)) (.ci 10))) (.seq (.ret (.cb false)) .skip) .skip) (.seq (.ret (.bi .all (.cons (.comp (.call 7 (.cons (.var 1) (.cons (.ix (.bv 0) (.ci 0)) .nil))) [1] (.ix (.bv 0) (.ci 1)) .nil [1]) .nil))) .skip)))⟩
/-- are_some -/
def fd9 : Fd := ⟨[false, false], 5, (.seq (.ifs (.or (.nt (.isi .tuple (.bv 0))) (.nt (.bi .all (.cons (.comp (.call 6 (.cons (.var 2) (.cons (.ci 0) (.cons (.bin .Sub (.bv 1) (.ci 1)) .nil)))) [2] (.var 0) .nil [2]) .nil)))) (.seq (.ret (.cb false)) .skip) .skip) (.seq (.ret (.bi .all (.cons (.comp (.cmp .Lt (.bv 3) (.bv 4)) [3, 4] (.zip (.sl (.bv 0) .nil (.neg (.ci 1))) (.sl (.bv 0) (.ci 1) .nil)) .nil [3, 4]) .nil))) .skip))⟩
/-- are_ends -/
def fd10 : Fd := ⟨[false, false], 2, (.seq (.ret (.an (.call 9 (.cons (.var 1) (.cons (.ix (.bv 0) (.ci 0)) .nil))) (.cmp .Gt (.bi .len (.cons (.bv 1) .nil)) (.ci 0)))) .skip)⟩
/-- _law_odd -/
def fd12 : Fd := ⟨[false], 2, (.seq (.set 1 (.lst (.cons (.neg (.ci 1)) (.cons (.ci 0) (.cons (.ci 1) (.cons (.ci 6) (.cons (.ci 7) (.cons (.ci 99) (.cons (.ci 100) (.cons (.cb true) (.cons (.cb false) (.cons .cn (.cons (.cs (Str.ofString "")) (.cons (.cs (Str.ofString "fences")) (.cons (.cs (Str.ofString "apart")) (.cons (.tup .nil) (.cons (.lst .nil) (.cons (.tup (.cons (.ci 0) .nil)) (.cons (.tup (.cons (.ci 0) (.cons (.ci 1) .nil))) (.cons (.tup (.cons (.ci 1) (.cons (.ci 0) .nil))) (.cons (.tup (.cons (.ci 0) (.cons (.ci 1) (.cons (.ci 5) .nil)))) .nil))))))))))))))))))))) (.seq (.set 1 (.bin .Add (.bv 1) (.lst (.cons (.tup (.cons (.ci 1) (.cons (.ci 1) (.cons (.ci 2) .nil)))) (.cons (.tup (.cons (.ci 0) (.cons (.ci 1) (.cons (.cb true) .nil)))) (.cons (.tup (.cons (.cs (Str.ofString "apart")) .nil)) (.cons (.tup (.cons (.cs (Str.ofString "fences")) (.cons (.tup .nil) .nil))) (.cons (.tup (.cons (.ci 1) (.cons (.ci 2) .nil))) (.cons (.tup (.cons (.ci 2) (.cons (.ci 4) .nil))) (.cons (.tup (.cons (.ci 0) (.cons (.ci 9) (.cons (.ci 1) .nil)))) (.cons (.lst (.cons (.ci 0) .nil)) (.cons (.tup (.cons (.tup (.cons (.ci 0) .nil)) (.cons (.tup (.cons (.ci 1) (.cons (.ci 1) .nil))) .nil))) .nil)))))))))))) (.seq (.ret (.ix (.bin .Add (.bv 1) (.lst (.cons (.tup (.cons (.cs (Str.ofString "cases")) (.cons (.ci 0) .nil))) (.cons (.tup (.cons (.ci 0) (.cons (.ci 0) .nil))) (.cons (.cs (Str.ofString "0")) (.cons (.bin .Pow (.ci 10) (.ci 30)) .nil)))))) (.bin .Mod (.bv 0) (.ci 32)))) .skip)))⟩
/-- _law_spoilt -/
def fd13 : Fd := ⟨[false, false, false], 5, (.seq (.ifs (.an (.cmp .Gt (.bv 2) (.ci 0)) (.an (.isi .tuple (.bv 0)) (.an (.cmp .Gt (.bi .len (.cons (.bv 0) .nil)) (.ci 0)) (.cmp .Gt (.bin .Mod (.bv 1) (.ci 6)) (.ci 0))))) (.seq (.set 3 (.bin .Mod (.bin .FloorDiv (.bv 1) (.ci 6)) (.bi .len (.cons (.bv 0) .nil)))) (.seq (.set 4 (.call 13 (.cons (.ix (.bv 0) (.bv 3)) (.cons (.bin .FloorDiv (.bv 1) (.ci 126)) (.cons (.bin .Sub (.bv 2) (.ci 1)) .nil))))) (.seq (.ret (.bin .Add (.bin .Add (.sl (.bv 0) .nil (.bv 3)) (.tup (.cons (.var 4) .nil))) (.sl (.bv 0) (.bin .Add (.bv 3) (.ci 1)) .nil))) .skip))) .skip) (.seq (.ifs (.an (.isi .tuple (.bv 0)) (.an (.cmp .Gt (.bi .len (.cons (.bv 0) .nil)) (.ci 0)) (.cmp .Eq (.bin .Mod (.bin .FloorDiv (.bv 1) (.ci 6)) (.ci 2)) (.ci 0)))) (.seq (.ret (.ix (.lst (.cons (.bi .list (.cons (.bv 0) .nil)) (.cons (.sl (.bv 0) .nil (.neg (.ci 1))) (.cons (.bin .Add (.bv 0) (.sl (.bv 0) (.neg (.ci 1)) .nil)) (.cons (.sl (.bv 0) (.ci 1) .nil) (.cons (.rev (.bv 0)) (.cons (.bin .Mult (.bv 0) (.ci 2)) .nil))))))) (.bin .Mod (.bin .FloorDiv (.bv 1) (.ci 12)) (.ci 6)))) .skip) .skip) (.seq (.ifs (.an (.isi .int (.bv 0)) (.cmp .Eq (.bin .Mod (.bin .FloorDiv (.bv 1) (.ci 6)) (.ci 2)) (.ci 0))) (.seq (.ret (.ix (.lst (.cons (.bi .str (.cons (.bv 0) .nil)) (.cons (.neg (.bv 0)) (.cons (.bin .Add (.bv 0) (.ci 1)) (.cons (.cmp .Eq (.bv 0) (.ci 1)) (.cons (.bin .Sub (.bv 0) (.ci 1)) (.cons (.bin .Add (.bv 0) (.ci 50)) .nil))))))) (.bin .Mod (.bin .FloorDiv (.bv 1) (.ci 12)) (.ci 6)))) .skip) .skip) (.seq (.ret (.call 12 (.cons (.bin .FloorDiv (.bv 1) (.ci 6)) .nil))) .skip))))⟩
/-- _law_number -/
def fd14 : Fd := ⟨[false, false, false], 3, (.seq (.ret (.an (.isi .int (.bv 0)) (.an (.nt (.isi .bool (.bv 0))) (.cmp2 .LtE .LtE (.bv 1) (.bv 0) (.bv 2))))) .skip)⟩
/-- _law_is_web -/
def fd15 : Fd := ⟨[false], 2, (.seq (.ifs (.or (.nt (.isi .tuple (.bv 0))) (.or (.cmp .NotEq (.bi .len (.cons (.bv 0) .nil)) (.ci 2)) (.nt (.call 14 (.cons (.ix (.bv 0) (.ci 0)) (.cons (.ci 1) (.cons (.ci 7) .nil))))))) (.seq (.ret (.cb false)) .skip) .skip) (.seq (.ifs (.or (.nt (.isi .tuple (.ix (.bv 0) (.ci 1)))) (.cmp .Gt (.bi .len (.cons (.ix (.bv 0) (.ci 1)) .nil)) (.ci 10))) (.seq (.ret (.cb false)) .skip) .skip) (.seq (.for_ [1] (.ix (.bv 0) (.ci 1)) (.seq (.ifs (.or (.nt (.isi .tuple (.bv 1))) (.or (.cmp .NotEq (.bi .len (.cons (.bv 1) .nil)) (.ci 3)) (.nt (.call 14 (.cons (.ix (.bv 1) (.ci 2)) (.cons (.ci 0) (.cons (.ci 99) .nil))))))) (.seq (.ret (.cb false)) .skip) .skip) (.seq (.ifs (.or (.nt (.call 14 (.cons (.ix (.bv 1) (.ci 0)) (.cons (.ci 0) (.cons (.bin .Sub (.ix (.bv 0) (.ci 0)) (.ci 1)) .nil))))) (.nt (.call 14 (.cons (.ix (.bv 1) (.ci 1)) (.cons (.bin .Add (.ix (.bv 1) (.ci 0)) (.ci 1)) (.cons (.bin .Sub (.ix (.bv 0) (.ci 0)) (.ci 1)) .nil)))))) (.seq (.ret (.cb false)) .skip) .skip) .skip))) (.seq (.ret (.cb true)) .skip))))⟩
/-- _law_are_ends -/
def fd16 : Fd := ⟨[false, false], 3, (.seq (.ifs (.or (.nt (.isi .tuple (.bv 1))) (.cmp .NotEq (.comp (.var 2) [2] (.var 1) (.nt (.call 14 (.cons (.var 2) (.cons (.ci 0) (.cons (.bin .Sub (.ix (.bv 0) (.ci 0)) (.ci 1)) .nil))))) [2]) (.lst .nil))) (.seq (.ret (.cb false)) .skip) .skip) (.seq (.ret (.an (.cmp .Gt (.bi .len (.cons (.bv 1) .nil)) (.ci 0)) (.cmp .Eq (.bi .list (.cons (.bv 1) .nil)) (.sset (.bv 1))))) .skip))⟩
/-- pieces -/
def fd19 : Fd := ⟨[false, false], 10, (.seq (.set 2 (.rgL (.ci 0) (.ix (.bv 0) (.ci 0)))) (.seq (.for_ [3] (.var 1) (.seq (.unp [4, 5, 6] (.ix (.ix (.bv 0) (.ci 1)) (.bv 3))) (.seq (.set 7 (.bi .min (.cons (.ix (.bv 2) (.bv 4)) (.cons (.ix (.bv 2) (.bv 5)) .nil)))) (.seq (.set 8 (.bi .max (.cons (.ix (.bv 2) (.bv 4)) (.cons (.ix (.bv 2) (.bv 5)) .nil)))) (.seq (.set 2 (.comp (.ix (.lst (.cons (.var 9) (.cons (.var 7) .nil))) (.bi .int (.cons (.cmp .Eq (.bv 9) (.bv 8)) .nil))) [9] (.var 2) .nil [9])) .skip))))) (.seq (.ret (.var 2)) .skip)))⟩
/-- joins -/
def fd20 : Fd := ⟨[false, false, false], 5, (.seq (.set 3 (.call 19 (.cons (.var 0) (.cons (.var 1) .nil)))) (.seq (.ret (.cmp .LtE (.lset (.comp (.ix (.bv 3) (.bv 4)) [4] (.var 2) .nil [4])) (.ci 1))) .skip))⟩
/-- cost -/
def fd21 : Fd := ⟨[false, false], 3, (.seq (.ret (.bi .sum (.cons (.comp (.ix (.ix (.ix (.bv 0) (.ci 1)) (.bv 2)) (.ci 2)) [2] (.var 1) .nil [2]) .nil))) .skip)⟩
/-- is_tree -/
def fd22 : Fd := ⟨[false, false, false], 4, (.seq (.ifs (.or (.nt (.call 9 (.cons (.var 2) (.cons (.bi .len (.cons (.ix (.bv 0) (.ci 1)) .nil)) .nil)))) (.nt (.call 20 (.cons (.var 0) (.cons (.var 2) (.cons (.var 1) .nil)))))) (.seq (.ret (.cb false)) .skip) .skip) (.seq (.ret (.nt (.bi .any (.cons (.comp (.call 20 (.cons (.var 0) (.cons (.bin .Add (.sl (.bv 2) .nil (.bv 3)) (.sl (.bv 2) (.bin .Add (.bv 3) (.ci 1)) .nil)) (.cons (.var 1) .nil)))) [3] (.rg (.ci 0) (.bi .len (.cons (.bv 2) .nil))) .nil [3]) .nil)))) .skip))⟩
/-- pruned -/
def fd23 : Fd := ⟨[false, false, false], 7, (.seq (.set 3 (.var 1)) (.seq (.for_ [4] (.rev (.bv 1)) (.seq (.set 5 (.bi .tuple (.cons (.comp (.var 6) [6] (.var 3) (.cmp .NotEq (.bv 6) (.bv 4)) [6]) .nil))) (.seq (.ifs (.call 20 (.cons (.var 0) (.cons (.var 5) (.cons (.var 2) .nil)))) (.seq (.set 3 (.var 5)) .skip) .skip) .skip))) (.seq (.ret (.var 3)) .skip)))⟩
/-- _law_pieces -/
def fd24 : Fd := ⟨[false, false], 7, (.seq (.set 2 (.rgL (.ci 0) (.ix (.bv 0) (.ci 0)))) (.seq (.for_ [3] (.var 1) (.seq (.set 4 (.ix (.bv 2) (.ix (.ix (.ix (.bv 0) (.ci 1)) (.bv 3)) (.ci 0)))) (.seq (.set 5 (.ix (.bv 2) (.ix (.ix (.ix (.bv 0) (.ci 1)) (.bv 3)) (.ci 1)))) (.seq (.set 2 (.comp (.ix (.lst (.cons (.var 6) (.cons (.bi .min (.cons (.bv 4) (.cons (.bv 5) .nil))) .nil))) (.bi .int (.cons (.cmp .Eq (.bv 6) (.bi .max (.cons (.bv 4) (.cons (.bv 5) .nil)))) .nil))) [6] (.var 2) .nil [6])) .skip)))) (.seq (.ret (.var 2)) .skip)))⟩
/-- _law_joins -/
def fd25 : Fd := ⟨[false, false, false], 5, (.seq (.set 3 (.call 24 (.cons (.var 0) (.cons (.var 1) .nil)))) (.seq (.ret (.cmp .Eq (.comp (.var 4) [4] (.var 2) (.cmp .NotEq (.ix (.bv 3) (.bv 4)) (.ix (.bv 3) (.ix (.bv 2) (.ci 0)))) [4]) (.lst .nil))) .skip))⟩
/-- _law_cost -/
def fd26 : Fd := ⟨[false, false], 3, (.seq (.ret (.bi .sum (.cons (.comp (.ix (.ix (.ix (.bv 0) (.ci 1)) (.bv 2)) (.ci 2)) [2] (.var 1) .nil [2]) .nil))) .skip)⟩
/-- _law_are_some -/
def fd27 : Fd := ⟨[false, false], 3, (.seq (.ifs (.nt (.isi .tuple (.bv 0))) (.seq (.ret (.cb false)) .skip) .skip) (.seq (.for_ [2] (.var 0) (.seq (.ifs (.or (.nt (.isi .int (.bv 2))) (.or (.isi .bool (.bv 2)) (.nt (.cmp2 .LtE .Lt (.ci 0) (.bv 2) (.bv 1))))) (.seq (.ret (.cb false)) .skip) .skip) .skip)) (.seq (.ret (.cmp .Eq (.bi .list (.cons (.bv 0) .nil)) (.sset (.bv 0)))) .skip)))⟩
/-- _law_is_tree -/
def fd28 : Fd := ⟨[false, false, false], 5, (.seq (.ifs (.or (.nt (.call 27 (.cons (.var 2) (.cons (.bi .len (.cons (.ix (.bv 0) (.ci 1)) .nil)) .nil)))) (.nt (.call 25 (.cons (.var 0) (.cons (.var 2) (.cons (.var 1) .nil)))))) (.seq (.ret (.cb false)) .skip) .skip) (.seq (.for_ [3] (.var 2) (.seq (.ifs (.call 25 (.cons (.var 0) (.cons (.comp (.var 4) [4] (.var 2) (.cmp .NotEq (.bv 4) (.bv 3)) [4]) (.cons (.var 1) .nil)))) (.seq (.ret (.cb false)) .skip) .skip) .skip)) (.seq (.ret (.cb true)) .skip)))⟩
/-- _law_some -/
def fd30 : Fd := ⟨[false, false], 3, (.seq (.ret (.bi .tuple (.cons (.comp (.var 2) [2] (.rg (.ci 0) (.bi .len (.cons (.ix (.bv 0) (.ci 1)) .nil))) (.cmp .Gt (.bin .Mod (.bin .FloorDiv (.call 3 (.cons (.var 1) (.cons (.bin .Add (.ci 40) (.bv 2)) .nil))) (.ci 4)) (.ci 3)) (.ci 0)) [2]) .nil))) .skip)⟩
/-- kept_to -/
def fd32 : Fd := ⟨[false, false], 3, (.seq (.ret (.tup (.cons (.ix (.bv 0) (.ci 0)) (.cons (.bi .tuple (.cons (.comp (.ix (.ix (.bv 0) (.ci 1)) (.bv 2)) [2] (.var 1) .nil [2]) .nil)) .nil)))) .skip)⟩
/-- all_far -/
def fd33 : Fd := ⟨[false, false], 9, (.seq (.setO 2 (.bin .Mult (.lst (.cons .cn .nil)) (.ix (.bv 0) (.ci 0)))) (.seq (.sti 2 (.bv 1) (.ci 0)) (.seq (.for_ [3] (.rg (.ci 0) (.ix (.bv 0) (.ci 0))) (.seq (.for_ [4, 5, 6] (.ix (.bv 0) (.ci 1)) (.seq (.for_ [7, 8] (.tup (.cons (.tup (.cons (.var 4) (.cons (.var 5) .nil))) (.cons (.tup (.cons (.var 5) (.cons (.var 4) .nil))) .nil))) (.seq (.ifs (.an (.cmp .IsNot (.ix (.bv 2) (.bv 7)) .cn) (.or (.cmp .Is (.ix (.bv 2) (.bv 8)) .cn) (.cmp .Lt (.bin .Add (.ix (.bv 2) (.bv 7)) (.bv 6)) (.ix (.bv 2) (.bv 8))))) (.seq (.sti 2 (.bv 8) (.bin .Add (.ix (.bv 2) (.bv 7)) (.bv 6))) .skip) .skip) .skip)) .skip)) .skip)) (.seq (.shr 2) (.seq (.ret (.var 2)) .skip)))))⟩
/-- lesser -/
def fd34 : Fd := ⟨[false, false], 2, (.seq (.ifs (.or (.cmp .Is (.bv 0) .cn) (.an (.cmp .IsNot (.bv 1) .cn) (.cmp .Lt (.bv 1) (.bv 0)))) (.seq (.ret (.var 1)) .skip) .skip) (.seq (.ret (.var 0)) .skip))⟩
/-- both -/
def fd35 : Fd := ⟨[false, false], 2, (.seq (.ifs (.or (.cmp .Is (.bv 0) .cn) (.cmp .Is (.bv 1) .cn)) (.seq (.ret .cn) .skip) .skip) (.seq (.ret (.bin .Add (.bv 0) (.bv 1))) .skip))⟩
/-- spread -/
def fd36 : Fd := ⟨[false, false], 6, (.seq (.setO 2 (.lst .nil)) (.seq (.for_ [3] (.rg (.ci 0) (.bi .len (.cons (.bv 1) .nil))) (.seq (.set 4 .cn) (.seq (.for_ [5] (.rg (.ci 0) (.bi .len (.cons (.bv 1) .nil))) (.seq (.set 4 (.call 34 (.cons (.var 4) (.cons (.call 35 (.cons (.ix (.bv 1) (.bv 5)) (.cons (.ix (.ix (.bv 0) (.bv 5)) (.bv 3)) .nil))) .nil)))) .skip)) (.seq (.app 2 (.var 4)) .skip)))) (.seq (.shr 2) (.seq (.ret (.var 2)) .skip))))⟩
/-- table -/
def fd37 : Fd := ⟨[false, false], 9, (.seq (.set 2 (.comp (.call 33 (.cons (.var 0) (.cons (.var 3) .nil))) [3] (.rg (.ci 0) (.ix (.bv 0) (.ci 0))) .nil [3])) (.seq (.setO 4 (.lst (.cons (.bin .Mult (.lst (.cons (.ci 0) .nil)) (.ix (.bv 0) (.ci 0))) .nil))) (.seq (.set 5 (.ci 1)) (.seq (.for_ [6] (.var 1) (.seq (.for_ [7] (.rg (.bv 5) (.bin .Mult (.ci 2) (.bv 5))) (.seq (.ifs (.cmp .Eq (.bv 7) (.bv 5)) (.seq (.app 4 (.bi .list (.cons (.ix (.bv 2) (.bv 6)) .nil))) .skip) (.seq (.app 4 (.call 36 (.cons (.var 2) (.cons (.call 38 (.cons (.bv 4) (.cons (.var 7) (.cons (.ix (.bv 0) (.ci 0)) .nil)))) .nil)))) .skip)) .skip)) (.seq (.set 5 (.bin .Mult (.ci 2) (.bv 5))) .skip))) (.seq (.shr 4) (.seq (.ret (.bi .tuple (.cons (.comp (.bi .tuple (.cons (.bv 8) .nil)) [8] (.var 4) .nil [8]) .nil))) .skip))))))⟩
/-- parted_row -/
def fd38 : Fd := ⟨[true, false, false], 6, (.seq (.setO 3 (.bin .Mult (.lst (.cons .cn .nil)) (.bv 2))) (.seq (.for_ [4] (.rg (.ci 1) (.bv 1)) (.seq (.ifs (.cmp .Eq (.bin .BitAnd (.bv 4) (.bv 1)) (.bv 4)) (.seq (.for_ [5] (.rg (.ci 0) (.bv 2)) (.seq (.sti 3 (.bv 5) (.call 34 (.cons (.ix (.bv 3) (.bv 5)) (.cons (.call 35 (.cons (.ix (.ix (.bv 0) (.bv 4)) (.bv 5)) (.cons (.ix (.ix (.bv 0) (.bin .Sub (.bv 1) (.bv 4))) (.bv 5)) .nil))) .nil)))) .skip)) .skip) .skip) .skip)) (.seq (.shr 3) (.seq (.ret (.var 3)) .skip))))⟩
/-- least_cost -/
def fd39 : Fd := ⟨[false, false], 2, (.seq (.ret (.ix (.ix (.call 37 (.cons (.var 0) (.cons (.var 1) .nil))) (.neg (.ci 1))) (.ix (.bv 1) (.ci 0)))) .skip)⟩
/-- cheapest -/
def fd40 : Fd := ⟨[false, false], 7, (.seq (.set 2 (.call 39 (.cons (.var 0) (.cons (.var 1) .nil)))) (.seq (.ifs (.cmp .Is (.bv 2) .cn) (.seq .nev .skip) .skip) (.seq (.set 3 (.rgT (.ci 0) (.bi .len (.cons (.ix (.bv 0) (.ci 1)) .nil)))) (.seq (.for_ [4] (.rg (.ci 0) (.bi .len (.cons (.ix (.bv 0) (.ci 1)) .nil))) (.seq (.set 5 (.bi .tuple (.cons (.comp (.var 6) [6] (.var 3) (.cmp .NotEq (.bv 6) (.bv 4)) [6]) .nil))) (.seq (.ifs (.cmp .Eq (.call 39 (.cons (.call 32 (.cons (.var 0) (.cons (.var 5) .nil))) (.cons (.var 1) .nil))) (.bv 2)) (.seq (.set 3 (.var 5)) .skip) .skip) .skip))) (.seq (.ret (.var 3)) .skip)))))⟩
/-- without_tie -/
def fd46 : Fd := ⟨[false, false], 2, (.seq (.ret (.tup (.cons (.ix (.bv 0) (.ci 0)) (.cons (.bin .Add (.sl (.ix (.bv 0) (.ci 1)) .nil (.bv 1)) (.sl (.ix (.bv 0) (.ci 1)) (.bin .Add (.bv 1) (.ci 1)) .nil)) .nil)))) .skip)⟩
/-- at_once -/
def fd47 : Fd := ⟨[false, false, false], 6, (.seq (.unp [3, 4, 5] (.ix (.ix (.bv 0) (.ci 1)) (.bv 1))) (.seq (.ret (.tup (.cons (.ix (.bv 0) (.ci 0)) (.cons (.bin .Add (.bin .Add (.sl (.ix (.bv 0) (.ci 1)) .nil (.bv 1)) (.tup (.cons (.tup (.cons (.var 3) (.cons (.var 4) (.cons (.var 2) .nil)))) .nil))) (.sl (.ix (.bv 0) (.ci 1)) (.bin .Add (.bv 1) (.ci 1)) .nil)) .nil)))) .skip))⟩
/-- how_dear -/
def fd49 : Fd := ⟨[false, false, false], 3, (.seq (.ret (.ix (.call 33 (.cons (.var 0) (.cons (.var 1) .nil))) (.bv 2))) .skip)⟩
/-- renamed -/
def fd61 : Fd := ⟨[false, false], 6, (.seq (.setO 2 (.lst .nil)) (.seq (.for_ [3, 4, 5] (.ix (.bv 0) (.ci 1)) (.seq (.app 2 (.tup (.cons (.bi .min (.cons (.ix (.bv 1) (.bv 3)) (.cons (.ix (.bv 1) (.bv 4)) .nil))) (.cons (.bi .max (.cons (.ix (.bv 1) (.bv 3)) (.cons (.ix (.bv 1) (.bv 4)) .nil))) (.cons (.var 5) .nil))))) .skip)) (.seq (.shr 2) (.seq (.ret (.tup (.cons (.ix (.bv 0) (.ci 0)) (.cons (.bi .tuple (.cons (.bv 2) .nil)) .nil)))) .skip))))⟩
/-- scaled -/
def fd62 : Fd := ⟨[false, false], 5, (.seq (.ret (.tup (.cons (.ix (.bv 0) (.ci 0)) (.cons (.bi .tuple (.cons (.comp (.tup (.cons (.var 2) (.cons (.var 3) (.cons (.bin .Mult (.bv 1) (.bv 4)) .nil)))) [2, 3, 4] (.ix (.bv 0) (.ci 1)) .nil [2, 3, 4]) .nil)) .nil)))) .skip)⟩
/-- parted -/
def fd63 : Fd := ⟨[false, false, false], 8, (.seq (.set 3 (.ix (.bv 0) (.ci 0))) (.seq (.unp [4, 5, 6] (.ix (.ix (.bv 0) (.ci 1)) (.bv 1))) (.seq (.set 7 (.bin .Add (.bin .Add (.sl (.ix (.bv 0) (.ci 1)) .nil (.bv 1)) (.tup (.cons (.tup (.cons (.var 4) (.cons (.var 3) (.cons (.var 2) .nil)))) .nil))) (.sl (.ix (.bv 0) (.ci 1)) (.bin .Add (.bv 1) (.ci 1)) .nil))) (.seq (.ret (.tup (.cons (.bin .Add (.bv 3) (.ci 1)) (.cons (.bin .Add (.bv 7) (.tup (.cons (.tup (.cons (.var 5) (.cons (.var 3) (.cons (.bin .Sub (.bv 6) (.bv 2)) .nil)))) .nil))) .nil)))) .skip))))⟩
/-- number_of -/
def fd103 : Fd := ⟨[false], 2, (.seq (.ifs (.or (.nt (.cmp2 .LtE .LtE (.ci 1) (.bi .len (.cons (.bv 0) .nil)) (.ci 2))) (.nt (.bi .all (.cons (.comp (.cmp .In (.bv 1) (.cs (Str.ofString "0123456789"))) [1] (.var 0) .nil [1]) .nil)))) (.seq .nev .skip) .skip) (.seq (.ret (.bi .int (.cons (.bv 0) .nil))) .skip))⟩
/-- tie_of -/
def fd104 : Fd := ⟨[false], 3, (.seq (.set 1 (.split (.bv 0) (.cs (Str.ofString "=")))) (.seq (.ifs (.cmp .NotEq (.bi .len (.cons (.bv 1) .nil)) (.ci 2)) (.seq .nev .skip) .skip) (.seq (.set 2 (.split (.ix (.bv 1) (.ci 0)) (.cs (Str.ofString "-")))) (.seq (.ifs (.cmp .NotEq (.bi .len (.cons (.bv 2) .nil)) (.ci 2)) (.seq .nev .skip) .skip) (.seq (.ret (.tup (.cons (.call 103 (.cons (.ix (.bv 2) (.ci 0)) .nil)) (.cons (.call 103 (.cons (.ix (.bv 2) (.ci 1)) .nil)) (.cons (.call 103 (.cons (.ix (.bv 1) (.ci 1)) .nil)) .nil))))) .skip)))))⟩
/-- read -/
def fd105 : Fd := ⟨[false], 4, (.seq (.ifs (.nt (.isi .str (.bv 0))) (.seq .nev .skip) .skip) (.seq (.set 1 (.split (.bv 0) (.cs (Str.ofString " ")))) (.seq (.ifs (.or (.cmp .Lt (.bi .len (.cons (.bv 1) .nil)) (.ci 2)) (.cmp .NotEq (.ix (.bv 1) (.ci 1)) (.cs (Str.ofString ":")))) (.seq .nev .skip) .skip) (.seq (.set 2 (.tup (.cons (.call 103 (.cons (.ix (.bv 1) (.ci 0)) .nil)) (.cons (.bi .tuple (.cons (.comp (.call 104 (.cons (.var 3) .nil)) [3] (.sl (.bv 1) (.ci 2) .nil) .nil [3]) .nil)) .nil)))) (.seq (.ifs (.or (.nt (.call 8 (.cons (.var 2) .nil))) (.cmp .NotEq (.call 0 (.cons (.var 2) .nil)) (.bv 0))) (.seq .nev .skip) .skip) (.seq (.ret (.var 2)) .skip))))))⟩
/-- _law_text -/
def fd106 : Fd := ⟨[false], 5, (.seq (.set 1 (.bin .Add (.bi .str (.cons (.ix (.bv 0) (.ci 0)) .nil)) (.cs (Str.ofString " :")))) (.seq (.for_ [2, 3, 4] (.ix (.bv 0) (.ci 1)) (.seq (.set 1 (.bin .Add (.bin .Add (.bin .Add (.bin .Add (.bin .Add (.bin .Add (.bv 1) (.cs (Str.ofString " "))) (.bi .str (.cons (.bv 2) .nil))) (.cs (Str.ofString "-"))) (.bi .str (.cons (.bv 3) .nil))) (.cs (Str.ofString "="))) (.bi .str (.cons (.bv 4) .nil)))) .skip)) (.seq (.ret (.var 1)) .skip)))⟩
/-- _law_changed -/
def fd107 : Fd := ⟨[false, false], 6, (.seq (.set 2 (.bin .Mod (.bin .FloorDiv (.bv 1) (.ci 16)) (.bin .Add (.bi .len (.cons (.bv 0) .nil)) (.ci 1)))) (.seq (.set 3 (.ix (.cs (Str.ofString " 0123456789:=-a~")) (.bin .Mod (.bin .FloorDiv (.bv 1) (.ci 400)) (.ci 16)))) (.seq (.ifs (.cmp .Eq (.bin .Mod (.bv 1) (.ci 8)) (.ci 0)) (.seq (.ret (.bin .Add (.bin .Add (.sl (.bv 0) .nil (.bv 2)) (.bv 3)) (.sl (.bv 0) (.bv 2) .nil))) .skip) .skip) (.seq (.ifs (.cmp .Eq (.bin .Mod (.bv 1) (.ci 8)) (.ci 3)) (.seq (.ret (.bin .Add (.sl (.bv 0) .nil (.bv 2)) (.sl (.bv 0) (.bin .Add (.bv 2) (.ci 1)) .nil))) .skip) .skip) (.seq (.ifs (.cmp .Lt (.bin .Mod (.bv 1) (.ci 8)) (.ci 3)) (.seq (.ret (.bin .Add (.bin .Add (.sl (.bv 0) .nil (.bv 2)) (.bv 3)) (.sl (.bv 0) (.bin .Add (.bv 2) (.ci 1)) .nil))) .skip) .skip) (.seq (.setO 4 (.split (.bv 0) (.cs (Str.ofString " ")))) (.seq (.set 2 (.bin .Mod (.bin .FloorDiv (.bv 1) (.ci 16)) (.bi .len (.cons (.bv 4) .nil)))) (.seq (.ifs (.cmp .Eq (.bin .Mod (.bv 1) (.ci 8)) (.ci 4)) (.seq (.setO 4 (.bin .Add (.sl (.bv 4) .nil (.bv 2)) (.sl (.bv 4) (.bin .Add (.bv 2) (.ci 1)) .nil))) .skip) .skip) (.seq (.ifs (.cmp .Eq (.bin .Mod (.bv 1) (.ci 8)) (.ci 5)) (.seq (.setO 4 (.bin .Add (.bin .Add (.sl (.bv 4) .nil (.bv 2)) (.sl (.bv 4) (.bv 2) (.bin .Add (.bv 2) (.ci 1)))) (.sl (.bv 4) (.bv 2) .nil))) .skip) .skip) (.seq (.ifs (.cmp .Eq (.bin .Mod (.bv 1) (.ci 8)) (.ci 6)) (.seq (.setO 4 (.bin .Add (.bin .Add (.sl (.bv 4) .nil (.bv 2)) (.rev (.sl (.bv 4) (.bv 2) (.bin .Add (.bv 2) (.ci 2))))) (.sl (.bv 4) (.bin .Add (.bv 2) (.ci 2)) .nil))) .skip) .skip) (.seq (.ifs (.cmp .Eq (.bin .Mod (.bv 1) (.ci 8)) (.ci 7)) (.seq (.set 5 (.lst (.cons (.cs (Str.ofString "0")) (.cons (.cs (Str.ofString "7")) (.cons (.cs (Str.ofString ":")) (.cons (.cs (Str.ofString "0-1=5")) (.cons (.cs (Str.ofString "1-0=5")) (.cons (.cs (Str.ofString "0-1=100")) (.cons (.cs (Str.ofString "0-1=05")) (.cons (.cs (Str.ofString "0-6=1")) (.cons (.cs (Str.ofString "0-1")) (.cons (.cs (Str.ofString "=")) (.cons (.cs (Str.ofString "1-1=1")) (.cons (.cs (Str.ofString "-")) (.cons (.cs (Str.ofString "0-1=0")) (.cons (.cs (Str.ofString "")) .nil)))))))))))))))) (.seq (.sti 4 (.bv 2) (.ix (.bv 5) (.bin .Mod (.bin .FloorDiv (.bv 1) (.ci 400)) (.ci 14)))) .skip)) .skip) (.seq (.shr 4) (.seq (.ret (.join (.cs (Str.ofString " ")) (.bv 4))) .skip)))))))))))))⟩
/-- law -/
def fd109 : Fd := ⟨[false], 6, (.seq (.set 1 (.call 4 (.cons (.call 2 (.cons (.var 0) (.cons (.ci 0) .nil))) .nil))) (.seq (.set 2 (.call 2 (.cons (.var 0) (.cons (.ci 1) .nil)))) (.seq (.set 3 (.call 106 (.cons (.var 1) .nil))) (.seq (.ifs (.cmp .NotEq (.call 108 (.cons (.var 3) .nil)) (.bv 1)) (.seq (.ret (.cb false)) .skip) .skip) (.seq (.for_ [4] (.rg (.ci 0) (.ix (.tup (.cons (.ci 0) (.cons (.ci 1) (.cons (.ci 2) (.cons (.ci 4) (.cons (.ci 0) (.cons (.ci 1) .nil))))))) (.bin .Mod (.bv 2) (.ci 6)))) (.seq (.set 3 (.call 107 (.cons (.var 3) (.cons (.call 3 (.cons (.var 2) (.cons (.var 4) .nil))) .nil)))) .skip)) (.seq (.set 5 (.call 108 (.cons (.var 3) .nil))) (.seq (.ret (.or (.cmp .Is (.bv 5) .cn) (.an (.cmp .NotEq (.bv 5) (.ci 0)) (.an (.cmp .Is (.call 8 (.cons (.var 5) .nil)) (.cb true)) (.cmp .Eq (.call 106 (.cons (.var 5) .nil)) (.bv 3)))))) .skip)))))))⟩
/-- !number_of -/
def fd134 : Fd := ⟨[false], 2, (.seq (.ret (.or (.nt (.cmp2 .LtE .LtE (.ci 1) (.bi .len (.cons (.bv 0) .nil)) (.ci 2))) (.nt (.bi .all (.cons (.comp (.cmp .In (.bv 1) (.cs (Str.ofString "0123456789"))) [1] (.var 0) .nil [1]) .nil))))) .skip)⟩
def tab : Nat → Option Fd
  | 0 => some fd0
  | 1 => some fd1
  | 2 => some fd2
  | 3 => some fd3
  | 4 => some fd4
  | 6 => some fd6
  | 7 => some fd7
  | 8 => some fd8
  | 9 => some fd9
  | 10 => some fd10
  | 12 => some fd12
  | 13 => some fd13
  | 14 => some fd14
  | 15 => some fd15
  | 16 => some fd16
  | 19 => some fd19
  | 20 => some fd20
  | 21 => some fd21
  | 22 => some fd22
  | 23 => some fd23
  | 24 => some fd24
  | 25 => some fd25
  | 26 => some fd26
  | 27 => some fd27
  | 28 => some fd28
  | 30 => some fd30
  | 32 => some fd32
  | 33 => some fd33
  | 34 => some fd34
  | 35 => some fd35
  | 36 => some fd36
  | 37 => some fd37
  | 38 => some fd38
  | 39 => some fd39
  | 40 => some fd40
  | 46 => some fd46
  | 47 => some fd47
  | 49 => some fd49
  | 61 => some fd61
  | 62 => some fd62
  | 63 => some fd63
  | 103 => some fd103
  | 104 => some fd104
  | 105 => some fd105
  | 106 => some fd106
  | 107 => some fd107
  | 109 => some fd109
  | 134 => some fd134
  | _ => none
end J
namespace J
open PySem
def ext : Nat → (Nat → List D → Option D) → List D → Option D := fun k Φ => if k = 11 then endsF 3 Φ else if k = 43 then refF (List.replicate 2 false) (Φ 123) else if k = 84 then refF (List.replicate 3 false) (Φ 124) else if k = 101 then refF (List.replicate 2 false) (Φ 125) else if k = 86 then grownF Φ else if k = 130 then growD Φ else if k = 131 then Φ 132 else if k = 132 then initD else if k = 114 then putDD 114 133 Φ else if k = 116 then spoD 114 113 Φ else if k = 133 then lamD (.call 115 (.cons (.var 0) (.cons (.bin .FloorDiv (.bv 1) (.ci 4096)) .nil))) Φ else if k = 108 then tryF 105 136 .none ieTold 2 Φ else if k = 110 then tryF 105 136 (.bool true) (ieRight 8 0) 1 Φ else if k = 135 then tieXD 103 134 Φ else if k = 136 then readXD 103 134 104 135 8 0 Φ else fun _ => none
abbrev Ph : Nat → Nat → List D → Option D := Phi tab ext
theorem atI_nat {α : Type} {xs : List α} {k : Nat} : L2.atI xs (k : Int) = xs[k]? := by
  unfold L2.atI L2.ixN
  by_cases h : k < xs.length
  · rw [if_pos (by omega), if_pos (by omega)]
    simp
  · rw [if_pos (by omega), if_neg (by omega), List.getElem?_eq_none (by omega)]
    rfl
theorem ix_scr {ns : List Int} {k : Nat} (h : k < ns.length) : opIx (scr ns) (.int k) = some (.int ns[k]) := by
  simp only [scr, opIx, objD_scr, if_true]
  rw [atI_map, Option.map_map, atI_nat, List.getElem?_eq_getElem h]
  rfl
theorem cell_at (n : Nat) (ns : List Int) (k : Nat) : Ph (n + 1) 1 [scr ns, .int k] = some (.int (ns.getD k 0)) := by
  show evF (Ph n) fd1 [scr ns, .int k] = _
  by_cases h : k < ns.length
  · have h' : (k : Int) < ns.length := by omega
    have hx := ix_scr h
    unfold scr at hx
    simp only [evF, start0, evS, evE, evA, evI, evO, evC, evR, getB, getV, evBi, biLen, biMin, biMax, biSum, biAll, biAny, biAbs, biInt, biStr, biTuple, biList, biSorted, opB, opAdd, opSub, opAnd, opPow, opC, opI, opIs, isNoneD, testD, bindT, bindEach, wipeE, opRg, evIsi, itemsD, seq2, opSl, opRev, Option.map_some, Option.map_none, List.length_cons, List.length_nil, List.getElem?_cons_zero, List.getElem?_cons_succ, List.set_cons_zero, List.set_cons_succ, List.cons_append, List.nil_append, List.replicate_succ, List.replicate_zero, if_true, if_false, reduceIte, Nat.reduceAdd, Nat.reduceSub, Nat.reduceLeDiff, Bool.true_and, Bool.and_true, Bool.false_and, Bool.and_false, reduceCtorEq, fd1, scr, objD_scr, List.length_map, hx, h', decide_true]
    simp [h]
  · have h' : ¬ (k : Int) < ns.length := by omega
    simp only [evF, start0, evS, evE, evA, evI, evO, evC, evR, getB, getV, evBi, biLen, biMin, biMax, biSum, biAll, biAny, biAbs, biInt, biStr, biTuple, biList, biSorted, opB, opAdd, opSub, opAnd, opPow, opC, opI, opIs, isNoneD, testD, bindT, bindEach, wipeE, opRg, evIsi, itemsD, seq2, opSl, opRev, Option.map_some, Option.map_none, List.length_cons, List.length_nil, List.getElem?_cons_zero, List.getElem?_cons_succ, List.set_cons_zero, List.set_cons_succ, List.cons_append, List.nil_append, List.replicate_succ, List.replicate_zero, if_true, if_false, reduceIte, Nat.reduceAdd, Nat.reduceSub, Nat.reduceLeDiff, Bool.true_and, Bool.and_true, Bool.false_and, Bool.and_false, reduceCtorEq, fd1, scr, objD_scr, List.length_map, h', decide_false]
    simp [h]
theorem mulOk_r {i j : Int} (h : j.natAbs < 2 ^ 64) : mulOk i j = true := by
  unfold mulOk
  simp [h]
theorem mulOk_l {i j : Int} (h : i.natAbs < 2 ^ 64) : mulOk i j = true := by
  unfold mulOk
  simp [h]
theorem mul_r {i j : Int} (h : j.natAbs < 2 ^ 64) : opMul (.int i) (.int j) = some (.int (i * j)) := by
  simp only [opMul, mulOk_r h, if_true]
theorem mul_l {i j : Int} (h : i.natAbs < 2 ^ 64) : opMul (.int i) (.int j) = some (.int (i * j)) := by
  simp only [opMul, mulOk_l h, if_true]
theorem modOk0 {i j : Int} (h : 0 < j) : opMod (.int i) (.int j) = some (.int (i % j)) := by
  simp only [opMod]
  rw [if_pos h]
def mix0 (ns : List Int) (k : Nat) : Int := (ns.getD k 0 + 7919 * k + 1) * 48271 % 2147483647
def mix (ns : List Int) (k : Nat) : Int := (mix0 ns k * mix0 ns k + 7 * mix0 ns k + k) % 2147483629
def drw0 (a k : Int) : Int := (a + 104729 * k + 17) * 69621 % 2147483647
def drw (a k : Int) : Int := (drw0 a k * drw0 a k + 3 * drw0 a k + k) % 2147483629
theorem mix0_b (ns : List Int) (k : Nat) : 0 ≤ mix0 ns k ∧ mix0 ns k < 2147483647 := by
  unfold mix0; omega
theorem drw0_b (a k : Int) : 0 ≤ drw0 a k ∧ drw0 a k < 2147483647 := by
  unfold drw0; omega
theorem mix_b (ns : List Int) (k : Nat) : 0 ≤ mix ns k ∧ mix ns k < 2147483629 := by
  unfold mix; omega
theorem drw_b (a k : Int) : 0 ≤ drw a k ∧ drw a k < 2147483629 := by
  unfold drw; omega
theorem mixed (n : Nat) (ns : List Int) (k : Nat) : Ph (n + 2) 2 [scr ns, .int k] = some (.int (mix ns k)) := by
  show evF (Ph (n + 1)) fd2 [scr ns, .int k] = _
  have b := mix0_b ns k
  simp only [evF, start0, evS, evE, evA, evI, evO, evC, evR, getB, getV, evBi, biLen, biMin, biMax, biSum, biAll, biAny, biAbs, biInt, biStr, biTuple, biList, biSorted, opB, opAdd, opSub, opAnd, opPow, opC, opI, opIs, isNoneD, testD, bindT, bindEach, wipeE, opRg, evIsi, itemsD, seq2, opSl, opRev, Option.map_some, Option.map_none, List.length_cons, List.length_nil, List.getElem?_cons_zero, List.getElem?_cons_succ, List.set_cons_zero, List.set_cons_succ, List.cons_append, List.nil_append, List.replicate_succ, List.replicate_zero, if_true, if_false, reduceIte, Nat.reduceAdd, Nat.reduceSub, Nat.reduceLeDiff, Bool.true_and, Bool.and_true, Bool.false_and, Bool.and_false, reduceCtorEq, fd2, cell_at, modOk0 (show (0 : Int) < 2147483647 from by decide), modOk0 (show (0 : Int) < 2147483629 from by decide), mul_l (i := 7919) (by decide), mul_r (j := 48271) (by decide), show (0 : Int) < 2147483647 from by decide]
  rw [show (ns.getD k 0 + 7919 * (k : Int) + 1) * 48271 % 2147483647 = mix0 ns k from rfl]
  simp only [evF, start0, evS, evE, evA, evI, evO, evC, evR, getB, getV, evBi, biLen, biMin, biMax, biSum, biAll, biAny, biAbs, biInt, biStr, biTuple, biList, biSorted, opB, opAdd, opSub, opAnd, opPow, opC, opI, opIs, isNoneD, testD, bindT, bindEach, wipeE, opRg, evIsi, itemsD, seq2, opSl, opRev, Option.map_some, Option.map_none, List.length_cons, List.length_nil, List.getElem?_cons_zero, List.getElem?_cons_succ, List.set_cons_zero, List.set_cons_succ, List.cons_append, List.nil_append, List.replicate_succ, List.replicate_zero, if_true, if_false, reduceIte, Nat.reduceAdd, Nat.reduceSub, Nat.reduceLeDiff, Bool.true_and, Bool.and_true, Bool.false_and, Bool.and_false, reduceCtorEq, modOk0 (show (0 : Int) < 2147483629 from by decide), mul_l (i := mix0 ns k) (j := mix0 ns k) (by omega), mul_l (i := 7) (by decide), show (0 : Int) < 2147483629 from by decide]
  rfl
theorem drawn (n : Nat) (a k : Int) : Ph (n + 1) 3 [.int a, .int k] = some (.int (drw a k)) := by
  show evF (Ph n) fd3 [.int a, .int k] = _
  have b := drw0_b a k
  simp only [evF, start0, evS, evE, evA, evI, evO, evC, evR, getB, getV, evBi, biLen, biMin, biMax, biSum, biAll, biAny, biAbs, biInt, biStr, biTuple, biList, biSorted, opB, opAdd, opSub, opAnd, opPow, opC, opI, opIs, isNoneD, testD, bindT, bindEach, wipeE, opRg, evIsi, itemsD, seq2, opSl, opRev, Option.map_some, Option.map_none, List.length_cons, List.length_nil, List.getElem?_cons_zero, List.getElem?_cons_succ, List.set_cons_zero, List.set_cons_succ, List.cons_append, List.nil_append, List.replicate_succ, List.replicate_zero, if_true, if_false, reduceIte, Nat.reduceAdd, Nat.reduceSub, Nat.reduceLeDiff, Bool.true_and, Bool.and_true, Bool.false_and, Bool.and_false, reduceCtorEq, fd3, modOk0 (show (0 : Int) < 2147483647 from by decide), modOk0 (show (0 : Int) < 2147483629 from by decide), mul_l (i := 104729) (by decide), mul_r (j := 69621) (by decide), show (0 : Int) < 2147483647 from by decide]
  rw [show (a + 104729 * k + 17) * 69621 % 2147483647 = drw0 a k from rfl]
  simp only [evF, start0, evS, evE, evA, evI, evO, evC, evR, getB, getV, evBi, biLen, biMin, biMax, biSum, biAll, biAny, biAbs, biInt, biStr, biTuple, biList, biSorted, opB, opAdd, opSub, opAnd, opPow, opC, opI, opIs, isNoneD, testD, bindT, bindEach, wipeE, opRg, evIsi, itemsD, seq2, opSl, opRev, Option.map_some, Option.map_none, List.length_cons, List.length_nil, List.getElem?_cons_zero, List.getElem?_cons_succ, List.set_cons_zero, List.set_cons_succ, List.cons_append, List.nil_append, List.replicate_succ, List.replicate_zero, if_true, if_false, reduceIte, Nat.reduceAdd, Nat.reduceSub, Nat.reduceLeDiff, Bool.true_and, Bool.and_true, Bool.false_and, Bool.and_false, reduceCtorEq, modOk0 (show (0 : Int) < 2147483629 from by decide), mul_l (i := drw0 a k) (j := drw0 a k) (by omega), mul_l (i := 3) (by decide), show (0 : Int) < 2147483629 from by decide]
  rfl
end J

namespace J
open PySem
theorem forL_inv {f : D → En → Option Fl} (I : Nat → En → Prop) : ∀ (ds : List D) (env : En), I 0 env → (∀ i x env, ds[i]? = some x → I i env → ∃ env', f x env = some (.nx env') ∧ I (i + 1) env') → ∃ env', forL f ds env = some (.nx env') ∧ I ds.length env' := by
  intro ds env h0 hs
  have go : ∀ (r : List D) (k : Nat) (env : En), (∀ i x, r[i]? = some x → ds[k + i]? = some x) → I k env → ∃ env', forL f r env = some (.nx env') ∧ I (k + r.length) env' := by
    intro r
    induction r with
    | nil => intro k env _ h; exact ⟨env, rfl, h⟩
    | cons x r ih =>
      intro k env hr h
      obtain ⟨e1, h1, h2⟩ := hs k x env (hr 0 x rfl) h
      obtain ⟨e2, h3, h4⟩ := ih (k + 1) e1 (fun i y hy => by rw [show k + 1 + i = k + (i + 1) by omega]; exact hr (i + 1) y hy) h2
      refine ⟨e2, ?_, ?_⟩
      · unfold forL
        rw [h1]
        exact h3
      · rw [List.length_cons, show k + (r.length + 1) = k + 1 + r.length by omega]
        exact h4
  have := go ds 0 env (fun i x h => by rw [Nat.zero_add]; exact h) h0
  rw [Nat.zero_add] at this
  exact this
theorem rgD_get {lo hi : Int} {i : Nat} {x : D} (h : (rgD lo hi)[i]? = some x) : x = .int (lo + i) ∧ lo + i < hi := by
  unfold rgD at h
  by_cases hi' : i < (hi - lo).toNat
  · rw [List.getElem?_map, List.getElem?_range hi'] at h
    cases h
    exact ⟨rfl, by omega⟩
  · rw [List.getElem?_eq_none (by simp; omega)] at h
    cases h
theorem rgD_len (lo hi : Int) : (rgD lo hi).length = (hi - lo).toNat := by unfold rgD; simp
theorem cutD_from {α : Type} (xs : List α) (k : Nat) : cutD xs (some (k : Int)) none = xs.drop k := by
  unfold cutD
  rw [HT.sIx_nat, HT.sIx_none]
  by_cases h : k ≤ xs.length
  · rw [Nat.min_eq_left h]
    exact List.take_of_length_le (by simp)
  · rw [Nat.min_eq_right (by omega), List.drop_length, List.drop_eq_nil_of_le (by omega)]
    simp
theorem cutD_to {α : Type} (xs : List α) (k : Nat) : cutD xs none (some (k : Int)) = xs.take k := by
  unfold cutD
  rw [HT.sIx_nat, HT.sIx_none]
  by_cases h : k ≤ xs.length
  · rw [Nat.min_eq_left h]; simp
  · rw [Nat.min_eq_right (by omega), List.take_of_length_le (show xs.length ≤ k by omega)]
    simp
abbrev T3 := Nat × Nat × Nat
def encT (t : T3) : D := .tuple [.int t.1, .int t.2.1, .int t.2.2]
structure Web where
  many : Nat
  ties : List T3
def encW (w : Web) : D := .tuple [.int w.many, .tuple (w.ties.map encT)]
def Tok (many : Nat) (t : T3) : Prop := t.1 < t.2.1 ∧ t.2.1 < many ∧ t.2.2 ≤ 99
structure Wok (w : Web) : Prop where
  lo : 1 ≤ w.many
  hi : w.many ≤ 7
  len : w.ties.length ≤ 10
  ok : ∀ t ∈ w.ties, Tok w.many t
theorem pick8 (k : Int) : ∃ m : Nat, 1 ≤ m ∧ m ≤ 7 ∧ opIx (.tuple [.int 2, .int 3, .int 4, .int 5, .int 6, .int 7, .int 4, .int 1]) (.int (k % 8)) = some (.int m) := by
  have h : k % 8 = 0 ∨ k % 8 = 1 ∨ k % 8 = 2 ∨ k % 8 = 3 ∨ k % 8 = 4 ∨ k % 8 = 5 ∨ k % 8 = 6 ∨ k % 8 = 7 := by omega
  rcases h with h | h | h | h | h | h | h | h <;> rw [h]
  · exact ⟨2, by decide, by decide, rfl⟩
  · exact ⟨3, by decide, by decide, rfl⟩
  · exact ⟨4, by decide, by decide, rfl⟩
  · exact ⟨5, by decide, by decide, rfl⟩
  · exact ⟨6, by decide, by decide, rfl⟩
  · exact ⟨7, by decide, by decide, rfl⟩
  · exact ⟨4, by decide, by decide, rfl⟩
  · exact ⟨1, by decide, by decide, rfl⟩
theorem pick4 (k : Int) : ∃ m : Nat, 1 ≤ m ∧ m ≤ 100 ∧ opIx (.tuple [.int 1, .int 3, .int 10, .int 100]) (.int (k % 4)) = some (.int m) := by
  have h : k % 4 = 0 ∨ k % 4 = 1 ∨ k % 4 = 2 ∨ k % 4 = 3 := by omega
  rcases h with h | h | h | h <;> rw [h]
  · exact ⟨1, by decide, by decide, rfl⟩
  · exact ⟨3, by decide, by decide, rfl⟩
  · exact ⟨10, by decide, by decide, rfl⟩
  · exact ⟨100, by decide, by decide, rfl⟩
theorem divOk {i j : Int} (h : 0 < j) (h2 : j < 2 ^ 64) : opDiv (.int i) (.int j) = some (.int (i / j)) := by
  simp only [opDiv]
  rw [if_pos ⟨h, Nat.lt_of_lt_of_le (show j.natAbs < 2 ^ 64 by omega) (Nat.pow_le_pow_right (by decide) (by decide))⟩]
theorem modOk {i j : Int} (h : 0 < j) : opMod (.int i) (.int j) = some (.int (i % j)) := by
  simp only [opMod]
  rw [if_pos h]
theorem toN {x : Int} (h : 0 ≤ x) : ((x.toNat : Nat) : Int) = x := by omega
def bodyW1 : IS := (.seq (.set 5 (.bin .FloorDiv (.call 3 (.cons (.var 0) (.cons (.var 4) .nil))) (.ci 4))) (.seq (.ifs (.cmp .Gt (.bin .Mod (.bv 5) (.ci 16)) (.ci 0)) (.seq (.app 3 (.tup (.cons (.bin .Mod (.bin .FloorDiv (.bv 5) (.ci 16)) (.bv 4)) (.cons (.var 4) (.cons (.bin .Mod (.bin .FloorDiv (.bv 5) (.ci 512)) (.bv 2)) .nil))))) .skip) .skip) .skip))
def W1 (a many high : Int) (m : Nat) (k : Nat) (i : Nat) (env : En) : Prop := ∃ (ts : List T3) (s4 s5 s6 s7 s8 s9 : Sl), env = [.val (.int a), .val (.int many), .val (.int high), .own (ts.map encT), s4, s5, s6, s7, s8, s9] ∧ ts.length ≤ k + i ∧ ∀ t ∈ ts, Tok m t
theorem web1 (n : Nat) (a : Int) (m h : Nat) (hm : m ≤ 7) (hh : 1 ≤ h) (hh2 : h ≤ 100) (i : Nat) (x : D) (env : En) (hx : (rgD 1 (m : Int))[i]? = some x) (hI : W1 a m h m 0 i env) :
    ∃ env', forB [4] (evS (Ph (n + 1)) bodyW1) x env = some (.nx env') ∧ W1 a m h m 0 (i + 1) env' := by
  obtain ⟨rfl, hlt⟩ := rgD_get hx
  obtain ⟨ts, s4, s5, s6, s7, s8, s9, rfl, hl, hts⟩ := hI
  generalize hd : drw a (1 + i) / 4 = d
  have hd0 : 0 ≤ d := by have := drw_b a (1 + i); omega
  by_cases hc : d % 16 > 0
  · have hc' : (0 : Int) < d % 16 := hc
    simp only [forB, evF, start0, evS, evE, evA, evI, evO, evC, evR, getB, getV, evBi, biLen, biMin, biMax, biSum, biAll, biAny, biAbs, biInt, biStr, biTuple, biList, biSorted, opB, opAdd, opSub, opAnd, opPow, opC, opI, opIs, isNoneD, testD, bindT, bindEach, wipeE, opRg, evIsi, itemsD, seq2, opSl, opRev, Option.map_some, Option.map_none, List.length_cons, List.length_nil, List.getElem?_cons_zero, List.getElem?_cons_succ, List.set_cons_zero, List.set_cons_succ, List.cons_append, List.nil_append, List.replicate_succ, List.replicate_zero, if_true, if_false, reduceIte, Nat.reduceAdd, Nat.reduceSub, Nat.reduceLeDiff, Bool.true_and, Bool.and_true, Bool.false_and, Bool.and_false, reduceCtorEq, bodyW1, drawn, divOk (j := 4) (by decide) (by decide), hd, modOk (j := 16) (by decide), hc', decide_true, divOk (j := 16) (by decide) (by decide), divOk (j := 512) (by decide) (by decide), modOk (show (0 : Int) < 1 + (i : Int) by omega), modOk (show (0 : Int) < (h : Int) by omega)]
    have hz : (ts.map encT).length < 100000 := by rw [List.length_map]; omega
    simp only [hz, if_true]
    refine ⟨_, rfl, ts ++ [((d / 16 % (1 + i)).toNat, 1 + i, (d / 512 % h).toNat)], .val (.int (1 + i)), .val (.int d), s6, s7, s8, s9, ?_, by rw [List.length_append]; simp; omega, fun t ht => ?_⟩
    · rw [List.map_append]
      simp only [encT, List.map_cons, List.map_nil]
      rw [toN (Int.emod_nonneg _ (by omega)), toN (Int.emod_nonneg _ (by omega))]
      rfl
    · rcases List.mem_append.mp ht with ht | ht
      · exact hts t ht
      · rw [List.mem_singleton.mp ht]
        have e1 := Int.emod_nonneg (d / 16) (show (1 + (i : Int)) ≠ 0 by omega)
        have e2 := Int.emod_lt_of_pos (d / 16) (show 0 < (1 + (i : Int)) by omega)
        have e3 := Int.emod_lt_of_pos (d / 512) (show 0 < (h : Int) by omega)
        have e4 := Int.emod_nonneg (d / 512) (show (h : Int) ≠ 0 by omega)
        refine ⟨?_, ?_, ?_⟩
        · show (d / 16 % (1 + i)).toNat < 1 + i; omega
        · show 1 + i < m; omega
        · show (d / 512 % h).toNat ≤ 99; omega
  · have hc' : ¬ (0 : Int) < d % 16 := hc
    simp only [forB, evF, start0, evS, evE, evA, evI, evO, evC, evR, getB, getV, evBi, biLen, biMin, biMax, biSum, biAll, biAny, biAbs, biInt, biStr, biTuple, biList, biSorted, opB, opAdd, opSub, opAnd, opPow, opC, opI, opIs, isNoneD, testD, bindT, bindEach, wipeE, opRg, evIsi, itemsD, seq2, opSl, opRev, Option.map_some, Option.map_none, List.length_cons, List.length_nil, List.getElem?_cons_zero, List.getElem?_cons_succ, List.set_cons_zero, List.set_cons_succ, List.cons_append, List.nil_append, List.replicate_succ, List.replicate_zero, if_true, if_false, reduceIte, Nat.reduceAdd, Nat.reduceSub, Nat.reduceLeDiff, Bool.true_and, Bool.and_true, Bool.false_and, Bool.and_false, reduceCtorEq, bodyW1, drawn, divOk (j := 4) (by decide) (by decide), hd, modOk (j := 16) (by decide), hc', decide_false]
    exact ⟨_, rfl, ts, .val (.int (1 + i)), .val (.int d), s6, s7, s8, s9, rfl, by omega, hts⟩
def bodyW2 : IS := (.seq (.set 5 (.bin .FloorDiv (.call 3 (.cons (.var 0) (.cons (.bin .Add (.ci 20) (.bv 6)) .nil))) (.ci 4))) (.seq (.set 7 (.bin .Mod (.bv 5) (.bv 1))) (.seq (.set 8 (.bin .Mod (.bin .Add (.bin .Add (.bv 7) (.ci 1)) (.bin .Mod (.bin .FloorDiv (.bv 5) (.ci 8)) (.bin .Sub (.bv 1) (.ci 1)))) (.bv 1))) (.seq (.app 3 (.tup (.cons (.bi .min (.cons (.bv 7) (.cons (.bv 8) .nil))) (.cons (.bi .max (.cons (.bv 7) (.cons (.bv 8) .nil))) (.cons (.bin .Mod (.bin .FloorDiv (.bv 5) (.ci 512)) (.bv 2)) .nil))))) .skip))))
/-- another place than o, by a step of 1 to m - 1 -/
theorem other_ne {o m q : Int} (h0 : 0 ≤ o) (h1 : o < m) (h2 : 0 ≤ q) (h3 : q < m - 1) : 0 ≤ (o + 1 + q) % m ∧ (o + 1 + q) % m < m ∧ (o + 1 + q) % m ≠ o := by
  have hm : 0 < m := by omega
  by_cases h : o + 1 + q < m
  · rw [Int.emod_eq_of_lt (by omega) h]
    omega
  · have : (o + 1 + q) % m = o + 1 + q - m := by
      rw [← Int.sub_emod_right]
      exact Int.emod_eq_of_lt (by omega) (by omega)
    rw [this]
    omega
theorem web2 (n : Nat) (a : Int) (m h c : Nat) (hm : m ≤ 7) (hm2 : 1 < m) (hh : 1 ≤ h) (hh2 : h ≤ 100) (cnt : Int) (k : Nat) (hk : k ≤ 10) (hcnt : k + cnt ≤ 10) (i : Nat) (x : D) (env : En) (hx : (rgD 0 cnt)[i]? = some x) (hI : W1 a m h m k i env) :
    ∃ env', forB [6] (evS (Ph (n + 1)) bodyW2) x env = some (.nx env') ∧ W1 a m h m k (i + 1) env' := by
  obtain ⟨rfl, hlt⟩ := rgD_get hx
  obtain ⟨ts, s4, s5, s6, s7, s8, s9, rfl, hl, hts⟩ := hI
  generalize hd : drw a (20 + (0 + i)) / 4 = d
  have hd0 : 0 ≤ d := by have := drw_b a (20 + (0 + i)); omega
  have hz : (ts.map encT).length < 100000 := by rw [List.length_map]; omega
  simp only [forB, evF, start0, evS, evE, evA, evI, evO, evC, evR, getB, getV, evBi, biLen, biMin, biMax, biSum, biAll, biAny, biAbs, biInt, biStr, biTuple, biList, biSorted, opB, opAdd, opSub, opAnd, opPow, opC, opI, opIs, isNoneD, testD, bindT, bindEach, wipeE, opRg, evIsi, itemsD, seq2, opSl, opRev, Option.map_some, Option.map_none, List.length_cons, List.length_nil, List.getElem?_cons_zero, List.getElem?_cons_succ, List.set_cons_zero, List.set_cons_succ, List.cons_append, List.nil_append, List.replicate_succ, List.replicate_zero, if_true, if_false, reduceIte, Nat.reduceAdd, Nat.reduceSub, Nat.reduceLeDiff, Bool.true_and, Bool.and_true, Bool.false_and, Bool.and_false, reduceCtorEq, bodyW2, drawn, divOk (j := 4) (by decide) (by decide), hd, modOk (show (0 : Int) < (m : Int) by omega), divOk (j := 8) (by decide) (by decide), modOk (show (0 : Int) < (m : Int) - 1 by omega), divOk (j := 512) (by decide) (by decide), modOk (show (0 : Int) < (h : Int) by omega), hz]
  have a1 := Int.emod_nonneg d (show (m : Int) ≠ 0 by omega)
  have a2 := Int.emod_lt_of_pos d (show 0 < (m : Int) by omega)
  have a3 := Int.emod_nonneg (d / 8) (show (m : Int) - 1 ≠ 0 by omega)
  have a4 := Int.emod_lt_of_pos (d / 8) (show 0 < (m : Int) - 1 by omega)
  have a5 := Int.emod_nonneg (d / 512) (show (h : Int) ≠ 0 by omega)
  have a6 := Int.emod_lt_of_pos (d / 512) (show 0 < (h : Int) by omega)
  generalize d % m = o at *
  generalize d / 8 % (m - 1) = q at *
  generalize d / 512 % h = p at *
  obtain ⟨b1, b2, b3⟩ := other_ne a1 a2 a3 a4
  generalize (o + 1 + q) % m = z at *
  refine ⟨_, rfl, ts ++ [((if z < o then z else o).toNat, (if z > o then z else o).toNat, p.toNat)], s4, .val (.int d), .val (.int (0 + i)), .val (.int o), .val (.int z), s9, ?_, by rw [List.length_append]; simp; omega, fun t ht => ?_⟩
  · rw [List.map_append]
    simp only [encT, List.map_cons, List.map_nil]
    rw [toN (show 0 ≤ (if z < o then z else o) by split <;> omega), toN (show 0 ≤ (if z > o then z else o) by split <;> omega), toN a5]
  · rcases List.mem_append.mp ht with ht | ht
    · exact hts t ht
    · rw [List.mem_singleton.mp ht]
      refine ⟨?_, ?_, ?_⟩
      · show (if z < o then z else o).toNat < (if z > o then z else o).toNat
        split <;> split <;> omega
      · show (if z > o then z else o).toNat < m
        split <;> omega
      · show p.toNat ≤ 99; omega
theorem cutD_map {α β : Type} (f : α → β) (xs : List α) (lo hi : Option Int) : cutD (xs.map f) lo hi = (cutD xs lo hi).map f := by
  unfold cutD
  rw [List.length_map, List.map_take, List.map_drop]
theorem web (n : Nat) (a : Int) (ha : 0 ≤ a) : ∃ w, Ph (n + 2) 4 [.int a] = some (encW w) ∧ Wok w := by
  obtain ⟨m, m1, m2, hm⟩ := pick8 a
  obtain ⟨h, h1, h2, hh⟩ := pick4 (a / 8)
  have st : W1 a m h m 0 0 [.val (.int a), .val (.int m), .val (.int h), .own [], .no, .no, .no, .no, .no, .no] := ⟨[], .no, .no, .no, .no, .no, .no, rfl, Nat.le_refl _, fun t ht => by cases ht⟩
  obtain ⟨e1, f1, w1⟩ := forL_inv (W1 a m h m 0) (rgD 1 m) _ st (web1 n a m h m2 h1 h2)
  rw [rgD_len] at w1
  have main : ∃ e2, (∃ ts : List T3, ∃ s4 s5 s6 s7 s8 s9 : Sl, e2 = [.val (.int a), .val (.int m), .val (.int h), .own (ts.map encT), s4, s5, s6, s7, s8, s9] ∧ ts.length ≤ 10 ∧ ∀ t ∈ ts, Tok m t) ∧
      evS (Ph (n + 1)) (.ifs (.cmp .Gt (.bv 1) (.ci 1)) (.seq (.for_ [6] (.rg (.ci 0) (.bin .Mod (.bin .FloorDiv (.bv 0) (.ci 32)) (.bin .Sub (.ci 11) (.bi .len (.cons (.bv 3) .nil))))) bodyW2) .skip) .skip) e1 = some (.nx e2) := by
    obtain ⟨ts, s4, s5, s6, s7, s8, s9, rfl, hl, hts⟩ := w1
    have hl6 : ts.length ≤ 6 := by omega
    by_cases hm2 : (1 : Int) < m
    · have c0 := Int.emod_nonneg (a / 32) (show (11 - (ts.length : Int)) ≠ 0 by omega)
      have c1 := Int.emod_lt_of_pos (a / 32) (show 0 < (11 - (ts.length : Int)) by omega)
      simp only [evF, start0, evS, evE, evA, evI, evO, evC, evR, getB, getV, evBi, biLen, biMin, biMax, biSum, biAll, biAny, biAbs, biInt, biStr, biTuple, biList, biSorted, opB, opAdd, opSub, opAnd, opPow, opC, opI, opIs, isNoneD, testD, bindT, bindEach, wipeE, opRg, evIsi, itemsD, seq2, opSl, opRev, Option.map_some, Option.map_none, List.length_cons, List.length_nil, List.getElem?_cons_zero, List.getElem?_cons_succ, List.set_cons_zero, List.set_cons_succ, List.cons_append, List.nil_append, List.replicate_succ, List.replicate_zero, if_true, if_false, reduceIte, Nat.reduceAdd, Nat.reduceSub, Nat.reduceLeDiff, Bool.true_and, Bool.and_true, Bool.false_and, Bool.and_false, reduceCtorEq, hm2, decide_true, List.length_map, divOk (j := 32) (by decide) (by decide), modOk (show (0 : Int) < 11 - (ts.length : Int) by omega)]
      generalize hcnt : a / 32 % (11 - (ts.length : Int)) = cnt at *
      have hrg : rgOk 0 cnt = true := by unfold rgOk; simp; omega
      simp only [hrg, if_true]
      obtain ⟨e2, f2, w2⟩ := forL_inv (W1 a m h m ts.length) (rgD 0 cnt) _ ⟨ts, s4, s5, s6, s7, s8, s9, rfl, Nat.le_refl _, hts⟩ (web2 n a m h 0 m2 (by omega) h1 h2 cnt ts.length (by omega) (by omega))
      rw [rgD_len] at w2
      refine ⟨e2, ?_, ?_⟩
      · obtain ⟨ts', s4, s5, s6, s7, s8, s9, rfl, hl', hts'⟩ := w2
        exact ⟨ts', s4, s5, s6, s7, s8, s9, rfl, by omega, hts'⟩
      · exact (by rw [f2])
    · simp only [evF, start0, evS, evE, evA, evI, evO, evC, evR, getB, getV, evBi, biLen, biMin, biMax, biSum, biAll, biAny, biAbs, biInt, biStr, biTuple, biList, biSorted, opB, opAdd, opSub, opAnd, opPow, opC, opI, opIs, isNoneD, testD, bindT, bindEach, wipeE, opRg, evIsi, itemsD, seq2, opSl, opRev, Option.map_some, Option.map_none, List.length_cons, List.length_nil, List.getElem?_cons_zero, List.getElem?_cons_succ, List.set_cons_zero, List.set_cons_succ, List.cons_append, List.nil_append, List.replicate_succ, List.replicate_zero, if_true, if_false, reduceIte, Nat.reduceAdd, Nat.reduceSub, Nat.reduceLeDiff, Bool.true_and, Bool.and_true, Bool.false_and, Bool.and_false, reduceCtorEq, hm2, decide_false]
      exact ⟨_, ⟨ts, s4, s5, s6, s7, s8, s9, rfl, by omega, hts⟩, rfl⟩
  obtain ⟨e2, ⟨ts, s4, s5, s6, s7, s8, s9, rfl, hl, hts⟩, hmain⟩ := main
  have hrg : rgOk 1 (m : Int) = true := by unfold rgOk; simp; omega
  have c0 := Int.emod_nonneg (a / 1024) (show (5 : Int) ≠ 0 by omega)
  have c1 := Int.emod_lt_of_pos (a / 1024) (show 0 < (5 : Int) by omega)
  generalize hby : a / 1024 % 5 = by_ at *
  obtain ⟨j, rfl⟩ : ∃ j : Nat, by_ = j := ⟨by_.toNat, by omega⟩
  refine ⟨⟨m, ts.drop j ++ ts.take j⟩, ?_, m1, m2, ?_, fun t ht => ?_⟩
  · show evF (Ph (n + 1)) fd4 [.int a] = _
    have hlen : ((ts.map encT).drop j).length + ((ts.map encT).take j).length ≤ 1000000 := by
      rw [List.length_drop, List.length_take, List.length_map]; omega
    have eb : fd4.body = (.seq (.set 1 (.ix (.tup (.cons (.ci 2) (.cons (.ci 3) (.cons (.ci 4) (.cons (.ci 5) (.cons (.ci 6) (.cons (.ci 7) (.cons (.ci 4) (.cons (.ci 1) .nil))))))))) (.bin .Mod (.bv 0) (.ci 8)))) (.seq (.set 2 (.ix (.tup (.cons (.ci 1) (.cons (.ci 3) (.cons (.ci 10) (.cons (.ci 100) .nil))))) (.bin .Mod (.bin .FloorDiv (.bv 0) (.ci 8)) (.ci 4)))) (.seq (.setO 3 (.lst .nil)) (.seq (.for_ [4] (.rg (.ci 1) (.bv 1)) bodyW1)
      (.seq (.ifs (.cmp .Gt (.bv 1) (.ci 1)) (.seq (.for_ [6] (.rg (.ci 0) (.bin .Mod (.bin .FloorDiv (.bv 0) (.ci 32)) (.bin .Sub (.ci 11) (.bi .len (.cons (.bv 3) .nil))))) bodyW2) .skip) .skip) (.seq (.shr 3) (.seq (.set 9 (.bin .Mod (.bin .FloorDiv (.bv 0) (.ci 1024)) (.ci 5))) (.seq (.ret (.tup (.cons (.var 1) (.cons (.bi .tuple (.cons (.bin .Add (.sl (.bv 3) (.bv 9) .nil) (.sl (.bv 3) .nil (.bv 9))) .nil)) .nil)))) .skip)))))))) := rfl
    unfold evF
    rw [if_pos (show [PyData.int a].length = fd4.bs.length from rfl), eb]
    generalize hif : (IS.ifs (.cmp .Gt (.bv 1) (.ci 1)) (.seq (.for_ [6] (.rg (.ci 0) (.bin .Mod (.bin .FloorDiv (.bv 0) (.ci 32)) (.bin .Sub (.ci 11) (.bi .len (.cons (.bv 3) .nil))))) bodyW2) .skip) .skip) = IF at *
    simp only [evF, start0, evS, evE, evA, evI, evO, evC, evR, getB, getV, evBi, biLen, biMin, biMax, biSum, biAll, biAny, biAbs, biInt, biStr, biTuple, biList, biSorted, opB, opAdd, opSub, opAnd, opPow, opC, opI, opIs, isNoneD, testD, bindT, bindEach, wipeE, opRg, evIsi, itemsD, seq2, opSl, opRev, Option.map_some, Option.map_none, List.length_cons, List.length_nil, List.getElem?_cons_zero, List.getElem?_cons_succ, List.set_cons_zero, List.set_cons_succ, List.cons_append, List.nil_append, List.replicate_succ, List.replicate_zero, if_true, if_false, reduceIte, Nat.reduceAdd, Nat.reduceSub, Nat.reduceLeDiff, Bool.true_and, Bool.and_true, Bool.false_and, Bool.and_false, reduceCtorEq, fd4, modOk (j := 8) (by decide), hm, divOk (j := 8) (by decide) (by decide), modOk (j := 4) (by decide), hh, hrg, f1]
    simp only [hmain, evF, start0, evS, evE, evA, evI, evO, evC, evR, getB, getV, evBi, biLen, biMin, biMax, biSum, biAll, biAny, biAbs, biInt, biStr, biTuple, biList, biSorted, opB, opAdd, opSub, opAnd, opPow, opC, opI, opIs, isNoneD, testD, bindT, bindEach, wipeE, opRg, evIsi, itemsD, seq2, opSl, opRev, Option.map_some, Option.map_none, List.length_cons, List.length_nil, List.getElem?_cons_zero, List.getElem?_cons_succ, List.set_cons_zero, List.set_cons_succ, List.cons_append, List.nil_append, List.replicate_succ, List.replicate_zero, if_true, if_false, reduceIte, Nat.reduceAdd, Nat.reduceSub, Nat.reduceLeDiff, Bool.true_and, Bool.and_true, Bool.false_and, Bool.and_false, reduceCtorEq, divOk (j := 1024) (by decide) (by decide), modOk (j := 5) (by decide), hby, cutD_from, cutD_to, hlen]
    simp only [encW, List.map_append, List.map_drop, List.map_take]
  · rw [List.length_append, List.length_drop, List.length_take]; show _ ≤ 10; omega
  · rcases List.mem_append.mp ht with ht | ht
    · exact hts t (List.mem_of_mem_drop ht)
    · exact hts t (List.mem_of_mem_take ht)
end J

namespace J
open PySem
/-! texts -/
def sN (n : Nat) : Str := Str.ofString (toString (n : Int))
theorem sN_len : ∀ n : Nat, n < 100 → (sN n).length ≤ 2 := by decide +kernel
theorem app_len (a b : Str) : (a ++ b).length = a.length + b.length := by
  show (a.cps ++ b.cps).size = _
  rw [Array.size_append]; rfl
theorem app_assoc (a b c : Str) : a ++ b ++ c = a ++ (b ++ c) := by
  show (⟨a.cps ++ b.cps ++ c.cps⟩ : Str) = ⟨a.cps ++ (b.cps ++ c.cps)⟩
  rw [Array.append_assoc]
theorem biStr_n (n : Nat) (h : n < 100) : biStr [.int n] = some (.str (sN n)) := by
  simp only [biStr]
  rw [if_pos (Nat.lt_of_lt_of_le (show (n : Int).natAbs < 2 ^ 7 by omega) (Nat.pow_le_pow_right (by decide) (by decide)))]
  rfl
theorem add_str {a b : Str} (h : a.length + b.length ≤ 100000) : opAdd (.str a) (.str b) = some (.str (a ++ b)) := by
  simp only [opAdd]
  rw [if_pos h]
def wordT (t : T3) : Str := sN t.1 ++ (Str.ofString "-") ++ sN t.2.1 ++ (Str.ofString "=") ++ sN t.2.2
def textW (w : Web) : Str := Str.join (Str.ofString " ") (sN w.many :: Str.ofString ":" :: w.ties.map wordT)
theorem l1 : (Str.ofString "-").length = 1 ∧ (Str.ofString "=").length = 1 ∧ (Str.ofString " ").length = 1 ∧ (Str.ofString ":").length = 1 ∧ (Str.ofString " :").length = 2 := by decide +kernel
theorem wordT_len {m : Nat} (hm : m ≤ 7) {t : T3} (h : Tok m t) : (wordT t).length ≤ 8 := by
  have h1 := sN_len t.1 (by have := h.1; have := h.2.1; omega)
  have h2 := sN_len t.2.1 (by have := h.2.1; omega)
  have h3 := sN_len t.2.2 (by have := h.2.2; omega)
  unfold wordT
  rw [app_len, app_len, app_len, app_len, l1.1, l1.2.1]
  omega
theorem compL_mapT {α : Type} {e : α → D} {f : D → Option (Option D)} {g : α → D} : ∀ (xs : List α), (∀ x ∈ xs, f (e x) = some (some (g x))) → compL f (xs.map e) = some (xs.map g)
  | [], _ => rfl
  | x :: r, h => by
    rw [List.map_cons]
    unfold compL
    rw [h x List.mem_cons_self, compL_mapT r fun y hy => h y (List.mem_cons_of_mem _ hy)]
    rfl
theorem ixW0 (w : Web) : opIx (encW w) (.int 0) = some (.int w.many) := rfl
theorem ixW1 (w : Web) : opIx (encW w) (.int 1) = some (.tuple (w.ties.map encT)) := rfl
theorem word_ev (Φ : Nat → List D → Option D) {m : Nat} (hm : m ≤ 7) {t : T3} (h : Tok m t) (s0 s1 : Sl) :
    turnC [2, 3, 4] [2, 3, 4] (evC Φ .nil) (evE Φ (.bin .Add (.bin .Add (.bin .Add (.bin .Add (.bi .str (.cons (.bv 2) .nil)) (.cs (Str.ofString "-"))) (.bi .str (.cons (.bv 3) .nil))) (.cs (Str.ofString "="))) (.bi .str (.cons (.bv 4) .nil)))) [s0, s1, .no, .no, .no] (encT t) = some (some (.str (wordT t))) := by
  have a1 : t.1 < 100 := by have := h.1; have := h.2.1; omega
  have a2 : t.2.1 < 100 := by have := h.2.1; omega
  have a3 : t.2.2 < 100 := by have := h.2.2; omega
  have h1 := sN_len _ a1
  have h2 := sN_len _ a2
  have h3 := sN_len _ a3
  have lq := l1
  have e1 := biStr_n _ a1
  have e2 := biStr_n _ a2
  have e3 := biStr_n _ a3
  have f1 : opAdd (.str (sN t.1)) (.str (Str.ofString "-")) = _ := add_str (by omega)
  have f2 : opAdd (.str (sN t.1 ++ Str.ofString "-")) (.str (sN t.2.1)) = _ := add_str (by rw [app_len]; omega)
  have f3 : opAdd (.str (sN t.1 ++ Str.ofString "-" ++ sN t.2.1)) (.str (Str.ofString "=")) = _ := add_str (by rw [app_len, app_len]; omega)
  have f4 : opAdd (.str (sN t.1 ++ Str.ofString "-" ++ sN t.2.1 ++ Str.ofString "=")) (.str (sN t.2.2)) = _ := add_str (by rw [app_len, app_len, app_len]; omega)
  simp only [turnC, encT, bindT, bindEach, wipeE, List.set_cons_zero, List.set_cons_succ, evC, evE, evA, getB, List.getElem?_cons_zero, List.getElem?_cons_succ, evBi, e1, e2, e3, opB, f1, f2, f3, f4]
  rfl
theorem join_ok {a : Str} {ys : List Str} (h : (ys.map (·.length)).sum + ys.length * a.length ≤ 100000) : opJoin (.str a) (.list (ys.map PyData.str)) = some (.str (Str.join a ys)) := by
  simp only [opJoin, strs_map, Option.bind_some]
  rw [if_pos h, TL.join_eq]
theorem sum_le_of {l : List Nat} {k : Nat} (h : ∀ x ∈ l, x ≤ k) : l.sum ≤ k * l.length := by
  induction l with
  | nil => simp
  | cons x r ih =>
    rw [List.sum_cons, List.length_cons, Nat.mul_succ]
    have := h x List.mem_cons_self
    have := ih fun y hy => h y (List.mem_cons_of_mem _ hy)
    omega
theorem written_ok (n : Nat) {w : Web} (hw : Wok w) : Ph (n + 1) 0 [encW w] = some (.str (textW w)) := by
  show evF (Ph n) fd0 [encW w] = _
  have hc : compL (turnC [2, 3, 4] [2, 3, 4] (evC (Ph n) .nil) (evE (Ph n) (.bin .Add (.bin .Add (.bin .Add (.bin .Add (.bi .str (.cons (.bv 2) .nil)) (.cs (Str.ofString "-"))) (.bi .str (.cons (.bv 3) .nil))) (.cs (Str.ofString "="))) (.bi .str (.cons (.bv 4) .nil)))) [.val (encW w), .no, .no, .no, .no]) (w.ties.map encT) = some ((w.ties.map wordT).map PyData.str) := by
    rw [List.map_map]
    exact compL_mapT _ fun t ht => word_ev _ hw.hi (hw.ok t ht) _ _
  have hl : (w.ties.map encT).length ≤ 40000 := by rw [List.length_map]; have := hw.len; omega
  have h0 := biStr_n w.many (by have := hw.hi; omega)
  have hl2 : [PyData.str (sN w.many), PyData.str (Str.ofString ":")].length + ((w.ties.map wordT).map PyData.str).length ≤ 1000000 := by
    rw [List.length_map, List.length_map]; have := hw.len; simp; omega
  have hj : opJoin (.str (Str.ofString " ")) (.list ([PyData.str (sN w.many), PyData.str (Str.ofString ":")] ++ (w.ties.map wordT).map PyData.str)) = some (.str (textW w)) := by
    refine join_ok (ys := sN w.many :: Str.ofString ":" :: w.ties.map wordT) ?_
    have a := sN_len w.many (by have := hw.hi; omega)
    have b : ((w.ties.map wordT).map (·.length)).sum ≤ 8 * 10 := by
      refine Nat.le_trans (sum_le_of (k := 8) fun x hx => ?_) ?_
      · rw [List.mem_map] at hx
        obtain ⟨y, hy, rfl⟩ := hx
        obtain ⟨t, ht, rfl⟩ := List.mem_map.mp hy
        exact wordT_len hw.hi (hw.ok t ht)
      · rw [List.length_map, List.length_map]
        exact Nat.mul_le_mul_left _ hw.len
    have lq := l1
    have c : (w.ties.map wordT).length ≤ 10 := by rw [List.length_map]; exact hw.len
    simp only [List.map_cons, List.sum_cons, List.length_cons]
    rw [lq.2.2.1, lq.2.2.2.1]
    omega
  simp only [evF, fd0, start0, List.length_cons, List.length_nil, List.replicate_succ, List.replicate_zero, List.cons_append, List.nil_append, if_true, evS, evE, evI, evA, getB, getV, List.getElem?_cons_zero, List.getElem?_cons_succ, ixW1, ixW0, itemsD, hl, hc, Option.map_some, List.set_cons_succ, List.set_cons_zero, evR, evBi, h0, opB, reduceIte, Nat.reduceAdd, Nat.reduceSub, Bool.false_eq_true]
  simp only [opAdd, Nat.reduceLeDiff, if_true]
  rw [if_pos hl2]
  simp only [hj, Option.map_some]
def addW (due : Str) (t : T3) : Str := due ++ Str.ofString " " ++ sN t.1 ++ Str.ofString "-" ++ sN t.2.1 ++ Str.ofString "=" ++ sN t.2.2
theorem due_eq (x : Str) : ∀ ts : List T3, ts.foldl addW x = (match ts with
    | [] => x
    | _ => x ++ Str.ofString " " ++ Str.join (Str.ofString " ") (ts.map wordT)) := by
  intro ts
  induction ts generalizing x with
  | nil => rfl
  | cons t r ih =>
    show r.foldl addW (addW x t) = x ++ Str.ofString " " ++ Str.join (Str.ofString " ") (wordT t :: r.map wordT)
    have e : addW x t = x ++ Str.ofString " " ++ wordT t := by
      unfold addW wordT
      simp only [app_assoc]
    rw [ih, e]
    cases r with
    | nil => rfl
    | cons u r' =>
      show x ++ Str.ofString " " ++ wordT t ++ Str.ofString " " ++ Str.join (Str.ofString " ") ((u :: r').map wordT) = x ++ Str.ofString " " ++ (wordT t ++ Str.ofString " " ++ Str.join (Str.ofString " ") ((u :: r').map wordT))
      simp only [app_assoc]
theorem sp_colon : Str.ofString " :" = Str.ofString " " ++ Str.ofString ":" := by decide +kernel
theorem text_eq (w : Web) : w.ties.foldl addW (sN w.many ++ Str.ofString " :") = textW w := by
  rw [due_eq, sp_colon]
  unfold textW
  cases h : w.ties with
  | nil =>
    show sN w.many ++ (Str.ofString " " ++ Str.ofString ":") = sN w.many ++ Str.ofString " " ++ Str.ofString ":"
    rw [app_assoc]
  | cons t r =>
    show sN w.many ++ (Str.ofString " " ++ Str.ofString ":") ++ Str.ofString " " ++ Str.join (Str.ofString " ") ((t :: r).map wordT) = sN w.many ++ Str.ofString " " ++ (Str.ofString ":" ++ Str.ofString " " ++ Str.join (Str.ofString " ") ((t :: r).map wordT))
    simp only [app_assoc]
end J

/-! What a text comes to, told backwards. -/
namespace J
open PySem
def O1 {α : Type} (o : Option α) (Q : α → Prop) : Prop := ∃ d, o = some d ∧ Q d
section
variable {α β : Type} {Q : α → Prop}
theorem o1_some {a : α} : O1 (some a) Q ↔ Q a := ⟨fun ⟨_, e, h⟩ => by cases e; exact h, fun h => ⟨a, rfl, h⟩⟩
theorem o1_none : O1 (none : Option α) Q ↔ False := ⟨fun ⟨_, e, _⟩ => (by cases e), False.elim⟩
theorem o1_map {o : Option β} {f : β → α} : O1 (o.map f) Q ↔ O1 o fun x => Q (f x) := by
  cases o with
  | none => rw [Option.map_none, o1_none, o1_none]
  | some x => rw [Option.map_some, o1_some, o1_some]
theorem o1_if {p : Prop} [Decidable p] {o : Option α} : O1 (if p then o else none) Q ↔ p ∧ O1 o Q := by
  by_cases h : p
  · rw [if_pos h]; exact ⟨fun z => ⟨h, z⟩, fun z => z.2⟩
  · rw [if_neg h, o1_none]; exact ⟨False.elim, fun z => h z.1⟩
theorem O1.mp {o : Option α} {R : α → Prop} (h : O1 o R) (q : ∀ a, R a → Q a) : O1 o Q := let ⟨a, e, r⟩ := h; ⟨a, e, q a r⟩
theorem o1_eq {o : Option α} {a : α} : O1 o (· = a) ↔ o = some a := ⟨fun ⟨_, e, h⟩ => by rw [e, h], fun h => ⟨a, h, rfl⟩⟩
theorem o1_of {o : Option α} {a : α} (h : o = some a) : O1 o Q ↔ Q a := by rw [h, o1_some]
end
section
variable {Φ : Nat → List D → Option D} {env : En} {a b c lo hi src cond elt : IE} {as : IE} {Q : D → Prop}
def boolD : D → Option Bool
  | .bool b => some b
  | _ => none
def intD : D → Option Int
  | .int b => some b
  | _ => none
theorem ev_var {i : Nat} : evE Φ (.var i) env = getV env i := by simp only [evE]
theorem ev_bv {i : Nat} : evE Φ (.bv i) env = getB env i := by simp only [evE]
theorem ev_cn : evE Φ .cn env = some .none := by simp only [evE]
theorem ev_cb {x : Bool} : evE Φ (.cb x) env = some (.bool x) := by simp only [evE]
theorem ev_ci {x : Int} : evE Φ (.ci x) env = some (.int x) := by simp only [evE]
theorem ev_cs {x : Str} : evE Φ (.cs x) env = some (.str x) := by simp only [evE]
theorem ev_bin {op : Operator} : O1 (evE Φ (.bin op a b) env) Q ↔ O1 (evE Φ a env) fun x => O1 (evE Φ b env) fun y => O1 (opB op x y) Q := by
  simp only [evE]
  cases evE Φ a env with
  | none => simp only [o1_none]
  | some x =>
    rw [o1_some]
    cases evE Φ b env with
    | none => simp only [o1_none]
    | some y => rw [o1_some]
theorem ev_neg : O1 (evE Φ (.neg a) env) Q ↔ O1 (evE Φ a env) fun x => O1 (intD x) fun i => Q (.int (-i)) := by
  simp only [evE]
  cases evE Φ a env with
  | none => simp only [o1_none]
  | some x => cases x <;> simp only [intD, o1_some, o1_none]
theorem ev_nt : O1 (evE Φ (.nt a) env) Q ↔ O1 (evE Φ a env) fun x => O1 (boolD x) fun i => Q (.bool (!i)) := by
  simp only [evE]
  cases evE Φ a env with
  | none => simp only [o1_none]
  | some x => cases x <;> simp only [boolD, o1_some, o1_none]
theorem ev_cmp {op : CmpOp} : O1 (evE Φ (.cmp op a b) env) Q ↔ O1 (evE Φ a env) fun x => O1 (evE Φ b env) fun y => O1 (opC op x y) fun r => Q (.bool r) := by
  simp only [evE]
  cases evE Φ a env with
  | none => simp only [o1_none]
  | some x =>
    rw [o1_some]
    cases evE Φ b env with
    | none => simp only [o1_none]
    | some y => rw [o1_some, o1_map]
theorem ev_cmp2 {op op' : CmpOp} : O1 (evE Φ (.cmp2 op op' a b c) env) Q ↔ O1 (evE Φ a env) fun x => O1 (evE Φ b env) fun y => O1 (opC op x y) fun r => if r = true then O1 (evE Φ c env) fun z => O1 (opC op' y z) fun r => Q (.bool r) else Q (.bool false) := by
  simp only [evE]
  cases evE Φ a env with
  | none => simp only [o1_none]
  | some x =>
    rw [o1_some]
    cases evE Φ b env with
    | none => simp only [o1_none]
    | some y =>
      rw [o1_some]
      dsimp only
      cases opC op x y with
      | none => simp only [o1_none]
      | some r =>
        cases r with
        | false => simp only [o1_some, if_false, Bool.false_eq_true]
        | true =>
          rw [o1_some, if_pos rfl]
          cases evE Φ c env with
          | none => simp only [o1_none]
          | some z => rw [o1_some, o1_map]
theorem ev_an : O1 (evE Φ (.an a b) env) Q ↔ O1 (evE Φ a env) fun x => O1 (boolD x) fun i => if i = true then O1 (evE Φ b env) Q else Q (.bool false) := by
  simp only [evE]
  cases evE Φ a env with
  | none => simp only [o1_none]
  | some x => cases x <;> simp only [boolD, o1_some, o1_none] <;> (rename_i z; cases z <;> simp only [o1_some, if_true, if_false, Bool.false_eq_true])
theorem ev_or : O1 (evE Φ (.or a b) env) Q ↔ O1 (evE Φ a env) fun x => O1 (boolD x) fun i => if i = true then Q (.bool true) else O1 (evE Φ b env) Q := by
  simp only [evE]
  cases evE Φ a env with
  | none => simp only [o1_none]
  | some x => cases x <;> simp only [boolD, o1_some, o1_none] <;> (rename_i z; cases z <;> simp only [o1_some, if_true, if_false, Bool.false_eq_true])
theorem ev_tup : O1 (evE Φ (.tup as) env) Q ↔ O1 (evA Φ as env) fun ds => ds.length ≤ 1000 ∧ Q (.tuple ds) := by
  simp only [evE]
  cases evA Φ as env with
  | none => simp only [o1_none]
  | some x => rw [o1_some, o1_if, o1_some]
theorem ev_lst : O1 (evE Φ (.lst as) env) Q ↔ O1 (evA Φ as env) fun ds => ds.length ≤ 1000 ∧ Q (.list ds) := by
  simp only [evE]
  cases evA Φ as env with
  | none => simp only [o1_none]
  | some x => rw [o1_some, o1_if, o1_some]
theorem ev_call {k : Nat} : O1 (evE Φ (.call k as) env) Q ↔ O1 (evA Φ as env) fun ds => O1 (Φ k ds) Q := by
  simp only [evE]
  cases evA Φ as env with
  | none => simp only [o1_none]
  | some x => rw [o1_some]
theorem ev_bi {k : Bi} : O1 (evE Φ (.bi k as) env) Q ↔ O1 (evA Φ as env) fun ds => O1 (evBi k ds) Q := by
  simp only [evE]
  cases evA Φ as env with
  | none => simp only [o1_none]
  | some x => rw [o1_some]
theorem ev_isi {t : Ty} : O1 (evE Φ (.isi t a) env) Q ↔ O1 (evE Φ a env) fun d => O1 (evIsi t d) fun r => Q (.bool r) := by
  simp only [evE]
  cases evE Φ a env with
  | none => simp only [o1_none]
  | some x => rw [o1_some, o1_map]
theorem ev_ix : O1 (evE Φ (.ix a b) env) Q ↔ O1 (evE Φ a env) fun x => O1 (evE Φ b env) fun y => O1 (opIx x y) Q := by
  simp only [evE]
  cases evE Φ a env with
  | none => simp only [o1_none]
  | some x =>
    rw [o1_some]
    cases evE Φ b env with
    | none => simp only [o1_none]
    | some y => rw [o1_some]
theorem ev_sl : O1 (evE Φ (.sl a lo hi) env) Q ↔ O1 (evE Φ a env) fun x => O1 (evO Φ lo env) fun l => O1 (evO Φ hi env) fun h => O1 (opSl x l h) Q := by
  simp only [evE]
  cases evE Φ a env with
  | none => simp only [o1_none]
  | some x =>
    rw [o1_some]
    cases evO Φ lo env with
    | none => simp only [o1_none]
    | some l =>
      rw [o1_some]
      cases evO Φ hi env with
      | none => simp only [o1_none]
      | some y => rw [o1_some]
theorem ev_rev : O1 (evE Φ (.rev a) env) Q ↔ O1 (evE Φ a env) fun x => O1 (opRev x) Q := by
  simp only [evE]
  cases evE Φ a env with
  | none => simp only [o1_none]
  | some x => rw [o1_some]
theorem ev_rgL : O1 (evE Φ (.rgL a b) env) Q ↔ O1 (evE Φ a env) fun x => O1 (evE Φ b env) fun y => O1 (opRg x y) fun ds => Q (.list ds) := by
  simp only [evE]
  cases evE Φ a env with
  | none => simp only [o1_none]
  | some x =>
    rw [o1_some]
    cases evE Φ b env with
    | none => simp only [o1_none]
    | some y => rw [o1_some, o1_map]
theorem ev_rgT : O1 (evE Φ (.rgT a b) env) Q ↔ O1 (evE Φ a env) fun x => O1 (evE Φ b env) fun y => O1 (opRg x y) fun ds => Q (.tuple ds) := by
  simp only [evE]
  cases evE Φ a env with
  | none => simp only [o1_none]
  | some x =>
    rw [o1_some]
    cases evE Φ b env with
    | none => simp only [o1_none]
    | some y => rw [o1_some, o1_map]
def listD : D → Option (List D)
  | .list b => some b
  | _ => none
def tupD : D → Option (List D)
  | .tuple b => some b
  | _ => none
theorem ev_lset : O1 (evE Φ (.lset a) env) Q ↔ O1 (evE Φ a env) fun x => O1 (listD x) fun ds => O1 (ints? ds) fun ns => ns.length ≤ 50 ∧ Q (.int (undupI ns).length) := by
  simp only [evE]
  cases evE Φ a env with
  | none => simp only [o1_none]
  | some x =>
    cases x <;> simp only [listD, o1_some, o1_none]
    rename_i ds
    cases ints? ds with
    | none => simp only [o1_none]
    | some ns => simp only [o1_some, o1_if]
theorem ev_sset : O1 (evE Φ (.sset a) env) Q ↔ O1 (evE Φ a env) fun x => O1 (seq2 x) fun ds => O1 (ints? ds) fun ns => ns.length ≤ 50 ∧ Q (.list ((sortI (undupI ns)).map .int)) := by
  simp only [evE]
  cases evE Φ a env with
  | none => simp only [o1_none]
  | some x =>
    rw [o1_some]
    dsimp only
    cases seq2 x with
    | none => simp only [o1_none]
    | some ds =>
      rw [o1_some]
      dsimp only
      cases ints? ds with
      | none => simp only [o1_none]
      | some ns => simp only [o1_some, o1_if]
theorem ev_comp {tg vs : List Nat} : O1 (evE Φ (.comp elt tg src cond vs) env) Q ↔ O1 (evI Φ src env) fun ds => ds.length ≤ 40000 ∧ O1 (compL (turnC tg vs (evC Φ cond) (evE Φ elt) env) ds) fun ys => Q (.list ys) := by
  simp only [evE]
  cases evI Φ src env with
  | none => simp only [o1_none]
  | some x => rw [o1_some, o1_if, o1_map]
theorem ev_join : O1 (evE Φ (.join a b) env) Q ↔ O1 (evE Φ a env) fun x => O1 (evE Φ b env) fun y => O1 (opJoin x y) Q := by
  simp only [evE]
  cases evE Φ a env with
  | none => simp only [o1_none]
  | some x =>
    rw [o1_some]
    cases evE Φ b env with
    | none => simp only [o1_none]
    | some y => rw [o1_some]
theorem ev_split : O1 (evE Φ (.split a b) env) Q ↔ O1 (evE Φ a env) fun x => O1 (evE Φ b env) fun y => O1 (opSplit x y) Q := by
  simp only [evE]
  cases evE Φ a env with
  | none => simp only [o1_none]
  | some x =>
    rw [o1_some]
    cases evE Φ b env with
    | none => simp only [o1_none]
    | some y => rw [o1_some]
theorem ea_nil : evA Φ .nil env = some [] := by simp only [evA]
theorem ea_cons {Q : List D → Prop} : O1 (evA Φ (.cons a as) env) Q ↔ O1 (evE Φ a env) fun x => O1 (evA Φ as env) fun xs => Q (x :: xs) := by
  simp only [evA]
  cases evE Φ a env with
  | none => simp only [o1_none]
  | some x =>
    rw [o1_some]
    cases evA Φ as env with
    | none => simp only [o1_none]
    | some y => simp only [o1_some]
def isNil : IE → Bool
  | .nil => true
  | _ => false
theorem eo_nil : evO Φ .nil env = some none := by simp only [evO]
theorem eo_e {Q : Option Int → Prop} (h : isNil a = false) : O1 (evO Φ a env) Q ↔ O1 (evE Φ a env) fun x => O1 (intD x) fun i => Q (some i) := by
  cases a <;> simp only [isNil, reduceCtorEq] at h
  all_goals
    simp only [evO]
    generalize evE Φ _ env = z
    cases z with
    | none => simp only [o1_none]
    | some x => cases x <;> simp only [intD, o1_some, o1_none]
theorem ec_nil : evC Φ .nil env = some true := by simp only [evC]
theorem o1_test {o : Option D} {Q : Bool → Prop} : O1 (testD o) Q ↔ O1 o fun x => O1 (boolD x) Q := by
  cases o with
  | none => simp only [testD, o1_none]
  | some x => cases x <;> simp only [testD, boolD, o1_some, o1_none]
theorem ec_e {Q : Bool → Prop} (h : isNil a = false) : O1 (evC Φ a env) Q ↔ O1 (evE Φ a env) fun x => O1 (boolD x) Q := by
  cases a <;> simp only [isNil, reduceCtorEq] at h
  all_goals (simp only [evC, o1_test])
def plainI : IE → Bool
  | .rg _ _ | .enum _ | .zip _ _ => false
  | _ => true
theorem ei_rg {Q : List D → Prop} : O1 (evI Φ (.rg a b) env) Q ↔ O1 (evE Φ a env) fun x => O1 (evE Φ b env) fun y => O1 (opRg x y) Q := by
  simp only [evI]
  cases evE Φ a env with
  | none => simp only [o1_none]
  | some x =>
    rw [o1_some]
    cases evE Φ b env with
    | none => simp only [o1_none]
    | some y => rw [o1_some]
theorem ei_zip {Q : List D → Prop} : O1 (evI Φ (.zip a b) env) Q ↔ O1 (evE Φ a env) fun x => O1 (evE Φ b env) fun y => O1 (zip2 x y) Q := by
  simp only [evI]
  cases evE Φ a env with
  | none => simp only [o1_none]
  | some x =>
    rw [o1_some]
    cases evE Φ b env with
    | none => simp only [o1_none]
    | some y => rw [o1_some]
theorem ei_enum {Q : List D → Prop} : O1 (evI Φ (.enum a) env) Q ↔ O1 (evE Φ a env) fun x => O1 (seq2 x) fun ds => Q (enumD 0 ds) := by
  simp only [evI]
  cases evE Φ a env with
  | none => simp only [o1_none]
  | some x =>
    rw [o1_some]
    dsimp only
    cases seq2 x with
    | none => simp only [o1_none]
    | some y => simp only [o1_some]
theorem ei_e {Q : List D → Prop} (h : plainI a = true) : O1 (evI Φ a env) Q ↔ O1 (evE Φ a env) fun x => O1 (itemsD x) Q := by
  cases a <;> simp only [plainI, reduceCtorEq, Bool.false_eq_true] at h
  all_goals
    simp only [evI]
    generalize evE Φ _ env = z
    cases z with
    | none => simp only [o1_none]
    | some x => simp only [o1_some]
/-! statements -/
def nxt (fl : Fl) (f : En → Prop) (Q : Fl → Prop) : Prop := match fl with
  | .nx env => f env
  | .rt d => Q (.rt d)
theorem nxt_nx {env : En} {f : En → Prop} {Q : Fl → Prop} : nxt (.nx env) f Q ↔ f env := Iff.rfl
theorem nxt_rt {d : D} {f : En → Prop} {Q : Fl → Prop} : nxt (.rt d) f Q ↔ Q (.rt d) := Iff.rfl
variable {P : Fl → Prop} {s t : IS}
theorem es_set {i : Nat} : O1 (evS Φ (.set i a) env) P ↔ O1 (evE Φ a env) fun d => P (.nx (env.set i (.val d))) := by
  simp only [evS]
  cases evE Φ a env with
  | none => simp only [o1_none]
  | some x => simp only [o1_some]
theorem es_setO {i : Nat} : O1 (evS Φ (.setO i a) env) P ↔ O1 (evE Φ a env) fun d => O1 (listD d) fun ds => P (.nx (env.set i (.own ds))) := by
  simp only [evS]
  cases evE Φ a env with
  | none => simp only [o1_none]
  | some x => cases x <;> simp only [listD, o1_some, o1_none]
theorem es_unp {tg : List Nat} : O1 (evS Φ (.unp tg a) env) P ↔ O1 (evE Φ a env) fun d => O1 (tupD d) fun ds => O1 (bindEach tg ds env) fun env' => P (.nx env') := by
  simp only [evS]
  cases evE Φ a env with
  | none => simp only [o1_none]
  | some x => cases x <;> simp only [tupD, o1_some, o1_none, o1_map]
theorem es_par {i j : Nat} : O1 (evS Φ (.par i j a b) env) P ↔ O1 (evE Φ a env) fun x => O1 (evE Φ b env) fun y => P (.nx ((env.set i (.val x)).set j (.val y))) := by
  simp only [evS]
  cases evE Φ a env with
  | none => simp only [o1_none]
  | some x =>
    rw [o1_some]
    cases evE Φ b env with
    | none => simp only [o1_none]
    | some y => simp only [o1_some]
def ownS : Option Sl → Option (List D)
  | some (.own ds) => some ds
  | _ => none
theorem es_app {i : Nat} : O1 (evS Φ (.app i a) env) P ↔ O1 (ownS env[i]?) fun ds => O1 (evE Φ a env) fun d => ds.length < 100000 ∧ P (.nx (env.set i (.own (ds ++ [d])))) := by
  simp only [evS]
  cases env[i]? with
  | none => simp only [ownS, o1_none]
  | some sl =>
    cases sl <;> simp only [ownS, o1_none, o1_some]
    cases evE Φ a env with
    | none => simp only [o1_none]
    | some x => simp only [o1_some, o1_if]
theorem es_sti {i : Nat} : O1 (evS Φ (.sti i b a) env) P ↔ O1 (ownS env[i]?) fun ds => O1 (evE Φ a env) fun d => O1 (evE Φ b env) fun x => O1 (intD x) fun k => O1 (L2.ixN ds.length k) fun j => P (.nx (env.set i (.own (ds.set j d)))) := by
  simp only [evS]
  cases env[i]? with
  | none => simp only [ownS, o1_none]
  | some sl =>
    cases sl <;> simp only [ownS, o1_none, o1_some]
    cases evE Φ a env with
    | none => simp only [o1_none]
    | some x =>
      simp only [o1_some]
      cases evE Φ b env with
      | none => simp only [o1_none]
      | some y =>
        cases y <;> simp only [intD, o1_some, o1_none]
        generalize L2.ixN _ _ = z
        cases z <;> simp only [o1_some, o1_none]
theorem es_ifs : O1 (evS Φ (.ifs c s t) env) P ↔ O1 (evE Φ c env) fun x => O1 (boolD x) fun r => if r = true then O1 (evS Φ s env) P else O1 (evS Φ t env) P := by
  simp only [evS]
  rw [← o1_test]
  cases testD (evE Φ c env) with
  | none => simp only [o1_none]
  | some r => cases r <;> simp only [o1_some, if_true, if_false, Bool.false_eq_true]
theorem es_for {tg : List Nat} : O1 (evS Φ (.for_ tg src s) env) P ↔ O1 (evI Φ src env) fun ds => O1 (forL (forB tg (evS Φ s)) ds env) P := by
  simp only [evS]
  cases evI Φ src env with
  | none => simp only [o1_none]
  | some x => simp only [o1_some]
theorem es_skip : evS Φ .skip env = some (.nx env) := by simp only [evS]
theorem es_seq : O1 (evS Φ (.seq s t) env) P ↔ O1 (evS Φ s env) fun fl => nxt fl (fun env' => O1 (evS Φ t env') P) P := by
  simp only [evS]
  cases evS Φ s env with
  | none => simp only [o1_none]
  | some fl => cases fl <;> simp only [o1_some, nxt]
def valS : Option Sl → Option D
  | some (.val d) => some d
  | some (.own ds) => some (.list ds)
  | _ => none
def isVar : IE → Bool
  | .var _ => true
  | _ => false
theorem es_retv {i : Nat} : O1 (evS Φ (.ret (.var i)) env) P ↔ O1 (valS env[i]?) fun d => P (.rt d) := by
  simp only [evS, evR]
  cases env[i]? with
  | none => simp only [valS, Option.map_none, o1_none]
  | some sl => cases sl <;> simp only [valS, Option.map_none, Option.map_some, o1_none, o1_some]
theorem es_ret (h : isVar a = false) : O1 (evS Φ (.ret a) env) P ↔ O1 (evE Φ a env) fun d => P (.rt d) := by
  cases a <;> simp only [isVar, reduceCtorEq, Bool.true_eq_false] at h
  all_goals (simp only [evS, evR, o1_map])
theorem es_shr {i : Nat} {ds : List D} (h : env[i]? = some (.own ds)) : evS Φ (.shr i) env = some (.nx (env.set i (.val (.list ds)))) := by
  simp only [evS, h]
def retD : Fl → D
  | .rt d => d
  | .nx _ => .none
theorem ef_of {F : Fd} {ds : List D} (hl : ds.length = F.bs.length) : O1 (evF Φ F ds) Q ↔ O1 (evS Φ F.body (start0 F.bs ds ++ List.replicate (F.slots - ds.length) .no)) fun fl => Q (retD fl) := by
  unfold evF
  rw [if_pos hl]
  cases evS Φ F.body (start0 F.bs ds ++ List.replicate (F.slots - ds.length) .no) with
  | none => simp only [o1_none]
  | some fl => cases fl <;> simp only [o1_some, retD]
theorem turn_of {tg vs : List Nat} {cd : En → Option Bool} {el : En → Option D} {x : D} {R : Option D → Prop} : O1 (turnC tg vs cd el env x) R ↔ O1 (bindT tg x (wipeE env vs)) fun env' => O1 (cd env') fun r => if r = true then O1 (el env') fun y => R (some y) else R none := by
  unfold turnC
  cases bindT tg x (wipeE env vs) with
  | none => simp only [o1_none]
  | some env' =>
    simp only [o1_some]
    cases cd env' with
    | none => simp only [o1_none]
    | some r =>
      cases r with
      | false => simp only [o1_some, if_false, Bool.false_eq_true]
      | true =>
        simp only [o1_some, if_true]
        cases el env' <;> simp only [o1_some, o1_none]
theorem forB_of {tg : List Nat} {g : En → Option Fl} {x : D} : O1 (forB tg g x env) P ↔ O1 (bindT tg x env) fun env' => O1 (g env') P := by
  unfold forB
  cases bindT tg x env <;> simp only [o1_some, o1_none]
theorem bindT1 {i : Nat} {d : D} : bindT [i] d env = some (env.set i (.val d)) := by simp only [bindT]
theorem bindT2 {i j : Nat} {is : List Nat} {ds : List D} : bindT (i :: j :: is) (.tuple ds) env = bindEach (i :: j :: is) ds env := by simp only [bindT]
theorem ei_var {x1 : Nat} {Q : List D → Prop} : O1 (evI Φ (.var x1) env) Q ↔ O1 (evE Φ (.var x1) env) fun x => O1 (itemsD x) Q := ei_e rfl
theorem ei_bv {x1 : Nat} {Q : List D → Prop} : O1 (evI Φ (.bv x1) env) Q ↔ O1 (evE Φ (.bv x1) env) fun x => O1 (itemsD x) Q := ei_e rfl
theorem ei_ix {x1 : IE} {x2 : IE} {Q : List D → Prop} : O1 (evI Φ (.ix x1 x2) env) Q ↔ O1 (evE Φ (.ix x1 x2) env) fun x => O1 (itemsD x) Q := ei_e rfl
theorem ei_call {x1 : Nat} {x2 : IE} {Q : List D → Prop} : O1 (evI Φ (.call x1 x2) env) Q ↔ O1 (evE Φ (.call x1 x2) env) fun x => O1 (itemsD x) Q := ei_e rfl
theorem ei_bi {x1 : Bi} {x2 : IE} {Q : List D → Prop} : O1 (evI Φ (.bi x1 x2) env) Q ↔ O1 (evE Φ (.bi x1 x2) env) fun x => O1 (itemsD x) Q := ei_e rfl
theorem ei_tup {x1 : IE} {Q : List D → Prop} : O1 (evI Φ (.tup x1) env) Q ↔ O1 (evE Φ (.tup x1) env) fun x => O1 (itemsD x) Q := ei_e rfl
theorem ei_lst {x1 : IE} {Q : List D → Prop} : O1 (evI Φ (.lst x1) env) Q ↔ O1 (evE Φ (.lst x1) env) fun x => O1 (itemsD x) Q := ei_e rfl
theorem ei_comp {x1 : IE} {x2 : List Nat} {x3 : IE} {x4 : IE} {x5 : List Nat} {Q : List D → Prop} : O1 (evI Φ (.comp x1 x2 x3 x4 x5) env) Q ↔ O1 (evE Φ (.comp x1 x2 x3 x4 x5) env) fun x => O1 (itemsD x) Q := ei_e rfl
theorem ei_rev {x1 : IE} {Q : List D → Prop} : O1 (evI Φ (.rev x1) env) Q ↔ O1 (evE Φ (.rev x1) env) fun x => O1 (itemsD x) Q := ei_e rfl
theorem ei_bin {x1 : Operator} {x2 : IE} {x3 : IE} {Q : List D → Prop} : O1 (evI Φ (.bin x1 x2 x3) env) Q ↔ O1 (evE Φ (.bin x1 x2 x3) env) fun x => O1 (itemsD x) Q := ei_e rfl
theorem ei_rgL {x1 : IE} {x2 : IE} {Q : List D → Prop} : O1 (evI Φ (.rgL x1 x2) env) Q ↔ O1 (evE Φ (.rgL x1 x2) env) fun x => O1 (itemsD x) Q := ei_e rfl
theorem ei_rgT {x1 : IE} {x2 : IE} {Q : List D → Prop} : O1 (evI Φ (.rgT x1 x2) env) Q ↔ O1 (evE Φ (.rgT x1 x2) env) fun x => O1 (itemsD x) Q := ei_e rfl
theorem ei_sset {x1 : IE} {Q : List D → Prop} : O1 (evI Φ (.sset x1) env) Q ↔ O1 (evE Φ (.sset x1) env) fun x => O1 (itemsD x) Q := ei_e rfl
theorem ei_sl {x1 : IE} {x2 : IE} {x3 : IE} {Q : List D → Prop} : O1 (evI Φ (.sl x1 x2 x3) env) Q ↔ O1 (evE Φ (.sl x1 x2 x3) env) fun x => O1 (itemsD x) Q := ei_e rfl
theorem ei_split {x1 : IE} {x2 : IE} {Q : List D → Prop} : O1 (evI Φ (.split x1 x2) env) Q ↔ O1 (evE Φ (.split x1 x2) env) fun x => O1 (itemsD x) Q := ei_e rfl
theorem ec_cmp {x1 : CmpOp} {x2 : IE} {x3 : IE} {Q : Bool → Prop} : O1 (evC Φ (.cmp x1 x2 x3) env) Q ↔ O1 (evE Φ (.cmp x1 x2 x3) env) fun x => O1 (boolD x) Q := ec_e rfl
theorem ec_cmp2 {x1 : CmpOp} {x2 : CmpOp} {x3 : IE} {x4 : IE} {x5 : IE} {Q : Bool → Prop} : O1 (evC Φ (.cmp2 x1 x2 x3 x4 x5) env) Q ↔ O1 (evE Φ (.cmp2 x1 x2 x3 x4 x5) env) fun x => O1 (boolD x) Q := ec_e rfl
theorem ec_an {x1 : IE} {x2 : IE} {Q : Bool → Prop} : O1 (evC Φ (.an x1 x2) env) Q ↔ O1 (evE Φ (.an x1 x2) env) fun x => O1 (boolD x) Q := ec_e rfl
theorem ec_or {x1 : IE} {x2 : IE} {Q : Bool → Prop} : O1 (evC Φ (.or x1 x2) env) Q ↔ O1 (evE Φ (.or x1 x2) env) fun x => O1 (boolD x) Q := ec_e rfl
theorem ec_nt {x1 : IE} {Q : Bool → Prop} : O1 (evC Φ (.nt x1) env) Q ↔ O1 (evE Φ (.nt x1) env) fun x => O1 (boolD x) Q := ec_e rfl
theorem ec_call {x1 : Nat} {x2 : IE} {Q : Bool → Prop} : O1 (evC Φ (.call x1 x2) env) Q ↔ O1 (evE Φ (.call x1 x2) env) fun x => O1 (boolD x) Q := ec_e rfl
theorem ec_isi {x1 : Ty} {x2 : IE} {Q : Bool → Prop} : O1 (evC Φ (.isi x1 x2) env) Q ↔ O1 (evE Φ (.isi x1 x2) env) fun x => O1 (boolD x) Q := ec_e rfl
theorem ec_bv {x1 : Nat} {Q : Bool → Prop} : O1 (evC Φ (.bv x1) env) Q ↔ O1 (evE Φ (.bv x1) env) fun x => O1 (boolD x) Q := ec_e rfl
theorem ec_var {x1 : Nat} {Q : Bool → Prop} : O1 (evC Φ (.var x1) env) Q ↔ O1 (evE Φ (.var x1) env) fun x => O1 (boolD x) Q := ec_e rfl
theorem ec_bi {x1 : Bi} {x2 : IE} {Q : Bool → Prop} : O1 (evC Φ (.bi x1 x2) env) Q ↔ O1 (evE Φ (.bi x1 x2) env) fun x => O1 (boolD x) Q := ec_e rfl
theorem ec_cb {x1 : Bool} {Q : Bool → Prop} : O1 (evC Φ (.cb x1) env) Q ↔ O1 (evE Φ (.cb x1) env) fun x => O1 (boolD x) Q := ec_e rfl
theorem eo_ci {x1 : Int} {Q : Option Int → Prop} : O1 (evO Φ (.ci x1) env) Q ↔ O1 (evE Φ (.ci x1) env) fun x => O1 (intD x) fun i => Q (some i) := eo_e rfl
theorem eo_bv {x1 : Nat} {Q : Option Int → Prop} : O1 (evO Φ (.bv x1) env) Q ↔ O1 (evE Φ (.bv x1) env) fun x => O1 (intD x) fun i => Q (some i) := eo_e rfl
theorem eo_var {x1 : Nat} {Q : Option Int → Prop} : O1 (evO Φ (.var x1) env) Q ↔ O1 (evE Φ (.var x1) env) fun x => O1 (intD x) fun i => Q (some i) := eo_e rfl
theorem eo_neg {x1 : IE} {Q : Option Int → Prop} : O1 (evO Φ (.neg x1) env) Q ↔ O1 (evE Φ (.neg x1) env) fun x => O1 (intD x) fun i => Q (some i) := eo_e rfl
theorem eo_bin {x1 : Operator} {x2 : IE} {x3 : IE} {Q : Option Int → Prop} : O1 (evO Φ (.bin x1 x2 x3) env) Q ↔ O1 (evE Φ (.bin x1 x2 x3) env) fun x => O1 (intD x) fun i => Q (some i) := eo_e rfl
theorem eo_bi {x1 : Bi} {x2 : IE} {Q : Option Int → Prop} : O1 (evO Φ (.bi x1 x2) env) Q ↔ O1 (evE Φ (.bi x1 x2) env) fun x => O1 (intD x) fun i => Q (some i) := eo_e rfl
theorem eo_ix {x1 : IE} {x2 : IE} {Q : Option Int → Prop} : O1 (evO Φ (.ix x1 x2) env) Q ↔ O1 (evE Φ (.ix x1 x2) env) fun x => O1 (intD x) fun i => Q (some i) := eo_e rfl
theorem eo_call {x1 : Nat} {x2 : IE} {Q : Option Int → Prop} : O1 (evO Φ (.call x1 x2) env) Q ↔ O1 (evE Φ (.call x1 x2) env) fun x => O1 (intD x) fun i => Q (some i) := eo_e rfl
theorem er_bv {x1 : Nat} : O1 (evS Φ (.ret (.bv x1)) env) P ↔ O1 (evE Φ (.bv x1) env) fun d => P (.rt d) := es_ret rfl
theorem er_ix {x1 : IE} {x2 : IE} : O1 (evS Φ (.ret (.ix x1 x2)) env) P ↔ O1 (evE Φ (.ix x1 x2) env) fun d => P (.rt d) := es_ret rfl
theorem er_call {x1 : Nat} {x2 : IE} : O1 (evS Φ (.ret (.call x1 x2)) env) P ↔ O1 (evE Φ (.call x1 x2) env) fun d => P (.rt d) := es_ret rfl
theorem er_bi {x1 : Bi} {x2 : IE} : O1 (evS Φ (.ret (.bi x1 x2)) env) P ↔ O1 (evE Φ (.bi x1 x2) env) fun d => P (.rt d) := es_ret rfl
theorem er_tup {x1 : IE} : O1 (evS Φ (.ret (.tup x1)) env) P ↔ O1 (evE Φ (.tup x1) env) fun d => P (.rt d) := es_ret rfl
theorem er_lst {x1 : IE} : O1 (evS Φ (.ret (.lst x1)) env) P ↔ O1 (evE Φ (.lst x1) env) fun d => P (.rt d) := es_ret rfl
theorem er_comp {x1 : IE} {x2 : List Nat} {x3 : IE} {x4 : IE} {x5 : List Nat} : O1 (evS Φ (.ret (.comp x1 x2 x3 x4 x5)) env) P ↔ O1 (evE Φ (.comp x1 x2 x3 x4 x5) env) fun d => P (.rt d) := es_ret rfl
theorem er_rev {x1 : IE} : O1 (evS Φ (.ret (.rev x1)) env) P ↔ O1 (evE Φ (.rev x1) env) fun d => P (.rt d) := es_ret rfl
theorem er_bin {x1 : Operator} {x2 : IE} {x3 : IE} : O1 (evS Φ (.ret (.bin x1 x2 x3)) env) P ↔ O1 (evE Φ (.bin x1 x2 x3) env) fun d => P (.rt d) := es_ret rfl
theorem er_rgL {x1 : IE} {x2 : IE} : O1 (evS Φ (.ret (.rgL x1 x2)) env) P ↔ O1 (evE Φ (.rgL x1 x2) env) fun d => P (.rt d) := es_ret rfl
theorem er_rgT {x1 : IE} {x2 : IE} : O1 (evS Φ (.ret (.rgT x1 x2)) env) P ↔ O1 (evE Φ (.rgT x1 x2) env) fun d => P (.rt d) := es_ret rfl
theorem er_sset {x1 : IE} : O1 (evS Φ (.ret (.sset x1)) env) P ↔ O1 (evE Φ (.sset x1) env) fun d => P (.rt d) := es_ret rfl
theorem er_lset {x1 : IE} : O1 (evS Φ (.ret (.lset x1)) env) P ↔ O1 (evE Φ (.lset x1) env) fun d => P (.rt d) := es_ret rfl
theorem er_sl {x1 : IE} {x2 : IE} {x3 : IE} : O1 (evS Φ (.ret (.sl x1 x2 x3)) env) P ↔ O1 (evE Φ (.sl x1 x2 x3) env) fun d => P (.rt d) := es_ret rfl
theorem er_split {x1 : IE} {x2 : IE} : O1 (evS Φ (.ret (.split x1 x2)) env) P ↔ O1 (evE Φ (.split x1 x2) env) fun d => P (.rt d) := es_ret rfl
theorem er_join {x1 : IE} {x2 : IE} : O1 (evS Φ (.ret (.join x1 x2)) env) P ↔ O1 (evE Φ (.join x1 x2) env) fun d => P (.rt d) := es_ret rfl
theorem er_cmp {x1 : CmpOp} {x2 : IE} {x3 : IE} : O1 (evS Φ (.ret (.cmp x1 x2 x3)) env) P ↔ O1 (evE Φ (.cmp x1 x2 x3) env) fun d => P (.rt d) := es_ret rfl
theorem er_cmp2 {x1 : CmpOp} {x2 : CmpOp} {x3 : IE} {x4 : IE} {x5 : IE} : O1 (evS Φ (.ret (.cmp2 x1 x2 x3 x4 x5)) env) P ↔ O1 (evE Φ (.cmp2 x1 x2 x3 x4 x5) env) fun d => P (.rt d) := es_ret rfl
theorem er_an {x1 : IE} {x2 : IE} : O1 (evS Φ (.ret (.an x1 x2)) env) P ↔ O1 (evE Φ (.an x1 x2) env) fun d => P (.rt d) := es_ret rfl
theorem er_or {x1 : IE} {x2 : IE} : O1 (evS Φ (.ret (.or x1 x2)) env) P ↔ O1 (evE Φ (.or x1 x2) env) fun d => P (.rt d) := es_ret rfl
theorem er_nt {x1 : IE} : O1 (evS Φ (.ret (.nt x1)) env) P ↔ O1 (evE Φ (.nt x1) env) fun d => P (.rt d) := es_ret rfl
theorem er_isi {x1 : Ty} {x2 : IE} : O1 (evS Φ (.ret (.isi x1 x2)) env) P ↔ O1 (evE Φ (.isi x1 x2) env) fun d => P (.rt d) := es_ret rfl
theorem er_ci {x1 : Int} : O1 (evS Φ (.ret (.ci x1)) env) P ↔ O1 (evE Φ (.ci x1) env) fun d => P (.rt d) := es_ret rfl
theorem er_cb {x1 : Bool} : O1 (evS Φ (.ret (.cb x1)) env) P ↔ O1 (evE Φ (.cb x1) env) fun d => P (.rt d) := es_ret rfl
theorem er_cn  : O1 (evS Φ (.ret .cn) env) P ↔ O1 (evE Φ .cn env) fun d => P (.rt d) := es_ret rfl
theorem er_cs {x1 : Str} : O1 (evS Φ (.ret (.cs x1)) env) P ↔ O1 (evE Φ (.cs x1) env) fun d => P (.rt d) := es_ret rfl
theorem er_neg {x1 : IE} : O1 (evS Φ (.ret (.neg x1)) env) P ↔ O1 (evE Φ (.neg x1) env) fun d => P (.rt d) := es_ret rfl
theorem valS_val {d : D} : valS (some (.val d)) = some d := rfl
theorem valS_own {d : List D} : valS (some (.own d)) = some (.list d) := rfl
theorem retD_rt {d : D} : retD (.rt d) = d := rfl
theorem retD_nx : retD (.nx env) = .none := rfl
theorem boolD_b {x : Bool} : boolD (.bool x) = some x := rfl
theorem intD_i {x : Int} : intD (.int x) = some x := rfl
theorem listD_l {x : List D} : listD (.list x) = some x := rfl
theorem tupD_t {x : List D} : tupD (.tuple x) = some x := rfl
theorem ownS_o {x : List D} : ownS (some (.own x)) = some x := rfl
theorem items_l {x : List D} : itemsD (.list x) = some x := rfl
theorem items_t {x : List D} : itemsD (.tuple x) = some x := rfl
theorem isi_b {x : Bool} : evIsi .bool (.bool x) = some true := rfl
theorem isi_i {x : Int} : evIsi .bool (.int x) = some false := rfl
theorem isi_n : evIsi .bool .none = some false := rfl
theorem isi_ii {x : Int} : evIsi .int (.int x) = some true := rfl
theorem isi_tt {x : List D} : evIsi .tuple (.tuple x) = some true := rfl
theorem len_l {x : List D} : biLen [.list x] = some (.int x.length) := rfl
theorem len_t {x : List D} : biLen [.tuple x] = some (.int x.length) := rfl
theorem tu_l {x : List D} : biTuple [.list x] = some (.tuple x) := rfl
theorem tu_t {x : List D} : biTuple [.tuple x] = some (.tuple x) := rfl
theorem li_l {x : List D} : biList [.list x] = some (.list x) := rfl
theorem li_t {x : List D} : biList [.tuple x] = some (.list x) := rfl
theorem int_b {x : Bool} : biInt [.bool x] = some (.int (if x = true then 1 else 0)) := rfl
theorem add_i {x y : Int} : opAdd (.int x) (.int y) = some (.int (x + y)) := rfl
theorem add_l {x y : List D} : opAdd (.list x) (.list y) = if x.length + y.length ≤ 1000000 then some (.list (x ++ y)) else none := rfl
theorem add_t {x y : List D} : opAdd (.tuple x) (.tuple y) = if x.length + y.length ≤ 100000 then some (.tuple (x ++ y)) else none := rfl
theorem sub_i {x y : Int} : opSub (.int x) (.int y) = some (.int (x - y)) := rfl
theorem opI_i {f : Int → Int → Bool} {x y : Int} : opI f (.int x) (.int y) = some (f x y) := rfl
theorem rev_l {x : List D} : opRev (.list x) = some (.list x.reverse) := rfl
theorem rev_t {x : List D} : opRev (.tuple x) = some (.tuple x.reverse) := rfl
theorem sl_l {x : List D} {l h : Option Int} : opSl (.list x) l h = some (.list (cutD x l h)) := rfl
theorem sl_t {x : List D} {l h : Option Int} : opSl (.tuple x) l h = some (.tuple (cutD x l h)) := rfl
theorem zip_t {x y : List D} : zip2 (.tuple x) (.tuple y) = some (zipD x y) := rfl
theorem zip_tl {x y : List D} : zip2 (.tuple x) (.list y) = some (zipD x y) := rfl
theorem sq2_t {x : List D} : seq2 (.tuple x) = some x := rfl
theorem sq2_l {x : List D} : seq2 (.list x) = some x := rfl
theorem zip_l {x y : List D} : zip2 (.list x) (.list y) = some (zipD x y) := rfl
theorem bi_len {ds : List D} : evBi .len ds = biLen ds := rfl
theorem bi_min {ds : List D} : evBi .min ds = biMin ds := rfl
theorem bi_max {ds : List D} : evBi .max ds = biMax ds := rfl
theorem bi_sum {ds : List D} : evBi .sum ds = biSum ds := rfl
theorem bi_all {ds : List D} : evBi .all ds = biAll ds := rfl
theorem bi_any {ds : List D} : evBi .any ds = biAny ds := rfl
theorem bi_int {ds : List D} : evBi .int ds = biInt ds := rfl
theorem bi_str {ds : List D} : evBi .str ds = biStr ds := rfl
theorem bi_tuple {ds : List D} : evBi .tuple ds = biTuple ds := rfl
theorem bi_list {ds : List D} : evBi .list ds = biList ds := rfl
theorem bi_sorted {ds : List D} : evBi .sorted ds = biSorted ds := rfl
theorem opB_add {x y : D} : opB .Add x y = opAdd x y := rfl
theorem opB_sub {x y : D} : opB .Sub x y = opSub x y := rfl
theorem opB_mul {x y : D} : opB .Mult x y = opMul x y := rfl
theorem opB_div {x y : D} : opB .FloorDiv x y = opDiv x y := rfl
theorem opB_mod {x y : D} : opB .Mod x y = opMod x y := rfl
theorem opC_eq {x y : D} : opC .Eq x y = opEq x y := rfl
theorem opC_ne {x y : D} : opC .NotEq x y = (opEq x y).map (! ·) := rfl
theorem opC_lt {x y : D} : opC .Lt x y = opI (fun i j => decide (i < j)) x y := rfl
theorem opC_le {x y : D} : opC .LtE x y = opI (fun i j => decide (i ≤ j)) x y := rfl
theorem opC_gt {x y : D} : opC .Gt x y = opI (fun i j => decide (j < i)) x y := rfl
theorem opC_ge {x y : D} : opC .GtE x y = opI (fun i j => decide (j ≤ i)) x y := rfl
theorem opC_is {x : D} : opC .Is x .none = some (isNoneD x) := by cases x <;> rfl
theorem opC_isn {x : D} : opC .IsNot x .none = some (!isNoneD x) := by cases x <;> rfl
theorem opC_isb {x y : Bool} : opC .Is (.bool x) (.bool y) = some (decide (x = y)) := rfl
theorem opC_isnb {x y : Bool} : opC .IsNot (.bool x) (.bool y) = some (!decide (x = y)) := rfl
theorem opC_in {x y : D} : opC .In x y = opIn x y := rfl
theorem opC_nin {x y : D} : opC .NotIn x y = (opIn x y).map (! ·) := rfl
theorem isN_n : isNoneD .none = true := rfl
theorem isN_i {x : Int} : isNoneD (.int x) = false := rfl
/-! walks -/
theorem comp_fm {α β : Type} {e : α → D} {e' : β → D} (g : α → Option β) {f : D → Option (Option D)} {Q : List D → Prop} {xs : List α} (h : ∀ x ∈ xs, O1 (f (e x)) (· = (g x).map e')) (q : Q ((xs.filterMap g).map e')) : O1 (compL f (xs.map e)) Q := by
  have : compL f (xs.map e) = some ((xs.filterMap g).map e') := by
    clear q
    induction xs with
    | nil => rfl
    | cons x r ih =>
      rw [List.map_cons]
      unfold compL
      rw [o1_eq.mp (h x List.mem_cons_self), ih fun y hy => h y (List.mem_cons_of_mem _ hy), List.filterMap_cons]
      cases g x <;> rfl
  rw [o1_of this]
  exact q
theorem comp_map {α β : Type} {e : α → D} {e' : β → D} (g : α → β) {f : D → Option (Option D)} {Q : List D → Prop} {xs : List α} (h : ∀ x ∈ xs, O1 (f (e x)) (· = some (e' (g x)))) (q : Q ((xs.map g).map e')) : O1 (compL f (xs.map e)) Q := by
  refine comp_fm (e' := e') (fun x => some (g x)) h ?_
  rw [List.filterMap_eq_map']
  exact q
/-- a for: I of what is behind it -/
theorem for_pre {α : Type} {e : α → D} (I : List α → En → Prop) {f : D → En → Option Fl} {xs : List α} (h0 : I [] env) (h : ∀ pre x post env, xs = pre ++ x :: post → I pre env → O1 (f (e x) env) fun fl => nxt fl (I (pre ++ [x])) P) (q : ∀ env, I xs env → P (.nx env)) : O1 (forL f (xs.map e) env) P := by
  have key : ∀ (post pre : List α) (env : En), xs = pre ++ post → I pre env → O1 (forL f (post.map e) env) P := by
    intro post
    induction post with
    | nil =>
      intro pre env hx hI
      rw [List.append_nil] at hx
      rw [List.map_nil, forL, o1_some]
      exact q env (hx ▸ hI)
    | cons x post ih =>
      intro pre env hx hI
      rw [List.map_cons]
      unfold forL
      obtain ⟨fl, e1, e2⟩ := h pre x post env hx hI
      rw [e1]
      cases fl with
      | nx env' => exact ih (pre ++ [x]) env' (by rw [List.append_assoc]; exact hx) e2
      | rt d => exact ⟨_, rfl, e2⟩
  exact key xs [] env rfl h0
end
/-- the first k statements; what stands behind them -/
def tkS : Nat → IS → IS
  | 0, _ => .skip
  | k + 1, .seq a b => .seq a (tkS k b)
  | _, s => s
def dpS : Nat → IS → IS
  | 0, s => s
  | k + 1, .seq _ b => dpS k b
  | _, _ => .skip
theorem seq_split {Φ : Nat → List D → Option D} {P : Fl → Prop} : ∀ (k : Nat) {s : IS} {env : En}, O1 (evS Φ (tkS k s) env) (fun fl => nxt fl (fun env' => O1 (evS Φ (dpS k s) env') P) P) → O1 (evS Φ s env) P
  | 0, s, env, h => by
    simp only [tkS, dpS, es_skip, o1_some, nxt_nx] at h
    exact h
  | k + 1, s, env, h => by
    cases s with
    | seq a b =>
      simp only [tkS, dpS] at h
      rw [es_seq] at h ⊢
      refine h.mp fun fl hf => ?_
      cases fl with
      | nx env' => exact seq_split k hf
      | rt d => exact hf
    | skip =>
      simp only [tkS, dpS, es_skip, o1_some, nxt_nx] at h
      rw [es_skip, o1_some]
      exact h
    | _ =>
      simp only [tkS, dpS, es_skip, o1_some] at h
      refine h.mp fun fl hf => ?_
      cases fl with
      | nx env' => exact hf
      | rt d => exact hf
theorem seq_cut {Φ : Nat → List D → Option D} {P : Fl → Prop} (k : Nat) {s : IS} {env : En} (R : En → Prop) (h1 : O1 (evS Φ (tkS k s) env) (fun fl => nxt fl R P)) (h2 : ∀ env', R env' → O1 (evS Φ (dpS k s) env') P) : O1 (evS Φ s env) P := by
  refine seq_split k (h1.mp fun fl hf => ?_)
  cases fl with
  | nx env' => exact h2 env' hf
  | rt d => exact hf
end J

/-! pieces, joins, cost: what they compute. -/
namespace J
open PySem
def nI (i : Nat) : D := .int i
def Web.tie (w : Web) (k : Nat) : T3 := w.ties.getD k (0, 0, 0)
theorem biMin2 {i j : Nat} : biMin [.int i, .int j] = some (nI (min i j)) := by
  simp only [biMin, nI]
  congr 2
  split <;> omega
theorem biMax2 {i j : Nat} : biMax [.int i, .int j] = some (nI (max i j)) := by
  simp only [biMax, nI]
  congr 2
  split <;> omega
theorem ix_e0 {t : T3} : opIx (encT t) (.int 0) = some (nI t.1) := rfl
theorem ix_e1 {t : T3} : opIx (encT t) (.int 1) = some (nI t.2.1) := rfl
theorem ix_e2 {t : T3} : opIx (encT t) (.int 2) = some (nI t.2.2) := rfl
theorem tup_e {t : T3} : tupD (encT t) = some [nI t.1, nI t.2.1, nI t.2.2] := rfl
theorem Wok.tie {w : Web} (hw : Wok w) {k : Nat} (h : k < w.ties.length) : Tok w.many (w.tie k) := by
  refine hw.ok _ ?_
  unfold Web.tie
  rw [List.getD_eq_getElem?_getD, List.getElem?_eq_getElem h]
  exact List.getElem_mem h
theorem rgD_nI (n : Nat) : rgD 0 n = (List.range n).map nI := by
  unfold rgD nI
  simp
theorem rg_nI {n : Nat} (h : n ≤ 100000) : opRg (.int 0) (.int n) = some ((List.range n).map nI) := by
  simp only [opRg]
  rw [if_pos, rgD_nI]
  unfold rgOk
  simp
  omega
theorem eqv_int {i j : Int} : PyData.eqv (.int i) (.int j) = decide (i = j) := by
  simp only [PyData.eqv]
  rfl
theorem opEq_nI {i j : Nat} : opEq (.int i) (.int j) = some (decide (i = j)) := by
  simp only [opEq, scalP, if_true, eqv_int]
  congr 1
  rw [Bool.eq_iff_iff, decide_eq_true_eq, decide_eq_true_eq]
  omega
end J

/-! The ends that a law draws; cost; what joins means. -/
namespace J
open PySem
theorem len_lt : ∀ (es : List Nat) (k m : Nat), es.Pairwise (· < ·) → (∀ e ∈ es, k ≤ e ∧ e < m) → es.length ≤ m - k
  | [], k, m, _, _ => Nat.zero_le _
  | e :: r, k, m, h1, h2 => by
    rw [List.pairwise_cons] at h1
    have := h2 e List.mem_cons_self
    have := len_lt r (e + 1) m h1.2 fun x hx => ⟨h1.1 x hx, (h2 x (List.mem_cons_of_mem _ hx)).2⟩
    rw [List.length_cons]
    omega
structure Eok (w : Web) (es : List Nat) : Prop where
  ne : es ≠ []
  lt : ∀ e ∈ es, e < w.many
  st : es.Pairwise (· < ·)
theorem Eok.len {w : Web} {es : List Nat} (h : Eok w es) : es.length ≤ w.many := len_lt es 0 w.many h.st fun e he => ⟨Nat.zero_le _, h.lt e he⟩
def cst (w : Web) (is : List Nat) : Nat := (is.map fun k => (w.tie k).2.2).sum
/-! ### joined -/
inductive Cn (w : Web) (S : Nat → Prop) : Nat → Nat → Prop
  | rf (a : Nat) : Cn w S a a
  | tie (k : Nat) : S k → k < w.ties.length → Cn w S (w.tie k).1 (w.tie k).2.1
  | sm {a b : Nat} : Cn w S a b → Cn w S b a
  | tr {a b c : Nat} : Cn w S a b → Cn w S b c → Cn w S a c
end J

/-! Things that may be anything: what tells numbers, ties, trees. -/
namespace J
open PySem
/-- no dict here -/
def nd (d : D) : Bool := match d with
  | .dict _ => false
  | _ => true
def isNum (lo hi : Int) : D → Bool
  | .int i => decide (lo ≤ i) && decide (i ≤ hi)
  | _ => false
theorem isnum (n : Nat) {x : D} (hx : nd x = true) {lo hi : Int} : Ph (n + 1) 6 [x, .int lo, .int hi] = some (.bool (isNum lo hi x)) := by
  show evF (Ph n) fd6 [x, .int lo, .int hi] = _
  rw [← o1_eq, ef_of rfl]
  cases x <;> simp only [nd, Bool.false_eq_true] at hx
  all_goals simp only [o1_some, o1_none, o1_map, o1_if, o1_test, ev_var, ev_bv, ev_cn, ev_cb, ev_ci, ev_cs, ev_bin, ev_neg, ev_nt, ev_cmp, ev_cmp2, ev_an, ev_or, ev_tup, ev_lst, ev_call, ev_bi, ev_isi, ev_ix, ev_sl, ev_rev, ev_rgL, ev_rgT, ev_lset, ev_sset, ev_comp, ev_join, ev_split, ea_nil, ea_cons, eo_nil, ec_nil, ei_rg, ei_zip, ei_enum, nxt_nx, nxt_rt, es_set, es_setO, es_unp, es_par, es_app, es_sti, es_ifs, es_for, es_skip, es_seq, es_retv, turn_of, forB_of, bindT1, bindT2, bindEach, wipeE, getV, getB, start0, List.length_cons, List.length_nil, List.getElem?_cons_zero, List.getElem?_cons_succ, List.set_cons_zero, List.set_cons_succ, List.cons_append, List.nil_append, List.replicate_succ, List.replicate_zero, if_true, if_false, reduceIte, Nat.reduceAdd, Nat.reduceSub, Nat.reduceLeDiff, Bool.false_eq_true, Bool.true_eq_false, Bool.not_true, Bool.not_false, reduceCtorEq, Nat.zero_add, true_and, and_true, ei_var, ei_bv, ei_ix, ei_call, ei_bi, ei_tup, ei_lst, ei_comp, ei_rev, ei_bin, ei_rgL, ei_rgT, ei_sset, ei_sl, ei_split, ec_cmp, ec_cmp2, ec_an, ec_or, ec_nt, ec_call, ec_isi, ec_bv, ec_var, ec_bi, ec_cb, eo_ci, eo_bv, eo_var, eo_neg, eo_bin, eo_bi, eo_ix, eo_call, er_bv, er_ix, er_call, er_bi, er_tup, er_lst, er_comp, er_rev, er_bin, er_rgL, er_rgT, er_sset, er_lset, er_sl, er_split, er_join, er_cmp, er_cmp2, er_an, er_or, er_nt, er_isi, er_ci, er_cb, er_cn, er_cs, er_neg, valS_val, valS_own, retD_rt, retD_nx, boolD_b, intD_i, listD_l, tupD_t, ownS_o, items_l, items_t, isi_b, isi_i, isi_n, isi_ii, isi_tt, len_l, len_t, tu_l, tu_t, li_l, li_t, int_b, add_i, add_l, add_t, sub_i, opI_i, rev_l, rev_t, sl_l, sl_t, zip_t, zip_l, zip_tl, sq2_t, sq2_l, bi_len, bi_min, bi_max, bi_sum, bi_all, bi_any, bi_int, bi_str, bi_tuple, bi_list, bi_sorted, opB_add, opB_sub, opB_mul, opB_div, opB_mod, opC_eq, opC_ne, opC_lt, opC_le, opC_gt, opC_ge, opC_is, opC_isn, opC_isb, opC_isnb, opC_in, opC_nin, isN_n, isN_i, fd6, evIsi, isNum]
  rename_i i
  by_cases h : lo ≤ i
  · simp only [h, decide_true, if_true, o1_some, o1_none, o1_map, o1_if, o1_test, ev_var, ev_bv, ev_cn, ev_cb, ev_ci, ev_cs, ev_bin, ev_neg, ev_nt, ev_cmp, ev_cmp2, ev_an, ev_or, ev_tup, ev_lst, ev_call, ev_bi, ev_isi, ev_ix, ev_sl, ev_rev, ev_rgL, ev_rgT, ev_lset, ev_sset, ev_comp, ev_join, ev_split, ea_nil, ea_cons, eo_nil, ec_nil, ei_rg, ei_zip, ei_enum, nxt_nx, nxt_rt, es_set, es_setO, es_unp, es_par, es_app, es_sti, es_ifs, es_for, es_skip, es_seq, es_retv, turn_of, forB_of, bindT1, bindT2, bindEach, wipeE, getV, getB, start0, List.length_cons, List.length_nil, List.getElem?_cons_zero, List.getElem?_cons_succ, List.set_cons_zero, List.set_cons_succ, List.cons_append, List.nil_append, List.replicate_succ, List.replicate_zero, if_true, if_false, reduceIte, Nat.reduceAdd, Nat.reduceSub, Nat.reduceLeDiff, Bool.false_eq_true, Bool.true_eq_false, Bool.not_true, Bool.not_false, reduceCtorEq, Nat.zero_add, true_and, and_true, ei_var, ei_bv, ei_ix, ei_call, ei_bi, ei_tup, ei_lst, ei_comp, ei_rev, ei_bin, ei_rgL, ei_rgT, ei_sset, ei_sl, ei_split, ec_cmp, ec_cmp2, ec_an, ec_or, ec_nt, ec_call, ec_isi, ec_bv, ec_var, ec_bi, ec_cb, eo_ci, eo_bv, eo_var, eo_neg, eo_bin, eo_bi, eo_ix, eo_call, er_bv, er_ix, er_call, er_bi, er_tup, er_lst, er_comp, er_rev, er_bin, er_rgL, er_rgT, er_sset, er_lset, er_sl, er_split, er_join, er_cmp, er_cmp2, er_an, er_or, er_nt, er_isi, er_ci, er_cb, er_cn, er_cs, er_neg, valS_val, valS_own, retD_rt, retD_nx, boolD_b, intD_i, listD_l, tupD_t, ownS_o, items_l, items_t, isi_b, isi_i, isi_n, isi_ii, isi_tt, len_l, len_t, tu_l, tu_t, li_l, li_t, int_b, add_i, add_l, add_t, sub_i, opI_i, rev_l, rev_t, sl_l, sl_t, zip_t, zip_l, zip_tl, sq2_t, sq2_l, bi_len, bi_min, bi_max, bi_sum, bi_all, bi_any, bi_int, bi_str, bi_tuple, bi_list, bi_sorted, opB_add, opB_sub, opB_mul, opB_div, opB_mod, opC_eq, opC_ne, opC_lt, opC_le, opC_gt, opC_ge, opC_is, opC_isn, opC_isb, opC_isnb, opC_in, opC_nin, isN_n, isN_i, Bool.true_and]
  · simp only [h, decide_false, Bool.false_eq_true, if_false, o1_some, o1_none, o1_map, o1_if, o1_test, ev_var, ev_bv, ev_cn, ev_cb, ev_ci, ev_cs, ev_bin, ev_neg, ev_nt, ev_cmp, ev_cmp2, ev_an, ev_or, ev_tup, ev_lst, ev_call, ev_bi, ev_isi, ev_ix, ev_sl, ev_rev, ev_rgL, ev_rgT, ev_lset, ev_sset, ev_comp, ev_join, ev_split, ea_nil, ea_cons, eo_nil, ec_nil, ei_rg, ei_zip, ei_enum, nxt_nx, nxt_rt, es_set, es_setO, es_unp, es_par, es_app, es_sti, es_ifs, es_for, es_skip, es_seq, es_retv, turn_of, forB_of, bindT1, bindT2, bindEach, wipeE, getV, getB, start0, List.length_cons, List.length_nil, List.getElem?_cons_zero, List.getElem?_cons_succ, List.set_cons_zero, List.set_cons_succ, List.cons_append, List.nil_append, List.replicate_succ, List.replicate_zero, if_true, if_false, reduceIte, Nat.reduceAdd, Nat.reduceSub, Nat.reduceLeDiff, Bool.false_eq_true, Bool.true_eq_false, Bool.not_true, Bool.not_false, reduceCtorEq, Nat.zero_add, true_and, and_true, ei_var, ei_bv, ei_ix, ei_call, ei_bi, ei_tup, ei_lst, ei_comp, ei_rev, ei_bin, ei_rgL, ei_rgT, ei_sset, ei_sl, ei_split, ec_cmp, ec_cmp2, ec_an, ec_or, ec_nt, ec_call, ec_isi, ec_bv, ec_var, ec_bi, ec_cb, eo_ci, eo_bv, eo_var, eo_neg, eo_bin, eo_bi, eo_ix, eo_call, er_bv, er_ix, er_call, er_bi, er_tup, er_lst, er_comp, er_rev, er_bin, er_rgL, er_rgT, er_sset, er_lset, er_sl, er_split, er_join, er_cmp, er_cmp2, er_an, er_or, er_nt, er_isi, er_ci, er_cb, er_cn, er_cs, er_neg, valS_val, valS_own, retD_rt, retD_nx, boolD_b, intD_i, listD_l, tupD_t, ownS_o, items_l, items_t, isi_b, isi_i, isi_n, isi_ii, isi_tt, len_l, len_t, tu_l, tu_t, li_l, li_t, int_b, add_i, add_l, add_t, sub_i, opI_i, rev_l, rev_t, sl_l, sl_t, zip_t, zip_l, zip_tl, sq2_t, sq2_l, bi_len, bi_min, bi_max, bi_sum, bi_all, bi_any, bi_int, bi_str, bi_tuple, bi_list, bi_sorted, opB_add, opB_sub, opB_mul, opB_div, opB_mod, opC_eq, opC_ne, opC_lt, opC_le, opC_gt, opC_ge, opC_is, opC_isn, opC_isb, opC_isnb, opC_in, opC_nin, isN_n, isN_i, Bool.false_and]
theorem all_b (xs : List Bool) : biAll [.list (xs.map PyData.bool)] = some (.bool (xs.all id)) := by
  simp only [biAll, bls_map, Option.map_some]
theorem comp_plain {f : D → Option (Option D)} {β : Type} {e' : β → D} (g : D → β) {Q : List D → Prop} {xs : List D} (h : ∀ x ∈ xs, O1 (f x) (· = some (e' (g x)))) (q : Q ((xs.map g).map e')) : O1 (compL f xs) Q := by
  have := comp_map (e := id) (e' := e') g (f := f) (Q := Q) (xs := xs) h q
  rwa [List.map_id] at this
/-! ### trees -/
end J

/-! pruned. -/
namespace J
open PySem
end J

/-! Spoilt things. -/
namespace J
open PySem
def leafF (B : Nat) : D → Prop
  | .none => True
  | .bool _ => True
  | .int i => i.natAbs ≤ B
  | .str s => PyData.strOk s = true
  | _ => False
def Fit (L B : Nat) : Nat → D → Prop
  | 0, d => leafF B d
  | k + 1, d => match d with
    | .list xs => xs.length ≤ L ∧ ∀ x ∈ xs, Fit L B k x
    | .tuple xs => xs.length ≤ L ∧ ∀ x ∈ xs, Fit L B k x
    | d => leafF B d
theorem Fit.nd {L B k : Nat} {d : D} (h : Fit L B k d) : J.nd d = true := by
  cases d <;> first | rfl | (cases k <;> simp only [Fit, leafF] at h)
theorem all_lay : ∀ {xs : List D}, (∀ x ∈ xs, PyData.canLay0 x = true) → PyData.canLayAll0 xs = true
  | [], _ => by simp only [PyData.canLayAll0]
  | x :: r, h => by
    simp only [PyData.canLayAll0, Bool.and_eq_true]
    exact ⟨h x List.mem_cons_self, all_lay fun y hy => h y (List.mem_cons_of_mem _ hy)⟩
theorem all_dep {k : Nat} : ∀ {xs : List D}, (∀ x ∈ xs, PyData.depth x ≤ k) → PyData.depthAll xs ≤ k
  | [], _ => by simp only [PyData.depthAll]; omega
  | x :: r, h => by
    simp only [PyData.depthAll]
    have := h x List.mem_cons_self
    have := all_dep (xs := r) fun y hy => h y (List.mem_cons_of_mem _ hy)
    omega
theorem Fit.lay {L B : Nat} : ∀ {k : Nat} {d : D}, Fit L B k d → PyData.canLay0 d = true ∧ PyData.depth d ≤ k
  | 0, d, h => by
    cases d <;> simp only [Fit, leafF] at h <;> simp only [PyData.canLay0, PyData.depth, Nat.le_refl, and_self, h]
  | k + 1, d, h => by
    cases d <;> simp only [Fit, leafF] at h <;> simp only [PyData.canLay0, PyData.depth, Nat.zero_le, and_self, h]
    · exact ⟨all_lay fun x hx => (h.2 x hx).lay.1, by have := all_dep fun x hx => (h.2 x hx).lay.2; omega⟩
    · exact ⟨all_lay fun x hx => (h.2 x hx).lay.1, by have := all_dep fun x hx => (h.2 x hx).lay.2; omega⟩
theorem Fit.shaped {L B k : Nat} {d : D} (h : Fit L B k d) (hk : k ≤ 64) : SeqAt.shaped d = true := by
  unfold SeqAt.shaped
  rw [h.lay.1, Bool.true_and]
  exact decide_eq_true (by have := h.lay.2; omega)
theorem mod6 (a : Int) (k : Int) (hk : 0 < k) : 0 ≤ a % k ∧ a % k < k := ⟨Int.emod_nonneg _ (by omega), Int.emod_lt_of_pos _ hk⟩
theorem opEq_ii {i j : Int} : opEq (.int i) (.int j) = some (decide (i = j)) := by
  simp only [opEq, scalP, if_true, eqv_int]
end J

/-! More on ties: both together, pruned again. -/
namespace J
open PySem
end J

/-! The least cost of ties that join places: what can be had, ways, packets. -/
namespace J
def Ok (w : Web) (is : List Nat) : Prop := ∀ k ∈ is, k < w.ties.length
def Jn (w : Web) (is es : List Nat) : Prop := ∀ a ∈ es, ∀ b ∈ es, Cn w (· ∈ is) a b
def Ac (w : Web) (es : List Nat) (c : Nat) : Prop := ∃ is, Ok w is ∧ Jn w is es ∧ cst w is ≤ c
/-! costs -/
/-! joined -/
theorem Cn.none {w : Web} {S : Nat → Prop} (hS : ∀ k, ¬ S k) {a b : Nat} (h : Cn w S a b) : a = b := by
  induction h with
  | rf x => rfl
  | tie k hk _ => exact (hS k hk).elim
  | sm _ ih => exact ih.symm
  | tr _ _ i1 i2 => exact i1.trans i2
theorem Ac.sub {w : Web} {es fs : List Nat} {c : Nat} (h : Ac w es c) (hs : ∀ x ∈ fs, x ∈ es) : Ac w fs c := let ⟨is, a, b, e⟩ := h; ⟨is, a, fun x hx y hy => b x (hs x hx) y (hs y hy), e⟩
theorem Ac.congr {w : Web} {es fs : List Nat} {c : Nat} (hs : ∀ x, x ∈ fs ↔ x ∈ es) : Ac w es c ↔ Ac w fs c := ⟨fun h => h.sub fun x hx => (hs x).mp hx, fun h => h.sub fun x hx => (hs x).mpr hx⟩
theorem Ac.one {w : Web} {es : List Nat} {v : Nat} (h : ∀ x ∈ es, x = v) : Ac w es 0 := ⟨[], fun _ h => (by cases h), fun a ha b hb => by rw [h a ha, h b hb]; exact .rf v, Nat.le_refl _⟩
def Ed (w : Web) (x y p : Nat) : Prop := ∃ k, k < w.ties.length ∧ ((w.tie k).1 = x ∧ (w.tie k).2.1 = y ∨ (w.tie k).1 = y ∧ (w.tie k).2.1 = x) ∧ (w.tie k).2.2 = p
theorem Ed.sm {w : Web} {x y p : Nat} (h : Ed w x y p) : Ed w y x p := let ⟨k, a, b, c⟩ := h; ⟨k, a, b.symm, c⟩
/-! ways -/
inductive Pth (w : Web) (a : Nat) : Nat → Nat → List Nat → Prop
  | nil : Pth w a a 0 [a]
  | snoc {b c d p : Nat} {vs : List Nat} : Pth w a b c vs → Ed w b d p → Pth w a d (c + p) (d :: vs)
theorem Pth.app {w : Web} {a x y b c d p : Nat} {vs us : List Nat} (h1 : Pth w a x c vs) (he : Ed w x y p) (h2 : Pth w y b d us) : Pth w a b (c + p + d) (us ++ vs) := by
  induction h2 with
  | nil => rw [Nat.add_zero]; exact .snoc h1 he
  | snoc h e ih => rw [← Nat.add_assoc]; exact .snoc ih e
/-! packets: groups by bits -/
def Dj (g h : Nat) : Prop := ∀ i, g.testBit i = true → h.testBit i = false
def sm : List (Nat × Nat × Nat) → Nat
  | [] => 0
  | p :: r => p.2.2 + sm r
theorem Dj.sm {g h : Nat} (d : Dj g h) : Dj h g := fun i hi => by
  cases e : g.testBit i with
  | false => rfl
  | true => rw [d i e] at hi; cases hi
end J

/-! Cheapest ways by rounds; cheapest joins by groups. -/
namespace J
structure Wl (w : Web) : Prop where
  lo : 1 ≤ w.many
  hi : w.many ≤ 20
  len : w.ties.length ≤ 30
  ok : ∀ t ∈ w.ties, t.1 < t.2.1 ∧ t.2.1 < w.many
theorem tie_mem {w : Web} {k : Nat} (h : k < w.ties.length) : w.tie k ∈ w.ties := by
  unfold Web.tie
  rw [List.getD_eq_getElem?_getD, List.getElem?_eq_getElem h]
  exact List.getElem_mem h
theorem Wl.tie {w : Web} (hw : Wl w) {k : Nat} (h : k < w.ties.length) : (w.tie k).1 < (w.tie k).2.1 ∧ (w.tie k).2.1 < w.many := hw.ok _ (tie_mem h)
theorem Cn.lt {w : Web} (hw : Wl w) {S : Nat → Prop} {a b : Nat} (h : Cn w S a b) : a < w.many ↔ b < w.many := by
  induction h with
  | rf x => exact Iff.rfl
  | tie k _ hk => have := hw.tie hk; omega
  | sm _ ih => exact ih.symm
  | tr _ _ i1 i2 => exact i1.trans i2
theorem Pth.len {w : Web} {a v c : Nat} {vs : List Nat} (h : Pth w a v c vs) : 1 ≤ vs.length := by cases h <;> simp
/-! groups -/
end J

/-! The table; the least cost by all ties. -/
namespace J
/-! all rising tuples -/
end J

/-! all_far .. least_cost: what they compute. -/
namespace J
open PySem
theorem ixN_nat {n k : Nat} (h : k < n) : L2.ixN n (k : Int) = some k := by
  unfold L2.ixN
  rw [if_pos (by omega), if_pos (by omega)]
  simp
end J

/-! spread .. least_cost: what they compute. -/
namespace J
open PySem
end J

/-! Webs changed: what becomes of the least cost. -/
namespace J
/-! some ties alone -/
/-! a tie otherwise; a tie less -/
/-! a tie parted -/
def Web.part (w : Web) (k f : Nat) : Web := ⟨w.many + 1, w.ties.set k ((w.tie k).1, w.many, f) ++ [((w.tie k).2.1, w.many, (w.tie k).2.2 - f)]⟩
theorem part_len {w : Web} {k f : Nat} : (w.part k f).ties.length = w.ties.length + 1 := by unfold Web.part; simp
theorem Wl.part {w : Web} (hw : Wl w) {k f : Nat} (hk : k < w.ties.length) (h1 : w.many < 20) (h2 : w.ties.length < 30) : Wl (w.part k f) := by
  have ht := hw.tie hk
  refine ⟨by show 1 ≤ w.many + 1; omega, h1, by rw [part_len]; exact h2, fun t h => ?_⟩
  unfold Web.part at h ⊢
  dsimp only at h ⊢
  rcases List.mem_append.mp h with h | h
  · rcases List.mem_or_eq_of_mem_set h with h | h
    · have := hw.ok t h; omega
    · rw [h]; dsimp only; omega
  · rw [List.mem_singleton.mp h]; dsimp only; omega
/-! prices so many times as great -/
end J

/-! how_dear, cheapest, webs changed: what they compute. -/
namespace J
open PySem
theorem opEq_rf {x : D} (h : SeqAt.shaped x = true) : opEq x x = some true := by
  have e := SeqAt.eqv_refl x (SeqAt.canLay_of_shaped h)
  unfold opEq
  rw [e, h]
  split <;> rfl
theorem canT : ∀ ts : List T3, PyData.canLayAll0 (ts.map encT) = true
  | [] => rfl
  | t :: r => by
    rw [List.map_cons]
    simp only [encT, PyData.canLayAll0, PyData.canLay0, canT r, Bool.and_self]
theorem depT : ∀ ts : List T3, PyData.depthAll (ts.map encT) ≤ 1
  | [] => by simp [PyData.depthAll]
  | t :: r => by
    have := depT r
    rw [List.map_cons]
    simp only [encT, PyData.depthAll, PyData.depth]
    omega
theorem shaped_W {w : Web} : SeqAt.shaped (encW w) = true := by
  simp only [SeqAt.shaped, encW, PyData.canLay0, PyData.canLayAll0, canT, Bool.and_self, Bool.true_and, PyData.depth, PyData.depthAll, decide_eq_true_eq]
  have := depT w.ties
  omega
/-! cheapest -/
/-! webs changed -/
end J

/-! renamed; webs as they were -/
namespace J
open PySem
theorem opEq_W {w : Web} : opEq (encW w) (encW w) = some true := opEq_rf shaped_W
end J

/-! Webs and ends among things that may be anything. -/
namespace J
open PySem
theorem isNum_some {lo hi : Int} {x : D} (h : isNum lo hi x = true) : ∃ i, x = .int i ∧ lo ≤ i ∧ i ≤ hi := by
  cases x <;> simp only [isNum, Bool.false_eq_true, Bool.and_eq_true, decide_eq_true_eq] at h
  exact ⟨_, rfl, h⟩
def ltI : D → D → Bool
  | .int i, .int j => decide (i < j)
  | _, _ => false
def isTie (m : Int) : D → Bool
  | .tuple [a, b, c] => isNum 0 (m - 1) a && (isNum 0 (m - 1) b && (ltI a b && isNum 0 99 c))
  | _ => false
def nd2 : D → Bool
  | .tuple ts => ts.all nd
  | .dict _ => false
  | _ => true
def nd3 : D → Bool
  | .tuple ts => ts.all nd2
  | .dict _ => false
  | _ => true
def nd4 : D → Bool
  | .tuple ts => ts.all nd3
  | .dict _ => false
  | _ => true
theorem Fit.els {L B k : Nat} {ts : List D} (h : Fit L B k (.tuple ts)) : ts.length ≤ L ∧ ∀ x ∈ ts, Fit L B (k - 1) x := by
  cases k with
  | zero => simp only [Fit, leafF] at h
  | succ k => exact h
theorem Fit.nd2 {L B k : Nat} {d : D} (h : Fit L B k d) : J.nd2 d = true := by
  cases d with
  | tuple ts => exact List.all_eq_true.mpr fun x hx => (h.els.2 x hx).nd
  | dict _ => cases k <;> simp only [Fit, leafF] at h
  | _ => rfl
theorem Fit.nd3 {L B k : Nat} {d : D} (h : Fit L B k d) : J.nd3 d = true := by
  cases d with
  | tuple ts => exact List.all_eq_true.mpr fun x hx => (h.els.2 x hx).nd2
  | dict _ => cases k <;> simp only [Fit, leafF] at h
  | _ => rfl
theorem Fit.nd4 {L B k : Nat} {d : D} (h : Fit L B k d) : J.nd4 d = true := by
  cases d with
  | tuple ts => exact List.all_eq_true.mpr fun x hx => (h.els.2 x hx).nd3
  | dict _ => cases k <;> simp only [Fit, leafF] at h
  | _ => rfl
theorem nd3_nd {d : D} (h : nd3 d = true) : nd d = true := by cases d <;> first | rfl | simp [nd3] at h
theorem ix3_0 {a b c : D} : opIx (.tuple [a, b, c]) (.int 0) = some a := rfl
theorem ix3_1 {a b c : D} : opIx (.tuple [a, b, c]) (.int 1) = some b := rfl
theorem ix3_2 {a b c : D} : opIx (.tuple [a, b, c]) (.int 2) = some c := rfl
theorem ix2_0 {a b : D} : opIx (.tuple [a, b]) (.int 0) = some a := rfl
theorem ix2_1 {a b : D} : opIx (.tuple [a, b]) (.int 1) = some b := rfl
theorem cut3_2 {a b c : D} : cutD [a, b, c] none (some 2) = [a, b] := rfl
theorem biAll2 {x y : Bool} : biAll [.list [.bool x, .bool y]] = some (.bool (x && y)) := by cases x <;> cases y <;> rfl
theorem len3 {ts : List D} (h : ts.length = 3) : ∃ a b c, ts = [a, b, c] := by
  match ts, h with
  | [a, b, c], _ => exact ⟨a, b, c, rfl⟩
theorem len2 {ts : List D} (h : ts.length = 2) : ∃ a b, ts = [a, b] := by
  match ts, h with
  | [a, b], _ => exact ⟨a, b, rfl⟩
theorem isTie_len {m : Int} {ts : List D} (h : ts.length ≠ 3) : isTie m (.tuple ts) = false := by
  unfold isTie
  split
  · rename_i e; cases e; simp at h
  · rfl
theorem is_tie (n : Nat) {x : D} (hx : nd2 x = true) {m : Int} : Ph (n + 2) 7 [x, .int m] = some (.bool (isTie m x)) := by
  show evF (Ph (n + 1)) fd7 [x, .int m] = _
  rw [← o1_eq, ef_of rfl]
  cases x with
  | tuple ts =>
    simp only [nd2, List.all_eq_true] at hx
    by_cases hl : ts.length = 3
    · obtain ⟨a, b, c, rfl⟩ := len3 hl
      have ha := hx a (by simp)
      have hb := hx b (by simp)
      have hc := hx c (by simp)
      have e3 : opEq (.int ((3 : Nat) : Int)) (.int 3) = some true := rfl
      simp only [o1_some, o1_none, o1_map, o1_if, o1_test, ev_var, ev_bv, ev_cn, ev_cb, ev_ci, ev_cs, ev_bin, ev_neg, ev_nt, ev_cmp, ev_cmp2, ev_an, ev_or, ev_tup, ev_lst, ev_call, ev_bi, ev_isi, ev_ix, ev_sl, ev_rev, ev_rgL, ev_rgT, ev_lset, ev_sset, ev_comp, ev_join, ev_split, ea_nil, ea_cons, eo_nil, ec_nil, ei_rg, ei_zip, ei_enum, nxt_nx, nxt_rt, es_set, es_setO, es_unp, es_par, es_app, es_sti, es_ifs, es_for, es_skip, es_seq, es_retv, turn_of, forB_of, bindT1, bindT2, bindEach, wipeE, getV, getB, start0, List.length_cons, List.length_nil, List.getElem?_cons_zero, List.getElem?_cons_succ, List.set_cons_zero, List.set_cons_succ, List.cons_append, List.nil_append, List.replicate_succ, List.replicate_zero, if_true, if_false, reduceIte, Nat.reduceAdd, Nat.reduceSub, Nat.reduceLeDiff, Bool.false_eq_true, Bool.true_eq_false, Bool.not_true, Bool.not_false, reduceCtorEq, Nat.zero_add, true_and, and_true, ei_var, ei_bv, ei_ix, ei_call, ei_bi, ei_tup, ei_lst, ei_comp, ei_rev, ei_bin, ei_rgL, ei_rgT, ei_sset, ei_sl, ei_split, ec_cmp, ec_cmp2, ec_an, ec_or, ec_nt, ec_call, ec_isi, ec_bv, ec_var, ec_bi, ec_cb, eo_ci, eo_bv, eo_var, eo_neg, eo_bin, eo_bi, eo_ix, eo_call, er_bv, er_ix, er_call, er_bi, er_tup, er_lst, er_comp, er_rev, er_bin, er_rgL, er_rgT, er_sset, er_lset, er_sl, er_split, er_join, er_cmp, er_cmp2, er_an, er_or, er_nt, er_isi, er_ci, er_cb, er_cn, er_cs, er_neg, valS_val, valS_own, retD_rt, retD_nx, boolD_b, intD_i, listD_l, tupD_t, ownS_o, items_l, items_t, isi_b, isi_i, isi_n, isi_ii, isi_tt, len_l, len_t, tu_l, tu_t, li_l, li_t, int_b, add_i, add_l, add_t, sub_i, opI_i, rev_l, rev_t, sl_l, sl_t, zip_t, zip_l, zip_tl, sq2_t, sq2_l, bi_len, bi_min, bi_max, bi_sum, bi_all, bi_any, bi_int, bi_str, bi_tuple, bi_list, bi_sorted, opB_add, opB_sub, opB_mul, opB_div, opB_mod, opC_eq, opC_ne, opC_lt, opC_le, opC_gt, opC_ge, opC_is, opC_isn, opC_isb, opC_isnb, opC_in, opC_nin, isN_n, isN_i, fd7, cut3_2, e3]
      refine comp_plain (e' := PyData.bool) (fun d => isNum 0 (m - 1) d) (fun d hd => ?_) ?_
      · have : nd d = true := by
          simp at hd
          rcases hd with rfl | rfl
          · exact ha
          · exact hb
        simp only [o1_some, o1_none, o1_map, o1_if, o1_test, ev_var, ev_bv, ev_cn, ev_cb, ev_ci, ev_cs, ev_bin, ev_neg, ev_nt, ev_cmp, ev_cmp2, ev_an, ev_or, ev_tup, ev_lst, ev_call, ev_bi, ev_isi, ev_ix, ev_sl, ev_rev, ev_rgL, ev_rgT, ev_lset, ev_sset, ev_comp, ev_join, ev_split, ea_nil, ea_cons, eo_nil, ec_nil, ei_rg, ei_zip, ei_enum, nxt_nx, nxt_rt, es_set, es_setO, es_unp, es_par, es_app, es_sti, es_ifs, es_for, es_skip, es_seq, es_retv, turn_of, forB_of, bindT1, bindT2, bindEach, wipeE, getV, getB, start0, List.length_cons, List.length_nil, List.getElem?_cons_zero, List.getElem?_cons_succ, List.set_cons_zero, List.set_cons_succ, List.cons_append, List.nil_append, List.replicate_succ, List.replicate_zero, if_true, if_false, reduceIte, Nat.reduceAdd, Nat.reduceSub, Nat.reduceLeDiff, Bool.false_eq_true, Bool.true_eq_false, Bool.not_true, Bool.not_false, reduceCtorEq, Nat.zero_add, true_and, and_true, ei_var, ei_bv, ei_ix, ei_call, ei_bi, ei_tup, ei_lst, ei_comp, ei_rev, ei_bin, ei_rgL, ei_rgT, ei_sset, ei_sl, ei_split, ec_cmp, ec_cmp2, ec_an, ec_or, ec_nt, ec_call, ec_isi, ec_bv, ec_var, ec_bi, ec_cb, eo_ci, eo_bv, eo_var, eo_neg, eo_bin, eo_bi, eo_ix, eo_call, er_bv, er_ix, er_call, er_bi, er_tup, er_lst, er_comp, er_rev, er_bin, er_rgL, er_rgT, er_sset, er_lset, er_sl, er_split, er_join, er_cmp, er_cmp2, er_an, er_or, er_nt, er_isi, er_ci, er_cb, er_cn, er_cs, er_neg, valS_val, valS_own, retD_rt, retD_nx, boolD_b, intD_i, listD_l, tupD_t, ownS_o, items_l, items_t, isi_b, isi_i, isi_n, isi_ii, isi_tt, len_l, len_t, tu_l, tu_t, li_l, li_t, int_b, add_i, add_l, add_t, sub_i, opI_i, rev_l, rev_t, sl_l, sl_t, zip_t, zip_l, zip_tl, sq2_t, sq2_l, bi_len, bi_min, bi_max, bi_sum, bi_all, bi_any, bi_int, bi_str, bi_tuple, bi_list, bi_sorted, opB_add, opB_sub, opB_mul, opB_div, opB_mod, opC_eq, opC_ne, opC_lt, opC_le, opC_gt, opC_ge, opC_is, opC_isn, opC_isb, opC_isnb, opC_in, opC_nin, isN_n, isN_i, isnum n this]
      · simp only [o1_some, o1_none, o1_map, o1_if, o1_test, ev_var, ev_bv, ev_cn, ev_cb, ev_ci, ev_cs, ev_bin, ev_neg, ev_nt, ev_cmp, ev_cmp2, ev_an, ev_or, ev_tup, ev_lst, ev_call, ev_bi, ev_isi, ev_ix, ev_sl, ev_rev, ev_rgL, ev_rgT, ev_lset, ev_sset, ev_comp, ev_join, ev_split, ea_nil, ea_cons, eo_nil, ec_nil, ei_rg, ei_zip, ei_enum, nxt_nx, nxt_rt, es_set, es_setO, es_unp, es_par, es_app, es_sti, es_ifs, es_for, es_skip, es_seq, es_retv, turn_of, forB_of, bindT1, bindT2, bindEach, wipeE, getV, getB, start0, List.length_cons, List.length_nil, List.getElem?_cons_zero, List.getElem?_cons_succ, List.set_cons_zero, List.set_cons_succ, List.cons_append, List.nil_append, List.replicate_succ, List.replicate_zero, if_true, if_false, reduceIte, Nat.reduceAdd, Nat.reduceSub, Nat.reduceLeDiff, Bool.false_eq_true, Bool.true_eq_false, Bool.not_true, Bool.not_false, reduceCtorEq, Nat.zero_add, true_and, and_true, ei_var, ei_bv, ei_ix, ei_call, ei_bi, ei_tup, ei_lst, ei_comp, ei_rev, ei_bin, ei_rgL, ei_rgT, ei_sset, ei_sl, ei_split, ec_cmp, ec_cmp2, ec_an, ec_or, ec_nt, ec_call, ec_isi, ec_bv, ec_var, ec_bi, ec_cb, eo_ci, eo_bv, eo_var, eo_neg, eo_bin, eo_bi, eo_ix, eo_call, er_bv, er_ix, er_call, er_bi, er_tup, er_lst, er_comp, er_rev, er_bin, er_rgL, er_rgT, er_sset, er_lset, er_sl, er_split, er_join, er_cmp, er_cmp2, er_an, er_or, er_nt, er_isi, er_ci, er_cb, er_cn, er_cs, er_neg, valS_val, valS_own, retD_rt, retD_nx, boolD_b, intD_i, listD_l, tupD_t, ownS_o, items_l, items_t, isi_b, isi_i, isi_n, isi_ii, isi_tt, len_l, len_t, tu_l, tu_t, li_l, li_t, int_b, add_i, add_l, add_t, sub_i, opI_i, rev_l, rev_t, sl_l, sl_t, zip_t, zip_l, zip_tl, sq2_t, sq2_l, bi_len, bi_min, bi_max, bi_sum, bi_all, bi_any, bi_int, bi_str, bi_tuple, bi_list, bi_sorted, opB_add, opB_sub, opB_mul, opB_div, opB_mod, opC_eq, opC_ne, opC_lt, opC_le, opC_gt, opC_ge, opC_is, opC_isn, opC_isb, opC_isnb, opC_in, opC_nin, isN_n, isN_i, biAll2, List.map_cons, List.map_nil, ix3_0, ix3_1, ix3_2, isTie]
        cases h1 : isNum 0 (m - 1) a with
        | false => simp only [Bool.false_and, o1_some, o1_none, o1_map, o1_if, o1_test, ev_var, ev_bv, ev_cn, ev_cb, ev_ci, ev_cs, ev_bin, ev_neg, ev_nt, ev_cmp, ev_cmp2, ev_an, ev_or, ev_tup, ev_lst, ev_call, ev_bi, ev_isi, ev_ix, ev_sl, ev_rev, ev_rgL, ev_rgT, ev_lset, ev_sset, ev_comp, ev_join, ev_split, ea_nil, ea_cons, eo_nil, ec_nil, ei_rg, ei_zip, ei_enum, nxt_nx, nxt_rt, es_set, es_setO, es_unp, es_par, es_app, es_sti, es_ifs, es_for, es_skip, es_seq, es_retv, turn_of, forB_of, bindT1, bindT2, bindEach, wipeE, getV, getB, start0, List.length_cons, List.length_nil, List.getElem?_cons_zero, List.getElem?_cons_succ, List.set_cons_zero, List.set_cons_succ, List.cons_append, List.nil_append, List.replicate_succ, List.replicate_zero, if_true, if_false, reduceIte, Nat.reduceAdd, Nat.reduceSub, Nat.reduceLeDiff, Bool.false_eq_true, Bool.true_eq_false, Bool.not_true, Bool.not_false, reduceCtorEq, Nat.zero_add, true_and, and_true, ei_var, ei_bv, ei_ix, ei_call, ei_bi, ei_tup, ei_lst, ei_comp, ei_rev, ei_bin, ei_rgL, ei_rgT, ei_sset, ei_sl, ei_split, ec_cmp, ec_cmp2, ec_an, ec_or, ec_nt, ec_call, ec_isi, ec_bv, ec_var, ec_bi, ec_cb, eo_ci, eo_bv, eo_var, eo_neg, eo_bin, eo_bi, eo_ix, eo_call, er_bv, er_ix, er_call, er_bi, er_tup, er_lst, er_comp, er_rev, er_bin, er_rgL, er_rgT, er_sset, er_lset, er_sl, er_split, er_join, er_cmp, er_cmp2, er_an, er_or, er_nt, er_isi, er_ci, er_cb, er_cn, er_cs, er_neg, valS_val, valS_own, retD_rt, retD_nx, boolD_b, intD_i, listD_l, tupD_t, ownS_o, items_l, items_t, isi_b, isi_i, isi_n, isi_ii, isi_tt, len_l, len_t, tu_l, tu_t, li_l, li_t, int_b, add_i, add_l, add_t, sub_i, opI_i, rev_l, rev_t, sl_l, sl_t, zip_t, zip_l, zip_tl, sq2_t, sq2_l, bi_len, bi_min, bi_max, bi_sum, bi_all, bi_any, bi_int, bi_str, bi_tuple, bi_list, bi_sorted, opB_add, opB_sub, opB_mul, opB_div, opB_mod, opC_eq, opC_ne, opC_lt, opC_le, opC_gt, opC_ge, opC_is, opC_isn, opC_isb, opC_isnb, opC_in, opC_nin, isN_n, isN_i]
        | true =>
          cases h2 : isNum 0 (m - 1) b with
          | false => simp only [Bool.and_false, Bool.false_and, o1_some, o1_none, o1_map, o1_if, o1_test, ev_var, ev_bv, ev_cn, ev_cb, ev_ci, ev_cs, ev_bin, ev_neg, ev_nt, ev_cmp, ev_cmp2, ev_an, ev_or, ev_tup, ev_lst, ev_call, ev_bi, ev_isi, ev_ix, ev_sl, ev_rev, ev_rgL, ev_rgT, ev_lset, ev_sset, ev_comp, ev_join, ev_split, ea_nil, ea_cons, eo_nil, ec_nil, ei_rg, ei_zip, ei_enum, nxt_nx, nxt_rt, es_set, es_setO, es_unp, es_par, es_app, es_sti, es_ifs, es_for, es_skip, es_seq, es_retv, turn_of, forB_of, bindT1, bindT2, bindEach, wipeE, getV, getB, start0, List.length_cons, List.length_nil, List.getElem?_cons_zero, List.getElem?_cons_succ, List.set_cons_zero, List.set_cons_succ, List.cons_append, List.nil_append, List.replicate_succ, List.replicate_zero, if_true, if_false, reduceIte, Nat.reduceAdd, Nat.reduceSub, Nat.reduceLeDiff, Bool.false_eq_true, Bool.true_eq_false, Bool.not_true, Bool.not_false, reduceCtorEq, Nat.zero_add, true_and, and_true, ei_var, ei_bv, ei_ix, ei_call, ei_bi, ei_tup, ei_lst, ei_comp, ei_rev, ei_bin, ei_rgL, ei_rgT, ei_sset, ei_sl, ei_split, ec_cmp, ec_cmp2, ec_an, ec_or, ec_nt, ec_call, ec_isi, ec_bv, ec_var, ec_bi, ec_cb, eo_ci, eo_bv, eo_var, eo_neg, eo_bin, eo_bi, eo_ix, eo_call, er_bv, er_ix, er_call, er_bi, er_tup, er_lst, er_comp, er_rev, er_bin, er_rgL, er_rgT, er_sset, er_lset, er_sl, er_split, er_join, er_cmp, er_cmp2, er_an, er_or, er_nt, er_isi, er_ci, er_cb, er_cn, er_cs, er_neg, valS_val, valS_own, retD_rt, retD_nx, boolD_b, intD_i, listD_l, tupD_t, ownS_o, items_l, items_t, isi_b, isi_i, isi_n, isi_ii, isi_tt, len_l, len_t, tu_l, tu_t, li_l, li_t, int_b, add_i, add_l, add_t, sub_i, opI_i, rev_l, rev_t, sl_l, sl_t, zip_t, zip_l, zip_tl, sq2_t, sq2_l, bi_len, bi_min, bi_max, bi_sum, bi_all, bi_any, bi_int, bi_str, bi_tuple, bi_list, bi_sorted, opB_add, opB_sub, opB_mul, opB_div, opB_mod, opC_eq, opC_ne, opC_lt, opC_le, opC_gt, opC_ge, opC_is, opC_isn, opC_isb, opC_isnb, opC_in, opC_nin, isN_n, isN_i, Bool.true_and]
          | true =>
            obtain ⟨i, rfl, _⟩ := isNum_some h1
            obtain ⟨j, rfl, _⟩ := isNum_some h2
            simp only [o1_some, o1_none, o1_map, o1_if, o1_test, ev_var, ev_bv, ev_cn, ev_cb, ev_ci, ev_cs, ev_bin, ev_neg, ev_nt, ev_cmp, ev_cmp2, ev_an, ev_or, ev_tup, ev_lst, ev_call, ev_bi, ev_isi, ev_ix, ev_sl, ev_rev, ev_rgL, ev_rgT, ev_lset, ev_sset, ev_comp, ev_join, ev_split, ea_nil, ea_cons, eo_nil, ec_nil, ei_rg, ei_zip, ei_enum, nxt_nx, nxt_rt, es_set, es_setO, es_unp, es_par, es_app, es_sti, es_ifs, es_for, es_skip, es_seq, es_retv, turn_of, forB_of, bindT1, bindT2, bindEach, wipeE, getV, getB, start0, List.length_cons, List.length_nil, List.getElem?_cons_zero, List.getElem?_cons_succ, List.set_cons_zero, List.set_cons_succ, List.cons_append, List.nil_append, List.replicate_succ, List.replicate_zero, if_true, if_false, reduceIte, Nat.reduceAdd, Nat.reduceSub, Nat.reduceLeDiff, Bool.false_eq_true, Bool.true_eq_false, Bool.not_true, Bool.not_false, reduceCtorEq, Nat.zero_add, true_and, and_true, ei_var, ei_bv, ei_ix, ei_call, ei_bi, ei_tup, ei_lst, ei_comp, ei_rev, ei_bin, ei_rgL, ei_rgT, ei_sset, ei_sl, ei_split, ec_cmp, ec_cmp2, ec_an, ec_or, ec_nt, ec_call, ec_isi, ec_bv, ec_var, ec_bi, ec_cb, eo_ci, eo_bv, eo_var, eo_neg, eo_bin, eo_bi, eo_ix, eo_call, er_bv, er_ix, er_call, er_bi, er_tup, er_lst, er_comp, er_rev, er_bin, er_rgL, er_rgT, er_sset, er_lset, er_sl, er_split, er_join, er_cmp, er_cmp2, er_an, er_or, er_nt, er_isi, er_ci, er_cb, er_cn, er_cs, er_neg, valS_val, valS_own, retD_rt, retD_nx, boolD_b, intD_i, listD_l, tupD_t, ownS_o, items_l, items_t, isi_b, isi_i, isi_n, isi_ii, isi_tt, len_l, len_t, tu_l, tu_t, li_l, li_t, int_b, add_i, add_l, add_t, sub_i, opI_i, rev_l, rev_t, sl_l, sl_t, zip_t, zip_l, zip_tl, sq2_t, sq2_l, bi_len, bi_min, bi_max, bi_sum, bi_all, bi_any, bi_int, bi_str, bi_tuple, bi_list, bi_sorted, opB_add, opB_sub, opB_mul, opB_div, opB_mod, opC_eq, opC_ne, opC_lt, opC_le, opC_gt, opC_ge, opC_is, opC_isn, opC_isb, opC_isnb, opC_in, opC_nin, isN_n, isN_i, Bool.true_and, ltI]
            by_cases h3 : i < j
            · simp only [h3, decide_true, o1_some, o1_none, o1_map, o1_if, o1_test, ev_var, ev_bv, ev_cn, ev_cb, ev_ci, ev_cs, ev_bin, ev_neg, ev_nt, ev_cmp, ev_cmp2, ev_an, ev_or, ev_tup, ev_lst, ev_call, ev_bi, ev_isi, ev_ix, ev_sl, ev_rev, ev_rgL, ev_rgT, ev_lset, ev_sset, ev_comp, ev_join, ev_split, ea_nil, ea_cons, eo_nil, ec_nil, ei_rg, ei_zip, ei_enum, nxt_nx, nxt_rt, es_set, es_setO, es_unp, es_par, es_app, es_sti, es_ifs, es_for, es_skip, es_seq, es_retv, turn_of, forB_of, bindT1, bindT2, bindEach, wipeE, getV, getB, start0, List.length_cons, List.length_nil, List.getElem?_cons_zero, List.getElem?_cons_succ, List.set_cons_zero, List.set_cons_succ, List.cons_append, List.nil_append, List.replicate_succ, List.replicate_zero, if_true, if_false, reduceIte, Nat.reduceAdd, Nat.reduceSub, Nat.reduceLeDiff, Bool.false_eq_true, Bool.true_eq_false, Bool.not_true, Bool.not_false, reduceCtorEq, Nat.zero_add, true_and, and_true, ei_var, ei_bv, ei_ix, ei_call, ei_bi, ei_tup, ei_lst, ei_comp, ei_rev, ei_bin, ei_rgL, ei_rgT, ei_sset, ei_sl, ei_split, ec_cmp, ec_cmp2, ec_an, ec_or, ec_nt, ec_call, ec_isi, ec_bv, ec_var, ec_bi, ec_cb, eo_ci, eo_bv, eo_var, eo_neg, eo_bin, eo_bi, eo_ix, eo_call, er_bv, er_ix, er_call, er_bi, er_tup, er_lst, er_comp, er_rev, er_bin, er_rgL, er_rgT, er_sset, er_lset, er_sl, er_split, er_join, er_cmp, er_cmp2, er_an, er_or, er_nt, er_isi, er_ci, er_cb, er_cn, er_cs, er_neg, valS_val, valS_own, retD_rt, retD_nx, boolD_b, intD_i, listD_l, tupD_t, ownS_o, items_l, items_t, isi_b, isi_i, isi_n, isi_ii, isi_tt, len_l, len_t, tu_l, tu_t, li_l, li_t, int_b, add_i, add_l, add_t, sub_i, opI_i, rev_l, rev_t, sl_l, sl_t, zip_t, zip_l, zip_tl, sq2_t, sq2_l, bi_len, bi_min, bi_max, bi_sum, bi_all, bi_any, bi_int, bi_str, bi_tuple, bi_list, bi_sorted, opB_add, opB_sub, opB_mul, opB_div, opB_mod, opC_eq, opC_ne, opC_lt, opC_le, opC_gt, opC_ge, opC_is, opC_isn, opC_isb, opC_isnb, opC_in, opC_nin, isN_n, isN_i, isnum n hc, Bool.true_and]
            · simp only [h3, decide_false, o1_some, o1_none, o1_map, o1_if, o1_test, ev_var, ev_bv, ev_cn, ev_cb, ev_ci, ev_cs, ev_bin, ev_neg, ev_nt, ev_cmp, ev_cmp2, ev_an, ev_or, ev_tup, ev_lst, ev_call, ev_bi, ev_isi, ev_ix, ev_sl, ev_rev, ev_rgL, ev_rgT, ev_lset, ev_sset, ev_comp, ev_join, ev_split, ea_nil, ea_cons, eo_nil, ec_nil, ei_rg, ei_zip, ei_enum, nxt_nx, nxt_rt, es_set, es_setO, es_unp, es_par, es_app, es_sti, es_ifs, es_for, es_skip, es_seq, es_retv, turn_of, forB_of, bindT1, bindT2, bindEach, wipeE, getV, getB, start0, List.length_cons, List.length_nil, List.getElem?_cons_zero, List.getElem?_cons_succ, List.set_cons_zero, List.set_cons_succ, List.cons_append, List.nil_append, List.replicate_succ, List.replicate_zero, if_true, if_false, reduceIte, Nat.reduceAdd, Nat.reduceSub, Nat.reduceLeDiff, Bool.false_eq_true, Bool.true_eq_false, Bool.not_true, Bool.not_false, reduceCtorEq, Nat.zero_add, true_and, and_true, ei_var, ei_bv, ei_ix, ei_call, ei_bi, ei_tup, ei_lst, ei_comp, ei_rev, ei_bin, ei_rgL, ei_rgT, ei_sset, ei_sl, ei_split, ec_cmp, ec_cmp2, ec_an, ec_or, ec_nt, ec_call, ec_isi, ec_bv, ec_var, ec_bi, ec_cb, eo_ci, eo_bv, eo_var, eo_neg, eo_bin, eo_bi, eo_ix, eo_call, er_bv, er_ix, er_call, er_bi, er_tup, er_lst, er_comp, er_rev, er_bin, er_rgL, er_rgT, er_sset, er_lset, er_sl, er_split, er_join, er_cmp, er_cmp2, er_an, er_or, er_nt, er_isi, er_ci, er_cb, er_cn, er_cs, er_neg, valS_val, valS_own, retD_rt, retD_nx, boolD_b, intD_i, listD_l, tupD_t, ownS_o, items_l, items_t, isi_b, isi_i, isi_n, isi_ii, isi_tt, len_l, len_t, tu_l, tu_t, li_l, li_t, int_b, add_i, add_l, add_t, sub_i, opI_i, rev_l, rev_t, sl_l, sl_t, zip_t, zip_l, zip_tl, sq2_t, sq2_l, bi_len, bi_min, bi_max, bi_sum, bi_all, bi_any, bi_int, bi_str, bi_tuple, bi_list, bi_sorted, opB_add, opB_sub, opB_mul, opB_div, opB_mod, opC_eq, opC_ne, opC_lt, opC_le, opC_gt, opC_ge, opC_is, opC_isn, opC_isb, opC_isnb, opC_in, opC_nin, isN_n, isN_i, Bool.false_and]
    · have e : opEq (.int (ts.length : Int)) (.int 3) = some false := by rw [opEq_ii]; exact congrArg some (decide_eq_false (by omega))
      simp only [o1_some, o1_none, o1_map, o1_if, o1_test, ev_var, ev_bv, ev_cn, ev_cb, ev_ci, ev_cs, ev_bin, ev_neg, ev_nt, ev_cmp, ev_cmp2, ev_an, ev_or, ev_tup, ev_lst, ev_call, ev_bi, ev_isi, ev_ix, ev_sl, ev_rev, ev_rgL, ev_rgT, ev_lset, ev_sset, ev_comp, ev_join, ev_split, ea_nil, ea_cons, eo_nil, ec_nil, ei_rg, ei_zip, ei_enum, nxt_nx, nxt_rt, es_set, es_setO, es_unp, es_par, es_app, es_sti, es_ifs, es_for, es_skip, es_seq, es_retv, turn_of, forB_of, bindT1, bindT2, bindEach, wipeE, getV, getB, start0, List.length_cons, List.length_nil, List.getElem?_cons_zero, List.getElem?_cons_succ, List.set_cons_zero, List.set_cons_succ, List.cons_append, List.nil_append, List.replicate_succ, List.replicate_zero, if_true, if_false, reduceIte, Nat.reduceAdd, Nat.reduceSub, Nat.reduceLeDiff, Bool.false_eq_true, Bool.true_eq_false, Bool.not_true, Bool.not_false, reduceCtorEq, Nat.zero_add, true_and, and_true, ei_var, ei_bv, ei_ix, ei_call, ei_bi, ei_tup, ei_lst, ei_comp, ei_rev, ei_bin, ei_rgL, ei_rgT, ei_sset, ei_sl, ei_split, ec_cmp, ec_cmp2, ec_an, ec_or, ec_nt, ec_call, ec_isi, ec_bv, ec_var, ec_bi, ec_cb, eo_ci, eo_bv, eo_var, eo_neg, eo_bin, eo_bi, eo_ix, eo_call, er_bv, er_ix, er_call, er_bi, er_tup, er_lst, er_comp, er_rev, er_bin, er_rgL, er_rgT, er_sset, er_lset, er_sl, er_split, er_join, er_cmp, er_cmp2, er_an, er_or, er_nt, er_isi, er_ci, er_cb, er_cn, er_cs, er_neg, valS_val, valS_own, retD_rt, retD_nx, boolD_b, intD_i, listD_l, tupD_t, ownS_o, items_l, items_t, isi_b, isi_i, isi_n, isi_ii, isi_tt, len_l, len_t, tu_l, tu_t, li_l, li_t, int_b, add_i, add_l, add_t, sub_i, opI_i, rev_l, rev_t, sl_l, sl_t, zip_t, zip_l, zip_tl, sq2_t, sq2_l, bi_len, bi_min, bi_max, bi_sum, bi_all, bi_any, bi_int, bi_str, bi_tuple, bi_list, bi_sorted, opB_add, opB_sub, opB_mul, opB_div, opB_mod, opC_eq, opC_ne, opC_lt, opC_le, opC_gt, opC_ge, opC_is, opC_isn, opC_isb, opC_isnb, opC_in, opC_nin, isN_n, isN_i, fd7, e, isTie_len hl]
  | dict _ => simp [nd2] at hx
  | _ => simp only [o1_some, o1_none, o1_map, o1_if, o1_test, ev_var, ev_bv, ev_cn, ev_cb, ev_ci, ev_cs, ev_bin, ev_neg, ev_nt, ev_cmp, ev_cmp2, ev_an, ev_or, ev_tup, ev_lst, ev_call, ev_bi, ev_isi, ev_ix, ev_sl, ev_rev, ev_rgL, ev_rgT, ev_lset, ev_sset, ev_comp, ev_join, ev_split, ea_nil, ea_cons, eo_nil, ec_nil, ei_rg, ei_zip, ei_enum, nxt_nx, nxt_rt, es_set, es_setO, es_unp, es_par, es_app, es_sti, es_ifs, es_for, es_skip, es_seq, es_retv, turn_of, forB_of, bindT1, bindT2, bindEach, wipeE, getV, getB, start0, List.length_cons, List.length_nil, List.getElem?_cons_zero, List.getElem?_cons_succ, List.set_cons_zero, List.set_cons_succ, List.cons_append, List.nil_append, List.replicate_succ, List.replicate_zero, if_true, if_false, reduceIte, Nat.reduceAdd, Nat.reduceSub, Nat.reduceLeDiff, Bool.false_eq_true, Bool.true_eq_false, Bool.not_true, Bool.not_false, reduceCtorEq, Nat.zero_add, true_and, and_true, ei_var, ei_bv, ei_ix, ei_call, ei_bi, ei_tup, ei_lst, ei_comp, ei_rev, ei_bin, ei_rgL, ei_rgT, ei_sset, ei_sl, ei_split, ec_cmp, ec_cmp2, ec_an, ec_or, ec_nt, ec_call, ec_isi, ec_bv, ec_var, ec_bi, ec_cb, eo_ci, eo_bv, eo_var, eo_neg, eo_bin, eo_bi, eo_ix, eo_call, er_bv, er_ix, er_call, er_bi, er_tup, er_lst, er_comp, er_rev, er_bin, er_rgL, er_rgT, er_sset, er_lset, er_sl, er_split, er_join, er_cmp, er_cmp2, er_an, er_or, er_nt, er_isi, er_ci, er_cb, er_cn, er_cs, er_neg, valS_val, valS_own, retD_rt, retD_nx, boolD_b, intD_i, listD_l, tupD_t, ownS_o, items_l, items_t, isi_b, isi_i, isi_n, isi_ii, isi_tt, len_l, len_t, tu_l, tu_t, li_l, li_t, int_b, add_i, add_l, add_t, sub_i, opI_i, rev_l, rev_t, sl_l, sl_t, zip_t, zip_l, zip_tl, sq2_t, sq2_l, bi_len, bi_min, bi_max, bi_sum, bi_all, bi_any, bi_int, bi_str, bi_tuple, bi_list, bi_sorted, opB_add, opB_sub, opB_mul, opB_div, opB_mod, opC_eq, opC_ne, opC_lt, opC_le, opC_gt, opC_ge, opC_is, opC_isn, opC_isb, opC_isnb, opC_in, opC_nin, isN_n, isN_i, fd7, evIsi, isTie]
def isWebD : D → Bool
  | .tuple [a, b] => isNum 1 7 a && (match a, b with
    | .int m, .tuple ts => decide (ts.length ≤ 10) && ts.all (isTie m)
    | _, _ => false)
  | _ => false
theorem isWeb_len {ts : List D} (h : ts.length ≠ 2) : isWebD (.tuple ts) = false := by
  unfold isWebD
  split
  · rename_i e; cases e; simp at h
  · rfl
theorem is_web (n : Nat) {x : D} (hx : nd4 x = true) : Ph (n + 3) 8 [x] = some (.bool (isWebD x)) := by
  show evF (Ph (n + 2)) fd8 [x] = _
  rw [← o1_eq, ef_of rfl]
  cases x with
  | tuple ts =>
    simp only [nd4, List.all_eq_true] at hx
    by_cases hl : ts.length = 2
    · obtain ⟨a, b, rfl⟩ := len2 hl
      have ha := hx a (by simp)
      have hb := hx b (by simp)
      have e2 : opEq (.int ((2 : Nat) : Int)) (.int 2) = some true := rfl
      simp only [o1_some, o1_none, o1_map, o1_if, o1_test, ev_var, ev_bv, ev_cn, ev_cb, ev_ci, ev_cs, ev_bin, ev_neg, ev_nt, ev_cmp, ev_cmp2, ev_an, ev_or, ev_tup, ev_lst, ev_call, ev_bi, ev_isi, ev_ix, ev_sl, ev_rev, ev_rgL, ev_rgT, ev_lset, ev_sset, ev_comp, ev_join, ev_split, ea_nil, ea_cons, eo_nil, ec_nil, ei_rg, ei_zip, ei_enum, nxt_nx, nxt_rt, es_set, es_setO, es_unp, es_par, es_app, es_sti, es_ifs, es_for, es_skip, es_seq, es_retv, turn_of, forB_of, bindT1, bindT2, bindEach, wipeE, getV, getB, start0, List.length_cons, List.length_nil, List.getElem?_cons_zero, List.getElem?_cons_succ, List.set_cons_zero, List.set_cons_succ, List.cons_append, List.nil_append, List.replicate_succ, List.replicate_zero, if_true, if_false, reduceIte, Nat.reduceAdd, Nat.reduceSub, Nat.reduceLeDiff, Bool.false_eq_true, Bool.true_eq_false, Bool.not_true, Bool.not_false, reduceCtorEq, Nat.zero_add, true_and, and_true, ei_var, ei_bv, ei_ix, ei_call, ei_bi, ei_tup, ei_lst, ei_comp, ei_rev, ei_bin, ei_rgL, ei_rgT, ei_sset, ei_sl, ei_split, ec_cmp, ec_cmp2, ec_an, ec_or, ec_nt, ec_call, ec_isi, ec_bv, ec_var, ec_bi, ec_cb, eo_ci, eo_bv, eo_var, eo_neg, eo_bin, eo_bi, eo_ix, eo_call, er_bv, er_ix, er_call, er_bi, er_tup, er_lst, er_comp, er_rev, er_bin, er_rgL, er_rgT, er_sset, er_lset, er_sl, er_split, er_join, er_cmp, er_cmp2, er_an, er_or, er_nt, er_isi, er_ci, er_cb, er_cn, er_cs, er_neg, valS_val, valS_own, retD_rt, retD_nx, boolD_b, intD_i, listD_l, tupD_t, ownS_o, items_l, items_t, isi_b, isi_i, isi_n, isi_ii, isi_tt, len_l, len_t, tu_l, tu_t, li_l, li_t, int_b, add_i, add_l, add_t, sub_i, opI_i, rev_l, rev_t, sl_l, sl_t, zip_t, zip_l, zip_tl, sq2_t, sq2_l, bi_len, bi_min, bi_max, bi_sum, bi_all, bi_any, bi_int, bi_str, bi_tuple, bi_list, bi_sorted, opB_add, opB_sub, opB_mul, opB_div, opB_mod, opC_eq, opC_ne, opC_lt, opC_le, opC_gt, opC_ge, opC_is, opC_isn, opC_isb, opC_isnb, opC_in, opC_nin, isN_n, isN_i, fd8, e2, ix2_0, ix2_1, isnum (n + 1) (nd3_nd ha), isWebD]
      cases h1 : isNum 1 7 a with
      | false => simp only [o1_some, o1_none, o1_map, o1_if, o1_test, ev_var, ev_bv, ev_cn, ev_cb, ev_ci, ev_cs, ev_bin, ev_neg, ev_nt, ev_cmp, ev_cmp2, ev_an, ev_or, ev_tup, ev_lst, ev_call, ev_bi, ev_isi, ev_ix, ev_sl, ev_rev, ev_rgL, ev_rgT, ev_lset, ev_sset, ev_comp, ev_join, ev_split, ea_nil, ea_cons, eo_nil, ec_nil, ei_rg, ei_zip, ei_enum, nxt_nx, nxt_rt, es_set, es_setO, es_unp, es_par, es_app, es_sti, es_ifs, es_for, es_skip, es_seq, es_retv, turn_of, forB_of, bindT1, bindT2, bindEach, wipeE, getV, getB, start0, List.length_cons, List.length_nil, List.getElem?_cons_zero, List.getElem?_cons_succ, List.set_cons_zero, List.set_cons_succ, List.cons_append, List.nil_append, List.replicate_succ, List.replicate_zero, if_true, if_false, reduceIte, Nat.reduceAdd, Nat.reduceSub, Nat.reduceLeDiff, Bool.false_eq_true, Bool.true_eq_false, Bool.not_true, Bool.not_false, reduceCtorEq, Nat.zero_add, true_and, and_true, ei_var, ei_bv, ei_ix, ei_call, ei_bi, ei_tup, ei_lst, ei_comp, ei_rev, ei_bin, ei_rgL, ei_rgT, ei_sset, ei_sl, ei_split, ec_cmp, ec_cmp2, ec_an, ec_or, ec_nt, ec_call, ec_isi, ec_bv, ec_var, ec_bi, ec_cb, eo_ci, eo_bv, eo_var, eo_neg, eo_bin, eo_bi, eo_ix, eo_call, er_bv, er_ix, er_call, er_bi, er_tup, er_lst, er_comp, er_rev, er_bin, er_rgL, er_rgT, er_sset, er_lset, er_sl, er_split, er_join, er_cmp, er_cmp2, er_an, er_or, er_nt, er_isi, er_ci, er_cb, er_cn, er_cs, er_neg, valS_val, valS_own, retD_rt, retD_nx, boolD_b, intD_i, listD_l, tupD_t, ownS_o, items_l, items_t, isi_b, isi_i, isi_n, isi_ii, isi_tt, len_l, len_t, tu_l, tu_t, li_l, li_t, int_b, add_i, add_l, add_t, sub_i, opI_i, rev_l, rev_t, sl_l, sl_t, zip_t, zip_l, zip_tl, sq2_t, sq2_l, bi_len, bi_min, bi_max, bi_sum, bi_all, bi_any, bi_int, bi_str, bi_tuple, bi_list, bi_sorted, opB_add, opB_sub, opB_mul, opB_div, opB_mod, opC_eq, opC_ne, opC_lt, opC_le, opC_gt, opC_ge, opC_is, opC_isn, opC_isb, opC_isnb, opC_in, opC_nin, isN_n, isN_i, Bool.false_and]
      | true =>
        obtain ⟨m, rfl, _⟩ := isNum_some h1
        cases b with
        | tuple ts =>
          simp only [nd3, List.all_eq_true] at hb
          simp only [o1_some, o1_none, o1_map, o1_if, o1_test, ev_var, ev_bv, ev_cn, ev_cb, ev_ci, ev_cs, ev_bin, ev_neg, ev_nt, ev_cmp, ev_cmp2, ev_an, ev_or, ev_tup, ev_lst, ev_call, ev_bi, ev_isi, ev_ix, ev_sl, ev_rev, ev_rgL, ev_rgT, ev_lset, ev_sset, ev_comp, ev_join, ev_split, ea_nil, ea_cons, eo_nil, ec_nil, ei_rg, ei_zip, ei_enum, nxt_nx, nxt_rt, es_set, es_setO, es_unp, es_par, es_app, es_sti, es_ifs, es_for, es_skip, es_seq, es_retv, turn_of, forB_of, bindT1, bindT2, bindEach, wipeE, getV, getB, start0, List.length_cons, List.length_nil, List.getElem?_cons_zero, List.getElem?_cons_succ, List.set_cons_zero, List.set_cons_succ, List.cons_append, List.nil_append, List.replicate_succ, List.replicate_zero, if_true, if_false, reduceIte, Nat.reduceAdd, Nat.reduceSub, Nat.reduceLeDiff, Bool.false_eq_true, Bool.true_eq_false, Bool.not_true, Bool.not_false, reduceCtorEq, Nat.zero_add, true_and, and_true, ei_var, ei_bv, ei_ix, ei_call, ei_bi, ei_tup, ei_lst, ei_comp, ei_rev, ei_bin, ei_rgL, ei_rgT, ei_sset, ei_sl, ei_split, ec_cmp, ec_cmp2, ec_an, ec_or, ec_nt, ec_call, ec_isi, ec_bv, ec_var, ec_bi, ec_cb, eo_ci, eo_bv, eo_var, eo_neg, eo_bin, eo_bi, eo_ix, eo_call, er_bv, er_ix, er_call, er_bi, er_tup, er_lst, er_comp, er_rev, er_bin, er_rgL, er_rgT, er_sset, er_lset, er_sl, er_split, er_join, er_cmp, er_cmp2, er_an, er_or, er_nt, er_isi, er_ci, er_cb, er_cn, er_cs, er_neg, valS_val, valS_own, retD_rt, retD_nx, boolD_b, intD_i, listD_l, tupD_t, ownS_o, items_l, items_t, isi_b, isi_i, isi_n, isi_ii, isi_tt, len_l, len_t, tu_l, tu_t, li_l, li_t, int_b, add_i, add_l, add_t, sub_i, opI_i, rev_l, rev_t, sl_l, sl_t, zip_t, zip_l, zip_tl, sq2_t, sq2_l, bi_len, bi_min, bi_max, bi_sum, bi_all, bi_any, bi_int, bi_str, bi_tuple, bi_list, bi_sorted, opB_add, opB_sub, opB_mul, opB_div, opB_mod, opC_eq, opC_ne, opC_lt, opC_le, opC_gt, opC_ge, opC_is, opC_isn, opC_isb, opC_isnb, opC_in, opC_nin, isN_n, isN_i, Bool.true_and]
          by_cases h10 : ts.length ≤ 10
          · simp only [show ¬ (10 : Int) < (ts.length : Int) by omega, h10, decide_true, decide_false, o1_some, o1_none, o1_map, o1_if, o1_test, ev_var, ev_bv, ev_cn, ev_cb, ev_ci, ev_cs, ev_bin, ev_neg, ev_nt, ev_cmp, ev_cmp2, ev_an, ev_or, ev_tup, ev_lst, ev_call, ev_bi, ev_isi, ev_ix, ev_sl, ev_rev, ev_rgL, ev_rgT, ev_lset, ev_sset, ev_comp, ev_join, ev_split, ea_nil, ea_cons, eo_nil, ec_nil, ei_rg, ei_zip, ei_enum, nxt_nx, nxt_rt, es_set, es_setO, es_unp, es_par, es_app, es_sti, es_ifs, es_for, es_skip, es_seq, es_retv, turn_of, forB_of, bindT1, bindT2, bindEach, wipeE, getV, getB, start0, List.length_cons, List.length_nil, List.getElem?_cons_zero, List.getElem?_cons_succ, List.set_cons_zero, List.set_cons_succ, List.cons_append, List.nil_append, List.replicate_succ, List.replicate_zero, if_true, if_false, reduceIte, Nat.reduceAdd, Nat.reduceSub, Nat.reduceLeDiff, Bool.false_eq_true, Bool.true_eq_false, Bool.not_true, Bool.not_false, reduceCtorEq, Nat.zero_add, true_and, and_true, ei_var, ei_bv, ei_ix, ei_call, ei_bi, ei_tup, ei_lst, ei_comp, ei_rev, ei_bin, ei_rgL, ei_rgT, ei_sset, ei_sl, ei_split, ec_cmp, ec_cmp2, ec_an, ec_or, ec_nt, ec_call, ec_isi, ec_bv, ec_var, ec_bi, ec_cb, eo_ci, eo_bv, eo_var, eo_neg, eo_bin, eo_bi, eo_ix, eo_call, er_bv, er_ix, er_call, er_bi, er_tup, er_lst, er_comp, er_rev, er_bin, er_rgL, er_rgT, er_sset, er_lset, er_sl, er_split, er_join, er_cmp, er_cmp2, er_an, er_or, er_nt, er_isi, er_ci, er_cb, er_cn, er_cs, er_neg, valS_val, valS_own, retD_rt, retD_nx, boolD_b, intD_i, listD_l, tupD_t, ownS_o, items_l, items_t, isi_b, isi_i, isi_n, isi_ii, isi_tt, len_l, len_t, tu_l, tu_t, li_l, li_t, int_b, add_i, add_l, add_t, sub_i, opI_i, rev_l, rev_t, sl_l, sl_t, zip_t, zip_l, zip_tl, sq2_t, sq2_l, bi_len, bi_min, bi_max, bi_sum, bi_all, bi_any, bi_int, bi_str, bi_tuple, bi_list, bi_sorted, opB_add, opB_sub, opB_mul, opB_div, opB_mod, opC_eq, opC_ne, opC_lt, opC_le, opC_gt, opC_ge, opC_is, opC_isn, opC_isb, opC_isnb, opC_in, opC_nin, isN_n, isN_i, Bool.true_and]
            refine ⟨by omega, comp_plain (e' := PyData.bool) (fun d => isTie m d) (fun d hd => ?_) ?_⟩
            · simp only [o1_some, o1_none, o1_map, o1_if, o1_test, ev_var, ev_bv, ev_cn, ev_cb, ev_ci, ev_cs, ev_bin, ev_neg, ev_nt, ev_cmp, ev_cmp2, ev_an, ev_or, ev_tup, ev_lst, ev_call, ev_bi, ev_isi, ev_ix, ev_sl, ev_rev, ev_rgL, ev_rgT, ev_lset, ev_sset, ev_comp, ev_join, ev_split, ea_nil, ea_cons, eo_nil, ec_nil, ei_rg, ei_zip, ei_enum, nxt_nx, nxt_rt, es_set, es_setO, es_unp, es_par, es_app, es_sti, es_ifs, es_for, es_skip, es_seq, es_retv, turn_of, forB_of, bindT1, bindT2, bindEach, wipeE, getV, getB, start0, List.length_cons, List.length_nil, List.getElem?_cons_zero, List.getElem?_cons_succ, List.set_cons_zero, List.set_cons_succ, List.cons_append, List.nil_append, List.replicate_succ, List.replicate_zero, if_true, if_false, reduceIte, Nat.reduceAdd, Nat.reduceSub, Nat.reduceLeDiff, Bool.false_eq_true, Bool.true_eq_false, Bool.not_true, Bool.not_false, reduceCtorEq, Nat.zero_add, true_and, and_true, ei_var, ei_bv, ei_ix, ei_call, ei_bi, ei_tup, ei_lst, ei_comp, ei_rev, ei_bin, ei_rgL, ei_rgT, ei_sset, ei_sl, ei_split, ec_cmp, ec_cmp2, ec_an, ec_or, ec_nt, ec_call, ec_isi, ec_bv, ec_var, ec_bi, ec_cb, eo_ci, eo_bv, eo_var, eo_neg, eo_bin, eo_bi, eo_ix, eo_call, er_bv, er_ix, er_call, er_bi, er_tup, er_lst, er_comp, er_rev, er_bin, er_rgL, er_rgT, er_sset, er_lset, er_sl, er_split, er_join, er_cmp, er_cmp2, er_an, er_or, er_nt, er_isi, er_ci, er_cb, er_cn, er_cs, er_neg, valS_val, valS_own, retD_rt, retD_nx, boolD_b, intD_i, listD_l, tupD_t, ownS_o, items_l, items_t, isi_b, isi_i, isi_n, isi_ii, isi_tt, len_l, len_t, tu_l, tu_t, li_l, li_t, int_b, add_i, add_l, add_t, sub_i, opI_i, rev_l, rev_t, sl_l, sl_t, zip_t, zip_l, zip_tl, sq2_t, sq2_l, bi_len, bi_min, bi_max, bi_sum, bi_all, bi_any, bi_int, bi_str, bi_tuple, bi_list, bi_sorted, opB_add, opB_sub, opB_mul, opB_div, opB_mod, opC_eq, opC_ne, opC_lt, opC_le, opC_gt, opC_ge, opC_is, opC_isn, opC_isb, opC_isnb, opC_in, opC_nin, isN_n, isN_i, ix2_0, is_tie n (hb d hd)]
            · simp only [o1_some, o1_none, o1_map, o1_if, o1_test, ev_var, ev_bv, ev_cn, ev_cb, ev_ci, ev_cs, ev_bin, ev_neg, ev_nt, ev_cmp, ev_cmp2, ev_an, ev_or, ev_tup, ev_lst, ev_call, ev_bi, ev_isi, ev_ix, ev_sl, ev_rev, ev_rgL, ev_rgT, ev_lset, ev_sset, ev_comp, ev_join, ev_split, ea_nil, ea_cons, eo_nil, ec_nil, ei_rg, ei_zip, ei_enum, nxt_nx, nxt_rt, es_set, es_setO, es_unp, es_par, es_app, es_sti, es_ifs, es_for, es_skip, es_seq, es_retv, turn_of, forB_of, bindT1, bindT2, bindEach, wipeE, getV, getB, start0, List.length_cons, List.length_nil, List.getElem?_cons_zero, List.getElem?_cons_succ, List.set_cons_zero, List.set_cons_succ, List.cons_append, List.nil_append, List.replicate_succ, List.replicate_zero, if_true, if_false, reduceIte, Nat.reduceAdd, Nat.reduceSub, Nat.reduceLeDiff, Bool.false_eq_true, Bool.true_eq_false, Bool.not_true, Bool.not_false, reduceCtorEq, Nat.zero_add, true_and, and_true, ei_var, ei_bv, ei_ix, ei_call, ei_bi, ei_tup, ei_lst, ei_comp, ei_rev, ei_bin, ei_rgL, ei_rgT, ei_sset, ei_sl, ei_split, ec_cmp, ec_cmp2, ec_an, ec_or, ec_nt, ec_call, ec_isi, ec_bv, ec_var, ec_bi, ec_cb, eo_ci, eo_bv, eo_var, eo_neg, eo_bin, eo_bi, eo_ix, eo_call, er_bv, er_ix, er_call, er_bi, er_tup, er_lst, er_comp, er_rev, er_bin, er_rgL, er_rgT, er_sset, er_lset, er_sl, er_split, er_join, er_cmp, er_cmp2, er_an, er_or, er_nt, er_isi, er_ci, er_cb, er_cn, er_cs, er_neg, valS_val, valS_own, retD_rt, retD_nx, boolD_b, intD_i, listD_l, tupD_t, ownS_o, items_l, items_t, isi_b, isi_i, isi_n, isi_ii, isi_tt, len_l, len_t, tu_l, tu_t, li_l, li_t, int_b, add_i, add_l, add_t, sub_i, opI_i, rev_l, rev_t, sl_l, sl_t, zip_t, zip_l, zip_tl, sq2_t, sq2_l, bi_len, bi_min, bi_max, bi_sum, bi_all, bi_any, bi_int, bi_str, bi_tuple, bi_list, bi_sorted, opB_add, opB_sub, opB_mul, opB_div, opB_mod, opC_eq, opC_ne, opC_lt, opC_le, opC_gt, opC_ge, opC_is, opC_isn, opC_isb, opC_isnb, opC_in, opC_nin, isN_n, isN_i, all_b, List.all_map]
              congr 1
          · simp only [show (10 : Int) < (ts.length : Int) by omega, h10, decide_true, decide_false, o1_some, o1_none, o1_map, o1_if, o1_test, ev_var, ev_bv, ev_cn, ev_cb, ev_ci, ev_cs, ev_bin, ev_neg, ev_nt, ev_cmp, ev_cmp2, ev_an, ev_or, ev_tup, ev_lst, ev_call, ev_bi, ev_isi, ev_ix, ev_sl, ev_rev, ev_rgL, ev_rgT, ev_lset, ev_sset, ev_comp, ev_join, ev_split, ea_nil, ea_cons, eo_nil, ec_nil, ei_rg, ei_zip, ei_enum, nxt_nx, nxt_rt, es_set, es_setO, es_unp, es_par, es_app, es_sti, es_ifs, es_for, es_skip, es_seq, es_retv, turn_of, forB_of, bindT1, bindT2, bindEach, wipeE, getV, getB, start0, List.length_cons, List.length_nil, List.getElem?_cons_zero, List.getElem?_cons_succ, List.set_cons_zero, List.set_cons_succ, List.cons_append, List.nil_append, List.replicate_succ, List.replicate_zero, if_true, if_false, reduceIte, Nat.reduceAdd, Nat.reduceSub, Nat.reduceLeDiff, Bool.false_eq_true, Bool.true_eq_false, Bool.not_true, Bool.not_false, reduceCtorEq, Nat.zero_add, true_and, and_true, ei_var, ei_bv, ei_ix, ei_call, ei_bi, ei_tup, ei_lst, ei_comp, ei_rev, ei_bin, ei_rgL, ei_rgT, ei_sset, ei_sl, ei_split, ec_cmp, ec_cmp2, ec_an, ec_or, ec_nt, ec_call, ec_isi, ec_bv, ec_var, ec_bi, ec_cb, eo_ci, eo_bv, eo_var, eo_neg, eo_bin, eo_bi, eo_ix, eo_call, er_bv, er_ix, er_call, er_bi, er_tup, er_lst, er_comp, er_rev, er_bin, er_rgL, er_rgT, er_sset, er_lset, er_sl, er_split, er_join, er_cmp, er_cmp2, er_an, er_or, er_nt, er_isi, er_ci, er_cb, er_cn, er_cs, er_neg, valS_val, valS_own, retD_rt, retD_nx, boolD_b, intD_i, listD_l, tupD_t, ownS_o, items_l, items_t, isi_b, isi_i, isi_n, isi_ii, isi_tt, len_l, len_t, tu_l, tu_t, li_l, li_t, int_b, add_i, add_l, add_t, sub_i, opI_i, rev_l, rev_t, sl_l, sl_t, zip_t, zip_l, zip_tl, sq2_t, sq2_l, bi_len, bi_min, bi_max, bi_sum, bi_all, bi_any, bi_int, bi_str, bi_tuple, bi_list, bi_sorted, opB_add, opB_sub, opB_mul, opB_div, opB_mod, opC_eq, opC_ne, opC_lt, opC_le, opC_gt, opC_ge, opC_is, opC_isn, opC_isb, opC_isnb, opC_in, opC_nin, isN_n, isN_i, Bool.false_and]
        | dict _ => simp [nd3] at hb
        | _ => simp only [o1_some, o1_none, o1_map, o1_if, o1_test, ev_var, ev_bv, ev_cn, ev_cb, ev_ci, ev_cs, ev_bin, ev_neg, ev_nt, ev_cmp, ev_cmp2, ev_an, ev_or, ev_tup, ev_lst, ev_call, ev_bi, ev_isi, ev_ix, ev_sl, ev_rev, ev_rgL, ev_rgT, ev_lset, ev_sset, ev_comp, ev_join, ev_split, ea_nil, ea_cons, eo_nil, ec_nil, ei_rg, ei_zip, ei_enum, nxt_nx, nxt_rt, es_set, es_setO, es_unp, es_par, es_app, es_sti, es_ifs, es_for, es_skip, es_seq, es_retv, turn_of, forB_of, bindT1, bindT2, bindEach, wipeE, getV, getB, start0, List.length_cons, List.length_nil, List.getElem?_cons_zero, List.getElem?_cons_succ, List.set_cons_zero, List.set_cons_succ, List.cons_append, List.nil_append, List.replicate_succ, List.replicate_zero, if_true, if_false, reduceIte, Nat.reduceAdd, Nat.reduceSub, Nat.reduceLeDiff, Bool.false_eq_true, Bool.true_eq_false, Bool.not_true, Bool.not_false, reduceCtorEq, Nat.zero_add, true_and, and_true, ei_var, ei_bv, ei_ix, ei_call, ei_bi, ei_tup, ei_lst, ei_comp, ei_rev, ei_bin, ei_rgL, ei_rgT, ei_sset, ei_sl, ei_split, ec_cmp, ec_cmp2, ec_an, ec_or, ec_nt, ec_call, ec_isi, ec_bv, ec_var, ec_bi, ec_cb, eo_ci, eo_bv, eo_var, eo_neg, eo_bin, eo_bi, eo_ix, eo_call, er_bv, er_ix, er_call, er_bi, er_tup, er_lst, er_comp, er_rev, er_bin, er_rgL, er_rgT, er_sset, er_lset, er_sl, er_split, er_join, er_cmp, er_cmp2, er_an, er_or, er_nt, er_isi, er_ci, er_cb, er_cn, er_cs, er_neg, valS_val, valS_own, retD_rt, retD_nx, boolD_b, intD_i, listD_l, tupD_t, ownS_o, items_l, items_t, isi_b, isi_i, isi_n, isi_ii, isi_tt, len_l, len_t, tu_l, tu_t, li_l, li_t, int_b, add_i, add_l, add_t, sub_i, opI_i, rev_l, rev_t, sl_l, sl_t, zip_t, zip_l, zip_tl, sq2_t, sq2_l, bi_len, bi_min, bi_max, bi_sum, bi_all, bi_any, bi_int, bi_str, bi_tuple, bi_list, bi_sorted, opB_add, opB_sub, opB_mul, opB_div, opB_mod, opC_eq, opC_ne, opC_lt, opC_le, opC_gt, opC_ge, opC_is, opC_isn, opC_isb, opC_isnb, opC_in, opC_nin, isN_n, isN_i, evIsi, Bool.and_false]
    · have e : opEq (.int (ts.length : Int)) (.int 2) = some false := by rw [opEq_ii]; exact congrArg some (decide_eq_false (by omega))
      simp only [o1_some, o1_none, o1_map, o1_if, o1_test, ev_var, ev_bv, ev_cn, ev_cb, ev_ci, ev_cs, ev_bin, ev_neg, ev_nt, ev_cmp, ev_cmp2, ev_an, ev_or, ev_tup, ev_lst, ev_call, ev_bi, ev_isi, ev_ix, ev_sl, ev_rev, ev_rgL, ev_rgT, ev_lset, ev_sset, ev_comp, ev_join, ev_split, ea_nil, ea_cons, eo_nil, ec_nil, ei_rg, ei_zip, ei_enum, nxt_nx, nxt_rt, es_set, es_setO, es_unp, es_par, es_app, es_sti, es_ifs, es_for, es_skip, es_seq, es_retv, turn_of, forB_of, bindT1, bindT2, bindEach, wipeE, getV, getB, start0, List.length_cons, List.length_nil, List.getElem?_cons_zero, List.getElem?_cons_succ, List.set_cons_zero, List.set_cons_succ, List.cons_append, List.nil_append, List.replicate_succ, List.replicate_zero, if_true, if_false, reduceIte, Nat.reduceAdd, Nat.reduceSub, Nat.reduceLeDiff, Bool.false_eq_true, Bool.true_eq_false, Bool.not_true, Bool.not_false, reduceCtorEq, Nat.zero_add, true_and, and_true, ei_var, ei_bv, ei_ix, ei_call, ei_bi, ei_tup, ei_lst, ei_comp, ei_rev, ei_bin, ei_rgL, ei_rgT, ei_sset, ei_sl, ei_split, ec_cmp, ec_cmp2, ec_an, ec_or, ec_nt, ec_call, ec_isi, ec_bv, ec_var, ec_bi, ec_cb, eo_ci, eo_bv, eo_var, eo_neg, eo_bin, eo_bi, eo_ix, eo_call, er_bv, er_ix, er_call, er_bi, er_tup, er_lst, er_comp, er_rev, er_bin, er_rgL, er_rgT, er_sset, er_lset, er_sl, er_split, er_join, er_cmp, er_cmp2, er_an, er_or, er_nt, er_isi, er_ci, er_cb, er_cn, er_cs, er_neg, valS_val, valS_own, retD_rt, retD_nx, boolD_b, intD_i, listD_l, tupD_t, ownS_o, items_l, items_t, isi_b, isi_i, isi_n, isi_ii, isi_tt, len_l, len_t, tu_l, tu_t, li_l, li_t, int_b, add_i, add_l, add_t, sub_i, opI_i, rev_l, rev_t, sl_l, sl_t, zip_t, zip_l, zip_tl, sq2_t, sq2_l, bi_len, bi_min, bi_max, bi_sum, bi_all, bi_any, bi_int, bi_str, bi_tuple, bi_list, bi_sorted, opB_add, opB_sub, opB_mul, opB_div, opB_mod, opC_eq, opC_ne, opC_lt, opC_le, opC_gt, opC_ge, opC_is, opC_isn, opC_isb, opC_isnb, opC_in, opC_nin, isN_n, isN_i, fd8, e, isWeb_len hl]
  | dict _ => simp [nd4] at hx
  | _ => simp only [o1_some, o1_none, o1_map, o1_if, o1_test, ev_var, ev_bv, ev_cn, ev_cb, ev_ci, ev_cs, ev_bin, ev_neg, ev_nt, ev_cmp, ev_cmp2, ev_an, ev_or, ev_tup, ev_lst, ev_call, ev_bi, ev_isi, ev_ix, ev_sl, ev_rev, ev_rgL, ev_rgT, ev_lset, ev_sset, ev_comp, ev_join, ev_split, ea_nil, ea_cons, eo_nil, ec_nil, ei_rg, ei_zip, ei_enum, nxt_nx, nxt_rt, es_set, es_setO, es_unp, es_par, es_app, es_sti, es_ifs, es_for, es_skip, es_seq, es_retv, turn_of, forB_of, bindT1, bindT2, bindEach, wipeE, getV, getB, start0, List.length_cons, List.length_nil, List.getElem?_cons_zero, List.getElem?_cons_succ, List.set_cons_zero, List.set_cons_succ, List.cons_append, List.nil_append, List.replicate_succ, List.replicate_zero, if_true, if_false, reduceIte, Nat.reduceAdd, Nat.reduceSub, Nat.reduceLeDiff, Bool.false_eq_true, Bool.true_eq_false, Bool.not_true, Bool.not_false, reduceCtorEq, Nat.zero_add, true_and, and_true, ei_var, ei_bv, ei_ix, ei_call, ei_bi, ei_tup, ei_lst, ei_comp, ei_rev, ei_bin, ei_rgL, ei_rgT, ei_sset, ei_sl, ei_split, ec_cmp, ec_cmp2, ec_an, ec_or, ec_nt, ec_call, ec_isi, ec_bv, ec_var, ec_bi, ec_cb, eo_ci, eo_bv, eo_var, eo_neg, eo_bin, eo_bi, eo_ix, eo_call, er_bv, er_ix, er_call, er_bi, er_tup, er_lst, er_comp, er_rev, er_bin, er_rgL, er_rgT, er_sset, er_lset, er_sl, er_split, er_join, er_cmp, er_cmp2, er_an, er_or, er_nt, er_isi, er_ci, er_cb, er_cn, er_cs, er_neg, valS_val, valS_own, retD_rt, retD_nx, boolD_b, intD_i, listD_l, tupD_t, ownS_o, items_l, items_t, isi_b, isi_i, isi_n, isi_ii, isi_tt, len_l, len_t, tu_l, tu_t, li_l, li_t, int_b, add_i, add_l, add_t, sub_i, opI_i, rev_l, rev_t, sl_l, sl_t, zip_t, zip_l, zip_tl, sq2_t, sq2_l, bi_len, bi_min, bi_max, bi_sum, bi_all, bi_any, bi_int, bi_str, bi_tuple, bi_list, bi_sorted, opB_add, opB_sub, opB_mul, opB_div, opB_mod, opC_eq, opC_ne, opC_lt, opC_le, opC_gt, opC_ge, opC_is, opC_isn, opC_isb, opC_isnb, opC_in, opC_nin, isN_n, isN_i, fd8, evIsi, isWebD]
end J

/-! Texts cut and read. -/
namespace J
open PySem
/-! ### cut and joined -/
theorem str_ext {a b : Str} (h : a.cps.toList = b.cps.toList) : a = b := by
  cases a; cases b
  congr 1
  exact Array.toList_inj.mp h
theorem app_cps (a b : Str) : (a ++ b).cps.toList = a.cps.toList ++ b.cps.toList := by
  cases a; cases b
  show (_ ++ _ : Array Nat).toList = _
  simp
/-- the signs of joined texts -/
def joinL (c : Nat) : List (List Nat) → List Nat
  | [] => []
  | [x] => x
  | x :: y :: r => x ++ c :: joinL c (y :: r)
theorem join_cps (c : Nat) : ∀ ws : List Str, (Str.join ⟨#[c]⟩ ws).cps.toList = joinL c (ws.map fun w => w.cps.toList)
  | [] => rfl
  | [x] => rfl
  | x :: y :: r => by
    have ih := join_cps c (y :: r)
    show (x ++ ⟨#[c]⟩ ++ Str.join ⟨#[c]⟩ (y :: r)).cps.toList = _
    rw [app_cps, app_cps, ih]
    simp [joinL]
theorem joinL_inj (c : Nat) : ∀ (xs ys : List (List Nat)), xs ≠ [] → ys ≠ [] → (∀ x ∈ xs, c ∉ x) → (∀ y ∈ ys, c ∉ y) → joinL c xs = joinL c ys → xs = ys := by
  have cut : ∀ (a b p q : List Nat), c ∉ a → c ∉ b → a ++ c :: p = b ++ c :: q → a = b ∧ p = q := by
    intro a
    induction a with
    | nil =>
      intro b p q _ hb h
      cases b with
      | nil => simp at h; exact ⟨rfl, h⟩
      | cons z b =>
        simp at h
        exact absurd (by rw [h.1]; simp) hb
    | cons z a ih =>
      intro b p q ha hb h
      cases b with
      | nil =>
        simp at h
        exact absurd (by rw [h.1]; simp) ha
      | cons z' b =>
        simp only [List.cons_append, List.cons.injEq] at h
        obtain ⟨e1, e2⟩ := ih b p q (fun z => ha (List.mem_cons_of_mem _ z)) (fun z => hb (List.mem_cons_of_mem _ z)) h.2
        exact ⟨by rw [h.1, e1], e2⟩
  have no : ∀ (a b p : List Nat), c ∉ a → a ≠ b ++ c :: p := fun a b p ha h => ha (by rw [h]; simp)
  intro xs
  induction xs with
  | nil => intro ys h; exact absurd rfl h
  | cons x xs ih =>
    intro ys _ hy hx hyy h
    cases ys with
    | nil => exact absurd rfl hy
    | cons y ys =>
      have hx0 := hx x List.mem_cons_self
      have hy0 := hyy y List.mem_cons_self
      cases xs with
      | nil =>
        cases ys with
        | nil => simp only [joinL] at h; rw [h]
        | cons y2 ys => simp only [joinL] at h; exact absurd h (no _ _ _ hx0)
      | cons x2 xs =>
        cases ys with
        | nil => simp only [joinL] at h; exact absurd h.symm (no _ _ _ hy0)
        | cons y2 ys =>
          simp only [joinL] at h
          obtain ⟨e1, e2⟩ := cut _ _ _ _ hx0 hy0 h
          rw [e1, ih (y2 :: ys) (by simp) (by simp) (fun z hz => hx z (List.mem_cons_of_mem _ hz)) (fun z hz => hyy z (List.mem_cons_of_mem _ hz)) e2]
theorem map_inj {α β : Type} {f : α → β} (hf : ∀ a b, f a = f b → a = b) : ∀ {l l' : List α}, l.map f = l'.map f → l = l'
  | [], [], _ => rfl
  | [], _ :: _, h => by simp at h
  | _ :: _, [], h => by simp at h
  | a :: l, b :: l', h => by
    simp only [List.map_cons, List.cons.injEq] at h
    rw [hf a b h.1, map_inj hf h.2]
abbrev ch (c : Nat) : Str := ⟨#[c]⟩
theorem split_join {c : Nat} {ws : List Str} (h0 : ws ≠ []) (h : ∀ w ∈ ws, c ∉ w.cps.toList) : Txt.split (Str.join (ch c) ws) (ch c) = ws := by
  have e1 := StrLaws.join_split (Str.join (ch c) ws) (ch c)
  have e2 := StrLaws.split_free (Str.join (ch c) ws) c
  have e3 : Txt.split (Str.join (ch c) ws) (ch c) ≠ [] := fun z => by
    have := PyProof.Rows.split_pos (Str.join (ch c) ws) (ch c)
    rw [z] at this
    simp at this
  have e4 := congrArg (fun s : Str => s.cps.toList) e1
  rw [join_cps, join_cps] at e4
  have := joinL_inj c _ _ (by simpa using e3) (by simpa using h0) (fun x hx => by
    obtain ⟨w, hw, rfl⟩ := List.mem_map.mp hx
    exact e2 w hw) (fun x hx => by
    obtain ⟨w, hw, rfl⟩ := List.mem_map.mp hx
    exact h w hw) e4
  exact map_inj (fun a b hab => str_ext hab) this
theorem s_sp : Str.ofString " " = ch 32 := by decide +kernel
theorem s_eq : Str.ofString "=" = ch 61 := by decide +kernel
theorem s_mi : Str.ofString "-" = ch 45 := by decide +kernel
theorem s_co : Str.ofString ":" = ch 58 := by decide +kernel
theorem sum_len {x : Str} {c : Nat} : ((Txt.split x (ch c)).map (·.length)).sum + (Txt.split x (ch c)).length ≤ x.length + 1 := PyProof.Rows.split_weight x (ch c) (Nat.le_refl 1)
theorem cutp_len {x w : Str} {c : Nat} (h : w ∈ Txt.split x (ch c)) : w.length ≤ x.length := PyProof.Rows.part_short h
theorem split_ev {x : Str} {c : Nat} (h : x.length ≤ 100000) : opSplit (.str x) (.str (ch c)) = some (.list ((Txt.split x (ch c)).map .str)) := by
  simp only [opSplit]
  rw [if_pos ⟨rfl, h⟩]
/-! ### numbers -/
def figB (c : Nat) : Bool := decide (c ∈ (Str.ofString "0123456789").cps.toList)
def numB (x : Str) : Bool := decide (1 ≤ x.length) && (decide (x.length ≤ 2) && x.cps.toList.all figB)
def numP (x : Str) : Option Nat := if numB x = true then (PySem.intText? x).map Int.toNat else none
theorem figs : ∀ c : Nat, figB c = true → 48 ≤ c ∧ c < 58 := by
  have e : (Str.ofString "0123456789").cps.toList = [48, 49, 50, 51, 52, 53, 54, 55, 56, 57] := by decide +kernel
  intro c h
  unfold figB at h
  rw [e] at h
  simp at h
  omega
theorem int1 : ∀ a, a < 10 → PySem.intText? ⟨#[48 + a]⟩ = some (a : Int) := by decide +kernel
theorem int2 : ∀ a, a < 10 → ∀ b, b < 10 → PySem.intText? ⟨#[48 + a, 48 + b]⟩ = some ((10 * a + b : Nat) : Int) := by decide +kernel
theorem numB_some {x : Str} (h : numB x = true) : ∃ n : Nat, n < 100 ∧ PySem.intText? x = some (n : Int) ∧ numP x = some n := by
  have key : ∃ n : Nat, n < 100 ∧ PySem.intText? x = some (n : Int) := by
    simp only [numB, Bool.and_eq_true, decide_eq_true_eq, List.all_eq_true] at h
    obtain ⟨h1, h2, h3⟩ := h
    have hl : x.cps.toList.length = x.length := by simp [Str.length]
    cases hx : x.cps.toList with
    | nil => rw [hx] at hl; simp at hl; omega
    | cons a r =>
      have ha := figs a (h3 a (by rw [hx]; simp))
      cases r with
      | nil =>
        refine ⟨a - 48, by omega, ?_⟩
        have : x = ⟨#[48 + (a - 48)]⟩ := str_ext (by rw [hx]; simp; omega)
        rw [this]
        exact int1 _ (by omega)
      | cons b r =>
        have hb := figs b (h3 b (by rw [hx]; simp))
        cases r with
        | nil =>
          refine ⟨10 * (a - 48) + (b - 48), by omega, ?_⟩
          have : x = ⟨#[48 + (a - 48), 48 + (b - 48)]⟩ := str_ext (by rw [hx]; simp; omega)
          rw [this]
          exact int2 _ (by omega) _ (by omega)
        | cons d r => rw [hx] at hl; simp at hl; omega
  obtain ⟨n, h1, h2⟩ := key
  exact ⟨n, h1, h2, by unfold numP; rw [if_pos h, h2]; rfl⟩
theorem numP_none {x : Str} : numP x = none ↔ numB x = false := by
  constructor
  · intro h
    cases hb : numB x with
    | false => rfl
    | true =>
      obtain ⟨n, _, _, e⟩ := numB_some hb
      rw [e] at h
      cases h
  · intro h
    unfold numP
    rw [h]
    rfl
theorem numP_some {x : Str} {n : Nat} (h : numP x = some n) : numB x = true ∧ n < 100 := by
  cases hb : numB x with
  | false => rw [numP_none.mpr hb] at h; cases h
  | true =>
    obtain ⟨m, h1, _, e⟩ := numB_some hb
    rw [e] at h
    cases h
    exact ⟨rfl, h1⟩
theorem sN_num : ∀ n, n < 100 → numP (sN n) = some n := by decide +kernel
theorem sN_free : ∀ n, n < 100 → ∀ c ∈ (sN n).cps.toList, c ≠ 32 ∧ c ≠ 61 ∧ c ≠ 45 := by decide +kernel
end J

/-! read, evaluated. -/
namespace J
open PySem
theorem len_s {x : Str} (h : x.length ≤ 100000) : biLen [.str x] = some (.int x.length) := by
  simp only [biLen]
  rw [if_pos h]
theorem fig_ev {c : Nat} : opIn (.str (ch c)) (.str (Str.ofString "0123456789")) = some (figB c) := rfl
theorem num_x (n : Nat) {x : Str} (h : x.length ≤ 100000) : Ph (n + 1) 134 [.str x] = some (.bool (!numB x)) := by
  show evF (Ph n) fd134 [.str x] = _
  rw [← o1_eq, ef_of rfl]
  have e : charsD x = x.cps.toList.map fun c => PyData.str (ch c) := rfl
  have hl : x.cps.toList.length = x.length := by simp [Str.length]
  by_cases h1 : 1 ≤ x.length
  · have h1' : (1 : Int) ≤ (x.length : Int) := by omega
    by_cases h2 : x.length ≤ 2
    · have h2' : (x.length : Int) ≤ 2 := by omega
      simp only [o1_some, o1_none, o1_map, o1_if, o1_test, ev_var, ev_bv, ev_cn, ev_cb, ev_ci, ev_cs, ev_bin, ev_neg, ev_nt, ev_cmp, ev_cmp2, ev_an, ev_or, ev_tup, ev_lst, ev_call, ev_bi, ev_isi, ev_ix, ev_sl, ev_rev, ev_rgL, ev_rgT, ev_lset, ev_sset, ev_comp, ev_join, ev_split, ea_nil, ea_cons, eo_nil, ec_nil, ei_rg, ei_zip, ei_enum, nxt_nx, nxt_rt, es_set, es_setO, es_unp, es_par, es_app, es_sti, es_ifs, es_for, es_skip, es_seq, es_retv, turn_of, forB_of, bindT1, bindT2, bindEach, wipeE, getV, getB, start0, List.length_cons, List.length_nil, List.getElem?_cons_zero, List.getElem?_cons_succ, List.set_cons_zero, List.set_cons_succ, List.cons_append, List.nil_append, List.replicate_succ, List.replicate_zero, if_true, if_false, reduceIte, Nat.reduceAdd, Nat.reduceSub, Nat.reduceLeDiff, Bool.false_eq_true, Bool.true_eq_false, Bool.not_true, Bool.not_false, reduceCtorEq, Nat.zero_add, true_and, and_true, ei_var, ei_bv, ei_ix, ei_call, ei_bi, ei_tup, ei_lst, ei_comp, ei_rev, ei_bin, ei_rgL, ei_rgT, ei_sset, ei_sl, ei_split, ec_cmp, ec_cmp2, ec_an, ec_or, ec_nt, ec_call, ec_isi, ec_bv, ec_var, ec_bi, ec_cb, eo_ci, eo_bv, eo_var, eo_neg, eo_bin, eo_bi, eo_ix, eo_call, er_bv, er_ix, er_call, er_bi, er_tup, er_lst, er_comp, er_rev, er_bin, er_rgL, er_rgT, er_sset, er_lset, er_sl, er_split, er_join, er_cmp, er_cmp2, er_an, er_or, er_nt, er_isi, er_ci, er_cb, er_cn, er_cs, er_neg, valS_val, valS_own, retD_rt, retD_nx, boolD_b, intD_i, listD_l, tupD_t, ownS_o, items_l, items_t, isi_b, isi_i, isi_n, isi_ii, isi_tt, len_l, len_t, tu_l, tu_t, li_l, li_t, int_b, add_i, add_l, add_t, sub_i, opI_i, rev_l, rev_t, sl_l, sl_t, zip_t, zip_l, zip_tl, sq2_t, sq2_l, bi_len, bi_min, bi_max, bi_sum, bi_all, bi_any, bi_int, bi_str, bi_tuple, bi_list, bi_sorted, opB_add, opB_sub, opB_mul, opB_div, opB_mod, opC_eq, opC_ne, opC_lt, opC_le, opC_gt, opC_ge, opC_is, opC_isn, opC_isb, opC_isnb, opC_in, opC_nin, isN_n, isN_i, fd134, len_s h, h1', h2', decide_true, itemsD, e]
      refine ⟨by rw [List.length_map, hl]; omega, comp_map (e := fun c => PyData.str (ch c)) (e' := PyData.bool) figB (fun c _ => ?_) ?_⟩
      · simp only [o1_some, o1_none, o1_map, o1_if, o1_test, ev_var, ev_bv, ev_cn, ev_cb, ev_ci, ev_cs, ev_bin, ev_neg, ev_nt, ev_cmp, ev_cmp2, ev_an, ev_or, ev_tup, ev_lst, ev_call, ev_bi, ev_isi, ev_ix, ev_sl, ev_rev, ev_rgL, ev_rgT, ev_lset, ev_sset, ev_comp, ev_join, ev_split, ea_nil, ea_cons, eo_nil, ec_nil, ei_rg, ei_zip, ei_enum, nxt_nx, nxt_rt, es_set, es_setO, es_unp, es_par, es_app, es_sti, es_ifs, es_for, es_skip, es_seq, es_retv, turn_of, forB_of, bindT1, bindT2, bindEach, wipeE, getV, getB, start0, List.length_cons, List.length_nil, List.getElem?_cons_zero, List.getElem?_cons_succ, List.set_cons_zero, List.set_cons_succ, List.cons_append, List.nil_append, List.replicate_succ, List.replicate_zero, if_true, if_false, reduceIte, Nat.reduceAdd, Nat.reduceSub, Nat.reduceLeDiff, Bool.false_eq_true, Bool.true_eq_false, Bool.not_true, Bool.not_false, reduceCtorEq, Nat.zero_add, true_and, and_true, ei_var, ei_bv, ei_ix, ei_call, ei_bi, ei_tup, ei_lst, ei_comp, ei_rev, ei_bin, ei_rgL, ei_rgT, ei_sset, ei_sl, ei_split, ec_cmp, ec_cmp2, ec_an, ec_or, ec_nt, ec_call, ec_isi, ec_bv, ec_var, ec_bi, ec_cb, eo_ci, eo_bv, eo_var, eo_neg, eo_bin, eo_bi, eo_ix, eo_call, er_bv, er_ix, er_call, er_bi, er_tup, er_lst, er_comp, er_rev, er_bin, er_rgL, er_rgT, er_sset, er_lset, er_sl, er_split, er_join, er_cmp, er_cmp2, er_an, er_or, er_nt, er_isi, er_ci, er_cb, er_cn, er_cs, er_neg, valS_val, valS_own, retD_rt, retD_nx, boolD_b, intD_i, listD_l, tupD_t, ownS_o, items_l, items_t, isi_b, isi_i, isi_n, isi_ii, isi_tt, len_l, len_t, tu_l, tu_t, li_l, li_t, int_b, add_i, add_l, add_t, sub_i, opI_i, rev_l, rev_t, sl_l, sl_t, zip_t, zip_l, zip_tl, sq2_t, sq2_l, bi_len, bi_min, bi_max, bi_sum, bi_all, bi_any, bi_int, bi_str, bi_tuple, bi_list, bi_sorted, opB_add, opB_sub, opB_mul, opB_div, opB_mod, opC_eq, opC_ne, opC_lt, opC_le, opC_gt, opC_ge, opC_is, opC_isn, opC_isb, opC_isnb, opC_in, opC_nin, isN_n, isN_i, fig_ev]
      · simp only [o1_some, o1_none, o1_map, o1_if, o1_test, ev_var, ev_bv, ev_cn, ev_cb, ev_ci, ev_cs, ev_bin, ev_neg, ev_nt, ev_cmp, ev_cmp2, ev_an, ev_or, ev_tup, ev_lst, ev_call, ev_bi, ev_isi, ev_ix, ev_sl, ev_rev, ev_rgL, ev_rgT, ev_lset, ev_sset, ev_comp, ev_join, ev_split, ea_nil, ea_cons, eo_nil, ec_nil, ei_rg, ei_zip, ei_enum, nxt_nx, nxt_rt, es_set, es_setO, es_unp, es_par, es_app, es_sti, es_ifs, es_for, es_skip, es_seq, es_retv, turn_of, forB_of, bindT1, bindT2, bindEach, wipeE, getV, getB, start0, List.length_cons, List.length_nil, List.getElem?_cons_zero, List.getElem?_cons_succ, List.set_cons_zero, List.set_cons_succ, List.cons_append, List.nil_append, List.replicate_succ, List.replicate_zero, if_true, if_false, reduceIte, Nat.reduceAdd, Nat.reduceSub, Nat.reduceLeDiff, Bool.false_eq_true, Bool.true_eq_false, Bool.not_true, Bool.not_false, reduceCtorEq, Nat.zero_add, true_and, and_true, ei_var, ei_bv, ei_ix, ei_call, ei_bi, ei_tup, ei_lst, ei_comp, ei_rev, ei_bin, ei_rgL, ei_rgT, ei_sset, ei_sl, ei_split, ec_cmp, ec_cmp2, ec_an, ec_or, ec_nt, ec_call, ec_isi, ec_bv, ec_var, ec_bi, ec_cb, eo_ci, eo_bv, eo_var, eo_neg, eo_bin, eo_bi, eo_ix, eo_call, er_bv, er_ix, er_call, er_bi, er_tup, er_lst, er_comp, er_rev, er_bin, er_rgL, er_rgT, er_sset, er_lset, er_sl, er_split, er_join, er_cmp, er_cmp2, er_an, er_or, er_nt, er_isi, er_ci, er_cb, er_cn, er_cs, er_neg, valS_val, valS_own, retD_rt, retD_nx, boolD_b, intD_i, listD_l, tupD_t, ownS_o, items_l, items_t, isi_b, isi_i, isi_n, isi_ii, isi_tt, len_l, len_t, tu_l, tu_t, li_l, li_t, int_b, add_i, add_l, add_t, sub_i, opI_i, rev_l, rev_t, sl_l, sl_t, zip_t, zip_l, zip_tl, sq2_t, sq2_l, bi_len, bi_min, bi_max, bi_sum, bi_all, bi_any, bi_int, bi_str, bi_tuple, bi_list, bi_sorted, opB_add, opB_sub, opB_mul, opB_div, opB_mod, opC_eq, opC_ne, opC_lt, opC_le, opC_gt, opC_ge, opC_is, opC_isn, opC_isb, opC_isnb, opC_in, opC_nin, isN_n, isN_i, all_b, numB, h1, h2, decide_true, Bool.true_and, List.all_map]
        rfl
    · have h2' : ¬ (x.length : Int) ≤ 2 := by omega
      simp only [o1_some, o1_none, o1_map, o1_if, o1_test, ev_var, ev_bv, ev_cn, ev_cb, ev_ci, ev_cs, ev_bin, ev_neg, ev_nt, ev_cmp, ev_cmp2, ev_an, ev_or, ev_tup, ev_lst, ev_call, ev_bi, ev_isi, ev_ix, ev_sl, ev_rev, ev_rgL, ev_rgT, ev_lset, ev_sset, ev_comp, ev_join, ev_split, ea_nil, ea_cons, eo_nil, ec_nil, ei_rg, ei_zip, ei_enum, nxt_nx, nxt_rt, es_set, es_setO, es_unp, es_par, es_app, es_sti, es_ifs, es_for, es_skip, es_seq, es_retv, turn_of, forB_of, bindT1, bindT2, bindEach, wipeE, getV, getB, start0, List.length_cons, List.length_nil, List.getElem?_cons_zero, List.getElem?_cons_succ, List.set_cons_zero, List.set_cons_succ, List.cons_append, List.nil_append, List.replicate_succ, List.replicate_zero, if_true, if_false, reduceIte, Nat.reduceAdd, Nat.reduceSub, Nat.reduceLeDiff, Bool.false_eq_true, Bool.true_eq_false, Bool.not_true, Bool.not_false, reduceCtorEq, Nat.zero_add, true_and, and_true, ei_var, ei_bv, ei_ix, ei_call, ei_bi, ei_tup, ei_lst, ei_comp, ei_rev, ei_bin, ei_rgL, ei_rgT, ei_sset, ei_sl, ei_split, ec_cmp, ec_cmp2, ec_an, ec_or, ec_nt, ec_call, ec_isi, ec_bv, ec_var, ec_bi, ec_cb, eo_ci, eo_bv, eo_var, eo_neg, eo_bin, eo_bi, eo_ix, eo_call, er_bv, er_ix, er_call, er_bi, er_tup, er_lst, er_comp, er_rev, er_bin, er_rgL, er_rgT, er_sset, er_lset, er_sl, er_split, er_join, er_cmp, er_cmp2, er_an, er_or, er_nt, er_isi, er_ci, er_cb, er_cn, er_cs, er_neg, valS_val, valS_own, retD_rt, retD_nx, boolD_b, intD_i, listD_l, tupD_t, ownS_o, items_l, items_t, isi_b, isi_i, isi_n, isi_ii, isi_tt, len_l, len_t, tu_l, tu_t, li_l, li_t, int_b, add_i, add_l, add_t, sub_i, opI_i, rev_l, rev_t, sl_l, sl_t, zip_t, zip_l, zip_tl, sq2_t, sq2_l, bi_len, bi_min, bi_max, bi_sum, bi_all, bi_any, bi_int, bi_str, bi_tuple, bi_list, bi_sorted, opB_add, opB_sub, opB_mul, opB_div, opB_mod, opC_eq, opC_ne, opC_lt, opC_le, opC_gt, opC_ge, opC_is, opC_isn, opC_isb, opC_isnb, opC_in, opC_nin, isN_n, isN_i, fd134, len_s h, h1', h2', decide_true, decide_false, numB, h2, Bool.false_and, Bool.and_false]
  · have h1' : ¬ (1 : Int) ≤ (x.length : Int) := by omega
    simp only [o1_some, o1_none, o1_map, o1_if, o1_test, ev_var, ev_bv, ev_cn, ev_cb, ev_ci, ev_cs, ev_bin, ev_neg, ev_nt, ev_cmp, ev_cmp2, ev_an, ev_or, ev_tup, ev_lst, ev_call, ev_bi, ev_isi, ev_ix, ev_sl, ev_rev, ev_rgL, ev_rgT, ev_lset, ev_sset, ev_comp, ev_join, ev_split, ea_nil, ea_cons, eo_nil, ec_nil, ei_rg, ei_zip, ei_enum, nxt_nx, nxt_rt, es_set, es_setO, es_unp, es_par, es_app, es_sti, es_ifs, es_for, es_skip, es_seq, es_retv, turn_of, forB_of, bindT1, bindT2, bindEach, wipeE, getV, getB, start0, List.length_cons, List.length_nil, List.getElem?_cons_zero, List.getElem?_cons_succ, List.set_cons_zero, List.set_cons_succ, List.cons_append, List.nil_append, List.replicate_succ, List.replicate_zero, if_true, if_false, reduceIte, Nat.reduceAdd, Nat.reduceSub, Nat.reduceLeDiff, Bool.false_eq_true, Bool.true_eq_false, Bool.not_true, Bool.not_false, reduceCtorEq, Nat.zero_add, true_and, and_true, ei_var, ei_bv, ei_ix, ei_call, ei_bi, ei_tup, ei_lst, ei_comp, ei_rev, ei_bin, ei_rgL, ei_rgT, ei_sset, ei_sl, ei_split, ec_cmp, ec_cmp2, ec_an, ec_or, ec_nt, ec_call, ec_isi, ec_bv, ec_var, ec_bi, ec_cb, eo_ci, eo_bv, eo_var, eo_neg, eo_bin, eo_bi, eo_ix, eo_call, er_bv, er_ix, er_call, er_bi, er_tup, er_lst, er_comp, er_rev, er_bin, er_rgL, er_rgT, er_sset, er_lset, er_sl, er_split, er_join, er_cmp, er_cmp2, er_an, er_or, er_nt, er_isi, er_ci, er_cb, er_cn, er_cs, er_neg, valS_val, valS_own, retD_rt, retD_nx, boolD_b, intD_i, listD_l, tupD_t, ownS_o, items_l, items_t, isi_b, isi_i, isi_n, isi_ii, isi_tt, len_l, len_t, tu_l, tu_t, li_l, li_t, int_b, add_i, add_l, add_t, sub_i, opI_i, rev_l, rev_t, sl_l, sl_t, zip_t, zip_l, zip_tl, sq2_t, sq2_l, bi_len, bi_min, bi_max, bi_sum, bi_all, bi_any, bi_int, bi_str, bi_tuple, bi_list, bi_sorted, opB_add, opB_sub, opB_mul, opB_div, opB_mod, opC_eq, opC_ne, opC_lt, opC_le, opC_gt, opC_ge, opC_is, opC_isn, opC_isb, opC_isnb, opC_in, opC_nin, isN_n, isN_i, fd134, len_s h, h1', decide_false, numB, h1, Bool.false_and]
theorem num_v (n : Nat) {x : Str} {m : Nat} (h : x.length ≤ 100000) (hp : numP x = some m) : Ph (n + 1) 103 [.str x] = some (nI m) := by
  obtain ⟨hb, _⟩ := numP_some hp
  obtain ⟨m', _, hi, hp'⟩ := numB_some hb
  rw [hp'] at hp
  cases hp
  show evF (Ph n) fd103 [.str x] = _
  rw [← o1_eq, ef_of rfl]
  have e : charsD x = x.cps.toList.map fun c => PyData.str (ch c) := rfl
  have hl : x.cps.toList.length = x.length := by simp [Str.length]
  have hb' := hb
  simp only [numB, Bool.and_eq_true, decide_eq_true_eq] at hb'
  obtain ⟨h1, h2, h3⟩ := hb'
  have h1' : (1 : Int) ≤ (x.length : Int) := by omega
  have h2' : (x.length : Int) ≤ 2 := by omega
  have hint : biInt [.str x] = some (.int (m : Int)) := by
    simp only [biInt]
    rw [if_pos (by omega), hi]
    rfl
  simp only [o1_some, o1_none, o1_map, o1_if, o1_test, ev_var, ev_bv, ev_cn, ev_cb, ev_ci, ev_cs, ev_bin, ev_neg, ev_nt, ev_cmp, ev_cmp2, ev_an, ev_or, ev_tup, ev_lst, ev_call, ev_bi, ev_isi, ev_ix, ev_sl, ev_rev, ev_rgL, ev_rgT, ev_lset, ev_sset, ev_comp, ev_join, ev_split, ea_nil, ea_cons, eo_nil, ec_nil, ei_rg, ei_zip, ei_enum, nxt_nx, nxt_rt, es_set, es_setO, es_unp, es_par, es_app, es_sti, es_ifs, es_for, es_skip, es_seq, es_retv, turn_of, forB_of, bindT1, bindT2, bindEach, wipeE, getV, getB, start0, List.length_cons, List.length_nil, List.getElem?_cons_zero, List.getElem?_cons_succ, List.set_cons_zero, List.set_cons_succ, List.cons_append, List.nil_append, List.replicate_succ, List.replicate_zero, if_true, if_false, reduceIte, Nat.reduceAdd, Nat.reduceSub, Nat.reduceLeDiff, Bool.false_eq_true, Bool.true_eq_false, Bool.not_true, Bool.not_false, reduceCtorEq, Nat.zero_add, true_and, and_true, ei_var, ei_bv, ei_ix, ei_call, ei_bi, ei_tup, ei_lst, ei_comp, ei_rev, ei_bin, ei_rgL, ei_rgT, ei_sset, ei_sl, ei_split, ec_cmp, ec_cmp2, ec_an, ec_or, ec_nt, ec_call, ec_isi, ec_bv, ec_var, ec_bi, ec_cb, eo_ci, eo_bv, eo_var, eo_neg, eo_bin, eo_bi, eo_ix, eo_call, er_bv, er_ix, er_call, er_bi, er_tup, er_lst, er_comp, er_rev, er_bin, er_rgL, er_rgT, er_sset, er_lset, er_sl, er_split, er_join, er_cmp, er_cmp2, er_an, er_or, er_nt, er_isi, er_ci, er_cb, er_cn, er_cs, er_neg, valS_val, valS_own, retD_rt, retD_nx, boolD_b, intD_i, listD_l, tupD_t, ownS_o, items_l, items_t, isi_b, isi_i, isi_n, isi_ii, isi_tt, len_l, len_t, tu_l, tu_t, li_l, li_t, int_b, add_i, add_l, add_t, sub_i, opI_i, rev_l, rev_t, sl_l, sl_t, zip_t, zip_l, zip_tl, sq2_t, sq2_l, bi_len, bi_min, bi_max, bi_sum, bi_all, bi_any, bi_int, bi_str, bi_tuple, bi_list, bi_sorted, opB_add, opB_sub, opB_mul, opB_div, opB_mod, opC_eq, opC_ne, opC_lt, opC_le, opC_gt, opC_ge, opC_is, opC_isn, opC_isb, opC_isnb, opC_in, opC_nin, isN_n, isN_i, fd103, len_s h, h1', h2', decide_true, itemsD, e]
  refine ⟨by rw [List.length_map, hl]; omega, comp_map (e := fun c => PyData.str (ch c)) (e' := PyData.bool) figB (fun c _ => ?_) ?_⟩
  · simp only [o1_some, o1_none, o1_map, o1_if, o1_test, ev_var, ev_bv, ev_cn, ev_cb, ev_ci, ev_cs, ev_bin, ev_neg, ev_nt, ev_cmp, ev_cmp2, ev_an, ev_or, ev_tup, ev_lst, ev_call, ev_bi, ev_isi, ev_ix, ev_sl, ev_rev, ev_rgL, ev_rgT, ev_lset, ev_sset, ev_comp, ev_join, ev_split, ea_nil, ea_cons, eo_nil, ec_nil, ei_rg, ei_zip, ei_enum, nxt_nx, nxt_rt, es_set, es_setO, es_unp, es_par, es_app, es_sti, es_ifs, es_for, es_skip, es_seq, es_retv, turn_of, forB_of, bindT1, bindT2, bindEach, wipeE, getV, getB, start0, List.length_cons, List.length_nil, List.getElem?_cons_zero, List.getElem?_cons_succ, List.set_cons_zero, List.set_cons_succ, List.cons_append, List.nil_append, List.replicate_succ, List.replicate_zero, if_true, if_false, reduceIte, Nat.reduceAdd, Nat.reduceSub, Nat.reduceLeDiff, Bool.false_eq_true, Bool.true_eq_false, Bool.not_true, Bool.not_false, reduceCtorEq, Nat.zero_add, true_and, and_true, ei_var, ei_bv, ei_ix, ei_call, ei_bi, ei_tup, ei_lst, ei_comp, ei_rev, ei_bin, ei_rgL, ei_rgT, ei_sset, ei_sl, ei_split, ec_cmp, ec_cmp2, ec_an, ec_or, ec_nt, ec_call, ec_isi, ec_bv, ec_var, ec_bi, ec_cb, eo_ci, eo_bv, eo_var, eo_neg, eo_bin, eo_bi, eo_ix, eo_call, er_bv, er_ix, er_call, er_bi, er_tup, er_lst, er_comp, er_rev, er_bin, er_rgL, er_rgT, er_sset, er_lset, er_sl, er_split, er_join, er_cmp, er_cmp2, er_an, er_or, er_nt, er_isi, er_ci, er_cb, er_cn, er_cs, er_neg, valS_val, valS_own, retD_rt, retD_nx, boolD_b, intD_i, listD_l, tupD_t, ownS_o, items_l, items_t, isi_b, isi_i, isi_n, isi_ii, isi_tt, len_l, len_t, tu_l, tu_t, li_l, li_t, int_b, add_i, add_l, add_t, sub_i, opI_i, rev_l, rev_t, sl_l, sl_t, zip_t, zip_l, zip_tl, sq2_t, sq2_l, bi_len, bi_min, bi_max, bi_sum, bi_all, bi_any, bi_int, bi_str, bi_tuple, bi_list, bi_sorted, opB_add, opB_sub, opB_mul, opB_div, opB_mod, opC_eq, opC_ne, opC_lt, opC_le, opC_gt, opC_ge, opC_is, opC_isn, opC_isb, opC_isnb, opC_in, opC_nin, isN_n, isN_i, fig_ev]
  · have h4 : ((x.cps.toList.map figB).all id) = true := by rw [List.all_map]; exact h3
    simp only [o1_some, o1_none, o1_map, o1_if, o1_test, ev_var, ev_bv, ev_cn, ev_cb, ev_ci, ev_cs, ev_bin, ev_neg, ev_nt, ev_cmp, ev_cmp2, ev_an, ev_or, ev_tup, ev_lst, ev_call, ev_bi, ev_isi, ev_ix, ev_sl, ev_rev, ev_rgL, ev_rgT, ev_lset, ev_sset, ev_comp, ev_join, ev_split, ea_nil, ea_cons, eo_nil, ec_nil, ei_rg, ei_zip, ei_enum, nxt_nx, nxt_rt, es_set, es_setO, es_unp, es_par, es_app, es_sti, es_ifs, es_for, es_skip, es_seq, es_retv, turn_of, forB_of, bindT1, bindT2, bindEach, wipeE, getV, getB, start0, List.length_cons, List.length_nil, List.getElem?_cons_zero, List.getElem?_cons_succ, List.set_cons_zero, List.set_cons_succ, List.cons_append, List.nil_append, List.replicate_succ, List.replicate_zero, if_true, if_false, reduceIte, Nat.reduceAdd, Nat.reduceSub, Nat.reduceLeDiff, Bool.false_eq_true, Bool.true_eq_false, Bool.not_true, Bool.not_false, reduceCtorEq, Nat.zero_add, true_and, and_true, ei_var, ei_bv, ei_ix, ei_call, ei_bi, ei_tup, ei_lst, ei_comp, ei_rev, ei_bin, ei_rgL, ei_rgT, ei_sset, ei_sl, ei_split, ec_cmp, ec_cmp2, ec_an, ec_or, ec_nt, ec_call, ec_isi, ec_bv, ec_var, ec_bi, ec_cb, eo_ci, eo_bv, eo_var, eo_neg, eo_bin, eo_bi, eo_ix, eo_call, er_bv, er_ix, er_call, er_bi, er_tup, er_lst, er_comp, er_rev, er_bin, er_rgL, er_rgT, er_sset, er_lset, er_sl, er_split, er_join, er_cmp, er_cmp2, er_an, er_or, er_nt, er_isi, er_ci, er_cb, er_cn, er_cs, er_neg, valS_val, valS_own, retD_rt, retD_nx, boolD_b, intD_i, listD_l, tupD_t, ownS_o, items_l, items_t, isi_b, isi_i, isi_n, isi_ii, isi_tt, len_l, len_t, tu_l, tu_t, li_l, li_t, int_b, add_i, add_l, add_t, sub_i, opI_i, rev_l, rev_t, sl_l, sl_t, zip_t, zip_l, zip_tl, sq2_t, sq2_l, bi_len, bi_min, bi_max, bi_sum, bi_all, bi_any, bi_int, bi_str, bi_tuple, bi_list, bi_sorted, opB_add, opB_sub, opB_mul, opB_div, opB_mod, opC_eq, opC_ne, opC_lt, opC_le, opC_gt, opC_ge, opC_is, opC_isn, opC_isb, opC_isnb, opC_in, opC_nin, isN_n, isN_i, all_b, h4, hint]
    rfl
def tieP (x : Str) : Option T3 := match Txt.split x (ch 61) with
  | [l, r] => (match Txt.split l (ch 45) with
    | [a, b] => (match numP a with
      | some i => (match numP b with
        | some j => (match numP r with
          | some k => some (i, j, k)
          | none => none)
        | none => none)
      | none => none)
    | _ => none)
  | _ => none
theorem s_len2 {ws : List Str} (h : ws.length = 2) : ∃ a b, ws = [a, b] := by
  match ws, h with
  | [a, b], _ => exact ⟨a, b, rfl⟩
theorem tieP_1 {x : Str} (h : (Txt.split x (ch 61)).length ≠ 2) : tieP x = none := by
  unfold tieP
  split
  · rename_i e; rw [e] at h; simp at h
  · rfl
theorem tieP_2 {x l r : Str} (e : Txt.split x (ch 61) = [l, r]) (h : (Txt.split l (ch 45)).length ≠ 2) : tieP x = none := by
  unfold tieP
  rw [e]
  dsimp only
  split
  · rename_i e; rw [e] at h; simp at h
  · rfl
theorem ne2 {k : Nat} : opEq (.int (k : Int)) (.int 2) = some (decide (k = 2)) := opEq_nI (j := 2)
theorem ix_0 {a b : D} : opIx (.list [a, b]) (.int 0) = some a := rfl
theorem ix_1 {a b : D} : opIx (.list [a, b]) (.int 1) = some b := rfl
theorem tie_x (n : Nat) {x : Str} (hx : x.length ≤ 90000) : Ph (n + 2) 135 [.str x] = some (.bool (tieP x).isNone) := by
  show tieXD 103 134 (Ph (n + 1)) [.str x] = _
  have e1 : evE (Ph (n + 1)) ieT1 [.val (.str x), .no, .no] = some (.list ((Txt.split x (ch 61)).map .str)) := by
    rw [← o1_eq]
    simp only [o1_some, o1_none, o1_map, o1_if, o1_test, ev_var, ev_bv, ev_cn, ev_cb, ev_ci, ev_cs, ev_bin, ev_neg, ev_nt, ev_cmp, ev_cmp2, ev_an, ev_or, ev_tup, ev_lst, ev_call, ev_bi, ev_isi, ev_ix, ev_sl, ev_rev, ev_rgL, ev_rgT, ev_lset, ev_sset, ev_comp, ev_join, ev_split, ea_nil, ea_cons, eo_nil, ec_nil, ei_rg, ei_zip, ei_enum, nxt_nx, nxt_rt, es_set, es_setO, es_unp, es_par, es_app, es_sti, es_ifs, es_for, es_skip, es_seq, es_retv, turn_of, forB_of, bindT1, bindT2, bindEach, wipeE, getV, getB, start0, List.length_cons, List.length_nil, List.getElem?_cons_zero, List.getElem?_cons_succ, List.set_cons_zero, List.set_cons_succ, List.cons_append, List.nil_append, List.replicate_succ, List.replicate_zero, if_true, if_false, reduceIte, Nat.reduceAdd, Nat.reduceSub, Nat.reduceLeDiff, Bool.false_eq_true, Bool.true_eq_false, Bool.not_true, Bool.not_false, reduceCtorEq, Nat.zero_add, true_and, and_true, ei_var, ei_bv, ei_ix, ei_call, ei_bi, ei_tup, ei_lst, ei_comp, ei_rev, ei_bin, ei_rgL, ei_rgT, ei_sset, ei_sl, ei_split, ec_cmp, ec_cmp2, ec_an, ec_or, ec_nt, ec_call, ec_isi, ec_bv, ec_var, ec_bi, ec_cb, eo_ci, eo_bv, eo_var, eo_neg, eo_bin, eo_bi, eo_ix, eo_call, er_bv, er_ix, er_call, er_bi, er_tup, er_lst, er_comp, er_rev, er_bin, er_rgL, er_rgT, er_sset, er_lset, er_sl, er_split, er_join, er_cmp, er_cmp2, er_an, er_or, er_nt, er_isi, er_ci, er_cb, er_cn, er_cs, er_neg, valS_val, valS_own, retD_rt, retD_nx, boolD_b, intD_i, listD_l, tupD_t, ownS_o, items_l, items_t, isi_b, isi_i, isi_n, isi_ii, isi_tt, len_l, len_t, tu_l, tu_t, li_l, li_t, int_b, add_i, add_l, add_t, sub_i, opI_i, rev_l, rev_t, sl_l, sl_t, zip_t, zip_l, zip_tl, sq2_t, sq2_l, bi_len, bi_min, bi_max, bi_sum, bi_all, bi_any, bi_int, bi_str, bi_tuple, bi_list, bi_sorted, opB_add, opB_sub, opB_mul, opB_div, opB_mod, opC_eq, opC_ne, opC_lt, opC_le, opC_gt, opC_ge, opC_is, opC_isn, opC_isb, opC_isnb, opC_in, opC_nin, isN_n, isN_i, ieT1, s_eq, split_ev (show x.length ≤ 100000 by omega)]
  have e2 : evE (Ph (n + 1)) (ieCn 1) [.val (.str x), .val (.list ((Txt.split x (ch 61)).map .str)), .no] = some (.bool (!decide ((Txt.split x (ch 61)).length = 2))) := by
    rw [← o1_eq]
    simp only [o1_some, o1_none, o1_map, o1_if, o1_test, ev_var, ev_bv, ev_cn, ev_cb, ev_ci, ev_cs, ev_bin, ev_neg, ev_nt, ev_cmp, ev_cmp2, ev_an, ev_or, ev_tup, ev_lst, ev_call, ev_bi, ev_isi, ev_ix, ev_sl, ev_rev, ev_rgL, ev_rgT, ev_lset, ev_sset, ev_comp, ev_join, ev_split, ea_nil, ea_cons, eo_nil, ec_nil, ei_rg, ei_zip, ei_enum, nxt_nx, nxt_rt, es_set, es_setO, es_unp, es_par, es_app, es_sti, es_ifs, es_for, es_skip, es_seq, es_retv, turn_of, forB_of, bindT1, bindT2, bindEach, wipeE, getV, getB, start0, List.length_cons, List.length_nil, List.getElem?_cons_zero, List.getElem?_cons_succ, List.set_cons_zero, List.set_cons_succ, List.cons_append, List.nil_append, List.replicate_succ, List.replicate_zero, if_true, if_false, reduceIte, Nat.reduceAdd, Nat.reduceSub, Nat.reduceLeDiff, Bool.false_eq_true, Bool.true_eq_false, Bool.not_true, Bool.not_false, reduceCtorEq, Nat.zero_add, true_and, and_true, ei_var, ei_bv, ei_ix, ei_call, ei_bi, ei_tup, ei_lst, ei_comp, ei_rev, ei_bin, ei_rgL, ei_rgT, ei_sset, ei_sl, ei_split, ec_cmp, ec_cmp2, ec_an, ec_or, ec_nt, ec_call, ec_isi, ec_bv, ec_var, ec_bi, ec_cb, eo_ci, eo_bv, eo_var, eo_neg, eo_bin, eo_bi, eo_ix, eo_call, er_bv, er_ix, er_call, er_bi, er_tup, er_lst, er_comp, er_rev, er_bin, er_rgL, er_rgT, er_sset, er_lset, er_sl, er_split, er_join, er_cmp, er_cmp2, er_an, er_or, er_nt, er_isi, er_ci, er_cb, er_cn, er_cs, er_neg, valS_val, valS_own, retD_rt, retD_nx, boolD_b, intD_i, listD_l, tupD_t, ownS_o, items_l, items_t, isi_b, isi_i, isi_n, isi_ii, isi_tt, len_l, len_t, tu_l, tu_t, li_l, li_t, int_b, add_i, add_l, add_t, sub_i, opI_i, rev_l, rev_t, sl_l, sl_t, zip_t, zip_l, zip_tl, sq2_t, sq2_l, bi_len, bi_min, bi_max, bi_sum, bi_all, bi_any, bi_int, bi_str, bi_tuple, bi_list, bi_sorted, opB_add, opB_sub, opB_mul, opB_div, opB_mod, opC_eq, opC_ne, opC_lt, opC_le, opC_gt, opC_ge, opC_is, opC_isn, opC_isb, opC_isnb, opC_in, opC_nin, isN_n, isN_i, ieCn, List.length_map, ne2]
  simp only [tieXD, e1, e2]
  by_cases h2 : (Txt.split x (ch 61)).length = 2
  · obtain ⟨l, r, e⟩ := s_len2 h2
    have hl : l.length ≤ 90000 := Nat.le_trans (cutp_len (c := 61) (by rw [e]; simp)) hx
    have hr : r.length ≤ 90000 := Nat.le_trans (cutp_len (c := 61) (by rw [e]; simp)) hx
    have e3 : evE (Ph (n + 1)) ieT2 [.val (.str x), .val (.list ((Txt.split x (ch 61)).map .str)), .no] = some (.list ((Txt.split l (ch 45)).map .str)) := by
      rw [← o1_eq, e]
      simp only [o1_some, o1_none, o1_map, o1_if, o1_test, ev_var, ev_bv, ev_cn, ev_cb, ev_ci, ev_cs, ev_bin, ev_neg, ev_nt, ev_cmp, ev_cmp2, ev_an, ev_or, ev_tup, ev_lst, ev_call, ev_bi, ev_isi, ev_ix, ev_sl, ev_rev, ev_rgL, ev_rgT, ev_lset, ev_sset, ev_comp, ev_join, ev_split, ea_nil, ea_cons, eo_nil, ec_nil, ei_rg, ei_zip, ei_enum, nxt_nx, nxt_rt, es_set, es_setO, es_unp, es_par, es_app, es_sti, es_ifs, es_for, es_skip, es_seq, es_retv, turn_of, forB_of, bindT1, bindT2, bindEach, wipeE, getV, getB, start0, List.length_cons, List.length_nil, List.getElem?_cons_zero, List.getElem?_cons_succ, List.set_cons_zero, List.set_cons_succ, List.cons_append, List.nil_append, List.replicate_succ, List.replicate_zero, if_true, if_false, reduceIte, Nat.reduceAdd, Nat.reduceSub, Nat.reduceLeDiff, Bool.false_eq_true, Bool.true_eq_false, Bool.not_true, Bool.not_false, reduceCtorEq, Nat.zero_add, true_and, and_true, ei_var, ei_bv, ei_ix, ei_call, ei_bi, ei_tup, ei_lst, ei_comp, ei_rev, ei_bin, ei_rgL, ei_rgT, ei_sset, ei_sl, ei_split, ec_cmp, ec_cmp2, ec_an, ec_or, ec_nt, ec_call, ec_isi, ec_bv, ec_var, ec_bi, ec_cb, eo_ci, eo_bv, eo_var, eo_neg, eo_bin, eo_bi, eo_ix, eo_call, er_bv, er_ix, er_call, er_bi, er_tup, er_lst, er_comp, er_rev, er_bin, er_rgL, er_rgT, er_sset, er_lset, er_sl, er_split, er_join, er_cmp, er_cmp2, er_an, er_or, er_nt, er_isi, er_ci, er_cb, er_cn, er_cs, er_neg, valS_val, valS_own, retD_rt, retD_nx, boolD_b, intD_i, listD_l, tupD_t, ownS_o, items_l, items_t, isi_b, isi_i, isi_n, isi_ii, isi_tt, len_l, len_t, tu_l, tu_t, li_l, li_t, int_b, add_i, add_l, add_t, sub_i, opI_i, rev_l, rev_t, sl_l, sl_t, zip_t, zip_l, zip_tl, sq2_t, sq2_l, bi_len, bi_min, bi_max, bi_sum, bi_all, bi_any, bi_int, bi_str, bi_tuple, bi_list, bi_sorted, opB_add, opB_sub, opB_mul, opB_div, opB_mod, opC_eq, opC_ne, opC_lt, opC_le, opC_gt, opC_ge, opC_is, opC_isn, opC_isb, opC_isnb, opC_in, opC_nin, isN_n, isN_i, ieT2, s_mi, List.map_cons, List.map_nil, ix_0, split_ev (show l.length ≤ 100000 by omega)]
    have e4 : evE (Ph (n + 1)) (ieCn 2) [.val (.str x), .val (.list ((Txt.split x (ch 61)).map .str)), .val (.list ((Txt.split l (ch 45)).map .str))] = some (.bool (!decide ((Txt.split l (ch 45)).length = 2))) := by
      rw [← o1_eq]
      simp only [o1_some, o1_none, o1_map, o1_if, o1_test, ev_var, ev_bv, ev_cn, ev_cb, ev_ci, ev_cs, ev_bin, ev_neg, ev_nt, ev_cmp, ev_cmp2, ev_an, ev_or, ev_tup, ev_lst, ev_call, ev_bi, ev_isi, ev_ix, ev_sl, ev_rev, ev_rgL, ev_rgT, ev_lset, ev_sset, ev_comp, ev_join, ev_split, ea_nil, ea_cons, eo_nil, ec_nil, ei_rg, ei_zip, ei_enum, nxt_nx, nxt_rt, es_set, es_setO, es_unp, es_par, es_app, es_sti, es_ifs, es_for, es_skip, es_seq, es_retv, turn_of, forB_of, bindT1, bindT2, bindEach, wipeE, getV, getB, start0, List.length_cons, List.length_nil, List.getElem?_cons_zero, List.getElem?_cons_succ, List.set_cons_zero, List.set_cons_succ, List.cons_append, List.nil_append, List.replicate_succ, List.replicate_zero, if_true, if_false, reduceIte, Nat.reduceAdd, Nat.reduceSub, Nat.reduceLeDiff, Bool.false_eq_true, Bool.true_eq_false, Bool.not_true, Bool.not_false, reduceCtorEq, Nat.zero_add, true_and, and_true, ei_var, ei_bv, ei_ix, ei_call, ei_bi, ei_tup, ei_lst, ei_comp, ei_rev, ei_bin, ei_rgL, ei_rgT, ei_sset, ei_sl, ei_split, ec_cmp, ec_cmp2, ec_an, ec_or, ec_nt, ec_call, ec_isi, ec_bv, ec_var, ec_bi, ec_cb, eo_ci, eo_bv, eo_var, eo_neg, eo_bin, eo_bi, eo_ix, eo_call, er_bv, er_ix, er_call, er_bi, er_tup, er_lst, er_comp, er_rev, er_bin, er_rgL, er_rgT, er_sset, er_lset, er_sl, er_split, er_join, er_cmp, er_cmp2, er_an, er_or, er_nt, er_isi, er_ci, er_cb, er_cn, er_cs, er_neg, valS_val, valS_own, retD_rt, retD_nx, boolD_b, intD_i, listD_l, tupD_t, ownS_o, items_l, items_t, isi_b, isi_i, isi_n, isi_ii, isi_tt, len_l, len_t, tu_l, tu_t, li_l, li_t, int_b, add_i, add_l, add_t, sub_i, opI_i, rev_l, rev_t, sl_l, sl_t, zip_t, zip_l, zip_tl, sq2_t, sq2_l, bi_len, bi_min, bi_max, bi_sum, bi_all, bi_any, bi_int, bi_str, bi_tuple, bi_list, bi_sorted, opB_add, opB_sub, opB_mul, opB_div, opB_mod, opC_eq, opC_ne, opC_lt, opC_le, opC_gt, opC_ge, opC_is, opC_isn, opC_isb, opC_isnb, opC_in, opC_nin, isN_n, isN_i, ieCn, List.length_map, ne2]
    simp only [h2, decide_true, Bool.not_true, e3, e4]
    by_cases h3 : (Txt.split l (ch 45)).length = 2
    · obtain ⟨a, b, e'⟩ := s_len2 h3
      have ha : a.length ≤ 90000 := Nat.le_trans (cutp_len (c := 45) (by rw [e']; simp)) hl
      have hb : b.length ≤ 90000 := Nat.le_trans (cutp_len (c := 45) (by rw [e']; simp)) hl
      have f1 : evE (Ph (n + 1)) ieA1 [.val (.str x), .val (.list ((Txt.split x (ch 61)).map .str)), .val (.list ((Txt.split l (ch 45)).map .str))] = some (.str a) := by
        rw [← o1_eq, e']
        simp only [o1_some, o1_none, o1_map, o1_if, o1_test, ev_var, ev_bv, ev_cn, ev_cb, ev_ci, ev_cs, ev_bin, ev_neg, ev_nt, ev_cmp, ev_cmp2, ev_an, ev_or, ev_tup, ev_lst, ev_call, ev_bi, ev_isi, ev_ix, ev_sl, ev_rev, ev_rgL, ev_rgT, ev_lset, ev_sset, ev_comp, ev_join, ev_split, ea_nil, ea_cons, eo_nil, ec_nil, ei_rg, ei_zip, ei_enum, nxt_nx, nxt_rt, es_set, es_setO, es_unp, es_par, es_app, es_sti, es_ifs, es_for, es_skip, es_seq, es_retv, turn_of, forB_of, bindT1, bindT2, bindEach, wipeE, getV, getB, start0, List.length_cons, List.length_nil, List.getElem?_cons_zero, List.getElem?_cons_succ, List.set_cons_zero, List.set_cons_succ, List.cons_append, List.nil_append, List.replicate_succ, List.replicate_zero, if_true, if_false, reduceIte, Nat.reduceAdd, Nat.reduceSub, Nat.reduceLeDiff, Bool.false_eq_true, Bool.true_eq_false, Bool.not_true, Bool.not_false, reduceCtorEq, Nat.zero_add, true_and, and_true, ei_var, ei_bv, ei_ix, ei_call, ei_bi, ei_tup, ei_lst, ei_comp, ei_rev, ei_bin, ei_rgL, ei_rgT, ei_sset, ei_sl, ei_split, ec_cmp, ec_cmp2, ec_an, ec_or, ec_nt, ec_call, ec_isi, ec_bv, ec_var, ec_bi, ec_cb, eo_ci, eo_bv, eo_var, eo_neg, eo_bin, eo_bi, eo_ix, eo_call, er_bv, er_ix, er_call, er_bi, er_tup, er_lst, er_comp, er_rev, er_bin, er_rgL, er_rgT, er_sset, er_lset, er_sl, er_split, er_join, er_cmp, er_cmp2, er_an, er_or, er_nt, er_isi, er_ci, er_cb, er_cn, er_cs, er_neg, valS_val, valS_own, retD_rt, retD_nx, boolD_b, intD_i, listD_l, tupD_t, ownS_o, items_l, items_t, isi_b, isi_i, isi_n, isi_ii, isi_tt, len_l, len_t, tu_l, tu_t, li_l, li_t, int_b, add_i, add_l, add_t, sub_i, opI_i, rev_l, rev_t, sl_l, sl_t, zip_t, zip_l, zip_tl, sq2_t, sq2_l, bi_len, bi_min, bi_max, bi_sum, bi_all, bi_any, bi_int, bi_str, bi_tuple, bi_list, bi_sorted, opB_add, opB_sub, opB_mul, opB_div, opB_mod, opC_eq, opC_ne, opC_lt, opC_le, opC_gt, opC_ge, opC_is, opC_isn, opC_isb, opC_isnb, opC_in, opC_nin, isN_n, isN_i, ieA1, List.map_cons, List.map_nil, ix_0]
      have f2 : evE (Ph (n + 1)) ieA2 [.val (.str x), .val (.list ((Txt.split x (ch 61)).map .str)), .val (.list ((Txt.split l (ch 45)).map .str))] = some (.str b) := by
        rw [← o1_eq, e']
        simp only [o1_some, o1_none, o1_map, o1_if, o1_test, ev_var, ev_bv, ev_cn, ev_cb, ev_ci, ev_cs, ev_bin, ev_neg, ev_nt, ev_cmp, ev_cmp2, ev_an, ev_or, ev_tup, ev_lst, ev_call, ev_bi, ev_isi, ev_ix, ev_sl, ev_rev, ev_rgL, ev_rgT, ev_lset, ev_sset, ev_comp, ev_join, ev_split, ea_nil, ea_cons, eo_nil, ec_nil, ei_rg, ei_zip, ei_enum, nxt_nx, nxt_rt, es_set, es_setO, es_unp, es_par, es_app, es_sti, es_ifs, es_for, es_skip, es_seq, es_retv, turn_of, forB_of, bindT1, bindT2, bindEach, wipeE, getV, getB, start0, List.length_cons, List.length_nil, List.getElem?_cons_zero, List.getElem?_cons_succ, List.set_cons_zero, List.set_cons_succ, List.cons_append, List.nil_append, List.replicate_succ, List.replicate_zero, if_true, if_false, reduceIte, Nat.reduceAdd, Nat.reduceSub, Nat.reduceLeDiff, Bool.false_eq_true, Bool.true_eq_false, Bool.not_true, Bool.not_false, reduceCtorEq, Nat.zero_add, true_and, and_true, ei_var, ei_bv, ei_ix, ei_call, ei_bi, ei_tup, ei_lst, ei_comp, ei_rev, ei_bin, ei_rgL, ei_rgT, ei_sset, ei_sl, ei_split, ec_cmp, ec_cmp2, ec_an, ec_or, ec_nt, ec_call, ec_isi, ec_bv, ec_var, ec_bi, ec_cb, eo_ci, eo_bv, eo_var, eo_neg, eo_bin, eo_bi, eo_ix, eo_call, er_bv, er_ix, er_call, er_bi, er_tup, er_lst, er_comp, er_rev, er_bin, er_rgL, er_rgT, er_sset, er_lset, er_sl, er_split, er_join, er_cmp, er_cmp2, er_an, er_or, er_nt, er_isi, er_ci, er_cb, er_cn, er_cs, er_neg, valS_val, valS_own, retD_rt, retD_nx, boolD_b, intD_i, listD_l, tupD_t, ownS_o, items_l, items_t, isi_b, isi_i, isi_n, isi_ii, isi_tt, len_l, len_t, tu_l, tu_t, li_l, li_t, int_b, add_i, add_l, add_t, sub_i, opI_i, rev_l, rev_t, sl_l, sl_t, zip_t, zip_l, zip_tl, sq2_t, sq2_l, bi_len, bi_min, bi_max, bi_sum, bi_all, bi_any, bi_int, bi_str, bi_tuple, bi_list, bi_sorted, opB_add, opB_sub, opB_mul, opB_div, opB_mod, opC_eq, opC_ne, opC_lt, opC_le, opC_gt, opC_ge, opC_is, opC_isn, opC_isb, opC_isnb, opC_in, opC_nin, isN_n, isN_i, ieA2, List.map_cons, List.map_nil, ix_1]
      have f3 : evE (Ph (n + 1)) ieA3 [.val (.str x), .val (.list ((Txt.split x (ch 61)).map .str)), .val (.list ((Txt.split l (ch 45)).map .str))] = some (.str r) := by
        rw [← o1_eq, e]
        simp only [o1_some, o1_none, o1_map, o1_if, o1_test, ev_var, ev_bv, ev_cn, ev_cb, ev_ci, ev_cs, ev_bin, ev_neg, ev_nt, ev_cmp, ev_cmp2, ev_an, ev_or, ev_tup, ev_lst, ev_call, ev_bi, ev_isi, ev_ix, ev_sl, ev_rev, ev_rgL, ev_rgT, ev_lset, ev_sset, ev_comp, ev_join, ev_split, ea_nil, ea_cons, eo_nil, ec_nil, ei_rg, ei_zip, ei_enum, nxt_nx, nxt_rt, es_set, es_setO, es_unp, es_par, es_app, es_sti, es_ifs, es_for, es_skip, es_seq, es_retv, turn_of, forB_of, bindT1, bindT2, bindEach, wipeE, getV, getB, start0, List.length_cons, List.length_nil, List.getElem?_cons_zero, List.getElem?_cons_succ, List.set_cons_zero, List.set_cons_succ, List.cons_append, List.nil_append, List.replicate_succ, List.replicate_zero, if_true, if_false, reduceIte, Nat.reduceAdd, Nat.reduceSub, Nat.reduceLeDiff, Bool.false_eq_true, Bool.true_eq_false, Bool.not_true, Bool.not_false, reduceCtorEq, Nat.zero_add, true_and, and_true, ei_var, ei_bv, ei_ix, ei_call, ei_bi, ei_tup, ei_lst, ei_comp, ei_rev, ei_bin, ei_rgL, ei_rgT, ei_sset, ei_sl, ei_split, ec_cmp, ec_cmp2, ec_an, ec_or, ec_nt, ec_call, ec_isi, ec_bv, ec_var, ec_bi, ec_cb, eo_ci, eo_bv, eo_var, eo_neg, eo_bin, eo_bi, eo_ix, eo_call, er_bv, er_ix, er_call, er_bi, er_tup, er_lst, er_comp, er_rev, er_bin, er_rgL, er_rgT, er_sset, er_lset, er_sl, er_split, er_join, er_cmp, er_cmp2, er_an, er_or, er_nt, er_isi, er_ci, er_cb, er_cn, er_cs, er_neg, valS_val, valS_own, retD_rt, retD_nx, boolD_b, intD_i, listD_l, tupD_t, ownS_o, items_l, items_t, isi_b, isi_i, isi_n, isi_ii, isi_tt, len_l, len_t, tu_l, tu_t, li_l, li_t, int_b, add_i, add_l, add_t, sub_i, opI_i, rev_l, rev_t, sl_l, sl_t, zip_t, zip_l, zip_tl, sq2_t, sq2_l, bi_len, bi_min, bi_max, bi_sum, bi_all, bi_any, bi_int, bi_str, bi_tuple, bi_list, bi_sorted, opB_add, opB_sub, opB_mul, opB_div, opB_mod, opC_eq, opC_ne, opC_lt, opC_le, opC_gt, opC_ge, opC_is, opC_isn, opC_isb, opC_isnb, opC_in, opC_nin, isN_n, isN_i, ieA3, List.map_cons, List.map_nil, ix_1]
      have ft : tieP x = (match numP a with
        | some i => (match numP b with
          | some j => (match numP r with
            | some k => some (i, j, k)
            | none => none)
          | none => none)
        | none => none) := by
        unfold tieP
        rw [e]
        dsimp only
        rw [e']
      simp only [h3, decide_true, Bool.not_true, argX, f1, f2, f3, num_x n (show a.length ≤ 100000 by omega), num_x n (show b.length ≤ 100000 by omega), num_x n (show r.length ≤ 100000 by omega), ft]
      cases ha' : numP a with
      | none => simp only [numP_none.mp ha', Bool.not_false, Option.map_some, Option.isNone_none]
      | some i =>
        simp only [(numP_some ha').1, Bool.not_true, num_v n (show a.length ≤ 100000 by omega) ha']
        cases hb' : numP b with
        | none => simp only [numP_none.mp hb', Bool.not_false, Option.map_some, Option.isNone_none]
        | some j =>
          simp only [(numP_some hb').1, Bool.not_true, num_v n (show b.length ≤ 100000 by omega) hb']
          cases hr' : numP r with
          | none => simp only [numP_none.mp hr', Bool.not_false, Option.map_some, Option.isNone_none]
          | some k => simp only [(numP_some hr').1, Bool.not_true, num_v n (show r.length ≤ 100000 by omega) hr', Option.map_some, Option.isNone_some]
    · simp only [h3, decide_false, Bool.not_false, tieP_2 e h3, Option.isNone_none]
  · simp only [h2, decide_false, Bool.not_false, tieP_1 h2, Option.isNone_none]
theorem tieP_some {x : Str} {t : T3} (h : tieP x = some t) : ∃ l r a b, Txt.split x (ch 61) = [l, r] ∧ Txt.split l (ch 45) = [a, b] ∧ numP a = some t.1 ∧ numP b = some t.2.1 ∧ numP r = some t.2.2 := by
  unfold tieP at h
  split at h
  · rename_i l r e
    split at h
    · rename_i a b e'
      split at h
      · rename_i i hi
        split at h
        · rename_i j hj
          split at h
          · rename_i k hk
            cases h
            exact ⟨l, r, a, b, e, e', hi, hj, hk⟩
          · cases h
        · cases h
      · cases h
    · cases h
  · cases h
theorem tie_v (n : Nat) {x : Str} {t : T3} (hx : x.length ≤ 90000) (h : tieP x = some t) : Ph (n + 2) 104 [.str x] = some (encT t) := by
  obtain ⟨l, r, a, b, e, e', h1, h2, h3⟩ := tieP_some h
  have hl : l.length ≤ 90000 := Nat.le_trans (cutp_len (c := 61) (by rw [e]; simp)) hx
  have hr : r.length ≤ 90000 := Nat.le_trans (cutp_len (c := 61) (by rw [e]; simp)) hx
  have ha : a.length ≤ 90000 := Nat.le_trans (cutp_len (c := 45) (by rw [e']; simp)) hl
  have hb : b.length ≤ 90000 := Nat.le_trans (cutp_len (c := 45) (by rw [e']; simp)) hl
  have e2 : opEq (.int ((2 : Nat) : Int)) (.int 2) = some true := rfl
  show evF (Ph (n + 1)) fd104 [.str x] = _
  rw [← o1_eq, ef_of rfl]
  simp only [o1_some, o1_none, o1_map, o1_if, o1_test, ev_var, ev_bv, ev_cn, ev_cb, ev_ci, ev_cs, ev_bin, ev_neg, ev_nt, ev_cmp, ev_cmp2, ev_an, ev_or, ev_tup, ev_lst, ev_call, ev_bi, ev_isi, ev_ix, ev_sl, ev_rev, ev_rgL, ev_rgT, ev_lset, ev_sset, ev_comp, ev_join, ev_split, ea_nil, ea_cons, eo_nil, ec_nil, ei_rg, ei_zip, ei_enum, nxt_nx, nxt_rt, es_set, es_setO, es_unp, es_par, es_app, es_sti, es_ifs, es_for, es_skip, es_seq, es_retv, turn_of, forB_of, bindT1, bindT2, bindEach, wipeE, getV, getB, start0, List.length_cons, List.length_nil, List.getElem?_cons_zero, List.getElem?_cons_succ, List.set_cons_zero, List.set_cons_succ, List.cons_append, List.nil_append, List.replicate_succ, List.replicate_zero, if_true, if_false, reduceIte, Nat.reduceAdd, Nat.reduceSub, Nat.reduceLeDiff, Bool.false_eq_true, Bool.true_eq_false, Bool.not_true, Bool.not_false, reduceCtorEq, Nat.zero_add, true_and, and_true, ei_var, ei_bv, ei_ix, ei_call, ei_bi, ei_tup, ei_lst, ei_comp, ei_rev, ei_bin, ei_rgL, ei_rgT, ei_sset, ei_sl, ei_split, ec_cmp, ec_cmp2, ec_an, ec_or, ec_nt, ec_call, ec_isi, ec_bv, ec_var, ec_bi, ec_cb, eo_ci, eo_bv, eo_var, eo_neg, eo_bin, eo_bi, eo_ix, eo_call, er_bv, er_ix, er_call, er_bi, er_tup, er_lst, er_comp, er_rev, er_bin, er_rgL, er_rgT, er_sset, er_lset, er_sl, er_split, er_join, er_cmp, er_cmp2, er_an, er_or, er_nt, er_isi, er_ci, er_cb, er_cn, er_cs, er_neg, valS_val, valS_own, retD_rt, retD_nx, boolD_b, intD_i, listD_l, tupD_t, ownS_o, items_l, items_t, isi_b, isi_i, isi_n, isi_ii, isi_tt, len_l, len_t, tu_l, tu_t, li_l, li_t, int_b, add_i, add_l, add_t, sub_i, opI_i, rev_l, rev_t, sl_l, sl_t, zip_t, zip_l, zip_tl, sq2_t, sq2_l, bi_len, bi_min, bi_max, bi_sum, bi_all, bi_any, bi_int, bi_str, bi_tuple, bi_list, bi_sorted, opB_add, opB_sub, opB_mul, opB_div, opB_mod, opC_eq, opC_ne, opC_lt, opC_le, opC_gt, opC_ge, opC_is, opC_isn, opC_isb, opC_isnb, opC_in, opC_nin, isN_n, isN_i, fd104, s_eq, s_mi, split_ev (show x.length ≤ 100000 by omega), e, List.map_cons, List.map_nil, e2, ix_0, ix_1, split_ev (show l.length ≤ 100000 by omega), e', num_v n (show a.length ≤ 100000 by omega) h1, num_v n (show b.length ≤ 100000 by omega) h2, num_v n (show r.length ≤ 100000 by omega) h3]
  rfl
end J

/-! read, evaluated: the whole text. -/
namespace J
open PySem
def tiesP : List Str → Option (List T3)
  | [] => some []
  | x :: r => match tieP x with
    | some t => (match tiesP r with
      | some ts => some (t :: ts)
      | none => none)
    | none => none
def webP (x : Str) : Option Web := match Txt.split x (ch 32) with
  | m :: c :: ws => if c = ch 58 then (match numP m with
    | some k => (match tiesP ws with
      | some ts => some ⟨k, ts⟩
      | none => none)
    | none => none) else none
  | _ => none
def readP (x : Str) : Option Web := match webP x with
  | some w => if isWebD (encW w) = true ∧ textW w = x then some w else none
  | none => none
theorem ties_x (n : Nat) : ∀ {ws : List Str}, (∀ w ∈ ws, w.length ≤ 90000) → wordsX 104 135 (Ph (n + 2)) (ws.map .str) = some (tiesP ws).isNone
  | [], _ => rfl
  | x :: r, h => by
    have hx := h x List.mem_cons_self
    have ih := ties_x n (ws := r) fun w hw => h w (List.mem_cons_of_mem _ hw)
    simp only [List.map_cons, wordsX, tie_x n hx, tiesP]
    cases ht : tieP x with
    | none => simp only [Option.isNone_none]
    | some t =>
      simp only [Option.isNone_some, tie_v n hx ht, ih]
      cases tiesP r <;> rfl
theorem ties_v (n : Nat) : ∀ {ws : List Str} {ts : List T3}, (∀ w ∈ ws, w.length ≤ 90000) → tiesP ws = some ts → ∀ {env : En}, env.length = 4 → compL (turnC [3] [3] (evC (Ph (n + 2)) .nil) (evE (Ph (n + 2)) (.call 104 (.cons (.var 3) .nil))) env) (ws.map .str) = some (ts.map encT)
  | [], ts, _, h, env, _ => by cases h; rfl
  | x :: r, ts, hl, h, env, he => by
    simp only [tiesP] at h
    split at h
    · rename_i t ht
      split at h
      · rename_i ts' hts
        cases h
        have ih := ties_v n (fun w hw => hl w (List.mem_cons_of_mem _ hw)) hts (env := env) he
        have h1 := tie_v n (hl x List.mem_cons_self) ht
        obtain ⟨a, b, c, d, rfl⟩ : ∃ a b c d, env = [a, b, c, d] := by
          match env, he with
          | [a, b, c, d], _ => exact ⟨a, b, c, d, rfl⟩
        have e1 : turnC [3] [3] (evC (Ph (n + 2)) .nil) (evE (Ph (n + 2)) (.call 104 (.cons (.var 3) .nil))) [a, b, c, d] (.str x) = some (some (encT t)) := by
          rw [← o1_eq]
          simp only [o1_some, o1_none, o1_map, o1_if, o1_test, ev_var, ev_bv, ev_cn, ev_cb, ev_ci, ev_cs, ev_bin, ev_neg, ev_nt, ev_cmp, ev_cmp2, ev_an, ev_or, ev_tup, ev_lst, ev_call, ev_bi, ev_isi, ev_ix, ev_sl, ev_rev, ev_rgL, ev_rgT, ev_lset, ev_sset, ev_comp, ev_join, ev_split, ea_nil, ea_cons, eo_nil, ec_nil, ei_rg, ei_zip, ei_enum, nxt_nx, nxt_rt, es_set, es_setO, es_unp, es_par, es_app, es_sti, es_ifs, es_for, es_skip, es_seq, es_retv, turn_of, forB_of, bindT1, bindT2, bindEach, wipeE, getV, getB, start0, List.length_cons, List.length_nil, List.getElem?_cons_zero, List.getElem?_cons_succ, List.set_cons_zero, List.set_cons_succ, List.cons_append, List.nil_append, List.replicate_succ, List.replicate_zero, if_true, if_false, reduceIte, Nat.reduceAdd, Nat.reduceSub, Nat.reduceLeDiff, Bool.false_eq_true, Bool.true_eq_false, Bool.not_true, Bool.not_false, reduceCtorEq, Nat.zero_add, true_and, and_true, ei_var, ei_bv, ei_ix, ei_call, ei_bi, ei_tup, ei_lst, ei_comp, ei_rev, ei_bin, ei_rgL, ei_rgT, ei_sset, ei_sl, ei_split, ec_cmp, ec_cmp2, ec_an, ec_or, ec_nt, ec_call, ec_isi, ec_bv, ec_var, ec_bi, ec_cb, eo_ci, eo_bv, eo_var, eo_neg, eo_bin, eo_bi, eo_ix, eo_call, er_bv, er_ix, er_call, er_bi, er_tup, er_lst, er_comp, er_rev, er_bin, er_rgL, er_rgT, er_sset, er_lset, er_sl, er_split, er_join, er_cmp, er_cmp2, er_an, er_or, er_nt, er_isi, er_ci, er_cb, er_cn, er_cs, er_neg, valS_val, valS_own, retD_rt, retD_nx, boolD_b, intD_i, listD_l, tupD_t, ownS_o, items_l, items_t, isi_b, isi_i, isi_n, isi_ii, isi_tt, len_l, len_t, tu_l, tu_t, li_l, li_t, int_b, add_i, add_l, add_t, sub_i, opI_i, rev_l, rev_t, sl_l, sl_t, zip_t, zip_l, zip_tl, sq2_t, sq2_l, bi_len, bi_min, bi_max, bi_sum, bi_all, bi_any, bi_int, bi_str, bi_tuple, bi_list, bi_sorted, opB_add, opB_sub, opB_mul, opB_div, opB_mod, opC_eq, opC_ne, opC_lt, opC_le, opC_gt, opC_ge, opC_is, opC_isn, opC_isb, opC_isnb, opC_in, opC_nin, isN_n, isN_i, h1]
        simp only [List.map_cons, compL, e1, ih]
      · cases h
    · cases h
theorem webD_iff {w : Web} : isWebD (encW w) = true ↔ Wok w := by
  have tk : ∀ t : T3, isTie (w.many : Int) (encT t) = true ↔ Tok w.many t := fun t => by
    unfold encT isTie
    simp only [isNum, ltI, Bool.and_eq_true, decide_eq_true_eq]
    unfold Tok
    omega
  unfold encW isWebD
  simp only [isNum, Bool.and_eq_true, decide_eq_true_eq, List.length_map, List.all_eq_true, List.mem_map]
  constructor
  · rintro ⟨⟨h1, h2⟩, h3, h4⟩
    exact ⟨by omega, by omega, h3, fun t ht => (tk t).mp (h4 _ ⟨t, ht, rfl⟩)⟩
  · intro h
    refine ⟨⟨by have := h.lo; omega, by have := h.hi; omega⟩, h.len, ?_⟩
    rintro x ⟨t, ht, rfl⟩
    exact (tk t).mpr (h.ok t ht)
theorem nd_W {w : Web} : nd4 (encW w) = true := by
  have h1 : nd3 (.tuple (w.ties.map encT)) = true := by
    simp only [nd3, List.all_eq_true, List.mem_map]
    rintro x ⟨t, _, rfl⟩
    rfl
  show ([.int (w.many : Int), .tuple (w.ties.map encT)] : List D).all nd3 = true
  simp only [List.all_cons, List.all_nil, h1, Bool.and_true]
  rfl
theorem readP_some {x : Str} {w : Web} (h : readP x = some w) : webP x = some w ∧ Wok w ∧ textW w = x := by
  unfold readP at h
  split at h
  · rename_i w' hw
    split at h
    · rename_i hc
      cases h
      exact ⟨hw, webD_iff.mp hc.1, hc.2⟩
    · cases h
  · cases h
theorem webP_some {x : Str} {w : Web} (h : webP x = some w) : ∃ m ws, Txt.split x (ch 32) = m :: ch 58 :: ws ∧ numP m = some w.many ∧ tiesP ws = some w.ties := by
  unfold webP at h
  split at h
  · rename_i m c ws e
    split at h
    · rename_i hc
      subst hc
      split at h
      · rename_i k hk
        split at h
        · rename_i ts hts
          cases h
          exact ⟨m, ws, e, hk, hts⟩
        · cases h
      · cases h
    · cases h
  · cases h
theorem opEq_ss {a b : Str} : opEq (.str a) (.str b) = some (decide (a = b)) := by
  show (if scalP (.str a) (.str b) then some (PyData.eqv (.str a) (.str b)) else _) = _
  rw [if_pos (show scalP (.str a) (.str b) = true from rfl)]
  congr 1
theorem is_s {x : Str} : evIsi .str (.str x) = some true := rfl
theorem cut2 {ws : List D} {a b : D} : cutD (a :: b :: ws) (some 2) none = ws := cutD_from (a :: b :: ws) 2
theorem lx0 {a : D} {r : List D} : opIx (.list (a :: r)) (.int 0) = some a := by
  simp only [opIx]
  exact atI_nat (xs := a :: r) (k := 0)
theorem lx1 {a b : D} {r : List D} : opIx (.list (a :: b :: r)) (.int 1) = some b := by
  simp only [opIx]
  exact atI_nat (xs := a :: b :: r) (k := 1)
/-- found, where the parts are read -/
theorem found_ev (n : Nat) {x m : Str} {ws : List Str} {w : Web} (hx : x.length ≤ 30000) (e : Txt.split x (ch 32) = m :: ch 58 :: ws) (hm : numP m = some w.many) (hw : tiesP ws = some w.ties) (s0 s2 s3 : Sl) :
    O1 (evE (Ph (n + 2)) (ieR3 103 104) [s0, .val (.list ((Txt.split x (ch 32)).map .str)), s2, s3]) (· = encW w) := by
  have hsl := sum_len (x := x) (c := 32)
  have hln : ws.length + 2 ≤ x.length + 1 := by
    rw [e] at hsl
    simp only [List.length_cons] at hsl
    omega
  have hlm : m.length ≤ 30000 := Nat.le_trans (cutp_len (c := 32) (by rw [e]; simp)) hx
  have hlw : ∀ y ∈ ws, y.length ≤ 90000 := fun y hy => Nat.le_trans (cutp_len (c := 32) (x := x) (by rw [e]; simp [hy])) (by omega)
  have hc := ties_v n hlw hw (env := [s0, .val (.list ((Txt.split x (ch 32)).map .str)), s2, s3]) rfl
  rw [e, List.map_cons, List.map_cons] at hc ⊢
  simp only [o1_some, o1_none, o1_map, o1_if, o1_test, ev_var, ev_bv, ev_cn, ev_cb, ev_ci, ev_cs, ev_bin, ev_neg, ev_nt, ev_cmp, ev_cmp2, ev_an, ev_or, ev_tup, ev_lst, ev_call, ev_bi, ev_isi, ev_ix, ev_sl, ev_rev, ev_rgL, ev_rgT, ev_lset, ev_sset, ev_comp, ev_join, ev_split, ea_nil, ea_cons, eo_nil, ec_nil, ei_rg, ei_zip, ei_enum, nxt_nx, nxt_rt, es_set, es_setO, es_unp, es_par, es_app, es_sti, es_ifs, es_for, es_skip, es_seq, es_retv, turn_of, forB_of, bindT1, bindT2, bindEach, wipeE, getV, getB, start0, List.length_cons, List.length_nil, List.getElem?_cons_zero, List.getElem?_cons_succ, List.set_cons_zero, List.set_cons_succ, List.cons_append, List.nil_append, List.replicate_succ, List.replicate_zero, if_true, if_false, reduceIte, Nat.reduceAdd, Nat.reduceSub, Nat.reduceLeDiff, Bool.false_eq_true, Bool.true_eq_false, Bool.not_true, Bool.not_false, reduceCtorEq, Nat.zero_add, true_and, and_true, ei_var, ei_bv, ei_ix, ei_call, ei_bi, ei_tup, ei_lst, ei_comp, ei_rev, ei_bin, ei_rgL, ei_rgT, ei_sset, ei_sl, ei_split, ec_cmp, ec_cmp2, ec_an, ec_or, ec_nt, ec_call, ec_isi, ec_bv, ec_var, ec_bi, ec_cb, eo_ci, eo_bv, eo_var, eo_neg, eo_bin, eo_bi, eo_ix, eo_call, er_bv, er_ix, er_call, er_bi, er_tup, er_lst, er_comp, er_rev, er_bin, er_rgL, er_rgT, er_sset, er_lset, er_sl, er_split, er_join, er_cmp, er_cmp2, er_an, er_or, er_nt, er_isi, er_ci, er_cb, er_cn, er_cs, er_neg, valS_val, valS_own, retD_rt, retD_nx, boolD_b, intD_i, listD_l, tupD_t, ownS_o, items_l, items_t, isi_b, isi_i, isi_n, isi_ii, isi_tt, len_l, len_t, tu_l, tu_t, li_l, li_t, int_b, add_i, add_l, add_t, sub_i, opI_i, rev_l, rev_t, sl_l, sl_t, zip_t, zip_l, zip_tl, sq2_t, sq2_l, bi_len, bi_min, bi_max, bi_sum, bi_all, bi_any, bi_int, bi_str, bi_tuple, bi_list, bi_sorted, opB_add, opB_sub, opB_mul, opB_div, opB_mod, opC_eq, opC_ne, opC_lt, opC_le, opC_gt, opC_ge, opC_is, opC_isn, opC_isb, opC_isnb, opC_in, opC_nin, isN_n, isN_i, ieR3, ieRa, ieRs, lx0, num_v (n + 1) (show m.length ≤ 100000 by omega) hm, cut2]
  refine ⟨by rw [List.length_map]; omega, ?_⟩
  rw [hc, o1_some]
  rfl
theorem read_x (n : Nat) {x : Str} (hx : x.length ≤ 30000) : Ph (n + 4) 136 [.str x] = some (.bool (readP x).isNone) := by
  show readXD 103 134 104 135 8 0 (Ph (n + 3)) [.str x] = _
  have e0 : evE (Ph (n + 3)) ieR0 [.val (.str x), .no, .no, .no] = some (.bool false) := by
    rw [← o1_eq]
    simp only [o1_some, o1_none, o1_map, o1_if, o1_test, ev_var, ev_bv, ev_cn, ev_cb, ev_ci, ev_cs, ev_bin, ev_neg, ev_nt, ev_cmp, ev_cmp2, ev_an, ev_or, ev_tup, ev_lst, ev_call, ev_bi, ev_isi, ev_ix, ev_sl, ev_rev, ev_rgL, ev_rgT, ev_lset, ev_sset, ev_comp, ev_join, ev_split, ea_nil, ea_cons, eo_nil, ec_nil, ei_rg, ei_zip, ei_enum, nxt_nx, nxt_rt, es_set, es_setO, es_unp, es_par, es_app, es_sti, es_ifs, es_for, es_skip, es_seq, es_retv, turn_of, forB_of, bindT1, bindT2, bindEach, wipeE, getV, getB, start0, List.length_cons, List.length_nil, List.getElem?_cons_zero, List.getElem?_cons_succ, List.set_cons_zero, List.set_cons_succ, List.cons_append, List.nil_append, List.replicate_succ, List.replicate_zero, if_true, if_false, reduceIte, Nat.reduceAdd, Nat.reduceSub, Nat.reduceLeDiff, Bool.false_eq_true, Bool.true_eq_false, Bool.not_true, Bool.not_false, reduceCtorEq, Nat.zero_add, true_and, and_true, ei_var, ei_bv, ei_ix, ei_call, ei_bi, ei_tup, ei_lst, ei_comp, ei_rev, ei_bin, ei_rgL, ei_rgT, ei_sset, ei_sl, ei_split, ec_cmp, ec_cmp2, ec_an, ec_or, ec_nt, ec_call, ec_isi, ec_bv, ec_var, ec_bi, ec_cb, eo_ci, eo_bv, eo_var, eo_neg, eo_bin, eo_bi, eo_ix, eo_call, er_bv, er_ix, er_call, er_bi, er_tup, er_lst, er_comp, er_rev, er_bin, er_rgL, er_rgT, er_sset, er_lset, er_sl, er_split, er_join, er_cmp, er_cmp2, er_an, er_or, er_nt, er_isi, er_ci, er_cb, er_cn, er_cs, er_neg, valS_val, valS_own, retD_rt, retD_nx, boolD_b, intD_i, listD_l, tupD_t, ownS_o, items_l, items_t, isi_b, isi_i, isi_n, isi_ii, isi_tt, len_l, len_t, tu_l, tu_t, li_l, li_t, int_b, add_i, add_l, add_t, sub_i, opI_i, rev_l, rev_t, sl_l, sl_t, zip_t, zip_l, zip_tl, sq2_t, sq2_l, bi_len, bi_min, bi_max, bi_sum, bi_all, bi_any, bi_int, bi_str, bi_tuple, bi_list, bi_sorted, opB_add, opB_sub, opB_mul, opB_div, opB_mod, opC_eq, opC_ne, opC_lt, opC_le, opC_gt, opC_ge, opC_is, opC_isn, opC_isb, opC_isnb, opC_in, opC_nin, isN_n, isN_i, ieR0, is_s]
  have e1 : evE (Ph (n + 3)) ieR1 [.val (.str x), .no, .no, .no] = some (.list ((Txt.split x (ch 32)).map .str)) := by
    rw [← o1_eq]
    simp only [o1_some, o1_none, o1_map, o1_if, o1_test, ev_var, ev_bv, ev_cn, ev_cb, ev_ci, ev_cs, ev_bin, ev_neg, ev_nt, ev_cmp, ev_cmp2, ev_an, ev_or, ev_tup, ev_lst, ev_call, ev_bi, ev_isi, ev_ix, ev_sl, ev_rev, ev_rgL, ev_rgT, ev_lset, ev_sset, ev_comp, ev_join, ev_split, ea_nil, ea_cons, eo_nil, ec_nil, ei_rg, ei_zip, ei_enum, nxt_nx, nxt_rt, es_set, es_setO, es_unp, es_par, es_app, es_sti, es_ifs, es_for, es_skip, es_seq, es_retv, turn_of, forB_of, bindT1, bindT2, bindEach, wipeE, getV, getB, start0, List.length_cons, List.length_nil, List.getElem?_cons_zero, List.getElem?_cons_succ, List.set_cons_zero, List.set_cons_succ, List.cons_append, List.nil_append, List.replicate_succ, List.replicate_zero, if_true, if_false, reduceIte, Nat.reduceAdd, Nat.reduceSub, Nat.reduceLeDiff, Bool.false_eq_true, Bool.true_eq_false, Bool.not_true, Bool.not_false, reduceCtorEq, Nat.zero_add, true_and, and_true, ei_var, ei_bv, ei_ix, ei_call, ei_bi, ei_tup, ei_lst, ei_comp, ei_rev, ei_bin, ei_rgL, ei_rgT, ei_sset, ei_sl, ei_split, ec_cmp, ec_cmp2, ec_an, ec_or, ec_nt, ec_call, ec_isi, ec_bv, ec_var, ec_bi, ec_cb, eo_ci, eo_bv, eo_var, eo_neg, eo_bin, eo_bi, eo_ix, eo_call, er_bv, er_ix, er_call, er_bi, er_tup, er_lst, er_comp, er_rev, er_bin, er_rgL, er_rgT, er_sset, er_lset, er_sl, er_split, er_join, er_cmp, er_cmp2, er_an, er_or, er_nt, er_isi, er_ci, er_cb, er_cn, er_cs, er_neg, valS_val, valS_own, retD_rt, retD_nx, boolD_b, intD_i, listD_l, tupD_t, ownS_o, items_l, items_t, isi_b, isi_i, isi_n, isi_ii, isi_tt, len_l, len_t, tu_l, tu_t, li_l, li_t, int_b, add_i, add_l, add_t, sub_i, opI_i, rev_l, rev_t, sl_l, sl_t, zip_t, zip_l, zip_tl, sq2_t, sq2_l, bi_len, bi_min, bi_max, bi_sum, bi_all, bi_any, bi_int, bi_str, bi_tuple, bi_list, bi_sorted, opB_add, opB_sub, opB_mul, opB_div, opB_mod, opC_eq, opC_ne, opC_lt, opC_le, opC_gt, opC_ge, opC_is, opC_isn, opC_isb, opC_isnb, opC_in, opC_nin, isN_n, isN_i, ieR1, s_sp, split_ev (show x.length ≤ 100000 by omega)]
  simp only [readXD, e0, e1]
  have hsl := sum_len (x := x) (c := 32)
  have short : (Txt.split x (ch 32)).length < 2 → evE (Ph (n + 3)) ieR2 [.val (.str x), .val (.list ((Txt.split x (ch 32)).map .str)), .no, .no] = some (.bool true) := fun h => by
    have h' : ((Txt.split x (ch 32)).length : Int) < 2 := by omega
    rw [← o1_eq]
    simp only [o1_some, o1_none, o1_map, o1_if, o1_test, ev_var, ev_bv, ev_cn, ev_cb, ev_ci, ev_cs, ev_bin, ev_neg, ev_nt, ev_cmp, ev_cmp2, ev_an, ev_or, ev_tup, ev_lst, ev_call, ev_bi, ev_isi, ev_ix, ev_sl, ev_rev, ev_rgL, ev_rgT, ev_lset, ev_sset, ev_comp, ev_join, ev_split, ea_nil, ea_cons, eo_nil, ec_nil, ei_rg, ei_zip, ei_enum, nxt_nx, nxt_rt, es_set, es_setO, es_unp, es_par, es_app, es_sti, es_ifs, es_for, es_skip, es_seq, es_retv, turn_of, forB_of, bindT1, bindT2, bindEach, wipeE, getV, getB, start0, List.length_cons, List.length_nil, List.getElem?_cons_zero, List.getElem?_cons_succ, List.set_cons_zero, List.set_cons_succ, List.cons_append, List.nil_append, List.replicate_succ, List.replicate_zero, if_true, if_false, reduceIte, Nat.reduceAdd, Nat.reduceSub, Nat.reduceLeDiff, Bool.false_eq_true, Bool.true_eq_false, Bool.not_true, Bool.not_false, reduceCtorEq, Nat.zero_add, true_and, and_true, ei_var, ei_bv, ei_ix, ei_call, ei_bi, ei_tup, ei_lst, ei_comp, ei_rev, ei_bin, ei_rgL, ei_rgT, ei_sset, ei_sl, ei_split, ec_cmp, ec_cmp2, ec_an, ec_or, ec_nt, ec_call, ec_isi, ec_bv, ec_var, ec_bi, ec_cb, eo_ci, eo_bv, eo_var, eo_neg, eo_bin, eo_bi, eo_ix, eo_call, er_bv, er_ix, er_call, er_bi, er_tup, er_lst, er_comp, er_rev, er_bin, er_rgL, er_rgT, er_sset, er_lset, er_sl, er_split, er_join, er_cmp, er_cmp2, er_an, er_or, er_nt, er_isi, er_ci, er_cb, er_cn, er_cs, er_neg, valS_val, valS_own, retD_rt, retD_nx, boolD_b, intD_i, listD_l, tupD_t, ownS_o, items_l, items_t, isi_b, isi_i, isi_n, isi_ii, isi_tt, len_l, len_t, tu_l, tu_t, li_l, li_t, int_b, add_i, add_l, add_t, sub_i, opI_i, rev_l, rev_t, sl_l, sl_t, zip_t, zip_l, zip_tl, sq2_t, sq2_l, bi_len, bi_min, bi_max, bi_sum, bi_all, bi_any, bi_int, bi_str, bi_tuple, bi_list, bi_sorted, opB_add, opB_sub, opB_mul, opB_div, opB_mod, opC_eq, opC_ne, opC_lt, opC_le, opC_gt, opC_ge, opC_is, opC_isn, opC_isb, opC_isnb, opC_in, opC_nin, isN_n, isN_i, ieR2, List.length_map, h', decide_true]
  cases hs : Txt.split x (ch 32) with
  | nil =>
    have h2 := short (by rw [hs]; simp)
    rw [hs] at h2
    have hp : readP x = none := by unfold readP webP; rw [hs]
    rw [h2, hp]
    rfl
  | cons m r =>
    cases r with
    | nil =>
      have h2 := short (by rw [hs]; simp)
      rw [hs] at h2
      have hp : readP x = none := by unfold readP webP; rw [hs]
      rw [h2, hp]
      rfl
    | cons c ws =>
      have hln : ws.length + 2 ≤ x.length + 1 := by
        rw [hs] at hsl
        simp only [List.length_cons] at hsl
        omega
      have hlm : m.length ≤ 30000 := Nat.le_trans (cutp_len (c := 32) (by rw [hs]; simp)) hx
      have hlw : ∀ y ∈ ws, y.length ≤ 90000 := fun y hy => Nat.le_trans (cutp_len (c := 32) (x := x) (by rw [hs]; simp [hy])) (by omega)
      have e2 : evE (Ph (n + 3)) ieR2 [.val (.str x), .val (.list ((m :: c :: ws).map .str)), .no, .no] = some (.bool (!decide (c = ch 58))) := by
        have h' : ¬ (((m :: c :: ws).length : Nat) : Int) < 2 := by simp only [List.length_cons]; omega
        rw [← o1_eq]
        simp only [o1_some, o1_none, o1_map, o1_if, o1_test, ev_var, ev_bv, ev_cn, ev_cb, ev_ci, ev_cs, ev_bin, ev_neg, ev_nt, ev_cmp, ev_cmp2, ev_an, ev_or, ev_tup, ev_lst, ev_call, ev_bi, ev_isi, ev_ix, ev_sl, ev_rev, ev_rgL, ev_rgT, ev_lset, ev_sset, ev_comp, ev_join, ev_split, ea_nil, ea_cons, eo_nil, ec_nil, ei_rg, ei_zip, ei_enum, nxt_nx, nxt_rt, es_set, es_setO, es_unp, es_par, es_app, es_sti, es_ifs, es_for, es_skip, es_seq, es_retv, turn_of, forB_of, bindT1, bindT2, bindEach, wipeE, getV, getB, start0, List.length_cons, List.length_nil, List.getElem?_cons_zero, List.getElem?_cons_succ, List.set_cons_zero, List.set_cons_succ, List.cons_append, List.nil_append, List.replicate_succ, List.replicate_zero, if_true, if_false, reduceIte, Nat.reduceAdd, Nat.reduceSub, Nat.reduceLeDiff, Bool.false_eq_true, Bool.true_eq_false, Bool.not_true, Bool.not_false, reduceCtorEq, Nat.zero_add, true_and, and_true, ei_var, ei_bv, ei_ix, ei_call, ei_bi, ei_tup, ei_lst, ei_comp, ei_rev, ei_bin, ei_rgL, ei_rgT, ei_sset, ei_sl, ei_split, ec_cmp, ec_cmp2, ec_an, ec_or, ec_nt, ec_call, ec_isi, ec_bv, ec_var, ec_bi, ec_cb, eo_ci, eo_bv, eo_var, eo_neg, eo_bin, eo_bi, eo_ix, eo_call, er_bv, er_ix, er_call, er_bi, er_tup, er_lst, er_comp, er_rev, er_bin, er_rgL, er_rgT, er_sset, er_lset, er_sl, er_split, er_join, er_cmp, er_cmp2, er_an, er_or, er_nt, er_isi, er_ci, er_cb, er_cn, er_cs, er_neg, valS_val, valS_own, retD_rt, retD_nx, boolD_b, intD_i, listD_l, tupD_t, ownS_o, items_l, items_t, isi_b, isi_i, isi_n, isi_ii, isi_tt, len_l, len_t, tu_l, tu_t, li_l, li_t, int_b, add_i, add_l, add_t, sub_i, opI_i, rev_l, rev_t, sl_l, sl_t, zip_t, zip_l, zip_tl, sq2_t, sq2_l, bi_len, bi_min, bi_max, bi_sum, bi_all, bi_any, bi_int, bi_str, bi_tuple, bi_list, bi_sorted, opB_add, opB_sub, opB_mul, opB_div, opB_mod, opC_eq, opC_ne, opC_lt, opC_le, opC_gt, opC_ge, opC_is, opC_isn, opC_isb, opC_isnb, opC_in, opC_nin, isN_n, isN_i, ieR2, List.length_map, h', decide_false, List.map_cons, lx1, s_co, opEq_ss] at h' ⊢
        simp only [h', decide_false, o1_some, o1_none, o1_map, o1_if, o1_test, ev_var, ev_bv, ev_cn, ev_cb, ev_ci, ev_cs, ev_bin, ev_neg, ev_nt, ev_cmp, ev_cmp2, ev_an, ev_or, ev_tup, ev_lst, ev_call, ev_bi, ev_isi, ev_ix, ev_sl, ev_rev, ev_rgL, ev_rgT, ev_lset, ev_sset, ev_comp, ev_join, ev_split, ea_nil, ea_cons, eo_nil, ec_nil, ei_rg, ei_zip, ei_enum, nxt_nx, nxt_rt, es_set, es_setO, es_unp, es_par, es_app, es_sti, es_ifs, es_for, es_skip, es_seq, es_retv, turn_of, forB_of, bindT1, bindT2, bindEach, wipeE, getV, getB, start0, List.length_cons, List.length_nil, List.getElem?_cons_zero, List.getElem?_cons_succ, List.set_cons_zero, List.set_cons_succ, List.cons_append, List.nil_append, List.replicate_succ, List.replicate_zero, if_true, if_false, reduceIte, Nat.reduceAdd, Nat.reduceSub, Nat.reduceLeDiff, Bool.false_eq_true, Bool.true_eq_false, Bool.not_true, Bool.not_false, reduceCtorEq, Nat.zero_add, true_and, and_true, ei_var, ei_bv, ei_ix, ei_call, ei_bi, ei_tup, ei_lst, ei_comp, ei_rev, ei_bin, ei_rgL, ei_rgT, ei_sset, ei_sl, ei_split, ec_cmp, ec_cmp2, ec_an, ec_or, ec_nt, ec_call, ec_isi, ec_bv, ec_var, ec_bi, ec_cb, eo_ci, eo_bv, eo_var, eo_neg, eo_bin, eo_bi, eo_ix, eo_call, er_bv, er_ix, er_call, er_bi, er_tup, er_lst, er_comp, er_rev, er_bin, er_rgL, er_rgT, er_sset, er_lset, er_sl, er_split, er_join, er_cmp, er_cmp2, er_an, er_or, er_nt, er_isi, er_ci, er_cb, er_cn, er_cs, er_neg, valS_val, valS_own, retD_rt, retD_nx, boolD_b, intD_i, listD_l, tupD_t, ownS_o, items_l, items_t, isi_b, isi_i, isi_n, isi_ii, isi_tt, len_l, len_t, tu_l, tu_t, li_l, li_t, int_b, add_i, add_l, add_t, sub_i, opI_i, rev_l, rev_t, sl_l, sl_t, zip_t, zip_l, zip_tl, sq2_t, sq2_l, bi_len, bi_min, bi_max, bi_sum, bi_all, bi_any, bi_int, bi_str, bi_tuple, bi_list, bi_sorted, opB_add, opB_sub, opB_mul, opB_div, opB_mod, opC_eq, opC_ne, opC_lt, opC_le, opC_gt, opC_ge, opC_is, opC_isn, opC_isb, opC_isnb, opC_in, opC_nin, isN_n, isN_i, List.map_cons, lx1, s_co, opEq_ss]
      rw [e2]
      by_cases hc : c = ch 58
      · subst hc
        have ea : evE (Ph (n + 3)) ieRa [.val (.str x), .val (.list ((m :: ch 58 :: ws).map .str)), .no, .no] = some (.str m) := by
          rw [← o1_eq]
          simp only [o1_some, o1_none, o1_map, o1_if, o1_test, ev_var, ev_bv, ev_cn, ev_cb, ev_ci, ev_cs, ev_bin, ev_neg, ev_nt, ev_cmp, ev_cmp2, ev_an, ev_or, ev_tup, ev_lst, ev_call, ev_bi, ev_isi, ev_ix, ev_sl, ev_rev, ev_rgL, ev_rgT, ev_lset, ev_sset, ev_comp, ev_join, ev_split, ea_nil, ea_cons, eo_nil, ec_nil, ei_rg, ei_zip, ei_enum, nxt_nx, nxt_rt, es_set, es_setO, es_unp, es_par, es_app, es_sti, es_ifs, es_for, es_skip, es_seq, es_retv, turn_of, forB_of, bindT1, bindT2, bindEach, wipeE, getV, getB, start0, List.length_cons, List.length_nil, List.getElem?_cons_zero, List.getElem?_cons_succ, List.set_cons_zero, List.set_cons_succ, List.cons_append, List.nil_append, List.replicate_succ, List.replicate_zero, if_true, if_false, reduceIte, Nat.reduceAdd, Nat.reduceSub, Nat.reduceLeDiff, Bool.false_eq_true, Bool.true_eq_false, Bool.not_true, Bool.not_false, reduceCtorEq, Nat.zero_add, true_and, and_true, ei_var, ei_bv, ei_ix, ei_call, ei_bi, ei_tup, ei_lst, ei_comp, ei_rev, ei_bin, ei_rgL, ei_rgT, ei_sset, ei_sl, ei_split, ec_cmp, ec_cmp2, ec_an, ec_or, ec_nt, ec_call, ec_isi, ec_bv, ec_var, ec_bi, ec_cb, eo_ci, eo_bv, eo_var, eo_neg, eo_bin, eo_bi, eo_ix, eo_call, er_bv, er_ix, er_call, er_bi, er_tup, er_lst, er_comp, er_rev, er_bin, er_rgL, er_rgT, er_sset, er_lset, er_sl, er_split, er_join, er_cmp, er_cmp2, er_an, er_or, er_nt, er_isi, er_ci, er_cb, er_cn, er_cs, er_neg, valS_val, valS_own, retD_rt, retD_nx, boolD_b, intD_i, listD_l, tupD_t, ownS_o, items_l, items_t, isi_b, isi_i, isi_n, isi_ii, isi_tt, len_l, len_t, tu_l, tu_t, li_l, li_t, int_b, add_i, add_l, add_t, sub_i, opI_i, rev_l, rev_t, sl_l, sl_t, zip_t, zip_l, zip_tl, sq2_t, sq2_l, bi_len, bi_min, bi_max, bi_sum, bi_all, bi_any, bi_int, bi_str, bi_tuple, bi_list, bi_sorted, opB_add, opB_sub, opB_mul, opB_div, opB_mod, opC_eq, opC_ne, opC_lt, opC_le, opC_gt, opC_ge, opC_is, opC_isn, opC_isb, opC_isnb, opC_in, opC_nin, isN_n, isN_i, ieRa, List.map_cons, lx0]
        have ei : evI (Ph (n + 3)) ieRs [.val (.str x), .val (.list ((m :: ch 58 :: ws).map .str)), .no, .no] = some (ws.map .str) := by
          rw [← o1_eq]
          simp only [o1_some, o1_none, o1_map, o1_if, o1_test, ev_var, ev_bv, ev_cn, ev_cb, ev_ci, ev_cs, ev_bin, ev_neg, ev_nt, ev_cmp, ev_cmp2, ev_an, ev_or, ev_tup, ev_lst, ev_call, ev_bi, ev_isi, ev_ix, ev_sl, ev_rev, ev_rgL, ev_rgT, ev_lset, ev_sset, ev_comp, ev_join, ev_split, ea_nil, ea_cons, eo_nil, ec_nil, ei_rg, ei_zip, ei_enum, nxt_nx, nxt_rt, es_set, es_setO, es_unp, es_par, es_app, es_sti, es_ifs, es_for, es_skip, es_seq, es_retv, turn_of, forB_of, bindT1, bindT2, bindEach, wipeE, getV, getB, start0, List.length_cons, List.length_nil, List.getElem?_cons_zero, List.getElem?_cons_succ, List.set_cons_zero, List.set_cons_succ, List.cons_append, List.nil_append, List.replicate_succ, List.replicate_zero, if_true, if_false, reduceIte, Nat.reduceAdd, Nat.reduceSub, Nat.reduceLeDiff, Bool.false_eq_true, Bool.true_eq_false, Bool.not_true, Bool.not_false, reduceCtorEq, Nat.zero_add, true_and, and_true, ei_var, ei_bv, ei_ix, ei_call, ei_bi, ei_tup, ei_lst, ei_comp, ei_rev, ei_bin, ei_rgL, ei_rgT, ei_sset, ei_sl, ei_split, ec_cmp, ec_cmp2, ec_an, ec_or, ec_nt, ec_call, ec_isi, ec_bv, ec_var, ec_bi, ec_cb, eo_ci, eo_bv, eo_var, eo_neg, eo_bin, eo_bi, eo_ix, eo_call, er_bv, er_ix, er_call, er_bi, er_tup, er_lst, er_comp, er_rev, er_bin, er_rgL, er_rgT, er_sset, er_lset, er_sl, er_split, er_join, er_cmp, er_cmp2, er_an, er_or, er_nt, er_isi, er_ci, er_cb, er_cn, er_cs, er_neg, valS_val, valS_own, retD_rt, retD_nx, boolD_b, intD_i, listD_l, tupD_t, ownS_o, items_l, items_t, isi_b, isi_i, isi_n, isi_ii, isi_tt, len_l, len_t, tu_l, tu_t, li_l, li_t, int_b, add_i, add_l, add_t, sub_i, opI_i, rev_l, rev_t, sl_l, sl_t, zip_t, zip_l, zip_tl, sq2_t, sq2_l, bi_len, bi_min, bi_max, bi_sum, bi_all, bi_any, bi_int, bi_str, bi_tuple, bi_list, bi_sorted, opB_add, opB_sub, opB_mul, opB_div, opB_mod, opC_eq, opC_ne, opC_lt, opC_le, opC_gt, opC_ge, opC_is, opC_isn, opC_isb, opC_isnb, opC_in, opC_nin, isN_n, isN_i, ieRs, List.map_cons, cut2]
        simp only [decide_true, Bool.not_true, argX, ea, num_x (n + 2) (show m.length ≤ 100000 by omega)]
        cases hm : numP m with
        | none =>
          have hp : readP x = none := by unfold readP webP; rw [hs]; dsimp only; rw [if_pos rfl, hm]
          simp only [numP_none.mp hm, Bool.not_false, hp, Option.isNone_none]
        | some k =>
          have hlw2 : (ws.map PyData.str).length ≤ 40000 := by rw [List.length_map]; omega
          simp only [(numP_some hm).1, Bool.not_true, num_v (n + 2) (show m.length ≤ 100000 by omega) hm, ei, hlw2, if_true, ties_x (n + 1) hlw]
          cases ht : tiesP ws with
          | none =>
            have hp : readP x = none := by unfold readP webP; rw [hs]; dsimp only; rw [if_pos rfl, hm]; dsimp only; rw [ht]
            simp only [hp, Option.isNone_none]
          | some ts =>
            have hf := found_ev (n + 1) (w := ⟨k, ts⟩) hx hs hm ht (.val (.str x)) .no .no
            rw [o1_eq, hs] at hf
            have hw : webP x = some ⟨k, ts⟩ := by unfold webP; rw [hs]; dsimp only; rw [if_pos rfl, hm]; dsimp only; rw [ht]
            have hq := is_web n (x := encW ⟨k, ts⟩) nd_W
            simp only [Option.isNone_some, hf]
            rw [← o1_eq]
            cases hb : isWebD (encW ⟨k, ts⟩) with
            | false =>
              have hp : readP x = none := by unfold readP; rw [hw]; dsimp only; rw [if_neg (fun z => by rw [hb] at z; cases z.1)]
              rw [hb] at hq
              simp only [o1_some, o1_none, o1_map, o1_if, o1_test, ev_var, ev_bv, ev_cn, ev_cb, ev_ci, ev_cs, ev_bin, ev_neg, ev_nt, ev_cmp, ev_cmp2, ev_an, ev_or, ev_tup, ev_lst, ev_call, ev_bi, ev_isi, ev_ix, ev_sl, ev_rev, ev_rgL, ev_rgT, ev_lset, ev_sset, ev_comp, ev_join, ev_split, ea_nil, ea_cons, eo_nil, ec_nil, ei_rg, ei_zip, ei_enum, nxt_nx, nxt_rt, es_set, es_setO, es_unp, es_par, es_app, es_sti, es_ifs, es_for, es_skip, es_seq, es_retv, turn_of, forB_of, bindT1, bindT2, bindEach, wipeE, getV, getB, start0, List.length_cons, List.length_nil, List.getElem?_cons_zero, List.getElem?_cons_succ, List.set_cons_zero, List.set_cons_succ, List.cons_append, List.nil_append, List.replicate_succ, List.replicate_zero, if_true, if_false, reduceIte, Nat.reduceAdd, Nat.reduceSub, Nat.reduceLeDiff, Bool.false_eq_true, Bool.true_eq_false, Bool.not_true, Bool.not_false, reduceCtorEq, Nat.zero_add, true_and, and_true, ei_var, ei_bv, ei_ix, ei_call, ei_bi, ei_tup, ei_lst, ei_comp, ei_rev, ei_bin, ei_rgL, ei_rgT, ei_sset, ei_sl, ei_split, ec_cmp, ec_cmp2, ec_an, ec_or, ec_nt, ec_call, ec_isi, ec_bv, ec_var, ec_bi, ec_cb, eo_ci, eo_bv, eo_var, eo_neg, eo_bin, eo_bi, eo_ix, eo_call, er_bv, er_ix, er_call, er_bi, er_tup, er_lst, er_comp, er_rev, er_bin, er_rgL, er_rgT, er_sset, er_lset, er_sl, er_split, er_join, er_cmp, er_cmp2, er_an, er_or, er_nt, er_isi, er_ci, er_cb, er_cn, er_cs, er_neg, valS_val, valS_own, retD_rt, retD_nx, boolD_b, intD_i, listD_l, tupD_t, ownS_o, items_l, items_t, isi_b, isi_i, isi_n, isi_ii, isi_tt, len_l, len_t, tu_l, tu_t, li_l, li_t, int_b, add_i, add_l, add_t, sub_i, opI_i, rev_l, rev_t, sl_l, sl_t, zip_t, zip_l, zip_tl, sq2_t, sq2_l, bi_len, bi_min, bi_max, bi_sum, bi_all, bi_any, bi_int, bi_str, bi_tuple, bi_list, bi_sorted, opB_add, opB_sub, opB_mul, opB_div, opB_mod, opC_eq, opC_ne, opC_lt, opC_le, opC_gt, opC_ge, opC_is, opC_isn, opC_isb, opC_isnb, opC_in, opC_nin, isN_n, isN_i, ieR4, hq, hp, Option.isNone_none]
            | true =>
              have hwr := written_ok (n + 2) (webD_iff.mp hb)
              rw [hb] at hq
              simp only [o1_some, o1_none, o1_map, o1_if, o1_test, ev_var, ev_bv, ev_cn, ev_cb, ev_ci, ev_cs, ev_bin, ev_neg, ev_nt, ev_cmp, ev_cmp2, ev_an, ev_or, ev_tup, ev_lst, ev_call, ev_bi, ev_isi, ev_ix, ev_sl, ev_rev, ev_rgL, ev_rgT, ev_lset, ev_sset, ev_comp, ev_join, ev_split, ea_nil, ea_cons, eo_nil, ec_nil, ei_rg, ei_zip, ei_enum, nxt_nx, nxt_rt, es_set, es_setO, es_unp, es_par, es_app, es_sti, es_ifs, es_for, es_skip, es_seq, es_retv, turn_of, forB_of, bindT1, bindT2, bindEach, wipeE, getV, getB, start0, List.length_cons, List.length_nil, List.getElem?_cons_zero, List.getElem?_cons_succ, List.set_cons_zero, List.set_cons_succ, List.cons_append, List.nil_append, List.replicate_succ, List.replicate_zero, if_true, if_false, reduceIte, Nat.reduceAdd, Nat.reduceSub, Nat.reduceLeDiff, Bool.false_eq_true, Bool.true_eq_false, Bool.not_true, Bool.not_false, reduceCtorEq, Nat.zero_add, true_and, and_true, ei_var, ei_bv, ei_ix, ei_call, ei_bi, ei_tup, ei_lst, ei_comp, ei_rev, ei_bin, ei_rgL, ei_rgT, ei_sset, ei_sl, ei_split, ec_cmp, ec_cmp2, ec_an, ec_or, ec_nt, ec_call, ec_isi, ec_bv, ec_var, ec_bi, ec_cb, eo_ci, eo_bv, eo_var, eo_neg, eo_bin, eo_bi, eo_ix, eo_call, er_bv, er_ix, er_call, er_bi, er_tup, er_lst, er_comp, er_rev, er_bin, er_rgL, er_rgT, er_sset, er_lset, er_sl, er_split, er_join, er_cmp, er_cmp2, er_an, er_or, er_nt, er_isi, er_ci, er_cb, er_cn, er_cs, er_neg, valS_val, valS_own, retD_rt, retD_nx, boolD_b, intD_i, listD_l, tupD_t, ownS_o, items_l, items_t, isi_b, isi_i, isi_n, isi_ii, isi_tt, len_l, len_t, tu_l, tu_t, li_l, li_t, int_b, add_i, add_l, add_t, sub_i, opI_i, rev_l, rev_t, sl_l, sl_t, zip_t, zip_l, zip_tl, sq2_t, sq2_l, bi_len, bi_min, bi_max, bi_sum, bi_all, bi_any, bi_int, bi_str, bi_tuple, bi_list, bi_sorted, opB_add, opB_sub, opB_mul, opB_div, opB_mod, opC_eq, opC_ne, opC_lt, opC_le, opC_gt, opC_ge, opC_is, opC_isn, opC_isb, opC_isnb, opC_in, opC_nin, isN_n, isN_i, ieR4, hq, hwr, opEq_ss]
              by_cases he : textW ⟨k, ts⟩ = x
              · have hp : readP x = some ⟨k, ts⟩ := by unfold readP; rw [hw]; dsimp only; rw [if_pos ⟨hb, he⟩]
                simp only [he, decide_true, Bool.not_true, hp, Option.isNone_some]
              · have hp : readP x = none := by unfold readP; rw [hw]; dsimp only; rw [if_neg (fun z => he z.2)]
                simp only [he, decide_false, Bool.not_false, hp, Option.isNone_none]
      · have hp : readP x = none := by unfold readP webP; rw [hs]; dsimp only; rw [if_neg hc]
        simp only [hc, decide_false, Bool.not_false, hp, Option.isNone_none]
theorem read_v (n : Nat) {x : Str} {w : Web} (hx : x.length ≤ 30000) (h : readP x = some w) : Ph (n + 4) 105 [.str x] = some (encW w) := by
  obtain ⟨h1, h2, h3⟩ := readP_some h
  obtain ⟨m, ws, e, hm, ht⟩ := webP_some h1
  have hf := found_ev (n + 1) (w := w) hx e hm ht (.val (.str x)) .no .no
  have hq := is_web n (x := encW w) nd_W
  have hwr := written_ok (n + 2) h2
  rw [webD_iff.mpr h2] at hq
  have eb : fd105 = ⟨[false], 4, .seq (.ifs ieR0 (.seq .nev .skip) .skip) (.seq (.set 1 ieR1) (.seq (.ifs ieR2 (.seq .nev .skip) .skip) (.seq (.set 2 (ieR3 103 104)) (.seq (.ifs (ieR4 8 0) (.seq .nev .skip) .skip) (.seq (.ret (.var 2)) .skip)))))⟩ := rfl
  show evF (Ph (n + 3)) fd105 [.str x] = _
  rw [← o1_eq, eb, ef_of rfl]
  have h' : ¬ (((m :: ch 58 :: ws).length : Nat) : Int) < 2 := by simp only [List.length_cons]; omega
  have e2 : O1 (evE (Ph (n + 3)) ieR2 [.val (.str x), .val (.list ((Txt.split x (ch 32)).map .str)), .no, .no]) (· = .bool false) := by
    rw [e]
    simp only [o1_some, o1_none, o1_map, o1_if, o1_test, ev_var, ev_bv, ev_cn, ev_cb, ev_ci, ev_cs, ev_bin, ev_neg, ev_nt, ev_cmp, ev_cmp2, ev_an, ev_or, ev_tup, ev_lst, ev_call, ev_bi, ev_isi, ev_ix, ev_sl, ev_rev, ev_rgL, ev_rgT, ev_lset, ev_sset, ev_comp, ev_join, ev_split, ea_nil, ea_cons, eo_nil, ec_nil, ei_rg, ei_zip, ei_enum, nxt_nx, nxt_rt, es_set, es_setO, es_unp, es_par, es_app, es_sti, es_ifs, es_for, es_skip, es_seq, es_retv, turn_of, forB_of, bindT1, bindT2, bindEach, wipeE, getV, getB, start0, List.length_cons, List.length_nil, List.getElem?_cons_zero, List.getElem?_cons_succ, List.set_cons_zero, List.set_cons_succ, List.cons_append, List.nil_append, List.replicate_succ, List.replicate_zero, if_true, if_false, reduceIte, Nat.reduceAdd, Nat.reduceSub, Nat.reduceLeDiff, Bool.false_eq_true, Bool.true_eq_false, Bool.not_true, Bool.not_false, reduceCtorEq, Nat.zero_add, true_and, and_true, ei_var, ei_bv, ei_ix, ei_call, ei_bi, ei_tup, ei_lst, ei_comp, ei_rev, ei_bin, ei_rgL, ei_rgT, ei_sset, ei_sl, ei_split, ec_cmp, ec_cmp2, ec_an, ec_or, ec_nt, ec_call, ec_isi, ec_bv, ec_var, ec_bi, ec_cb, eo_ci, eo_bv, eo_var, eo_neg, eo_bin, eo_bi, eo_ix, eo_call, er_bv, er_ix, er_call, er_bi, er_tup, er_lst, er_comp, er_rev, er_bin, er_rgL, er_rgT, er_sset, er_lset, er_sl, er_split, er_join, er_cmp, er_cmp2, er_an, er_or, er_nt, er_isi, er_ci, er_cb, er_cn, er_cs, er_neg, valS_val, valS_own, retD_rt, retD_nx, boolD_b, intD_i, listD_l, tupD_t, ownS_o, items_l, items_t, isi_b, isi_i, isi_n, isi_ii, isi_tt, len_l, len_t, tu_l, tu_t, li_l, li_t, int_b, add_i, add_l, add_t, sub_i, opI_i, rev_l, rev_t, sl_l, sl_t, zip_t, zip_l, zip_tl, sq2_t, sq2_l, bi_len, bi_min, bi_max, bi_sum, bi_all, bi_any, bi_int, bi_str, bi_tuple, bi_list, bi_sorted, opB_add, opB_sub, opB_mul, opB_div, opB_mod, opC_eq, opC_ne, opC_lt, opC_le, opC_gt, opC_ge, opC_is, opC_isn, opC_isb, opC_isnb, opC_in, opC_nin, isN_n, isN_i, ieR2, List.length_map, h', decide_false, List.map_cons, lx1, s_co, opEq_ss, decide_true] at h' ⊢
    simp only [h', decide_false, o1_some, o1_none, o1_map, o1_if, o1_test, ev_var, ev_bv, ev_cn, ev_cb, ev_ci, ev_cs, ev_bin, ev_neg, ev_nt, ev_cmp, ev_cmp2, ev_an, ev_or, ev_tup, ev_lst, ev_call, ev_bi, ev_isi, ev_ix, ev_sl, ev_rev, ev_rgL, ev_rgT, ev_lset, ev_sset, ev_comp, ev_join, ev_split, ea_nil, ea_cons, eo_nil, ec_nil, ei_rg, ei_zip, ei_enum, nxt_nx, nxt_rt, es_set, es_setO, es_unp, es_par, es_app, es_sti, es_ifs, es_for, es_skip, es_seq, es_retv, turn_of, forB_of, bindT1, bindT2, bindEach, wipeE, getV, getB, start0, List.length_cons, List.length_nil, List.getElem?_cons_zero, List.getElem?_cons_succ, List.set_cons_zero, List.set_cons_succ, List.cons_append, List.nil_append, List.replicate_succ, List.replicate_zero, if_true, if_false, reduceIte, Nat.reduceAdd, Nat.reduceSub, Nat.reduceLeDiff, Bool.false_eq_true, Bool.true_eq_false, Bool.not_true, Bool.not_false, reduceCtorEq, Nat.zero_add, true_and, and_true, ei_var, ei_bv, ei_ix, ei_call, ei_bi, ei_tup, ei_lst, ei_comp, ei_rev, ei_bin, ei_rgL, ei_rgT, ei_sset, ei_sl, ei_split, ec_cmp, ec_cmp2, ec_an, ec_or, ec_nt, ec_call, ec_isi, ec_bv, ec_var, ec_bi, ec_cb, eo_ci, eo_bv, eo_var, eo_neg, eo_bin, eo_bi, eo_ix, eo_call, er_bv, er_ix, er_call, er_bi, er_tup, er_lst, er_comp, er_rev, er_bin, er_rgL, er_rgT, er_sset, er_lset, er_sl, er_split, er_join, er_cmp, er_cmp2, er_an, er_or, er_nt, er_isi, er_ci, er_cb, er_cn, er_cs, er_neg, valS_val, valS_own, retD_rt, retD_nx, boolD_b, intD_i, listD_l, tupD_t, ownS_o, items_l, items_t, isi_b, isi_i, isi_n, isi_ii, isi_tt, len_l, len_t, tu_l, tu_t, li_l, li_t, int_b, add_i, add_l, add_t, sub_i, opI_i, rev_l, rev_t, sl_l, sl_t, zip_t, zip_l, zip_tl, sq2_t, sq2_l, bi_len, bi_min, bi_max, bi_sum, bi_all, bi_any, bi_int, bi_str, bi_tuple, bi_list, bi_sorted, opB_add, opB_sub, opB_mul, opB_div, opB_mod, opC_eq, opC_ne, opC_lt, opC_le, opC_gt, opC_ge, opC_is, opC_isn, opC_isb, opC_isnb, opC_in, opC_nin, isN_n, isN_i, List.map_cons, lx1, s_co, opEq_ss, decide_true]
  rw [o1_eq] at e2 hf
  have e0 : evE (Ph (n + 3)) ieR0 [.val (.str x), .no, .no, .no] = some (.bool false) := by
    rw [← o1_eq]
    simp only [o1_some, o1_none, o1_map, o1_if, o1_test, ev_var, ev_bv, ev_cn, ev_cb, ev_ci, ev_cs, ev_bin, ev_neg, ev_nt, ev_cmp, ev_cmp2, ev_an, ev_or, ev_tup, ev_lst, ev_call, ev_bi, ev_isi, ev_ix, ev_sl, ev_rev, ev_rgL, ev_rgT, ev_lset, ev_sset, ev_comp, ev_join, ev_split, ea_nil, ea_cons, eo_nil, ec_nil, ei_rg, ei_zip, ei_enum, nxt_nx, nxt_rt, es_set, es_setO, es_unp, es_par, es_app, es_sti, es_ifs, es_for, es_skip, es_seq, es_retv, turn_of, forB_of, bindT1, bindT2, bindEach, wipeE, getV, getB, start0, List.length_cons, List.length_nil, List.getElem?_cons_zero, List.getElem?_cons_succ, List.set_cons_zero, List.set_cons_succ, List.cons_append, List.nil_append, List.replicate_succ, List.replicate_zero, if_true, if_false, reduceIte, Nat.reduceAdd, Nat.reduceSub, Nat.reduceLeDiff, Bool.false_eq_true, Bool.true_eq_false, Bool.not_true, Bool.not_false, reduceCtorEq, Nat.zero_add, true_and, and_true, ei_var, ei_bv, ei_ix, ei_call, ei_bi, ei_tup, ei_lst, ei_comp, ei_rev, ei_bin, ei_rgL, ei_rgT, ei_sset, ei_sl, ei_split, ec_cmp, ec_cmp2, ec_an, ec_or, ec_nt, ec_call, ec_isi, ec_bv, ec_var, ec_bi, ec_cb, eo_ci, eo_bv, eo_var, eo_neg, eo_bin, eo_bi, eo_ix, eo_call, er_bv, er_ix, er_call, er_bi, er_tup, er_lst, er_comp, er_rev, er_bin, er_rgL, er_rgT, er_sset, er_lset, er_sl, er_split, er_join, er_cmp, er_cmp2, er_an, er_or, er_nt, er_isi, er_ci, er_cb, er_cn, er_cs, er_neg, valS_val, valS_own, retD_rt, retD_nx, boolD_b, intD_i, listD_l, tupD_t, ownS_o, items_l, items_t, isi_b, isi_i, isi_n, isi_ii, isi_tt, len_l, len_t, tu_l, tu_t, li_l, li_t, int_b, add_i, add_l, add_t, sub_i, opI_i, rev_l, rev_t, sl_l, sl_t, zip_t, zip_l, zip_tl, sq2_t, sq2_l, bi_len, bi_min, bi_max, bi_sum, bi_all, bi_any, bi_int, bi_str, bi_tuple, bi_list, bi_sorted, opB_add, opB_sub, opB_mul, opB_div, opB_mod, opC_eq, opC_ne, opC_lt, opC_le, opC_gt, opC_ge, opC_is, opC_isn, opC_isb, opC_isnb, opC_in, opC_nin, isN_n, isN_i, ieR0, is_s]
  have e1 : evE (Ph (n + 3)) ieR1 [.val (.str x), .no, .no, .no] = some (.list ((Txt.split x (ch 32)).map .str)) := by
    rw [← o1_eq]
    simp only [o1_some, o1_none, o1_map, o1_if, o1_test, ev_var, ev_bv, ev_cn, ev_cb, ev_ci, ev_cs, ev_bin, ev_neg, ev_nt, ev_cmp, ev_cmp2, ev_an, ev_or, ev_tup, ev_lst, ev_call, ev_bi, ev_isi, ev_ix, ev_sl, ev_rev, ev_rgL, ev_rgT, ev_lset, ev_sset, ev_comp, ev_join, ev_split, ea_nil, ea_cons, eo_nil, ec_nil, ei_rg, ei_zip, ei_enum, nxt_nx, nxt_rt, es_set, es_setO, es_unp, es_par, es_app, es_sti, es_ifs, es_for, es_skip, es_seq, es_retv, turn_of, forB_of, bindT1, bindT2, bindEach, wipeE, getV, getB, start0, List.length_cons, List.length_nil, List.getElem?_cons_zero, List.getElem?_cons_succ, List.set_cons_zero, List.set_cons_succ, List.cons_append, List.nil_append, List.replicate_succ, List.replicate_zero, if_true, if_false, reduceIte, Nat.reduceAdd, Nat.reduceSub, Nat.reduceLeDiff, Bool.false_eq_true, Bool.true_eq_false, Bool.not_true, Bool.not_false, reduceCtorEq, Nat.zero_add, true_and, and_true, ei_var, ei_bv, ei_ix, ei_call, ei_bi, ei_tup, ei_lst, ei_comp, ei_rev, ei_bin, ei_rgL, ei_rgT, ei_sset, ei_sl, ei_split, ec_cmp, ec_cmp2, ec_an, ec_or, ec_nt, ec_call, ec_isi, ec_bv, ec_var, ec_bi, ec_cb, eo_ci, eo_bv, eo_var, eo_neg, eo_bin, eo_bi, eo_ix, eo_call, er_bv, er_ix, er_call, er_bi, er_tup, er_lst, er_comp, er_rev, er_bin, er_rgL, er_rgT, er_sset, er_lset, er_sl, er_split, er_join, er_cmp, er_cmp2, er_an, er_or, er_nt, er_isi, er_ci, er_cb, er_cn, er_cs, er_neg, valS_val, valS_own, retD_rt, retD_nx, boolD_b, intD_i, listD_l, tupD_t, ownS_o, items_l, items_t, isi_b, isi_i, isi_n, isi_ii, isi_tt, len_l, len_t, tu_l, tu_t, li_l, li_t, int_b, add_i, add_l, add_t, sub_i, opI_i, rev_l, rev_t, sl_l, sl_t, zip_t, zip_l, zip_tl, sq2_t, sq2_l, bi_len, bi_min, bi_max, bi_sum, bi_all, bi_any, bi_int, bi_str, bi_tuple, bi_list, bi_sorted, opB_add, opB_sub, opB_mul, opB_div, opB_mod, opC_eq, opC_ne, opC_lt, opC_le, opC_gt, opC_ge, opC_is, opC_isn, opC_isb, opC_isnb, opC_in, opC_nin, isN_n, isN_i, ieR1, s_sp, split_ev (show x.length ≤ 100000 by omega)]
  have e4 : evE (Ph (n + 3)) (ieR4 8 0) [.val (.str x), .val (.list ((Txt.split x (ch 32)).map .str)), .val (encW w), .no] = some (.bool false) := by
    rw [← o1_eq]
    simp only [o1_some, o1_none, o1_map, o1_if, o1_test, ev_var, ev_bv, ev_cn, ev_cb, ev_ci, ev_cs, ev_bin, ev_neg, ev_nt, ev_cmp, ev_cmp2, ev_an, ev_or, ev_tup, ev_lst, ev_call, ev_bi, ev_isi, ev_ix, ev_sl, ev_rev, ev_rgL, ev_rgT, ev_lset, ev_sset, ev_comp, ev_join, ev_split, ea_nil, ea_cons, eo_nil, ec_nil, ei_rg, ei_zip, ei_enum, nxt_nx, nxt_rt, es_set, es_setO, es_unp, es_par, es_app, es_sti, es_ifs, es_for, es_skip, es_seq, es_retv, turn_of, forB_of, bindT1, bindT2, bindEach, wipeE, getV, getB, start0, List.length_cons, List.length_nil, List.getElem?_cons_zero, List.getElem?_cons_succ, List.set_cons_zero, List.set_cons_succ, List.cons_append, List.nil_append, List.replicate_succ, List.replicate_zero, if_true, if_false, reduceIte, Nat.reduceAdd, Nat.reduceSub, Nat.reduceLeDiff, Bool.false_eq_true, Bool.true_eq_false, Bool.not_true, Bool.not_false, reduceCtorEq, Nat.zero_add, true_and, and_true, ei_var, ei_bv, ei_ix, ei_call, ei_bi, ei_tup, ei_lst, ei_comp, ei_rev, ei_bin, ei_rgL, ei_rgT, ei_sset, ei_sl, ei_split, ec_cmp, ec_cmp2, ec_an, ec_or, ec_nt, ec_call, ec_isi, ec_bv, ec_var, ec_bi, ec_cb, eo_ci, eo_bv, eo_var, eo_neg, eo_bin, eo_bi, eo_ix, eo_call, er_bv, er_ix, er_call, er_bi, er_tup, er_lst, er_comp, er_rev, er_bin, er_rgL, er_rgT, er_sset, er_lset, er_sl, er_split, er_join, er_cmp, er_cmp2, er_an, er_or, er_nt, er_isi, er_ci, er_cb, er_cn, er_cs, er_neg, valS_val, valS_own, retD_rt, retD_nx, boolD_b, intD_i, listD_l, tupD_t, ownS_o, items_l, items_t, isi_b, isi_i, isi_n, isi_ii, isi_tt, len_l, len_t, tu_l, tu_t, li_l, li_t, int_b, add_i, add_l, add_t, sub_i, opI_i, rev_l, rev_t, sl_l, sl_t, zip_t, zip_l, zip_tl, sq2_t, sq2_l, bi_len, bi_min, bi_max, bi_sum, bi_all, bi_any, bi_int, bi_str, bi_tuple, bi_list, bi_sorted, opB_add, opB_sub, opB_mul, opB_div, opB_mod, opC_eq, opC_ne, opC_lt, opC_le, opC_gt, opC_ge, opC_is, opC_isn, opC_isb, opC_isnb, opC_in, opC_nin, isN_n, isN_i, ieR4, hq, hwr, opEq_ss, h3, decide_true, Bool.not_true]
  simp only [es_seq, es_ifs, es_set, es_skip, es_retv, start0, nxt_nx, nxt_rt, o1_some, o1_of e0, o1_of e1, o1_of e2, o1_of hf, o1_of e4, boolD_b, o1_some, o1_none, o1_map, o1_if, o1_test, ev_var, ev_bv, ev_cn, ev_cb, ev_ci, ev_cs, ev_bin, ev_neg, ev_nt, ev_cmp, ev_cmp2, ev_an, ev_or, ev_tup, ev_lst, ev_call, ev_bi, ev_isi, ev_ix, ev_sl, ev_rev, ev_rgL, ev_rgT, ev_lset, ev_sset, ev_comp, ev_join, ev_split, ea_nil, ea_cons, eo_nil, ec_nil, ei_rg, ei_zip, ei_enum, nxt_nx, nxt_rt, es_set, es_setO, es_unp, es_par, es_app, es_sti, es_ifs, es_for, es_skip, es_seq, es_retv, turn_of, forB_of, bindT1, bindT2, bindEach, wipeE, getV, getB, start0, List.length_cons, List.length_nil, List.getElem?_cons_zero, List.getElem?_cons_succ, List.set_cons_zero, List.set_cons_succ, List.cons_append, List.nil_append, List.replicate_succ, List.replicate_zero, if_true, if_false, reduceIte, Nat.reduceAdd, Nat.reduceSub, Nat.reduceLeDiff, Bool.false_eq_true, Bool.true_eq_false, Bool.not_true, Bool.not_false, reduceCtorEq, Nat.zero_add, true_and, and_true, ei_var, ei_bv, ei_ix, ei_call, ei_bi, ei_tup, ei_lst, ei_comp, ei_rev, ei_bin, ei_rgL, ei_rgT, ei_sset, ei_sl, ei_split, ec_cmp, ec_cmp2, ec_an, ec_or, ec_nt, ec_call, ec_isi, ec_bv, ec_var, ec_bi, ec_cb, eo_ci, eo_bv, eo_var, eo_neg, eo_bin, eo_bi, eo_ix, eo_call, er_bv, er_ix, er_call, er_bi, er_tup, er_lst, er_comp, er_rev, er_bin, er_rgL, er_rgT, er_sset, er_lset, er_sl, er_split, er_join, er_cmp, er_cmp2, er_an, er_or, er_nt, er_isi, er_ci, er_cb, er_cn, er_cs, er_neg, valS_val, valS_own, retD_rt, retD_nx, boolD_b, intD_i, listD_l, tupD_t, ownS_o, items_l, items_t, isi_b, isi_i, isi_n, isi_ii, isi_tt, len_l, len_t, tu_l, tu_t, li_l, li_t, int_b, add_i, add_l, add_t, sub_i, opI_i, rev_l, rev_t, sl_l, sl_t, zip_t, zip_l, zip_tl, sq2_t, sq2_l, bi_len, bi_min, bi_max, bi_sum, bi_all, bi_any, bi_int, bi_str, bi_tuple, bi_list, bi_sorted, opB_add, opB_sub, opB_mul, opB_div, opB_mod, opC_eq, opC_ne, opC_lt, opC_le, opC_gt, opC_ge, opC_is, opC_isn, opC_isb, opC_isnb, opC_in, opC_nin, isN_n, isN_i]
end J

/-! A web's own text is read back. -/
namespace J
open PySem
theorem free_app {a b : Str} {c : Nat} (ha : c ∉ a.cps.toList) (hb : c ∉ b.cps.toList) : c ∉ (a ++ b).cps.toList := by
  rw [app_cps, List.mem_append]
  exact fun h => h.elim ha hb
theorem sN_no {n c : Nat} (h : n < 100) (hc : c = 32 ∨ c = 61 ∨ c = 45) : c ∉ (sN n).cps.toList := fun z => by
  have := sN_free n h c z
  omega
theorem ch_no {c d : Nat} (h : c ≠ d) : c ∉ (ch d).cps.toList := by simp [h]
theorem tie_own {m : Nat} (hm : m ≤ 7) {t : T3} (h : Tok m t) : tieP (wordT t) = some t := by
  have a1 : t.1 < 100 := by have := h.1; have := h.2.1; omega
  have a2 : t.2.1 < 100 := by have := h.2.1; omega
  have a3 : t.2.2 < 100 := by have := h.2.2; omega
  have e1 : wordT t = Str.join (ch 61) [sN t.1 ++ ch 45 ++ sN t.2.1, sN t.2.2] := by
    unfold wordT
    rw [s_mi, s_eq]
    rfl
  have e2 : sN t.1 ++ ch 45 ++ sN t.2.1 = Str.join (ch 45) [sN t.1, sN t.2.1] := rfl
  have f1 : Txt.split (wordT t) (ch 61) = [sN t.1 ++ ch 45 ++ sN t.2.1, sN t.2.2] := by
    rw [e1]
    refine split_join (by simp) fun w hw => ?_
    simp only [List.mem_cons, List.not_mem_nil, or_false] at hw
    rcases hw with rfl | rfl
    · exact free_app (free_app (sN_no a1 (by simp)) (ch_no (by decide))) (sN_no a2 (by simp))
    · exact sN_no a3 (by simp)
  have f2 : Txt.split (sN t.1 ++ ch 45 ++ sN t.2.1) (ch 45) = [sN t.1, sN t.2.1] := by
    rw [e2]
    refine split_join (by simp) fun w hw => ?_
    simp only [List.mem_cons, List.not_mem_nil, or_false] at hw
    rcases hw with rfl | rfl
    · exact sN_no a1 (by simp)
    · exact sN_no a2 (by simp)
  unfold tieP
  rw [f1]
  dsimp only
  rw [f2]
  dsimp only
  rw [sN_num _ a1, sN_num _ a2, sN_num _ a3]
theorem ties_own {m : Nat} (hm : m ≤ 7) : ∀ {ts : List T3}, (∀ t ∈ ts, Tok m t) → tiesP (ts.map wordT) = some ts
  | [], _ => rfl
  | t :: r, h => by
    rw [List.map_cons]
    unfold tiesP
    rw [tie_own hm (h t List.mem_cons_self), ties_own hm fun u hu => h u (List.mem_cons_of_mem _ hu)]
theorem word_no {m : Nat} (hm : m ≤ 7) {t : T3} (h : Tok m t) : 32 ∉ (wordT t).cps.toList := by
  have a1 : t.1 < 100 := by have := h.1; have := h.2.1; omega
  have a2 : t.2.1 < 100 := by have := h.2.1; omega
  have a3 : t.2.2 < 100 := by have := h.2.2; omega
  unfold wordT
  rw [s_mi, s_eq]
  exact free_app (free_app (free_app (free_app (sN_no a1 (by simp)) (ch_no (by decide))) (sN_no a2 (by simp))) (ch_no (by decide))) (sN_no a3 (by simp))
theorem split_own {w : Web} (hw : Wok w) : Txt.split (textW w) (ch 32) = sN w.many :: ch 58 :: w.ties.map wordT := by
  have h7 := hw.hi
  unfold textW
  rw [s_sp, s_co]
  refine split_join (by simp) fun x hx => ?_
  simp only [List.mem_cons, List.mem_map] at hx
  rcases hx with rfl | rfl | ⟨t, ht, rfl⟩
  · exact sN_no (by omega) (by simp)
  · exact ch_no (by decide)
  · exact word_no h7 (hw.ok t ht)
theorem read_own {w : Web} (hw : Wok w) : readP (textW w) = some w := by
  have h7 := hw.hi
  have e : webP (textW w) = some w := by
    unfold webP
    rw [split_own hw]
    dsimp only
    rw [if_pos rfl, sN_num _ (show w.many < 100 by omega)]
    dsimp only
    rw [ties_own h7 hw.ok]
  unfold readP
  rw [e]
  dsimp only
  rw [if_pos ⟨webD_iff.mpr hw, rfl⟩]
theorem addW_len {x : Str} {t : T3} (h1 : t.1 < 100) (h2 : t.2.1 < 100) (h3 : t.2.2 < 100) : (addW x t).length ≤ x.length + 9 := by
  have a := sN_len _ h1
  have b := sN_len _ h2
  have c := sN_len _ h3
  have lq := l1
  unfold addW
  simp only [app_len]
  omega
theorem fold_text {m : Nat} (hm : m ≤ 7) : ∀ (ts : List T3) (x : Str), (∀ t ∈ ts, Tok m t) → (ts.foldl addW x).length ≤ x.length + 9 * ts.length
  | [], x, _ => by simp
  | t :: r, x, h => by
    have ht := h t List.mem_cons_self
    have a := addW_len (x := x) (t := t) (by have := ht.1; have := ht.2.1; omega) (by have := ht.2.1; omega) (by have := ht.2.2; omega)
    have b := fold_text hm r (addW x t) fun u hu => h u (List.mem_cons_of_mem _ hu)
    rw [List.foldl_cons, List.length_cons]
    omega
theorem text_len {w : Web} (hw : Wok w) : (textW w).length ≤ 100 := by
  have h7 := hw.hi
  have h10 := hw.len
  rw [← text_eq w]
  have a := fold_text h7 w.ties (sN w.many ++ Str.ofString " :") hw.ok
  have b := sN_len w.many (by omega)
  have lq := l1
  rw [app_len] at a
  omega
theorem text_ev (n : Nat) {w : Web} (hw : Wok w) : Ph (n + 1) 106 [encW w] = some (.str (textW w)) := by
  have h7 := hw.hi
  have h10 := hw.len
  have b0 := sN_len w.many (by omega)
  have lq := l1
  show evF (Ph n) fd106 [encW w] = _
  rw [← o1_eq, ef_of rfl]
  have f0 : opAdd (.str (sN w.many)) (.str (Str.ofString " :")) = some (.str (sN w.many ++ Str.ofString " :")) := add_str (by omega)
  simp only [o1_some, o1_none, o1_map, o1_if, o1_test, ev_var, ev_bv, ev_cn, ev_cb, ev_ci, ev_cs, ev_bin, ev_neg, ev_nt, ev_cmp, ev_cmp2, ev_an, ev_or, ev_tup, ev_lst, ev_call, ev_bi, ev_isi, ev_ix, ev_sl, ev_rev, ev_rgL, ev_rgT, ev_lset, ev_sset, ev_comp, ev_join, ev_split, ea_nil, ea_cons, eo_nil, ec_nil, ei_rg, ei_zip, ei_enum, nxt_nx, nxt_rt, es_set, es_setO, es_unp, es_par, es_app, es_sti, es_ifs, es_for, es_skip, es_seq, es_retv, turn_of, forB_of, bindT1, bindT2, bindEach, wipeE, getV, getB, start0, List.length_cons, List.length_nil, List.getElem?_cons_zero, List.getElem?_cons_succ, List.set_cons_zero, List.set_cons_succ, List.cons_append, List.nil_append, List.replicate_succ, List.replicate_zero, if_true, if_false, reduceIte, Nat.reduceAdd, Nat.reduceSub, Nat.reduceLeDiff, Bool.false_eq_true, Bool.true_eq_false, Bool.not_true, Bool.not_false, reduceCtorEq, Nat.zero_add, true_and, and_true, ei_var, ei_bv, ei_ix, ei_call, ei_bi, ei_tup, ei_lst, ei_comp, ei_rev, ei_bin, ei_rgL, ei_rgT, ei_sset, ei_sl, ei_split, ec_cmp, ec_cmp2, ec_an, ec_or, ec_nt, ec_call, ec_isi, ec_bv, ec_var, ec_bi, ec_cb, eo_ci, eo_bv, eo_var, eo_neg, eo_bin, eo_bi, eo_ix, eo_call, er_bv, er_ix, er_call, er_bi, er_tup, er_lst, er_comp, er_rev, er_bin, er_rgL, er_rgT, er_sset, er_lset, er_sl, er_split, er_join, er_cmp, er_cmp2, er_an, er_or, er_nt, er_isi, er_ci, er_cb, er_cn, er_cs, er_neg, valS_val, valS_own, retD_rt, retD_nx, boolD_b, intD_i, listD_l, tupD_t, ownS_o, items_l, items_t, isi_b, isi_i, isi_n, isi_ii, isi_tt, len_l, len_t, tu_l, tu_t, li_l, li_t, int_b, add_i, add_l, add_t, sub_i, opI_i, rev_l, rev_t, sl_l, sl_t, zip_t, zip_l, zip_tl, sq2_t, sq2_l, bi_len, bi_min, bi_max, bi_sum, bi_all, bi_any, bi_int, bi_str, bi_tuple, bi_list, bi_sorted, opB_add, opB_sub, opB_mul, opB_div, opB_mod, opC_eq, opC_ne, opC_lt, opC_le, opC_gt, opC_ge, opC_is, opC_isn, opC_isb, opC_isnb, opC_in, opC_nin, isN_n, isN_i, fd106, ixW0, ixW1, biStr_n w.many (by omega), f0]
  refine for_pre (e := encT) (fun done env => ∃ s2 s3 s4, env = [.val (encW w), .val (.str (done.foldl addW (sN w.many ++ Str.ofString " :"))), s2, s3, s4]) ⟨_, _, _, rfl⟩ (fun done t post env hx hI => ?_) (fun env hI => ?_)
  · obtain ⟨s2, s3, s4, rfl⟩ := hI
    have htm : t ∈ w.ties := by rw [hx]; simp
    have ht := hw.ok t htm
    have a1 : t.1 < 100 := by have := ht.1; have := ht.2.1; omega
    have a2 : t.2.1 < 100 := by have := ht.2.1; omega
    have a3 : t.2.2 < 100 := by have := ht.2.2; omega
    have g1 := sN_len _ a1
    have g2 := sN_len _ a2
    have g3 := sN_len _ a3
    have hd := fold_text h7 done (sN w.many ++ Str.ofString " :") fun u hu => hw.ok u (by rw [hx]; simp [hu])
    have hdl : done.length ≤ 10 := by
      have := congrArg List.length hx
      rw [List.length_append, List.length_cons] at this
      omega
    rw [app_len] at hd
    rw [List.foldl_append, List.foldl_cons, List.foldl_nil]
    generalize done.foldl addW (sN w.many ++ Str.ofString " :") = x at hd ⊢
    have f0 : opAdd (.str x) (.str (Str.ofString " ")) = _ := add_str (by omega)
    have f1 : opAdd (.str (x ++ Str.ofString " ")) (.str (sN t.1)) = _ := add_str (by rw [app_len]; omega)
    have f2 : opAdd (.str (x ++ Str.ofString " " ++ sN t.1)) (.str (Str.ofString "-")) = _ := add_str (by rw [app_len, app_len]; omega)
    have f3 : opAdd (.str (x ++ Str.ofString " " ++ sN t.1 ++ Str.ofString "-")) (.str (sN t.2.1)) = _ := add_str (by rw [app_len, app_len, app_len]; omega)
    have f4 : opAdd (.str (x ++ Str.ofString " " ++ sN t.1 ++ Str.ofString "-" ++ sN t.2.1)) (.str (Str.ofString "=")) = _ := add_str (by rw [app_len, app_len, app_len, app_len]; omega)
    have f5 : opAdd (.str (x ++ Str.ofString " " ++ sN t.1 ++ Str.ofString "-" ++ sN t.2.1 ++ Str.ofString "=")) (.str (sN t.2.2)) = _ := add_str (by rw [app_len, app_len, app_len, app_len, app_len]; omega)
    have e1 := biStr_n _ a1
    have e2 := biStr_n _ a2
    have e3 := biStr_n _ a3
    have eT : encT t = .tuple [.int t.1, .int t.2.1, .int t.2.2] := rfl
    simp only [o1_some, o1_none, o1_map, o1_if, o1_test, ev_var, ev_bv, ev_cn, ev_cb, ev_ci, ev_cs, ev_bin, ev_neg, ev_nt, ev_cmp, ev_cmp2, ev_an, ev_or, ev_tup, ev_lst, ev_call, ev_bi, ev_isi, ev_ix, ev_sl, ev_rev, ev_rgL, ev_rgT, ev_lset, ev_sset, ev_comp, ev_join, ev_split, ea_nil, ea_cons, eo_nil, ec_nil, ei_rg, ei_zip, ei_enum, nxt_nx, nxt_rt, es_set, es_setO, es_unp, es_par, es_app, es_sti, es_ifs, es_for, es_skip, es_seq, es_retv, turn_of, forB_of, bindT1, bindT2, bindEach, wipeE, getV, getB, start0, List.length_cons, List.length_nil, List.getElem?_cons_zero, List.getElem?_cons_succ, List.set_cons_zero, List.set_cons_succ, List.cons_append, List.nil_append, List.replicate_succ, List.replicate_zero, if_true, if_false, reduceIte, Nat.reduceAdd, Nat.reduceSub, Nat.reduceLeDiff, Bool.false_eq_true, Bool.true_eq_false, Bool.not_true, Bool.not_false, reduceCtorEq, Nat.zero_add, true_and, and_true, ei_var, ei_bv, ei_ix, ei_call, ei_bi, ei_tup, ei_lst, ei_comp, ei_rev, ei_bin, ei_rgL, ei_rgT, ei_sset, ei_sl, ei_split, ec_cmp, ec_cmp2, ec_an, ec_or, ec_nt, ec_call, ec_isi, ec_bv, ec_var, ec_bi, ec_cb, eo_ci, eo_bv, eo_var, eo_neg, eo_bin, eo_bi, eo_ix, eo_call, er_bv, er_ix, er_call, er_bi, er_tup, er_lst, er_comp, er_rev, er_bin, er_rgL, er_rgT, er_sset, er_lset, er_sl, er_split, er_join, er_cmp, er_cmp2, er_an, er_or, er_nt, er_isi, er_ci, er_cb, er_cn, er_cs, er_neg, valS_val, valS_own, retD_rt, retD_nx, boolD_b, intD_i, listD_l, tupD_t, ownS_o, items_l, items_t, isi_b, isi_i, isi_n, isi_ii, isi_tt, len_l, len_t, tu_l, tu_t, li_l, li_t, int_b, add_i, add_l, add_t, sub_i, opI_i, rev_l, rev_t, sl_l, sl_t, zip_t, zip_l, zip_tl, sq2_t, sq2_l, bi_len, bi_min, bi_max, bi_sum, bi_all, bi_any, bi_int, bi_str, bi_tuple, bi_list, bi_sorted, opB_add, opB_sub, opB_mul, opB_div, opB_mod, opC_eq, opC_ne, opC_lt, opC_le, opC_gt, opC_ge, opC_is, opC_isn, opC_isb, opC_isnb, opC_in, opC_nin, isN_n, isN_i, eT, f0, f1, f2, f3, f4, f5, e1, e2, e3]
    exact ⟨_, _, _, rfl⟩
  · obtain ⟨s2, s3, s4, rfl⟩ := hI
    simp only [o1_some, o1_none, o1_map, o1_if, o1_test, ev_var, ev_bv, ev_cn, ev_cb, ev_ci, ev_cs, ev_bin, ev_neg, ev_nt, ev_cmp, ev_cmp2, ev_an, ev_or, ev_tup, ev_lst, ev_call, ev_bi, ev_isi, ev_ix, ev_sl, ev_rev, ev_rgL, ev_rgT, ev_lset, ev_sset, ev_comp, ev_join, ev_split, ea_nil, ea_cons, eo_nil, ec_nil, ei_rg, ei_zip, ei_enum, nxt_nx, nxt_rt, es_set, es_setO, es_unp, es_par, es_app, es_sti, es_ifs, es_for, es_skip, es_seq, es_retv, turn_of, forB_of, bindT1, bindT2, bindEach, wipeE, getV, getB, start0, List.length_cons, List.length_nil, List.getElem?_cons_zero, List.getElem?_cons_succ, List.set_cons_zero, List.set_cons_succ, List.cons_append, List.nil_append, List.replicate_succ, List.replicate_zero, if_true, if_false, reduceIte, Nat.reduceAdd, Nat.reduceSub, Nat.reduceLeDiff, Bool.false_eq_true, Bool.true_eq_false, Bool.not_true, Bool.not_false, reduceCtorEq, Nat.zero_add, true_and, and_true, ei_var, ei_bv, ei_ix, ei_call, ei_bi, ei_tup, ei_lst, ei_comp, ei_rev, ei_bin, ei_rgL, ei_rgT, ei_sset, ei_sl, ei_split, ec_cmp, ec_cmp2, ec_an, ec_or, ec_nt, ec_call, ec_isi, ec_bv, ec_var, ec_bi, ec_cb, eo_ci, eo_bv, eo_var, eo_neg, eo_bin, eo_bi, eo_ix, eo_call, er_bv, er_ix, er_call, er_bi, er_tup, er_lst, er_comp, er_rev, er_bin, er_rgL, er_rgT, er_sset, er_lset, er_sl, er_split, er_join, er_cmp, er_cmp2, er_an, er_or, er_nt, er_isi, er_ci, er_cb, er_cn, er_cs, er_neg, valS_val, valS_own, retD_rt, retD_nx, boolD_b, intD_i, listD_l, tupD_t, ownS_o, items_l, items_t, isi_b, isi_i, isi_n, isi_ii, isi_tt, len_l, len_t, tu_l, tu_t, li_l, li_t, int_b, add_i, add_l, add_t, sub_i, opI_i, rev_l, rev_t, sl_l, sl_t, zip_t, zip_l, zip_tl, sq2_t, sq2_l, bi_len, bi_min, bi_max, bi_sum, bi_all, bi_any, bi_int, bi_str, bi_tuple, bi_list, bi_sorted, opB_add, opB_sub, opB_mul, opB_div, opB_mod, opC_eq, opC_ne, opC_lt, opC_le, opC_gt, opC_ge, opC_is, opC_isn, opC_isb, opC_isnb, opC_in, opC_nin, isN_n, isN_i, text_eq]
end J

/-! Texts changed. -/
namespace J
open PySem
theorem told_ev (n : Nat) {x : Str} (hx : x.length ≤ 30000) : Ph (n + 5) 108 [.str x] = some (match readP x with
    | some w => encW w
    | none => .none) := by
  show tryF 105 136 .none ieTold 2 (Ph (n + 4)) [.str x] = _
  cases h : readP x with
  | none =>
    have := read_x n hx
    rw [h] at this
    simp only [tryF, this, Option.isNone_none]
  | some w =>
    have h1 := read_x n hx
    rw [h] at h1
    have h2 := read_v n hx h
    simp only [tryF, h1, Option.isNone_some, h2]
    rw [← o1_eq]
    have hn : isNoneD (encW w) = false := rfl
    have hi : biInt [.bool false] = some (.int 0) := rfl
    have hix : opIx (.list [encW w, .int 0]) (.int 0) = some (encW w) := rfl
    simp only [o1_some, o1_none, o1_map, o1_if, o1_test, ev_var, ev_bv, ev_cn, ev_cb, ev_ci, ev_cs, ev_bin, ev_neg, ev_nt, ev_cmp, ev_cmp2, ev_an, ev_or, ev_tup, ev_lst, ev_call, ev_bi, ev_isi, ev_ix, ev_sl, ev_rev, ev_rgL, ev_rgT, ev_lset, ev_sset, ev_comp, ev_join, ev_split, ea_nil, ea_cons, eo_nil, ec_nil, ei_rg, ei_zip, ei_enum, nxt_nx, nxt_rt, es_set, es_setO, es_unp, es_par, es_app, es_sti, es_ifs, es_for, es_skip, es_seq, es_retv, turn_of, forB_of, bindT1, bindT2, bindEach, wipeE, getV, getB, start0, List.length_cons, List.length_nil, List.getElem?_cons_zero, List.getElem?_cons_succ, List.set_cons_zero, List.set_cons_succ, List.cons_append, List.nil_append, List.replicate_succ, List.replicate_zero, if_true, if_false, reduceIte, Nat.reduceAdd, Nat.reduceSub, Nat.reduceLeDiff, Bool.false_eq_true, Bool.true_eq_false, Bool.not_true, Bool.not_false, reduceCtorEq, Nat.zero_add, true_and, and_true, ei_var, ei_bv, ei_ix, ei_call, ei_bi, ei_tup, ei_lst, ei_comp, ei_rev, ei_bin, ei_rgL, ei_rgT, ei_sset, ei_sl, ei_split, ec_cmp, ec_cmp2, ec_an, ec_or, ec_nt, ec_call, ec_isi, ec_bv, ec_var, ec_bi, ec_cb, eo_ci, eo_bv, eo_var, eo_neg, eo_bin, eo_bi, eo_ix, eo_call, er_bv, er_ix, er_call, er_bi, er_tup, er_lst, er_comp, er_rev, er_bin, er_rgL, er_rgT, er_sset, er_lset, er_sl, er_split, er_join, er_cmp, er_cmp2, er_an, er_or, er_nt, er_isi, er_ci, er_cb, er_cn, er_cs, er_neg, valS_val, valS_own, retD_rt, retD_nx, boolD_b, intD_i, listD_l, tupD_t, ownS_o, items_l, items_t, isi_b, isi_i, isi_n, isi_ii, isi_tt, len_l, len_t, tu_l, tu_t, li_l, li_t, int_b, add_i, add_l, add_t, sub_i, opI_i, rev_l, rev_t, sl_l, sl_t, zip_t, zip_l, zip_tl, sq2_t, sq2_l, bi_len, bi_min, bi_max, bi_sum, bi_all, bi_any, bi_int, bi_str, bi_tuple, bi_list, bi_sorted, opB_add, opB_sub, opB_mul, opB_div, opB_mod, opC_eq, opC_ne, opC_lt, opC_le, opC_gt, opC_ge, opC_is, opC_isn, opC_isb, opC_isnb, opC_in, opC_nin, isN_n, isN_i, ieTold, hn, hi, hix]
/-! ### lists of words -/
def wt (ws : List Str) : Nat := (ws.map (·.length)).sum + ws.length
theorem wt_app (a b : List Str) : wt (a ++ b) = wt a + wt b := by
  unfold wt
  simp
  omega
theorem wt_drop : ∀ (ws : List Str) (k : Nat), wt (ws.drop k) ≤ wt ws
  | [], _ => by simp
  | x :: r, 0 => by simp
  | x :: r, k + 1 => by
    have := wt_drop r k
    rw [List.drop_succ_cons]
    have e : wt (x :: r) = x.length + 1 + wt r := by unfold wt; simp; omega
    omega
theorem wt_take : ∀ (ws : List Str) (k : Nat), wt (ws.take k) ≤ wt ws
  | [], _ => by simp
  | x :: r, 0 => by simp [wt]
  | x :: r, k + 1 => by
    have := wt_take r k
    rw [List.take_succ_cons]
    have e : ∀ l : List Str, wt (x :: l) = x.length + 1 + wt l := fun l => by unfold wt; simp; omega
    rw [e, e]
    omega
theorem wt_cut (ws : List Str) (lo hi : Option Int) : wt (cutD ws lo hi) ≤ wt ws := by
  unfold cutD
  exact Nat.le_trans (wt_take _ _) (wt_drop _ _)
theorem wt_rev (ws : List Str) : wt ws.reverse = wt ws := by
  unfold wt
  rw [List.map_reverse, List.sum_reverse, List.length_reverse]
theorem wt_set : ∀ (ws : List Str) (k : Nat) (y : Str), wt (ws.set k y) ≤ wt ws + y.length
  | [], _, _ => by simp
  | x :: r, 0, y => by unfold wt; simp; omega
  | x :: r, k + 1, y => by
    have := wt_set r k y
    rw [List.set_cons_succ]
    have e : ∀ l : List Str, wt (x :: l) = x.length + 1 + wt l := fun l => by unfold wt; simp; omega
    rw [e, e]
    omega
theorem wt_len (ws : List Str) : ws.length ≤ wt ws := by unfold wt; omega
theorem wt_split (x : Str) (c : Nat) : wt (Txt.split x (ch c)) ≤ x.length + 1 := sum_len
theorem join_ev {ws : List Str} (h : wt ws ≤ 100000) : opJoin (.str (ch 32)) (.list (ws.map .str)) = some (.str (Str.join (ch 32) ws)) := by
  refine join_ok ?_
  have e : (ch 32).length = 1 := rfl
  rw [e, Nat.mul_one]
  exact h
theorem join_len (ws : List Str) : (Str.join (ch 32) ws).length ≤ wt ws := by
  have := StrLaws.join_length_le (ch 32) ws
  have e : (ch 32).length = 1 := rfl
  rw [e, Nat.mul_one] at this
  exact this
theorem add_ws {a b : List Str} (h : wt a + wt b ≤ 100000) : opAdd (.list (a.map .str)) (.list (b.map .str)) = some (.list ((a ++ b).map .str)) := by
  have := wt_len a
  have := wt_len b
  simp only [opAdd]
  rw [if_pos (by rw [List.length_map, List.length_map]; omega), List.map_append]
theorem sl_s {x : Str} {lo hi : Option Int} (h : x.length ≤ 100000) : opSl (.str x) lo hi = some (.str (L2.cutS x lo hi)) := by
  simp only [opSl]
  rw [if_pos h]
theorem cs_len (x : Str) (lo hi : Option Int) : (L2.cutS x lo hi).length ≤ x.length := L2.cutS_length x lo hi
theorem add_s {a b : Str} (h : a.length + b.length ≤ 100000) : opAdd (.str a) (.str b) = some (.str (a ++ b)) := add_str h
theorem ix_s {x : Str} {k : Int} {m : Nat} (hm : 0 < m) (he : x.cps.toList.length = m) (hl : x.length ≤ 100000) : ∃ c, opIx (.str x) (.int (k % m)) = some (.str (ch c)) := by
  have hb := mod6 k m (by omega)
  obtain ⟨r, hr⟩ : ∃ r : Nat, k % m = r := ⟨(k % m).toNat, (toN hb.1).symm⟩
  have hr2 : r < x.cps.toList.length := by omega
  refine ⟨x.cps.toList[r], ?_⟩
  simp only [opIx]
  rw [if_pos hl, hr, atI_nat, List.getElem?_eq_getElem hr2]
  rfl
theorem ix_ws {ws : List Str} {k : Int} {m : Nat} (hm : 0 < m) (he : ws.length = m) : ∃ y ∈ ws, opIx (.list (ws.map .str)) (.int (k % m)) = some (.str y) := by
  have hb := mod6 k m (by omega)
  obtain ⟨r, hr⟩ : ∃ r : Nat, k % m = r := ⟨(k % m).toNat, (toN hb.1).symm⟩
  have hr2 : r < ws.length := by omega
  refine ⟨ws[r], List.getElem_mem hr2, ?_⟩
  simp only [opIx]
  rw [hr, atI_nat, List.getElem?_map, List.getElem?_eq_getElem hr2]
  rfl
theorem cut_ws {ws : List Str} {lo hi : Option Int} : cutD (ws.map PyData.str) lo hi = (cutD ws lo hi).map PyData.str := cutD_map _ _ _ _
theorem ch1 {c : Nat} : (ch c).length = 1 := rfl
end J

/-! Texts changed: the laws' defs. -/
namespace J
open PySem
def lits : List Str := [Str.ofString "0", Str.ofString "7", Str.ofString ":", Str.ofString "0-1=5", Str.ofString "1-0=5", Str.ofString "0-1=100", Str.ofString "0-1=05", Str.ofString "0-6=1", Str.ofString "0-1", Str.ofString "=", Str.ofString "1-1=1", Str.ofString "-", Str.ofString "0-1=0", Str.ofString ""]
theorem lits_len : ∀ y ∈ lits, y.length ≤ 7 := by decide +kernel
theorem let16 : (Str.ofString " 0123456789:=-a~").cps.toList.length = 16 := by decide +kernel
theorem sl_l' {ws : List Str} {lo hi : Option Int} : opSl (.list (ws.map PyData.str)) lo hi = some (.list ((cutD ws lo hi).map .str)) := by
  simp only [opSl, cut_ws]
def J32 (k : Nat) (d : D) : Prop := ∃ y : Str, d = .str y ∧ y.length ≤ k
theorem changed_ev (n : Nat) {x : Str} (hx : x.length ≤ 10000) (a : Int) : O1 (Ph (n + 1) 107 [.str x, .int a]) (J32 (3 * x.length + 20)) := by
  show O1 (evF (Ph n) fd107 [.str x, .int a]) _
  rw [ef_of rfl]
  have d16 := divOk (i := a) (j := 16) (by decide) (by decide)
  have d400 := divOk (i := a) (j := 400) (by decide) (by decide)
  have m1 := modOk (i := a / 16) (j := (x.length : Int) + 1) (by omega)
  have m8 := modOk (i := a) (j := 8) (by decide)
  have m16 := modOk (i := a / 400) (j := 16) (by decide)
  have m14 := modOk (i := a / 400) (j := 14) (by decide)
  obtain ⟨c, hc⟩ := ix_s (x := Str.ofString " 0123456789:=-a~") (k := a / 400) (m := 16) (by decide) let16 (by decide +kernel)
  have hc : opIx (.str (Str.ofString " 0123456789:=-a~")) (.int (a / 400 % 16)) = some (.str (ch c)) := hc
  generalize hat : a / 16 % ((x.length : Int) + 1) = at1 at *
  have lx : x.length ≤ 100000 := by omega
  have L := len_s lx
  have c1 := cs_len x none (some at1)
  have c2 := cs_len x (some at1) none
  have c3 := cs_len x (some (at1 + 1)) none
  have q1 : (L2.cutS x none (some at1)).length + (ch c).length ≤ 100000 := by rw [ch1]; omega
  have q2 : (L2.cutS x none (some at1) ++ ch c).length + (L2.cutS x (some at1) none).length ≤ 100000 := by rw [app_len, ch1]; omega
  have q3 : (L2.cutS x none (some at1)).length + (L2.cutS x (some (at1 + 1)) none).length ≤ 100000 := by omega
  have q4 : (L2.cutS x none (some at1) ++ ch c).length + (L2.cutS x (some (at1 + 1)) none).length ≤ 100000 := by rw [app_len, ch1]; omega
  have hsp : 0 < (Txt.split x (ch 32)).length := PyProof.Rows.split_pos x (ch 32)
  have hm2 := modOk (i := a / 16) (j := ((Txt.split x (ch 32)).length : Int)) (by omega)
  have hb2 := mod6 (a / 16) ((Txt.split x (ch 32)).length : Int) (by omega)
  obtain ⟨k, hk⟩ : ∃ k : Nat, a / 16 % ((Txt.split x (ch 32)).length : Int) = k := ⟨(a / 16 % ((Txt.split x (ch 32)).length : Int)).toNat, (toN hb2.1).symm⟩
  have hkl : k < (Txt.split x (ch 32)).length := by omega
  have hw0 := wt_split x 32
  have b8 := mod6 a 8 (by decide)
  by_cases e0 : a % 8 = 0
  · simp only [o1_some, o1_none, o1_map, o1_if, o1_test, ev_var, ev_bv, ev_cn, ev_cb, ev_ci, ev_cs, ev_bin, ev_neg, ev_nt, ev_cmp, ev_cmp2, ev_an, ev_or, ev_tup, ev_lst, ev_call, ev_bi, ev_isi, ev_ix, ev_sl, ev_rev, ev_rgL, ev_rgT, ev_lset, ev_sset, ev_comp, ev_join, ev_split, ea_nil, ea_cons, eo_nil, ec_nil, ei_rg, ei_zip, ei_enum, nxt_nx, nxt_rt, es_set, es_setO, es_unp, es_par, es_app, es_sti, es_ifs, es_for, es_skip, es_seq, es_retv, turn_of, forB_of, bindT1, bindT2, bindEach, wipeE, getV, getB, start0, List.length_cons, List.length_nil, List.getElem?_cons_zero, List.getElem?_cons_succ, List.set_cons_zero, List.set_cons_succ, List.cons_append, List.nil_append, List.replicate_succ, List.replicate_zero, if_true, if_false, reduceIte, Nat.reduceAdd, Nat.reduceSub, Nat.reduceLeDiff, Bool.false_eq_true, Bool.true_eq_false, Bool.not_true, Bool.not_false, reduceCtorEq, Nat.zero_add, true_and, and_true, ei_var, ei_bv, ei_ix, ei_call, ei_bi, ei_tup, ei_lst, ei_comp, ei_rev, ei_bin, ei_rgL, ei_rgT, ei_sset, ei_sl, ei_split, ec_cmp, ec_cmp2, ec_an, ec_or, ec_nt, ec_call, ec_isi, ec_bv, ec_var, ec_bi, ec_cb, eo_ci, eo_bv, eo_var, eo_neg, eo_bin, eo_bi, eo_ix, eo_call, er_bv, er_ix, er_call, er_bi, er_tup, er_lst, er_comp, er_rev, er_bin, er_rgL, er_rgT, er_sset, er_lset, er_sl, er_split, er_join, er_cmp, er_cmp2, er_an, er_or, er_nt, er_isi, er_ci, er_cb, er_cn, er_cs, er_neg, valS_val, valS_own, retD_rt, retD_nx, boolD_b, intD_i, listD_l, tupD_t, ownS_o, items_l, items_t, isi_b, isi_i, isi_n, isi_ii, isi_tt, len_l, len_t, tu_l, tu_t, li_l, li_t, int_b, add_i, add_l, add_t, sub_i, opI_i, rev_l, rev_t, sl_l, sl_t, zip_t, zip_l, zip_tl, sq2_t, sq2_l, bi_len, bi_min, bi_max, bi_sum, bi_all, bi_any, bi_int, bi_str, bi_tuple, bi_list, bi_sorted, opB_add, opB_sub, opB_mul, opB_div, opB_mod, opC_eq, opC_ne, opC_lt, opC_le, opC_gt, opC_ge, opC_is, opC_isn, opC_isb, opC_isnb, opC_in, opC_nin, isN_n, isN_i, nI, biMin2, biMax2, opEq_nI, ixW0, ixW1, ix_e0, ix_e1, ix_e2, tup_e, decide_eq_true_eq, fd107, L, d16, m1, hat, d400, m16, hc, m8, e0, opEq_ii, decide_true, sl_s lx, add_s q1, add_s q2]
    exact ⟨_, rfl, by rw [app_len, app_len, ch1]; omega⟩
  by_cases e3 : a % 8 = 3
  · simp only [o1_some, o1_none, o1_map, o1_if, o1_test, ev_var, ev_bv, ev_cn, ev_cb, ev_ci, ev_cs, ev_bin, ev_neg, ev_nt, ev_cmp, ev_cmp2, ev_an, ev_or, ev_tup, ev_lst, ev_call, ev_bi, ev_isi, ev_ix, ev_sl, ev_rev, ev_rgL, ev_rgT, ev_lset, ev_sset, ev_comp, ev_join, ev_split, ea_nil, ea_cons, eo_nil, ec_nil, ei_rg, ei_zip, ei_enum, nxt_nx, nxt_rt, es_set, es_setO, es_unp, es_par, es_app, es_sti, es_ifs, es_for, es_skip, es_seq, es_retv, turn_of, forB_of, bindT1, bindT2, bindEach, wipeE, getV, getB, start0, List.length_cons, List.length_nil, List.getElem?_cons_zero, List.getElem?_cons_succ, List.set_cons_zero, List.set_cons_succ, List.cons_append, List.nil_append, List.replicate_succ, List.replicate_zero, if_true, if_false, reduceIte, Nat.reduceAdd, Nat.reduceSub, Nat.reduceLeDiff, Bool.false_eq_true, Bool.true_eq_false, Bool.not_true, Bool.not_false, reduceCtorEq, Nat.zero_add, true_and, and_true, ei_var, ei_bv, ei_ix, ei_call, ei_bi, ei_tup, ei_lst, ei_comp, ei_rev, ei_bin, ei_rgL, ei_rgT, ei_sset, ei_sl, ei_split, ec_cmp, ec_cmp2, ec_an, ec_or, ec_nt, ec_call, ec_isi, ec_bv, ec_var, ec_bi, ec_cb, eo_ci, eo_bv, eo_var, eo_neg, eo_bin, eo_bi, eo_ix, eo_call, er_bv, er_ix, er_call, er_bi, er_tup, er_lst, er_comp, er_rev, er_bin, er_rgL, er_rgT, er_sset, er_lset, er_sl, er_split, er_join, er_cmp, er_cmp2, er_an, er_or, er_nt, er_isi, er_ci, er_cb, er_cn, er_cs, er_neg, valS_val, valS_own, retD_rt, retD_nx, boolD_b, intD_i, listD_l, tupD_t, ownS_o, items_l, items_t, isi_b, isi_i, isi_n, isi_ii, isi_tt, len_l, len_t, tu_l, tu_t, li_l, li_t, int_b, add_i, add_l, add_t, sub_i, opI_i, rev_l, rev_t, sl_l, sl_t, zip_t, zip_l, zip_tl, sq2_t, sq2_l, bi_len, bi_min, bi_max, bi_sum, bi_all, bi_any, bi_int, bi_str, bi_tuple, bi_list, bi_sorted, opB_add, opB_sub, opB_mul, opB_div, opB_mod, opC_eq, opC_ne, opC_lt, opC_le, opC_gt, opC_ge, opC_is, opC_isn, opC_isb, opC_isnb, opC_in, opC_nin, isN_n, isN_i, nI, biMin2, biMax2, opEq_nI, ixW0, ixW1, ix_e0, ix_e1, ix_e2, tup_e, decide_eq_true_eq, fd107, L, d16, m1, hat, d400, m16, hc, m8, e3, opEq_ii, decide_true, decide_false, sl_s lx, add_s q3, Int.reduceEq]
    exact ⟨_, rfl, by rw [app_len]; omega⟩
  by_cases lt3 : a % 8 < 3
  · simp only [o1_some, o1_none, o1_map, o1_if, o1_test, ev_var, ev_bv, ev_cn, ev_cb, ev_ci, ev_cs, ev_bin, ev_neg, ev_nt, ev_cmp, ev_cmp2, ev_an, ev_or, ev_tup, ev_lst, ev_call, ev_bi, ev_isi, ev_ix, ev_sl, ev_rev, ev_rgL, ev_rgT, ev_lset, ev_sset, ev_comp, ev_join, ev_split, ea_nil, ea_cons, eo_nil, ec_nil, ei_rg, ei_zip, ei_enum, nxt_nx, nxt_rt, es_set, es_setO, es_unp, es_par, es_app, es_sti, es_ifs, es_for, es_skip, es_seq, es_retv, turn_of, forB_of, bindT1, bindT2, bindEach, wipeE, getV, getB, start0, List.length_cons, List.length_nil, List.getElem?_cons_zero, List.getElem?_cons_succ, List.set_cons_zero, List.set_cons_succ, List.cons_append, List.nil_append, List.replicate_succ, List.replicate_zero, if_true, if_false, reduceIte, Nat.reduceAdd, Nat.reduceSub, Nat.reduceLeDiff, Bool.false_eq_true, Bool.true_eq_false, Bool.not_true, Bool.not_false, reduceCtorEq, Nat.zero_add, true_and, and_true, ei_var, ei_bv, ei_ix, ei_call, ei_bi, ei_tup, ei_lst, ei_comp, ei_rev, ei_bin, ei_rgL, ei_rgT, ei_sset, ei_sl, ei_split, ec_cmp, ec_cmp2, ec_an, ec_or, ec_nt, ec_call, ec_isi, ec_bv, ec_var, ec_bi, ec_cb, eo_ci, eo_bv, eo_var, eo_neg, eo_bin, eo_bi, eo_ix, eo_call, er_bv, er_ix, er_call, er_bi, er_tup, er_lst, er_comp, er_rev, er_bin, er_rgL, er_rgT, er_sset, er_lset, er_sl, er_split, er_join, er_cmp, er_cmp2, er_an, er_or, er_nt, er_isi, er_ci, er_cb, er_cn, er_cs, er_neg, valS_val, valS_own, retD_rt, retD_nx, boolD_b, intD_i, listD_l, tupD_t, ownS_o, items_l, items_t, isi_b, isi_i, isi_n, isi_ii, isi_tt, len_l, len_t, tu_l, tu_t, li_l, li_t, int_b, add_i, add_l, add_t, sub_i, opI_i, rev_l, rev_t, sl_l, sl_t, zip_t, zip_l, zip_tl, sq2_t, sq2_l, bi_len, bi_min, bi_max, bi_sum, bi_all, bi_any, bi_int, bi_str, bi_tuple, bi_list, bi_sorted, opB_add, opB_sub, opB_mul, opB_div, opB_mod, opC_eq, opC_ne, opC_lt, opC_le, opC_gt, opC_ge, opC_is, opC_isn, opC_isb, opC_isnb, opC_in, opC_nin, isN_n, isN_i, nI, biMin2, biMax2, opEq_nI, ixW0, ixW1, ix_e0, ix_e1, ix_e2, tup_e, decide_eq_true_eq, fd107, L, d16, m1, hat, d400, m16, hc, m8, e0, e3, lt3, opEq_ii, decide_true, decide_false, sl_s lx, add_s q1, add_s q4]
    exact ⟨_, rfl, by rw [app_len, app_len, ch1]; omega⟩
  -- by words
  refine seq_cut 7 (fun env => env = [.val (.str x), .val (.int a), .val (.int (k : Int)), .val (.str (ch c)), .own ((Txt.split x (ch 32)).map .str), .no]) ?_ fun env hI => ?_
  · simp only [o1_some, o1_none, o1_map, o1_if, o1_test, ev_var, ev_bv, ev_cn, ev_cb, ev_ci, ev_cs, ev_bin, ev_neg, ev_nt, ev_cmp, ev_cmp2, ev_an, ev_or, ev_tup, ev_lst, ev_call, ev_bi, ev_isi, ev_ix, ev_sl, ev_rev, ev_rgL, ev_rgT, ev_lset, ev_sset, ev_comp, ev_join, ev_split, ea_nil, ea_cons, eo_nil, ec_nil, ei_rg, ei_zip, ei_enum, nxt_nx, nxt_rt, es_set, es_setO, es_unp, es_par, es_app, es_sti, es_ifs, es_for, es_skip, es_seq, es_retv, turn_of, forB_of, bindT1, bindT2, bindEach, wipeE, getV, getB, start0, List.length_cons, List.length_nil, List.getElem?_cons_zero, List.getElem?_cons_succ, List.set_cons_zero, List.set_cons_succ, List.cons_append, List.nil_append, List.replicate_succ, List.replicate_zero, if_true, if_false, reduceIte, Nat.reduceAdd, Nat.reduceSub, Nat.reduceLeDiff, Bool.false_eq_true, Bool.true_eq_false, Bool.not_true, Bool.not_false, reduceCtorEq, Nat.zero_add, true_and, and_true, ei_var, ei_bv, ei_ix, ei_call, ei_bi, ei_tup, ei_lst, ei_comp, ei_rev, ei_bin, ei_rgL, ei_rgT, ei_sset, ei_sl, ei_split, ec_cmp, ec_cmp2, ec_an, ec_or, ec_nt, ec_call, ec_isi, ec_bv, ec_var, ec_bi, ec_cb, eo_ci, eo_bv, eo_var, eo_neg, eo_bin, eo_bi, eo_ix, eo_call, er_bv, er_ix, er_call, er_bi, er_tup, er_lst, er_comp, er_rev, er_bin, er_rgL, er_rgT, er_sset, er_lset, er_sl, er_split, er_join, er_cmp, er_cmp2, er_an, er_or, er_nt, er_isi, er_ci, er_cb, er_cn, er_cs, er_neg, valS_val, valS_own, retD_rt, retD_nx, boolD_b, intD_i, listD_l, tupD_t, ownS_o, items_l, items_t, isi_b, isi_i, isi_n, isi_ii, isi_tt, len_l, len_t, tu_l, tu_t, li_l, li_t, int_b, add_i, add_l, add_t, sub_i, opI_i, rev_l, rev_t, sl_l, sl_t, zip_t, zip_l, zip_tl, sq2_t, sq2_l, bi_len, bi_min, bi_max, bi_sum, bi_all, bi_any, bi_int, bi_str, bi_tuple, bi_list, bi_sorted, opB_add, opB_sub, opB_mul, opB_div, opB_mod, opC_eq, opC_ne, opC_lt, opC_le, opC_gt, opC_ge, opC_is, opC_isn, opC_isb, opC_isnb, opC_in, opC_nin, isN_n, isN_i, nI, biMin2, biMax2, opEq_nI, ixW0, ixW1, ix_e0, ix_e1, ix_e2, tup_e, decide_eq_true_eq, fd107, tkS, L, d16, m1, hat, d400, m16, hc, m8, e0, e3, lt3, opEq_ii, decide_false, s_sp, split_ev lx, List.length_map, hm2, hk]
  subst hI
  generalize Txt.split x (ch 32) = ws at *
  have cw : ∀ lo hi, wt (cutD ws lo hi) ≤ x.length + 1 := fun lo hi => Nat.le_trans (wt_cut ws lo hi) hw0
  refine seq_cut 4 (fun env => ∃ (vs : List Str) (s5 : Sl), wt vs ≤ 3 * x.length + 20 ∧ env = [.val (.str x), .val (.int a), .val (.int (k : Int)), .val (.str (ch c)), .own (vs.map .str), s5]) ?_ fun env hI => ?_
  · have h48 : a % 8 = 4 ∨ a % 8 = 5 ∨ a % 8 = 6 ∨ a % 8 = 7 := by omega
    rcases h48 with e | e | e | e
    · have a1 := add_ws (a := cutD ws none (some (k : Int))) (b := cutD ws (some ((k : Int) + 1)) none) (by have := cw none (some (k : Int)); have := cw (some ((k : Int) + 1)) none; omega)
      simp only [o1_some, o1_none, o1_map, o1_if, o1_test, ev_var, ev_bv, ev_cn, ev_cb, ev_ci, ev_cs, ev_bin, ev_neg, ev_nt, ev_cmp, ev_cmp2, ev_an, ev_or, ev_tup, ev_lst, ev_call, ev_bi, ev_isi, ev_ix, ev_sl, ev_rev, ev_rgL, ev_rgT, ev_lset, ev_sset, ev_comp, ev_join, ev_split, ea_nil, ea_cons, eo_nil, ec_nil, ei_rg, ei_zip, ei_enum, nxt_nx, nxt_rt, es_set, es_setO, es_unp, es_par, es_app, es_sti, es_ifs, es_for, es_skip, es_seq, es_retv, turn_of, forB_of, bindT1, bindT2, bindEach, wipeE, getV, getB, start0, List.length_cons, List.length_nil, List.getElem?_cons_zero, List.getElem?_cons_succ, List.set_cons_zero, List.set_cons_succ, List.cons_append, List.nil_append, List.replicate_succ, List.replicate_zero, if_true, if_false, reduceIte, Nat.reduceAdd, Nat.reduceSub, Nat.reduceLeDiff, Bool.false_eq_true, Bool.true_eq_false, Bool.not_true, Bool.not_false, reduceCtorEq, Nat.zero_add, true_and, and_true, ei_var, ei_bv, ei_ix, ei_call, ei_bi, ei_tup, ei_lst, ei_comp, ei_rev, ei_bin, ei_rgL, ei_rgT, ei_sset, ei_sl, ei_split, ec_cmp, ec_cmp2, ec_an, ec_or, ec_nt, ec_call, ec_isi, ec_bv, ec_var, ec_bi, ec_cb, eo_ci, eo_bv, eo_var, eo_neg, eo_bin, eo_bi, eo_ix, eo_call, er_bv, er_ix, er_call, er_bi, er_tup, er_lst, er_comp, er_rev, er_bin, er_rgL, er_rgT, er_sset, er_lset, er_sl, er_split, er_join, er_cmp, er_cmp2, er_an, er_or, er_nt, er_isi, er_ci, er_cb, er_cn, er_cs, er_neg, valS_val, valS_own, retD_rt, retD_nx, boolD_b, intD_i, listD_l, tupD_t, ownS_o, items_l, items_t, isi_b, isi_i, isi_n, isi_ii, isi_tt, len_l, len_t, tu_l, tu_t, li_l, li_t, int_b, add_i, sub_i, opI_i, rev_l, rev_t, sl_l, sl_t, zip_t, zip_l, zip_tl, sq2_t, sq2_l, bi_len, bi_min, bi_max, bi_sum, bi_all, bi_any, bi_int, bi_str, bi_tuple, bi_list, bi_sorted, opB_add, opB_sub, opB_mul, opB_div, opB_mod, opC_eq, opC_ne, opC_lt, opC_le, opC_gt, opC_ge, opC_is, opC_isn, opC_isb, opC_isnb, opC_in, opC_nin, isN_n, isN_i, nI, biMin2, biMax2, opEq_nI, ixW0, ixW1, ix_e0, ix_e1, ix_e2, tup_e, decide_eq_true_eq, fd107, tkS, dpS, m8, e, opEq_ii, decide_true, decide_false, Int.reduceEq, sl_l', cut_ws, a1]
      exact ⟨_, _, by rw [wt_app]; have := cw none (some (k : Int)); have := cw (some ((k : Int) + 1)) none; omega, rfl⟩
    · have w1 := cw none (some (k : Int))
      have w2 := cw (some (k : Int)) (some ((k : Int) + 1))
      have w3 := cw (some (k : Int)) none
      have a1 := add_ws (a := cutD ws none (some (k : Int))) (b := cutD ws (some (k : Int)) (some ((k : Int) + 1))) (by omega)
      have a2 := add_ws (a := cutD ws none (some (k : Int)) ++ cutD ws (some (k : Int)) (some ((k : Int) + 1))) (b := cutD ws (some (k : Int)) none) (by rw [wt_app]; omega)
      simp only [o1_some, o1_none, o1_map, o1_if, o1_test, ev_var, ev_bv, ev_cn, ev_cb, ev_ci, ev_cs, ev_bin, ev_neg, ev_nt, ev_cmp, ev_cmp2, ev_an, ev_or, ev_tup, ev_lst, ev_call, ev_bi, ev_isi, ev_ix, ev_sl, ev_rev, ev_rgL, ev_rgT, ev_lset, ev_sset, ev_comp, ev_join, ev_split, ea_nil, ea_cons, eo_nil, ec_nil, ei_rg, ei_zip, ei_enum, nxt_nx, nxt_rt, es_set, es_setO, es_unp, es_par, es_app, es_sti, es_ifs, es_for, es_skip, es_seq, es_retv, turn_of, forB_of, bindT1, bindT2, bindEach, wipeE, getV, getB, start0, List.length_cons, List.length_nil, List.getElem?_cons_zero, List.getElem?_cons_succ, List.set_cons_zero, List.set_cons_succ, List.cons_append, List.nil_append, List.replicate_succ, List.replicate_zero, if_true, if_false, reduceIte, Nat.reduceAdd, Nat.reduceSub, Nat.reduceLeDiff, Bool.false_eq_true, Bool.true_eq_false, Bool.not_true, Bool.not_false, reduceCtorEq, Nat.zero_add, true_and, and_true, ei_var, ei_bv, ei_ix, ei_call, ei_bi, ei_tup, ei_lst, ei_comp, ei_rev, ei_bin, ei_rgL, ei_rgT, ei_sset, ei_sl, ei_split, ec_cmp, ec_cmp2, ec_an, ec_or, ec_nt, ec_call, ec_isi, ec_bv, ec_var, ec_bi, ec_cb, eo_ci, eo_bv, eo_var, eo_neg, eo_bin, eo_bi, eo_ix, eo_call, er_bv, er_ix, er_call, er_bi, er_tup, er_lst, er_comp, er_rev, er_bin, er_rgL, er_rgT, er_sset, er_lset, er_sl, er_split, er_join, er_cmp, er_cmp2, er_an, er_or, er_nt, er_isi, er_ci, er_cb, er_cn, er_cs, er_neg, valS_val, valS_own, retD_rt, retD_nx, boolD_b, intD_i, listD_l, tupD_t, ownS_o, items_l, items_t, isi_b, isi_i, isi_n, isi_ii, isi_tt, len_l, len_t, tu_l, tu_t, li_l, li_t, int_b, add_i, sub_i, opI_i, rev_l, rev_t, sl_l, sl_t, zip_t, zip_l, zip_tl, sq2_t, sq2_l, bi_len, bi_min, bi_max, bi_sum, bi_all, bi_any, bi_int, bi_str, bi_tuple, bi_list, bi_sorted, opB_add, opB_sub, opB_mul, opB_div, opB_mod, opC_eq, opC_ne, opC_lt, opC_le, opC_gt, opC_ge, opC_is, opC_isn, opC_isb, opC_isnb, opC_in, opC_nin, isN_n, isN_i, nI, biMin2, biMax2, opEq_nI, ixW0, ixW1, ix_e0, ix_e1, ix_e2, tup_e, decide_eq_true_eq, fd107, tkS, dpS, m8, e, opEq_ii, decide_true, decide_false, Int.reduceEq, sl_l', cut_ws, a1, a2]
      exact ⟨_, _, by rw [wt_app, wt_app]; omega, rfl⟩
    · have w1 := cw none (some (k : Int))
      have w2 := cw (some (k : Int)) (some ((k : Int) + 2))
      have w3 := cw (some ((k : Int) + 2)) none
      rw [← wt_rev] at w2
      have a1 := add_ws (a := cutD ws none (some (k : Int))) (b := (cutD ws (some (k : Int)) (some ((k : Int) + 2))).reverse) (by omega)
      have a2 := add_ws (a := cutD ws none (some (k : Int)) ++ (cutD ws (some (k : Int)) (some ((k : Int) + 2))).reverse) (b := cutD ws (some ((k : Int) + 2)) none) (by rw [wt_app]; omega)
      rw [List.map_reverse] at a1
      simp only [o1_some, o1_none, o1_map, o1_if, o1_test, ev_var, ev_bv, ev_cn, ev_cb, ev_ci, ev_cs, ev_bin, ev_neg, ev_nt, ev_cmp, ev_cmp2, ev_an, ev_or, ev_tup, ev_lst, ev_call, ev_bi, ev_isi, ev_ix, ev_sl, ev_rev, ev_rgL, ev_rgT, ev_lset, ev_sset, ev_comp, ev_join, ev_split, ea_nil, ea_cons, eo_nil, ec_nil, ei_rg, ei_zip, ei_enum, nxt_nx, nxt_rt, es_set, es_setO, es_unp, es_par, es_app, es_sti, es_ifs, es_for, es_skip, es_seq, es_retv, turn_of, forB_of, bindT1, bindT2, bindEach, wipeE, getV, getB, start0, List.length_cons, List.length_nil, List.getElem?_cons_zero, List.getElem?_cons_succ, List.set_cons_zero, List.set_cons_succ, List.cons_append, List.nil_append, List.replicate_succ, List.replicate_zero, if_true, if_false, reduceIte, Nat.reduceAdd, Nat.reduceSub, Nat.reduceLeDiff, Bool.false_eq_true, Bool.true_eq_false, Bool.not_true, Bool.not_false, reduceCtorEq, Nat.zero_add, true_and, and_true, ei_var, ei_bv, ei_ix, ei_call, ei_bi, ei_tup, ei_lst, ei_comp, ei_rev, ei_bin, ei_rgL, ei_rgT, ei_sset, ei_sl, ei_split, ec_cmp, ec_cmp2, ec_an, ec_or, ec_nt, ec_call, ec_isi, ec_bv, ec_var, ec_bi, ec_cb, eo_ci, eo_bv, eo_var, eo_neg, eo_bin, eo_bi, eo_ix, eo_call, er_bv, er_ix, er_call, er_bi, er_tup, er_lst, er_comp, er_rev, er_bin, er_rgL, er_rgT, er_sset, er_lset, er_sl, er_split, er_join, er_cmp, er_cmp2, er_an, er_or, er_nt, er_isi, er_ci, er_cb, er_cn, er_cs, er_neg, valS_val, valS_own, retD_rt, retD_nx, boolD_b, intD_i, listD_l, tupD_t, ownS_o, items_l, items_t, isi_b, isi_i, isi_n, isi_ii, isi_tt, len_l, len_t, tu_l, tu_t, li_l, li_t, int_b, add_i, sub_i, opI_i, rev_l, rev_t, sl_l, sl_t, zip_t, zip_l, zip_tl, sq2_t, sq2_l, bi_len, bi_min, bi_max, bi_sum, bi_all, bi_any, bi_int, bi_str, bi_tuple, bi_list, bi_sorted, opB_add, opB_sub, opB_mul, opB_div, opB_mod, opC_eq, opC_ne, opC_lt, opC_le, opC_gt, opC_ge, opC_is, opC_isn, opC_isb, opC_isnb, opC_in, opC_nin, isN_n, isN_i, nI, biMin2, biMax2, opEq_nI, ixW0, ixW1, ix_e0, ix_e1, ix_e2, tup_e, decide_eq_true_eq, fd107, tkS, dpS, m8, e, opEq_ii, decide_true, decide_false, Int.reduceEq, sl_l', cut_ws, a1, a2]
      exact ⟨_, _, by rw [wt_app, wt_app]; omega, rfl⟩
    · obtain ⟨y, hy, hiy⟩ := ix_ws (ws := lits) (k := a / 400) (m := 14) (by decide) rfl
      have hiy : opIx (.list [.str (Str.ofString "0"), .str (Str.ofString "7"), .str (Str.ofString ":"), .str (Str.ofString "0-1=5"), .str (Str.ofString "1-0=5"), .str (Str.ofString "0-1=100"), .str (Str.ofString "0-1=05"), .str (Str.ofString "0-6=1"), .str (Str.ofString "0-1"), .str (Str.ofString "="), .str (Str.ofString "1-1=1"), .str (Str.ofString "-"), .str (Str.ofString "0-1=0"), .str (Str.ofString "")]) (.int (a / 400 % 14)) = some (.str y) := hiy
      have hyl := lits_len y hy
      have hix := ixN_nat (h := hkl)
      simp only [o1_some, o1_none, o1_map, o1_if, o1_test, ev_var, ev_bv, ev_cn, ev_cb, ev_ci, ev_cs, ev_bin, ev_neg, ev_nt, ev_cmp, ev_cmp2, ev_an, ev_or, ev_tup, ev_lst, ev_call, ev_bi, ev_isi, ev_ix, ev_sl, ev_rev, ev_rgL, ev_rgT, ev_lset, ev_sset, ev_comp, ev_join, ev_split, ea_nil, ea_cons, eo_nil, ec_nil, ei_rg, ei_zip, ei_enum, nxt_nx, nxt_rt, es_set, es_setO, es_unp, es_par, es_app, es_sti, es_ifs, es_for, es_skip, es_seq, es_retv, turn_of, forB_of, bindT1, bindT2, bindEach, wipeE, getV, getB, start0, List.length_cons, List.length_nil, List.getElem?_cons_zero, List.getElem?_cons_succ, List.set_cons_zero, List.set_cons_succ, List.cons_append, List.nil_append, List.replicate_succ, List.replicate_zero, if_true, if_false, reduceIte, Nat.reduceAdd, Nat.reduceSub, Nat.reduceLeDiff, Bool.false_eq_true, Bool.true_eq_false, Bool.not_true, Bool.not_false, reduceCtorEq, Nat.zero_add, true_and, and_true, ei_var, ei_bv, ei_ix, ei_call, ei_bi, ei_tup, ei_lst, ei_comp, ei_rev, ei_bin, ei_rgL, ei_rgT, ei_sset, ei_sl, ei_split, ec_cmp, ec_cmp2, ec_an, ec_or, ec_nt, ec_call, ec_isi, ec_bv, ec_var, ec_bi, ec_cb, eo_ci, eo_bv, eo_var, eo_neg, eo_bin, eo_bi, eo_ix, eo_call, er_bv, er_ix, er_call, er_bi, er_tup, er_lst, er_comp, er_rev, er_bin, er_rgL, er_rgT, er_sset, er_lset, er_sl, er_split, er_join, er_cmp, er_cmp2, er_an, er_or, er_nt, er_isi, er_ci, er_cb, er_cn, er_cs, er_neg, valS_val, valS_own, retD_rt, retD_nx, boolD_b, intD_i, listD_l, tupD_t, ownS_o, items_l, items_t, isi_b, isi_i, isi_n, isi_ii, isi_tt, len_l, len_t, tu_l, tu_t, li_l, li_t, int_b, add_i, sub_i, opI_i, rev_l, rev_t, sl_l, sl_t, zip_t, zip_l, zip_tl, sq2_t, sq2_l, bi_len, bi_min, bi_max, bi_sum, bi_all, bi_any, bi_int, bi_str, bi_tuple, bi_list, bi_sorted, opB_add, opB_sub, opB_mul, opB_div, opB_mod, opC_eq, opC_ne, opC_lt, opC_le, opC_gt, opC_ge, opC_is, opC_isn, opC_isb, opC_isnb, opC_in, opC_nin, isN_n, isN_i, nI, biMin2, biMax2, opEq_nI, ixW0, ixW1, ix_e0, ix_e1, ix_e2, tup_e, decide_eq_true_eq, fd107, tkS, dpS, m8, e, opEq_ii, decide_true, decide_false, Int.reduceEq, d400, m14, hiy, List.length_map, hix]
      exact ⟨ws.set k y, _, by have := wt_set ws k y; omega, by rw [List.map_set]⟩
  obtain ⟨vs, s5, hv, rfl⟩ := hI
  have hj := join_ev (ws := vs) (by omega)
  have hsh : evS (Ph n) (.shr 4) [.val (.str x), .val (.int a), .val (.int (k : Int)), .val (.str (ch c)), .own (vs.map PyData.str), s5] = some (.nx [.val (.str x), .val (.int a), .val (.int (k : Int)), .val (.str (ch c)), .val (.list (vs.map .str)), s5]) := es_shr rfl
  simp only [o1_some, o1_none, o1_map, o1_if, o1_test, ev_var, ev_bv, ev_cn, ev_cb, ev_ci, ev_cs, ev_bin, ev_neg, ev_nt, ev_cmp, ev_cmp2, ev_an, ev_or, ev_tup, ev_lst, ev_call, ev_bi, ev_isi, ev_ix, ev_sl, ev_rev, ev_rgL, ev_rgT, ev_lset, ev_sset, ev_comp, ev_join, ev_split, ea_nil, ea_cons, eo_nil, ec_nil, ei_rg, ei_zip, ei_enum, nxt_nx, nxt_rt, es_set, es_setO, es_unp, es_par, es_app, es_sti, es_ifs, es_for, es_skip, es_seq, es_retv, turn_of, forB_of, bindT1, bindT2, bindEach, wipeE, getV, getB, start0, List.length_cons, List.length_nil, List.getElem?_cons_zero, List.getElem?_cons_succ, List.set_cons_zero, List.set_cons_succ, List.cons_append, List.nil_append, List.replicate_succ, List.replicate_zero, if_true, if_false, reduceIte, Nat.reduceAdd, Nat.reduceSub, Nat.reduceLeDiff, Bool.false_eq_true, Bool.true_eq_false, Bool.not_true, Bool.not_false, reduceCtorEq, Nat.zero_add, true_and, and_true, ei_var, ei_bv, ei_ix, ei_call, ei_bi, ei_tup, ei_lst, ei_comp, ei_rev, ei_bin, ei_rgL, ei_rgT, ei_sset, ei_sl, ei_split, ec_cmp, ec_cmp2, ec_an, ec_or, ec_nt, ec_call, ec_isi, ec_bv, ec_var, ec_bi, ec_cb, eo_ci, eo_bv, eo_var, eo_neg, eo_bin, eo_bi, eo_ix, eo_call, er_bv, er_ix, er_call, er_bi, er_tup, er_lst, er_comp, er_rev, er_bin, er_rgL, er_rgT, er_sset, er_lset, er_sl, er_split, er_join, er_cmp, er_cmp2, er_an, er_or, er_nt, er_isi, er_ci, er_cb, er_cn, er_cs, er_neg, valS_val, valS_own, retD_rt, retD_nx, boolD_b, intD_i, listD_l, tupD_t, ownS_o, items_l, items_t, isi_b, isi_i, isi_n, isi_ii, isi_tt, len_l, len_t, tu_l, tu_t, li_l, li_t, int_b, add_i, add_l, add_t, sub_i, opI_i, rev_l, rev_t, sl_l, sl_t, zip_t, zip_l, zip_tl, sq2_t, sq2_l, bi_len, bi_min, bi_max, bi_sum, bi_all, bi_any, bi_int, bi_str, bi_tuple, bi_list, bi_sorted, opB_add, opB_sub, opB_mul, opB_div, opB_mod, opC_eq, opC_ne, opC_lt, opC_le, opC_gt, opC_ge, opC_is, opC_isn, opC_isb, opC_isnb, opC_in, opC_nin, isN_n, isN_i, nI, biMin2, biMax2, opEq_nI, ixW0, ixW1, ix_e0, ix_e1, ix_e2, tup_e, decide_eq_true_eq, fd107, dpS, o1_of hsh, s_sp, hj]
  exact ⟨_, rfl, Nat.le_trans (join_len vs) hv⟩
end J

namespace J
open PySem
def bnd : Nat → Nat
  | 0 => 100
  | k + 1 => 3 * bnd k + 20
theorem bnd_le {k : Nat} (h : k ≤ 4) : bnd k ≤ 9000 := by
  match k, h with
  | 0, _ => decide
  | 1, _ => decide
  | 2, _ => decide
  | 3, _ => decide
  | 4, _ => decide
theorem pick6 (i : Int) : ∃ m : Nat, opIx (.tuple [.int 0, .int 1, .int 2, .int 4, .int 0, .int 1]) (.int (i % 6)) = some (.int (m : Int)) ∧ m ≤ 4 := by
  have h := mod6 i 6 (by decide)
  have : i % 6 = 0 ∨ i % 6 = 1 ∨ i % 6 = 2 ∨ i % 6 = 3 ∨ i % 6 = 4 ∨ i % 6 = 5 := by omega
  rcases this with e | e | e | e | e | e <;> rw [e]
  · exact ⟨0, rfl, by decide⟩
  · exact ⟨1, rfl, by decide⟩
  · exact ⟨2, rfl, by decide⟩
  · exact ⟨4, rfl, by decide⟩
  · exact ⟨0, rfl, by decide⟩
  · exact ⟨1, rfl, by decide⟩
theorem opEq_W0 {w : Web} : opEq (encW w) (.int 0) = some false := by
  have h0 : SeqAt.shaped (.int 0 : D) = true := rfl
  have hs : scalP (encW w) (.int 0) = false := rfl
  have he : PyData.eqv (encW w) (.int 0) = false := rfl
  simp only [opEq, hs, Bool.false_eq_true, if_false, shaped_W, h0, Bool.and_self, if_true, he]
theorem law_true (ns : List Int) (_ : ns.length ≤ 63) : Phi tab ext 60 109 [scr ns] = some (.bool true) := by
  show evF (Ph 59) fd109 [scr ns] = _
  rw [← o1_eq, ef_of rfl]
  obtain ⟨w, h1, hw⟩ := web 57 (mix ns 0) (mix_b ns 0).1
  have hm0 : Ph 59 2 [scr ns, .int 0] = some (.int (mix ns 0)) := mixed 57 ns 0
  have hm1 : Ph 59 2 [scr ns, .int 1] = some (.int (mix ns 1)) := mixed 57 ns 1
  have htx : Ph 59 106 [encW w] = some (.str (textW w)) := text_ev 58 hw
  have htl := text_len hw
  have htd : Ph 59 108 [.str (textW w)] = some (encW w) := by
    have := told_ev 54 (x := textW w) (by omega)
    rw [read_own hw] at this
    exact this
  obtain ⟨m, hm, hm4⟩ := pick6 (mix ns 1)
  have m6 := modOk (i := mix ns 1) (j := 6) (by decide)
  simp only [o1_some, o1_none, o1_map, o1_if, o1_test, ev_var, ev_bv, ev_cn, ev_cb, ev_ci, ev_cs, ev_bin, ev_neg, ev_nt, ev_cmp, ev_cmp2, ev_an, ev_or, ev_tup, ev_lst, ev_call, ev_bi, ev_isi, ev_ix, ev_sl, ev_rev, ev_rgL, ev_rgT, ev_lset, ev_sset, ev_comp, ev_join, ev_split, ea_nil, ea_cons, eo_nil, ec_nil, ei_rg, ei_zip, ei_enum, nxt_nx, nxt_rt, es_set, es_setO, es_unp, es_par, es_app, es_sti, es_ifs, es_for, es_skip, es_seq, es_retv, turn_of, forB_of, bindT1, bindT2, bindEach, wipeE, getV, getB, start0, List.length_cons, List.length_nil, List.getElem?_cons_zero, List.getElem?_cons_succ, List.set_cons_zero, List.set_cons_succ, List.cons_append, List.nil_append, List.replicate_succ, List.replicate_zero, if_true, if_false, reduceIte, Nat.reduceAdd, Nat.reduceSub, Nat.reduceLeDiff, Bool.false_eq_true, Bool.true_eq_false, Bool.not_true, Bool.not_false, reduceCtorEq, Nat.zero_add, true_and, and_true, ei_var, ei_bv, ei_ix, ei_call, ei_bi, ei_tup, ei_lst, ei_comp, ei_rev, ei_bin, ei_rgL, ei_rgT, ei_sset, ei_sl, ei_split, ec_cmp, ec_cmp2, ec_an, ec_or, ec_nt, ec_call, ec_isi, ec_bv, ec_var, ec_bi, ec_cb, eo_ci, eo_bv, eo_var, eo_neg, eo_bin, eo_bi, eo_ix, eo_call, er_bv, er_ix, er_call, er_bi, er_tup, er_lst, er_comp, er_rev, er_bin, er_rgL, er_rgT, er_sset, er_lset, er_sl, er_split, er_join, er_cmp, er_cmp2, er_an, er_or, er_nt, er_isi, er_ci, er_cb, er_cn, er_cs, er_neg, valS_val, valS_own, retD_rt, retD_nx, boolD_b, intD_i, listD_l, tupD_t, ownS_o, items_l, items_t, isi_b, isi_i, isi_n, isi_ii, isi_tt, len_l, len_t, tu_l, tu_t, li_l, li_t, int_b, add_i, add_l, add_t, sub_i, opI_i, rev_l, rev_t, sl_l, sl_t, zip_t, zip_l, zip_tl, sq2_t, sq2_l, bi_len, bi_min, bi_max, bi_sum, bi_all, bi_any, bi_int, bi_str, bi_tuple, bi_list, bi_sorted, opB_add, opB_sub, opB_mul, opB_div, opB_mod, opC_eq, opC_ne, opC_lt, opC_le, opC_gt, opC_ge, opC_is, opC_isn, opC_isb, opC_isnb, opC_in, opC_nin, isN_n, isN_i, nI, biMin2, biMax2, opEq_nI, ixW0, ixW1, ix_e0, ix_e1, ix_e2, tup_e, decide_eq_true_eq, fd109, hm0, hm1, h1, htx, htd, opEq_W, m6, hm, rg_nI (show m ≤ 100000 by omega)]
  refine for_pre (e := nI) (fun pre env => ∃ (x : Str) (s4 : Sl), x.length ≤ bnd pre.length ∧ env = [.val (scr ns), .val (encW w), .val (.int (mix ns 1)), .val (.str x), s4, .no]) ⟨_, _, htl, rfl⟩ (fun pre k post env hx hI => ?_) (fun env hI => ?_)
  · obtain ⟨x, s4, hxl, rfl⟩ := hI
    have hpl : pre.length < m := by
      have := congrArg List.length hx
      rw [List.length_range, List.length_append, List.length_cons] at this
      omega
    have hx9 := bnd_le (k := pre.length) (by omega)
    obtain ⟨d, e1, y, rfl, hy⟩ := changed_ev 58 (x := x) (by omega) (drw (mix ns 1) k)
    have hyb : y.length ≤ bnd (pre.length + 1) := by show y.length ≤ 3 * bnd pre.length + 20; omega
    have hdr : Ph 59 3 [.int (mix ns 1), .int (k : Int)] = some (.int (drw (mix ns 1) k)) := drawn 58 (mix ns 1) k
    simp only [o1_some, o1_none, o1_map, o1_if, o1_test, ev_var, ev_bv, ev_cn, ev_cb, ev_ci, ev_cs, ev_bin, ev_neg, ev_nt, ev_cmp, ev_cmp2, ev_an, ev_or, ev_tup, ev_lst, ev_call, ev_bi, ev_isi, ev_ix, ev_sl, ev_rev, ev_rgL, ev_rgT, ev_lset, ev_sset, ev_comp, ev_join, ev_split, ea_nil, ea_cons, eo_nil, ec_nil, ei_rg, ei_zip, ei_enum, nxt_nx, nxt_rt, es_set, es_setO, es_unp, es_par, es_app, es_sti, es_ifs, es_for, es_skip, es_seq, es_retv, turn_of, forB_of, bindT1, bindT2, bindEach, wipeE, getV, getB, start0, List.length_cons, List.length_nil, List.getElem?_cons_zero, List.getElem?_cons_succ, List.set_cons_zero, List.set_cons_succ, List.cons_append, List.nil_append, List.replicate_succ, List.replicate_zero, if_true, if_false, reduceIte, Nat.reduceAdd, Nat.reduceSub, Nat.reduceLeDiff, Bool.false_eq_true, Bool.true_eq_false, Bool.not_true, Bool.not_false, reduceCtorEq, Nat.zero_add, true_and, and_true, ei_var, ei_bv, ei_ix, ei_call, ei_bi, ei_tup, ei_lst, ei_comp, ei_rev, ei_bin, ei_rgL, ei_rgT, ei_sset, ei_sl, ei_split, ec_cmp, ec_cmp2, ec_an, ec_or, ec_nt, ec_call, ec_isi, ec_bv, ec_var, ec_bi, ec_cb, eo_ci, eo_bv, eo_var, eo_neg, eo_bin, eo_bi, eo_ix, eo_call, er_bv, er_ix, er_call, er_bi, er_tup, er_lst, er_comp, er_rev, er_bin, er_rgL, er_rgT, er_sset, er_lset, er_sl, er_split, er_join, er_cmp, er_cmp2, er_an, er_or, er_nt, er_isi, er_ci, er_cb, er_cn, er_cs, er_neg, valS_val, valS_own, retD_rt, retD_nx, boolD_b, intD_i, listD_l, tupD_t, ownS_o, items_l, items_t, isi_b, isi_i, isi_n, isi_ii, isi_tt, len_l, len_t, tu_l, tu_t, li_l, li_t, int_b, add_i, add_l, add_t, sub_i, opI_i, rev_l, rev_t, sl_l, sl_t, zip_t, zip_l, zip_tl, sq2_t, sq2_l, bi_len, bi_min, bi_max, bi_sum, bi_all, bi_any, bi_int, bi_str, bi_tuple, bi_list, bi_sorted, opB_add, opB_sub, opB_mul, opB_div, opB_mod, opC_eq, opC_ne, opC_lt, opC_le, opC_gt, opC_ge, opC_is, opC_isn, opC_isb, opC_isnb, opC_in, opC_nin, isN_n, isN_i, nI, biMin2, biMax2, opEq_nI, ixW0, ixW1, ix_e0, ix_e1, ix_e2, tup_e, decide_eq_true_eq, hdr, e1]
    exact ⟨y, _, by rw [List.length_append, List.length_singleton]; exact hyb, rfl⟩
  · obtain ⟨x, s4, hxl, rfl⟩ := hI
    rw [List.length_range] at hxl
    have hx9 := bnd_le hm4
    have htd2 : Ph 59 108 [.str x] = _ := told_ev 54 (x := x) (by omega)
    cases hr : readP x with
    | none =>
      rw [hr] at htd2
      simp only [o1_some, o1_none, o1_map, o1_if, o1_test, ev_var, ev_bv, ev_cn, ev_cb, ev_ci, ev_cs, ev_bin, ev_neg, ev_nt, ev_cmp, ev_cmp2, ev_an, ev_or, ev_tup, ev_lst, ev_call, ev_bi, ev_isi, ev_ix, ev_sl, ev_rev, ev_rgL, ev_rgT, ev_lset, ev_sset, ev_comp, ev_join, ev_split, ea_nil, ea_cons, eo_nil, ec_nil, ei_rg, ei_zip, ei_enum, nxt_nx, nxt_rt, es_set, es_setO, es_unp, es_par, es_app, es_sti, es_ifs, es_for, es_skip, es_seq, es_retv, turn_of, forB_of, bindT1, bindT2, bindEach, wipeE, getV, getB, start0, List.length_cons, List.length_nil, List.getElem?_cons_zero, List.getElem?_cons_succ, List.set_cons_zero, List.set_cons_succ, List.cons_append, List.nil_append, List.replicate_succ, List.replicate_zero, if_true, if_false, reduceIte, Nat.reduceAdd, Nat.reduceSub, Nat.reduceLeDiff, Bool.false_eq_true, Bool.true_eq_false, Bool.not_true, Bool.not_false, reduceCtorEq, Nat.zero_add, true_and, and_true, ei_var, ei_bv, ei_ix, ei_call, ei_bi, ei_tup, ei_lst, ei_comp, ei_rev, ei_bin, ei_rgL, ei_rgT, ei_sset, ei_sl, ei_split, ec_cmp, ec_cmp2, ec_an, ec_or, ec_nt, ec_call, ec_isi, ec_bv, ec_var, ec_bi, ec_cb, eo_ci, eo_bv, eo_var, eo_neg, eo_bin, eo_bi, eo_ix, eo_call, er_bv, er_ix, er_call, er_bi, er_tup, er_lst, er_comp, er_rev, er_bin, er_rgL, er_rgT, er_sset, er_lset, er_sl, er_split, er_join, er_cmp, er_cmp2, er_an, er_or, er_nt, er_isi, er_ci, er_cb, er_cn, er_cs, er_neg, valS_val, valS_own, retD_rt, retD_nx, boolD_b, intD_i, listD_l, tupD_t, ownS_o, items_l, items_t, isi_b, isi_i, isi_n, isi_ii, isi_tt, len_l, len_t, tu_l, tu_t, li_l, li_t, int_b, add_i, add_l, add_t, sub_i, opI_i, rev_l, rev_t, sl_l, sl_t, zip_t, zip_l, zip_tl, sq2_t, sq2_l, bi_len, bi_min, bi_max, bi_sum, bi_all, bi_any, bi_int, bi_str, bi_tuple, bi_list, bi_sorted, opB_add, opB_sub, opB_mul, opB_div, opB_mod, opC_eq, opC_ne, opC_lt, opC_le, opC_gt, opC_ge, opC_is, opC_isn, opC_isb, opC_isnb, opC_in, opC_nin, isN_n, isN_i, nI, biMin2, biMax2, opEq_nI, ixW0, ixW1, ix_e0, ix_e1, ix_e2, tup_e, decide_eq_true_eq, htd2]
    | some v =>
      obtain ⟨_, hv, ht⟩ := readP_some hr
      rw [hr] at htd2
      have hn : isNoneD (encW v) = false := rfl
      have hq : Ph 59 8 [encW v] = some (.bool true) := by
        have := is_web 56 (x := encW v) nd_W
        rw [webD_iff.mpr hv] at this
        exact this
      have htv : Ph 59 106 [encW v] = some (.str x) := by
        rw [← ht]
        exact text_ev 58 hv
      simp only [o1_some, o1_none, o1_map, o1_if, o1_test, ev_var, ev_bv, ev_cn, ev_cb, ev_ci, ev_cs, ev_bin, ev_neg, ev_nt, ev_cmp, ev_cmp2, ev_an, ev_or, ev_tup, ev_lst, ev_call, ev_bi, ev_isi, ev_ix, ev_sl, ev_rev, ev_rgL, ev_rgT, ev_lset, ev_sset, ev_comp, ev_join, ev_split, ea_nil, ea_cons, eo_nil, ec_nil, ei_rg, ei_zip, ei_enum, nxt_nx, nxt_rt, es_set, es_setO, es_unp, es_par, es_app, es_sti, es_ifs, es_for, es_skip, es_seq, es_retv, turn_of, forB_of, bindT1, bindT2, bindEach, wipeE, getV, getB, start0, List.length_cons, List.length_nil, List.getElem?_cons_zero, List.getElem?_cons_succ, List.set_cons_zero, List.set_cons_succ, List.cons_append, List.nil_append, List.replicate_succ, List.replicate_zero, if_true, if_false, reduceIte, Nat.reduceAdd, Nat.reduceSub, Nat.reduceLeDiff, Bool.false_eq_true, Bool.true_eq_false, Bool.not_true, Bool.not_false, reduceCtorEq, Nat.zero_add, true_and, and_true, ei_var, ei_bv, ei_ix, ei_call, ei_bi, ei_tup, ei_lst, ei_comp, ei_rev, ei_bin, ei_rgL, ei_rgT, ei_sset, ei_sl, ei_split, ec_cmp, ec_cmp2, ec_an, ec_or, ec_nt, ec_call, ec_isi, ec_bv, ec_var, ec_bi, ec_cb, eo_ci, eo_bv, eo_var, eo_neg, eo_bin, eo_bi, eo_ix, eo_call, er_bv, er_ix, er_call, er_bi, er_tup, er_lst, er_comp, er_rev, er_bin, er_rgL, er_rgT, er_sset, er_lset, er_sl, er_split, er_join, er_cmp, er_cmp2, er_an, er_or, er_nt, er_isi, er_ci, er_cb, er_cn, er_cs, er_neg, valS_val, valS_own, retD_rt, retD_nx, boolD_b, intD_i, listD_l, tupD_t, ownS_o, items_l, items_t, isi_b, isi_i, isi_n, isi_ii, isi_tt, len_l, len_t, tu_l, tu_t, li_l, li_t, int_b, add_i, add_l, add_t, sub_i, opI_i, rev_l, rev_t, sl_l, sl_t, zip_t, zip_l, zip_tl, sq2_t, sq2_l, bi_len, bi_min, bi_max, bi_sum, bi_all, bi_any, bi_int, bi_str, bi_tuple, bi_list, bi_sorted, opB_add, opB_sub, opB_mul, opB_div, opB_mod, opC_eq, opC_ne, opC_lt, opC_le, opC_gt, opC_ge, opC_is, opC_isn, opC_isb, opC_isnb, opC_in, opC_nin, isN_n, isN_i, nI, biMin2, biMax2, opEq_nI, ixW0, ixW1, ix_e0, ix_e1, ix_e2, tup_e, decide_eq_true_eq, htd2, hn, opEq_W0, hq, htv, opEq_ss, decide_true]
end J

namespace J
open PySem PySem.Spec PyProof.Rows L2
def topS (i : Nat) : Stmt := PySem.Challenge.pw_joinplaces_k03_whole_read.main.body.getD i (.Pass ⟨0, 0, 0, 0⟩)
def rw : Rw := ⟨[(("is_number" : Str), (6 : Nat), ([false, false, false] : List Bool)), (("is_tie" : Str), (7 : Nat), ([false, false] : List Bool)), (("is_web" : Str), (8 : Nat), ([false] : List Bool)), (("written" : Str), (0 : Nat), ([false] : List Bool)), (("number_of" : Str), (103 : Nat), ([false] : List Bool)), (("tie_of" : Str), (104 : Nat), ([false] : List Bool)), (("read" : Str), (105 : Nat), ([false] : List Bool)), (("_law_cell_at" : Str), (1 : Nat), ([false, false] : List Bool)), (("_law_mixed" : Str), (2 : Nat), ([false, false] : List Bool)), (("_law_drawn" : Str), (3 : Nat), ([false, false] : List Bool)), (("_law_web" : Str), (4 : Nat), ([false] : List Bool)), (("_law_text" : Str), (106 : Nat), ([false] : List Bool)), (("_law_changed" : Str), (107 : Nat), ([false, false] : List Bool)), (("_law_told" : Str), (108 : Nat), ([false] : List Bool)), (("law" : Str), (109 : Nat), ([false] : List Bool))], ["ValueError", "all", "bool", "int", "isinstance", "len", "max", "min", "range", "str", "tuple"], [("MOST_PLACES", .ci 7), ("MOST_TIES", .ci 10), ("MOST_PRICE", .ci 99), ("FIGURES", .cs "0123456789")]⟩
def nm6 : List Str := ["thing", "low", "high"]
theorem sc6 : FnScope nm6 ["thing", "low", "high"] (defScope (topS 8)) := ⟨rfl, rfl, rfl, by decide +kernel, by decide +kernel, by decide +kernel, by decide +kernel⟩
theorem tr6 : blk (trS rw nm6 (trE rw nm6 40) (defScope (topS 8)) [] 40) nm6 [] (defBody (topS 8)) = some fd6.body := by kernel_rfl
def nm7 : List Str := ["thing", "many", "part"]
theorem sc7 : FnScope nm7 ["thing", "many"] (defScope (topS 9)) := ⟨rfl, rfl, rfl, by decide +kernel, by decide +kernel, by decide +kernel, by decide +kernel⟩
theorem tr7 : blk (trS rw nm7 (trE rw nm7 40) (defScope (topS 9)) [] 40) nm7 [] (defBody (topS 9)) = some fd7.body := by kernel_rfl
def nm8 : List Str := ["thing", "tie"]
theorem sc8 : FnScope nm8 ["thing"] (defScope (topS 10)) := ⟨rfl, rfl, rfl, by decide +kernel, by decide +kernel, by decide +kernel, by decide +kernel⟩
theorem tr8 : blk (trS rw nm8 (trE rw nm8 40) (defScope (topS 10)) [] 40) nm8 [] (defBody (topS 10)) = some fd8.body := by kernel_rfl
def nm0 : List Str := ["web", "ties", "one", "other", "price"]
theorem sc0 : FnScope nm0 ["web"] (defScope (topS 12)) := ⟨rfl, rfl, rfl, by decide +kernel, by decide +kernel, by decide +kernel, by decide +kernel⟩
theorem tr0 : blk (trS rw nm0 (trE rw nm0 40) (defScope (topS 12)) [] 40) nm0 [] (defBody (topS 12)) = some fd0.body := by kernel_rfl
def nm103 : List Str := ["word", "sign"]
theorem sc103 : FnScope nm103 ["word"] (defScope (topS 15)) := ⟨rfl, rfl, rfl, by decide +kernel, by decide +kernel, by decide +kernel, by decide +kernel⟩
theorem tr103 : blk (trS rw nm103 (trE rw nm103 40) (defScope (topS 15)) [] 40) nm103 [] (defBody (topS 15)) = some fd103.body := by kernel_rfl
theorem tr134 : rais0 rw nm103 (defScope (topS 15)) 40 "NoText" (defBody (topS 15)) = some fd134.body := by kernel_rfl
def nm104 : List Str := ["word", "parts", "places"]
theorem sc104 : FnScope nm104 ["word"] (defScope (topS 16)) := ⟨rfl, rfl, rfl, by decide +kernel, by decide +kernel, by decide +kernel, by decide +kernel⟩
theorem tr104 : blk (trS rw nm104 (trE rw nm104 40) (defScope (topS 16)) [] 40) nm104 [] (defBody (topS 16)) = some fd104.body := by kernel_rfl
theorem tr135 : tieChk rw "NoText" "number_of" (defScope (topS 16)) (defBody (topS 16)) = true := by kernel_rfl
def nm105 : List Str := ["text", "words", "found", "word"]
theorem sc105 : FnScope nm105 ["text"] (defScope (topS 17)) := ⟨rfl, rfl, rfl, by decide +kernel, by decide +kernel, by decide +kernel, by decide +kernel⟩
theorem tr105 : blk (trS rw nm105 (trE rw nm105 40) (defScope (topS 17)) [] 40) nm105 [] (defBody (topS 17)) = some fd105.body := by kernel_rfl
theorem tr136 : readChk rw 103 104 8 0 "NoText" "number_of" "tie_of" (defScope (topS 17)) (defBody (topS 17)) = true := by kernel_rfl
def nm1 : List Str := ["script", "k"]
theorem sc1 : FnScope nm1 ["script", "k"] (defScope (topS 19)) := ⟨rfl, rfl, rfl, by decide +kernel, by decide +kernel, by decide +kernel, by decide +kernel⟩
theorem tr1 : blk (trS rw nm1 (trE rw nm1 40) (defScope (topS 19)) [] 40) nm1 [] (defBody (topS 19)) = some fd1.body := by kernel_rfl
def nm2 : List Str := ["script", "k", "drawn"]
theorem sc2 : FnScope nm2 ["script", "k"] (defScope (topS 20)) := ⟨rfl, rfl, rfl, by decide +kernel, by decide +kernel, by decide +kernel, by decide +kernel⟩
theorem tr2 : blk (trS rw nm2 (trE rw nm2 40) (defScope (topS 20)) [] 40) nm2 [] (defBody (topS 20)) = some fd2.body := by kernel_rfl
def nm3 : List Str := ["number", "k", "drawn"]
theorem sc3 : FnScope nm3 ["number", "k"] (defScope (topS 21)) := ⟨rfl, rfl, rfl, by decide +kernel, by decide +kernel, by decide +kernel, by decide +kernel⟩
theorem tr3 : blk (trS rw nm3 (trE rw nm3 40) (defScope (topS 21)) [] 40) nm3 [] (defBody (topS 21)) = some fd3.body := by kernel_rfl
def nm4 : List Str := ["number", "many", "high", "ties", "place", "drawn", "k", "one", "other", "by"]
theorem sc4 : FnScope nm4 ["number"] (defScope (topS 22)) := ⟨rfl, rfl, rfl, by decide +kernel, by decide +kernel, by decide +kernel, by decide +kernel⟩
theorem tr4 : blk (trS rw nm4 (trE rw nm4 40) (defScope (topS 22)) [3] 40) nm4 [3] (defBody (topS 22)) = some fd4.body := by kernel_rfl
def nm106 : List Str := ["web", "due", "one", "other", "price"]
theorem sc106 : FnScope nm106 ["web"] (defScope (topS 24)) := ⟨rfl, rfl, rfl, by decide +kernel, by decide +kernel, by decide +kernel, by decide +kernel⟩
theorem tr106 : blk (trS rw nm106 (trE rw nm106 40) (defScope (topS 24)) [] 40) nm106 [] (defBody (topS 24)) = some fd106.body := by kernel_rfl
def nm107 : List Str := ["text", "number", "at", "letter", "words", "some"]
theorem sc107 : FnScope nm107 ["text", "number"] (defScope (topS 25)) := ⟨rfl, rfl, rfl, by decide +kernel, by decide +kernel, by decide +kernel, by decide +kernel⟩
theorem tr107 : blk (trS rw nm107 (trE rw nm107 40) (defScope (topS 25)) [4] 40) nm107 [4] (defBody (topS 25)) = some fd107.body := by kernel_rfl
def nm108 : List Str := ["text", "found", "e", "good"]
theorem sc108 : FnScope nm108 ["text"] (defScope (topS 26)) := ⟨rfl, rfl, rfl, by decide +kernel, by decide +kernel, by decide +kernel, by decide +kernel⟩
theorem tr108 : toldChk rw 105 ieTold "read" "NoText" "JoinError" "NoWay" (defScope (topS 26)) (defBody (topS 26)) = true := by kernel_rfl
def nm109 : List Str := ["script", "web", "number", "text", "k", "found"]
theorem sc109 : FnScope nm109 ["script"] (defScope (topS 27)) := ⟨rfl, rfl, rfl, by decide +kernel, by decide +kernel, by decide +kernel, by decide +kernel⟩
theorem tr109 : blk (trS rw nm109 (trE rw nm109 40) (defScope (topS 27)) [] 40) nm109 [] (defBody (topS 27)) = some fd109.body := by kernel_rfl
def dd (x : Str) (i : Nat) : He.DefD := ⟨(x, none), x, x, defArgs (topS i), defBody (topS i), defScope (topS i), [], []⟩
def fn : List He.DefD := [dd "is_number" 8, dd "is_tie" 9, dd "is_web" 10, dd "written" 12, dd "number_of" 15, dd "tie_of" 16, dd "read" 17, dd "_law_cell_at" 19, dd "_law_mixed" 20, dd "_law_drawn" 21, dd "_law_web" 22, dd "_law_text" 24, dd "_law_changed" 25, dd "_law_told" 26, dd "law" 27]
def fa : List He.Fa := [.glo "is_number", .glo "is_tie", .glo "is_web", .glo "written", .glo "number_of", .glo "tie_of", .glo "read", .glo "_law_cell_at", .glo "_law_mixed", .glo "_law_drawn", .glo "_law_web", .glo "_law_text", .glo "_law_changed", .glo "_law_told", .glo "law", .free "ValueError", .free "all", .free "bool", .free "int", .free "isinstance", .free "len", .free "max", .free "min", .free "range", .free "str", .free "tuple", .int "MOST_PLACES" 7, .int "MOST_TIES" 10, .int "MOST_PRICE" 99, .str "FIGURES" "0123456789", .glo "NoText", .glo "JoinError", .glo "NoWay"]
abbrev Rr : PySem.W.OpenRow := PySem.W.OpenLaw.row PySem.Challenge.rw_joinplaces_k03_whole_read
def exc (K : PySem.W.Frag) : Bool := exOne K "NoText" && ((tabP K).isEmpty && (exIs K "NoText" "JoinError" "NoWay" && decide (PySem.W.exmOne K (.ref (He.ga K "NoText")) (.ref (He.ga K "NoText")) = some true)))
abbrev hk : PySem.W.Hook := hookX 4 fa fn exc
def ob (s : PySem.W.SharedT) : He.AlD × Bool := obsX 4 fa fn exc (HandSHeadRun.getT s)
theorem ob_eq (s : PySem.W.SharedT) : ob s = hk.obs s.abs := obsX_eq (HandSHeadRun.getT_eq s)
def loose : List Str := (["JoinError", "NoText", "NoWay", "MOST_PLACES", "MOST_TIES", "MOST_PRICE", "is_number", "is_tie", "is_web", "written", "FIGURES", "number_of", "tie_of", "read", "_law_cell_at", "_law_mixed", "_law_drawn", "_law_web", "_law_ends", "_law_text", "_law_changed", "_law_told"] : List Str)
theorem run (w : World) : HandSHeadRun.RunEq Rr (PySem.W.view Rr.prog [27]) hk ob 6000 loose w := by
  intro os
  kernel_rfl
theorem facts {P : Program} {w : World} {K : PySem.W.Frag} {h : Heap} {mg : Str → Option Value} {f : Addr} (hlaw : ∀ ns : List Int, ns.length ≤ 63 → Phi tab ext 60 109 [scr ns] = some (.bool true)) (X : K.In h) (G : h.Ns mainGlobals mg) (hfa : mg ("law" : Str) = some (.ref f)) (c : He.SaysD fa fn K) (cx : exc K = true) :
    ∃ (fd : FuncData) (sp : Sp), (∀ (s : Shared) (v : Value), BindsTo s fd ⟨[v], []⟩ [("script", v)]) ∧ (∀ (H : Hp) (a : Addr) (ns : List Int), ns.length ≤ 63 → TabOk K H → SqL K H a (ns.map V.int) → sp [.ref a] H (fun v _ => v = .bl true) fun _ _ _ => False) ∧ ∀ base : Heap, K.In base → base.Ns mainGlobals mg → FnOk P w K mg base CX0 60 f fd ["script"] sp := by
  obtain ⟨g6, F6⟩ := c.def_ 0 (d := dd "is_number" 8) rfl
  have m6 : mg "is_number" = some (.ref (He.ga K "is_number")) := He.glo_ok X G (c.fact 0 (f := .glo "is_number") rfl)
  have b6 : Binds K g6 ["thing", "low", "high"] [] := FunD.bindsN F6 fun _ _ _ _ _ _ us hl => match us, hl with | [_, _, _], _ => rfl
  obtain ⟨g7, F7⟩ := c.def_ 1 (d := dd "is_tie" 9) rfl
  have m7 : mg "is_tie" = some (.ref (He.ga K "is_tie")) := He.glo_ok X G (c.fact 1 (f := .glo "is_tie") rfl)
  have b7 : Binds K g7 ["thing", "many"] [] := FunD.bindsN F7 fun _ _ _ _ _ _ us hl => match us, hl with | [_, _], _ => rfl
  obtain ⟨g8, F8⟩ := c.def_ 2 (d := dd "is_web" 10) rfl
  have m8 : mg "is_web" = some (.ref (He.ga K "is_web")) := He.glo_ok X G (c.fact 2 (f := .glo "is_web") rfl)
  have b8 : Binds K g8 ["thing"] [] := FunD.bindsN F8 fun _ _ _ _ _ _ us hl => match us, hl with | [_], _ => rfl
  obtain ⟨g0, F0⟩ := c.def_ 3 (d := dd "written" 12) rfl
  have m0 : mg "written" = some (.ref (He.ga K "written")) := He.glo_ok X G (c.fact 3 (f := .glo "written") rfl)
  have b0 : Binds K g0 ["web"] [] := FunD.bindsN F0 fun _ _ _ _ _ _ us hl => match us, hl with | [_], _ => rfl
  obtain ⟨g103, F103⟩ := c.def_ 4 (d := dd "number_of" 15) rfl
  have m103 : mg "number_of" = some (.ref (He.ga K "number_of")) := He.glo_ok X G (c.fact 4 (f := .glo "number_of") rfl)
  have b103 : Binds K g103 ["word"] [] := FunD.bindsN F103 fun _ _ _ _ _ _ us hl => match us, hl with | [_], _ => rfl
  obtain ⟨g104, F104⟩ := c.def_ 5 (d := dd "tie_of" 16) rfl
  have m104 : mg "tie_of" = some (.ref (He.ga K "tie_of")) := He.glo_ok X G (c.fact 5 (f := .glo "tie_of") rfl)
  have b104 : Binds K g104 ["word"] [] := FunD.bindsN F104 fun _ _ _ _ _ _ us hl => match us, hl with | [_], _ => rfl
  obtain ⟨g105, F105⟩ := c.def_ 6 (d := dd "read" 17) rfl
  have m105 : mg "read" = some (.ref (He.ga K "read")) := He.glo_ok X G (c.fact 6 (f := .glo "read") rfl)
  have b105 : Binds K g105 ["text"] [] := FunD.bindsN F105 fun _ _ _ _ _ _ us hl => match us, hl with | [_], _ => rfl
  obtain ⟨g1, F1⟩ := c.def_ 7 (d := dd "_law_cell_at" 19) rfl
  have m1 : mg "_law_cell_at" = some (.ref (He.ga K "_law_cell_at")) := He.glo_ok X G (c.fact 7 (f := .glo "_law_cell_at") rfl)
  have b1 : Binds K g1 ["script", "k"] [] := FunD.bindsN F1 fun _ _ _ _ _ _ us hl => match us, hl with | [_, _], _ => rfl
  obtain ⟨g2, F2⟩ := c.def_ 8 (d := dd "_law_mixed" 20) rfl
  have m2 : mg "_law_mixed" = some (.ref (He.ga K "_law_mixed")) := He.glo_ok X G (c.fact 8 (f := .glo "_law_mixed") rfl)
  have b2 : Binds K g2 ["script", "k"] [] := FunD.bindsN F2 fun _ _ _ _ _ _ us hl => match us, hl with | [_, _], _ => rfl
  obtain ⟨g3, F3⟩ := c.def_ 9 (d := dd "_law_drawn" 21) rfl
  have m3 : mg "_law_drawn" = some (.ref (He.ga K "_law_drawn")) := He.glo_ok X G (c.fact 9 (f := .glo "_law_drawn") rfl)
  have b3 : Binds K g3 ["number", "k"] [] := FunD.bindsN F3 fun _ _ _ _ _ _ us hl => match us, hl with | [_, _], _ => rfl
  obtain ⟨g4, F4⟩ := c.def_ 10 (d := dd "_law_web" 22) rfl
  have m4 : mg "_law_web" = some (.ref (He.ga K "_law_web")) := He.glo_ok X G (c.fact 10 (f := .glo "_law_web") rfl)
  have b4 : Binds K g4 ["number"] [] := FunD.bindsN F4 fun _ _ _ _ _ _ us hl => match us, hl with | [_], _ => rfl
  obtain ⟨g106, F106⟩ := c.def_ 11 (d := dd "_law_text" 24) rfl
  have m106 : mg "_law_text" = some (.ref (He.ga K "_law_text")) := He.glo_ok X G (c.fact 11 (f := .glo "_law_text") rfl)
  have b106 : Binds K g106 ["web"] [] := FunD.bindsN F106 fun _ _ _ _ _ _ us hl => match us, hl with | [_], _ => rfl
  obtain ⟨g107, F107⟩ := c.def_ 12 (d := dd "_law_changed" 25) rfl
  have m107 : mg "_law_changed" = some (.ref (He.ga K "_law_changed")) := He.glo_ok X G (c.fact 12 (f := .glo "_law_changed") rfl)
  have b107 : Binds K g107 ["text", "number"] [] := FunD.bindsN F107 fun _ _ _ _ _ _ us hl => match us, hl with | [_, _], _ => rfl
  obtain ⟨g108, F108⟩ := c.def_ 13 (d := dd "_law_told" 26) rfl
  have m108 : mg "_law_told" = some (.ref (He.ga K "_law_told")) := He.glo_ok X G (c.fact 13 (f := .glo "_law_told") rfl)
  have b108 : Binds K g108 ["text"] [] := FunD.bindsN F108 fun _ _ _ _ _ _ us hl => match us, hl with | [_], _ => rfl
  obtain ⟨g109, F109⟩ := c.def_ 14 (d := dd "law" 27) rfl
  have m109 : mg "law" = some (.ref (He.ga K "law")) := He.glo_ok X G (c.fact 14 (f := .glo "law") rfl)
  have b109 : Binds K g109 ["script"] [] := FunD.bindsN F109 fun _ _ _ _ _ _ us hl => match us, hl with | [_], _ => rfl
  have hfr : ∀ x ∈ rw.frs, mg x = none := by
    intro x hx
    simp only [rw, List.mem_cons, List.not_mem_nil, or_false] at hx
    rcases hx with rfl | rfl | rfl | rfl | rfl | rfl | rfl | rfl | rfl | rfl | rfl
    · exact He.free_ok X G (c.fact 15 (f := .free "ValueError") rfl)
    · exact He.free_ok X G (c.fact 16 (f := .free "all") rfl)
    · exact He.free_ok X G (c.fact 17 (f := .free "bool") rfl)
    · exact He.free_ok X G (c.fact 18 (f := .free "int") rfl)
    · exact He.free_ok X G (c.fact 19 (f := .free "isinstance") rfl)
    · exact He.free_ok X G (c.fact 20 (f := .free "len") rfl)
    · exact He.free_ok X G (c.fact 21 (f := .free "max") rfl)
    · exact He.free_ok X G (c.fact 22 (f := .free "min") rfl)
    · exact He.free_ok X G (c.fact 23 (f := .free "range") rfl)
    · exact He.free_ok X G (c.fact 24 (f := .free "str") rfl)
    · exact He.free_ok X G (c.fact 25 (f := .free "tuple") rfl)
  have hcs : ∀ p ∈ rw.cst, ∃ v u d, mg p.1 = some u ∧ L2.RelV v u ∧ (∀ H, Dr K H v d) ∧ ∀ Φ env, evE Φ p.2 env = some d := by
    intro p hp
    simp only [rw, List.mem_cons, List.not_mem_nil, or_false] at hp
    rcases hp with rfl | rfl | rfl | rfl
    · obtain ⟨t, ht⟩ := He.int_ok X G (c.fact 26 (f := .int "MOST_PLACES" 7) rfl)
      exact ⟨.int 7, _, .int 7, ht, ⟨t, rfl⟩, fun H => .int _, fun Φ env => by simp only [evE]⟩
    · obtain ⟨t, ht⟩ := He.int_ok X G (c.fact 27 (f := .int "MOST_TIES" 10) rfl)
      exact ⟨.int 10, _, .int 10, ht, ⟨t, rfl⟩, fun H => .int _, fun Φ env => by simp only [evE]⟩
    · obtain ⟨t, ht⟩ := He.int_ok X G (c.fact 28 (f := .int "MOST_PRICE" 99) rfl)
      exact ⟨.int 99, _, .int 99, ht, ⟨t, rfl⟩, fun H => .int _, fun Φ env => by simp only [evE]⟩
    · obtain ⟨t, ht⟩ := He.str_ok X G (c.fact 29 (f := .str "FIGURES" "0123456789") rfl)
      exact ⟨.str "0123456789", _, .str "0123456789", ht, ⟨t, rfl⟩, fun H => .str _, fun Φ env => by simp only [evE]⟩
  have e := hfa.symm.trans m109
  cases e
  refine ⟨g109, spF K [false] (Phi tab ext 60 109), fun s v => FunD.bindsA (ps := ["script"]) F109 (fun _ _ _ _ _ _ us hl => match us, hl with | [_], _ => rfl) s [v] rfl, fun H a ns hl hT hS => law_sp (hlaw ns hl) hS hT, fun base hb hg => ?_⟩
  have mc0 : mg "NoText" = some (.ref (He.ga K "NoText")) := He.glo_ok X G (c.fact 30 (f := .glo "NoText") rfl)
  have mc1 : mg "JoinError" = some (.ref (He.ga K "JoinError")) := He.glo_ok X G (c.fact 31 (f := .glo "JoinError") rfl)
  have mc2 : mg "NoWay" = some (.ref (He.ga K "NoWay")) := He.glo_ok X G (c.fact 32 (f := .glo "NoWay") rfl)
  have cx2 := Bool.and_eq_true_iff.mp cx
  have cx3 := Bool.and_eq_true_iff.mp (Bool.and_eq_true_iff.mp cx2.2).2
  have XF := exF_of (mg := mg) cx2.1 mc0
  have XI := exI_of (mg := mg) cx2.1 cx3.1 mc1 mc2
  have hx : ∀ p ∈ [(("number_of" : Str), (134 : Nat), ([false] : List Bool)), (("tie_of" : Str), (135 : Nat), ([false] : List Bool)), (("read" : Str), (136 : Nat), ([false] : List Bool))], DefXE P w K mg base rw [(("number_of" : Str), (134 : Nat), ([false] : List Bool)), (("tie_of" : Str), (135 : Nat), ([false] : List Bool)), (("read" : Str), (136 : Nat), ([false] : List Bool))] (He.ga K "NoText") tab ext p := by
    intro p hp
    simp only [List.mem_cons, List.not_mem_nil, or_false] at hp
    rcases hp with rfl | rfl | rfl
    · exact num_def F103 m103 b103 sc103 rfl tr134 XF rfl rfl
    · exact tie_def (kn := 103) (kx := 134) F104 m104 b104 sc104 rfl (fun _ => rfl) tr135 XF (by simp [rw]) (by simp)
    · exact read_def (kn := 103) (nx := 134) (kt := 104) (tx := 135) F105 m105 b105 sc105 rfl (fun _ => rfl) tr136 XF (by simp [rw]) (by simp) (by simp [rw]) (by simp)
  have hd : ∀ p ∈ rw.fns, DefOkE P w K mg base rw (ExX P w K mg base [(("number_of" : Str), (134 : Nat), ([false] : List Bool)), (("tie_of" : Str), (135 : Nat), ([false] : List Bool)), (("read" : Str), (136 : Nat), ([false] : List Bool))] (He.ga K "NoText")) tab ext p := by
    intro p hp
    simp only [rw, List.mem_cons, List.not_mem_nil, or_false] at hp
    rcases hp with rfl | rfl | rfl | rfl | rfl | rfl | rfl | rfl | rfl | rfl | rfl | rfl | rfl | rfl | rfl
    · exact DefOk.e (def_ok F6 m6 b6 sc6 rfl tr6 rfl rfl)
    · exact DefOk.e (def_ok F7 m7 b7 sc7 rfl tr7 rfl rfl)
    · exact DefOk.e (def_ok F8 m8 b8 sc8 rfl tr8 rfl rfl)
    · exact DefOk.e (def_ok F0 m0 b0 sc0 rfl tr0 rfl rfl)
    · exact DefOk.e (def_ok F103 m103 b103 sc103 rfl tr103 rfl rfl)
    · exact DefOk.e (def_ok F104 m104 b104 sc104 rfl tr104 rfl rfl)
    · exact DefOk.e (def_ok F105 m105 b105 sc105 rfl tr105 rfl rfl)
    · exact DefOk.e (def_ok F1 m1 b1 sc1 rfl tr1 rfl rfl)
    · exact DefOk.e (def_ok F2 m2 b2 sc2 rfl tr2 rfl rfl)
    · exact DefOk.e (def_ok F3 m3 b3 sc3 rfl tr3 rfl rfl)
    · exact DefOk.e (def_ok F4 m4 b4 sc4 rfl tr4 rfl rfl)
    · exact DefOk.e (def_ok F106 m106 b106 sc106 rfl tr106 rfl rfl)
    · exact DefOk.e (def_ok F107 m107 b107 sc107 rfl tr107 rfl rfl)
    · exact told_def (rx := 136) F108 m108 b108 sc108 rfl (fun _ => rfl) tr108 (by simp) mc0 (of_decide_eq_true cx3.2) XI (hfr "ValueError" (by simp [rw])) (hfr "isinstance" (by simp [rw])) (hfr "int" (by simp [rw]))
    · exact DefOk.e (def_ok F109 m109 b109 sc109 rfl tr109 rfl rfl)
  exact (def_level (level := 59) F109 m109 b109 sc109 rfl tr109 rfl rfl ((all_okE hd hfr hcs (exXE_all hx).1 (exXE_all hx).2 59).1 59 (Nat.le_refl _)))
end J
open PySem PySem.W PySem.Calls PyProof.Rows
set_option maxHeartbeats 0 in
theorem PySem.Challenge.cw_joinplaces_k03_whole_read_holds : PySem.Challenge.rw_joinplaces_k03_whole_read.Holds := by
  w_on; o_law
  refine HandSHeadRun.head_any (r := OpenLaw.row PySem.Challenge.rw_joinplaces_k03_whole_read) (q := view (OpenLaw.row PySem.Challenge.rw_joinplaces_k03_whole_read).prog [27]) (H := J.hk) (ob := J.ob) (M := 6000) (loose := J.loose) (d := HandSHeadRun.topDef (OpenLaw.row PySem.Challenge.rw_joinplaces_k03_whole_read).prog 27) (kwd := []) J.ob_eq
    (by kernel_rfl) (fun s => by kernel_rfl) J.run (by kernel_rfl) (by kernel_rfl) (by kernel_rfl) (by rfl) (by first | assumption | decide +kernel) (by decide +kernel) ⟨rfl, rfl, rfl, rfl, rfl, by decide +kernel⟩ ?hw ?hc
  case hw => w_witness2
  case hc =>
    refine L2.walk_ofE (l := PySem.Challenge.rw_joinplaces_k03_whole_read) (n := 63) (k := 60) (x := "script") (CX := L2.CX0) rfl (by decide) (by kernel_rfl) ⟨rfl, by decide, by decide⟩ ?F (fun _ _ _ _ z => z)
    intro w mg fa h Y G hmg0
    obtain ⟨K, KX, c, cx⟩ := Y
    have hmg : mg ("law" : PySem.Str) = some (.ref fa) := by
      have e : (HandSHeadRun.topDef (OpenLaw.row PySem.Challenge.rw_joinplaces_k03_whole_read).prog 27).name = ("law" : PySem.Str) := by kernel_rfl
      rw [← e]
      exact hmg0
    obtain ⟨fd, sp, hb, hs, hF⟩ := J.facts (P := (PySem.Challenge.rw_joinplaces_k03_whole_read).prog) (w := w) J.law_true KX G hmg c cx
    exact ⟨K, fd, sp, KX, hb, fun H a ns hl _ hS => hs H a ns hl (J.tab0 (Bool.and_eq_true_iff.mp (Bool.and_eq_true_iff.mp cx).2).1) hS, hF⟩
